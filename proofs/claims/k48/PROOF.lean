import PyProof.Rows.All
import Wide.All
import OpenK.AllK
import Wide.FinOn
import HandS.ForMost
import HandS.Exc
import HandS.TryOnly
import HandS.ExcOwn
import HandS.ExcIs
import HandS.ExcValue
import HandS.WordsExc
import HandS.Lambda
import HandS.IsInst
import KE.KeyNested
import HandS.Evl
import HandS.Wide
import HandS.Deep
import HandS.Star
import HandS.RaiseMore
import HandS.Defaults
import HandS.Conv
import HandS.HeadHook4
import HandS.HeadWalk
import HandS.NestedK
import HandS.Steps
import HandS.TupLe
import HandS.Style
import HandS.TupSets
import HandS.SetFor
import HandS.Strs
import PyProof.FactsAll.dict
import HandS.SetKeys
import KE.SortCalls
import PyProof.DictRoadsH
import PyProof.Rows.TupTab
import KE.KDictPairs
import PyProof.DictTable
import HandS.Iter
import HandS.ExcInit
import HandS.Nested
import HandS.Set
import KE.KExcSuper
import KE.KExcIs
import HandS.ExcField
import HandS.TupAny
import HandS.TupMul
import HandS.SortInts
import KE.GoesEnum
import HandS.Text
import HandS.Head0
import HandS.Head1
import HandS.Head2
import HandS.HeadEnd
import HandS.HeadHook1
import HandS.HeadHook2
import KE.KStateDown
import KE.GoesZip
import KE.GoesMore
import HandS.Zip
import HandS.Rev
import KE.KDictZip
import PyProof.EnumFor
import KE.DataMinMax
import HandS.TryMany
import PySem.Challenge.RW_housekept_k48_lifts_step_by_step
set_option Elab.async false
set_option linter.all false
set_option maxRecDepth 100000
set_option maxHeartbeats 8000000
namespace Mk
open PySem PySem.Spec PyProof.Rows L2
def toV : Value → V
  | .none => .non
  | .bool b => .bl b
  | .int i _ => .int i
  | .str s _ => .str s
  | .ref a => .ref a
  | _ => .non
def datB (K : PySem.W.Frag) : Nat → V → PyData → Bool
  | 0, _, _ => false
  | n + 1, v, d => match v, d with
    | .non, .none => true
    | .bl b, .bool c => b == c
    | .int i, .int j => decide (i = j)
    | .str s, .str t => decide (s = t)
    | .ref a, .tuple ds => (match K.lookup a with
      | some ⟨.type c, _, .seq its _, _⟩ => decide (c = "tuple") && (decide (its.size ≤ sizeLine) && (He.relAll (its.toList.map toV) its.toList && (decide (its.toList.length = ds.length) && ((its.toList.map toV).zip ds).all fun p => datB K n p.1 p.2)))
      | _ => false)
    | _, _ => false
def exmX (K : PySem.W.Frag) (x y : Str) (b : Bool) : Bool := decide (PySem.W.exmOne K (.ref (He.ga K x)) (.ref (He.ga K y)) = some b)
end Mk
namespace K48
open PySem PySem.Spec PyProof.Rows L2 Mk
def top (i : Nat) : Stmt := PySem.Challenge.pw_housekept_k48_lifts_step_by_step.main.body.getD i (.Pass ⟨0, 0, 0, 0⟩)
abbrev s__law_begun : Stmt := top 39
abbrev s__law_called : Stmt := top 46
abbrev s__law_word : Stmt := top 44
abbrev s__law_tick : Stmt := top 45
abbrev s__law_lift_walk : Stmt := top 47
abbrev s_is_whole : Stmt := top 9
abbrev s_is_rule : Stmt := top 16
abbrev s_need_lift : Stmt := top 17
abbrev s_lift_signals : Stmt := top 25
abbrev s_web_walked : Stmt := top 28
abbrev s_with_call : Stmt := top 21
abbrev s_word_for : Stmt := top 20
abbrev s_worked_off : Stmt := top 22
abbrev s_behind_signal : Stmt := top 23
abbrev s_walked : Stmt := top 26
abbrev s_lift_web : Stmt := top 29
abbrev s_collective : Stmt := top 30
abbrev s_one_way : Stmt := top 31
abbrev s__law_mixed : Stmt := top 40
abbrev s__law_draw : Stmt := top 41
abbrev s__law_pick : Stmt := top 42
abbrev s__law_sheet : Stmt := top 43
abbrev s__law_any_now : Stmt := top 49
abbrev s_is_lift_standing : Stmt := top 18
abbrev s_is_lift_signal : Stmt := top 19
abbrev s_lift_step : Stmt := top 24
abbrev s_lift_standings : Stmt := top 27
abbrev s__law_refusal : Stmt := top 50
abbrev s__law_refusals_right : Stmt := top 51
abbrev s__law_lift_web : Stmt := top 48
abbrev s_is_name : Stmt := top 10
abbrev s_is_post : Stmt := top 35
abbrev s_is_label : Stmt := top 34
abbrev s_is_move : Stmt := top 36
abbrev s_is_web : Stmt := top 37
abbrev s__law_row_right : Stmt := top 52
abbrev s_law : Stmt := top 53
abbrev k_LETTERS : PyData := .str "abcdefghijklmnopqrstuvwxyz"
abbrev k_MOST_FLOORS : PyData := .int 8
abbrev k_MOST_PLACES : PyData := .int 20000
abbrev k_MOST_STAY : PyData := .int 6
abbrev k_TICK : PyData := .tuple [(.str "tick")]
abbrev k_WORDS : PyData := .tuple [(.str "go"), (.str "open"), (.str "rest"), (.str "turn")]
def dd (x : Str) (st : Stmt) : He.DefD := ⟨(x, none), x, x, defArgs st, defBody st, defScope st, [], []⟩
def fnL : List He.DefD := [dd "_law_begun" s__law_begun, dd "_law_called" s__law_called, dd "_law_word" s__law_word, dd "_law_tick" s__law_tick, dd "_law_lift_walk" s__law_lift_walk, dd "is_whole" s_is_whole, dd "is_rule" s_is_rule, dd "need_lift" s_need_lift, dd "lift_signals" s_lift_signals, dd "web_walked" s_web_walked, dd "with_call" s_with_call, dd "word_for" s_word_for, dd "worked_off" s_worked_off, dd "behind_signal" s_behind_signal, dd "walked" s_walked, dd "lift_web" s_lift_web, dd "collective" s_collective, dd "one_way" s_one_way, dd "_law_mixed" s__law_mixed, dd "_law_draw" s__law_draw, dd "_law_pick" s__law_pick, dd "_law_sheet" s__law_sheet, dd "_law_any_now" s__law_any_now, dd "is_lift_standing" s_is_lift_standing, dd "is_lift_signal" s_is_lift_signal, dd "lift_step" s_lift_step, dd "lift_standings" s_lift_standings, dd "_law_refusal" s__law_refusal, dd "_law_refusals_right" s__law_refusals_right, dd "_law_lift_web" s__law_lift_web, dd "is_name" s_is_name, dd "is_post" s_is_post, dd "is_label" s_is_label, dd "is_move" s_is_move, dd "is_web" s_is_web, dd "_law_row_right" s__law_row_right, dd "law" s_law]
def faL : List He.Fa := [.glo "_law_begun", .glo "_law_called", .glo "_law_word", .glo "_law_tick", .glo "_law_lift_walk", .glo "is_whole", .glo "is_rule", .glo "need_lift", .glo "lift_signals", .glo "web_walked", .glo "with_call", .glo "word_for", .glo "worked_off", .glo "behind_signal", .glo "walked", .glo "lift_web", .glo "collective", .glo "one_way", .glo "_law_mixed", .glo "_law_draw", .glo "_law_pick", .glo "_law_sheet", .glo "_law_any_now", .glo "is_lift_standing", .glo "is_lift_signal", .glo "lift_step", .glo "lift_standings", .glo "_law_refusal", .glo "_law_refusals_right", .glo "_law_lift_web", .glo "is_name", .glo "is_post", .glo "is_label", .glo "is_move", .glo "is_web", .glo "_law_row_right", .glo "law", .glo "KeptError", .glo "BadFloors", .glo "BadRule", .glo "BadSignal", .glo "BadStanding", .glo "BadStay", .str "LETTERS" "abcdefghijklmnopqrstuvwxyz", .int "MOST_FLOORS" 8, .int "MOST_PLACES" 20000, .int "MOST_STAY" 6, .glo "TICK", .glo "WORDS", .free "abs", .free "all", .free "any", .free "bool", .free "dict", .free "int", .free "isinstance", .free "len", .free "list", .free "max", .free "min", .free "range", .free "set", .free "sorted", .free "str", .free "tuple", .free "zip", .exc "BadFloors", .exc "BadRule", .exc "BadSignal", .exc "BadStanding", .exc "BadStay"]
def tfL : List He.Defn := [("_law_refusals_right", none)]
def tT (K : PySem.W.Frag) : List (Addr × Str) := [(He.tabOf K (He.codeOf K ("_law_refusals_right", none)), "_law_refusals_right.<locals>.<lambda>")]
def exL (K : PySem.W.Frag) : Bool := exmX K "BadFloors" "BadFloors" true && (exmX K "BadFloors" "BadStay" false && (exmX K "BadFloors" "BadRule" false && (exmX K "BadFloors" "BadStanding" false && (exmX K "BadFloors" "BadSignal" false && (exmX K "BadFloors" "KeptError" true && (exmX K "BadRule" "BadFloors" false && (exmX K "BadRule" "BadStay" false && (exmX K "BadRule" "BadRule" true && (exmX K "BadRule" "BadStanding" false && (exmX K "BadRule" "BadSignal" false && (exmX K "BadRule" "KeptError" true && (exmX K "BadSignal" "BadFloors" false && (exmX K "BadSignal" "BadStay" false && (exmX K "BadSignal" "BadRule" false && (exmX K "BadSignal" "BadStanding" false && (exmX K "BadSignal" "BadSignal" true && (exmX K "BadSignal" "KeptError" true && (exmX K "BadStanding" "BadFloors" false && (exmX K "BadStanding" "BadStay" false && (exmX K "BadStanding" "BadRule" false && (exmX K "BadStanding" "BadStanding" true && (exmX K "BadStanding" "BadSignal" false && (exmX K "BadStanding" "KeptError" true && (exmX K "BadStay" "BadFloors" false && (exmX K "BadStay" "BadStay" true && (exmX K "BadStay" "BadRule" false && (exmX K "BadStay" "BadStanding" false && (exmX K "BadStay" "BadSignal" false && (exmX K "BadStay" "KeptError" true && (datB K 9 (.ref (He.ga K "TICK")) k_TICK && (datB K 9 (.ref (He.ga K "WORDS")) k_WORDS && (decide (((tT K).map (·.1)).Nodup)))))))))))))))))))))))))))))))))
abbrev Lw : PySem.W.OpenLaw := PySem.Challenge.rw_housekept_k48_lifts_step_by_step
abbrev Rw : PySem.W.OpenRow := PySem.W.OpenLaw.row Lw
abbrev hkL : PySem.W.Hook := He.hookX 5 faL fnL [] tfL exL
def obL (s : PySem.W.SharedT) : He.AlX := He.obsX 5 faL fnL [] tfL exL (HandSHeadRun.getT s)
theorem obL_eq (s : PySem.W.SharedT) : obL s = hkL.obs s.abs := He.obsX_eq (HandSHeadRun.getT_eq s)
def looseL : List Str := (["KeptError", "BadFloors", "BadRule", "BadSignal", "BadStanding", "BadStay", "LETTERS", "is_whole", "is_name", "MOST_FLOORS", "MOST_STAY", "WORDS"] : List Str) ++ (["TICK", "is_rule", "need_lift", "is_lift_standing", "is_lift_signal", "word_for", "with_call", "worked_off", "behind_signal", "lift_step", "lift_signals", "walked"] : List Str) ++ (["lift_standings", "web_walked", "lift_web", "collective", "one_way", "MOST_PLACES", "is_label", "is_post", "is_move", "is_web", "_law_begun", "_law_mixed"] : List Str) ++ (["_law_draw", "_law_pick", "_law_sheet", "_law_word", "_law_tick", "_law_called", "_law_lift_walk", "_law_lift_web", "_law_any_now", "_law_refusal", "_law_refusals_right", "_law_row_right"] : List Str)
theorem run (w : World) : HandSHeadRun.RunEq Rw (PySem.W.view Rw.prog [53]) hkL obL 4000 looseL w := by
  intro os
  kernel_rfl
end K48

/-! part LkExc -/
/-! Lk, part 1: what the laws' texts want beyond the hand layer: calls by keywords alone, an exception caught and kept, isinstance of it, a def that calls a lambda and hands back what it raised. -/
namespace Lk
open PySem PySem.Spec PyProof.Rows L2
section
variable {X : Cx} {CX : CXT} {k : Nat} {f : Addr} {fd : FuncData} {ps ks : List Str} {sp : Sp} {E : XK} {x : Str} {p pos : Pos} {kws : List Keyword} {tk : TA}
  {g : List Value → List Value → List Value} {gV : List V → List V → List V}
/-- f(k = v, ..), nothing by position -/
theorem pe_kwOnly (F : FnOk X.prog X.w X.K X.mg X.base CX k f fd ps sp) (hr : Room k X.A) (hg : Gl X x) (hm : X.mg x = some (.ref f)) (hk : PySem.W.keepIn X.K (.ref f) = true)
    (hb : KBinds X.K fd ps ks g gV) (hx : Passes CX X E) (hkw : PK X kws tk)
    (hall : (backToKw pos (keywordEach kws X.env)).all (·.1.isSome) = true := by rfl)
    (hks : (backToKw pos (keywordEach kws X.env)).filterMap (·.1) = ks := by rfl)
    (hdb : (x == ("__debug__" : Str)) = false := by decide)
    (hpl : ((backTo pos (starEach [] X.env)).any (·.1) || (backToKw pos (keywordEach kws X.env)).any (·.1.isNone)) = false := by rfl) :
    PE X (.Call (.Name x p) [] kws pos) (tCallK sp gV E tNil tk) := by
  constructor
  intro pins s σ H Q I h
  apply wpAny_Call_Name_kw
  apply ld_glob I hg hm _ hdb
  apply PySem.W.callWith_KW0 (h₀ := X.base) I.ok.mod.kin hk hall _ hpl
  apply thn (hkw.run pos pins s σ H _ I h)
  rintro ws s2 ⟨zs, H2, I2, rz, q2⟩
  constructor
  · exact I2.kIn
  · rw [hks]
    exact run_fnk (us := []) (vs := []) F hr hb hx I2 .nil rz q2
end
/-- an exception that was caught, its class, its own dict -/
def ExV (cls : Value) (d : Option Addr) (a : Addr) : HO :=
  .ext fun h => ∃ (oe : Obj) (vs : Array Value), h.get? a = some oe ∧ Zc cls d oe ∧ oe.data = .fields vs
section
variable {X : Cx} {pins : List (Addr × Obj)} {σ : L2.St} {H : Hp} {s : Shared}
end
section
variable {X : Cx} {x n y : Str} {c : Value} {i j : Nat} {body : List Stmt} {np pos pos' yp vp sp : Pos} {tb : WX → TS} {Wout : WX}
end
end Lk

/-! part LkCaught -/
namespace Lk
open PySem PySem.Spec PyProof.Rows L2 LamX
section
variable {X : Cx}
end
end Lk

/-! part LkNd0 -/
/-! Lk: dicts whose keys are nested tuples of numbers and None, as objects. -/
namespace Lk
open PySem PySem.Spec PyProof.Rows L2 Evl
mutual
def noText : NestedKey → Bool
  | .none => true
  | .num _ => true
  | .text _ => false
  | .tup ks => noTexts ks
def noTexts : List NestedKey → Bool
  | [] => true
  | k :: ks => noText k && noTexts ks
end
mutual
theorem hash_same (w w' : World) : ∀ k : NestedKey, noText k = true → k.hash w = k.hash w'
  | .none, _ => rfl
  | .num _, _ => rfl
  | .text _, h => by simp [noText] at h
  | .tup ks, h => by
    rw [noText] at h
    unfold NestedKey.hash
    rw [hashes_same w w' ks h]
theorem hashes_same (w w' : World) : ∀ ks : List NestedKey, noTexts ks = true → NestedKey.hashes w ks = NestedKey.hashes w' ks
  | [], _ => rfl
  | k :: ks, h => by
    rw [noTexts, Bool.and_eq_true] at h
    unfold NestedKey.hashes
    rw [hash_same w w' k h.1, hashes_same w w' ks h.2]
end
/-- a key that such a dict may have -/
def nKey (k : NestedKey) : Prop := (∃ ks, k = .tup ks) ∧ k.depth ≤ 8 ∧ noText k = true
abbrev NEnt := NestedKey × Addr × Value
def entN (w : World) (x : NEnt) : DictEntry := ⟨x.1.hash w, .ref x.2.1, x.2.2⟩
/-- what its object says -/
def ndP (d : Addr) (o : Obj) (xs : List NEnt) (h : Heap) : Prop := (d == sysModules) = false ∧ xs.length ≤ sizeLine ∧ ∃ (w : World) (es : Array DictEntry) (ep : Nat), h.get? d = some o ∧ o.ExactDict ∧ o.data = .dict es ep ∧ es.toList = xs.map (entN w) ∧ (xs.map (·.1)).Nodup
def ndO (d : Addr) (o : Obj) (xs : List NEnt) : HO := .ext (ndP d o xs)
end Lk

/-! part LkVal -/
/-! Lk, part 3: what a reading evaluates to, told by data (PyData) in place of addresses. -/
namespace Lk
open PySem PySem.Spec PyProof.Rows L2 Evl
/-! ### data: the layer's, and the empty dict -/
mutual
inductive Dq (K : PySem.W.Frag) (H : Hp) : V → PyData → Prop
  | non : Dq K H .non .none
  | bl (b : Bool) : Dq K H (.bl b) (.bool b)
  | int (i : Int) : Dq K H (.int i) (.int i)
  | str (x : Str) : Dq K H (.str x) (.str x)
  | lst {a : Addr} {xs : List V} {ds : List PyData} : SqL K H a xs → DqAll K H xs ds → Dq K H (.ref a) (.list ds)
  | tup {a : Addr} {xs : List V} {ds : List PyData} : SqT K H a xs → DqAll K H xs ds → Dq K H (.ref a) (.tuple ds)
  | dct {a : Addr} : H a = some (.dK []) → Dq K H (.ref a) (.dict [])
  | ndc {a : Addr} {o : Obj} {xs : List NEnt} : H a = some (ndO a o xs) → (∀ x ∈ xs, nKey x.1) → DqAll K H (xs.map fun x => V.ref x.2.1) (xs.map fun x => x.1.data) → Dq K H (.ref a) (.dict (xs.map fun x => (x.1.data, .none)))
inductive DqAll (K : PySem.W.Frag) (H : Hp) : List V → List PyData → Prop
  | nil : DqAll K H [] []
  | cons {v : V} {vs : List V} {d : PyData} {ds : List PyData} : Dq K H v d → DqAll K H vs ds → DqAll K H (v :: vs) (d :: ds)
end
/-! ### data in a heap that grows -/
mutual
theorem dp_ex {K : PySem.W.Frag} {H H' : Hp} (e : Ex H H') : ∀ (d : PyData) (v : V), Dq K H v d → Dq K H' v d
  | _, _, .non => .non
  | _, _, .bl b => .bl b
  | _, _, .int i => .int i
  | _, _, .str x => .str x
  | _, _, .lst s a => .lst (ex_l e s) (dps_ex e _ _ a)
  | _, _, .tup s a => .tup (ex_t e s) (dps_ex e _ _ a)
  | _, _, .dct h => .dct (e _ _ h)
  | _, _, .ndc h k a => .ndc (e _ _ h) k (dps_ex e _ _ a)
theorem dps_ex {K : PySem.W.Frag} {H H' : Hp} (e : Ex H H') : ∀ (ds : List PyData) (vs : List V), DqAll K H vs ds → DqAll K H' vs ds
  | _, _, .nil => .nil
  | _, _, .cons h r => .cons (dp_ex e _ _ h) (dps_ex e _ _ r)
end
section
variable {K : PySem.W.Frag} {H H' : Hp} {v : V} {vs : List V} {d : PyData} {ds : List PyData}
theorem dp_none (h : Dq K H v .none) : v = .non := by cases h; rfl
theorem dp_bool {b : Bool} (h : Dq K H v (.bool b)) : v = .bl b := by cases h; rfl
theorem dp_int {i : Int} (h : Dq K H v (.int i)) : v = .int i := by cases h; rfl
theorem dp_str {x : Str} (h : Dq K H v (.str x)) : v = .str x := by cases h; rfl
theorem dp_tup (h : Dq K H v (.tuple ds)) : ∃ a xs, v = .ref a ∧ SqT K H a xs ∧ DqAll K H xs ds := by
  cases h with
  | tup s a => exact ⟨_, _, rfl, s, a⟩
theorem dp_lst (h : Dq K H v (.list ds)) : ∃ a xs, v = .ref a ∧ SqL K H a xs ∧ DqAll K H xs ds := by
  cases h with
  | lst s a => exact ⟨_, _, rfl, s, a⟩
theorem dps_len : ∀ {vs : List V} {ds : List PyData}, DqAll K H vs ds → vs.length = ds.length
  | [], _, .nil => rfl
  | _ :: _, _, .cons _ r => congrArg Nat.succ (dps_len r)
theorem dps_at : ∀ {vs : List V} {ds : List PyData} {i : Nat} {d : PyData}, DqAll K H vs ds → ds[i]? = some d → ∃ v, vs[i]? = some v ∧ Dq K H v d
  | _, _, _, _, .nil, e => by simp at e
  | _, _, 0, _, .cons h _, e => by
    have e' := Option.some.inj e
    subst e'
    exact ⟨_, rfl, h⟩
  | _, _, i + 1, d, .cons _ r, e => dps_at (i := i) (d := d) r e
theorem dps_ints : ∀ (ns : List Int), DqAll K H (ns.map V.int) (ns.map PyData.int)
  | [] => .nil
  | n :: ns => .cons (.int n) (dps_ints ns)
theorem dps_app : ∀ {xs ys : List V} {ds es : List PyData}, DqAll K H xs ds → DqAll K H ys es → DqAll K H (xs ++ ys) (ds ++ es)
  | _, _, _, _, .nil, b => b
  | _, _, _, _, .cons h r, b => .cons h (dps_app r b)
end
/-- a value's kind -/
def tyN : PyData → String
  | .none => "NoneType"
  | .bool _ => "bool"
  | .int _ => "int"
  | .str _ => "str"
  | .list _ => "list"
  | .tuple _ => "tuple"
  | .dict _ => "dict"
theorem dp_ty {K : PySem.W.Frag} {H : Hp} {v : V} {d : PyData} (h : Dq K H v d) : TyX K H v (.type (tyN d)) ∨ (tyN d = "dict" ∧ ∃ a o xs, v = .ref a ∧ H a = some (ndO a o xs)) := by
  cases h with
  | ndc e _ _ => exact .inr ⟨rfl, _, _, _, rfl, e⟩
  | non => exact .inl (.base .non)
  | bl b => exact .inl (.base (.bl b))
  | int i => exact .inl (.base (.int i))
  | str x => exact .inl (.base (.str x))
  | lst s a =>
    rcases s with (s | ⟨o, s⟩) | ⟨o, its, n, h1, h2, _⟩
    · exact .inl (.base (.lst s))
    · exact .inl (.base (.frz s))
    · exact .inl (.kList h1 h2)
  | tup s a =>
    rcases s with (s | ⟨o, s⟩) | ⟨o, its, n, h1, h2, _⟩
    · exact .inl (.base (.tup s))
    · exact .inl (.fTuple s)
    · exact .inl (.kTuple h1 h2)
  | dct e => exact .inl (.base (.dK e))
/-- isinstance of a dict with nested keys -/
def rIsiN (_K : PySem.W.Frag) : List V → Hp → VK → Prop := fun vs H Q => ∃ (a : Addr) (o : Obj) (xs : List NEnt) (c : V) (u : Value) (b : Bool), vs = [.ref a, c] ∧ H a = some (ndO a o xs) ∧ ClsV c u ∧ PySem.W.kitOne _K (.type "dict") u = some b ∧ Q (.bl b) H
theorem nd_kit {X : Cx} {pins : List (Addr × Obj)} {σ : L2.St} {H : Hp} {s : Shared} {a : Addr} {o : Obj} {xs : List NEnt} (I : Inv X pins σ H s) (h : H a = some (ndO a o xs)) : ∃ P : Heap → Prop, PySem.W.KitX X.K (.ref a) (.type "dict") P ∧ P s.heap := by
  obtain ⟨⟨_, _, w, es, ep, q1, q2, _⟩, _⟩ := (show ObjOk X.prog X.w H s.heap a (.ext (ndP a o xs)) from I.hok a _ h)
  exact ⟨_, PySem.W.kitx_dict, ⟨o, q1, q2.1⟩⟩
theorem call_isiN {X : Cx} : CallR X (.builtin "isinstance") (rIsiN X.K) := fun pins s σ H vs us Q I r h => by
  obtain ⟨a, o, xs, c, u, b, rfl, ha, k, e, q⟩ := h
  obtain ⟨u1, u2, rfl, r1, r2⟩ := vals2 r
  cases (show u1 = Value.ref a from r1)
  have e2 := k.eq r2
  subst e2
  obtain ⟨P, Z, p⟩ := nd_kit I ha
  exact PySem.W.kia_one Z I.kIn p e (fun z => nomatch z) fun tk => ⟨.bl b, H, I.tok tk, rfl, q⟩
/-- .. of any data -/
def rIsiD (K : PySem.W.Frag) : List V → Hp → VK → Prop := fun xs H Q => rIsi K xs H Q ∨ rIsiN K xs H Q
theorem call_isiD {X : Cx} : CallR X (.builtin "isinstance") (rIsiD X.K) := fun pins s σ H vs us Q I r h => h.elim (call_isi pins s σ H vs us Q I r) (call_isiN pins s σ H vs us Q I r)
/-- data without dicts is the layer's data -/
theorem lay_cons {d : PyData} {ds : List PyData} (h : PyData.canLayAll0 (d :: ds) = true) : PyData.canLay0 d = true ∧ PyData.canLayAll0 ds = true := by
  rw [PyData.canLayAll0] at h
  exact Bool.and_eq_true_iff.mp h
mutual
theorem dq_dp {K : PySem.W.Frag} {H : Hp} : ∀ (d : PyData) (v : V), PyData.canLay0 d = true → Dq K H v d → L2.Dp K H v d
  | _, _, _, .non => .non
  | _, _, _, .bl b => .bl b
  | _, _, _, .int i => .int i
  | _, _, _, .str x => .str x
  | _, _, c, .lst s a => .lst s (dqs_dp _ _ (by rw [PyData.canLay0] at c; exact c) a)
  | _, _, c, .tup s a => .tup s (dqs_dp _ _ (by rw [PyData.canLay0] at c; exact c) a)
  | _, _, c, .dct _ => by
    rw [PyData.canLay0] at c
    cases c
  | _, _, c, .ndc _ _ _ => by
    rw [PyData.canLay0] at c
    cases c
theorem dqs_dp {K : PySem.W.Frag} {H : Hp} : ∀ (ds : List PyData) (vs : List V), PyData.canLayAll0 ds = true → DqAll K H vs ds → L2.DpAll K H vs ds
  | _, _, _, .nil => .nil
  | _, _, c, .cons h r => .cons (dq_dp _ _ (lay_cons c).1 h) (dqs_dp _ _ (lay_cons c).2 r)
end
theorem sh_dp {K : PySem.W.Frag} {H : Hp} {d : PyData} {v : V} (s : SeqAt.shaped d = true) (h : Dq K H v d) : L2.Dp K H v d := dq_dp d v (SeqAt.canLay_of_shaped s) h
/-! ### what evaluates to which data -/
def EvD (K : PySem.W.Frag) (te : TE) (σ : L2.St) (H : Hp) (d : PyData) : Prop := ∀ H1, Ex H H1 → ∀ Q : VK, (∀ v H2, Ex H1 H2 → Dq K H2 v d → Q v H2) → te σ H1 Q
def EvDA (K : PySem.W.Frag) (ta : TA) (σ : L2.St) (H : Hp) (ds : List PyData) : Prop := ∀ H1, Ex H H1 → ∀ Q : List V → Hp → Prop, (∀ vs H2, Ex H1 H2 → DqAll K H2 vs ds → Q vs H2) → ta σ H1 Q
section
variable {K : PySem.W.Frag} {σ : L2.St} {H H' : Hp} {ta tb te tx : TE} {t u : TT} {x y z v : V} {r : R2} {d e : PyData} {ds es : List PyData}
theorem EvD.mono (a : Ex H H') (h : EvD K te σ H d) : EvD K te σ H' d := fun H1 b Q q => h H1 (a.trans b) Q q
theorem EvDA.mono {ta : TA} (a : Ex H H') (h : EvDA K ta σ H ds) : EvDA K ta σ H' ds := fun H1 b Q q => h H1 (a.trans b) Q q
theorem ed_ev (h : Ev te σ H v) (hv : Dq K H v d) : EvD K te σ H d := fun H1 a Q q => h H1 a Q fun H2 b => q v H2 b (dp_ex (a.trans b) _ _ hv)
theorem ed_var {i : Nat} (h : σ[i]? = some (some v)) (hv : Dq K H v d) : EvD K (tVar i) σ H d := ed_ev (ev_var h) hv
theorem ed_cI {i : Int} : EvD K (tC (.int i)) σ H (.int i) := ed_ev ev_c (.int i)
theorem ed_cS {s : Str} : EvD K (tC (.str s)) σ H (.str s) := ed_ev ev_c (.str s)
theorem ed_cN : EvD K (tC .non) σ H .none := ed_ev ev_c .non
theorem ed_cB {b : Bool} : EvD K (tC (.bl b)) σ H (.bool b) := ed_ev ev_c (.bl b)
theorem ev_edI {i : Int} (h : EvD K te σ H (.int i)) : Ev te σ H (.int i) := fun H1 a Q q => h H1 a Q fun v H2 b hv => by
  have e := dp_int hv
  subst e
  exact q H2 b
theorem ev_edB {b : Bool} (h : EvD K te σ H (.bool b)) : Ev te σ H (.bl b) := fun H1 a Q q => h H1 a Q fun v H2 b hv => by
  have e := dp_bool hv
  subst e
  exact q H2 b
theorem ev_edS {s : Str} (h : EvD K te σ H (.str s)) : Ev te σ H (.str s) := fun H1 a Q q => h H1 a Q fun v H2 b hv => by
  have e := dp_str hv
  subst e
  exact q H2 b
/-- arguments -/
theorem eda_nil : EvDA K tNil σ H [] := fun H1 _ _ q => q [] H1 (Ex.refl H1) .nil
theorem eda_cons {tr : TA} (h : EvD K te σ H d) (hr : EvDA K tr σ H ds) : EvDA K (tCons te tr) σ H (d :: ds) := fun H1 a _ q =>
  h H1 a _ fun v H2 b hv => hr H2 (a.trans b) _ fun vs H3 c hvs => q (v :: vs) H3 (b.trans c) (.cons (dp_ex c _ _ hv) hvs)
theorem eda_star {K' : PySem.W.Frag} {tr : TA} (h : EvD K te σ H (.tuple ds)) (hr : EvDA K tr σ H es) (hK : K' = K) : EvDA K (StX.tStar K' te tr) σ H (ds ++ es) := by
  subst hK
  exact fun H1 a _ q =>
  h H1 a _ fun v H2 b hv => by
    obtain ⟨p, xs, rfl, hs, hx⟩ := dp_tup hv
    exact ⟨p, xs, rfl, .inl hs, hr H2 (a.trans b) _ fun vs H3 c hvs => q (xs ++ vs) H3 (b.trans c) (dps_app (dps_ex c _ _ hx) hvs)⟩
/-- displays -/
theorem ed_tup {ta : TA} (h : EvDA K ta σ H ds) (hl : ds.length ≤ 100000 := by first | decide | exact Nat.le_of_ble_eq_true rfl) : EvD K (tTup ta) σ H (.tuple ds) := fun H1 a _ q =>
  h H1 a _ fun vs H2 b hvs => ⟨sz_of (by rw [dps_len hvs]; exact hl), fun p hp => q _ _ (b.trans (Ex.new hp)) (.tup (st_of upd_same) (dps_ex (Ex.new hp) _ _ hvs))⟩
theorem ed_lst {ta : TA} (h : EvDA K ta σ H ds) (hl : ds.length ≤ 100000 := by first | decide | exact Nat.le_of_ble_eq_true rfl) : EvD K (tLst ta) σ H (.list ds) := fun H1 a _ q =>
  h H1 a _ fun vs H2 b hvs => ⟨sz_of (by rw [dps_len hvs]; exact hl), fun p hp => q _ _ (b.trans (Ex.new hp)) (.lst (sq_of upd_same) (dps_ex (Ex.new hp) _ _ hvs))⟩
/-- equal | unlike data -/
theorem ev_eqD (ha : EvD K ta σ H d) (hb : EvD K tb σ H e) (sd : SeqAt.shaped d = true := by rfl) (se : SeqAt.shaped e = true := by rfl) : Ev (tOp (rEqD K) ta tb) σ H (.bl (PyData.eqv d e)) := fun H1 a _ q =>
  ha H1 a _ fun v H2 b hv => hb H2 (a.trans b) _ fun w H3 c hw => ⟨d, e, sh_dp sd (dp_ex c _ _ hv), sh_dp se hw, sd, se, q H3 (b.trans c)⟩
theorem ev_neD (ha : EvD K ta σ H d) (hb : EvD K tb σ H e) (sd : SeqAt.shaped d = true := by rfl) (se : SeqAt.shaped e = true := by rfl) : Ev (tOp (rNeD K) ta tb) σ H (.bl (!PyData.eqv d e)) := fun H1 a _ q =>
  ha H1 a _ fun v H2 b hv => hb H2 (a.trans b) _ fun w H3 c hw => ⟨d, e, sh_dp sd (dp_ex c _ _ hv), sh_dp se hw, sd, se, q H3 (b.trans c)⟩
theorem atI_data {xs : List V} {i : Int} (hx : DqAll K H xs ds) (ha : atI ds i = some d) : ∃ v, atI xs i = some v ∧ Dq K H v d := by
  unfold atI at ha ⊢
  rw [dps_len hx]
  cases q : ixN ds.length i with
  | none =>
    rw [q] at ha
    cases ha
  | some j =>
    rw [q] at ha
    exact dps_at (i := j) hx ha
/-- an item of a tuple | of a list -/
theorem ed_ixT {K' : PySem.W.Frag} {i : Int} (ha : EvD K ta σ H (.tuple ds)) (hb : Ev tb σ H (.int i)) (hi : atI ds i = some d) (hK : K' = K) : EvD K (tOp (rIxT K') ta tb) σ H d := by
  subst hK
  exact fun H1 a _ q =>
  ha H1 a _ fun v H2 b hv => hb H2 (a.trans b) _ fun H3 c => by
    obtain ⟨p, xs, rfl, hs, hx⟩ := dp_tup hv
    obtain ⟨w, hw, dw⟩ := atI_data hx hi
    exact ⟨p, xs, i, w, rfl, rfl, ex_t c hs, hw, q w H3 (b.trans c) (dp_ex c _ _ dw)⟩
theorem ed_ixL {K' : PySem.W.Frag} {i : Int} (ha : EvD K ta σ H (.list ds)) (hb : Ev tb σ H (.int i)) (hi : atI ds i = some d) (hK : K' = K) : EvD K (tOp (rIxL K') ta tb) σ H d := by
  subst hK
  exact fun H1 a _ q =>
  ha H1 a _ fun v H2 b hv => hb H2 (a.trans b) _ fun H3 c => by
    obtain ⟨p, xs, rfl, hs, hx⟩ := dp_lst hv
    obtain ⟨w, hw, dw⟩ := atI_data hx hi
    exact ⟨p, xs, i, w, rfl, rfl, ex_l c hs, hw, q w H3 (b.trans c) (dp_ex c _ _ dw)⟩
/-- isinstance(x, T), T a built-in type -/
theorem ev_isiD {n : String} {b : Bool} (h : EvD K te σ H d) (hb : kitB (tyN d) n = some b) : Ev (tCB (rIsiD K) (tCons te (tCons (tC (.ty n)) tNil))) σ H (.bl b) := fun H1 a _ q =>
  h H1 a _ fun v H2 c hv => by
    rcases dp_ty hv with t | ⟨e, p, o, xs, rfl, hp⟩
    · exact .inl ⟨v, .ty n, .type (tyN d), .type n, b, rfl, .ty n, t, kit_ty hb, q H2 c⟩
    · rw [e] at hb
      exact .inr ⟨p, o, xs, .ty n, .type n, b, rfl, hp, .ty n, kit_ty hb, q H2 c⟩
/-- isinstance by kinds -/
def isInt : PyData → Bool
  | .int _ => true
  | .bool _ => true
  | _ => false
def isBool : PyData → Bool
  | .bool _ => true
  | _ => false
def isTup : PyData → Bool
  | .tuple _ => true
  | _ => false
def isLst : PyData → Bool
  | .list _ => true
  | _ => false
def isStr : PyData → Bool
  | .str _ => true
  | _ => false
def isDct : PyData → Bool
  | .dict _ => true
  | _ => false
theorem kit_int (d : PyData) : kitB (tyN d) "int" = some (isInt d) := by
  cases d with
  | none => exact (show kitB "NoneType" "int" = some false by decide +kernel)
  | bool _ => exact (show kitB "bool" "int" = some true by decide +kernel)
  | int _ => exact (show kitB "int" "int" = some true by decide +kernel)
  | str _ => exact (show kitB "str" "int" = some false by decide +kernel)
  | list _ => exact (show kitB "list" "int" = some false by decide +kernel)
  | tuple _ => exact (show kitB "tuple" "int" = some false by decide +kernel)
  | dict _ => exact (show kitB "dict" "int" = some false by decide +kernel)
theorem kit_bool (d : PyData) : kitB (tyN d) "bool" = some (isBool d) := by
  cases d with
  | none => exact (show kitB "NoneType" "bool" = some false by decide +kernel)
  | bool _ => exact (show kitB "bool" "bool" = some true by decide +kernel)
  | int _ => exact (show kitB "int" "bool" = some false by decide +kernel)
  | str _ => exact (show kitB "str" "bool" = some false by decide +kernel)
  | list _ => exact (show kitB "list" "bool" = some false by decide +kernel)
  | tuple _ => exact (show kitB "tuple" "bool" = some false by decide +kernel)
  | dict _ => exact (show kitB "dict" "bool" = some false by decide +kernel)
theorem kit_tup (d : PyData) : kitB (tyN d) "tuple" = some (isTup d) := by
  cases d with
  | none => exact (show kitB "NoneType" "tuple" = some false by decide +kernel)
  | bool _ => exact (show kitB "bool" "tuple" = some false by decide +kernel)
  | int _ => exact (show kitB "int" "tuple" = some false by decide +kernel)
  | str _ => exact (show kitB "str" "tuple" = some false by decide +kernel)
  | list _ => exact (show kitB "list" "tuple" = some false by decide +kernel)
  | tuple _ => exact (show kitB "tuple" "tuple" = some true by decide +kernel)
  | dict _ => exact (show kitB "dict" "tuple" = some false by decide +kernel)
theorem kit_lst (d : PyData) : kitB (tyN d) "list" = some (isLst d) := by
  cases d with
  | none => exact (show kitB "NoneType" "list" = some false by decide +kernel)
  | bool _ => exact (show kitB "bool" "list" = some false by decide +kernel)
  | int _ => exact (show kitB "int" "list" = some false by decide +kernel)
  | str _ => exact (show kitB "str" "list" = some false by decide +kernel)
  | list _ => exact (show kitB "list" "list" = some true by decide +kernel)
  | tuple _ => exact (show kitB "tuple" "list" = some false by decide +kernel)
  | dict _ => exact (show kitB "dict" "list" = some false by decide +kernel)
theorem kit_str (d : PyData) : kitB (tyN d) "str" = some (isStr d) := by
  cases d with
  | none => exact (show kitB "NoneType" "str" = some false by decide +kernel)
  | bool _ => exact (show kitB "bool" "str" = some false by decide +kernel)
  | int _ => exact (show kitB "int" "str" = some false by decide +kernel)
  | str _ => exact (show kitB "str" "str" = some true by decide +kernel)
  | list _ => exact (show kitB "list" "str" = some false by decide +kernel)
  | tuple _ => exact (show kitB "tuple" "str" = some false by decide +kernel)
  | dict _ => exact (show kitB "dict" "str" = some false by decide +kernel)
theorem kit_dct (d : PyData) : kitB (tyN d) "dict" = some (isDct d) := by
  cases d with
  | none => exact (show kitB "NoneType" "dict" = some false by decide +kernel)
  | bool _ => exact (show kitB "bool" "dict" = some false by decide +kernel)
  | int _ => exact (show kitB "int" "dict" = some false by decide +kernel)
  | str _ => exact (show kitB "str" "dict" = some false by decide +kernel)
  | list _ => exact (show kitB "list" "dict" = some false by decide +kernel)
  | tuple _ => exact (show kitB "tuple" "dict" = some false by decide +kernel)
  | dict _ => exact (show kitB "dict" "dict" = some true by decide +kernel)
/-- len of a tuple | of a list -/
theorem ev_lenT (h : EvD K te σ H (.tuple ds)) : Ev (tCB (rLenS K) (tCons te tNil)) σ H (.int (ds.length : Int)) := fun H1 a _ q =>
  h H1 a _ fun v H2 c hv => by
    obtain ⟨p, xs, rfl, hs, hx⟩ := dp_tup hv
    refine ⟨_, xs, rfl, .inr hs, ?_⟩
    rw [dps_len hx]
    exact q H2 c
theorem ev_lenL (h : EvD K te σ H (.list ds)) : Ev (tCB (rLenS K) (tCons te tNil)) σ H (.int (ds.length : Int)) := fun H1 a _ q =>
  h H1 a _ fun v H2 c hv => by
    obtain ⟨p, xs, rfl, hs, hx⟩ := dp_lst hv
    refine ⟨_, xs, rfl, .inl hs, ?_⟩
    rw [dps_len hx]
    exact q H2 c
end
/-! ### statements -/
section
variable {K : PySem.W.Frag} {σ : L2.St} {H : Hp} {te : TE} {D : Ends} {tz : TS} {d : PyData}
end
/-! ### built-ins by names of our own -/
def rAbs : List V → Hp → VK → Prop := fun xs H Q => ∃ i, xs = [.int i] ∧ Q (.int (if i < 0 then -i else i)) H
def rMin : List V → Hp → VK → Prop := fun xs H Q => ∃ i j, xs = [.int i, .int j] ∧ Q (.int (if j < i then j else i)) H
def rIntI : List V → Hp → VK → Prop := fun xs H Q => (∃ i, xs = [.int i] ∧ Q (.int i) H) ∨ ∃ k, xs = [.bl k] ∧ Q (.int (if k then 1 else 0)) H
section
variable {X : Cx}
theorem cl_len : CallR X (.builtin "len") (rLenS X.K) := call_len_seq
theorem cl_abs : CallR X (.builtin "abs") rAbs := call_abs
theorem cl_min (hc : X.calm = true) : CallR X (.builtin "min") rMin := call_min2 hc
theorem cl_int : CallR X (.type "int") rIntI := call_int1
end
section
variable {σ : L2.St} {H : Hp} {ta tb : TE} {i j : Int}
theorem ev_abs (h : Ev ta σ H (.int i)) : Ev (tCB rAbs (tCons ta tNil)) σ H (.int (if i < 0 then -i else i)) := fun H1 a _ q => h H1 a _ fun H2 c => ⟨i, rfl, q H2 c⟩
theorem ev_min (h : Ev ta σ H (.int i)) (g : Ev tb σ H (.int j)) : Ev (tCB rMin (tCons ta (tCons tb tNil))) σ H (.int (if j < i then j else i)) := fun H1 a _ q =>
  h H1 a _ fun H2 c => g H2 (a.trans c) _ fun H3 f => ⟨i, j, rfl, q H3 (c.trans f)⟩
theorem ev_intI (h : Ev ta σ H (.int i)) : Ev (tCB rIntI (tCons ta tNil)) σ H (.int i) := fun H1 a _ q => h H1 a _ fun H2 c => .inl ⟨i, rfl, q H2 c⟩
theorem ev_chain {r r' : R2} {tc : TE} {x y z : V} {b c : Bool} (ha : Ev ta σ H x) (hb : Ev tb σ H y) (hr : RV r x y H (.bl b)) (hc : b = true → Ev tc σ H z) (hr' : b = true → RV r' y z H (.bl c)) : Ev (tChain r r' ta tb tc) σ H (.bl (b && c)) := fun H1 a Q q =>
  ha H1 a _ fun H2 e2 => hb H2 (a.trans e2) _ fun H3 e3 => hr H3 ((a.trans e2).trans e3) _ fun H4 e4 => ⟨b, rfl, by
    cases b with
    | true =>
      show tc σ H4 fun w' H5 => r' y w' H5 Q
      exact hc rfl H4 (((a.trans e2).trans e3).trans e4) _ fun H5 e5 => hr' rfl H5 ((((a.trans e2).trans e3).trans e4).trans e5) Q fun H6 e6 => q H6 ((((e2.trans e3).trans e4).trans e5).trans e6)
    | false =>
      show Q (.bl false) H4
      exact q H4 ((e2.trans e3).trans e4)⟩
end
/-! ### promises of defs that change nothing -/
/-- what a def makes of data: a value, or the class of an error -/
abbrev Rel : Type := List PyData → Except Addr PyData → Prop
def spD (K : PySem.W.Frag) (R : Rel) : Sp := fun vs H Q E => ∃ ds r, DqAll K H vs ds ∧ R ds r ∧
  (∀ d, r = .ok d → ∀ v H', Ex H H' → Dq K H' v d → Q v H') ∧ (∀ C, r = .error C → ∀ H', Ex H H' → E (.ref C) none H')
/-- what a return must come to, a raise -/
def RetD (K : PySem.W.Frag) (r : Except Addr PyData) (Q : VK) (H : Hp) : Prop := ∀ d, r = .ok d → ∀ v H', Ex H H' → Dq K H' v d → Q v H'
def RaiD (r : Except Addr PyData) (E : XK) (H : Hp) : Prop := ∀ C, r = .error C → ∀ H', Ex H H' → E (.ref C) none H'
section
variable {K : PySem.W.Frag} {r : Except Addr PyData} {Q : VK} {E : XK} {H H' : Hp} {D : Ends} {σ : L2.St} {te : TE} {d : PyData}
theorem RetD.mono (e : Ex H H') (h : RetD K r Q H) : RetD K r Q H' := fun d q v H2 e2 hv => h d q v H2 (e.trans e2) hv
theorem RaiD.mono (e : Ex H H') (h : RaiD r E H) : RaiD r E H' := fun C q H2 e2 => h C q H2 (e.trans e2)
end
section
variable {K : PySem.W.Frag} {σ : L2.St} {H : Hp} {ta : TA} {ds : List PyData} {d : PyData} {R : Rel}
theorem ed_call (h : EvDA K ta σ H ds) (hf : R ds (.ok d)) : EvD K (tCall (spD K R) [] E0 ta) σ H d := fun H1 a Q q =>
  h H1 a _ fun vs H2 b hvs => ⟨ds, _, by rw [List.append_nil]; exact hvs, hf, fun d' e v H' c hv => by cases e; exact q v H' (b.trans c) hv, fun C e => nomatch e⟩
end
/-! ### a, b = e1, e2 -/
section
variable {K : PySem.W.Frag} {σ : L2.St} {H : Hp} {ta : TA} {D : Ends} {tz : TS} {i j : Nat} {x y : V} {d e : PyData}
theorem q_par (h : EvA ta σ H [x, y]) (k : ∀ H1, Ex H H1 → tz D ((σ.set i (some x)).set j (some y)) H1) : tSeq (tPar i j ta) tz D σ H := h H (Ex.refl H) _ fun H1 a => ⟨x, y, rfl, k H1 a⟩
end
/-! ### calls that may raise -/
section
variable {K : PySem.W.Frag} {σ : L2.St} {H : Hp} {ta : TA} {ds : List PyData} {R : Rel} {r : Except Addr PyData} {D : Ends} {tz : TS} {E : L2.St → XK}
end
end Lk

/-! part LkCall -/
/-! Lk, part 4: a def of the text, called; the walk's small tactics. -/
namespace Lk
open PySem PySem.Spec PyProof.Rows L2 Evl
/-- the module's def x keeps its promise -/
structure Cl (P : Program) (w : World) (K : PySem.W.Frag) (mg : Str → Option Value) (base : Heap) (CX : CXT) (k : Nat) (x : Str) (sp : Sp) : Prop where
  ex : ∃ (f : Addr) (fd : FuncData) (ps : List Str), FnOk P w K mg base CX k f fd ps sp ∧ mg x = some (.ref f) ∧ PySem.W.keepIn K (.ref f) = true ∧ Binds K fd ps []
/-- the same, its parameters given by names, in their order -/
structure Cw (P : Program) (w : World) (K : PySem.W.Frag) (mg : Str → Option Value) (base : Heap) (CX : CXT) (k : Nat) (x : Str) (ks : List Str) (sp : Sp) : Prop where
  ex : ∃ (f : Addr) (fd : FuncData) (ps : List Str), FnOk P w K mg base CX k f fd ps sp ∧ mg x = some (.ref f) ∧ PySem.W.keepIn K (.ref f) = true ∧ KBinds K fd ps ks (fun us ws => us ++ ws) (fun vs zs => vs ++ zs)
section
variable {X : Cx} {k j : Nat} {x : Str} {ks : List Str} {sp : Sp} {p pos : Pos} {e : Expr} {es : List Expr} {t tk : TA} {kws : List Keyword}
theorem pe_k (c : Cl X.prog X.w X.K X.mg X.base CX0 k x sp) (hr : Room j X.A) (hk : k ≤ j) (hg : Gl X x) (ha : PA X (e :: es) t)
    (hdb : (x == ("__debug__" : Str)) = false := by decide) (he : starEach (e :: es) X.env = (false, eval e X.env) :: starEach es X.env := by rfl)
    (hpl : (backTo pos (starEach es X.env)).any (·.1) = false := by rfl) : PE X (.Call (.Name x p) (e :: es) [] pos) (tCall sp [] E0 t) := by
  obtain ⟨f, fd, ps, F, hm, kp, b⟩ := c.ex
  exact pe_call F (hr.mono hk) hg hm kp b .nil pass0 ha hdb he hpl
/-- of a def that may raise, and does not here -/
theorem pe_kX (c : Cl X.prog X.w X.K X.mg X.base (L2.CX X.prog X.w) k x sp) (hr : Room j X.A) (hk : k ≤ j) (hg : Gl X x) (ha : PA X (e :: es) t)
    (hdb : (x == ("__debug__" : Str)) = false := by decide) (he : starEach (e :: es) X.env = (false, eval e X.env) :: starEach es X.env := by rfl)
    (hpl : (backTo pos (starEach es X.env)).any (·.1) = false := by rfl) : PE X (.Call (.Name x p) (e :: es) [] pos) (tCall sp [] E0 t) := by
  obtain ⟨f, fd, ps, F, hm, kp, b⟩ := c.ex
  exact pe_call F (hr.mono hk) hg hm kp b .nil passL ha hdb he hpl
/-- of a def that may raise -/
theorem pe_kR {W : WX} (tk : Takes X W) (c : Cl X.prog X.w X.K X.mg X.base (L2.CX X.prog X.w) k x sp) (hr : Room j X.A) (hk : k ≤ j) (hg : Gl X x) (ha : PA X (e :: es) t)
    (hdb : (x == ("__debug__" : Str)) = false := by decide) (he : starEach (e :: es) X.env = (false, eval e X.env) :: starEach es X.env := by rfl)
    (hpl : (backTo pos (starEach es X.env)).any (·.1) = false := by rfl) : PE X (.Call (.Name x p) (e :: es) [] pos) (tCallS sp (WE W) t) := by
  obtain ⟨f, fd, ps, F, hm, kp, b⟩ := c.ex
  exact pe_callS F (hr.mono hk) hg hm kp b (fun σ => passAt tk σ) ha hdb he hpl
theorem pe_kwX (c : Cw X.prog X.w X.K X.mg X.base (L2.CX X.prog X.w) k x ks sp) (hr : Room j X.A) (hk : k ≤ j) (hg : Gl X x) (hkw : PK X kws tk)
    (hall : (backToKw pos (keywordEach kws X.env)).all (·.1.isSome) = true := by rfl) (hks : (backToKw pos (keywordEach kws X.env)).filterMap (·.1) = ks := by rfl)
    (hdb : (x == ("__debug__" : Str)) = false := by decide)
    (hpl : ((backTo pos (starEach [] X.env)).any (·.1) || (backToKw pos (keywordEach kws X.env)).any (·.1.isNone)) = false := by rfl) :
    PE X (.Call (.Name x p) [] kws pos) (tCallK sp (fun vs zs => vs ++ zs) E0 tNil tk) := by
  obtain ⟨f, fd, ps, F, hm, kp, b⟩ := c.ex
  exact pe_kwOnly F (hr.mono hk) hg hm kp b passL hkw hall hks hdb hpl
end
section
variable {K : PySem.W.Frag} {σ : L2.St} {H : Hp} {ta : TA} {ds : List PyData} {d : PyData} {R : Rel}
theorem ed_callK (h : EvDA K ta σ H ds) (hf : R ds (.ok d)) : EvD K (tCallK (spD K R) (fun vs zs => vs ++ zs) E0 tNil ta) σ H d := fun H1 a Q q =>
  h H1 a _ fun vs H2 b hvs => ⟨ds, _, hvs, hf, fun d' e v H' c hv => by cases e; exact q v H' (b.trans c) hv, fun C e => nomatch e⟩
end
/-- what stands of an own error's class -/
structure XcT (K : PySem.W.Frag) (mg : Str → Option Value) (x : Str) (C : Addr) : Prop where
  ex : PySem.W.excIn K C [.type "ValueError", .type "Exception", .type "BaseException", .type "object"] "ValueError.__new__" = true
  gl : mg x = some (.ref C)
  kp : PySem.W.keepIn K (.ref C) = true
  sb : PySem.W.subIn K (.ref C) (.type "BaseException") = some true
  ty : PySem.W.typeIn K (.ref C) = some (.type "type")
section
variable {P : Program} {w : World} {K : PySem.W.Frag} {mg : Str → Option Value} {base : Heap} {x qual : Str} {params : Arguments} {body : List Stmt} {scope : Scope} {f : Addr} {fd : FuncData} {N ps : List Str} {k : Nat}
end
/-- one parameter, given by place or by name -/
theorem kbinds1 {K : PySem.W.Frag} {x qual p : Str} {params : Arguments} {body : List Stmt} {scope : Scope} {f : Addr} {fd : FuncData} (F : FunD K x qual params body scope [] [] f fd)
    (h0 : ∀ (kV doc pm : Value) (an : Option Addr) (cdv ct u : Value), bindArgs (PySem.W.fnOf x qual params body scope .none kV doc pm an cdv ct) ⟨[u], []⟩ = pure [(p, u)])
    (h1 : ∀ (kV doc pm : Value) (an : Option Addr) (cdv ct u : Value), bindArgs (PySem.W.fnOf x qual params body scope .none kV doc pm an cdv ct) ⟨[], [(p, u)]⟩ = pure [(p, u)]) :
    KBinds K fd [p] [p] (fun us ws => us ++ ws) (fun vs zs => vs ++ zs) := by
  obtain ⟨oc, od, dV, kV, doc, pm, an, cdv, ct, osl, rfl, lk, hcd, hD, hK⟩ := F.ex
  rcases hD with ⟨_, rfl⟩ | ⟨e, _⟩
  · constructor
    · intro s us ws _ hl
      match us, ws, hl with
      | [], [u], _ => exact .of_eq (h1 kV doc pm an cdv ct u)
      | [u], [], _ => exact .of_eq (h0 kV doc pm an cdv ct u)
      | [], [], hl => cases hl
      | [], _ :: _ :: _, hl => cases hl
      | [_], _ :: _, hl => cases hl
      | _ :: _ :: _, _, hl => cases hl
    · exact fun r q => r.append q
  · exact absurd rfl e
end Lk

/-! part LkComp -/
/-! Lk, part 5: comprehensions told by data; data without lists, which no store touches. -/
namespace Lk
open PySem PySem.Spec PyProof.Rows L2 Evl
/-! ### data of tuples alone -/
mutual
def tupo : PyData → Bool
  | .list _ => false
  | .dict _ => false
  | .tuple ds => tupos ds
  | _ => true
def tupos : List PyData → Bool
  | [] => true
  | d :: ds => tupo d && tupos ds
end
/-- all tuples stand as they stood -/
def Tx (H H' : Hp) : Prop := ∀ a xs, Rd H a (.tup xs) → Rd H' a (.tup xs)
theorem Tx.refl (H : Hp) : Tx H H := fun _ _ h => h
theorem Tx.trans {H H1 H2 : Hp} (a : Tx H H1) (b : Tx H1 H2) : Tx H H2 := fun x xs h => b x xs (a x xs h)
theorem Ex.tx {H H' : Hp} (e : Ex H H') : Tx H H' := fun _ _ h => ex_rd e h
/-- a store into something that is no tuple -/
theorem Tx.put {H : Hp} {l : Addr} {o u : HO} (h : H l = some u) (n1 : ∀ xs, u ≠ .tup xs) (n2 : ∀ q xs, u ≠ .frz q (.tup xs)) : Tx H (upd H l o) := by
  rintro a xs (r | ⟨q, r⟩)
  · refine Or.inl ?_
    rw [upd_ne]
    · exact r
    · rintro rfl
      rw [h] at r
      exact n1 xs (Option.some.inj r)
  · refine Or.inr ⟨q, ?_⟩
    rw [upd_ne]
    · exact r
    · rintro rfl
      rw [h] at r
      exact n2 q xs (Option.some.inj r)
theorem Tx.lst {H : Hp} {l : Addr} {ys : List V} {o : HO} (h : H l = some (.lst ys)) : Tx H (upd H l o) := Tx.put h (fun _ z => nomatch z) fun _ _ z => nomatch z
theorem Tx.dK {H : Hp} {l : Addr} {ys : List (Key × V)} {o : HO} (h : H l = some (.dK ys)) : Tx H (upd H l o) := Tx.put h (fun _ z => nomatch z) fun _ _ z => nomatch z
mutual
theorem dp_tx {K : PySem.W.Frag} {H H' : Hp} (e : Tx H H') : ∀ (d : PyData) (v : V), tupo d = true → Dq K H v d → Dq K H' v d
  | .none, _, _, .non => .non
  | .bool b, _, _, .bl _ => .bl b
  | .int i, _, _, .int _ => .int i
  | .str x, _, _, .str _ => .str x
  | .tuple ds, _, t, .tup s a => .tup (by
      rcases s with s | s
      · exact Or.inl (e _ _ s)
      · exact Or.inr s) (dps_tx e ds _ (by rw [tupo] at t; exact t) a)
  | .dict _, _, t, .dct _ => by
    rw [tupo] at t
    cases t
  | .dict _, _, t, .ndc _ _ _ => by
    rw [tupo] at t
    cases t
theorem dps_tx {K : PySem.W.Frag} {H H' : Hp} (e : Tx H H') : ∀ (ds : List PyData) (vs : List V), tupos ds = true → DqAll K H vs ds → DqAll K H' vs ds
  | [], _, _, .nil => .nil
  | d :: ds, _, t, .cons h r => by
    have t' : (tupo d && tupos ds) = true := by rw [tupos] at t; exact t
    obtain ⟨t1, t2⟩ := Bool.and_eq_true_iff.mp t'
    exact .cons (dp_tx e d _ t1 h) (dps_tx e ds _ t2 r)
end
theorem dps_ints_of {K : PySem.W.Frag} {H : Hp} : ∀ {ns : List Int} {vs : List V}, DqAll K H vs (ns.map PyData.int) → vs = ns.map V.int
  | [], _, .nil => rfl
  | n :: ns, _, .cons h r => by
    have e := dp_int h
    subst e
    rw [List.map_cons, dps_ints_of (ns := ns) r]
/-! ### comprehensions -/
section
variable {K : PySem.W.Frag} {σ : L2.St} {H H' : Hp} {te : TE} {t : TT} {f : Nat → Bool} {g : Nat → PyData} {Dl : Addr}
theorem et_yes : EvT tYes σ H true := fun H1 _ _ q => q H1 (Ex.refl H1)
end
end Lk

/-! part LkDraw -/
/-! Lk, part 6: the state of the draws: a dict that holds two lists and two whole numbers. -/
namespace Lk
open PySem PySem.Spec PyProof.Rows L2 Evl
/-! ### a dict by texts -/
section
variable {σ : L2.St} {H : Hp} {td tv : TE} {a : Addr} {v : V} {s : Str} {kvs : List (Key × V)} {D : Ends} {tz : TS}
theorem ev_dget (h : Ev td σ H (.ref a)) (hd : H a = some (.dK kvs)) (hv : valV kvs (.inr s) = some v) : Ev (tDGet td (tC (.str s))) σ H v := fun H1 e Q q =>
  h H1 e _ fun H2 e2 => ⟨a, v, rfl, hv ▸ DGet.k (k := .inr s) (e2 _ _ (e _ _ hd)), q H2 e2⟩
/-- d[k] = v, the value by a run that ends in dput_end -/
theorem r_dput (h : tv σ H fun v H1 => td σ H1 fun x H2 => ∃ a H4, x = .ref a ∧ DPut H2 a (.str s) v H4 ∧ D.nx σ H4) : sDPut td (tC (.str s)) tv D σ H := h
theorem q_dput (h : tv σ H fun v H1 => td σ H1 fun x H2 => ∃ a H4, x = .ref a ∧ DPut H2 a (.str s) v H4 ∧ tz D σ H4) : tSeq (sDPut td (tC (.str s)) tv) tz D σ H := h
theorem dput_end {T : L2.St → Hp → Prop} (ht : Ev td σ H (.ref a)) (hd : H a = some (.dK kvs)) (hl : kvs.length < 1000) (k : ∀ H2, Ex H H2 → T σ (upd H2 a (.dK (putK kvs (.inr s) v)))) :
    td σ H fun x H2 => ∃ a H4, x = .ref a ∧ DPut H2 a (.str s) v H4 ∧ T σ H4 :=
  ht H (Ex.refl H) _ fun H2 e => ⟨a, _, rfl, DPut.k (k := .inr s) (e _ _ hd) (sz_lt (by omega)), k H2 e⟩
end
/-! ### the state -/
def stD (g c : Addr) (r t : Int) : List (Key × V) := [(.inr "great", .ref g), (.inr "cells", .ref c), (.inr "rest", .int r), (.inr "turn", .int t)]
theorem stD_great {g c : Addr} {r t : Int} : valV (stD g c r t) (.inr "great") = some (.ref g) := rfl
theorem stD_cells {g c : Addr} {r t : Int} : valV (stD g c r t) (.inr "cells") = some (.ref c) := rfl
theorem stD_rest {g c : Addr} {r t : Int} : valV (stD g c r t) (.inr "rest") = some (.int r) := rfl
theorem stD_turn {g c : Addr} {r t : Int} : valV (stD g c r t) (.inr "turn") = some (.int t) := rfl
theorem put_rest {g c : Addr} {r t x : Int} : putK (stD g c r t) (.inr "rest") (.int x) = stD g c x t := rfl
theorem put_turn {g c : Addr} {r t x : Int} : putK (stD g c r t) (.inr "turn") (.int x) = stD g c r x := rfl
theorem stD_len {g c : Addr} {r t : Int} : (stD g c r t).length < 1000 := show 4 < 1000 by decide
/-- the moduli of the mixing -/
def primes : List Int := [2147483629, 2147483647, 2147483563, 2147483587]
theorem primes_at (i : Nat) (x : V) (h : (primes.map V.int)[i]? = some x) : ∃ q : Int, x = .int q ∧ 2147483563 ≤ q ∧ q ≤ 2147483647 := by
  rcases i with _ | _ | _ | _ | i
  · cases h; exact ⟨_, rfl, by decide, by decide⟩
  · cases h; exact ⟨_, rfl, by decide, by decide⟩
  · cases h; exact ⟨_, rfl, by decide, by decide⟩
  · cases h; exact ⟨_, rfl, by decide, by decide⟩
  · cases h
structure StD (H : Hp) (a g c : Addr) (gs cs : List Int) (r t : Int) : Prop where
  hd : H a = some (.dK (stD g c r t))
  hg : H g = some (.lst (gs.map V.int))
  hc : H c = some (.lst (cs.map V.int))
  hn : g ≠ c
theorem StD.ag {H : Hp} {a g c : Addr} {gs cs : List Int} {r t : Int} (s : StD H a g c gs cs r t) : a ≠ g := by
  rintro rfl
  have h := s.hd.symm.trans s.hg
  cases h
theorem StD.ac {H : Hp} {a g c : Addr} {gs cs : List Int} {r t : Int} (s : StD H a g c gs cs r t) : a ≠ c := by
  rintro rfl
  have h := s.hd.symm.trans s.hc
  cases h
theorem StD.ex {H H' : Hp} {a g c : Addr} {gs cs : List Int} {r t : Int} (s : StD H a g c gs cs r t) (e : Ex H H') : StD H' a g c gs cs r t := ⟨e _ _ s.hd, e _ _ s.hg, e _ _ s.hc, s.hn⟩
theorem StD.put {H : Hp} {a g c : Addr} {gs cs : List Int} {r t r' t' : Int} (s : StD H a g c gs cs r t) : StD (upd H a (.dK (stD g c r' t'))) a g c gs cs r' t' :=
  ⟨upd_same, by rw [upd_ne s.ag.symm]; exact s.hg, by rw [upd_ne s.ac.symm]; exact s.hc, s.hn⟩
theorem StD.pop {H : Hp} {a g c : Addr} {gs cs gs' : List Int} {r t : Int} (s : StD H a g c gs cs r t) : StD (upd H g (.lst (gs'.map V.int))) a g c gs' cs r t :=
  ⟨by rw [upd_ne s.ag]; exact s.hd, upd_same, by rw [upd_ne s.hn.symm]; exact s.hc, s.hn⟩
/-- the state at a, its list of great ones at g; at most n turns so far -/
def StAt (H : Hp) (a g : Addr) (n : Nat) : Prop := ∃ c gs cs r t, StD H a g c gs cs r t ∧ 0 ≤ t ∧ t ≤ (n : Int)
theorem StAt.ex {H H' : Hp} {a g : Addr} {n : Nat} (s : StAt H a g n) (e : Ex H H') : StAt H' a g n := by
  obtain ⟨c, gs, cs, r, t, s, h⟩ := s
  exact ⟨c, gs, cs, r, t, s.ex e, h⟩
theorem StAt.mono {H : Hp} {a g : Addr} {n m : Nat} (s : StAt H a g n) (e : n ≤ m) : StAt H a g m := by
  obtain ⟨c, gs, cs, r, t, s, h, h'⟩ := s
  exact ⟨c, gs, cs, r, t, s, h, by omega⟩
/-- all but the state stands as it stood -/
def Kp (a g : Addr) (H H' : Hp) : Prop := ∀ b o, H b = some o → b ≠ a → b ≠ g → H' b = some o
theorem Kp.refl {a g : Addr} (H : Hp) : Kp a g H H := fun _ _ h _ _ => h
theorem Kp.trans {a g : Addr} {H H1 H2 : Hp} (x : Kp a g H H1) (y : Kp a g H1 H2) : Kp a g H H2 := fun b o h n m => y b o (x b o h n m) n m
theorem Kp.of {a g : Addr} {H H' : Hp} (e : Ex H H') : Kp a g H H' := fun b o h _ _ => e b o h
theorem Kp.a {a g : Addr} {H : Hp} {o : HO} : Kp a g H (upd H a o) := fun b u h n _ => by rw [upd_ne n]; exact h
theorem Kp.g {a g : Addr} {H : Hp} {o : HO} : Kp a g H (upd H g o) := fun b u h _ n => by rw [upd_ne n]; exact h
/-- the heap without the state -/
def hide (a g : Addr) (H : Hp) : Hp := fun b => if b = a ∨ b = g then none else H b
theorem hide_ex {a g : Addr} {H : Hp} : Ex (hide a g H) H := fun b o h => by
  unfold hide at h
  by_cases q : b = a ∨ b = g
  · rw [if_pos q] at h; cases h
  · rw [if_neg q] at h; exact h
theorem Kp.hide {a g : Addr} {H H' : Hp} (k : Kp a g H H') : Ex (hide a g H) (hide a g H') := fun b o h => by
  unfold Lk.hide at h ⊢
  by_cases q : b = a ∨ b = g
  · rw [if_pos q] at h; cases h
  · rw [if_neg q] at h ⊢
    exact k b o h (fun z => q (.inl z)) fun z => q (.inr z)
theorem hide_tx {a g : Addr} {n : Nat} {H : Hp} (s : StAt H a g n) : Tx H (hide a g H) := by
  obtain ⟨c, gs, cs, r, t, s, _⟩ := s
  rintro b xs h
  have hb : ¬ (b = a ∨ b = g) := by
    rintro (rfl | rfl)
    · rcases h with h | ⟨q, h⟩
      · have := s.hd.symm.trans h; cases this
      · have := s.hd.symm.trans h; cases this
    · rcases h with h | ⟨q, h⟩
      · have := s.hg.symm.trans h; cases this
      · have := s.hg.symm.trans h; cases this
  unfold Rd hide
  rw [if_neg hb]
  exact h
theorem Kp.tx {a g : Addr} {n : Nat} {H H' : Hp} (k : Kp a g H H') (s : StAt H a g n) : Tx H H' := (hide_tx s).trans ((Ex.tx k.hide).trans (Ex.tx hide_ex))
/-! ### what runs along with the state -/
section
variable {K : PySem.W.Frag} {a g : Addr} {σ : L2.St} {H H' : Hp} {ta tb te : TE} {tr : TA} {n m k l : Nat} {Φ Ψ : PyData → Prop} {d : PyData}
end
/-! ### the four helpers' promises -/
/-- draws beyond this number are not told -/
def far : Nat := 1000000000000
section
variable {K : PySem.W.Frag} {a g : Addr} {σ : L2.St} {H H' : Hp} {td te tl : TE} {tr : TA} {n m k l : Nat} {Φ Ψ : PyData → Prop} {room : Int}
end
/-- THE RULE for a def told by a run -/
theorem fn_run {P : Program} {w : World} {K : PySem.W.Frag} {mg : Str → Option Value} {base : Heap} {x qual : Str} {params : Arguments} {body : List Stmt} {scope : Scope} {f : Addr} {fd : FuncData} {N ps : List Str} {k : Nat} {sp : Sp}
    (D : FunD K x qual params body scope [] [] f fd) (S : FnScope N ps scope) (hl : ∀ vs H Q E, sp vs H Q E → vs.length = ps.length)
    (h : ∀ (cdv : Value) (A : Around) (outer : List Env) (s : Shared) (H : Hp) (E : XK), Room k (A.deeper (envOfC qual scope s.heap.objs.size f cdv)) →
      ∃ t, PSs (cxOf CX0 P w K mg base N qual scope f cdv A outer s H E).nox body t ∧ ∀ (vs : List V) (Q : VK), sp vs H Q E → t { nx := fun _ H' => Q .non H', rt := Q } (start N vs) H) :
    FnOk P w K mg base CX0 (k + 1) f fd ps sp := by
  refine D.ok S hl (fun cdv A outer s H vs Q E hr q => ?_)
  obtain ⟨t, h1, h2⟩ := h cdv A outer s H E hr
  exact ⟨t, h1.nox, h2 vs Q q⟩
/-! ### small readings -/
section
variable {K : PySem.W.Frag} {σ : L2.St} {H : Hp} {ta tb : TE} {b : Bool} {t : TT} {Q : VK} {r : R2}
theorem r_if (h : EvT t σ H b) (h1 : b = true → ∀ H1, Ex H H1 → ta σ H1 Q) (h2 : b = false → ∀ H1, Ex H H1 → tb σ H1 Q) : tIf t ta tb σ H Q := h H (Ex.refl H) _ fun H1 e => by
  cases b with
  | true =>
    show ta σ H1 Q
    exact h1 rfl H1 e
  | false =>
    show tb σ H1 Q
    exact h2 rfl H1 e
/-- the pairs of a display whose keys are texts -/
theorem r_pairEv {s : Str} {v : V} {rest : List (TE × TE)} {R : List (V × V) → Hp → Prop} (h : Ev ta σ H v) (k : ∀ H1, Ex H H1 → tPairs rest σ H1 fun ps H3 => R ((.str s, v) :: ps) H3) : tPairs ((tC (.str s), ta) :: rest) σ H R := h H (Ex.refl H) _ k
theorem r_pairEvL {s : Str} {xs : List V} {rest : List (TE × TE)} {R : List (V × V) → Hp → Prop} (h : EvL ta σ H xs) (k : ∀ p H1, H p = none → Ex H H1 → H1 p = some (.lst xs) → tPairs rest σ H1 fun ps H3 => R ((.str s, .ref p) :: ps) H3) : tPairs ((tC (.str s), ta) :: rest) σ H R := h H (Ex.refl H) _ k
/-- xs.pop(0) -/
theorem r_pop0 {g : Addr} {x : V} {xs : List V} (h : Ev ta σ H (.ref g)) (hg : H g = some (.lst (x :: xs))) (k : ∀ H1, Ex H H1 → Q x (upd H1 g (.lst xs))) : tBM K "list" rPopAt ta (tCons (tC (.int 0)) tNil) σ H Q :=
  h H (Ex.refl H) _ fun H1 e => ⟨Or.inl ⟨rfl, x :: xs, sq_of (e _ _ hg)⟩, g, x :: xs, 0, 0, x, rfl, rfl, e _ _ hg, by decide, by decide, (by
    unfold seqIndex?
    simp), rfl, k H1 e⟩
end
theorem dec_vi' (i j : Int) : decide (V.int i = V.int j) = decide (i = j) := by
  by_cases h : i = j
  · subst h; simp
  · rw [decide_eq_false h, decide_eq_false]
    intro q
    exact h (V.int.inj q)
theorem ints_lay : ∀ ns : List Int, PyData.canLayAll0 (ns.map PyData.int) = true
  | [] => by simp [PyData.canLayAll0]
  | n :: ns => by simp [PyData.canLayAll0, PyData.canLay0, ints_lay ns]
theorem ints_depth : ∀ ns : List Int, PyData.depthAll (ns.map PyData.int) ≤ 2
  | [] => by simp [PyData.depthAll]
  | n :: ns => by
    have h1 := ints_depth ns
    simp only [List.map_cons, PyData.depthAll, PyData.depth]
    omega
theorem sh_ints (ns : List Int) : SeqAt.shaped (.list (ns.map PyData.int)) = true := by
  have h1 := ints_depth ns
  have h2 : PyData.depth (.list (ns.map PyData.int)) ≤ 64 := by
    simp only [PyData.depth]
    omega
  unfold SeqAt.shaped
  rw [decide_eq_true h2, PyData.canLay0, ints_lay]
  rfl
end Lk

/-! part LkLam -/
/-! Lk, part 7: defs that hand a lambda to «caught»; what stands through it. -/
namespace Lk
open PySem PySem.Spec PyProof.Rows L2 Evl LamX
/-! ### heaps -/
/-- all but the state and the tables stands -/
def Kn (a g : Addr) (H H' : Hp) : Prop := ∀ b o, H b = some o → b ≠ a → b ≠ g → (∀ ps, o ≠ .tbl ps) → H' b = some o
theorem Kn.refl {a g : Addr} (H : Hp) : Kn a g H H := fun _ _ h _ _ _ => h
theorem Kn.trans {a g : Addr} {H H1 H2 : Hp} (x : Kn a g H H1) (y : Kn a g H1 H2) : Kn a g H H2 := fun b o h n m t => y b o (x b o h n m t) n m t
theorem Kn.kp {a g : Addr} {H H' : Hp} (k : Kp a g H H') : Kn a g H H' := fun b o h n m _ => k b o h n m
theorem Kn.of {a g : Addr} {H H' : Hp} (e : Ex H H') : Kn a g H H' := fun b o h _ _ _ => e b o h
theorem Kn.ext {a g : Addr} {H H' : Hp} (e : ExtN H H') : Kn a g H H' := fun b o h _ _ t => e b o h t
theorem Kn.tx {a g : Addr} {n : Nat} {H H' : Hp} (k : Kn a g H H') (s : StAt H a g n) : Tx H H' := fun b xs h => by
  obtain ⟨c, gs, cs, r, t, s, _⟩ := s
  have hb : b ≠ a := by
    rintro rfl
    rcases h with h | ⟨q, h⟩ <;> exact nomatch s.hd.symm.trans h
  have hg : b ≠ g := by
    rintro rfl
    rcases h with h | ⟨q, h⟩ <;> exact nomatch s.hg.symm.trans h
  rcases h with h | ⟨q, h⟩
  · exact .inl (k b _ h hb hg fun ps z => nomatch z)
  · exact .inr ⟨q, k b _ h hb hg fun ps z => nomatch z⟩
theorem extN_tx {H H' : Hp} (e : ExtN H H') : Tx H H' := fun b xs h => by
  rcases h with h | ⟨q, h⟩
  · exact .inl (e b _ h fun ps z => nomatch z)
  · exact .inr ⟨q, e b _ h fun ps z => nomatch z⟩
theorem StAt.ext {H H' : Hp} {a g : Addr} {n : Nat} (s : StAt H a g n) (e : ExtN H H') : StAt H' a g n := by
  obtain ⟨c, gs, cs, r, t, s, h⟩ := s
  exact ⟨c, gs, cs, r, t, ⟨e _ _ s.hd (fun ps z => nomatch z), e _ _ s.hg (fun ps z => nomatch z), e _ _ s.hc (fun ps z => nomatch z), s.hn⟩, h⟩
mutual
theorem dp_ext {K : PySem.W.Frag} {H H' : Hp} (e : ExtN H H') : ∀ (d : PyData) (v : V), Dq K H v d → Dq K H' v d
  | .none, _, .non => .non
  | .bool b, _, .bl _ => .bl b
  | .int i, _, .int _ => .int i
  | .str x, _, .str _ => .str x
  | .list ds, _, .lst s a => .lst (by
      rcases s with (s | ⟨q, s⟩) | s
      · exact .inl (.inl (e _ _ s fun ps z => nomatch z))
      · exact .inl (.inr ⟨q, e _ _ s fun ps z => nomatch z⟩)
      · exact .inr s) (dps_ext e ds _ a)
  | .tuple ds, _, .tup s a => .tup (by
      rcases s with s | s
      · exact .inl (extN_tx e _ _ s)
      · exact .inr s) (dps_ext e ds _ a)
  | .dict _, _, .dct h => .dct (e _ _ h fun ps z => nomatch z)
  | .dict _, _, .ndc h k a => .ndc (e _ _ h fun ps z => nomatch z) k (dps_ext e _ _ a)
theorem dps_ext {K : PySem.W.Frag} {H H' : Hp} (e : ExtN H H') : ∀ (ds : List PyData) (vs : List V), DqAll K H vs ds → DqAll K H' vs ds
  | [], _, .nil => .nil
  | d :: ds, _, .cons h r => .cons (dp_ext e d _ h) (dps_ext e ds _ r)
end
theorem codeO_nd {c : Addr} {q : Str} : (∀ kvs, CodeO c q ≠ .dK kvs) ∧ ∀ xs, CodeO c q ≠ .lst xs := ⟨(fun _ z => nomatch z), (fun _ z => nomatch z)⟩
/-- the tables stand through the draws -/
theorem Tabs.kp {T : List (Addr × Str)} {a g : Addr} {n : Nat} {H H' : Hp} (t : Tabs T H) (s : StAt H a g n) (k : Kp a g H H') : Tabs T H' := fun p hp => by
  obtain ⟨c, gs, cs, r, t', s, _⟩ := s
  obtain ⟨ps, h1, h2, h3⟩ := t p hp
  have ne : ∀ b o, H b = some o → (∀ kvs, o ≠ .dK kvs) → (∀ xs, o ≠ .lst xs) → H' b = some o := fun b o h n1 n2 => k b o h (by
    rintro rfl
    exact n1 _ (Option.some.inj (h.symm.trans s.hd))) (by
    rintro rfl
    exact n2 _ (Option.some.inj (h.symm.trans s.hg)))
  refine ⟨ps, ne _ _ h1 (fun _ z => nomatch z) (fun _ z => nomatch z), h2, fun pos cv hc => ?_⟩
  obtain ⟨c, e1, e2⟩ := h3 pos cv hc
  exact ⟨c, e1, ne _ _ e2 codeO_nd.1 codeO_nd.2⟩
/-! ### a def that makes lambdas -/
/-- what stands of the code object of the def x, of its table -/
structure LamD (K : PySem.W.Frag) (mg : Str → Option Value) (base : Heap) (T : List (Addr × Str)) (x q : Str) : Prop where
  tb : TabB base mg (He.codeOf K (x, none)) (He.tabOf K (He.codeOf K (x, none)))
  mem : (He.tabOf K (He.codeOf K (x, none)), q) ∈ T
  one : ∀ p ∈ T, p.1 = He.tabOf K (He.codeOf K (x, none)) → p.2 = q
section
variable {X : Cx}
end
section
variable {K : PySem.W.Frag} {T : List (Addr × Str)} {CS C : Addr} {σ : L2.St} {H : Hp} {R : Rel} {ta : TA} {Q : VK} {ds : List PyData}
end
/-! ### a, b, c = a tuple; x in a new list -/
section
variable {K K' : PySem.W.Frag} {σ : L2.St} {H : Hp} {te : TE} {D : Ends} {tz : TS} {i j l : Nat} {d1 d2 d3 : PyData}
end
end Lk

/-! part LkRun -/
/-! Lk, part 8: defs that draw: promises, displays, loops; data in a tuple of data. -/
namespace Lk
open PySem PySem.Spec PyProof.Rows L2 Evl LamX
/-! ### promises -/
section
variable {K : PySem.W.Frag} {a g : Addr} {σ : L2.St} {H H' : Hp} {td te tl : TE} {ta tr : TA} {n m k l c : Nat} {Φ : PyData → Prop} {Ψ : List PyData → Prop} {d : PyData} {ds : List PyData} {A : List PyData → Prop} {Θ : List PyData → PyData → Prop}
end
/-! ### data in a tuple -/
section
variable {X : Cx}
end
section
variable {K K' : PySem.W.Frag} {σ : L2.St} {H : Hp} {ta tb : TE} {d : PyData} {ds : List PyData}
end
/-! ### tests that draw -/
section
variable {K : PySem.W.Frag} {a g : Addr} {σ : L2.St} {H H' : Hp} {td te tl ta tb : TE} {tr : TA} {t u : TT} {n m k l c : Nat} {Φ : PyData → Prop} {T : List (Addr × Str)} {b b2 : Bool} {A : List PyData → Prop} {Θ : List PyData → PyData → Prop}
end
/-! ### tuples joined -/
theorem log2_of {n k c : Nat} (h : n < 2 ^ k) (hk : k ≤ c) (hc : 0 < c) : n.log2 < c := by
  by_cases h0 : n = 0
  · subst h0
    exact Nat.lt_of_le_of_lt (Nat.log2_le_self 0) hc
  · exact Nat.lt_of_lt_of_le ((Nat.log2_lt h0).mpr h) hk
theorem XcT.v {K : PySem.W.Frag} {mg : Str → Option Value} {x : Str} {C : Addr} (h : XcT K mg x C) : ∃ u, mg x = some u ∧ RelV (.ref C) u := ⟨_, h.gl, rfl⟩
/-- what stands of an own class of errors, to be asked of and to be caught by CS -/
structure XiT (K : PySem.W.Frag) (mg : Str → Option Value) (CS : Addr) (x : Str) (C : Addr) : Prop where
  e : ExcC K C
  k : PySem.W.kitOne K (.ref C) (.ref C) = some true
  ex : PySem.W.exmOne K (.ref C) (.ref CS) = some true
  g : mg x = some (.ref C)
theorem XiT.v {K : PySem.W.Frag} {mg : Str → Option Value} {x : Str} {C CS : Addr} (h : XiT K mg CS x C) : ∃ u, mg x = some u ∧ RelV (.ref C) u := ⟨_, h.g, rfl⟩
theorem units1 {k : Nat} {A : Around} (r : Room k A) : A.units + 65 < cLine := by
  have := r.un
  omega
/-! ### shapes of lists -/
/-- a store into an object that was new -/
theorem ExtN.mut {H H' : Hp} {p : Addr} {o : HO} (e : ExtN H H') (hp : H p = none) : ExtN H (upd H' p o) := fun b u h t => by
  rw [upd_ne (ne_of_none h hp)]
  exact e b u h t
theorem Tabs.lst {T : List (Addr × Str)} {H : Hp} {p : Addr} {xs : List V} {o : HO} (t : Tabs T H) (hp : H p = some (.lst xs)) : Tabs T (upd H p o) := fun r hr => by
  obtain ⟨ps, h1, h2, h3⟩ := t r hr
  have ne : ∀ b u, H b = some u → (∀ xs, u ≠ .lst xs) → upd H p o b = some u := fun b u h n => by
    rw [upd_ne]
    · exact h
    · rintro rfl
      exact n _ (Option.some.inj (h.symm.trans hp))
  refine ⟨ps, ne _ _ h1 (fun _ z => nomatch z), h2, fun pos cv hc => ?_⟩
  obtain ⟨c, e1, e2⟩ := h3 pos cv hc
  exact ⟨c, e1, ne _ _ e2 codeO_nd.2⟩
end Lk

/-! part LkStr -/
/-! Lk: walks over tuples and texts told by data; all of answers; a tuple beside (). -/
namespace Lk
open PySem PySem.Spec PyProof.Rows L2 Evl
/-! ### t == () -/
def rEqNil (K : PySem.W.Frag) : R2 := fun x y H Q => ∃ a b xs, x = .ref a ∧ y = .ref b ∧ SqT K H a xs ∧ SqT K H b [] ∧ Q (.bl (decide (xs.length = 0))) H
theorem op_eqNil {X : Cx} (hu : X.A.units < cLine) : OpR X (compareOp .Eq) (rEqNil X.K) := by
  rintro pins s σ H x y v u Q I rx ry ⟨a, b, xs, rfl, rfl, ha, hb, q⟩
  cases rx
  cases ry
  obtain ⟨its, r1, p1, _⟩ := I.tuple ha
  obtain ⟨its2, r2, p2, _⟩ := I.tuple hb
  have e2 : its2 = [] := by cases r2; rfl
  subst e2
  refine SeqAt.eq_tupleAt (e := fun _ => true) p1 p2 hu (fun j _ h2 => absurd h2 (by simp)) ?_
  have e : ((List.range (min its.toArray.size ([] : List Value).toArray.size)).all (fun _ => true) && its.toArray.size == ([] : List Value).toArray.size) = decide (xs.length = 0) := by
    rw [r1.length, List.all_eq_true.mpr (fun _ _ => rfl), Bool.true_and, List.size_toArray, List.size_toArray]
    by_cases h : its.length = 0
    · rw [decide_eq_true h, h]
      rfl
    · rw [decide_eq_false h]
      exact beq_eq_false_iff_ne.mpr h
  rw [e]
  exact ⟨.bl _, H, I, rfl, q⟩
section
variable {K K' : PySem.W.Frag} {σ : L2.St} {H : Hp} {ta te tl : TE} {t : TT} {d : PyData} {ds : List PyData}
/-! ### all of a list of answers -/
/-! ### comprehensions over tuples, over texts -/
/-! ### texts -/
/-! ### loops over tuples, lists -/
/-! ### t <= u of whole numbers -/
/-! ### is it a tuple of n items? -/
end
/-! ### data whose texts are short -/
mutual
def smD : PyData → Bool
  | .str x => decide (x.length ≤ 1000)
  | .list ds => smDs ds
  | .tuple ds => smDs ds
  | _ => true
def smDs : List PyData → Bool
  | [] => true
  | d :: ds => smD d && smDs ds
end
theorem RV.is {r : R2} {x y z z' : V} {H : Hp} (h : RV r x y H z) (e : z = z') : RV r x y H z' := by
  rw [← e]
  exact h
end Lk

/-! part LkSl -/
/-! Lk: t[1:] of a tuple told by data; x is None. -/
namespace Lk
open PySem PySem.Spec PyProof.Rows L2 Evl
section
variable {K K' : PySem.W.Frag} {σ : L2.St} {H : Hp} {ta te tl : TE} {t : TT} {d : PyData} {ds : List PyData}
end
end Lk

/-! part LkRev -/
/-! Lk: t[::-1] of a tuple. -/
namespace Lk
open PySem PySem.Spec PyProof.Rows L2 Evl HT
section
variable {prog : Program} {w : World} {A : Around} {E : Value → Shared → Prop} {s : Shared}
end
end Lk

/-! part LkMut -/
/-! Lk: lists that a def makes and writes: the fresh list of a comprehension, walks that leave tuples as they are. -/
namespace Lk
open PySem PySem.Spec PyProof.Rows L2 Evl
section
variable {K K' : PySem.W.Frag} {σ : L2.St} {H : Hp} {te tl : TE} {t : TT} {ds : List PyData} {D : Ends} {tz : TS}
/-- the list at l holds ds; it is no part of the heap H0; tuples of H3 stand -/
def TabAt (K : PySem.W.Frag) (H0 H3 : Hp) (l : Addr) (ds : List PyData) (H' : Hp) : Prop := Ex H0 H' ∧ Tx H3 H' ∧ tupos ds = true ∧ ∃ acc, H' l = some (.lst acc) ∧ DqAll K H' acc ds
theorem TabAt.mono {H0 H3 H' H2 : Hp} {l : Addr} (s : TabAt K H0 H3 l ds H') (e : Ex H' H2) : TabAt K H0 H3 l ds H2 := by
  obtain ⟨a, b, c, acc, d, f⟩ := s
  exact ⟨a.trans e, b.trans (Ex.tx e), c, acc, e l _ d, dps_ex e _ _ f⟩
theorem dps_set {H' : Hp} {v : V} {d : PyData} (dv : Dq K H' v d) : ∀ {ds : List PyData} {xs : List V} {j : Nat}, DqAll K H' xs ds → DqAll K H' (xs.set j v) (ds.set j d)
  | [], _, _, .nil => .nil
  | _ :: _, _, 0, .cons a b => .cons dv b
  | _ :: _, _, j + 1, .cons a b => .cons a (dps_set dv b)
theorem tupos_set {d : PyData} (t : tupo d = true) : ∀ {ds : List PyData} {j : Nat}, tupos ds = true → tupos (ds.set j d) = true
  | [], _, h => h
  | a :: ds, 0, h => by
    rw [tupos] at h
    rw [List.set_cons_zero, tupos, t, (Bool.and_eq_true_iff.mp h).2]
    rfl
  | a :: ds, j + 1, h => by
    rw [tupos] at h
    rw [List.set_cons_succ, tupos, (Bool.and_eq_true_iff.mp h).1, tupos_set t (Bool.and_eq_true_iff.mp h).2]
    rfl
theorem TabAt.set {H0 H3 H' : Hp} {l : Addr} {v : V} {d : PyData} {j : Nat} (s : TabAt K H0 H3 l ds H') (h0 : H0 l = none) (dv : Dq K H' v d) (t : tupo d = true) :
    ∃ acc, H' l = some (.lst acc) ∧ acc.length = ds.length ∧ TabAt K H0 H3 l (ds.set j d) (upd H' l (.lst (acc.set j v))) := by
  obtain ⟨a, b, c, acc, e, f⟩ := s
  refine ⟨acc, e, dps_len f, Ex.mut a h0, b.trans (Tx.lst e), tupos_set t c, _, upd_same, ?_⟩
  exact dps_tx (Tx.lst e) _ _ (tupos_set t c) (dps_set dv f)
end
end Lk

/-! part LkSet -/
/-! Lk, part 9: len(set(t)), t a tuple of unlike tuples of whole numbers and texts. -/
namespace Lk
open PySem PySem.Spec PyProof.Rows L2
section
variable {P : Program} {w : World} {A : Around} {E : Value → Shared → Prop} {s : Shared}
/-- the tuple at a holds the keys k -/
abbrev KeyT (P : Program) (w : World) (h : Heap) (k : List Key) (a : Addr) : Prop := IsTupleKey (mixKind P w) h k a
abbrev kh (P : Program) (w : World) (k : List Key) : Int := tupleKeyHash (mixKind P w) k
abbrev Ent : Type := Addr × List Key
def rowK (P : Program) (w : World) (p : Ent) : Int × Value := (kh P w p.2, Value.ref p.1)
/-- the set at a holds the entries L, all unlike -/
structure SetD (P : Program) (w : World) (h : Heap) (a : Addr) (L : List Ent) (o : Obj) (es : Array (Int × Value)) (ep : Nat) (t : SetTable) : Prop where
  at_ : h.get? a = some o
  exact_ : o.ExactSet
  data : o.data = .set es ep t
  rows : es.toList = L.map (rowK P w)
  tab : TabOk t (L.map fun p => kh P w p.2)
  room : L.length * 5 < t.mask * 3
  keys : ∀ p ∈ L, KeyT P w h p.2 p.1
variable {a : Addr} {L : List Ent} {o : Obj} {es : Array (Int × Value)} {ep : Nat} {t : SetTable}
theorem SetD.size {h : Heap} (R : SetD P w h a L o es ep t) : es.size = L.length := by
  rw [← Array.length_toList, R.rows, List.length_map]
theorem SetD.places {h : Heap} (R : SetD P w h a L o es ep t) : t.place.size = L.length := by
  have q := R.tab.sz
  rw [List.length_map] at q
  exact q
theorem fits_of {n : Nat} (hd : t.dummies = #[]) (hs : t.place.size = n) (hm : n ≤ t.mask) : t.fits n = true := by
  unfold SetTable.fits SetTable.fill
  rw [hd, hs, beq_self_eq_true, Bool.true_and, decide_eq_true_eq]
  show n + 0 ≤ t.mask
  omega
theorem SetD.fits {h : Heap} (R : SetD P w h a L o es ep t) : t.fits es.size = true := by
  have q := R.room
  exact fits_of R.tab.dm (R.places.trans R.size.symm) (by rw [R.size]; omega)
theorem SetD.entry {h : Heap} (R : SetD P w h a L o es ep t) {i : Nat} {p : Ent} (hi : L[i]? = some p) : es[i]? = some (rowK P w p) := by
  rw [← Array.getElem?_toList, R.rows, List.getElem?_map, hi, Option.map_some]
theorem dummy_none (m : Nat) : ∀ (n : Nat) (p : SetTable.Probe), p.dummy = none → (nth m p n).dummy = none
  | 0, _, h => h
  | n + 1, p, h => dummy_none m n (adv m p) (by
    unfold adv
    split <;> exact h)
/-! ### laying anew -/
theorem filterMap_as {α β : Type} {f : α → Option β} {g : α → β} : ∀ {l : List α}, (∀ x ∈ l, f x = some (g x)) → l.filterMap f = l.map g
  | [], _ => rfl
  | x :: l, h => by
    rw [List.filterMap_cons_some (h x List.mem_cons_self), List.map_cons, filterMap_as fun y hy => h y (List.mem_cons_of_mem _ hy)]
theorem filterMap_all {α : Type} (L : List α) : (List.range L.length).filterMap (fun i => L[i]?) = L := by
  induction L with
  | nil => rfl
  | cons x L ih =>
    rw [List.length_cons, List.range_succ_eq_map]
    simp only [List.filterMap_cons, List.getElem?_cons_zero, List.filterMap_map]
    exact congrArg (x :: ·) ih
theorem TabOk.unplain {hs : List Int} {b : Bool} (T : TabOk t hs) : TabOk { t with plain := b } hs := ⟨T.ris, T.dm, T.sz, T.mok, T.bd, T.reach⟩
/-! ### adding -/
/-! ### set(t) -/
def Keeps (h h' : Heap) : Prop := ∀ b o, h.get? b = some o → h'.get? b = some o
theorem SetD.stay {h h' : Heap} (R : SetD P w h a L o es ep t) (ha : h'.get? a = some o) (hk : ∀ p ∈ L, KeyT P w h' p.2 p.1) : SetD P w h' a L o es ep t := ⟨ha, R.exact_, R.data, R.rows, R.tab, R.room, hk⟩
/-- a set, empty and new -/
abbrev newSet (w : World) : Obj := { cls := .type "set", dict := none, data := .set #[] 0 (.fresh 0 0 (!w.params.followText "set-order")) }
end
end Lk

/-! part LkSetB -/
/-! Lk, part 10: the same as a reading. -/
namespace Lk
open PySem PySem.Spec PyProof.Rows L2 Evl
section
variable {X : Cx}
end
end Lk

/-! part LkSetC -/
/-! Lk: sorted(set(l)), l a list of whole numbers. -/
namespace Lk
open PySem PySem.Spec PyProof.Rows L2 Evl
section
variable {P : Program} {w : World} {A : Around} {E : Value → Shared → Prop} {s : Shared}
end
end Lk

/-! part LkSetE -/
/-! Lk: sorted(set(l)), l a list of whole numbers. -/
namespace Lk
open PySem PySem.Spec PyProof.Rows L2 Evl
end Lk

/-! part LkEq -/
/-! Lk: == and `in` where the one side is of the known shape, the other any data (empty dicts within). -/
namespace Lk
open PySem PySem.Spec PyProof.Rows L2 Evl LamX
open SeqAt
open AutoSeq1 (wpAny_loadPart')
open MeetsSeq
theorem eq_dcl_dict_none (l : Addr) (es : Array DictEntry) (n : Nat) (dd : Option Addr) (sl : Array (Option Value)) :
    Meets (Builtin.«dict.__eq__» ⟨[.ref l, .none], []⟩) (fun _ R s => s.heap.get? l = some { cls := .type "dict", dict := dd, data := .dict es n, slots := sl } ∧ R (.ok (.ret .notImplemented)) s) :=
  .of_wp fun prog w A R s h => by obtain ⟨hp, g, d, tk, os⟩ := s; obtain ⟨hl, h⟩ := h; have f1 := F.sub_NoneType_dict; wp_walk using wpAny_loadPart' hl; exact ⟨_, rfl, h⟩
theorem eq_dcl_dict_bool (l : Addr) (es : Array DictEntry) (n : Nat) (dd : Option Addr) (sl : Array (Option Value)) (b : Bool) :
    Meets (Builtin.«dict.__eq__» ⟨[.ref l, .bool b], []⟩) (fun _ R s => s.heap.get? l = some { cls := .type "dict", dict := dd, data := .dict es n, slots := sl } ∧ R (.ok (.ret .notImplemented)) s) :=
  .of_wp fun prog w A R s h => by obtain ⟨hp, g, d, tk, os⟩ := s; obtain ⟨hl, h⟩ := h; have f1 := F.sub_bool_dict; wp_walk using wpAny_loadPart' hl; exact ⟨_, rfl, h⟩
theorem eq_dcl_dict_int (l : Addr) (es : Array DictEntry) (n : Nat) (dd : Option Addr) (sl : Array (Option Value)) (b : Int) (u : Tok) :
    Meets (Builtin.«dict.__eq__» ⟨[.ref l, .int b u], []⟩) (fun _ R s => s.heap.get? l = some { cls := .type "dict", dict := dd, data := .dict es n, slots := sl } ∧ R (.ok (.ret .notImplemented)) s) :=
  .of_wp fun prog w A R s h => by obtain ⟨hp, g, d, tk, os⟩ := s; obtain ⟨hl, h⟩ := h; have f1 := F.sub_int_dict; wp_walk using wpAny_loadPart' hl; exact ⟨_, rfl, h⟩
theorem eq_dcl_dict_str (l : Addr) (es : Array DictEntry) (n : Nat) (dd : Option Addr) (sl : Array (Option Value)) (b : Str) (u : Tok) :
    Meets (Builtin.«dict.__eq__» ⟨[.ref l, .str b u], []⟩) (fun _ R s => s.heap.get? l = some { cls := .type "dict", dict := dd, data := .dict es n, slots := sl } ∧ R (.ok (.ret .notImplemented)) s) :=
  .of_wp fun prog w A R s h => by obtain ⟨hp, g, d, tk, os⟩ := s; obtain ⟨hl, h⟩ := h; have f1 := F.sub_str_dict; wp_walk using wpAny_loadPart' hl; exact ⟨_, rfl, h⟩
theorem eq_dcl_dict_tuple (l b : Addr) (es : Array DictEntry) (items : Array Value) (n n2 : Nat) (dd dd2 : Option Addr) (sl sl2 : Array (Option Value)) :
    Meets (Builtin.«dict.__eq__» ⟨[.ref l, .ref b], []⟩) (fun _ R s => s.heap.get? l = some { cls := .type "dict", dict := dd, data := .dict es n, slots := sl } ∧ s.heap.get? b = some { cls := .type "tuple", dict := dd2, data := .seq items n2, slots := sl2 } ∧ R (.ok (.ret .notImplemented)) s) :=
  .of_wp fun prog w A R s h => by obtain ⟨hp, g, d, tk, os⟩ := s; obtain ⟨hl, hb, h⟩ := h; have f1 := F.sub_tuple_dict; wp_walk using wpAny_loadPart' hl, wpAny_loadPart' hb; exact ⟨_, rfl, h⟩
theorem eq_dcl_dict_list (l b : Addr) (es : Array DictEntry) (items : Array Value) (n n2 : Nat) (dd dd2 : Option Addr) (sl sl2 : Array (Option Value)) :
    Meets (Builtin.«dict.__eq__» ⟨[.ref l, .ref b], []⟩) (fun _ R s => s.heap.get? l = some { cls := .type "dict", dict := dd, data := .dict es n, slots := sl } ∧ s.heap.get? b = some { cls := .type "list", dict := dd2, data := .seq items n2, slots := sl2 } ∧ R (.ok (.ret .notImplemented)) s) :=
  .of_wp fun prog w A R s h => by obtain ⟨hp, g, d, tk, os⟩ := s; obtain ⟨hl, hb, h⟩ := h; have f1 := F.sub_list_dict; wp_walk using wpAny_loadPart' hl, wpAny_loadPart' hb; exact ⟨_, rfl, h⟩
theorem eq_dcl_tuple_dict (l b : Addr) (es : Array DictEntry) (items : Array Value) (n n2 : Nat) (dd dd2 : Option Addr) (sl sl2 : Array (Option Value)) :
    Meets (Builtin.«tuple.__eq__» ⟨[.ref l, .ref b], []⟩) (fun _ R s => s.heap.get? l = some { cls := .type "tuple", dict := dd, data := .seq items n, slots := sl } ∧ s.heap.get? b = some { cls := .type "dict", dict := dd2, data := .dict es n2, slots := sl2 } ∧ R (.ok (.ret .notImplemented)) s) :=
  .of_wp fun prog w A R s h => by obtain ⟨hp, g, d, tk, os⟩ := s; obtain ⟨hl, hb, h⟩ := h; have f1 := F.sub_dict_tuple; wp_walk using wpAny_loadPart' hl, wpAny_loadPart' hb; exact ⟨_, rfl, h⟩
theorem eq_dcl_list_dict (l b : Addr) (es : Array DictEntry) (items : Array Value) (n n2 : Nat) (dd dd2 : Option Addr) (sl sl2 : Array (Option Value)) :
    Meets (Builtin.«list.__eq__» ⟨[.ref l, .ref b], []⟩) (fun _ R s => s.heap.get? l = some { cls := .type "list", dict := dd, data := .seq items n, slots := sl } ∧ s.heap.get? b = some { cls := .type "dict", dict := dd2, data := .dict es n2, slots := sl2 } ∧ R (.ok (.ret .notImplemented)) s) :=
  .of_wp fun prog w A R s h => by obtain ⟨hp, g, d, tk, os⟩ := s; obtain ⟨hl, hb, h⟩ := h; have f1 := F.sub_dict_list; wp_walk using wpAny_loadPart' hl, wpAny_loadPart' hb; exact ⟨_, rfl, h⟩
theorem eq_dcl_bool_dict (b : Bool) (l : Addr) (c : Value) (es : Array DictEntry) (n : Nat) (dd : Option Addr) (sl : Array (Option Value)) :
    Meets (Builtin.«int.__eq__» ⟨[.bool b, .ref l], []⟩) (fun _ R s => s.heap.get? l = some { cls := c, dict := dd, data := .dict es n, slots := sl } ∧ R (.ok (.ret .notImplemented)) s) :=
  .of_wp fun prog w A R s h => by obtain ⟨hp, g, d, tk, os⟩ := s; obtain ⟨hl, h⟩ := h; wp_walk using wpAny_loadPart' hl, wpAny_load hl; exact ⟨_, rfl, h⟩
theorem eq_dcl_int_dict (b : Int) (u : Tok) (l : Addr) (c : Value) (es : Array DictEntry) (n : Nat) (dd : Option Addr) (sl : Array (Option Value)) :
    Meets (Builtin.«int.__eq__» ⟨[.int b u, .ref l], []⟩) (fun _ R s => s.heap.get? l = some { cls := c, dict := dd, data := .dict es n, slots := sl } ∧ R (.ok (.ret .notImplemented)) s) :=
  .of_wp fun prog w A R s h => by obtain ⟨hp, g, d, tk, os⟩ := s; obtain ⟨hl, h⟩ := h; wp_walk using wpAny_loadPart' hl, wpAny_load hl; exact ⟨_, rfl, h⟩
theorem eq_dcl_str_dict (b : Str) (u : Tok) (l : Addr) (c : Value) (es : Array DictEntry) (n : Nat) (dd : Option Addr) (sl : Array (Option Value)) :
    Meets (Builtin.«str.__eq__» ⟨[.str b u, .ref l], []⟩) (fun _ R s => s.heap.get? l = some { cls := c, dict := dd, data := .dict es n, slots := sl } ∧ R (.ok (.ret .notImplemented)) s) :=
  .of_wp fun prog w A R s h => by obtain ⟨hp, g, d, tk, os⟩ := s; obtain ⟨hl, h⟩ := h; wp_walk using wpAny_loadPart' hl, wpAny_load hl; exact ⟨_, rfl, h⟩
/-- an object that is a dict -/
def IsDc (h : Heap) (a : Addr) : Prop := ∃ o, h.get? a = some o ∧ o.cls = .type "dict" ∧ ∃ es n, o.data = .dict es n
section
variable {A : Around} {s : Shared} {l b : Addr} {items : Array Value}
theorem rc_none_dict (hl : IsDc s.heap l) (hu : A.units < cLine) : RcAt A s .none (.ref l) false := fun prog w E Q h => by
  obtain ⟨⟨cls, dd, data, sl⟩, ho, hc, es, n, hd⟩ := id hl
  simp only at hc hd
  subst hc hd
  exact rc_eq_decline_or (k := false) rfl ⟨_, ho, rfl⟩ (by decide) F.sub_dict_NoneType F.slot_NoneType_eq F.slot_dict_eq_refl
    (fun _ hq => call_gives F.slot_NoneType_eq rfl F.entry_NoneType_eq (F.args_NoneType_eq_2 _ _) (NoneType___eq___none_ref_0 l) hq)
    (fun _ hq => call_meets F.slot_dict_eq_refl ⟨_, ho, rfl⟩ F.entry_dict_eq (F.args_dict_eq_2 _ _) (eq_dcl_dict_none l es n dd sl) ⟨ho, hq⟩)
    (fun _ hq => wpAny_of_eq (rfl : isSame .none (.ref l) = pure false) hq) (.inr hu) h
theorem rc_bool_dict (x : Bool) (hl : IsDc s.heap l) (hu : A.units < cLine) : RcAt A s (.bool x) (.ref l) false := fun prog w E Q h => by
  obtain ⟨⟨cls, dd, data, sl⟩, ho, hc, es, n, hd⟩ := id hl
  simp only at hc hd
  subst hc hd
  exact rc_eq_decline_or (k := false) rfl ⟨_, ho, rfl⟩ (by decide) F.sub_dict_bool F.slot_bool_eq F.slot_dict_eq_refl
    (fun _ hq => call_meets F.slot_bool_eq rfl F.entry_int_eq (F.args_int_eq_2 _ _) (eq_dcl_bool_dict x l (.type "dict") es n dd sl) ⟨ho, hq⟩)
    (fun _ hq => call_meets F.slot_dict_eq_refl ⟨_, ho, rfl⟩ F.entry_dict_eq (F.args_dict_eq_2 _ _) (eq_dcl_dict_bool l es n dd sl x) ⟨ho, hq⟩)
    (fun _ hq => wpAny_of_eq (rfl : isSame (.bool x) (.ref l) = pure false) hq) (.inr hu) h
theorem rc_int_dict (x : Int) (u : Tok) (hl : IsDc s.heap l) (hu : A.units < cLine) : RcAt A s (.int x u) (.ref l) false := fun prog w E Q h => by
  obtain ⟨⟨cls, dd, data, sl⟩, ho, hc, es, n, hd⟩ := id hl
  simp only at hc hd
  subst hc hd
  exact rc_eq_decline_or (k := false) (typeIs_int s x u) ⟨_, ho, rfl⟩ (by decide) F.sub_dict_int F.slot_int_eq F.slot_dict_eq_refl
    (fun _ hq => call_meets F.slot_int_eq (typeIs_int s x u) F.entry_int_eq (F.args_int_eq_2 _ _) (eq_dcl_int_dict x u l (.type "dict") es n dd sl) ⟨ho, hq⟩)
    (fun _ hq => call_meets F.slot_dict_eq_refl ⟨_, ho, rfl⟩ F.entry_dict_eq (F.args_dict_eq_2 _ _) (eq_dcl_dict_int l es n dd sl x u) ⟨ho, hq⟩)
    (fun _ hq => wpAny_of_eq (rfl : isSame (.int x u) (.ref l) = pure false) hq) (.inr hu) h
theorem rc_str_dict (x : Str) (u : Tok) (hl : IsDc s.heap l) (hu : A.units < cLine) : RcAt A s (.str x u) (.ref l) false := fun prog w E Q h => by
  obtain ⟨⟨cls, dd, data, sl⟩, ho, hc, es, n, hd⟩ := id hl
  simp only at hc hd
  subst hc hd
  exact rc_eq_decline_or (k := false) (typeIs_str s x u) ⟨_, ho, rfl⟩ (by decide) F.sub_dict_str F.slot_str_eq F.slot_dict_eq_refl
    (fun _ hq => call_meets F.slot_str_eq (typeIs_str s x u) F.entry_str_eq (F.args_str_eq_2 _ _) (eq_dcl_str_dict x u l (.type "dict") es n dd sl) ⟨ho, hq⟩)
    (fun _ hq => call_meets F.slot_dict_eq_refl ⟨_, ho, rfl⟩ F.entry_dict_eq (F.args_dict_eq_2 _ _) (eq_dcl_dict_str l es n dd sl x u) ⟨ho, hq⟩)
    (fun _ hq => wpAny_of_eq (rfl : isSame (.str x u) (.ref l) = pure false) hq) (.inr hu) h
theorem ne_tuple_dict (hl : s.heap.IsTuple l items) (hb : IsDc s.heap b) : l ≠ b := fun e => by
  subst e
  obtain ⟨o, ho, hc, _⟩ := hl
  obtain ⟨o2, ho2, hc2, _⟩ := hb
  rw [ho] at ho2
  cases ho2
  rw [hc] at hc2
  exact absurd hc2 (by simp)
theorem ne_list_dict (hl : s.heap.IsList l items) (hb : IsDc s.heap b) : l ≠ b := fun e => by
  subst e
  obtain ⟨o, ho, hc, _⟩ := hl
  obtain ⟨o2, ho2, hc2, _⟩ := hb
  rw [ho] at ho2
  cases ho2
  rw [hc] at hc2
  exact absurd hc2 (by simp)
theorem rc_tuple_dict (hl : s.heap.IsTuple l items) (hb : IsDc s.heap b) (hu : A.units < cLine) : RcAt A s (.ref l) (.ref b) false := fun prog w E Q h => by
  have hne := ne_tuple_dict hl hb
  obtain ⟨⟨cls, dd, data, sl⟩, ho, hc, n, hd⟩ := id hl
  obtain ⟨⟨cls2, dd2, data2, sl2⟩, ho2, hc2, es, n2, hd2⟩ := id hb
  simp only at hc hd hc2 hd2
  subst hc hd hc2 hd2
  exact (rc_eq_decline_or (k := false) ⟨_, ho, rfl⟩ ⟨_, ho2, rfl⟩ (by decide) F.sub_dict_tuple F.slot_tuple_eq F.slot_dict_eq_refl
    (fun _ hq => call_meets F.slot_tuple_eq ⟨_, ho, rfl⟩ F.entry_tuple_eq (F.args_tuple_eq_2 _ _) (eq_dcl_tuple_dict l b es items n n2 dd dd2 sl sl2) ⟨ho, ho2, hq⟩)
    (fun _ hq => call_meets F.slot_dict_eq_refl ⟨_, ho2, rfl⟩ F.entry_dict_eq (F.args_dict_eq_2 _ _) (eq_dcl_dict_tuple b l es items n2 n dd2 dd sl2 sl) ⟨ho2, ho, hq⟩)
    (fun _ hq => wpAny_isSame_ref_other' hne ho ho2 (by simp) hq) (.inr hu) h)
theorem rc_list_dict (hl : s.heap.IsList l items) (hb : IsDc s.heap b) (hu : A.units < cLine) : RcAt A s (.ref l) (.ref b) false := fun prog w E Q h => by
  have hne := ne_list_dict hl hb
  obtain ⟨⟨cls, dd, data, sl⟩, ho, hc, n, hd⟩ := id hl
  obtain ⟨⟨cls2, dd2, data2, sl2⟩, ho2, hc2, es, n2, hd2⟩ := id hb
  simp only at hc hd hc2 hd2
  subst hc hd hc2 hd2
  exact (rc_eq_decline_or (k := false) ⟨_, ho, rfl⟩ ⟨_, ho2, rfl⟩ (by decide) F.sub_dict_list F.slot_list_eq F.slot_dict_eq_refl
    (fun _ hq => call_meets F.slot_list_eq ⟨_, ho, rfl⟩ F.entry_list_eq (F.args_list_eq_2 _ _) (eq_dcl_list_dict l b es items n n2 dd dd2 sl sl2) ⟨ho, ho2, hq⟩)
    (fun _ hq => call_meets F.slot_dict_eq_refl ⟨_, ho2, rfl⟩ F.entry_dict_eq (F.args_dict_eq_2 _ _) (eq_dcl_dict_list b l es items n2 n dd2 dd sl2 sl) ⟨ho2, ho, hq⟩)
    (fun _ hq => wpAny_isSame_ref_other' hne ho ho2 (by simp) hq) (.inr hu) h)
theorem eq_none_dict (hl : IsDc s.heap l) (hu : A.units < cLine) : EqAt A s .none (.ref l) false := fun prog w E Q hq => by
  unfold eqBool
  refine wpAny_holding ?_
  refine wpAny_ite_split (fun hab => absurd (eq_of_beq hab) nofun) (fun _ => ?_)
  exact wpAny_bind (rc_none_dict hl hu prog w E _ (wpAny_truthy_bool hq))
theorem eq_bool_dict (x : Bool) (hl : IsDc s.heap l) (hu : A.units < cLine) : EqAt A s (.bool x) (.ref l) false := fun prog w E Q hq => by
  unfold eqBool
  refine wpAny_holding ?_
  refine wpAny_ite_split (fun hab => absurd (eq_of_beq hab) nofun) (fun _ => ?_)
  exact wpAny_bind (rc_bool_dict x hl hu prog w E _ (wpAny_truthy_bool hq))
theorem eq_int_dict (x : Int) (u : Tok) (hl : IsDc s.heap l) (hu : A.units < cLine) : EqAt A s (.int x u) (.ref l) false := fun prog w E Q hq => by
  unfold eqBool
  refine wpAny_holding ?_
  refine wpAny_ite_split (fun hab => absurd (eq_of_beq hab) nofun) (fun _ => ?_)
  exact wpAny_bind (rc_int_dict x u hl hu prog w E _ (wpAny_truthy_bool hq))
theorem eq_str_dict (x : Str) (u : Tok) (hl : IsDc s.heap l) (hu : A.units < cLine) : EqAt A s (.str x u) (.ref l) false := fun prog w E Q hq => by
  unfold eqBool
  refine wpAny_holding ?_
  refine wpAny_ite_split (fun hab => absurd (eq_of_beq hab) nofun) (fun _ => ?_)
  exact wpAny_bind (rc_str_dict x u hl hu prog w E _ (wpAny_truthy_bool hq))
end
/-! ### data with empty dicts within, as it lies in the heap -/
mutual
inductive Rdq (h : Heap) : Value → PyData → Prop
  | none : Rdq h .none .none
  | bool (b : Bool) : Rdq h (.bool b) (.bool b)
  | int (i : Int) (t : Tok) : Rdq h (.int i t) (.int i)
  | str (x : Str) (t : Tok) : Rdq h (.str x t) (.str x)
  | list {a : Addr} {vs : Array Value} {xs : List PyData} : h.IsList a vs → RdqAll h vs.toList xs → Rdq h (.ref a) (.list xs)
  | tuple {a : Addr} {vs : Array Value} {xs : List PyData} : h.IsTuple a vs → RdqAll h vs.toList xs → Rdq h (.ref a) (.tuple xs)
  | dict {a : Addr} {kvs : List (PyData × PyData)} : IsDc h a → Rdq h (.ref a) (.dict kvs)
inductive RdqAll (h : Heap) : List Value → List PyData → Prop
  | nil : RdqAll h [] []
  | cons {v : Value} {vs : List Value} {d : PyData} {ds : List PyData} : Rdq h v d → RdqAll h vs ds → RdqAll h (v :: vs) (d :: ds)
end
theorem rdqAll_len {h : Heap} : ∀ {vs : List Value} {ds : List PyData}, RdqAll h vs ds → vs.length = ds.length
  | _, _, .nil => rfl
  | _, _, .cons _ t => congrArg (· + 1) (rdqAll_len t)
theorem isList_inj {h : Heap} {l : Addr} {xs ys : Array Value} (a : h.IsList l xs) (b : h.IsList l ys) : xs = ys := by
  obtain ⟨o, ho, _, n, hd⟩ := a
  obtain ⟨o2, ho2, _, n2, hd2⟩ := b
  rw [ho] at ho2
  cases ho2
  rw [hd] at hd2
  cases hd2
  rfl
theorem isTuple_inj {h : Heap} {l : Addr} {xs ys : Array Value} (a : h.IsTuple l xs) (b : h.IsTuple l ys) : xs = ys := by
  obtain ⟨o, ho, _, n, hd⟩ := a
  obtain ⟨o2, ho2, _, n2, hd2⟩ := b
  rw [ho] at ho2
  cases ho2
  rw [hd] at hd2
  cases hd2
  rfl
mutual
theorem rdq_unique {s : Shared} : ∀ (d e : PyData) (v : Value) , d.canLay0 = true → Rdq s.heap v d → Rdq s.heap v e → d = e
  | .none, _, _, _, ra, rb => by cases ra; cases rb; rfl
  | .bool _, _, _, _, ra, rb => by cases ra; cases rb; rfl
  | .int _, _, _, _, ra, rb => by cases ra; cases rb; rfl
  | .str _, _, _, _, ra, rb => by cases ra; cases rb; rfl
  | .list xs, _, _, c, ra, rb => by
    cases ra with
    | list k1 k2 =>
      cases rb with
      | list j1 j2 => 
        obtain rfl := isList_inj k1 j1
        rw [rdqAll_unique xs _ _ c k2 j2]
      | tuple j1 j2 => exact (ne_of_list_tuple k1 j1 rfl).elim
      | dict j => exact (ne_list_dict k1 j rfl).elim
  | .tuple xs, _, _, c, ra, rb => by
    cases ra with
    | tuple k1 k2 =>
      cases rb with
      | tuple j1 j2 => 
        obtain rfl := isTuple_inj k1 j1
        rw [rdqAll_unique xs _ _ c k2 j2]
      | list j1 j2 => exact (ne_of_list_tuple j1 k1 rfl).elim
      | dict j => exact (ne_tuple_dict k1 j rfl).elim
  | .dict _, _, _, c, _, _ => nomatch c
theorem rdqAll_unique {s : Shared} : ∀ (ds es : List PyData) (vs : List Value), PyData.canLayAll0 ds = true → RdqAll s.heap vs ds → RdqAll s.heap vs es → ds = es
  | [], _, _, _, ra, rb => by cases ra; cases rb; rfl
  | d :: ds, _, _, c, ra, rb => by
    have c' : d.canLay0 = true ∧ PyData.canLayAll0 ds = true := by simpa [PyData.canLayAll0] using c
    cases ra with
    | cons k1 k2 =>
      cases rb with
      | cons j1 j2 => rw [rdq_unique d _ _ c'.1 k1 j1, rdqAll_unique ds _ _ c'.2 k2 j2]
end
mutual
theorem eqAt_rdq : ∀ (da db : PyData) (A : Around) (s : Shared) (a b : Value), Rdq s.heap a da → Rdq s.heap b db → da.canLay0 = true → A.units + min da.depth db.depth < cLine → EqAt A s a b (PyData.eqv da db)
  | .none, _, A, s, _, _, ra, rb, _, hu => by
    cases ra
    cases rb with
    | none => exact EqAt.same _
    | bool y => exact EqAt.none_bool y
    | int y u => exact EqAt.none_int y u
    | str y u => exact EqAt.none_str y u
    | list k1 k2 => exact EqAt.none_list k1 (room_here hu)
    | tuple k1 k2 => exact EqAt.none_tuple k1 (room_here hu)
    | dict k1 => exact eq_none_dict k1 (room_here hu)
  | .bool x, _, A, s, _, _, ra, rb, _, hu => by
    cases ra
    cases rb with
    | none => exact EqAt.bool_none x
    | bool y => exact EqAt.bool_bool x y
    | int y u => exact EqAt.bool_int x y u
    | str y u => exact EqAt.bool_str x y u
    | list k1 k2 => exact EqAt.bool_list x k1 (room_here hu)
    | tuple k1 k2 => exact EqAt.bool_tuple x k1 (room_here hu)
    | dict k1 => exact eq_bool_dict x k1 (room_here hu)
  | .int x, _, A, s, _, _, ra, rb, _, hu => by
    cases ra with
    | int _ t =>
      cases rb with
      | none => exact EqAt.int_none x t
      | bool y => exact EqAt.int_bool x t y
      | int y u => exact EqAt.int_int x t y u
      | str y u => exact EqAt.int_str x t y u
      | list k1 k2 => exact EqAt.int_list x t k1 (room_here hu)
      | tuple k1 k2 => exact EqAt.int_tuple x t k1 (room_here hu)
      | dict k1 => exact eq_int_dict x t k1 (room_here hu)
  | .str x, _, A, s, _, _, ra, rb, _, hu => by
    cases ra with
    | str _ t =>
      cases rb with
      | none => exact EqAt.str_none x t
      | bool y => exact EqAt.str_bool x t y
      | int y u => exact EqAt.str_int x t y u
      | str y u => exact EqAt.str_str x t y u
      | list k1 k2 => exact EqAt.str_list x t k1 (room_here hu)
      | tuple k1 k2 => exact EqAt.str_tuple x t k1 (room_here hu)
      | dict k1 => exact eq_str_dict x t k1 (room_here hu)
  | .list xs, db, A, s, _, _, ra, rb, ha, hu => by
    cases ra with
    | @list l vs _ hl h4 =>
      cases rb with
      | none => exact EqAt.list_none hl (room_here hu)
      | bool y => exact EqAt.list_bool y hl (room_here hu)
      | int y u => exact EqAt.list_int y u hl (room_here hu)
      | str y u => exact EqAt.list_str y u hl (room_here hu)
      | tuple k1 k2 => exact EqAt.list_tuple hl k1 (room_here hu)
      | dict k1 => exact .of_refs (ne_list_dict hl k1) (rc_list_dict hl k1 (room_here hu))
      | @list l' vs' ys hl' k4 =>
        have n1 : vs.size = xs.length := by simpa using rdqAll_len h4
        have n2 : vs'.size = ys.length := by simpa using rdqAll_len k4
        show EqAt A s (.ref l) (.ref l') (PyData.eqvAll xs ys)
        by_cases hll : l = l'
        · subst hll
          have e : PyData.list xs = PyData.list ys := rdq_unique (.list xs) (.list ys) _ ha (.list hl h4) (.list hl' k4)
          injection e with e
          subst e
          rw [eqvAll_refl xs ha]
          exact EqAt.same _
        · by_cases hsz : vs.size = vs'.size
          · rw [← eqvAll_same_length (by omega : xs.length = ys.length), ← n1]
            refine EqAt.of_refs hll (RcAt.lists hl hl' hsz (room_here hu) fun j j1 j2 => ?_)
            have := eqAt_rdqAll xs ys A.in1 s vs.toList vs'.toList h4 k4 ha (room_in hu) j (by simpa using j1) (by simpa using j2)
            simpa using this
          · rw [eqvAll_other_length (by omega : xs.length ≠ ys.length)]
            exact EqAt.of_refs hll (RcAt.lists_lengths hl hl' (by simpa using hsz) (room_here hu))
  | .tuple xs, db, A, s, _, _, ra, rb, ha, hu => by
    cases ra with
    | @tuple l vs _ hl h4 =>
      cases rb with
      | none => exact EqAt.tuple_none hl (room_here hu)
      | bool y => exact EqAt.tuple_bool y hl (room_here hu)
      | int y u => exact EqAt.tuple_int y u hl (room_here hu)
      | str y u => exact EqAt.tuple_str y u hl (room_here hu)
      | list k1 k2 => exact EqAt.tuple_list hl k1 (room_here hu)
      | dict k1 => exact .of_refs (ne_tuple_dict hl k1) (rc_tuple_dict hl k1 (room_here hu))
      | @tuple l' vs' ys hl' k4 =>
        have n1 : vs.size = xs.length := by simpa using rdqAll_len h4
        have n2 : vs'.size = ys.length := by simpa using rdqAll_len k4
        show EqAt A s (.ref l) (.ref l') (PyData.eqvAll xs ys)
        by_cases hll : l = l'
        · subst hll
          have e : PyData.tuple xs = PyData.tuple ys := rdq_unique (.tuple xs) (.tuple ys) _ ha (.tuple hl h4) (.tuple hl' k4)
          injection e with e
          subst e
          rw [eqvAll_refl xs ha]
          exact EqAt.same _
        · rw [← eqvAll_eq xs ys, ← n1, ← n2]
          refine EqAt.of_refs hll (RcAt.tuples hl hl' (room_here hu) fun j j1 j2 => ?_)
          have := eqAt_rdqAll xs ys A.in1 s vs.toList vs'.toList h4 k4 ha (room_in hu) j (by simpa using j1) (by simpa using j2)
          simpa using this
  | .dict _, _, _, _, _, _, _, _, ha, _ => nomatch ha
theorem eqAt_rdqAll : ∀ (xs ys : List PyData) (A : Around) (s : Shared) (vs ws : List Value), RdqAll s.heap vs xs → RdqAll s.heap ws ys → PyData.canLayAll0 xs = true →
    A.units + min (PyData.depthAll xs) (PyData.depthAll ys) < cLine → ∀ j (h1 : j < vs.length) (h2 : j < ws.length), EqAt A s vs[j] ws[j] (pairEq xs ys j)
  | [], _, _, _, _, _, ra, _, _, _, j, h1, _ => by cases ra; exact absurd h1 (Nat.not_lt_zero _)
  | _ :: _, [], _, _, _, _, _, rb, _, _, j, _, h2 => by cases rb; exact absurd h2 (Nat.not_lt_zero _)
  | x :: xs, y :: ys, A, s, _, _, ra, rb, ha, hu, j, h1, h2 => by
    have ha' : x.canLay0 = true ∧ PyData.canLayAll0 xs = true := by simpa [PyData.canLayAll0] using ha
    cases ra with
    | cons r rs =>
      cases rb with
      | cons r' rs' =>
        cases j with
        | zero => exact eqAt_rdq x y A s _ _ r r' ha'.1 (room_head hu)
        | succ j => exact eqAt_rdqAll xs ys A s _ _ rs rs' ha'.2 (room_tail hu) j (Nat.lt_of_succ_lt_succ h1) (Nat.lt_of_succ_lt_succ h2)
end
/-! ### the hand layer's data is read so -/
section
variable {X : Cx} {pins : List (Addr × Obj)} {σ : L2.St} {H : Hp} {s : Shared}
theorem isDc_of (I : Inv X pins σ H s) {a : Addr} {kvs : List (Key × V)} (h : H a = some (.dK kvs)) : IsDc s.heap a := by
  obtain ⟨_, _, vs, _, o, es, ep, ho, hx, hd, _⟩ := (show ObjOk X.prog X.w H s.heap a (.dK kvs) from I.hok a _ h)
  exact ⟨o, ho, hx.1, es, ep, hd⟩
mutual
theorem dq_rdq (I : Inv X pins σ H s) : ∀ (d : PyData) (v : V) (u : Value), Dq X.K H v d → RelV v u → Rdq s.heap u d
  | .none, _, _, h, r => by
    cases h
    cases r
    exact .none
  | .bool b, _, _, h, r => by
    cases h
    cases r
    exact .bool b
  | .int i, _, _, h, r => by
    cases h
    obtain ⟨t, rfl⟩ := r
    exact .int i t
  | .str x, _, _, h, r => by
    cases h
    obtain ⟨t, rfl⟩ := r
    exact .str x t
  | .list ds, _, _, h, r => by
    cases h with
    | lst hs ha =>
      cases r
      obtain ⟨its, rv, p, _⟩ := I.list hs
      exact .list p.isList (dqs_rdq I ds _ its ha rv)
  | .tuple ds, _, _, h, r => by
    cases h with
    | tup hs ha =>
      cases r
      obtain ⟨its, rv, p, _⟩ := I.tuple hs
      exact .tuple p (dqs_rdq I ds _ its ha rv)
  | .dict _, _, _, h, r => by
    cases h with
    | dct h =>
      cases r
      exact .dict (isDc_of I h)
    | ndc h _ _ =>
      cases r
      obtain ⟨⟨_, _, w, es, ep, q1, q2, q3, _⟩, _⟩ := (show ObjOk X.prog X.w H s.heap _ (.ext (ndP _ _ _)) from I.hok _ _ h)
      exact .dict ⟨_, q1, q2.1, es, ep, q3⟩
theorem dqs_rdq (I : Inv X pins σ H s) : ∀ (ds : List PyData) (vs : List V) (us : List Value), DqAll X.K H vs ds → Vals vs us → RdqAll s.heap us ds
  | [], _, _, h, r => by
    cases h
    cases r
    exact .nil
  | d :: ds, _, _, h, r => by
    cases h with
    | cons h1 h2 =>
      cases r with
      | cons r1 r2 => exact .cons (dq_rdq I d _ _ h1 r1) (dqs_rdq I ds _ _ h2 r2)
end
end
end Lk

/-! part LkEqB -/
/-! Lk: `in` of a list or tuple of the known shape, for any data. -/
namespace Lk
open PySem PySem.Spec PyProof.Rows L2 Evl LamX
open SeqAt
open MeetsSeq
mutual
theorem reads_rdq {h : Heap} : ∀ (d : PyData) (v : Value) (as : List Addr), d.canLay0 = true → Reads h v d as → Rdq h v d
  | .none, _, _, _, r => by cases r; exact .none
  | .bool _, _, _, _, r => by cases r; exact .bool _
  | .int _, _, _, _, r => by cases r; exact .int _ _
  | .str _, _, _, _, r => by cases r; exact .str _ _
  | .list xs, _, _, c, r => by
    cases r with
    | list h1 h2 h3 h4 => exact .list ⟨_, h1, h2, _, h3⟩ (readsAll_rdq xs _ _ c h4)
  | .tuple xs, _, _, c, r => by
    cases r with
    | tuple h1 h2 h3 h4 => exact .tuple ⟨_, h1, h2, _, h3⟩ (readsAll_rdq xs _ _ c h4)
  | .dict _, _, _, c, _ => nomatch c
theorem readsAll_rdq {h : Heap} : ∀ (ds : List PyData) (vs : List Value) (as : List Addr), PyData.canLayAll0 ds = true → ReadsAll h vs ds as → RdqAll h vs ds
  | [], _, _, _, r => by cases r; exact .nil
  | d :: ds, _, _, c, r => by
    have c' : d.canLay0 = true ∧ PyData.canLayAll0 ds = true := by simpa [PyData.canLayAll0] using c
    cases r with
    | cons r1 r2 => exact .cons (reads_rdq d _ _ c'.1 r1) (readsAll_rdq ds _ _ c'.2 r2)
end
section
variable {prog : Program} {w : World} {A : Around} {E : Value → Shared → Prop} {s : Shared}
theorem items_any {vs : Array Value} {xs : List PyData} {as : List Addr} {x : Value} {d : PyData} (rs : ReadsAll s.heap vs.toList xs as) (rx : Rdq s.heap x d) (hxs : PyData.canLayAll0 xs = true)
    (hu : A.units + 1 + PyData.depthAll xs < cLine) : ∀ y, y ∈ vs → EqAt A.in1 s y x (PyData.eqv (readOf s.heap y) d) := fun y hy => by
  obtain ⟨dy, cs, ry, hcy, hle⟩ := readsAll_mem xs _ _ hxs rs y (by simpa using hy)
  rw [readOf_eq hcy ry]
  refine eqAt_rdq dy d A.in1 s y x (reads_rdq dy y _ hcy ry) rx hcy ?_
  show A.units + 1 + min dy.depth d.depth < cLine
  omega
theorem in_list_any {c x : Value} {xs : List PyData} {d : PyData} {as : List Addr} {Q : Value → Shared → Prop} (rc : Reads s.heap c (.list xs) as) (rx : Rdq s.heap x d) (hxs : PyData.canLayAll0 xs = true)
    (hu : A.units + 1 + PyData.depthAll xs < cLine) (h : Q (.bool (xs.any fun y => PyData.eqv y d)) s) : wpAny (model prog w) A (compareOp .In x c) Q E s := by
  cases rc with
  | list h1 h2 h3 h4 => exact in_listAt _ ⟨_, h1, h2, _, h3⟩ (items_any h4 rx hxs hu) (by rw [any_by_data h4 hxs]; exact h)
theorem in_tuple_any {c x : Value} {xs : List PyData} {d : PyData} {as : List Addr} {Q : Value → Shared → Prop} (rc : Reads s.heap c (.tuple xs) as) (rx : Rdq s.heap x d) (hxs : PyData.canLayAll0 xs = true)
    (hu : A.units + 1 + PyData.depthAll xs < cLine) (h : Q (.bool (xs.any fun y => PyData.eqv y d)) s) : wpAny (model prog w) A (compareOp .In x c) Q E s := by
  cases rc with
  | tuple h1 h2 h3 h4 => exact in_tupleAt _ ⟨_, h1, h2, _, h3⟩ (items_any h4 rx hxs hu) (by rw [any_by_data h4 hxs]; exact h)
end
section
variable {X : Cx}
/-- `in` of a list of the known shape; neg: `not in` -/
def rInA (K : PySem.W.Frag) (neg : Bool) : R2 := fun x y H Q => ∃ d ds, Dq K H x d ∧ Dq K H y (.list ds) ∧ SeqAt.shaped (.list ds) = true ∧ Q (.bl (if neg then !(ds.any fun z => PyData.eqv z d) else ds.any fun z => PyData.eqv z d)) H
def rInTA (K : PySem.W.Frag) (neg : Bool) : R2 := fun x y H Q => ∃ d ds, Dq K H x d ∧ Dq K H y (.tuple ds) ∧ SeqAt.shaped (.tuple ds) = true ∧ Q (.bl (if neg then !(ds.any fun z => PyData.eqv z d) else ds.any fun z => PyData.eqv z d)) H
theorem room_any {ds : List PyData} (sd : SeqAt.shaped (.list ds) = true) {A : Around} (hu : A.units + 65 < cLine) : A.units + 1 + PyData.depthAll ds < cLine := by
  have h : (PyData.list ds).depth ≤ 64 := SeqAt.depth_of_shaped sd
  have e : (PyData.list ds).depth = PyData.depthAll ds + 1 := by simp [PyData.depth]
  omega
theorem op_inA (hu : X.A.units + 65 < cLine) : OpR X (compareOp .In) (rInA X.K false) := by
  rintro pins s σ H x y v u Q I rx ry ⟨d, ds, hd, he, se, q⟩
  obtain ⟨bs, r2⟩ := L2.Dp.reads I (.list ds) y u (sh_dp se he) ry
  refine in_list_any r2 (dq_rdq I d x v hd rx) (SeqAt.canLay_of_shaped se) (room_any se hu) ?_
  exact ⟨.bl _, H, I, rfl, q⟩
theorem op_inTA (hu : X.A.units + 65 < cLine) : OpR X (compareOp .In) (rInTA X.K false) := by
  rintro pins s σ H x y v u Q I rx ry ⟨d, ds, hd, he, se, q⟩
  obtain ⟨bs, r2⟩ := L2.Dp.reads I (.tuple ds) y u (sh_dp se he) ry
  refine in_tuple_any r2 (dq_rdq I d x v hd rx) (SeqAt.canLay_of_shaped se) (room_any (ds := ds) se hu) ?_
  exact ⟨.bl _, H, I, rfl, q⟩
/-! ### a text times a number -/
def repS (a : Str) (k : Nat) : Str := ⟨((List.replicate k a.cps.toList).flatten).toArray⟩
theorem foldl_arr : ∀ (l : List (Array Nat)) (acc : Array Nat), l.foldl (· ++ ·) acc = acc ++ ((l.map Array.toList).flatten).toArray
  | [], acc => by simp
  | x :: xs, acc => by
    rw [List.foldl_cons, foldl_arr xs, List.map_cons, List.flatten_cons]
    apply Array.ext'
    simp
theorem repS_eq (a : Str) (k : Nat) : (⟨(List.replicate k a.cps).foldl (· ++ ·) #[]⟩ : Str) = repS a k := by
  rw [foldl_arr]
  unfold repS
  congr 1
  rw [List.map_replicate]
  apply Array.ext'
  simp
theorem repS_size (a : Str) (k : Nat) : (repS a k).cps.size = k * a.cps.size := by
  show ((List.replicate k a.cps.toList).flatten).toArray.size = _
  rw [List.size_toArray]
  induction k with
  | zero => simp
  | succ n ih =>
    rw [List.replicate_succ, List.flatten_cons, List.length_append, ih, Nat.succ_mul]
    simp
    omega
def rRepS : R2 := fun x y H Q => ∃ a k, x = .str a ∧ y = .int k ∧ 2 ≤ k ∧ k ≤ 1000 ∧ 1 ≤ a.cps.size ∧ a.cps.size ≤ 1000 ∧ Q (.str (repS a k.toNat)) H
theorem op_repS : OpR X (binaryOp .Mult) rRepS := by
  rintro pins s σ H x y v u Q I rx ry ⟨a, k, rfl, rfl, h1, h2, h3, h4, q⟩
  obtain ⟨t, rfl⟩ := rx
  obtain ⟨t', rfl⟩ := ry
  have hl : a.length = a.cps.size := rfl
  have hm : a.cps.size * k.toNat ≤ 1000 * 1000 := Nat.mul_le_mul h4 (by omega)
  have hz := PySem.sizeLine_eq
  refine P.mul_str ?_ ?_ ?_ ?_
  · rw [decide_eq_false (by omega : ¬ k < -(2 ^ 63 : Int)), decide_eq_false (by omega : ¬ k ≥ 2 ^ 63)]
    rfl
  · intro _ _
    rw [hl]
    have : (1000 : Int) ≤ (2 ^ 63 - 1) / k := by
      rw [Int.le_ediv_iff_mul_le (by omega)]
      omega
    omega
  · intro _ _
    rw [hl]
    exact decide_eq_false (by omega)
  · rw [if_neg (by omega : ¬ k < 1), if_neg (by rw [hl]; intro z; rw [Bool.or_eq_true, beq_iff_eq, beq_iff_eq] at z; omega), repS_eq]
    refine ⟨?_, ⟨.str (repS a k.toNat), H, I.tok _, ⟨_, rfl⟩, q⟩⟩
    first
      | exact decide_eq_false (by rw [repS_size]; rw [Nat.mul_comm]; omega)
      | (show (repS a k.toNat).cps.size ≤ _; rw [repS_size, Nat.mul_comm]; omega)
end
end Lk

/-! part LkSetN -/
/-! Lk: sets of nested tuples, and sets of whole numbers and texts: made of a list or a tuple; their number, their sorted list. -/
namespace Lk
open PySem PySem.Spec PyProof.Rows L2
section
variable {P : Program} {w : World} {A : Around} {E : Value → Shared → Prop} {s : Shared}
abbrev EntN : Type := Value × NestedKey
def rowN (w : World) (p : EntN) : Int × Value := (p.2.hash w, p.1)
/-- a number or a text as a key -/
def nk : Key → NestedKey
  | .inl i => .num i
  | .inr x => .text x
/-- a member: a tuple (true), or a number or a text (false) -/
def EntOk (m : Bool) (h : Heap) (p : EntN) : Prop := match m with
  | true => NestedIs h p.2 p.1 ∧ p.2.depth ≤ 8 ∧ ∃ b, p.1 = .ref b
  | false => ∃ k : Key, keyIs k p.1 = true ∧ p.2 = nk k
mutual
theorem cls_key : ∀ (k : NestedKey) (v : Value) (n : Nat), NestedIs s.heap k v → k.depth ≤ n → ∀ (A : Around) (E : Value → Shared → Prop) (Q : Bool → Shared → Prop), Q false s → wpAny (model P w) A (ofAClassStatement n v) Q E s
  | .none, _, n, x, _, A, E, Q, q => by cases x; cases n <;> exact wpAny_pure q
  | .num i, _, n, x, _, A, E, Q, q => by cases x <;> cases n <;> exact wpAny_pure q
  | .text y, _, n, x, _, A, E, Q, q => by cases x; cases n <;> exact wpAny_pure q
  | .tup ks, _, n, x, hn, A, E, Q, q => by
    cases x with
    | @tup a o vs len _ hg hc hd hk =>
      simp only [NestedKey.depth] at hn
      cases n with
      | zero => omega
      | succ n =>
        unfold ofAClassStatement
        apply wpAny_bind
        have ty : s.TypeIs (.ref a) "tuple" := ⟨o, hg, hc⟩
        apply wpAny_typeOf ty
        dsimp only
        rw [if_pos (by decide)]
        try apply wpAny_bind
        try apply wpAny_pure
        simp only [Bool.not_true, Bool.false_eq_true, if_false]
        apply wpAny_bind
        apply wpAny_seqItems hg hd
        dsimp only
        apply wpAny_bind
        show wpAny _ _ (forIn vs _ _) _ _ s
        rw [← Array.forIn_toList]
        have all := cls_keys ks vs.toList n hk (by omega)
        apply wpAny_forIn_list _ (fun left b st => b.1 = none ∧ st = s ∧ ∀ v ∈ left, ∀ (A : Around) (E : Value → Shared → Prop) (Q : Bool → Shared → Prop), Q false s → wpAny (model P w) A (ofAClassStatement n v) Q E s)
        · rintro v left b st ⟨hb, rfl, all⟩
          apply wpAny_bind
          apply all v List.mem_cons_self
          simp only [Bool.false_eq_true, if_false]
          apply wpAny_pure
          exact ⟨rfl, rfl, fun u hu => all u (List.mem_cons_of_mem _ hu)⟩
        · rintro ⟨b1, b2⟩ st ⟨hb, rfl, _⟩
          dsimp only at hb
          subst hb
          exact wpAny_pure q
        · exact ⟨rfl, rfl, all⟩
theorem cls_keys : ∀ (ks : List NestedKey) (vs : List Value) (n : Nat), NestedAll s.heap ks vs → NestedKey.depthAll ks ≤ n → ∀ v ∈ vs, ∀ (A : Around) (E : Value → Shared → Prop) (Q : Bool → Shared → Prop), Q false s → wpAny (model P w) A (ofAClassStatement n v) Q E s
  | [], _, n, x, _, v, hv => by cases x; cases hv
  | k :: ks, _, n, x, hn, v, hv => by
    cases x with
    | cons x1 x2 =>
      simp only [NestedKey.depthAll] at hn
      rcases List.mem_cons.mp hv with e | hv
      · rw [e]; exact cls_key k _ n x1 (by omega)
      · exact cls_keys ks _ n x2 (by omega) v hv
end
mutual
theorem hby_key : ∀ (k : NestedKey) (v : Value) (n : Nat), NestedIs s.heap k v → ∀ (A : Around) (E : Value → Shared → Prop) (Q : Bool → Shared → Prop), (∀ c, Q c s) → wpAny (model P w) A (hashByValue n v) Q E s
  | .none, _, n, x, A, E, Q, q => by cases x; cases n <;> exact wpAny_pure (q _)
  | .num i, _, n, x, A, E, Q, q => by cases x <;> cases n <;> exact wpAny_pure (q _)
  | .text y, _, n, x, A, E, Q, q => by cases x; cases n <;> exact wpAny_pure (q _)
  | .tup ks, _, n, x, A, E, Q, q => by
    cases x with
    | @tup a o vs len _ hg hc hd hk =>
      cases n with
      | zero => exact wpAny_pure (q _)
      | succ n =>
        unfold hashByValue
        apply wpAny_bind
        have ty : s.TypeIs (.ref a) "tuple" := ⟨o, hg, hc⟩
        apply wpAny_specialOf ty F.slot_tuple_hash.lookup
        dsimp only
        apply wpAny_bind
        apply wpAny_seqItems hg hd
        apply wpAny_bind
        show wpAny _ _ (forIn vs _ _) _ _ s
        rw [← Array.forIn_toList]
        have all := hby_keys ks vs.toList n hk
        apply wpAny_forIn_list _ (fun left b st => b.1 = none ∧ st = s ∧ ∀ v ∈ left, ∀ (A : Around) (E : Value → Shared → Prop) (Q : Bool → Shared → Prop), (∀ c, Q c s) → wpAny (model P w) A (hashByValue n v) Q E s)
        · rintro v left b st ⟨hb, rfl, all⟩
          apply wpAny_bind
          apply all v List.mem_cons_self
          intro c
          cases c with
          | true =>
            simp only [Bool.not_true, Bool.false_eq_true, if_false]
            apply wpAny_pure
            exact ⟨rfl, rfl, fun u hu => all u (List.mem_cons_of_mem _ hu)⟩
          | false =>
            simp only [Bool.not_false, if_true]
            apply wpAny_pure
            exact wpAny_pure (q false)
        · rintro ⟨b1, b2⟩ st ⟨hb, rfl, _⟩
          dsimp only at hb
          subst hb
          exact wpAny_pure (q true)
        · exact ⟨rfl, rfl, all⟩
theorem hby_keys : ∀ (ks : List NestedKey) (vs : List Value) (n : Nat), NestedAll s.heap ks vs → ∀ v ∈ vs, ∀ (A : Around) (E : Value → Shared → Prop) (Q : Bool → Shared → Prop), (∀ c, Q c s) → wpAny (model P w) A (hashByValue n v) Q E s
  | [], _, n, x, v, hv => by cases x; cases hv
  | k :: ks, _, n, x, v, hv => by
    cases x with
    | cons x1 x2 =>
      rcases List.mem_cons.mp hv with e | hv
      · rw [e]; exact hby_key k _ n x1
      · exact hby_keys ks _ n x2 v hv
end
/-- a tuple that is a key -/
def NT (h : Heap) (k : NestedKey) (b : Addr) : Prop := NestedIs h k (.ref b) ∧ k.depth ≤ 8
theorem unseenN {k : NestedKey} {b : Addr} {Q : Bool → Shared → Prop} (hk : NT s.heap k b) {ys : List Value} (hy : ∀ y ∈ ys, ∃ k' c, y = Value.ref c ∧ NT s.heap k' c) (q : Q false s) : wpAny (model P w) A (searchCouldBeSeen (.ref b) ys) Q E s := by
  unfold searchCouldBeSeen
  apply wpAny_bind
  apply wpAny_forIn_list _ (fun left r st => r.1 = none ∧ st = s ∧ ∀ y ∈ left, ∃ k' c, y = Value.ref c ∧ NT s.heap k' c)
  · rintro v left r st ⟨hr, rfl, all⟩
    obtain ⟨k', c, rfl, hc⟩ := all v List.mem_cons_self
    have all' : ∀ y ∈ left, ∃ k' c, y = Value.ref c ∧ NT st.heap k' c := fun u hu => all u (List.mem_cons_of_mem _ hu)
    dsimp only
    by_cases same : (b == c || (carriedByValue (.ref b) && carriedByValue (.ref c))) = true
    · exact wp_if_pos same (wpAny_pure ⟨rfl, rfl, all'⟩)
    · apply wp_if_neg same
      apply wpAny_bind
      apply quiet_key _ _ 8 _ hk.1 hk.2
      simp only [Bool.not_true, Bool.false_eq_true, if_false]
      apply wpAny_bind
      apply quiet_key _ _ 8 _ hc.1 hc.2
      simp only [Bool.not_true, Bool.false_eq_true, if_false]
      apply wpAny_bind
      apply cls_key _ _ 8 hk.1 hk.2
      simp only [Bool.false_eq_true, if_false]
      apply wpAny_bind
      apply cls_key _ _ 8 hc.1 hc.2
      simp only [Bool.false_eq_true, if_false]
      exact wpAny_pure ⟨rfl, rfl, all'⟩
  · rintro ⟨r1, r2⟩ st ⟨hr, rfl, _⟩
    dsimp only at hr
    subst hr
    exact wpAny_pure q
  · exact ⟨rfl, rfl, hy⟩
/-- the set at a holds the tuples L, all unlike -/
structure SetT (P : Program) (w : World) (h : Heap) (a : Addr) (L : List EntN) (o : Obj) (es : Array (Int × Value)) (ep : Nat) (t : SetTable) : Prop where
  at_ : h.get? a = some o
  exact_ : o.ExactSet
  data : o.data = .set es ep t
  rows : es.toList = L.map (rowN w)
  tab : TabOk t (L.map fun p => p.2.hash w)
  room : L.length * 5 < t.mask * 3
  few : L.length < 64
  keys : ∀ p ∈ L, EntOk true h p
  nd : (L.map (·.2)).Nodup
  led : w.params.followText "set-order" = true ∨ t.led = true
variable {a : Addr} {L : List EntN} {o : Obj} {es : Array (Int × Value)} {ep : Nat} {t : SetTable}
theorem SetT.size {h : Heap} (R : SetT P w h a L o es ep t) : es.size = L.length := by
  rw [← Array.length_toList, R.rows, List.length_map]
theorem SetT.places {h : Heap} (R : SetT P w h a L o es ep t) : t.place.size = L.length := by
  have q := R.tab.sz
  rw [List.length_map] at q
  exact q
theorem SetT.fits {h : Heap} (R : SetT P w h a L o es ep t) : t.fits es.size = true := by
  have q := R.room
  exact fits_of R.tab.dm (R.places.trans R.size.symm) (by rw [R.size]; omega)
theorem SetT.entry {h : Heap} (R : SetT P w h a L o es ep t) {i : Nat} {p : EntN} (hi : L[i]? = some p) : es[i]? = some (rowN w p) := by
  rw [← Array.getElem?_toList, R.rows, List.getElem?_map, hi, Option.map_some]
/-- the search, from the c-th step on: every like member stands behind it -/
theorem searchN (R : SetT P w s.heap a L o es ep t) {x : Addr} {k : NestedKey} (hx : NT s.heap k x) (hu : A.units + 9 < cLine) {K : Nat} (hK : K < 10 * SetTable.turns t.mask)
    (free : way t.mask (k.hash w) K ∉ t.place.toList) (taken : ∀ c, c < K → way t.mask (k.hash w) c ∈ t.place.toList) {Q : SetFound → Shared → Prop}
    (q1 : k ∈ L.map (·.2) → Q (.there none) s) (q2 : k ∉ L.map (·.2) → Q (.free (way t.mask (k.hash w) K) false) s) :
    ∀ (f c : Nat) (stand : Option SetTable.Probe), stand.getD (t.probeStart (k.hash w)) = nth t.mask (t.probeStart (k.hash w)) c → c ≤ K → K - c < f →
      (∀ (i : Nat) (p : EntN) (j : Nat), L[i]? = some p → p.2 = k → t.place.toList[i]? = some j → ∃ d, c ≤ d ∧ d < K ∧ way t.mask (k.hash w) d = j) → wpAny (model P w) A (setSearchFrom a (.ref x) (k.hash w) true f stand) Q E s := by
  intro f
  induction f with
  | zero => exact fun c stand _ _ hf => absurd hf (Nat.not_lt_zero _)
  | succ f ih =>
    intro c stand hst hc hf ahead
    have wy : ∀ n, (nth t.mask (nth t.mask (t.probeStart (k.hash w)) c) n).j = way t.mask (k.hash w) (c + n) := fun n => by
      rw [← nth_add] <;> rfl
    rw [setSearchFrom_succ]
    apply wpAny_bind
    apply wpAny_setState_of R.at_ R.data R.fits
    dsimp only
    have odd : ¬ t.gaveWay = true := by
      unfold SetTable.gaveWay
      rw [mask_odd R.tab.mok]
      decide
    apply wp_if_neg odd
    try (apply wpAny_bind; apply wpAny_pure)
    have spec := go_spec t R.tab.ris R.tab.dm (fun i => (es[i]?.map (·.1)).getD 0) (k.hash w) (10 * SetTable.turns t.mask) (K - c) (nth t.mask (t.probeStart (k.hash w)) c) (dummy_none _ _ _ rfl) (by omega)
      (fun n hlt => by
        rw [wy]
        exact taken (c + n) (by omega)) (by
        rw [wy, Nat.add_sub_of_le hc]
        exact free)
    have look : ∀ m, SetTable.probe.go t (fun i => (es[i]?.map (·.1)).getD 0) (k.hash w) (10 * SetTable.turns t.mask) (nth t.mask (t.probeStart (k.hash w)) c) = m →
        t.probe (fun i => (es[i]?.map (·.1)).getD 0) (k.hash w) (stand.getD (t.probeStart (k.hash w))) = m := fun m e => by
      rw [hst]
      exact e
    have hashAt : ∀ (i : Nat) (p : EntN), L[i]? = some p → (es[i]?.map (·.1)).getD 0 = p.2.hash w := fun i p hi => by
      rw [R.entry hi] <;> rfl
    rcases spec with ⟨n, i, hlt, hi, hhash, before, hp⟩ | ⟨before, hp⟩
    · rw [look _ hp]
      dsimp only
      have il : i < L.length := by
        have h1 := (List.getElem?_eq_some_iff.mp hi).1
        rw [Array.length_toList, R.places] at h1
        exact h1
      obtain ⟨p, hpe⟩ : ∃ p, L[i]? = some p := ⟨_, List.getElem?_eq_getElem il⟩
      have mem := List.mem_of_getElem? hpe
      obtain ⟨kp, kd, b, eb⟩ := R.keys p mem
      have live := slot_live R.tab.ris hi
      have tail : wpAny (model P w) A (searchRest a (.ref x) (k.hash w) true f es t (nth t.mask (nth t.mask (t.probeStart (k.hash w)) c) n).j i (nth t.mask (nth t.mask (t.probeStart (k.hash w)) c) (n + 1))) Q E s := by
        unfold searchRest
        rw [R.entry hpe]
        dsimp only [rowN]
        apply wpAny_bind
        apply wpAny_holding
        apply eqAt_key p.2 k A s _ _ kp hx.1 (by have := kd; have := hx.2; omega)
        rw [← NestedKey.decide_eq]
        apply wpAny_bind
        apply wpAny_setState_of R.at_ R.data R.fits
        dsimp only
        by_cases like : p.2 = k
        · rw [decide_eq_true like]
          apply wp_if_pos (by rfl)
          exact wpAny_pure (q1 (List.mem_map.mpr ⟨p, mem, like⟩))
        · rw [decide_eq_false like]
          apply wp_if_neg (by decide)
          try (apply wpAny_bind; apply wpAny_pure)
          rw [sameMem]
          dsimp only
          simp only [if_true, live, R.entry hpe, rowN]
          apply wpAny_bind
          rw [eb]
          apply wpAny_isSame_ref_self
          apply wpAny_bind
          apply wpAny_pure
          simp only [if_true]
          apply wp_if_neg (by decide)
          refine ih (c + (n + 1)) _ (nth_add t.mask c _ (n + 1)).symm (by omega) (by omega) fun i2 p2 j2 h1 h2 h3 => ?_
          obtain ⟨d, d1, d2, d3⟩ := ahead i2 p2 j2 h1 h2 h3
          refine ⟨d, ?_, d2, d3⟩
          rcases Nat.lt_or_ge d (c + (n + 1)) with hd | hd
          · exfalso
            rcases Nat.lt_or_ge d (c + n) with hd2 | hd2
            · have e2 : t.place.toList[i2]? = some (nth t.mask (nth t.mask (t.probeStart (k.hash w)) c) (d - c)).j := by rw [wy, Nat.add_sub_of_le d1, d3]; exact h3
              exact before (d - c) i2 (by omega) e2 (by rw [hashAt i2 p2 h1, h2])
            · have ed : d = c + n := by omega
              rw [wy, ← ed, d3] at hi
              have ei : i = i2 := by
                have r := R.tab.ris
                have i1l := (List.getElem?_eq_some_iff.mp hi).1
                have i2l := (List.getElem?_eq_some_iff.mp h3).1
                rcases Nat.lt_trichotomy i i2 with z | z | z
                · exact absurd (ris_lt r hi h3 z) (Nat.lt_irrefl _)
                · exact z
                · exact absurd (ris_lt r h3 hi z) (Nat.lt_irrefl _)
              subst ei
              rw [hpe] at h1
              cases h1
              exact like h2
          · exact hd
      by_cases led : t.led = true
      · apply wp_if_neg (by rw [led]; decide)
        try (apply wpAny_bind; apply wpAny_pure)
        exact tail
      · have led' : t.led = false := by
          cases e : t.led with
          | true => exact absurd e led
          | false => rfl
        apply wp_if_pos (by rw [led']; rfl)
        apply wpAny_bind
        apply unseenN hx
        · intro y hy
          obtain ⟨e, he, rfl⟩ := List.mem_map.mp hy
          have he' : e ∈ es.toList := by
            have := he
            simp only [Array.mem_toList_iff, Array.mem_filter] at this
            exact Array.mem_toList_iff.mpr this.1
          rw [R.rows] at he'
          obtain ⟨p2, hp2, rfl⟩ := List.mem_map.mp he'
          obtain ⟨z1, z2, b2, z3⟩ := R.keys p2 hp2
          exact ⟨p2.2, b2, z3, z3 ▸ z1, z2⟩
        · apply wp_if_neg (by decide)
          try (apply wpAny_bind; apply wpAny_pure)
          exact tail
    · rw [look _ hp]
      dsimp only
      rw [wy, Nat.add_sub_of_le hc]
      refine wpAny_pure (q2 fun m => ?_)
      obtain ⟨p, hpm, e⟩ := List.mem_map.mp m
      obtain ⟨i, hi⟩ := List.mem_iff_getElem?.mp hpm
      have il := (List.getElem?_eq_some_iff.mp hi).1
      obtain ⟨j, hj⟩ : ∃ j, t.place.toList[i]? = some j := ⟨_, List.getElem?_eq_getElem (by rw [Array.length_toList, R.places]; exact il)⟩
      obtain ⟨d, d1, d2, d3⟩ := ahead i p j hi e hj
      exact before (d - c) i (by omega) (by rw [wy, Nat.add_sub_of_le d1, d3]; exact hj) (by rw [hashAt i p hi, e])
theorem searchN0 (R : SetT P w s.heap a L o es ep t) {x : Addr} {k : NestedKey} (hx : NT s.heap k x) (hu : A.units + 9 < cLine) {Q : SetFound → Shared → Prop}
    (q1 : k ∈ L.map (·.2) → Q (.there none) s)
    (q2 : k ∉ L.map (·.2) → ∀ K, way t.mask (k.hash w) K ∉ t.place.toList → (∀ c, c < K → way t.mask (k.hash w) c ∈ t.place.toList) → Q (.free (way t.mask (k.hash w) K) false) s) : wpAny (model P w) A (setSearch a (.ref x) (k.hash w) true) Q E s := by
  have room := R.room
  obtain ⟨K, hK, free, taken⟩ := R.tab.first (by rw [List.length_map]; omega) (k.hash w)
  have few : 10 * SetTable.turns t.mask ≤ 1420 := by
    unfold SetTable.turns
    rcases R.tab.mok with e | e | e <;> omega
  unfold setSearch
  refine searchN R hx hu hK free taken q1 (fun z => q2 z K free taken) 100000 0 none rfl (Nat.zero_le _) (by omega) fun i p j h1 h2 h3 => ?_
  obtain ⟨d, d1, d2⟩ := R.tab.before free (by rw [List.getElem?_map, h1, Option.map_some, h2]) h3
  exact ⟨d, Nat.zero_le _, d1, d2⟩
end
end Lk

/-! part LkSetO -/
/-! Lk: sets of nested tuples, and of numbers and texts: adding. -/
namespace Lk
open PySem PySem.Spec PyProof.Rows L2
section
variable {P : Program} {w : World} {A : Around} {E : Value → Shared → Prop} {s : Shared}
variable {a : Addr} {L : List EntN} {o : Obj} {es : Array (Int × Value)} {ep : Nat} {t : SetTable}
theorem entOk_at {m : Bool} {h h' : Heap} {p : EntN} (x : EntOk m h p) (k : ∀ b o vs n, h.get? b = some o → o.data = .seq vs n → h'.get? b = some o) : EntOk m h' p := by
  cases m with
  | true => exact ⟨NestedIs.at k _ _ x.1, x.2⟩
  | false => exact x
theorem entOk_same {m : Bool} {h h' : Heap} {p : EntN} (x : EntOk m h p) (ho : h.get? a = some o) (hd : o.data = .set es ep t) (same : Heap.SameBut a h h') : EntOk m h' p :=
  entOk_at x fun b ob vs n hb hc => by
    rw [same.2 b]
    · exact hb
    · rintro rfl
      rw [ho] at hb
      cases hb
      rw [hd] at hc
      cases hc
theorem entOk_keep {m : Bool} {h h' : Heap} {p : EntN} (x : EntOk m h p) (k : Keeps h h') : EntOk m h' p := entOk_at x fun b o _ _ hb _ => k b o hb
/-- a set of either kind -/
structure SetV (m : Bool) (P : Program) (w : World) (h : Heap) (a : Addr) (L : List EntN) (o : Obj) (es : Array (Int × Value)) (ep : Nat) (t : SetTable) : Prop where
  at_ : h.get? a = some o
  exact_ : o.ExactSet
  data : o.data = .set es ep t
  rows : es.toList = L.map (rowN w)
  keys : ∀ p ∈ L, EntOk m h p
  nd : (L.map (·.2)).Nodup
  few : L.length < scanBound
  fits : t.fits es.size = true
  ris : Ris t.place.toList
  led : w.params.followText "set-order" = true ∨ t.led = true
  tab : m = true → TabOk t (L.map fun p => p.2.hash w) ∧ L.length * 5 < t.mask * 3 ∧ L.length < 64
theorem SetV.toT (R : SetV true P w s.heap a L o es ep t) : SetT P w s.heap a L o es ep t :=
  ⟨R.at_, R.exact_, R.data, R.rows, (R.tab rfl).1, (R.tab rfl).2.1, (R.tab rfl).2.2, R.keys, R.nd, R.led⟩
theorem SetT.toV {h : Heap} (R : SetT P w h a L o es ep t) : SetV true P w h a L o es ep t :=
  ⟨R.at_, R.exact_, R.data, R.rows, R.keys, R.nd, by have := R.few; unfold scanBound; omega, R.fits, R.tab.ris, R.led, fun _ => ⟨R.tab, R.room, R.few⟩⟩
theorem SetV.size {m : Bool} {h : Heap} (R : SetV m P w h a L o es ep t) : es.size = L.length := by
  rw [← Array.length_toList, R.rows, List.length_map]
/-- what a set that grew holds -/
def GrownN (m : Bool) (P : Program) (w : World) (s : Shared) (a : Addr) (L : List EntN) (Q : Shared → Prop) : Prop :=
  ∀ h' L' o' es' ep' t', Heap.SameBut a s.heap h' → SetV m P w h' a L' o' es' ep' t' → L'.Perm L → Q { s with heap := h' }
theorem relayN (at_ : s.heap.get? a = some o) (ex : o.ExactSet) (data : o.data = .set es ep t) (rows : es.toList = L.map (rowN w)) (tab : TabOk t (L.map fun p => p.2.hash w)) (keys : ∀ p ∈ L, EntOk true s.heap p) (nd : (L.map (·.2)).Nodup)
    (led : w.params.followText "set-order" = true ∨ t.led = true) (fill : L.length ≤ t.mask) (few : L.length < 64)
    {wanted M : Nat} (hw : SetTable.sizeAbove wanted - 1 = M) (hM : MaskOk M) (hw2 : SetTable.sizeAbove wanted ≤ 128) (room : L.length * 5 < M * 3) {Q : Unit → Shared → Prop} (q : GrownN true P w s a L (Q ())) : wpAny (model P w) A (setRelay a wanted) Q E s := by
  have sz : es.size = L.length := by rw [← Array.length_toList, rows, List.length_map]
  have pl : t.place.size = L.length := by
    have z := tab.sz
    rw [List.length_map] at z
    exact z
  have fits : t.fits es.size = true := fits_of tab.dm (pl.trans sz.symm) (by omega)
  obtain ⟨t', order, re, pm, T, em, el, _, _⟩ := relaid_ok t (hs := es.map (·.1)) (wanted := wanted) hw hM (by rw [Array.size_map, sz]; omega)
  rw [Array.size_map, sz] at pm
  have within : ∀ i ∈ order.toList, i < L.length := fun i hi => List.mem_range.mp (pm.mem_iff.mp hi)
  have esi : ∀ i, es[i]? = (L[i]?).map (rowN w) := fun i => by rw [← Array.getElem?_toList, rows, List.getElem?_map]
  obtain ⟨L2, hL2⟩ : ∃ L2, L2 = order.toList.filterMap fun i => L[i]? := ⟨_, rfl⟩
  have r1 : (order.filterMap (es[·]?)).toList = L2.map (rowN w) := by
    rw [Array.toList_filterMap, hL2, List.map_filterMap]
    congr 1
    funext i
    exact esi i
  have r2 : L2.Perm L := by
    have z := pm.filterMap fun i => L[i]?
    rw [filterMap_all, ← hL2] at z
    exact z
  have r3 : (order.toList.map fun i => (es.map (·.1)).getD i 0) = L2.map fun p => p.2.hash w := by
    rw [hL2, List.map_filterMap]
    refine (filterMap_as fun i hi => ?_).symm
    have e1 : (es.map (·.1))[i]? = some ((L[i]'(within i hi)).2.hash w) := by
      rw [Array.getElem?_map, esi, List.getElem?_eq_getElem (within i hi)]
      rfl
    rw [List.getElem?_eq_getElem (within i hi), Array.getD_eq_getD_getElem?, e1]
    rfl
  rw [r3] at T
  have sz2 : (order.filterMap (es[·]?)).size = L.length := by rw [← Array.length_toList, r1, List.length_map, r2.length_eq]
  rw [setRelay_eq]
  apply wpAny_bind
  apply wpAny_setState_of at_ data fits
  dsimp only
  apply wp_if_neg (by rw [sizeLine_eq]; omega)
  try (apply wpAny_bind; apply wpAny_pure)
  rw [re]
  dsimp only
  apply wpAny_bind
  apply wp_if_neg (by rw [sz2, sz]; simp)
  try (apply wpAny_bind; apply wpAny_pure)
  apply wpAny_pure
  dsimp only
  refine wpAny_storeSet_of at_ data ?_ ?_
  · have same : Heap.SameBut a s.heap (s.heap.update a (Obj.putSet (order.filterMap (es[·]?)) t')) := Heap.SameBut.update ..
    refine q _ L2 _ _ (ep + 1) t' same (SetT.toV ⟨store_at at_ data, ⟨ex.1, ex.2.1, ex.2.2⟩, rfl, r1, T, ?_, by rw [r2.length_eq]; exact few, fun p hp => entOk_same (keys p (r2.mem_iff.mp hp)) at_ data same, (r2.map (·.2)).nodup_iff.mpr nd, ?_⟩) r2
    · rw [r2.length_eq, em]
      exact room
    · rw [el]
      exact led
  · rw [sz2, sizeLine_eq]
    omega
/-- a tuple is added -/
theorem addT (R : SetT P w s.heap a L o es ep t) {x : Addr} {k : NestedKey} (hx : NT s.heap k x) (hu : A.units + 9 < cLine) (few : L.length + 1 < 64) {Q : Bool → Shared → Prop}
    (q1 : k ∈ L.map (·.2) → Q false s) (q2 : k ∉ L.map (·.2) → GrownN true P w s a ((.ref x, k) :: L) (Q true)) :
    wpAny (model P w) A (setAddHashed a (.ref x) (k.hash w)) Q E s := by
  have room := R.room
  unfold setAddHashed
  apply wpAny_holding
  rw [show (100000 : Nat) = 99999 + 1 from rfl, setAddHashedIn_succ]
  apply wpAny_bind
  apply wpAny_setState_of R.at_ R.data R.fits
  dsimp only
  apply wp_if_neg (by simp [byScan, Value.scannable])
  try (apply wpAny_bind; apply wpAny_pure)
  apply wpAny_bind
  refine searchN0 R hx hu (fun z => ?_) fun hnew K free taken => ?_
  · dsimp only
    exact wpAny_pure (q1 z)
  have q := q2 hnew
  dsimp only
  apply wpAny_bind
  apply wpAny_setState_of R.at_ R.data R.fits
  dsimp only
  obtain ⟨e1, e2, e3, e4, e5, _, _, _, e9⟩ := R.tab.put free taken
  generalize t.put (way t.mask (k.hash w) K) = pt at e1 e3 e4 e5 e9 ⊢
  obtain ⟨t1, at1⟩ := pt
  dsimp only at e1 e3 e4 e5 e9 ⊢
  subst e1
  generalize SetTable.below t.place (way t.mask (k.hash w) K) = n at e2 e3 ⊢
  obtain ⟨L1, hL1⟩ : ∃ L1, L1 = L.take n ++ (Value.ref x, k) :: L.drop n := ⟨_, rfl⟩
  have pm : L1.Perm ((Value.ref x, k) :: L) := by
    have z : (L.take n ++ (Value.ref x, k) :: L.drop n).Perm ((Value.ref x, k) :: (L.take n ++ L.drop n)) := List.perm_middle
    rw [List.take_append_drop, ← hL1] at z
    exact z
  have len : L1.length = L.length + 1 := pm.length_eq
  have nd1 : (L1.map (·.2)).Nodup := (pm.map (·.2)).nodup_iff.mpr (List.nodup_cons.mpr ⟨hnew, R.nd⟩)
  have hrows : (SetTable.insertAt es n (k.hash w, Value.ref x)).toList = L1.map (rowN w) := by
    rw [SetTable.toList_insertAt, R.rows, hL1, List.map_append, List.map_cons, List.map_take, List.map_drop]
    rfl
  have hkeys : (L.map fun p => p.2.hash w).take n ++ k.hash w :: (L.map fun p => p.2.hash w).drop n = L1.map fun p => p.2.hash w := by
    rw [hL1, List.map_append, List.map_cons, List.map_take, List.map_drop]
  rw [hkeys] at e3
  rw [List.length_map] at e9
  have sz : (SetTable.insertAt es n (k.hash w, Value.ref x)).size = L.length + 1 := by rw [← Array.length_toList, hrows, List.length_map, len]
  generalize SetTable.insertAt es n (k.hash w, Value.ref x) = es1 at hrows sz ⊢
  have fin : ∀ t2 : SetTable, TabOk t2 (L1.map fun p => p.2.hash w) → t2.mask = t.mask → t2.fill = L.length + 1 → t2.led = t.led →
      wpAny (model P w) A (do
        storeSet a es1 t2
        if !false && t2.tooFull then setRelay a (SetTable.grown (es.size + 1))
        return true) Q E s := by
    intro t2 T2 m2 f2 l2
    have led2 : w.params.followText "set-order" = true ∨ t2.led = true := by rw [l2]; exact R.led
    apply wpAny_bind
    refine wpAny_storeSet_of R.at_ R.data ?_ ?_
    · have same : Heap.SameBut a s.heap (s.heap.update a (Obj.putSet es1 t2)) := Heap.SameBut.update ..
      have at1 := store_at (es' := es1) (t' := t2) R.at_ R.data
      generalize s.heap.update a (Obj.putSet es1 t2) = h1 at same at1 ⊢
      have keys1 : ∀ p ∈ L1, EntOk true h1 p := fun p hp => by
        rcases List.mem_cons.mp (pm.mem_iff.mp hp) with rfl | hp
        · exact entOk_same (m := true) (p := (Value.ref x, k)) ⟨hx.1, hx.2, x, rfl⟩ R.at_ R.data same
        · exact entOk_same (R.keys p hp) R.at_ R.data same
      have full : t2.tooFull = true ↔ (L.length + 1) * 5 ≥ t.mask * 3 := by
        unfold SetTable.tooFull
        rw [decide_eq_true_eq, f2, m2]
      by_cases tf : t2.tooFull = true
      · have hfull := full.mp tf
        have cases2 : (t.mask = 7 ∧ L.length = 4) ∨ (t.mask = 31 ∧ L.length = 18) := by
          rcases R.tab.mok with e | e | e <;> rw [e] at hfull room
          · exact .inl ⟨e, by omega⟩
          · exact .inr ⟨e, by omega⟩
          · omega
        have go : ∀ M, SetTable.sizeAbove (SetTable.grown (L.length + 1)) - 1 = M → MaskOk M → SetTable.sizeAbove (SetTable.grown (L.length + 1)) ≤ 128 → L1.length * 5 < M * 3 →
            wpAny (model P w) A (setRelay a (SetTable.grown (L.length + 1))) (fun _ s' => wpAny (model P w) A (pure true) Q E s') E { s with heap := h1 } := fun M g1 g2 g3 g4 => by
          apply relayN (s := { s with heap := h1 }) at1 ⟨R.exact_.1, R.exact_.2.1, R.exact_.2.2⟩ rfl hrows T2 keys1 nd1 led2 (by rw [m2]; rcases cases2 with ⟨e, e2⟩ | ⟨e, e2⟩ <;> omega) (by omega) g1 g2 g3 g4
          intro h2 L2 o2 es2 ep2 t2' same2 R2 pm2
          exact wpAny_pure (q h2 L2 o2 es2 ep2 t2' (same.trans same2) R2 (pm2.trans pm))
        rw [R.size]
        first
          | (apply wp_if_pos (by rw [tf]; rfl); apply wpAny_bind)
          | (apply wpAny_bind; apply wp_if_pos (by rw [tf]; rfl))
        rcases cases2 with ⟨_, e2⟩ | ⟨_, e2⟩
        · exact go 31 (by rw [e2, size_20]) (.inr (.inl rfl)) (by rw [e2, size_20]; decide) (by omega)
        · exact go 127 (by rw [e2, size_76]) (.inr (.inr rfl)) (by rw [e2, size_76]; decide) (by omega)
      · have small : L1.length * 5 < t2.mask * 3 := by
          have z : ¬ (L.length + 1) * 5 ≥ t.mask * 3 := fun z => tf (full.mpr z)
          rw [m2]
          omega
        first
          | (apply wp_if_neg (by simp [tf]))
          | (apply wpAny_bind; apply wp_if_neg (by simp [tf]); apply wpAny_pure)
        exact wpAny_pure (q h1 L1 _ es1 (ep + 1) t2 same (SetT.toV ⟨at1, ⟨R.exact_.1, R.exact_.2.1, R.exact_.2.2⟩, rfl, hrows, T2, small, by omega, keys1, nd1, led2⟩) pm)
    · rw [sz, sizeLine_eq]
      omega
  have fin2 : ∀ c : Bool, wpAny (model P w) A (do
      let t := if c then t1 else { t1 with plain := false }
      storeSet a es1 t
      if !false && t.tooFull then setRelay a (SetTable.grown (es.size + 1))
      return true) Q E s := fun c => by
    cases c with
    | true => exact fin t1 e3 e4 e9 e5
    | false => exact fin _ (TabOk.unplain e3) e4 e9 e5
  by_cases pl : t1.plain = true
  · first
      | (apply wpAny_bind; apply wp_if_pos pl; apply hby_key _ _ 8 hx.1; exact fin2)
      | (apply wp_if_pos pl; apply wpAny_bind; apply hby_key _ _ 8 hx.1; exact fin2)
  · first
      | (apply wpAny_bind; apply wp_if_neg pl; apply wpAny_pure; exact fin2 true)
      | (apply wp_if_neg pl; apply wpAny_bind; apply wpAny_pure; exact fin2 true)
      | (apply wp_if_neg pl; exact fin2 true)
/-! ### numbers and texts -/
theorem nk_hash (k : Key) : (nk k).hash w = (mixKind P w).hash k := by cases k <;> rfl
theorem nk_inj {k k' : Key} (h : nk k = nk k') : k = k' := by
  cases k <;> cases k' <;> first
    | (simp only [nk, NestedKey.num.injEq, NestedKey.text.injEq] at h; rw [h])
    | (simp only [nk] at h; cases h)
theorem key_scanN {k : Key} {v : Value} (h : keyIs k v = true) : v.scannable = true := by
  rcases keyIs_shape h with ⟨i, t, _, rfl⟩ | ⟨x, t, _, rfl⟩ <;> rfl
theorem elems_of {h : Heap} {l : List EntN} (hl : ∀ p ∈ l, EntOk false h p) : ElemsOf (mixKind P w) (l.map (rowN w)) := by
  intro e he
  obtain ⟨p, hp, rfl⟩ := List.mem_map.mp he
  obtain ⟨k, hk, e⟩ := hl p hp
  exact ⟨⟨k, hk, by show p.2.hash w = _; rw [e, nk_hash (P := P)]⟩, key_scanN hk⟩
theorem found_iff {h : Heap} {l : List EntN} (hl : ∀ p ∈ l, EntOk false h p) (k : Key) : (∃ e ∈ l.map (rowN w), (mixKind P w).is k e.2 = true) ↔ nk k ∈ l.map (·.2) := by
  constructor
  · rintro ⟨e, he, q⟩
    obtain ⟨p, hp, rfl⟩ := List.mem_map.mp he
    obtain ⟨k', hk', e'⟩ := hl p hp
    have : k = k' := (mixKind P w).inj _ _ _ q hk'
    exact List.mem_map.mpr ⟨p, hp, by rw [e', this]⟩
  · intro m
    obtain ⟨p, hp, e⟩ := List.mem_map.mp m
    obtain ⟨k', hk', e'⟩ := hl p hp
    rw [e'] at e
    have := nk_inj e
    exact ⟨_, List.mem_map.mpr ⟨p, hp, rfl⟩, this ▸ hk'⟩
/-- the tail of an addition by looking through -/
theorem tailS {g : Bool → Sem Unit} (hg : ∀ (b : Bool) (s₁ : Shared) (Q' : Unit → Shared → Prop), Q' () s₁ → wpAny (model P w) A (g b) Q' E s₁)
    (ho : s.heap.get? a = some o) (hex : o.ExactSet) (hd : o.data = .set es ep t) {es1 : Array (Int × Value)} {t2 : SetTable} {L1 : List EntN} (rows : es1.toList = L1.map (rowN w)) (keys : ∀ p ∈ L1, EntOk false s.heap p) (nd : (L1.map (·.2)).Nodup)
    (few : L1.length < scanBound) (hf : t2.fits es1.size = true) (hr : Ris t2.place.toList) (hl : w.params.followText "set-order" = true ∨ t2.led = true) {wasDummy : Bool} {R : Option Bool → Shared → Prop}
    (q : GrownN false P w s a L1 (R (some true))) :
    wpAny (model P w) A (do
        storeSet a es1 t2
        if (!wasDummy && t2.tooFull) = true then do
            g (relayAll t2 es1 (SetTable.grown es1.size)).2.2
            storeSet a (relayAll t2 es1 (SetTable.grown es1.size)).1 (relayAll t2 es1 (SetTable.grown es1.size)).2.1
            pure (some true)
          else pure (some true)) R E s := by
  have z1 : es1.size = L1.length := by rw [← Array.length_toList, rows, List.length_map]
  have hb1 : es1.size < scanBound := by rw [z1]; exact few
  apply wpAny_bind
  refine wpAny_storeSet_of ho hd ?_ (fits_of_scanBound hb1)
  have ho1 := store_at (es' := es1) (t' := t2) ho hd
  have sb1 := Heap.SameBut.update s.heap a (Obj.putSet es1 t2)
  generalize s.heap.update a (Obj.putSet es1 t2) = h1 at ho1 sb1 ⊢
  by_cases full : (!wasDummy && t2.tooFull) = true
  · apply wp_if_pos full
    have pm := relayAll_perm t2 es1 (SetTable.grown es1.size)
    have f3 := relayAll_fits t2 es1 (SetTable.grown es1.size)
    have r3 := relayAll_ris t2 es1 (SetTable.grown es1.size)
    have l3 := relayAll_led t2 es1 (SetTable.grown es1.size)
    generalize relayAll t2 es1 (SetTable.grown es1.size) = Z at pm f3 r3 l3 ⊢
    obtain ⟨es2, t3, gave⟩ := Z
    dsimp only at pm f3 r3 l3 ⊢
    rw [rows] at pm
    obtain ⟨L2, pL, rows2⟩ : ∃ L2 : List EntN, L2.Perm L1 ∧ es2.toList = L2.map (rowN w) := by
      refine ⟨es2.toList.map fun e => (e.2, ((L1.find? fun p => decide (rowN w p = e)).map (·.2)).getD .none), ?_, ?_⟩
      · have back : ∀ p ∈ L1, (fun e : Int × Value => ((e.2, ((L1.find? fun p => decide (rowN w p = e)).map (·.2)).getD .none) : EntN)) (rowN w p) = p := fun p hp => by
          show ((p.1, ((L1.find? fun p' => decide (rowN w p' = rowN w p)).map (·.2)).getD .none) : EntN) = p
          cases hf : L1.find? fun p' => decide (rowN w p' = rowN w p) with
          | none =>
            have := List.find?_eq_none.mp hf p hp
            simp at this
          | some p' =>
            have h1 := List.find?_some hf
            have h2 := List.mem_of_find?_eq_some hf
            simp only [decide_eq_true_eq] at h1
            have e1 : p'.1 = p.1 := congrArg Prod.snd h1
            obtain ⟨k1, i1, n1⟩ := keys p' h2
            obtain ⟨k2, i2, n2⟩ := keys p hp
            rw [e1] at i1
            have : k1 = k2 := (mixKind P w).inj _ _ _ i1 i2
            have e2 : p'.2 = p.2 := by rw [n1, n2, this]
            show ((p.1, p'.2) : EntN) = p
            rw [e2]
        have z := pm.map fun e : Int × Value => ((e.2, ((L1.find? fun p => decide (rowN w p = e)).map (·.2)).getD .none) : EntN)
        rw [List.map_map] at z
        have z2 : List.map ((fun e : Int × Value => ((e.2, ((L1.find? fun p => decide (rowN w p = e)).map (·.2)).getD .none) : EntN)) ∘ rowN w) L1 = L1 := by
          conv => rhs; rw [← List.map_id L1]
          exact List.map_congr_left fun p hp => back p hp
        rw [z2] at z
        exact z
      · rw [List.map_map]
        conv => lhs; rw [← List.map_id es2.toList]
        refine List.map_congr_left fun e he => ?_
        obtain ⟨p, hp, rfl⟩ := List.mem_map.mp (pm.mem_iff.mp he)
        show rowN w p = (_, p.1)
        show (p.2.hash w, p.1) = (NestedKey.hash w (((L1.find? fun p' => decide (rowN w p' = rowN w p)).map (·.2)).getD .none), p.1)
        cases hf : L1.find? fun p' => decide (rowN w p' = rowN w p) with
        | none =>
          have := List.find?_eq_none.mp hf p hp
          simp at this
        | some p' =>
          have h1 := List.find?_some hf
          simp only [decide_eq_true_eq] at h1
          have e1 : p'.2.hash w = p.2.hash w := congrArg Prod.fst h1
          show (p.2.hash w, p.1) = (p'.2.hash w, p.1)
          rw [e1]
    have z2 : es2.size = L1.length := by rw [← Array.length_toList, rows2, List.length_map, pL.length_eq]
    apply wpAny_bind
    apply hg
    apply wpAny_bind
    refine wpAny_storeSet_of ho1 rfl ?_ (fits_of_scanBound (by rw [z2]; exact few))
    have ho2 := store_at (es' := es2) (t' := t3) ho1 rfl
    have sb2 : Heap.SameBut a s.heap _ := sb1.trans (Heap.SameBut.update h1 a (Obj.putSet es2 t3))
    refine wpAny_pure (q _ L2 _ es2 _ t3 sb2 ⟨ho2, ⟨hex.1, hex.2.1, hex.2.2⟩, rfl, rows2, fun p hp => keys p (pL.mem_iff.mp hp), (pL.map (·.2)).nodup_iff.mpr nd, by rw [pL.length_eq]; exact few, f3, r3, ?_, fun z => nomatch z⟩ pL)
    rw [l3]
    exact hl
  · apply wp_if_neg full
    exact wpAny_pure (q h1 L1 _ es1 _ t2 sb1 ⟨ho1, ⟨hex.1, hex.2.1, hex.2.2⟩, rfl, rows, keys, nd, few, hf, hr, hl, fun z => nomatch z⟩ (.refl _))
/-- a number or a text is added -/
theorem addS (R : SetV false P w s.heap a L o es ep t) {x : Value} {k : Key} (hx : keyIs k x = true) (few : L.length + 1 < scanBound) {Q : Bool → Shared → Prop}
    (q1 : nk k ∈ L.map (·.2) → Q false s) (q2 : nk k ∉ L.map (·.2) → GrownN false P w s a ((x, nk k) :: L) (Q true)) :
    wpAny (model P w) A (setAddHashed a x ((mixKind P w).hash k)) Q E s := by
  have hkey : (mixKind P w).is k x = true := hx
  have hsc := key_scanN hx
  have hel : ElemsOf (mixKind P w) es.toList := by rw [R.rows]; exact elems_of R.keys
  have hb : es.size < scanBound := by rw [R.size]; exact R.few
  unfold setAddHashed setAddHashedIn
  apply wpAny_holding
  apply wpAny_bind
  apply wpAny_setState_of R.at_ R.data R.fits
  dsimp only
  rw [byScan_of hsc hb hel]
  simp only [↓reduceIte]
  unfold setAddByScan
  apply wpAny_bind
  apply wpAny_bind
  apply wpAny_rule
  apply wpAny_bind
  apply wpAny_setScan_of hkey R.at_ R.data R.fits hel
  cases hfi : List.findIdx? (fun e => (mixKind P w).is k e.2) es.toList with
  | some j =>
    dsimp only
    obtain ⟨hj, pj, _⟩ := List.findIdx?_eq_some_iff_getElem.mp hfi
    have m : nk k ∈ L.map (·.2) := (found_iff (P := P) (w := w) R.keys k).mp ⟨es.toList[j], by rw [← R.rows]; exact List.getElem_mem hj, pj⟩
    exact wpAny_pure (wpAny_pure (q1 m))
  | none =>
    dsimp only
    have hnew : nk k ∉ L.map (·.2) := fun z => by
      obtain ⟨e, he, q⟩ := (found_iff (P := P) (w := w) R.keys k).mpr z
      rw [← R.rows] at he
      have c := List.findIdx?_eq_none_iff.mp hfi e he
      rw [q] at c
      cases c
    have hgw : ∀ (b : Bool) {s₁ : Shared} {Q' : Unit → Shared → Prop}, Q' () s₁ → wpAny (model P w) A (match b with | true => rule "set.scan.the-table-gave-way" | false => pure ()) Q' E s₁ :=
      fun b s₁ Q' q => by cases b <;> first | exact wpAny_pure q | exact wpAny_rule q
    have pm := layNew_perm t es ((mixKind P w).hash k) x
    have f1 := layNew_fits t es ((mixKind P w).hash k) x
    have r1 := layNew_ris t es ((mixKind P w).hash k) x R.ris
    have l1 := layNew_led t es ((mixKind P w).hash k) x
    have place : ∃ n, (layNew t es ((mixKind P w).hash k) x).1 = SetTable.insertAt es n ((mixKind P w).hash k, x) ∨ (layNew t es ((mixKind P w).hash k) x).1 = es.push ((mixKind P w).hash k, x) := by
      unfold layNew
      split
      · exact ⟨_, .inl rfl⟩
      · exact ⟨0, .inr rfl⟩
    generalize layNew t es ((mixKind P w).hash k) x = Z at pm f1 r1 l1 place ⊢
    obtain ⟨es1, t1, wasDummy, gave⟩ := Z
    dsimp only at pm f1 r1 l1 place ⊢
    have hh : (mixKind P w).hash k = (nk k).hash w := (nk_hash k).symm
    obtain ⟨L1, pL, rows1⟩ : ∃ L1 : List EntN, L1.Perm ((x, nk k) :: L) ∧ es1.toList = L1.map (rowN w) := by
      obtain ⟨n, e | e⟩ := place
      · refine ⟨L.take n ++ (x, nk k) :: L.drop n, ?_, ?_⟩
        · have z : (L.take n ++ (x, nk k) :: L.drop n).Perm ((x, nk k) :: (L.take n ++ L.drop n)) := List.perm_middle
          rw [List.take_append_drop] at z
          exact z
        · rw [e, SetTable.toList_insertAt, R.rows, List.map_append, List.map_cons, List.map_take, List.map_drop, hh]
          rfl
      · refine ⟨L ++ [(x, nk k)], List.perm_append_singleton _ _, ?_⟩
        rw [e, Array.toList_push, R.rows, List.map_append, hh]
        rfl
    have keys1 : ∀ p ∈ L1, EntOk false s.heap p := fun p hp => by
      rcases List.mem_cons.mp (pL.mem_iff.mp hp) with rfl | hp
      · exact ⟨k, hx, rfl⟩
      · exact R.keys p hp
    have nd1 : (L1.map (·.2)).Nodup := (pL.map (·.2)).nodup_iff.mpr (List.nodup_cons.mpr ⟨hnew, R.nd⟩)
    have few1 : L1.length < scanBound := by rw [pL.length_eq]; exact few
    have led1 : w.params.followText "set-order" = true ∨ t1.led = true := R.led.imp id fun z => by rw [l1]; exact z
    have fin : GrownN false P w s a L1 (Q true) := fun h' L' o' es' ep' t' sb D p => q2 hnew h' L' o' es' ep' t' sb D (p.trans pL)
    apply wpAny_bind
    apply hgw
    split
    · apply wpAny_bind
      rw [hashByValue_scannable 8 hsc]
      apply wpAny_pure
      refine tailS ?_ R.at_ R.exact_ R.data rows1 keys1 nd1 few1 ?_ ?_ ?_ ?_
      · intro b s₁ Q' q; cases b <;> first | exact wpAny_pure q | exact wpAny_rule q
      · first | (split <;> first | exact f1 | exact SetTable.fits_plain_off f1) | exact f1
      · first | (split <;> exact r1) | exact r1
      · first | (split <;> exact led1) | exact led1
      · intro h' L' o' es' ep' t' sb D p; dsimp only; exact wpAny_pure (fin h' L' o' es' ep' t' sb D p)
    · apply wpAny_bind
      apply wpAny_pure
      simp only [↓reduceIte]
      refine tailS ?_ R.at_ R.exact_ R.data rows1 keys1 nd1 few1 f1 r1 led1 ?_
      · intro b s₁ Q' q; cases b <;> first | exact wpAny_pure q | exact wpAny_rule q
      · intro h' L' o' es' ep' t' sb D p; dsimp only; exact wpAny_pure (fin h' L' o' es' ep' t' sb D p)
end
end Lk

/-! part LkSetP -/
/-! Lk: set(l): a set made of a list or a tuple; len and sorted of it. Printed by wip/tools/setp.py. -/
namespace Lk
open PySem PySem.Spec PyProof.Rows L2 Evl
section
variable {P : Program} {w : World} {A : Around} {E : Value → Shared → Prop} {s : Shared}
variable {a : Addr} {L : List EntN} {o : Obj} {es : Array (Int × Value)} {ep : Nat} {t : SetTable}
/-- how many there may be -/
def lim (m : Bool) : Nat := match m with
  | true => 64
  | false => 4096
theorem addV {m : Bool} (R : SetV m P w s.heap a L o es ep t) {p : EntN} (hp : EntOk m s.heap p) (hu : A.units + 9 < cLine) (few : L.length + 1 < lim m) {Q : Bool → Shared → Prop}
    (q : ∀ b h' tk L' o' es' ep' t', s.toks ≤ tk → Heap.SameBut a s.heap h' → SetV m P w h' a L' o' es' ep' t' → (L' = L ∧ p.2 ∈ L.map (·.2)) ∨ L'.Perm (p :: L) → Q b { s with heap := h', toks := tk }) : wpAny (model P w) A (setAdd a p.1) Q E s := by
  unfold setAdd
  apply wpAny_holding
  apply wpAny_bind
  cases m with
  | true =>
    obtain ⟨h1, h2, b, e⟩ := id hp
    obtain ⟨v, k⟩ := p
    dsimp only at e h1 h2 ⊢
    subst e
    apply pyHash_key k _ A s _ h1 (by omega)
    refine addT (s := { s with toks := s.toks + k.draws }) R.toT (x := b) ⟨h1, h2⟩ hu few (fun z => ?_) fun z => ?_
    · exact q false s.heap _ L o es ep t (Nat.le_add_right _ _) (Heap.SameBut.refl a s.heap) R (.inl ⟨rfl, z⟩)
    · intro h' L' o' es' ep' t' sb D pm
      exact q true h' _ L' o' es' ep' t' (Nat.le_add_right _ _) sb D (.inr pm)
  | false =>
    obtain ⟨k, h1, e⟩ := id hp
    obtain ⟨v, k'⟩ := p
    dsimp only at e h1 ⊢
    subst e
    apply (mixKind P w).pyHash h1
    refine addS (s := { s with toks := s.toks + 1 }) R h1 few (fun z => ?_) fun z => ?_
    · exact q false s.heap _ L o es ep t (Nat.le_add_right _ _) (Heap.SameBut.refl a s.heap) R (.inl ⟨rfl, z⟩)
    · intro h' L' o' es' ep' t' sb D pm
      exact q true h' _ L' o' es' ep' t' (Nat.le_add_right _ _) sb D (.inr pm)
theorem SetV.stay {m : Bool} {h h' : Heap} (R : SetV m P w h a L o es ep t) (ha : h'.get? a = some o) (hk : ∀ p ∈ L, EntOk m h' p) : SetV m P w h' a L o es ep t := ⟨ha, R.exact_, R.data, R.rows, hk, R.nd, R.few, R.fits, R.ris, R.led, R.tab⟩
/-- what stands in the set behind so many items -/
structure GotN (ks : List EntN) (i : Nat) (L : List EntN) : Prop where
  sub : ∀ p ∈ L, p ∈ ks.take i
  all : ∀ p ∈ ks.take i, p.2 ∈ L.map (·.2)
  len : L.length ≤ i
theorem loopV {m : Bool} {I : Addr} {fp wr : List Addr} {G : Array GenState → Array GenState → Prop} {n : Nat} {Pv : Nat → Value → Prop} {St : Nat → Shared → Prop} {R : Result → Shared → Prop} (W : WalksS P w A.in1 I fp wr G n Pv St) (S : Addr) (hS : S ∉ fp)
    (ks : List EntN) (hn : n = ks.length) (few : ks.length < lim m) (hv : ∀ i v, Pv i v → ∃ p, ks[i]? = some p ∧ v = p.1) (h0 : Heap) (hk : ∀ p ∈ ks, EntOk m h0 p) (hS0 : h0.get? S = none) (hw0 : ∀ b ∈ wr, h0.get? b = none) (hu : A.in1.units + 9 < cLine) :
    ∀ (k i : Nat) (s : Shared), n - i = k → i ≤ n → St i s → Keeps h0 s.heap → (∃ L o es ep t, SetV m P w s.heap S L o es ep t ∧ GotN ks i L) →
      (∀ s' L o es ep t, Moved (S :: wr) G s s' → SetV m P w s'.heap S L o es ep t → GotN ks n L → R (.ok (.ret .none)) s') → codeAny (model P w) A (.builtin "set.update.loop" ⟨[.ref S, .ref I], []⟩) R s := by
  have out : S ∉ wr := fun h => hS (W.sub _ h)
  have up : ∀ b ∈ wr, b ∈ S :: wr := fun b hb => List.mem_cons_of_mem _ hb
  have after : ∀ {s s' : Shared}, Moved wr G s s' → Keeps h0 s.heap → Keeps h0 s'.heap := fun mv kp b o e => mv.heap b o (fun hb => by
    rw [hw0 b hb] at e
    cases e) (kp b o e)
  intro k
  induction k with
  | zero =>
    rintro i s hk' hi st kp ⟨L, o, es, ep, t, D, got⟩ done
    obtain rfl : i = n := by omega
    apply codeAny_builtin F.entry_set_update_loop
    rw [Around.under_plainId F.plain_set_update_loop _]
    show wpAny _ A.in1 (pyNext (.ref I) >>= _) _ _ s
    apply wpAny_bind
    apply W.done s _ _ st
    intro s' mv
    show wpAny _ A.in1 (ret Value.none) _ _ s'
    have kp' := after mv kp
    apply wpAny_pure
    exact done s' L o es ep t (mv.mono up) (D.stay (mv.heap S o out D.at_) fun p hp => entOk_keep (hk p (List.mem_of_mem_take (got.sub p hp))) kp') got
  | succ k ih =>
    rintro i s hk' hi st kp ⟨L, o, es, ep, t, D, got⟩ done
    have lt : i < n := by omega
    apply codeAny_builtin F.entry_set_update_loop
    rw [Around.under_plainId F.plain_set_update_loop _]
    show wpAny _ A.in1 (pyNext (.ref I) >>= _) _ _ s
    apply wpAny_bind
    apply W.item i s _ _ lt st
    intro v s' hP st' mv
    obtain ⟨p, hp, rfl⟩ := hv i v hP
    have kp' := after mv kp
    have D' : SetV m P w s'.heap S L o es ep t := D.stay (mv.heap S o out D.at_) fun q hq => entOk_keep (hk q (List.mem_of_mem_take (got.sub q hq))) kp'
    have hx : EntOk m s'.heap p := entOk_keep (hk p (List.mem_of_getElem? hp)) kp'
    have len := got.len
    show wpAny _ A.in1 (holding [p.1] (setAdd S p.1) >>= _) _ _ s'
    apply wpAny_bind
    apply wpAny_holding
    refine addV D' hx hu (by omega) fun bb h' tk L' o' es' ep' t' htk same D2 pm2 => ?_
    have kp2 : Keeps h0 h' := fun b u e => (same.2 b (fun z => by
      rw [z, hS0] at e
      cases e)).trans (kp' b u e)
    have got2 : GotN ks (i + 1) L' := by
      have et := L2.take_next hp
      rcases pm2 with ⟨rfl, hin⟩ | pm2
      · refine ⟨fun q hq => ?_, fun q hq => ?_, by omega⟩
        · rw [et]; exact List.mem_append_left _ (got.sub q hq)
        · rw [et] at hq
          rcases List.mem_append.mp hq with hq | hq
          · exact got.all q hq
          · rw [List.mem_singleton.mp hq]; exact hin
      · refine ⟨fun q hq => ?_, fun q hq => ?_, by rw [pm2.length_eq, List.length_cons]; omega⟩
        · rw [et]
          rcases List.mem_cons.mp (pm2.mem_iff.mp hq) with e | hq
          · exact List.mem_append_right _ (by rw [e]; exact List.mem_singleton.mpr rfl)
          · exact List.mem_append_left _ (got.sub q hq)
        · rw [et] at hq
          refine (pm2.map (·.2)).mem_iff.mpr ?_
          rcases List.mem_append.mp hq with hq | hq
          · exact List.mem_cons_of_mem _ (got.all q hq)
          · rw [List.mem_singleton.mp hq]; exact List.mem_cons_self
    apply wpAny_pure
    refine ⟨plainId_quiet F.plain_set_update_loop _, ih (i + 1) _ (by omega) lt (W.frame _ s' _ _ st' htk fun b hb u e => ?_) kp2 ⟨L', o', es', ep', t', D2, got2⟩ fun s'' L2 o2 es2 ep2 t2 mv2 D3 got3 => ?_⟩
    · rw [same.2 b]
      · exact e
      · rintro rfl
        exact hS hb
    · refine done s'' L2 o2 es2 ep2 t2 (Moved.trans W.gtrans ((mv.mono up).then_heap htk fun b u hb e => ?_) mv2) D3 got3
      rw [same.2 b]
      · exact e
      · rintro rfl
        exact hb List.mem_cons_self
theorem fresh_setV {m : Bool} {h : Heap} {o : Obj} (at_ : h.get? a = some o) (ex : o.ExactSet) (data : o.data = .set #[] 0 (.fresh 0 0 (!w.params.followText "set-order"))) : SetV m P w h a [] o #[] 0 (.fresh 0 0 (!w.params.followText "set-order")) := by
  refine ⟨at_, ex, data, rfl, (fun p hp => nomatch hp), List.nodup_nil, by decide, rfl, List.Pairwise.nil, ?_, fun _ => ⟨⟨List.Pairwise.nil, rfl, rfl, .inl rfl, (fun x hx => nomatch hx), fun i u j hi => ?_⟩, ?_, by decide⟩⟩
  · cases e : w.params.followText "set-order" with
    | true => exact .inl rfl
    | false => exact .inr (by show (!false) = true; rfl)
  · simp at hi
  · show 0 * 5 < 7 * 3
    decide
set_option maxHeartbeats 6400000 in
theorem call_set_list {m : Bool} {l : Addr} {items : Array Value} (ks : List EntN) {Q : Value → Shared → Prop} (hh : A.handled = none) (hl : s.heap.IsList l items) (hit : items.toList = ks.map fun p => p.1) (hk : ∀ p ∈ ks, EntOk m s.heap p)
    (few : ks.length < lim m) (hu : A.units + 13 < cLine)
    (q : ∀ (h' : Heap) (tk : Nat) L o es ep t, SetV m P w h' s.heap.objs.size L o es ep t → GotN ks ks.length L → Keeps s.heap h' → Q (.ref s.heap.objs.size) { s with heap := h', toks := tk }) : wpAny (model P w) A (call (.type "set") [.ref l]) Q E s := by
  have isz : items.size = ks.length := by rw [← Array.length_toList, hit, List.length_map]
  obtain ⟨c, tl, hmro⟩ := F.called_set.mro
  have hmade := F.called_set.made
  have hsub := F.called_set.sub
  apply wpAny_call
  apply codeAny_of_tree
  show wpAny _ _ (callAny (.type "set") _) _ _ _
  apply wpAny_pure
  refine ⟨Code.quiet_builtin _ (by decide +kernel), codeAny_builtin F.entry_type_call ?_⟩
  rw [Around.under_plain (weight_type_call_type "set" [.ref l] []) rfl]
  have h1 := F.called_set.notType
  have h2 := F.called_set.canCreate
  have hct := F.typeCall_set_1 (.ref l)
  repeat (any_goals (first | assumption | wp_step))
  obtain ⟨S, eS⟩ : ∃ S, S = s.heap.objs.size := ⟨_, rfl⟩
  refine codeAny_mono (code_set_led1 (.ref l) (E := E) (Q₁ := fun obj s₁ => obj = .ref S ∧ s₁ = { s with heap := s.heap.push (newSet w) }) ⟨by rw [eS], rfl⟩) fun r s₁ hr => ?_
  cases r with
  | error e => exact hr
  | ok fl =>
    cases fl with
    | ret obj =>
      obtain ⟨rfl, rfl⟩ := hr
      have atS : (s.heap.push (newSet w)).get? S = some (newSet w) := by
        rw [eS]
        exact Heap.get?_push_size _ rfl
      have hT : Shared.TypeIs { s with heap := s.heap.push (newSet w) } (.ref S) "set" := ⟨_, atS, rfl⟩
      have hli := F.called_set.init.lookup
      have hbi := F.called_set.init.bind (.ref S)
      repeat (any_goals (first | assumption | wp_step))
      refine codeAny_mono (codeAny_call_builtin (R := wants (fun r s₂ => r = .none ∧ ∃ h' tk L o es ep t, s₂ = { s with heap := h', toks := tk } ∧ SetV m P w h' S L o es ep t ∧ GotN ks ks.length L ∧ Keeps s.heap h') E)
        F.called_set.init.plain F.entry_set_init (check_set_init_1 hT ?_)) fun r₂ s₂ hr₂ => ?_
      · obtain ⟨ol, hol, hcl, nl, hdl⟩ := hl
        obtain ⟨ocls, odict, odata, oslots⟩ := ol
        dsimp only at hcl hdl
        subst hcl hdl
        have hol' : (s.heap.push (newSet w)).get? l = some { cls := .type "list", dict := odict, data := .seq items nl, slots := oslots } := Heap.get?_push_of_some _ hol
        have hsls := F.sub_list_set
        have hslf := F.sub_list_frozenset
        have hne : (Value.type "list" == Value.type "dict") = false := by decide
        have hl1 : (s.heap.push (newSet w)).IsList l items := ⟨_, hol', rfl, nl, rfl⟩
        unfold Builtin.«set.__init__» noKeywords Builtin.Frozenset.updateFrom
        generalize hPI : pyIter = PI
        wp_walk
        subst hPI
        apply wpAny_pyIter_list hl1
        apply wpAny_bind
        apply wpAny_runValue
        have lS : l < S := by
          rw [eS]
          exact Heap.lt_size hol
        obtain ⟨J, eJ⟩ : ∃ J, J = (s.heap.push (newSet w)).objs.size := ⟨_, rfl⟩
        have eJ2 : J = S + 1 := by
          rw [eJ, eS]
          exact Heap.size_push ..
        have SJ : S ∉ [J, l] := by
          rw [eJ2]
          simp only [List.mem_cons, List.not_mem_nil, or_false, not_or]
          exact ⟨Nat.ne_of_lt (Nat.lt_succ_self _), Nat.ne_of_gt lS⟩
        have none_of : ∀ b, S ≤ b → s.heap.get? b = none := fun b hb => by
          cases z : s.heap.get? b with
          | none => rfl
          | some u => exact absurd (Heap.lt_size z) (Nat.not_lt.mpr (by rw [← eS]; exact hb))
        have hv : ∀ (i : Nat) (v : Value), items[i]? = some v → ∃ p, ks[i]? = some p ∧ v = p.1 := fun i v z => by
          have z' : items.toList[i]? = some v := by rw [Array.getElem?_toList]; exact z
          rw [hit, List.getElem?_map] at z'
          obtain ⟨p, hp, rfl⟩ := Option.map_eq_some_iff.mp z'
          exact ⟨p, hp, rfl⟩
        have hneI : l ≠ (s.heap.push (newSet w)).objs.size := by
          rw [← eJ, eJ2]
          exact Nat.ne_of_lt (Nat.lt_succ_of_lt lS)
        have hh3 : A.in1.in1.in1.handled = none := by simp [hh]
        rw [eJ] at SJ
        apply loopV (m := m) ((Walks.list hh3 _ l hneI items).toS) S SJ ks isz few hv s.heap hk (none_of _ (Nat.le_refl _)) (fun b hb => none_of b (by
          rw [List.mem_singleton.mp hb, ← eJ, eJ2]
          exact Nat.le_succ _)) (by simp; omega) (items.size - 0) 0 _ (by omega) (Nat.zero_le _)
          ⟨⟨_, Heap.get?_push_size _ rfl, rfl, rfl⟩, (hl1.push _)⟩ (fun b u e => Heap.get?_push_of_some _ (Heap.get?_push_of_some _ e)) ⟨[], _, _, _, _, fresh_setV (Heap.get?_push_of_some _ atS) ⟨rfl, rfl, rfl⟩ rfl, ⟨(fun p hp => nomatch hp), (fun p hp => nomatch hp), Nat.le_refl _⟩⟩
        intro s' L o es ep t mv D pm
        rw [isz] at pm
        obtain ⟨h', g2, d', tk', os'⟩ := s'
        have eg : g2 = s.gens := mv.gens
        have ed : d' = s.drawn := mv.drawn
        have eo : os' = s.os := mv.os
        subst eg ed eo
        show wpAny _ _ _ _ _ _
        apply wpAny_pure
        show wpAny _ _ (ret Value.none) _ _ _
        apply wpAny_pure
        refine ⟨rfl, h', tk', L, o, es, ep, t, rfl, D, pm, fun b u e => ?_⟩
        have b0 : b < S := by
          rw [eS]
          exact Heap.lt_size e
        refine mv.heap b u ?_ (Heap.get?_push_of_some _ (Heap.get?_push_of_some _ e))
        rw [← eJ, eJ2]
        simp only [List.mem_cons, List.not_mem_nil, or_false, not_or]
        exact ⟨Nat.ne_of_lt b0, Nat.ne_of_lt (Nat.lt_succ_of_lt b0)⟩
      · cases r₂ with
        | error e => exact hr₂
        | ok fl₂ =>
          cases fl₂ with
          | ret r =>
            obtain ⟨rfl, h', tk, L, o, es, ep, t, rfl, D, pm, kp⟩ := hr₂
            subst eS
            repeat (any_goals (first | assumption | wp_step))
            exact q _ _ _ _ _ _ _ D pm kp
          | _ => exact hr₂.elim
    | _ => exact hr.elim
set_option maxHeartbeats 6400000 in
theorem call_set_tuple {m : Bool} {l : Addr} {items : Array Value} (ks : List EntN) {Q : Value → Shared → Prop} (hh : A.handled = none) (hl : s.heap.IsTuple l items) (hit : items.toList = ks.map fun p => p.1) (hk : ∀ p ∈ ks, EntOk m s.heap p)
    (few : ks.length < lim m) (hu : A.units + 13 < cLine)
    (q : ∀ (h' : Heap) (tk : Nat) L o es ep t, SetV m P w h' s.heap.objs.size L o es ep t → GotN ks ks.length L → Keeps s.heap h' → Q (.ref s.heap.objs.size) { s with heap := h', toks := tk }) : wpAny (model P w) A (call (.type "set") [.ref l]) Q E s := by
  have isz : items.size = ks.length := by rw [← Array.length_toList, hit, List.length_map]
  obtain ⟨c, tl, hmro⟩ := F.called_set.mro
  have hmade := F.called_set.made
  have hsub := F.called_set.sub
  apply wpAny_call
  apply codeAny_of_tree
  show wpAny _ _ (callAny (.type "set") _) _ _ _
  apply wpAny_pure
  refine ⟨Code.quiet_builtin _ (by decide +kernel), codeAny_builtin F.entry_type_call ?_⟩
  rw [Around.under_plain (weight_type_call_type "set" [.ref l] []) rfl]
  have h1 := F.called_set.notType
  have h2 := F.called_set.canCreate
  have hct := F.typeCall_set_1 (.ref l)
  repeat (any_goals (first | assumption | wp_step))
  obtain ⟨S, eS⟩ : ∃ S, S = s.heap.objs.size := ⟨_, rfl⟩
  refine codeAny_mono (code_set_led1 (.ref l) (E := E) (Q₁ := fun obj s₁ => obj = .ref S ∧ s₁ = { s with heap := s.heap.push (newSet w) }) ⟨by rw [eS], rfl⟩) fun r s₁ hr => ?_
  cases r with
  | error e => exact hr
  | ok fl =>
    cases fl with
    | ret obj =>
      obtain ⟨rfl, rfl⟩ := hr
      have atS : (s.heap.push (newSet w)).get? S = some (newSet w) := by
        rw [eS]
        exact Heap.get?_push_size _ rfl
      have hT : Shared.TypeIs { s with heap := s.heap.push (newSet w) } (.ref S) "set" := ⟨_, atS, rfl⟩
      have hli := F.called_set.init.lookup
      have hbi := F.called_set.init.bind (.ref S)
      repeat (any_goals (first | assumption | wp_step))
      refine codeAny_mono (codeAny_call_builtin (R := wants (fun r s₂ => r = .none ∧ ∃ h' tk L o es ep t, s₂ = { s with heap := h', toks := tk } ∧ SetV m P w h' S L o es ep t ∧ GotN ks ks.length L ∧ Keeps s.heap h') E)
        F.called_set.init.plain F.entry_set_init (check_set_init_1 hT ?_)) fun r₂ s₂ hr₂ => ?_
      · obtain ⟨ol, hol, hcl, nl, hdl⟩ := hl
        obtain ⟨ocls, odict, odata, oslots⟩ := ol
        dsimp only at hcl hdl
        subst hcl hdl
        have hol' : (s.heap.push (newSet w)).get? l = some { cls := .type "tuple", dict := odict, data := .seq items nl, slots := oslots } := Heap.get?_push_of_some _ hol
        have hsls := F.sub_tuple_set
        have hslf := F.sub_tuple_frozenset
        have hne : (Value.type "tuple" == Value.type "dict") = false := by decide
        have hl1 : (s.heap.push (newSet w)).IsTuple l items := ⟨_, hol', rfl, nl, rfl⟩
        unfold Builtin.«set.__init__» noKeywords Builtin.Frozenset.updateFrom
        generalize hPI : pyIter = PI
        wp_walk
        subst hPI
        apply wpAny_pyIter_tuple hl1
        apply wpAny_bind
        apply wpAny_runValue
        have lS : l < S := by
          rw [eS]
          exact Heap.lt_size hol
        obtain ⟨J, eJ⟩ : ∃ J, J = (s.heap.push (newSet w)).objs.size := ⟨_, rfl⟩
        have eJ2 : J = S + 1 := by
          rw [eJ, eS]
          exact Heap.size_push ..
        have SJ : S ∉ [J, l] := by
          rw [eJ2]
          simp only [List.mem_cons, List.not_mem_nil, or_false, not_or]
          exact ⟨Nat.ne_of_lt (Nat.lt_succ_self _), Nat.ne_of_gt lS⟩
        have none_of : ∀ b, S ≤ b → s.heap.get? b = none := fun b hb => by
          cases z : s.heap.get? b with
          | none => rfl
          | some u => exact absurd (Heap.lt_size z) (Nat.not_lt.mpr (by rw [← eS]; exact hb))
        have hv : ∀ (i : Nat) (v : Value), items[i]? = some v → ∃ p, ks[i]? = some p ∧ v = p.1 := fun i v z => by
          have z' : items.toList[i]? = some v := by rw [Array.getElem?_toList]; exact z
          rw [hit, List.getElem?_map] at z'
          obtain ⟨p, hp, rfl⟩ := Option.map_eq_some_iff.mp z'
          exact ⟨p, hp, rfl⟩
        have hneI : l ≠ (s.heap.push (newSet w)).objs.size := by
          rw [← eJ, eJ2]
          exact Nat.ne_of_lt (Nat.lt_succ_of_lt lS)
        have hh3 : A.in1.in1.in1.handled = none := by simp [hh]
        rw [eJ] at SJ
        apply loopV (m := m) ((Walks.tuple hh3 _ l hneI items).toS) S SJ ks isz few hv s.heap hk (none_of _ (Nat.le_refl _)) (fun b hb => none_of b (by
          rw [List.mem_singleton.mp hb, ← eJ, eJ2]
          exact Nat.le_succ _)) (by simp; omega) (items.size - 0) 0 _ (by omega) (Nat.zero_le _)
          ⟨⟨_, Heap.get?_push_size _ rfl, rfl, rfl⟩, (hl1.push _)⟩ (fun b u e => Heap.get?_push_of_some _ (Heap.get?_push_of_some _ e)) ⟨[], _, _, _, _, fresh_setV (Heap.get?_push_of_some _ atS) ⟨rfl, rfl, rfl⟩ rfl, ⟨(fun p hp => nomatch hp), (fun p hp => nomatch hp), Nat.le_refl _⟩⟩
        intro s' L o es ep t mv D pm
        rw [isz] at pm
        obtain ⟨h', g2, d', tk', os'⟩ := s'
        have eg : g2 = s.gens := mv.gens
        have ed : d' = s.drawn := mv.drawn
        have eo : os' = s.os := mv.os
        subst eg ed eo
        show wpAny _ _ _ _ _ _
        apply wpAny_pure
        show wpAny _ _ (ret Value.none) _ _ _
        apply wpAny_pure
        refine ⟨rfl, h', tk', L, o, es, ep, t, rfl, D, pm, fun b u e => ?_⟩
        have b0 : b < S := by
          rw [eS]
          exact Heap.lt_size e
        refine mv.heap b u ?_ (Heap.get?_push_of_some _ (Heap.get?_push_of_some _ e))
        rw [← eJ, eJ2]
        simp only [List.mem_cons, List.not_mem_nil, or_false, not_or]
        exact ⟨Nat.ne_of_lt b0, Nat.ne_of_lt (Nat.lt_succ_of_lt b0)⟩
      · cases r₂ with
        | error e => exact hr₂
        | ok fl₂ =>
          cases fl₂ with
          | ret r =>
            obtain ⟨rfl, h', tk, L, o, es, ep, t, rfl, D, pm, kp⟩ := hr₂
            subst eS
            repeat (any_goals (first | assumption | wp_step))
            exact q _ _ _ _ _ _ _ D pm kp
          | _ => exact hr₂.elim
    | _ => exact hr.elim
end
end Lk

/-! part LkSortN -/
/-! Lk: sorted(l), l a list of alike data, nested, of any length. -/
namespace Lk
open PySem PySem.Spec PyProof.Rows L2 Evl
open PySem.W (EachIs SortsAt AllAlike Sortable dataKind sortVals sortLe keyToks dataLt)
section
variable {X : Cx} {pins : List (Addr × Obj)} {σ : L2.St} {H : Hp} {s : Shared}
theorem lay_all {ds : List PyData} (h : PyData.canLayAll0 ds = true) : ∀ d ∈ ds, PyData.canLay0 d = true := by
  induction ds with
  | nil => exact fun d hd => nomatch hd
  | cons e ds ih =>
    obtain ⟨h1, h2⟩ := lay_cons h
    intro d hd
    rcases List.mem_cons.mp hd with rfl | hd
    · exact h1
    · exact ih h2 d hd
end
end Lk

/-! part LkSetQ -/
/-! Lk: len(set(e)), sorted(set(e)), of any numbers, texts or nested tuples. -/
namespace Lk
open PySem PySem.Spec PyProof.Rows L2 Evl
open PySem.W (EachIs SortsAt AllAlike Sortable dataKind sortVals sortLe keyToks dataLt)
/-- keys of one kind: tuples (true), or numbers and texts (false) -/
def keyMode (m : Bool) (k : NestedKey) : Prop := match m with
  | true => (∃ ks, k = .tup ks) ∧ k.depth ≤ 8
  | false => ∃ kk : Key, k = nk kk
section
variable {X : Cx} {pins : List (Addr × Obj)} {σ : L2.St} {H : Hp} {s : Shared}
mutual
theorem key_is (I : Inv X pins σ H s) : ∀ (k : NestedKey) (v : V) (u : Value), Dq X.K H v k.data → RelV v u → NestedIs s.heap k u
  | .none, v, u, h, r => by
    obtain rfl := dp_none h
    cases r
    exact .none
  | .num i, v, u, h, r => by
    obtain rfl := dp_int h
    obtain ⟨t, rfl⟩ := r
    exact .int i t
  | .text x, v, u, h, r => by
    obtain rfl := dp_str h
    obtain ⟨t, rfl⟩ := r
    exact .text x t
  | .tup ks, v, u, h, r => by
    obtain ⟨a, xs, rfl, hs, hx⟩ := dp_tup h
    cases r
    obtain ⟨its, rv, ⟨o, ho, hc, n, hd⟩, _⟩ := I.tuple hs
    exact .tup ho hc hd (by simpa using keys_is I ks xs its hx rv)
theorem keys_is (I : Inv X pins σ H s) : ∀ (ks : List NestedKey) (vs : List V) (us : List Value), DqAll X.K H vs (NestedKey.datas ks) → Vals vs us → NestedAll s.heap ks us
  | [], _, _, h, r => by cases h; cases r; exact .nil
  | k :: ks, _, _, h, r => by
    cases h with
    | cons h1 h2 =>
      cases r with
      | cons r1 r2 => exact .cons (key_is I k _ _ h1 r1) (keys_is I ks _ _ h2 r2)
end
theorem ent_ok (I : Inv X pins σ H s) {m : Bool} {k : NestedKey} {v : V} {u : Value} (h : Dq X.K H v k.data) (r : RelV v u) (hm : keyMode m k) : EntOk m s.heap (u, k) := by
  cases m with
  | true =>
    obtain ⟨⟨ks, rfl⟩, hd⟩ := hm
    obtain ⟨a, xs, rfl, _, _⟩ := dp_tup h
    refine ⟨key_is I _ _ _ h r, hd, ?_⟩
    cases r
    exact ⟨_, rfl⟩
  | false =>
    obtain ⟨kk, rfl⟩ := hm
    cases kk with
    | inl i =>
      obtain rfl := dp_int h
      obtain ⟨t, rfl⟩ := r
      exact ⟨.inl i, by simp [keyIs, Value.isInt], rfl⟩
    | inr x =>
      obtain rfl := dp_str h
      obtain ⟨t, rfl⟩ := r
      exact ⟨.inr x, by simp [keyIs, Value.isStrOf], rfl⟩
/-- the members and their keys -/
theorem ents (I : Inv X pins σ H s) {F : Hp} (ex : Ex F H) {m : Bool} : ∀ {keys : List NestedKey} {vs : List V} {us : List Value}, DqAll X.K F vs (keys.map NestedKey.data) → Vals vs us → (∀ k ∈ keys, keyMode m k) →
    us = (us.zip keys).map (·.1) ∧ (us.zip keys).map (·.2) = keys ∧ (∀ p ∈ us.zip keys, EntOk m s.heap p ∧ ∃ v, RelV v p.1 ∧ Dq X.K F v p.2.data) ∧ (us.zip keys).length = keys.length
  | [], _, _, .nil, .nil, _ => ⟨rfl, rfl, (fun p hp => nomatch hp), rfl⟩
  | k :: keys, _, _, .cons h hr, .cons r rr, hk => by
    obtain ⟨e1, e2, e3, e4⟩ := ents I ex hr rr fun k m => hk k (List.mem_cons_of_mem _ m)
    refine ⟨by simp only [List.zip_cons_cons, List.map_cons]; exact congrArg _ e1, by simp only [List.zip_cons_cons, List.map_cons]; exact congrArg _ e2, fun p hp => ?_, by simp only [List.zip_cons_cons, List.length_cons]; exact congrArg _ e4⟩
    rcases List.mem_cons.mp hp with rfl | hp
    · exact ⟨ent_ok I (dp_ex ex _ _ h) r (hk k List.mem_cons_self), _, r, h⟩
    · exact e3 p hp
end
section
variable {P : Program} {w : World} {A : Around} {E : Value → Shared → Prop} {s : Shared}
variable {a : Addr} {L : List EntN} {o : Obj} {es : Array (Int × Value)} {ep : Nat} {t : SetTable}
end
section
variable {X : Cx}
/-- what set(e) is made of -/
def SetSrc (K : PySem.W.Frag) (F H : Hp) (x : V) (m : Bool) (keys : List NestedKey) : Prop :=
  ∃ (l : Addr) (xs : List V), x = .ref l ∧ (SqL K H l xs ∨ SqT K H l xs) ∧ Ex F H ∧ DqAll K F xs (keys.map NestedKey.data) ∧ (∀ k ∈ keys, keyMode m k) ∧ keys.length < lim m
def tLenSetN (K : PySem.W.Frag) (ta : TE) : TE := fun σ H Q => ta σ H fun x H1 => ∃ m keys F, SetSrc K F H1 x m keys ∧ ∀ n : Nat, (∃ L : List NestedKey, L.Nodup ∧ (∀ k, k ∈ L ↔ k ∈ keys) ∧ L.length = n) → Q (.int (n : Nat)) H1
theorem got_keys {us : List Value} {keys : List NestedKey} (e : (us.zip keys).map (·.2) = keys) {n : Nat} (hn : n = (us.zip keys).length) {L : List EntN} (g : GotN (us.zip keys) n L) : ∀ k, k ∈ L.map (·.2) ↔ k ∈ keys := by
  subst hn
  intro k
  rw [← e]
  have sub := g.sub
  have all := g.all
  rw [List.take_length] at sub all
  constructor
  · intro h
    obtain ⟨p, hp, rfl⟩ := List.mem_map.mp h
    exact List.mem_map.mpr ⟨p, sub p hp, rfl⟩
  · intro h
    obtain ⟨p, hp, rfl⟩ := List.mem_map.mp h
    exact all p hp
/-- set(e) and what follows -/
theorem set_then {pins : List (Addr × Obj)} {σ : L2.St} {F H : Hp} {s : Shared} {A : Around} {E : Value → Shared → Prop} {x : V} {u : Value} {m : Bool} {keys : List NestedKey} {Q : Value → Shared → Prop} (I : Inv X pins σ H s) (hh : A.handled = none) (hu : A.units + 13 < cLine) (r : RelV x u) (h : SetSrc X.K F H x m keys)
    (q : ∀ h' tk S L o es ep t, Inv X pins σ H { s with heap := h', toks := tk } → Keeps s.heap h' → SetV m X.prog X.w h' S L o es ep t → (∀ k, k ∈ L.map (·.2) ↔ k ∈ keys) → (∀ p ∈ L, ∃ v, RelV v p.1 ∧ Dq X.K F v p.2.data) → Q (.ref S) { s with heap := h', toks := tk }) :
    wpAny (model X.prog X.w) A (call (.type "set") [u]) Q E s := by
  obtain ⟨l, xs, rfl, hs, ex, hx, hm, few⟩ := h
  cases r
  rcases hs with hs | hs
  · obtain ⟨its, rv, hl, hz⟩ := I.list hs
    obtain ⟨e1, e2, e3, e4⟩ := ents I ex hx rv hm
    refine call_set_list (m := m) (its.zip keys) hh hl.isList (by rw [List.toList_toArray]; exact e1) (fun p hp => (e3 p hp).1) (by rw [e4]; exact few) hu fun h' tk L o es ep t D g kp => ?_
    have sub := g.sub
    rw [List.take_length] at sub
    exact q h' tk _ L o es ep t (I.kept fun b o e => kp b o e) kp D (got_keys e2 rfl g) fun p hp => (e3 p (sub p hp)).2
  · obtain ⟨its, rv, hl, hz⟩ := I.tuple hs
    obtain ⟨e1, e2, e3, e4⟩ := ents I ex hx rv hm
    refine call_set_tuple (m := m) (its.zip keys) hh hl (by rw [List.toList_toArray]; exact e1) (fun p hp => (e3 p hp).1) (by rw [e4]; exact few) hu fun h' tk L o es ep t D g kp => ?_
    have sub := g.sub
    rw [List.take_length] at sub
    exact q h' tk _ L o es ep t (I.kept fun b o e => kp b o e) kp D (got_keys e2 rfl g) fun p hp => (e3 p (sub p hp)).2
theorem pe_lenSetN {a : Expr} {ta : TE} {p p2 q pos : Pos} (hc : X.calm = true) (hu : X.A.units + 64 < cLine) (hg : Gl X "len") (hm : X.mg "len" = none) (hg2 : Gl X "set") (hm2 : X.mg "set" = none) (ha : PE X a ta)
    (na : starEach [a] X.env = (false, eval a X.env) :: starEach [] X.env := by rfl) : PE X (.Call (.Name "len" p) [.Call (.Name "set" p2) [a] [] q] [] pos) (tLenSetN X.K ta) := by
  constructor
  intro pins s σ H Q I h
  refine Call_ ?_
  apply ld_blt I hg hm PySem.boot_len
  refine PyProof.Rows.callWith_builtin1 (PyProof.Rows.args_cons ?_ rfl) rfl rfl
  refine Call_ ?_
  apply ld_blt I hg2 hm2 PyProof.Rows.boot_set
  refine PyProof.Rows.callWith_type1 (PyProof.Rows.args_cons (thn (ha.run pins s σ H _ I h) ?_) na) na rfl
  rintro v s1 ⟨x, H1, I1, r1, m, keys, F, hs, q1⟩
  apply PyProof.Rows.args_nil
  refine set_then I1 (I1.ok.hd hc) (by omega) r1 hs fun h' tk S L o es ep t I2 kp D hk hv => ?_
  apply PyProof.Rows.args_nil
  have few := D.few
  have sz := D.size
  apply call_len_set D.at_ D.exact_ D.data D.fits (by rw [sz]; unfold scanBound at few; omega)
  refine ⟨.int (L.length : Nat), H1, I2.tok _, ⟨_, by rw [sz]⟩, q1 L.length ⟨L.map (·.2), D.nd, hk, by rw [List.length_map]⟩⟩
end
end Lk

/-! part LkDn -/
/-! Lk: dicts whose keys are nested tuples of numbers and None (no text: their hashes are the same in all worlds). -/
namespace Lk
open PySem PySem.Spec PyProof.Rows L2 Evl
theorem nd_ok {P : Program} {w : World} {h : Heap} {d : Addr} {xs : List NEnt} (hd : (d == sysModules) = false) (hl : xs.length ≤ sizeLine) (x : h.DictOfH (nestedKind P w) d xs) : ∃ o : Obj, ∀ H : Hp, ObjOk P w H h d (ndO d o xs) := by
  obtain ⟨o, es, ep, h1, h2, h3, h4, h5, h6⟩ := x
  refine ⟨o, fun H => ⟨⟨hd, hl, w, es, ep, h1, h2, h3, h4, h6⟩, ⟨o, h1⟩, fun g1 g2 y k => ?_⟩⟩
  obtain ⟨a, b, w', es', ep', q1, q2, q3, q4, q5⟩ := y
  exact ⟨a, b, w', es', ep', k _ q1, q2, q3, q4, q5⟩
theorem nd_at {P : Program} {w : World} {H : Hp} {h : Heap} {d : Addr} {o : Obj} {xs : List NEnt} (hok : HOk P w H h) (e : H d = some (ndO d o xs)) (hk : ∀ x ∈ xs, NestedIs h x.1 (.ref x.2.1) ∧ nKey x.1) :
    (d == sysModules) = false ∧ xs.length ≤ sizeLine ∧ h.DictOfH (nestedKind P w) d xs := by
  have y : ObjOk P w H h d (.ext (ndP d o xs)) := hok d _ e
  obtain ⟨a, b, w', es', ep', q1, q2, q3, q4, q5⟩ := y.1
  refine ⟨a, b, o, es', ep', q1, q2, q3, ?_, fun x m => ⟨(hk x m).1, (hk x m).2.2.1⟩, q5⟩
  rw [q4]
  refine List.map_congr_left fun x m => ?_
  show entN w' x = ⟨x.1.hash w, .ref x.2.1, x.2.2⟩
  unfold entN
  rw [hash_same w' w x.1 (hk x m).2.2.2]
/-- its entries, as data -/
inductive NdAll (K : PySem.W.Frag) (F : Hp) : List NEnt → List (NestedKey × PyData) → Prop
  | nil : NdAll K F [] []
  | cons {k : NestedKey} {b : Addr} {u : Value} {v : V} {d : PyData} {xs : List NEnt} {kvs : List (NestedKey × PyData)} : nKey k → Dq K F (.ref b) k.data → RelV v u → Dq K F v d → NdAll K F xs kvs → NdAll K F ((k, b, u) :: xs) ((k, d) :: kvs)
section
variable {K : PySem.W.Frag} {F F' : Hp} {xs ys : List NEnt} {kvs kws : List (NestedKey × PyData)}
theorem nd_ex (e : Ex F F') (h : NdAll K F xs kvs) : NdAll K F' xs kvs := by
  induction h with
  | nil => exact .nil
  | cons a b c d _ ih => exact .cons a (dp_ex e _ _ b) c (dp_ex e _ _ d) ih
theorem nd_len (h : NdAll K F xs kvs) : xs.length = kvs.length := by
  induction h with
  | nil => rfl
  | cons _ _ _ _ _ ih => exact congrArg Nat.succ ih
theorem nd_app (h : NdAll K F xs kvs) (g : NdAll K F ys kws) : NdAll K F (xs ++ ys) (kvs ++ kws) := by
  induction h with
  | nil => exact g
  | cons a b c d _ ih => exact .cons a b c d ih
/-- such a dict as data: its keys -/
def keysD (kvs : List (NestedKey × PyData)) : PyData := .dict (kvs.map fun x => (x.1.data, .none))
theorem nd_data (h : NdAll K F xs kvs) : (∀ x ∈ xs, nKey x.1) ∧ DqAll K F (xs.map fun x => V.ref x.2.1) (xs.map fun x => x.1.data) ∧ kvs.map (fun x => (x.1.data, PyData.none)) = xs.map fun x => (x.1.data, PyData.none) := by
  induction h with
  | nil => exact ⟨(fun _ z => by cases z), .nil, rfl⟩
  | cons a b c d _ ih =>
    obtain ⟨i1, i2, i3⟩ := ih
    refine ⟨fun x m => ?_, .cons b i2, by rw [List.map_cons, List.map_cons, i3]⟩
    rcases List.mem_cons.mp m with rfl | m
    · exact a
    · exact i1 x m
theorem nd_dq {a : Addr} {o : Obj} (h : NdAll K F xs kvs) (e : F a = some (ndO a o xs)) : Dq K F (.ref a) (keysD kvs) := by
  obtain ⟨i1, i2, i3⟩ := nd_data h
  unfold keysD
  rw [i3]
  exact .ndc e i1 i2
def getN (kvs : List (NestedKey × PyData)) (k : NestedKey) : Option PyData := (kvs.find? fun x => decide (x.1 = k)).map (·.2)
def putN (kvs : List (NestedKey × PyData)) (k : NestedKey) (d : PyData) : List (NestedKey × PyData) :=
  if (getN kvs k).isSome then kvs.map (fun x => if x.1 = k then (x.1, d) else x) else kvs ++ [(k, d)]
theorem getN_at (h : NdAll K F xs kvs) (k : NestedKey) : match getN kvs k with
    | none => atKey xs k = none
    | some d => ∃ b u v, atKey xs k = some (b, u) ∧ RelV v u ∧ Dq K F v d := by
  induction h with
  | nil => rfl
  | cons a b c d _ ih =>
    rename_i k1 b1 u1 v1 d1 xs1 kvs1 _
    unfold getN atKey
    by_cases q : k1 = k
    · rw [List.find?_cons_of_pos (by simpa using q), List.find?_cons_of_pos (by simpa using q)]
      exact ⟨b1, u1, v1, rfl, c, d⟩
    · rw [List.find?_cons_of_neg (by simpa using q), List.find?_cons_of_neg (by simpa using q)]
      exact ih
theorem getN_some (h : NdAll K F xs kvs) (k : NestedKey) : (atKey xs k).isSome = (getN kvs k).isSome := by
  have := getN_at h k
  cases e : getN kvs k with
  | none => rw [e] at this; rw [this]; rfl
  | some d =>
    rw [e] at this
    obtain ⟨b, u, v, q, _⟩ := this
    rw [q]; rfl
theorem putN_at {k : NestedKey} {b : Addr} {u : Value} {v : V} {d : PyData} (h : NdAll K F xs kvs) (hk : nKey k) (hb : Dq K F (.ref b) k.data) (r : RelV v u) (hd : Dq K F v d) : NdAll K F (storedH xs k b u) (putN kvs k d) := by
  unfold storedH putN
  rw [getN_some h k]
  have hm : NdAll K F (xs.map (putAt k u)) (kvs.map (fun x => if x.1 = k then (x.1, d) else x)) := by
    clear hb
    induction h with
    | nil => exact .nil
    | cons a' b' c' d' _ ih =>
      rename_i k1 b1 u1 v1 d1 xs1 kvs1 _
      rw [List.map_cons, List.map_cons]
      unfold putAt
      by_cases q : k1 = k
      · subst q
        simp only [if_true]
        exact .cons a' b' r hd ih
      · simp only [q, if_false]
        exact .cons a' b' c' d' ih
  split
  · exact hm
  · exact nd_app h (.cons hk hb r hd .nil)
end
section
variable {X : Cx} {pins : List (Addr × Obj)} {σ : L2.St} {H : Hp} {s : Shared} {xs : List NEnt} {kvs : List (NestedKey × PyData)} {A : Around} {E : Value → Shared → Prop} {a b : Addr} {k : NestedKey} {F : Hp}
theorem nd_keys (I : Inv X pins σ H s) (ex : Ex F H) (h : NdAll X.K F xs kvs) : ∀ x ∈ xs, NestedIs s.heap x.1 (.ref x.2.1) ∧ nKey x.1 := by
  induction h with
  | nil => intro x m; cases m
  | cons a b c d _ ih =>
    intro x m
    rcases List.mem_cons.mp m with rfl | m
    · exact ⟨key_is I _ _ _ (dp_ex ex _ _ b) rfl, a⟩
    · exact ih x m
theorem nd_dict {o : Obj} (I : Inv X pins σ H s) (ex : Ex F H) (e : H a = some (ndO a o xs)) (h : NdAll X.K F xs kvs) : (a == sysModules) = false ∧ xs.length ≤ sizeLine ∧ s.heap.DictOfH (nestedKind X.prog X.w) a xs := nd_at I.hok e (nd_keys I ex h)
theorem nd_key (I : Inv X pins σ H s) (ex : Ex F H) (hk : nKey k) (hb : Dq X.K F (.ref b) k.data) : (nestedKind X.prog X.w).is s.heap k b := ⟨key_is I _ _ _ (dp_ex ex _ _ hb) rfl, hk.2.1⟩
theorem nd_room (hu : A.units + 10 < cLine) : (nestedKind X.prog X.w).room A.in1 := by
  show A.in1.units + 8 < cLine
  have e : A.in1.units ≤ A.units + 1 := by
    first | exact Nat.le_refl _ | (simp [Around.in1, Around.units] <;> omega)
  omega
end
end Lk

/-! part LkDnB -/
/-! Lk: such dicts, read and written: k in d, d[k], d[k] = v, {k: v}, dict(pairs). -/
namespace Lk
open PySem PySem.Spec PyProof.Rows L2 Evl
/-- k in d, k not in d -/
def tNIn (K : PySem.W.Frag) (neg : Bool) (ty td : TE) : TE := fun σ H Q => ty σ H fun y H1 => td σ H1 fun x H2 => ∃ (a b : Addr) (k : NestedKey) (o : Obj) (xs : List NEnt) (kvs : List (NestedKey × PyData)), x = .ref a ∧ y = .ref b ∧ H2 a = some (ndO a o xs) ∧ nKey k ∧ NdAll K H2 xs kvs ∧ Dq K H2 (.ref b) k.data ∧
  Q (.bl (if neg then !(getN kvs k).isSome else (getN kvs k).isSome)) H2
/-- d[k], there -/
def tNGet (K : PySem.W.Frag) (td ty : TE) : TE := fun σ H Q => td σ H fun x H1 => ty σ H1 fun y H2 => ∃ (a b b' : Addr) (k : NestedKey) (o : Obj) (xs : List NEnt) (kvs : List (NestedKey × PyData)) (u : Value) (v : V), x = .ref a ∧ y = .ref b ∧ H2 a = some (ndO a o xs) ∧ nKey k ∧ NdAll K H2 xs kvs ∧ Dq K H2 (.ref b) k.data ∧
  atKey xs k = some (b', u) ∧ RelV v u ∧ Q v H2
/-- d[k] = v -/
def sNPut (K : PySem.W.Frag) (td ty tv : TE) : TS := fun D σ H => tv σ H fun v H1 => td σ H1 fun x H2 => ty σ H2 fun y H3 => ∃ (a b : Addr) (k : NestedKey) (o : Obj) (xs : List NEnt) (kvs : List (NestedKey × PyData)), x = .ref a ∧ y = .ref b ∧ H3 a = some (ndO a o xs) ∧ xs.length < sizeLine ∧ nKey k ∧ NdAll K H3 xs kvs ∧ Dq K H3 (.ref b) k.data ∧
  ∀ u o', RelV v u → D.nx σ (upd H3 a (ndO a o' (storedH xs k b u)))
/-- {k: v}; the new dict stands empty while the pair is made -/
def tNDisp (K : PySem.W.Frag) (tk tv : TE) : TE := fun σ H Q => ∀ p o, H p = none → tk σ (upd H p (ndO p o [])) fun x H1 => tv σ H1 fun y H2 => H2 p = some (ndO p o []) ∧ ∃ (k : NestedKey) (b : Addr), x = .ref b ∧ nKey k ∧ Dq K H2 (.ref b) k.data ∧
  ∀ u o', RelV y u → Q (.ref p) (upd H2 p (ndO p o' [(k, b, u)]))
theorem nd_empty {P : Program} {w : World} (h : Heap) (hb : sysModules < h.objs.size) : ∃ o : Obj, ∀ H : Hp, ObjOk P w H (h.push { cls := .type "dict", data := .dict #[] }) h.objs.size (ndO h.objs.size o []) :=
  nd_ok (beq_eq_false_iff_ne.mpr (Ne.symm (Nat.ne_of_lt hb))) (Nat.zero_le _) (Heap.DictOfH.new h)
theorem storedH_len {α : Type} [DecidableEq α] {xs : List (α × Addr × Value)} {k : α} {a : Addr} {v : Value} : (storedH xs k a v).length ≤ xs.length + 1 := by
  unfold storedH
  split <;> simp
section
variable {X : Cx} {o i e value : Expr} {pos pos' tpos : Pos} {td ty tv : TE}
theorem pe_nget (hu : X.A.units + 10 < cLine) (ho : PE X o td) (hi : PE X i ty) (hs : NoSl i) : PE X (.Subscript o i pos) (tNGet X.K td ty) := by
  refine ⟨fun pins s σ H Q I h => ?_⟩
  refine subD_of PySem.F.slot_dict_getitem.lookup hs (thn (ho.run pins s σ H _ I h) fun u s1 ⟨x, H1, I1, rx, q1⟩ => thn (hi.run pins s1 σ H1 _ I1 q1) fun iv s2 ⟨y, H2, I2, ry, a, b, b', k, oo, xs, kvs, w, v, ex, ey, ea, hk, hn, hb, hat, rv, q2⟩ => ?_)
  subst ex ey
  obtain rfl : u = Value.ref a := rx
  obtain rfl : iv = Value.ref b := ry
  obtain ⟨_, _, dd⟩ := nd_dict I2 (Ex.refl _) ea hn
  exact ⟨dd.typeIs, wpAny_getItem_heap (nd_room hu) (nd_key I2 (Ex.refl _) hk hb) dd hat ⟨v, H2, I2.tok _, rv, q2⟩⟩
theorem pc_nnotin (hu : X.A.units + 10 < cLine) (hi : PE X i ty) (ho : PE X o td) : PC X .NotIn i o (tNIn X.K true ty td) := by
  refine ⟨fun pins s σ H Q I h => ?_⟩
  refine thn (hi.run pins s σ H _ I h) fun iv s1 ⟨y, H1, I1, ry, q1⟩ => thn (ho.run pins s1 σ H1 _ I1 q1) fun u s2 ⟨x, H2, I2, rx, a, b, k, oo, xs, kvs, ex, ey, ea, hk, hn, hb, q2⟩ => ?_
  subst ex ey
  obtain rfl : u = Value.ref a := rx
  obtain rfl : iv = Value.ref b := ry
  obtain ⟨hd, _, dd⟩ := nd_dict I2 (Ex.refl _) ea hn
  refine wpAny_notIn_heap (nd_room hu) (nd_key I2 (Ex.refl _) hk hb) hd dd ⟨_, H2, I2.tok _, ?_, q2⟩
  rw [getN_some hn k] <;> rfl
theorem ps_nput (hu : X.A.units + 10 < cLine) (ho : PE X o td) (hi : PE X i ty) (hv : PE X value tv) (hs : swapsWith value (some (.Subscript o i pos')) pos.line X.env = pure false) :
    PS X (.Assign [.Subscript o i pos'] value pos) (sNPut X.K td ty tv) := by
  refine ⟨fun pins s σ H D I h => ?_⟩
  refine wpAny_Assign_Subscript (thn (hv.run pins s σ H _ I h) fun r s1 ⟨v, H1, I1, rv, q1⟩ => thn (ho.run pins s1 σ H1 _ I1 q1) fun u s2 ⟨x, H2, I2, rx, q2⟩ => thn (hi.run pins s2 σ H2 _ I2 q2) fun iv s3 ⟨y, H3, I3, ry, a, b, k, oo, xs, kvs, ex, ey, ea, hl, hk, hn, hb, q3⟩ => ?_) hs
  subst ex ey
  obtain rfl : u = Value.ref a := rx
  obtain rfl : iv = Value.ref b := ry
  obtain ⟨hd, hz, dd⟩ := nd_dict I3 (Ex.refl _) ea hn
  refine wpAny_setItem_heap (hsz := hz) (nd_room hu) (nd_key I3 (Ex.refl _) hk hb) dd fun h' dd' hs' => ?_
  have he : ∃ q, h'.get? a = some q := let ⟨q, _, _, hq, _⟩ := dd'; ⟨q, hq⟩
  obtain ⟨o', ok'⟩ := nd_ok hd (Nat.le_trans storedH_len hl) dd'
  exact ⟨σ, _, d_write I3 (by rw [ea]; exact True.intro) hs' he (ok' _), q3 r o' rv⟩
theorem pe_ndisp (hu : X.A.units + 10 < cLine) (hi : PE X i ty) (hv : PE X value tv) : PE X (.Dict [some i] [value] pos) (tNDisp X.K ty tv) := by
  refine ⟨fun pins s σ H Q I q => ?_⟩
  have hn := I.hok.fresh (Nat.le_refl s.heap.objs.size)
  obtain ⟨o0, ok0⟩ := nd_empty (P := X.prog) (w := X.w) s.heap I.big
  have I1 := I.laid (a := s.heap.objs.size) (o := ndO s.heap.objs.size o0 []) (h' := s.heap.push { cls := .type "dict", data := .dict #[] }) (t' := s.toks) (fun _ _ q => Heap.get?_push_of_some _ q) (Nat.le_refl _) (ok0 _)
  rw [arm_eval_Dict, zip_pairTrees [some i] [value] X.env pos rfl rfl, dictDisplay_pairs (pairTrees [some i] [value] X.env pos) (by simp [pairTrees]) (by simp [pairTrees])]
  refine wpAny_bind (wpAny_standAt (wpAny_bind ?_))
  unfold subDict
  refine wpAny_bind (wpAny_alloc ?_)
  refine wpAny_bind (wpAny_holding ?_)
  rw [if_pos (show (pairTrees [some i] [value] X.env pos).length ≤ 15 by simp [pairTrees])]
  refine wpAny_bind (pairTrees_cons_walk (thn (hi.run pins _ σ _ _ I1 (q _ o0 hn)) fun u s1 ⟨x, H1, I1, rx, q1⟩ => thn (hv.run pins s1 σ H1 _ I1 q1) fun r s2 ⟨y, H2, I2, ry, ep, k, b, ex, hk, hb, q2⟩ => pairTrees_nil_walk ?_))
  subst ex
  obtain rfl : u = Value.ref b := rx
  obtain ⟨hd, hz, dd⟩ := nd_dict (kvs := []) I2 (Ex.refl _) ep .nil
  refine wpAny_holding ?_
  refine wpAny_bind ?_
  rw [List.forIn_cons]
  refine wpAny_bind (wpAny_bind (wpAny_dictSet_heap (hsz := hz) (show (nestedKind X.prog X.w).room X.A by show X.A.units + 8 < cLine; omega) (nd_key I2 (Ex.refl _) hk hb) dd fun h' dd' hs' => wpAny_pure ?_))
  dsimp only
  rw [List.forIn_nil]
  have he : ∃ q, h'.get? s.heap.objs.size = some q := let ⟨q, _, _, hq, _⟩ := dd'; ⟨q, hq⟩
  obtain ⟨o', ok'⟩ := nd_ok (xs := storedH [] k b r) hd (show 1 ≤ sizeLine by decide) dd'
  exact wpAny_pure (wpAny_pure (wpAny_pure (wpAny_pure ⟨.ref s.heap.objs.size, _, d_write I2 (by rw [ep]; exact True.intro) hs' he (ok' _), rfl, q2 r o' ry⟩)))
theorem nestedKind_stays' {P : Program} {w : World} {h h' : Heap} {k : NestedKey} {a : Addr} (x : (nestedKind P w).is h k a) (hk : ∀ b o, h.get? b = some o → h'.get? b = some o) : (nestedKind P w).is h' k a :=
  ⟨NestedIs.at (fun b o vs n e _ => hk b o e) _ _ x.1, x.2⟩
/-- dict(xs) of a list of pairs -/
def rDictN (K : PySem.W.Frag) : List V → Hp → VK → Prop := fun xs H Q => ∃ (a : Addr) (ts : List Addr) (es : List (NestedKey × Addr × V)), xs = [.ref a] ∧ SqL K H a (ts.map V.ref) ∧
  Paired (fun (t : Addr) (e : NestedKey × Addr × V) => SqT K H t [.ref e.2.1, e.2.2] ∧ nKey e.1 ∧ Dq K H (.ref e.2.1) e.1.data) ts es ∧
  ∀ p o ys, H p = none → Paired (fun (e : NestedKey × Addr × V) (x : NEnt) => x.1 = e.1 ∧ x.2.1 = e.2.1 ∧ RelV e.2.2 x.2.2) es ys → Q (.ref p) (upd H p (ndO p o (storedAllH [] ys)))
theorem prs_of {pins : List (Addr × Obj)} {σ : L2.St} {H : Hp} {s : Shared} (I : Inv X pins σ H s) : ∀ {ts : List Addr} {es : List (NestedKey × Addr × V)},
    Paired (fun (t : Addr) (e : NestedKey × Addr × V) => SqT X.K H t [.ref e.2.1, e.2.2] ∧ nKey e.1 ∧ Dq X.K H (.ref e.2.1) e.1.data) ts es →
    ∃ ys : List NEnt, Paired (fun (e : NestedKey × Addr × V) (x : NEnt) => x.1 = e.1 ∧ x.2.1 = e.2.1 ∧ RelV e.2.2 x.2.2) es ys ∧ ys.length = ts.length ∧ (∀ x ∈ ys, (nestedKind X.prog X.w).is s.heap x.1 x.2.1) ∧
      ∀ (j : Nat) (x : NEnt), ys[j]? = some x → ∃ t, ts[j]? = some t ∧ IsTup s.heap t #[.ref x.2.1, x.2.2]
  | _, _, .nil => ⟨[], .nil, rfl, (fun x m => nomatch m), fun j q e => by simp at e⟩
  | _, _, .cons (a := t) (b := e) h r => by
    obtain ⟨ys, r1, hl, hk, hp⟩ := prs_of I r
    obtain ⟨h1, h2, h3⟩ := h
    obtain ⟨its, rv, ht, _⟩ := I.tuple h1
    obtain ⟨u, y, ei, ru, ry⟩ := vals2 rv
    subst ei
    obtain rfl : u = Value.ref e.2.1 := ru
    refine ⟨(e.1, e.2.1, y) :: ys, .cons ⟨rfl, rfl, ry⟩ r1, by rw [List.length_cons, List.length_cons, hl], fun x m => ?_, fun j x ej => ?_⟩
    · rcases List.mem_cons.mp m with rfl | m
      · exact nd_key I (Ex.refl _) h2 h3
      · exact hk x m
    · cases j with
      | zero =>
        obtain rfl : (e.1, e.2.1, y) = x := Option.some.inj ej
        exact ⟨t, rfl, ht⟩
      | succ j =>
        obtain ⟨t', e1, e2⟩ := hp j x (by simpa using ej)
        exact ⟨t', by simpa using e1, e2⟩
theorem cr_dictN (hcalm : X.calm = true) (hu : X.A.units + 12 < cLine) : CallR X (.type "dict") (rDictN X.K) := by
  intro pins s σ H xs us Q I r q
  obtain ⟨a, ts, es, ex, hq, hp, q⟩ := q
  subst ex
  obtain ⟨u, eu, rx⟩ := vals1 r
  subst eu
  obtain rfl : u = Value.ref a := rx
  obtain ⟨its, rv, pl, hz⟩ := I.list hq
  have ei := refs_at rv
  subst ei
  rw [List.length_map] at hz
  obtain ⟨ys, rel, hl, hky, hpr⟩ := prs_of I hp
  obtain ⟨o, n, ho, hc, hd, hdat⟩ := pl
  have P := PairArg.list (prog := X.prog) (w := X.w) a ((ts.map Value.ref).toArray) (fun j => ts.getD j 0) (ys.map fun x => (Value.ref x.2.1, x.2.2))
  refine call_dict_pairsH (knd := nestedKind X.prog X.w) (ps := ys) P (I.ok.hd hcalm) ?_ ⟨⟨o, n, ho, hc, hd, hdat⟩, ?_, fun j k v e => ?_⟩ ⟨by simp, fun j key v e => ?_⟩ (fun h' k x m => ?_) (by rw [List.length_map, hl]; exact hz) fun h' tk hd' k => ?_
  · show X.A.in1.in1.units + 8 < cLine
    have e : ∀ A : Around, A.in1.units ≤ A.units + 1 := fun A => by
      first | exact Nat.le_refl _ | (simp [Around.in1, Around.units] <;> omega)
    have := e X.A
    have := e X.A.in1
    omega
  · simp [hl]
  · rw [List.getElem?_map] at e
    obtain ⟨x, ex, e⟩ := Option.map_eq_some_iff.mp e
    cases e
    obtain ⟨t, e1, ⟨o', g1, g2, n', g3⟩⟩ := hpr j x ex
    have ed : ts.getD j 0 = t := by rw [List.getD_eq_getElem?_getD, e1] <;> rfl
    refine ⟨by simp [e1, ed], ?_⟩
    show PairAt s.heap (ts.getD j 0) _ _
    rw [ed]
    exact .inl ⟨o', g1, g2, n', g3⟩
  · have e' : (ys.map fun x : NEnt => (Value.ref x.2.1, x.2.2))[j]? = some (key, v) := e
    rw [List.getElem?_map] at e'
    obtain ⟨x, ex, e'⟩ := Option.map_eq_some_iff.mp e'
    cases e'
    exact ⟨x.1, x.2.1, ex, rfl⟩
  · exact (nestedKind_stays' (hky x m)) fun b o e => k b o (Nat.ne_of_lt (Heap.lt_size e)) (fun z => nomatch z) e
  · have hm : (s.heap.objs.size == sysModules) = false := beq_eq_false_iff_ne.mpr (Nat.ne_of_gt I.big)
    have hlen : (storedAllH [] ys).length ≤ sizeLine := by
      refine Nat.le_trans (storedAllH_length ys []) ?_
      rw [List.length_nil, Nat.zero_add, hl]
      exact hz
    obtain ⟨o', ok'⟩ := nd_ok hm hlen hd'
    exact ⟨.ref s.heap.objs.size, _, I.laid (t' := tk) (fun b o e => k b o (fun z => nomatch z) e) (Nat.le_refl _) (ok' _), rfl, q _ o' ys (I.hok.fresh (Nat.le_refl _)) rel⟩
end
end Lk

/-! part LkNdIt -/
/-! Lk: such dicts walked: for k in d, list(d). -/
namespace Lk
open PySem PySem.Spec PyProof.Rows L2 Evl
/-- the object of such a dict, and its entries -/
theorem nd_obj {X : Cx} {pins : List (Addr × Obj)} {σ : L2.St} {H : Hp} {s : Shared} {d : Addr} {o : Obj} {xs : List NEnt} (I : Inv X pins σ H s) (h : H d = some (ndO d o xs)) :
    (d == sysModules) = false ∧ s.heap.get? d = some o ∧ o.ExactDict ∧ ∃ (es : Array DictEntry) (ep : Nat), o.data = .dict es ep ∧ es.size = xs.length ∧ xs.length ≤ sizeLine ∧
      ∀ (i : Nat) (x : NEnt), xs[i]? = some x → ∃ en : DictEntry, es[i]? = some en ∧ en.key = .ref x.2.1 := by
  obtain ⟨⟨hs, hl, w, es, ep, q1, q2, q3, q4, _⟩, _⟩ := (show ObjOk X.prog X.w H s.heap d (.ext (ndP d o xs)) from I.hok d _ h)
  refine ⟨hs, q1, q2, es, ep, q3, ?_, hl, fun i x e => ⟨entN w x, ?_, rfl⟩⟩
  · rw [← Array.length_toList, q4, List.length_map]
  · rw [← Array.getElem?_toList, q4, List.getElem?_map, e]
    rfl
/-- its keys, one behind another -/
def Itn (d : Addr) (o : Obj) (xs : List NEnt) : It :=
  ⟨fun i H => i < xs.length ∧ H d = some (ndO d o xs), fun i H v H' => (∃ x, xs[i]? = some x ∧ v = V.ref x.2.1) ∧ H' = H, fun i H => xs.length ≤ i ∧ H d = some (ndO d o xs)⟩
theorem turn_nd {P : Program} {w : World} {K : PySem.W.Frag} {tg : Expr} {d : Addr} {o : Obj} {es : Array DictEntry} {ep : Nat} {xs : List NEnt} (it : Addr) (hod : o.data = .dict es ep) (hsz : es.size = xs.length) :
    Turn P w K tg (Itn d o xs) [it] it (fun i h => h.IsKeyIter it d i xs.length ep) := by
  constructor
  case mem => exact List.mem_singleton.mpr rfl
  case obj =>
    intro i h st b hb
    obtain rfl := List.mem_singleton.mp hb
    obtain ⟨oi, e, _, dd⟩ := st
    exact ⟨oi, e, fun v z => by rw [dd] at z; exact nomatch z⟩
  case keep => exact fun i h h' st k => st.at fun oi e => k it (List.mem_singleton.mpr rfl) oi e
  case item =>
    intro X hP hw hK hc i pins s σ H E I hf st hg
    subst hP hw hK
    obtain ⟨hi, hd⟩ := hg
    obtain ⟨f0, _, _, f3, f4, f5⟩ := id (hf it (List.mem_singleton.mpr rfl))
    obtain ⟨_, hgd, _, es', ep', hdt, hsz', _, ent⟩ := nd_obj I hd
    obtain ⟨rfl, rfl⟩ := dict_ep hod hdt
    obtain ⟨x, hx⟩ : ∃ x, xs[i]? = some x := ⟨xs[i], List.getElem?_eq_getElem hi⟩
    obtain ⟨en, hen, hkey⟩ := ent i x hx
    refine next_key_item st hgd hdt hsz hen fun h' st' sb => ?_
    obtain ⟨oi, e, c, dd⟩ := id st'
    obtain ⟨g0, g1, g2, g3, g4, g5⟩ := hf it (List.mem_singleton.mpr rfl)
    exact ⟨en.key, rfl, go_of (s := { s with heap := h' }) e c dd (by decide) ⟨.ref x.2.1, H, I.turned (t' := s.toks) (fun b ob hb e => (sb.2 b hb).trans e) g0 g1 g3 g4 g5, hkey, ⟨⟨x, hx, rfl⟩, rfl⟩, st', fun b hb => (hf b hb).1⟩⟩
  case done =>
    intro X hP hw hK hc i pins s σ H E I hf st hg
    subst hP hw hK
    obtain ⟨hi, hd⟩ := hg
    obtain ⟨g0, g1, g2, g3, g4, g5⟩ := hf it (List.mem_singleton.mpr rfl)
    obtain ⟨_, hgd, _, es', ep', hdt, hsz', _, _⟩ := nd_obj I hd
    obtain ⟨rfl, rfl⟩ := dict_ep hod hdt
    exact next_key_end (I.ok.hd hc) st hgd hdt hsz hi fun h' eb => ⟨rfl, I.turned (t' := s.toks) (fun b ob hb e => eb b ob hb e) g0 g1 g3 g4 g5⟩
  case self => exact fun A i s Q E st h => wpAny_pyIter_keyiter st h
theorem refs_vals : ∀ bs : List Addr, Vals (bs.map V.ref) (bs.map Value.ref)
  | [] => .nil
  | _ :: r => .cons rfl (refs_vals r)
/-- list(d) -/
def rListN (_K : PySem.W.Frag) : List V → Hp → VK → Prop := fun vs H Q => ∃ (d : Addr) (o : Obj) (xs : List NEnt), vs = [V.ref d] ∧ H d = some (ndO d o xs) ∧ ∀ p, H p = none → Q (.ref p) (upd H p (.lst (xs.map fun x => V.ref x.2.1)))
theorem call_listN {X : Cx} (hc : X.calm = true) : CallR X (.type "list") (rListN X.K) := fun pins s σ H vs us Q I r h => by
  obtain ⟨d, o, xs, rfl, hd, q⟩ := h
  obtain ⟨u, rfl, rx⟩ := r.one
  cases rx
  obtain ⟨hs, hgd, hx, es, ep, hdt, hsz, hl, ent⟩ := nd_obj I hd
  refine PySem.W.kdl_call (kdl_raw hs hx hdt) (I.ok.hd hc) hgd (by omega) fun h' tk acc c kp e it => ?_
  have len : acc.toList.length = xs.length := by rw [Array.length_toList, it.1, hsz]
  have ea : acc.toList = (xs.map fun x => x.2.1).map Value.ref := by
    refine List.ext_getElem (by rw [len, List.length_map, List.length_map]) fun j h1 h2 => ?_
    have hj : acc[j]? = some (acc.toList[j]) := by
      rw [← Array.getElem?_toList, List.getElem?_eq_getElem h1]
    obtain ⟨en, hen, hv⟩ := it.2 j _ hj
    have hjx : j < xs.length := by omega
    obtain ⟨en', hen', hk⟩ := ent j xs[j] (List.getElem?_eq_getElem hjx)
    rw [hen] at hen'
    cases hen'
    rw [hv, hk, List.getElem_map, List.getElem_map]
  have rv : Vals (xs.map fun x => V.ref x.2.1) acc.toList := by
    have em : (xs.map fun x => V.ref x.2.1) = (xs.map fun x => x.2.1).map V.ref := by rw [List.map_map]; rfl
    rw [ea, em]
    exact refs_vals _
  refine ⟨.ref s.heap.objs.size, _, I.laid (t' := tk) (o := .lst (xs.map fun x => V.ref x.2.1)) kp (Nat.le_refl _) ?_, rfl, q _ (I.hok.fresh (Nat.le_refl _))⟩
  exact ⟨by rw [List.length_map]; exact hl, acc.toList, c, rv, by rw [Array.toArray_toList]; exact e⟩
end Lk

/-! part LkExcA -/
/-! Lk: an own error whose __init__ says super().__init__(p), then keeps p. -/
namespace Lk
open PySem PySem.Spec PyProof.Rows L2 Evl LamX
abbrev iA (p : Str) (q1 q2 : Pos) : Arguments := { posonlyargs := [], args := [{ arg := "self", annotation := none, pos := q1 }, { arg := p, annotation := none, pos := q2 }], vararg := none, kwonlyargs := [], kw_defaults := [], kwarg := none, defaults := [] }
abbrev iB (p f : Str) (p1 p2 p3 p4 p5 p6 p7 p8 p9 p10 : Pos) : List Stmt := [.Expr (.Call (.Attribute (.Call (.Name "super" p1) [] [] p2) "__init__" p3) [.Name p p4] [] p5) p6, .Assign [.Attribute (.Name "self" p7) f p8] (.Name p p9) p10]
/-- what stands of such an error -/
structure AtrTxt (P : Program) (K : PySem.W.Frag) (C fI : Addr) (p f : Str) : Prop where
  ok : OexC K C
  noN : PySem.W.findIn K (.ref C) f = some none
  iC : PySem.W.findIn K (.ref C) "__init__" = some (some (.ref fI))
  tI : PySem.W.typeIn K (.ref fI) = some (.type "function")
  sup : PySem.W.ks_superIn K C C "__init__" = some (some (.builtin "ValueError.__init__"))
  sub : PySem.W.subIn K (.ref C) (.type "ValueError") = some true
  opq : PySem.W.nsIn K cStatics "thirdparty.any" = some none
  mro : PySem.W.mroIn K C (.ref C) = some true
  cd : ∃ cd, PySem.W.clsIn K C = some cd
  top : (P.main.scope.names.lookup ("super" : Str)).isSome = false
  np : p ≠ "self" ∧ (p == ("__debug__" : Str)) = false ∧ (p == ("__classdict__" : Str)) = false ∧ p ≠ "__class__"
  bd : ∀ (q : Str) (q1 q2 : Pos) (b : List Stmt) (scope : Scope) (doc pm : Value) (an : Option Addr) (cv ct : Value) (cc : Addr) (u0 u1 : Value), bindArgs (PySem.W.ksFn "__init__" q (iA p q1 q2) b scope .none .none doc pm an cv ct cc) ⟨[u0, u1], []⟩ = pure [(("self" : Str), u0), (p, u1)]
  fn : ∃ (oc : Value) (od : Option Addr) (osl : Array (Option Value)) (q : Str) (scope : Scope) (doc pm ct : Value) (an : Option Addr) (cda cc : Addr) (q1 q2 p1 p2 p3 p4 p5 p6 p7 p8 p9 p10 : Pos) (vs : Array Value) (file : Str) (tf : Tok) (ccl cl : Value) (cdd cld : Option Addr) (ccs csl : Array (Option Value)),
    K.lookup fI = some ⟨oc, od, .func (PySem.W.ksFn "__init__" q (iA p q1 q2) (iB p f p1 p2 p3 p4 p5 p6 p7 p8 p9 p10) scope .none .none doc pm an (.ref cda) ct cc), osl⟩ ∧ PySem.W.codeIn K (.ref cda) q = true ∧
    K.lookup cda = some ⟨ccl, cdd, .fields vs, ccs⟩ ∧ vs[2]? = some (.str file tf) ∧ ((P.main.file : Str) == file) = true ∧ K.lookup cc = some ⟨cl, cld, .cell (some (.ref C)), csl⟩ ∧ (p3.endLine == p5.line) = true ∧
    NdefX.NScope ["self", p, "__class__"] ["self", p] ["__class__"] scope ∧ scope.names.lookup ("super" : Str) = some .globalImplicit
end Lk

/-! part LkExcB -/
/-! Lk: errors that were kept, with a dict or without: isinstance, an attribute of them. -/
namespace Lk
open PySem PySem.Spec PyProof.Rows L2 LamX
end Lk

/-! part Mk1 -/
/-! Mk, part 1: states of plain values beside the abstract heap. -/
namespace Mk
open PySem PySem.Spec PyProof.Rows L2 Evl Lk LamX
/-- an error: its class, its attributes -/
abbrev Exn : Type := Addr × List (Str × PyData)
/-- what a slot holds: data that no store touches, a list of one's own, the state of the draws, an exception that was caught -/
inductive O where
  | dat (d : PyData)
  | lst (ds : List PyData)
  | dct (kvs : List (Key × PyData))
  | st
  | exc (x : Exn)
  | xs (es : List (Option Addr))
  | dn (kvs : List (NestedKey × PyData))
/-- a def's slots, the number of draws so far, the slots that are lent -/
structure S where
  env : List (Option O)
  n : Nat
  bor : List Nat
/-- what an expression comes to: a thing, or what stands in a slot -/
inductive Rs where
  | val (o : O)
  | slot (i : Nat)
abbrev Ad : Type := Addr → Prop
def nol : Ad := fun _ => False
def alt (R fp : Ad) : Ad := fun a => R a ∨ fp a
def Wf (R : Ad) (fps : Nat → Ad) : Ad := fun a => R a ∨ ∃ i, fps i a
/-- the heap without what is owned, without tables -/
noncomputable def hid (W : Ad) (H : Hp) : Hp := fun a => open Classical in if W a ∨ ∃ ps, H a = some (.tbl ps) then none else H a
theorem hid_some {W : Ad} {H : Hp} {a : Addr} {o : HO} : hid W H a = some o ↔ (H a = some o ∧ ¬ W a ∧ ∀ ps, o ≠ .tbl ps) := by
  unfold hid
  constructor
  · intro h
    by_cases q : W a ∨ ∃ ps, H a = some (.tbl ps)
    · rw [if_pos q] at h; cases h
    · rw [if_neg q] at h
      exact ⟨h, fun z => q (.inl z), fun ps z => q (.inr ⟨ps, by rw [h, z]⟩)⟩
  · rintro ⟨h, w, t⟩
    rw [if_neg]
    · exact h
    · rintro (z | ⟨ps, z⟩)
      · exact w z
      · rw [h] at z
        exact t ps (Option.some.inj z)
theorem hid_ex {W : Ad} {H : Hp} : Ex (hid W H) H := fun a o h => (hid_some.mp h).1
/-- what is not owned stands as it stood -/
def Gr (W : Ad) (H : Hp) (W' : Ad) (H' : Hp) : Prop := Ex (hid W H) (hid W' H')
theorem Gr.refl {W : Ad} {H : Hp} : Gr W H W H := Ex.refl _
theorem Gr.trans {W W1 W2 : Ad} {H H1 H2 : Hp} (a : Gr W H W1 H1) (b : Gr W1 H1 W2 H2) : Gr W H W2 H2 := Ex.trans a b
theorem gr_of {W W' : Ad} {H H' : Hp} (k : ∀ a o, H a = some o → ¬ W a → (∀ ps, o ≠ .tbl ps) → H' a = some o) (w : ∀ a o, H a = some o → ¬ W a → ¬ W' a) : Gr W H W' H' := fun a o h => by
  obtain ⟨h1, h2, h3⟩ := hid_some.mp h
  exact hid_some.mpr ⟨k a o h1 h2 h3, w a o h1 h2, h3⟩
theorem gr_ex {W W' : Ad} {H H' : Hp} (e : Ex H H') (w : ∀ a o, H a = some o → ¬ W a → ¬ W' a) : Gr W H W' H' := gr_of (fun a o h _ _ => e a o h) w
theorem gr_sub {W W' : Ad} {H : Hp} (w : ∀ a, W' a → W a) : Gr W H W' H := gr_of (fun _ _ h _ _ => h) fun a _ _ n z => n (w a z)
/-- the state of the draws at a, its lists at g and c, at most n draws so far -/
def StA (H : Hp) (a g c : Addr) (n : Nat) : Prop := ∃ gs cs r t, StD H a g c gs cs r t ∧ 0 ≤ t ∧ t ≤ (n : Int)
theorem StA.mono {H : Hp} {a g c : Addr} {n m : Nat} (s : StA H a g c n) (e : n ≤ m) : StA H a g c m := by
  obtain ⟨gs, cs, r, t, s, h, h'⟩ := s
  exact ⟨gs, cs, r, t, s, h, by omega⟩
theorem StA.keep {H H' : Hp} {a g c : Addr} {n : Nat} (s : StA H a g c n) (ka : H' a = H a) (kg : H' g = H g) (kc : H' c = H c) : StA H' a g c n := by
  obtain ⟨gs, cs, r, t, s, h, h'⟩ := s
  exact ⟨gs, cs, r, t, ⟨ka.trans s.hd, kg.trans s.hg, kc.trans s.hc, s.hn⟩, h, h'⟩
/-- a dict's pairs -/
inductive KvAll (K : PySem.W.Frag) (F : Hp) : List (Key × V) → List (Key × PyData) → Prop
  | nil : KvAll K F [] []
  | cons {k : Key} {v : V} {d : PyData} {kv : List (Key × V)} {kvs : List (Key × PyData)} : Dq K F v d → KvAll K F kv kvs → KvAll K F ((k, v) :: kv) ((k, d) :: kvs)
theorem kv_ex {K : PySem.W.Frag} {F F' : Hp} (e : Ex F F') {kv : List (Key × V)} {kvs : List (Key × PyData)} (h : KvAll K F kv kvs) : KvAll K F' kv kvs := by
  induction h with
  | nil => exact .nil
  | cons h _ ih => exact .cons (dp_ex e _ _ h) ih
/-- what was caught, one behind another: errors, or None -/
inductive XAll (F : Hp) : List V → List (Option Addr) → Prop
  | nil : XAll F [] []
  | non {vs : List V} {es : List (Option Addr)} : XAll F vs es → XAll F (.non :: vs) (none :: es)
  | exc {a C : Addr} {vs : List V} {es : List (Option Addr)} : F a = some (ExV (.ref C) none a) → XAll F vs es → XAll F (.ref a :: vs) (some C :: es)
theorem xall_ex {F F' : Hp} (e : Ex F F') {vs : List V} {es : List (Option Addr)} (h : XAll F vs es) : XAll F' vs es := by
  induction h with
  | nil => exact .nil
  | non _ ih => exact .non ih
  | exc h _ ih => exact .exc (e _ _ h) ih
/-- an error's attributes -/
inductive FsAll (K : PySem.W.Frag) (F : Hp) : List (Str × V) → List (Str × PyData) → Prop
  | nil : FsAll K F [] []
  | cons {f : Str} {v : V} {d : PyData} {fs : List (Str × V)} {as : List (Str × PyData)} : Dq K F v d → FsAll K F fs as → FsAll K F ((f, v) :: fs) ((f, d) :: as)
/-- an error's dict, if it has attributes -/
def XD (K : PySem.W.Frag) (F : Hp) (as : List (Str × PyData)) (d : Option Addr) : Prop := (as = [] ∧ d = none) ∨ (as ≠ [] ∧ ∃ (dx : Addr) (fs : List (Str × V)), d = some dx ∧ F dx = some (.xd fs) ∧ FsAll K F fs as)
theorem xd_nil {K : PySem.W.Frag} {F : Hp} : XD K F [] none := .inl ⟨rfl, rfl⟩
theorem fs_ex {K : PySem.W.Frag} {F F' : Hp} (e : Ex F F') {fs : List (Str × V)} {as : List (Str × PyData)} (h : FsAll K F fs as) : FsAll K F' fs as := by
  induction h with
  | nil => exact .nil
  | cons h _ ih => exact .cons (dp_ex e _ _ h) ih
theorem xd_ex {K : PySem.W.Frag} {F F' : Hp} (e : Ex F F') {as : List (Str × PyData)} {d : Option Addr} (h : XD K F as d) : XD K F' as d := by
  rcases h with h | ⟨h, dx, fs, h1, h2, h3⟩
  · exact .inl h
  · exact .inr ⟨h, dx, fs, h1, e _ _ h2, fs_ex e h3⟩
/-- the thing o stands at v, its own objects at fp -/
inductive At (K : PySem.W.Frag) (F H : Hp) (n : Nat) : V → O → Ad → Prop
  | dat {v : V} {d : PyData} {fp : Ad} (h : Dq K F v d) (e : ∀ a, ¬ fp a) : At K F H n v (.dat d) fp
  | lst {a : Addr} {vs : List V} {ds : List PyData} {fp : Ad} (h : H a = some (.lst vs)) (hd : DqAll K F vs ds) (e : ∀ b, fp b ↔ b = a) : At K F H n (.ref a) (.lst ds) fp
  | dct {a : Addr} {kv : List (Key × V)} {kvs : List (Key × PyData)} {fp : Ad} (h : H a = some (.dK kv)) (hd : KvAll K F kv kvs) (e : ∀ b, fp b ↔ b = a) : At K F H n (.ref a) (.dct kvs) fp
  | st {a g c : Addr} {fp : Ad} (h : StA H a g c n) (e : ∀ b, fp b ↔ (b = a ∨ b = g ∨ b = c)) : At K F H n (.ref a) .st fp
  | exc {a : Addr} {x : Exn} {d : Option Addr} {fp : Ad} (h : F a = some (ExV (.ref x.1) d a)) (hx : XD K F x.2 d) (e : ∀ b, ¬ fp b) : At K F H n (.ref a) (.exc x) fp
  | xs {a : Addr} {vs : List V} {es : List (Option Addr)} {fp : Ad} (h : H a = some (.lst vs)) (hd : XAll F vs es) (e : ∀ b, fp b ↔ b = a) : At K F H n (.ref a) (.xs es) fp
  | dn {a : Addr} {ob : Obj} {xs : List NEnt} {kvs : List (NestedKey × PyData)} {fp : Ad} (h : H a = some (ndO a ob xs)) (hd : NdAll K F xs kvs) (e : ∀ b, fp b ↔ b = a) : At K F H n (.ref a) (.dn kvs) fp
section
variable {K : PySem.W.Frag} {F F' H H' : Hp} {n m : Nat} {v : V} {o : O} {fp fp' : Ad}
theorem At.keep (h : At K F H n v o fp) (e : Ex F F') (k : ∀ a, fp a → H' a = H a) (l : n ≤ m) : At K F' H' m v o fp := by
  cases h with
  | dat h z => exact .dat (dp_ex e _ _ h) z
  | lst h hd z => exact .lst ((k _ ((z _).mpr rfl)).trans h) (dps_ex e _ _ hd) z
  | dct h hd z => exact .dct ((k _ ((z _).mpr rfl)).trans h) (kv_ex e hd) z
  | st h z => exact .st ((h.keep (k _ ((z _).mpr (.inl rfl))) (k _ ((z _).mpr (.inr (.inl rfl)))) (k _ ((z _).mpr (.inr (.inr rfl))))).mono l) z
  | exc h hx z => exact .exc (e _ _ h) (xd_ex e hx) z
  | xs h hd z => exact .xs ((k _ ((z _).mpr rfl)).trans h) (xall_ex e hd) z
  | dn h hd z => exact .dn ((k _ ((z _).mpr rfl)).trans h) (nd_ex e hd) z
/-- no code object is such a dict's -/
theorem nd_ne {d : Addr} {o : Obj} {xs : List NEnt} (c : Addr) (q : Str) : ndO d o xs ≠ LamX.CodeO c q := by
  intro z
  have zz : ndP d o xs = fun h => ∃ (oc : Obj) (vs : Array Value) (t : Tok), h.get? c = some oc ∧ oc.data = .fields vs ∧ vs[1]? = some (.str q t) := HO.ext.inj z
  let oc : Obj := { cls := .none, data := .fields #[.none, .str q 0] }
  let h : Heap := { objs := Array.replicate (c + 1) oc }
  have at_ : ∀ b u, h.get? b = some u → u = oc := fun b u e => by
    have e0 : h.objs[b]? = if b < c + 1 then some oc else none := Array.getElem?_replicate
    unfold Heap.get? at e
    rw [e0] at e
    by_cases hb : b < c + 1
    · rw [if_pos hb] at e
      exact (Option.some.inj e).symm
    · rw [if_neg hb] at e
      cases e
  have r : (∃ (oc : Obj) (vs : Array Value) (t : Tok), h.get? c = some oc ∧ oc.data = .fields vs ∧ vs[1]? = some (.str q t)) := by
    refine ⟨oc, _, 0, ?_, rfl, rfl⟩
    have e0 : h.objs[c]? = if c < c + 1 then some oc else none := Array.getElem?_replicate
    unfold Heap.get?
    rw [e0, if_pos (Nat.lt_succ_self c)]
  have l : ndP d o xs h := by
    rw [zz]
    exact r
  obtain ⟨_, _, w, es, ep, e, _, hd, _⟩ := l
  have e2 := at_ d o e
  rw [e2] at hd
  cases hd
/-- what changes, and is no code object -/
def MutL : Option HO → Prop
  | some (.ext p) => ∀ c q, HO.ext p ≠ LamX.CodeO c q
  | o => Mut o
theorem MutL.mut {o : Option HO} (h : MutL o) : Mut o := by
  cases o with
  | none => exact h
  | some o => cases o <;> first | exact h | trivial
theorem mut_code {c a : Addr} {q : Str} : ¬ MutL (some (LamX.CodeO c q)) := fun h => h c q rfl
theorem mut_nd {d : Addr} {o : Obj} {xs : List NEnt} : MutL (some (ndO d o xs)) := fun c q => nd_ne c q
theorem At.live (h : At K F H n v o fp) {a : Addr} (q : fp a) : MutL (H a) := by
  cases h with
  | dat h z => exact (z a q).elim
  | lst h hd z =>
    rw [z] at q
    subst q
    rw [h]; exact trivial
  | dct h hd z =>
    rw [z] at q
    subst q
    rw [h]; exact trivial
  | st h z =>
    obtain ⟨gs, cs, r, t, s, _⟩ := h
    rcases (z a).mp q with e | e | e
    · subst e; rw [s.hd]; exact trivial
    · subst e; rw [s.hg]; exact trivial
    · subst e; rw [s.hc]; exact trivial
  | exc h hx z => exact (z a q).elim
  | xs h hd z =>
    rw [z] at q
    subst q
    rw [h]; exact trivial
  | dn h hd z =>
    rw [z] at q
    subst q
    rw [h]; exact mut_nd
theorem At.fpc (h : At K F H n v o fp) (e : ∀ a, fp' a ↔ fp a) : At K F H n v o fp' := by
  cases h with
  | dat h z => exact .dat h fun a q => z a ((e a).mp q)
  | lst h hd z => exact .lst h hd fun b => (e b).trans (z b)
  | dct h hd z => exact .dct h hd fun b => (e b).trans (z b)
  | st h z => exact .st h fun b => (e b).trans (z b)
  | exc h hx z => exact .exc h hx fun a q => z a ((e a).mp q)
  | xs h hd z => exact .xs h hd fun b => (e b).trans (z b)
  | dn h hd z => exact .dn h hd fun b => (e b).trans (z b)
end
/-- THE INVARIANT: the slots hold the things of s; R: what others own -/
structure Iv (K : PySem.W.Frag) (T : List (Addr × Str)) (σ0 σ : L2.St) (H : Hp) (s : S) (R : Ad) (fps : Nat → Ad) : Prop where
  len : σ.length = s.env.length
  at_ : ∀ i o, s.env[i]? = some (some o) → ∃ v, σ[i]? = some (some v) ∧ At K (hid (Wf R fps) H) H s.n v o (fps i)
  emp : ∀ i, (∀ o, s.env[i]? ≠ some (some o)) → ∀ a, ¬ fps i a
  dis : ∀ i j a, fps i a → fps j a → i = j
  disR : ∀ i a, fps i a → ¬ R a
  liv : ∀ a, R a → MutL (H a)
  tab : Tabs T H
  bor : ∀ i ∈ s.bor, σ[i]? = σ0[i]?
section
variable {K : PySem.W.Frag} {T : List (Addr × Str)} {σ0 σ : L2.St} {H H' : Hp} {s : S} {R R' fp : Ad} {fps : Nat → Ad}
theorem Iv.live (I : Iv K T σ0 σ H s R fps) {a : Addr} (h : Wf R fps a) : MutL (H a) := by
  rcases h with h | ⟨i, h⟩
  · exact I.liv a h
  · by_cases q : ∃ o, s.env[i]? = some (some o)
    · obtain ⟨o, q⟩ := q
      obtain ⟨v, _, x⟩ := I.at_ i o q
      exact x.live h
    · exact (I.emp i (fun o z => q ⟨o, z⟩) a h).elim
theorem Iv.fresh (I : Iv K T σ0 σ H s R fps) {p : Addr} (h : H p = none) : ¬ Wf R fps p := fun z => by
  have e := I.live z
  rw [h] at e
  exact e
/-- the heap goes on: nothing of ours is touched -/
theorem Iv.step (I : Iv K T σ0 σ H s R fps) (g : Gr (Wf R fps) H (Wf R' fps) H') (k : ∀ i a, fps i a → H' a = H a) (d : ∀ i a, fps i a → ¬ R' a)
    (l : ∀ a, R' a → MutL (H' a)) (t : Tabs T H') : Iv K T σ0 σ H' s R' fps where
  len := I.len
  at_ := fun i o e => by
    obtain ⟨v, h1, h2⟩ := I.at_ i o e
    exact ⟨v, h1, h2.keep g (fun a q => k i a q) (Nat.le_refl _)⟩
  emp := I.emp
  dis := I.dis
  disR := d
  liv := l
  tab := t
  bor := I.bor
/-- some of the others' things are given up -/
theorem Iv.drop (I : Iv K T σ0 σ H s R fps) (h : ∀ a, R' a → R a) : Iv K T σ0 σ H s R' fps :=
  I.step (gr_sub fun a z => z.imp (h a) id) (fun _ _ _ => rfl) (fun i a q z => I.disR i a q (h a z)) (fun a z => I.liv a (h a z)) I.tab
theorem Iv.slotv (I : Iv K T σ0 σ H s R fps) {i : Nat} {o : O} {v : V} (e : s.env[i]? = some (some o)) (h : σ[i]? = some (some v)) : At K (hid (Wf R fps) H) H s.n v o (fps i) := by
  obtain ⟨w, h1, h2⟩ := I.at_ i o e
  rw [h] at h1
  cases h1
  exact h2
end
theorem tabs_new {T : List (Addr × Str)} {H : Hp} {p : Addr} {o : HO} (t : Tabs T H) (hp : H p = none) : Tabs T (upd H p o) := t.ext (Ex.new hp)
end Mk

/-! part Mk2 -/
/-! Mk, part 2: readings that run along with states of plain values. -/
namespace Mk
open PySem PySem.Spec PyProof.Rows L2 Evl Lk LamX
abbrev XM : Type := Exn → S → Prop
abbrev ME : Type := S → (Rs → S → Prop) → XM → Prop
abbrev MD : Type := S → (PyData → S → Prop) → XM → Prop
abbrev MT : Type := S → (Bool → S → Prop) → XM → Prop
abbrev MA : Type := S → (List Rs → S → Prop) → XM → Prop
inductive RAt (K : PySem.W.Frag) (F H : Hp) (n : Nat) (σ : L2.St) : V → Rs → Ad → Prop
  | val {v : V} {o : O} {fp : Ad} (h : At K F H n v o fp) : RAt K F H n σ v (.val o) fp
  | slot {v : V} {i : Nat} {fp : Ad} (h : σ[i]? = some (some v)) (e : ∀ a, ¬ fp a) : RAt K F H n σ v (.slot i) fp
theorem RAt.keep {K : PySem.W.Frag} {F F' H H' : Hp} {n m : Nat} {σ : L2.St} {v : V} {r : Rs} {fp : Ad} (h : RAt K F H n σ v r fp) (e : Ex F F') (k : ∀ a, fp a → H' a = H a) (l : n ≤ m) : RAt K F' H' m σ v r fp := by
  cases h with
  | val h => exact .val (h.keep e k l)
  | slot h z => exact .slot h z
/-- from one state to a later one -/
structure Go (K : PySem.W.Frag) (T : List (Addr × Str)) (σ0 : L2.St) (H : Hp) (s : S) (R : Ad) (fps : Nat → Ad) (σ' : L2.St) (H' : Hp) (s' : S) (R' : Ad) (fps' : Nat → Ad) : Prop where
  iv : Iv K T σ0 σ' H' s' R' fps'
  kp : ∀ a, R a → H' a = H a
  gr : Gr (Wf R fps) H (Wf R' fps') H'
  bo : s'.bor = s.bor
  le : s.n ≤ s'.n
  sb : ∀ a, R a → R' a
section
variable {K : PySem.W.Frag} {T : List (Addr × Str)} {σ0 σ σ1 σ2 : L2.St} {H H1 H2 : Hp} {s s1 s2 : S} {R R1 R2 fp : Ad} {fps fps1 fps2 : Nat → Ad}
theorem Go.refl (I : Iv K T σ0 σ H s R fps) : Go K T σ0 H s R fps σ H s R fps := ⟨I, fun _ _ => rfl, Gr.refl, rfl, Nat.le_refl _, fun _ h => h⟩
theorem Go.trans (a : Go K T σ0 H s R fps σ1 H1 s1 R1 fps1) (b : Go K T σ0 H1 s1 R1 fps1 σ2 H2 s2 R2 fps2) : Go K T σ0 H s R fps σ2 H2 s2 R2 fps2 :=
  ⟨b.iv, fun x h => (b.kp x (a.sb x h)).trans (a.kp x h), a.gr.trans b.gr, b.bo.trans a.bo, Nat.le_trans a.le b.le, fun x h => b.sb x (a.sb x h)⟩
theorem Go.drop (a : Go K T σ0 H s R fps σ1 H1 s1 R1 fps1) (h1 : ∀ x, R x → R2 x) (h2 : ∀ x, R2 x → R1 x) : Go K T σ0 H s R fps σ1 H1 s1 R2 fps1 :=
  ⟨a.iv.drop h2, a.kp, a.gr.trans (gr_sub fun x z => z.imp (h2 x) id), a.bo, a.le, h1⟩
end
section
variable (K : PySem.W.Frag) (T : List (Addr × Str)) (W : WX)
/-- what is wished of the ways out by an error -/
def XOk (σ0 σ : L2.St) (H : Hp) (s : S) (R : Ad) (fps : Nat → Ad) (X : XM) : Prop := ∀ x H' s' fps', Go K T σ0 H s R fps σ H' s' R fps' → X x s' → ∀ d, XD K (hid (Wf R fps') H') x.2 d → W (.ref x.1) d σ H'
def SimE (te : TE) (m : ME) : Prop := ∀ σ0 σ H s R fps, Iv K T σ0 σ H s R fps → ∀ Qm Xm, m s Qm Xm → XOk K T W σ0 σ H s R fps Xm → ∀ Q : VK,
  (∀ v H' s' r fp fps', Go K T σ0 H s R fps σ H' s' (alt R fp) fps' → RAt K (hid (Wf (alt R fp) fps') H') H' s'.n σ v r fp → (∀ a, fp a → ¬ R a) → Qm r s' → Q v H') → te σ H Q
def SimD (te : TE) (m : MD) : Prop := ∀ σ0 σ H s R fps, Iv K T σ0 σ H s R fps → ∀ Qm Xm, m s Qm Xm → XOk K T W σ0 σ H s R fps Xm → ∀ Q : VK,
  (∀ v H' s' d fps', Go K T σ0 H s R fps σ H' s' R fps' → Dq K (hid (Wf R fps') H') v d → Qm d s' → Q v H') → te σ H Q
def SimT (te : TT) (m : MT) : Prop := ∀ σ0 σ H s R fps, Iv K T σ0 σ H s R fps → ∀ Qm Xm, m s Qm Xm → XOk K T W σ0 σ H s R fps Xm → ∀ Q : Bool → Hp → Prop,
  (∀ b H' s' fps', Go K T σ0 H s R fps σ H' s' R fps' → Qm b s' → Q b H') → te σ H Q
/-- arguments, each with its own things -/
inductive RAts (F H : Hp) (n : Nat) (σ : L2.St) : List V → List Rs → List Ad → Prop
  | nil : RAts F H n σ [] [] []
  | cons {v : V} {r : Rs} {fp : Ad} {vs : List V} {rs : List Rs} {l : List Ad} : RAt K F H n σ v r fp → RAts F H n σ vs rs l → RAts F H n σ (v :: vs) (r :: rs) (fp :: l)
def AnyF (l : List Ad) : Ad := fun a => ∃ f ∈ l, f a
def Apart : List Ad → Prop
  | [] => True
  | f :: l => (∀ a, f a → ¬ AnyF l a) ∧ Apart l
def SimA (ta : TA) (m : MA) : Prop := ∀ σ0 σ H s R fps, Iv K T σ0 σ H s R fps → ∀ Qm Xm, m s Qm Xm → XOk K T W σ0 σ H s R fps Xm → ∀ Q : List V → Hp → Prop,
  (∀ vs H' s' rs l fps', Go K T σ0 H s R fps σ H' s' (alt R (AnyF l)) fps' → RAts K (hid (Wf (alt R (AnyF l)) fps') H') H' s'.n σ vs rs l → Apart l → (∀ a, AnyF l a → ¬ R a) → Qm rs s' → Q vs H') → ta σ H Q
end
section
variable {K : PySem.W.Frag} {T : List (Addr × Str)} {W : WX} {σ0 σ σ1 : L2.St} {H H1 : Hp} {s s1 : S} {R R1 : Ad} {fps fps1 : Nat → Ad} {X : XM}
/-- the wish goes on with the run -/
theorem XOk.go (x : XOk K T W σ0 σ H s R fps X) (g : Go K T σ0 H s R fps σ H1 s1 R1 fps1) : XOk K T W σ0 σ H1 s1 R1 fps1 X := fun C H' s' fps' g' h d hd =>
  x C H' s' fps' ((g.trans g').drop (fun _ z => z) g.sb) h d (xd_ex (gr_sub fun a z => z.imp (g.sb a) id) hd)
theorem Go.alt0 {fp : Ad} (g : Go K T σ0 H s R fps σ1 H1 s1 R fps1) (h : ∀ a, ¬ fp a) : Go K T σ0 H s R fps σ1 H1 s1 (alt R fp) fps1 := by
  have e : alt R fp = R := funext fun a => propext ⟨fun z => z.elim id fun q => (h a q).elim, fun z => .inl z⟩
  rw [e]; exact g
theorem alt_nol (R : Ad) : alt R nol = R := funext fun a => propext ⟨fun z => z.elim id fun q => q.elim, fun z => .inl z⟩
end
/-! ### what is read of a result -/
def rdO : O → Option PyData
  | .dat d => some d
  | .lst ds => some (.list ds)
  | .dct [] => some (.dict [])
  | .dn kvs => some (keysD kvs)
  | _ => none
def rd (s : S) : Rs → Option PyData
  | .val o => rdO o
  | .slot i => match s.env[i]? with
    | some (some o) => rdO o
    | _ => none
def rds (s : S) : List Rs → Option (List PyData)
  | [] => some []
  | r :: rs => match rd s r, rds s rs with
    | some d, some ds => some (d :: ds)
    | _, _ => none
/-- data whose items no store touches -/
inductive VAt (K : PySem.W.Frag) (F H : Hp) : V → PyData → Prop
  | dq {v : V} {d : PyData} : Dq K F v d → VAt K F H v d
  | lst {a : Addr} {vs : List V} {ds : List PyData} : H a = some (.lst vs) → DqAll K F vs ds → VAt K F H (.ref a) (.list ds)
  | dct0 {a : Addr} : H a = some (.dK []) → VAt K F H (.ref a) (.dict [])
  | nd {a : Addr} {ob : Obj} {xs : List NEnt} {kvs : List (NestedKey × PyData)} : H a = some (ndO a ob xs) → NdAll K F xs kvs → VAt K F H (.ref a) (keysD kvs)
inductive VAts (K : PySem.W.Frag) (F H : Hp) : List V → List PyData → Prop
  | nil : VAts K F H [] []
  | cons {v : V} {d : PyData} {vs : List V} {ds : List PyData} : VAt K F H v d → VAts K F H vs ds → VAts K F H (v :: vs) (d :: ds)
section
variable {K : PySem.W.Frag} {T : List (Addr × Str)} {σ0 σ : L2.St} {F H H' : Hp} {n : Nat} {s : S} {R fp : Ad} {fps : Nat → Ad} {v : V} {d : PyData} {ds : List PyData}
theorem VAt.full (h : VAt K F H v d) (e : Ex F H) : Dq K H v d := by
  cases h with
  | dq h => exact dp_ex e _ _ h
  | lst h hd => exact .lst (sq_of h) (dps_ex e _ _ hd)
  | dct0 h => exact .dct h
  | nd h hd => exact nd_dq (nd_ex e hd) h
theorem VAt.list (h : VAt K F H v (.list ds)) (e : Ex F H) : ∃ a xs, v = .ref a ∧ SqL K H a xs ∧ DqAll K F xs ds := by
  cases h with
  | dq h =>
    obtain ⟨a, xs, rfl, h1, h2⟩ := dp_lst h
    exact ⟨a, xs, rfl, ex_l e h1, h2⟩
  | lst h hd => exact ⟨_, _, rfl, sq_of h, hd⟩
theorem VAt.dict {p : PyData × PyData} {r : List (PyData × PyData)} (h : VAt K F H v (.dict (p :: r))) (e : Ex F H) : ∃ (a : Addr) (ob : Obj) (xs : List NEnt), v = .ref a ∧ H a = some (ndO a ob xs) ∧ DqAll K F (xs.map fun x => V.ref x.2.1) ((p :: r).map (·.1)) := by
  generalize ed : PyData.dict (p :: r) = d at h
  cases h with
  | dq h =>
    cases h with
    | dct _ => cases ed
    | @ndc a ob xs h k hd =>
      have e2 : (p :: r).map (·.1) = xs.map fun x => x.1.data := by
        rw [PyData.dict.inj ed, List.map_map]
        rfl
      rw [e2]
      exact ⟨a, ob, xs, rfl, e _ _ h, hd⟩
    | _ => cases ed
  | lst _ _ => cases ed
  | dct0 _ => cases ed
  | nd h hd =>
    obtain ⟨_, i2, i3⟩ := nd_data hd
    have e2 := congrArg (List.map (·.1)) ((PyData.dict.inj ed).trans i3)
    rw [e2, List.map_map]
    exact ⟨_, _, _, rfl, h, i2⟩
theorem VAt.tuple (h : VAt K F H v (.tuple ds)) (e : Ex F H) : ∃ a xs, v = .ref a ∧ SqT K H a xs ∧ DqAll K F xs ds := by
  cases h with
  | dq h =>
    obtain ⟨a, xs, rfl, h1, h2⟩ := dp_tup h
    exact ⟨a, xs, rfl, ex_t e h1, h2⟩
theorem VAt.int {i : Int} (h : VAt K F H v (.int i)) : v = .int i := by
  cases h with
  | dq h => exact dp_int h
theorem VAt.str {i : Str} (h : VAt K F H v (.str i)) : v = .str i := by
  cases h with
  | dq h => exact dp_str h
theorem VAt.bool {i : Bool} (h : VAt K F H v (.bool i)) : v = .bl i := by
  cases h with
  | dq h => exact dp_bool h
theorem VAt.none (h : VAt K F H v .none) : v = .non := by
  cases h with
  | dq h => exact dp_none h
theorem vat_o {o : O} (h : At K F H n v o fp) (e : rdO o = some d) : VAt K F H v d := by
  cases h with
  | dat h _ => cases e; exact .dq h
  | lst h hd _ => cases e; exact .lst h hd
  | dct h hd _ =>
    cases hd with
    | nil => cases e; exact .dct0 h
    | cons _ _ => cases e
  | st _ _ => cases e
  | exc _ _ _ => cases e
  | xs _ _ _ => cases e
  | dn h hd _ => cases e; exact .nd h hd
theorem rd_at {r : Rs} (I : Iv K T σ0 σ H s R fps) (h : RAt K (hid (Wf R fps) H) H n σ v r fp) (e : rd s r = some d) : VAt K (hid (Wf R fps) H) H v d := by
  cases h with
  | val h => exact vat_o h e
  | slot h hz =>
    rename_i i
    have e' : (match s.env[i]? with
      | some (some o) => rdO o
      | _ => Option.none) = some d := e
    cases q : s.env[i]? with
    | none => rw [q] at e'; cases e'
    | some x =>
      cases x with
      | none => rw [q] at e'; cases e'
      | some o =>
        rw [q] at e'
        exact vat_o (I.slotv q h) e'
theorem rds_at {vs : List V} {rs : List Rs} {l : List Ad} (I : Iv K T σ0 σ H s R fps) (h : RAts K (hid (Wf R fps) H) H n σ vs rs l) : ∀ {ds : List PyData}, rds s rs = some ds → VAts K (hid (Wf R fps) H) H vs ds := by
  induction h with
  | nil =>
    intro ds e
    cases e
    exact .nil
  | cons h _ ih =>
    intro ds e
    unfold rds at e
    split at e
    · rename_i d ds' q1 q2
      cases e
      exact .cons (rd_at I h q1) (ih q2)
    · cases e
end
/-! ### what an operation comes to -/
inductive Res (K : PySem.W.Frag) (F H : Hp) : V → Hp → O → Prop
  | dat {v : V} {d : PyData} : Dq K F v d → Res K F H v H (.dat d)
  | tup {p : Addr} {vs : List V} {ds : List PyData} : H p = none → DqAll K F vs ds → Res K F H (.ref p) (upd H p (.tup vs)) (.dat (.tuple ds))
  | lst {p : Addr} {vs : List V} {ds : List PyData} : H p = none → DqAll K F vs ds → Res K F H (.ref p) (upd H p (.lst vs)) (.lst ds)
  | dct {p : Addr} {kv : List (Key × V)} {kvs : List (Key × PyData)} : H p = none → KvAll K F kv kvs → Res K F H (.ref p) (upd H p (.dK kv)) (.dct kvs)
  | dn {p : Addr} {ob : Obj} {xs : List NEnt} {kvs : List (NestedKey × PyData)} : H p = none → NdAll K F xs kvs → Res K F H (.ref p) (upd H p (ndO p ob xs)) (.dn kvs)
/-- rr does on values what f does on data -/
def PSim (K : PySem.W.Frag) (rr : List V → Hp → VK → Prop) (f : List PyData → (O → Prop) → Prop) : Prop := ∀ F H vs ds Qo Q, Ex F H → VAts K F H vs ds → f ds Qo →
  (∀ v H' o, Res K F H v H' o → Qo o → Q v H') → rr vs H Q
section
variable {K : PySem.W.Frag} {T : List (Addr × Str)} {W : WX} {σ0 σ : L2.St} {H H' : Hp} {n : Nat} {s : S} {R fp : Ad} {fps : Nat → Ad} {v : V} {o : O}
/-- behind such an operation, with things of others at R -/
theorem res_go (I : Iv K T σ0 σ H s R fps) (r : Res K (hid (Wf R fps) H) H v H' o) : ∃ fp, Go K T σ0 H s R fps σ H' s (alt R fp) fps ∧ At K (hid (Wf (alt R fp) fps) H') H' s.n v o fp ∧ ∀ a, fp a → H a = none := by
  cases r with
  | dat h =>
    refine ⟨nol, (Go.refl I).alt0 (fun _ z => z), ?_, fun _ z => z.elim⟩
    rw [alt_nol]
    exact .dat h fun _ z => z
  | tup hp h =>
    rename_i p vs ds
    have hW := I.fresh hp
    have g : Gr (Wf R fps) H (Wf R fps) (upd H p (.tup vs)) := gr_ex (Ex.new hp) (fun _ _ _ n => n)
    refine ⟨nol, Go.alt0 ⟨I.step g (fun i a q => upd_ne fun z => hW (.inr ⟨i, z ▸ q⟩)) I.disR (fun a q => ?_) (tabs_new I.tab hp), fun a q => upd_ne fun z => hW (.inl (z ▸ q)), g, rfl, Nat.le_refl _, fun _ z => z⟩ (fun _ z => z), ?_, fun _ z => z.elim⟩
    · have e := I.liv a q
      rw [upd_ne (show a ≠ p from fun z => hW (.inl (z ▸ q)))]
      exact e
    · rw [alt_nol]
      exact .dat (.tup (st_of (hid_some.mpr ⟨upd_same, hW, fun _ z => nomatch z⟩)) (dps_ex g _ _ h)) fun _ z => z
  | lst hp h =>
    rename_i p vs ds
    have hW := I.fresh hp
    have g : Gr (Wf R fps) H (Wf (alt R fun a => a = p) fps) (upd H p (.lst vs)) := gr_ex (Ex.new hp) (fun a u e n z => by
      rcases z with (z | z) | z
      · exact n (.inl z)
      · rw [z, hp] at e; cases e
      · exact n (.inr z))
    refine ⟨fun a => a = p, ⟨I.step g (fun i a q => upd_ne fun z => hW (.inr ⟨i, z ▸ q⟩)) (fun i a q z => ?_) (fun a q => ?_) (tabs_new I.tab hp), fun a q => upd_ne fun z => hW (.inl (z ▸ q)), g, rfl, Nat.le_refl _, fun _ z => .inl z⟩, ?_, fun a z => by rw [z]; exact hp⟩
    · rcases z with z | z
      · exact I.disR i a q z
      · exact hW (.inr ⟨i, z ▸ q⟩)
    · rcases q with q | q
      · have e := I.liv a q
        rw [upd_ne (show a ≠ p from fun z => hW (.inl (z ▸ q)))]
        exact e
      · rw [q, upd_same]
        exact trivial
    · exact .lst upd_same (dps_ex g _ _ h) fun _ => Iff.rfl
  | dct hp h =>
    rename_i p kv kvs
    have hW := I.fresh hp
    have g : Gr (Wf R fps) H (Wf (alt R fun a => a = p) fps) (upd H p (.dK kv)) := gr_ex (Ex.new hp) (fun a u e n z => by
      rcases z with (z | z) | z
      · exact n (.inl z)
      · rw [z, hp] at e; cases e
      · exact n (.inr z))
    refine ⟨fun a => a = p, ⟨I.step g (fun i a q => upd_ne fun z => hW (.inr ⟨i, z ▸ q⟩)) (fun i a q z => ?_) (fun a q => ?_) (tabs_new I.tab hp), fun a q => upd_ne fun z => hW (.inl (z ▸ q)), g, rfl, Nat.le_refl _, fun _ z => .inl z⟩, ?_, fun a z => by rw [z]; exact hp⟩
    · rcases z with z | z
      · exact I.disR i a q z
      · exact hW (.inr ⟨i, z ▸ q⟩)
    · rcases q with q | q
      · have e := I.liv a q
        rw [upd_ne (show a ≠ p from fun z => hW (.inl (z ▸ q)))]
        exact e
      · rw [q, upd_same]
        exact trivial
    · exact .dct upd_same (kv_ex g h) fun _ => Iff.rfl
  | dn hp h =>
    rename_i p ob xs kvs
    have hW := I.fresh hp
    have g : Gr (Wf R fps) H (Wf (alt R fun a => a = p) fps) (upd H p (ndO p ob xs)) := gr_ex (Ex.new hp) (fun a u e n z => by
      rcases z with (z | z) | z
      · exact n (.inl z)
      · rw [z, hp] at e; cases e
      · exact n (.inr z))
    refine ⟨fun a => a = p, ⟨I.step g (fun i a q => upd_ne fun z => hW (.inr ⟨i, z ▸ q⟩)) (fun i a q z => ?_) (fun a q => ?_) (tabs_new I.tab hp), fun a q => upd_ne fun z => hW (.inl (z ▸ q)), g, rfl, Nat.le_refl _, fun _ z => .inl z⟩, ?_, fun a z => by rw [z]; exact hp⟩
    · rcases z with z | z
      · exact I.disR i a q z
      · exact hW (.inr ⟨i, z ▸ q⟩)
    · rcases q with q | q
      · have e := I.liv a q
        rw [upd_ne (show a ≠ p from fun z => hW (.inl (z ▸ q)))]
        exact e
      · rw [q, upd_same]
        exact mut_nd
    · exact .dn upd_same (nd_ex g h) fun _ => Iff.rfl
/-- a call on values that were read -/
def mCB (f : List PyData → (O → Prop) → Prop) (m : MA) : ME := fun s Q X => m s (fun rs s1 => match rds s1 rs with
  | some ds => f ds fun o => Q (.val o) s1
  | none => False) X
theorem sim_cb {rr : List V → Hp → VK → Prop} {f : List PyData → (O → Prop) → Prop} {ta : TA} {m : MA} (hr : PSim K rr f) (ha : SimA K T W ta m) : SimE K T W (tCB rr ta) (mCB f m) := by
  intro σ0 σ H s R fps I Qm Xm hm hx Q hQ
  refine ha σ0 σ H s R fps I _ Xm hm hx _ fun vs H1 s1 rs l fps1 g hrs ap nR q => ?_
  split at q
  · rename_i ds e
    refine hr _ H1 vs ds _ Q hid_ex (rds_at g.iv hrs e) q fun v H2 o r qo => ?_
    obtain ⟨fp, g2, ho, hn⟩ := res_go g.iv r
    have nA : ∀ a, fp a → ¬ R a ∧ ¬ AnyF l a := fun a z => by
      have hf := hn a z
      constructor
      · intro y
        have e := g.iv.liv a (.inl y)
        rw [hf] at e; exact e
      · intro y
        have e := g.iv.liv a (.inr y)
        rw [hf] at e; exact e
    have g3 := (g.trans g2).drop (R2 := alt R fp) (fun _ z => .inl z) (fun a z => z.imp (fun y => .inl y) id)
    refine hQ v H2 s1 (.val o) fp fps1 g3 (.val (ho.keep (gr_sub fun a z => z.imp (fun y => y.imp (fun w => .inl w) id) id) (fun _ _ => rfl) (Nat.le_refl _))) (fun a z => (nA a z).1) qo
  · exact q.elim
end
/-! ### arguments -/
def mNil : MA := fun s Q _ => Q [] s
def mCons (m : ME) (r : MA) : MA := fun s Q X => m s (fun x s1 => r s1 (fun xs s2 => Q (x :: xs) s2) X) X
section
variable {K : PySem.W.Frag} {T : List (Addr × Str)} {W : WX}
theorem RAts.keep {F F' H H' : Hp} {n m : Nat} {σ : L2.St} {vs : List V} {rs : List Rs} {l : List Ad} (h : RAts K F H n σ vs rs l) (e : Ex F F') (k : ∀ a, AnyF l a → H' a = H a) (le : n ≤ m) : RAts K F' H' m σ vs rs l := by
  induction h with
  | nil => exact .nil
  | cons h _ ih => exact .cons (h.keep e (fun a q => k a ⟨_, List.mem_cons_self, q⟩) le) (ih fun a ⟨f, hf, q⟩ => k a ⟨f, List.mem_cons_of_mem _ hf, q⟩)
theorem anyF_cons {f : Ad} {l : List Ad} : AnyF (f :: l) = alt f (AnyF l) := funext fun a => propext ⟨fun ⟨g, hg, q⟩ => by
  rcases List.mem_cons.mp hg with rfl | hg
  · exact .inl q
  · exact .inr ⟨g, hg, q⟩, fun z => by
  rcases z with z | ⟨g, hg, q⟩
  · exact ⟨f, List.mem_cons_self, z⟩
  · exact ⟨g, List.mem_cons_of_mem _ hg, q⟩⟩
theorem alt_assoc (A B C : Ad) : alt (alt A B) C = alt A (alt B C) := funext fun a => propext or_assoc
theorem sim_nil : SimA K T W tNil mNil := by
  intro σ0 σ H s R fps I Qm Xm hm hx Q hQ
  refine hQ [] H s [] [] fps ((Go.refl I).alt0 ?_) .nil trivial ?_ hm
  · rintro a ⟨f, hf, _⟩; cases hf
  · rintro a ⟨f, hf, _⟩; cases hf
theorem sim_cons {te : TE} {ta : TA} {m : ME} {r : MA} (h : SimE K T W te m) (hr : SimA K T W ta r) : SimA K T W (tCons te ta) (mCons m r) := by
  intro σ0 σ H s R fps I Qm Xm hm hx Q hQ
  refine h σ0 σ H s R fps I _ Xm hm hx _ fun v H1 s1 x fp fps1 g hv nR q => ?_
  refine hr σ0 σ H1 s1 _ fps1 g.iv _ Xm q (hx.go g) _ fun vs H2 s2 xs l fps2 g2 hvs ap nR2 q2 => ?_
  have e : alt (alt R fp) (AnyF l) = alt R (AnyF (fp :: l)) := by rw [anyF_cons, alt_assoc]
  have g3 := g.trans g2
  rw [e] at g3 hvs
  refine hQ (v :: vs) H2 s2 (x :: xs) (fp :: l) fps2 g3 (.cons ?_ hvs) ⟨fun a q z => nR2 a z (.inr q), ap⟩ (fun a z y => ?_) q2
  · have g2' := g2.gr
    rw [e] at g2'
    exact hv.keep g2' (fun a q => g2.kp a (.inr q)) g2.le
  · rw [anyF_cons] at z
    rcases z with z | z
    · exact nR a z y
    · exact nR2 a z (.inl y)
end
end Mk

/-! part Mk3 -/
/-! Mk, part 3: slots written, data frozen, tests, statements. -/
namespace Mk
open PySem PySem.Spec PyProof.Rows L2 Evl Lk LamX
def fset (fps : Nat → Ad) (i : Nat) (f : Ad) : Nat → Ad := fun j => if j = i then f else fps j
theorem fset_same {fps : Nat → Ad} {i : Nat} {f : Ad} : fset fps i f i = f := if_pos rfl
theorem fset_ne {fps : Nat → Ad} {i j : Nat} {f : Ad} (h : j ≠ i) : fset fps i f j = fps j := if_neg h
section
variable {K : PySem.W.Frag} {T : List (Addr × Str)} {σ0 σ : L2.St} {H H' : Hp} {s : S} {R R' fp fp' : Ad} {fps : Nat → Ad}
/-- slot i gets another thing -/
theorem Iv.put {i : Nat} {v' : V} {o' : O} {n' : Nat} (I : Iv K T σ0 σ H s R fps) (hi : i < σ.length) (hR : ∀ a, R' a → R a) (g : Gr (Wf R fps) H (Wf R' (fset fps i fp')) H') (k : ∀ j a, j ≠ i → fps j a → H' a = H a)
    (kR : ∀ a, R' a → H' a = H a) (t : Tabs T H') (le : s.n ≤ n') (at' : At K (hid (Wf R' (fset fps i fp')) H') H' n' v' o' fp') (d1 : ∀ a, fp' a → ¬ R' a) (d2 : ∀ j a, j ≠ i → fp' a → ¬ fps j a) (b : i ∈ s.bor → σ[i]? = some (some v')) :
    Iv K T σ0 (σ.set i (some v')) H' ⟨s.env.set i (some o'), n', s.bor⟩ R' (fset fps i fp') where
  len := by rw [List.length_set, List.length_set]; exact I.len
  at_ := fun j o e => by
    by_cases q : j = i
    · subst q
      rw [List.getElem?_set_self (by rw [← I.len]; exact hi)] at e
      have e1 := Option.some.inj (Option.some.inj e)
      subst e1
      exact ⟨v', List.getElem?_set_self hi, by rw [fset_same]; exact at'⟩
    · rw [List.getElem?_set_ne (Ne.symm q)] at e
      obtain ⟨v, h1, h2⟩ := I.at_ j o e
      exact ⟨v, by rw [List.getElem?_set_ne (Ne.symm q)]; exact h1, by rw [fset_ne q]; exact h2.keep g (fun a z => k j a q z) le⟩
  emp := fun j h a z => by
    by_cases q : j = i
    · subst q
      exact h o' (List.getElem?_set_self (by rw [← I.len]; exact hi))
    · rw [fset_ne q] at z
      exact I.emp j (fun o e => h o (by rw [List.getElem?_set_ne (Ne.symm q)]; exact e)) a z
  dis := fun j l a z y => by
    by_cases q : j = i
    · by_cases r : l = i
      · rw [q, r]
      · rw [q, fset_same] at z
        rw [fset_ne r] at y
        exact (d2 l a r z y).elim
    · by_cases r : l = i
      · rw [r, fset_same] at y
        rw [fset_ne q] at z
        exact (d2 j a q y z).elim
      · rw [fset_ne q] at z
        rw [fset_ne r] at y
        exact I.dis j l a z y
  disR := fun j a z => by
    by_cases q : j = i
    · rw [q, fset_same] at z
      exact d1 a z
    · rw [fset_ne q] at z
      exact fun y => I.disR j a z (hR a y)
  liv := fun a z => by
    rw [kR a z]
    exact I.liv a (hR a z)
  tab := t
  bor := fun j hj => by
    by_cases q : j = i
    · subst q
      rw [List.getElem?_set_self hi, ← b hj]
      exact I.bor j hj
    · rw [List.getElem?_set_ne (Ne.symm q)]
      exact I.bor j hj
theorem set_same {σ : L2.St} {i : Nat} {v : V} (h : σ[i]? = some (some v)) : σ.set i (some v) = σ := by
  apply List.ext_getElem?
  intro j
  by_cases q : j = i
  · subst q
    rw [List.getElem?_set_self (List.getElem?_eq_some_iff.mp h).1, h]
  · rw [List.getElem?_set_ne (Ne.symm q)]
theorem lt_of_slot {σ : L2.St} {i : Nat} {v : V} (h : σ[i]? = some (some v)) : i < σ.length := (List.getElem?_eq_some_iff.mp h).1
theorem wf_fset {R : Ad} {fps : Nat → Ad} {i : Nat} {f : Ad} {a : Addr} (h : Wf R (fset fps i f) a) : R a ∨ f a ∨ ∃ j, j ≠ i ∧ fps j a := by
  rcases h with h | ⟨j, h⟩
  · exact .inl h
  · by_cases q : j = i
    · rw [q, fset_same] at h
      exact .inr (.inl h)
    · rw [fset_ne q] at h
      exact .inr (.inr ⟨j, q, h⟩)
end
/-! ### data for good -/
def frz (s : S) : Rs → Option (PyData × S)
  | .val o => match rdO o with
    | some d => some (d, s)
    | none => none
  | .slot i => match s.env[i]? with
    | some (some (.dat d)) => some (d, s)
    | some (some (.lst ds)) => some (.list ds, ⟨s.env.set i (some (.dat (.list ds))), s.n, s.bor⟩)
    | some (some (.dn kvs)) => some (keysD kvs, ⟨s.env.set i (some (.dat (keysD kvs))), s.n, s.bor⟩)
    | _ => none
section
variable {K : PySem.W.Frag} {T : List (Addr × Str)} {W : WX} {σ0 σ : L2.St} {H H' H0 : Hp} {s s' s0 : S} {R R' fp fp' : Ad} {fps fps0 : Nat → Ad} {v : V} {d : PyData} {r : Rs}
theorem frz_o {n : Nat} {o : O} (I : Iv K T σ0 σ H s (alt R fp) fps) (h : At K (hid (Wf (alt R fp) fps) H) H n v o fp) (nR : ∀ a, fp a → ¬ R a) (e : rdO o = some d) :
    Dq K (hid (Wf R fps) H) v d := by
  have g : Gr (Wf (alt R fp) fps) H (Wf R fps) H := gr_sub fun a z => z.imp .inl id
  cases h with
  | dat h _ => cases e; exact dp_ex g _ _ h
  | lst h hd z =>
    cases e
    refine .lst (sq_of (hid_some.mpr ⟨h, ?_, fun _ z => nomatch z⟩)) (dps_ex g _ _ hd)
    rintro (y | ⟨j, y⟩)
    · exact nR _ ((z _).mpr rfl) y
    · exact I.disR j _ y (.inr ((z _).mpr rfl))
  | dct h hd z =>
    cases hd with
    | cons _ _ => cases e
    | nil =>
      cases e
      refine .dct (hid_some.mpr ⟨h, ?_, fun _ z => nomatch z⟩)
      rintro (y | ⟨j, y⟩)
      · exact nR _ ((z _).mpr rfl) y
      · exact I.disR j _ y (.inr ((z _).mpr rfl))
  | st _ _ => cases e
  | exc _ _ _ => cases e
  | xs _ _ _ => cases e
  | dn h hd z =>
    cases e
    refine nd_dq (nd_ex g hd) (hid_some.mpr ⟨h, ?_, fun _ z => nomatch z⟩)
    rintro (y | ⟨j, y⟩)
    · exact nR _ ((z _).mpr rfl) y
    · exact I.disR j _ y (.inr ((z _).mpr rfl))
theorem frz_go (I : Iv K T σ0 σ H s (alt R fp) fps) (h : RAt K (hid (Wf (alt R fp) fps) H) H s.n σ v r fp) (nR : ∀ a, fp a → ¬ R a) (e : frz s r = some (d, s')) :
    ∃ fps', Iv K T σ0 σ H s' R fps' ∧ Gr (Wf (alt R fp) fps) H (Wf R fps') H ∧ Dq K (hid (Wf R fps') H) v d ∧ s'.bor = s.bor ∧ s'.n = s.n := by
  have g : Gr (Wf (alt R fp) fps) H (Wf R fps) H := gr_sub fun a z => z.imp .inl id
  cases h with
  | val h =>
    rename_i o
    have e' : (match rdO o with | some d => some (d, s) | none => none) = some (d, s') := e
    cases q : rdO o with
    | none => rw [q] at e'; cases e'
    | some d1 =>
      rw [q] at e'
      cases e'
      exact ⟨fps, I.drop fun a z => .inl z, g, frz_o I h nR q, rfl, rfl⟩
  | slot h hz =>
    rename_i i
    have ef : alt R fp = R := funext fun a => propext ⟨fun z => z.elim id fun q => (hz a q).elim, .inl⟩
    rw [ef] at I g ⊢
    have e' : (match s.env[i]? with
      | some (some (.dat d)) => some (d, s)
      | some (some (.lst ds)) => some (.list ds, ⟨s.env.set i (some (.dat (.list ds))), s.n, s.bor⟩)
      | some (some (.dn kvs)) => some (keysD kvs, ⟨s.env.set i (some (.dat (keysD kvs))), s.n, s.bor⟩)
      | _ => none) = some (d, s') := e
    cases q : s.env[i]? with
    | none => rw [q] at e'; cases e'
    | some x =>
      cases x with
      | none => rw [q] at e'; cases e'
      | some o =>
        have ha := I.slotv q h
        cases o with
        | dat d1 =>
          rw [q] at e'
          cases e'
          cases ha with
          | dat ha _ => exact ⟨fps, I, Gr.refl, ha, rfl, rfl⟩
        | lst ds =>
          rw [q] at e'
          cases e'
          cases ha with
          | lst ha hd z =>
            rename_i a vs
            have g2 : Gr (Wf R fps) H (Wf R (fset fps i nol)) H := gr_sub fun b y => by
              rcases wf_fset y with y | y | ⟨j, _, y⟩
              · exact .inl y
              · exact y.elim
              · exact .inr ⟨j, y⟩
            have hq : Dq K (hid (Wf R (fset fps i nol)) H) (.ref a) (.list ds) := by
              refine .lst (sq_of (hid_some.mpr ⟨ha, fun y => ?_, fun _ z => nomatch z⟩)) (dps_ex g2 _ _ hd)
              rcases wf_fset y with y | y | ⟨j, hj, y⟩
              · exact I.disR i a ((z a).mpr rfl) y
              · exact y
              · exact hj (I.dis j i a y ((z a).mpr rfl))
            have P := I.put (R' := R) (H' := H) (fp' := nol) (v' := .ref a) (o' := .dat (.list ds)) (n' := s.n) (lt_of_slot h) (fun _ z => z) g2 (fun _ _ _ _ => rfl) (fun _ _ => rfl) I.tab (Nat.le_refl _) (.dat hq fun _ z => z) (fun _ z => z.elim) (fun _ _ _ z => z.elim) (fun _ => h)
            rw [set_same h] at P
            exact ⟨_, P, g2, hq, rfl, rfl⟩
        | dct kvs => rw [q] at e'; cases e'
        | st => rw [q] at e'; cases e'
        | exc C => rw [q] at e'; cases e'
        | xs es => rw [q] at e'; cases e'
        | dn kvs =>
          rw [q] at e'
          cases e'
          cases ha with
          | dn ha hd z =>
            rename_i a ob xs
            have g2 : Gr (Wf R fps) H (Wf R (fset fps i nol)) H := gr_sub fun b y => by
              rcases wf_fset y with y | y | ⟨j, _, y⟩
              · exact .inl y
              · exact y.elim
              · exact .inr ⟨j, y⟩
            have hq : Dq K (hid (Wf R (fset fps i nol)) H) (.ref a) (keysD kvs) := by
              refine nd_dq (nd_ex g2 hd) (hid_some.mpr ⟨ha, fun y => ?_, fun _ z => nomatch z⟩)
              rcases wf_fset y with y | y | ⟨j, hj, y⟩
              · exact I.disR i a ((z a).mpr rfl) y
              · exact y
              · exact hj (I.dis j i a y ((z a).mpr rfl))
            have P := I.put (R' := R) (H' := H) (fp' := nol) (v' := .ref a) (o' := .dat (keysD kvs)) (n' := s.n) (lt_of_slot h) (fun _ z => z) g2 (fun _ _ _ _ => rfl) (fun _ _ => rfl) I.tab (Nat.le_refl _) (.dat hq fun _ z => z) (fun _ z => z.elim) (fun _ _ _ z => z.elim) (fun _ => h)
            rw [set_same h] at P
            exact ⟨_, P, g2, hq, rfl, rfl⟩
def mD (m : ME) : MD := fun s Q X => m s (fun r s1 => match frz s1 r with
  | some (d, s2) => Q d s2
  | none => False) X
theorem sim_d {te : TE} {m : ME} (h : SimE K T W te m) : SimD K T W te (mD m) := by
  intro σ0 σ H s R fps I Qm Xm hm hx Q hQ
  refine h σ0 σ H s R fps I _ Xm hm hx _ fun v H1 s1 r fp fps1 g hr nR q => ?_
  split at q
  · rename_i d s2 e
    obtain ⟨fps2, I2, g2, hd, hb, hn⟩ := frz_go g.iv hr nR e
    exact hQ v H1 s2 d fps2 ⟨I2, g.kp, g.gr.trans g2, hb.trans g.bo, Nat.le_trans g.le (Nat.le_of_eq hn.symm), fun _ z => z⟩ hd q
  · exact q.elim
theorem d_sim {te : TE} {m : MD} (h : SimD K T W te m) : SimE K T W te fun s Q X => m s (fun d s1 => Q (.val (.dat d)) s1) X := by
  intro σ0 σ H s R fps I Qm Xm hm hx Q hQ
  refine h σ0 σ H s R fps I _ Xm hm hx _ fun v H1 s1 d fps1 g hd q => ?_
  refine hQ v H1 s1 _ nol fps1 (g.alt0 fun _ z => z) (.val (.dat ?_ fun _ z => z)) (fun _ z => z.elim) q
  rw [alt_nol]; exact hd
end
/-! ### names, constants -/
def mVar (i : Nat) : ME := fun s Q _ => match s.env[i]? with
  | some (some (.dat d)) => Q (.val (.dat d)) s
  | some (some (.exc C)) => Q (.val (.exc C)) s
  | some (some _) => Q (.slot i) s
  | _ => False
def mC (d : PyData) : ME := fun s Q _ => Q (.val (.dat d)) s
section
variable {K : PySem.W.Frag} {T : List (Addr × Str)} {W : WX}
theorem sim_var {i : Nat} : SimE K T W (tVar i) (mVar i) := by
  intro σ0 σ H s R fps I Qm Xm hm hx Q hQ
  unfold mVar at hm
  have fin : ∀ v o, σ[i]? = some (some v) → At K (hid (Wf R fps) H) H s.n v o nol → Qm (.val o) s → tVar i σ H Q := fun v o e h q =>
    ⟨v, e, hQ v H s (.val o) nol fps ((Go.refl I).alt0 fun _ z => z) (.val (by rw [alt_nol]; exact h)) (fun _ z => z.elim) q⟩
  have fin2 : ∀ o, s.env[i]? = some (some o) → Qm (.slot i) s → tVar i σ H Q := fun o q hm => by
    obtain ⟨v, e, h⟩ := I.at_ i _ q
    exact ⟨v, e, hQ v H s (.slot i) nol fps ((Go.refl I).alt0 fun _ z => z) (.slot e fun _ z => z) (fun _ z => z.elim) hm⟩
  split at hm
  · rename_i d q
    obtain ⟨v, e, h⟩ := I.at_ i _ q
    cases h with
    | dat h _ => exact fin v _ e (.dat h fun _ z => z) hm
  · rename_i C q
    obtain ⟨v, e, h⟩ := I.at_ i _ q
    cases h with
    | exc h hx _ => exact fin _ _ e (.exc h hx fun _ z => z) hm
  · rename_i o q1 q2 q
    exact fin2 o q hm
  · exact hm.elim
/-- a constant that stands in any heap -/
theorem sim_c {v : V} {d : PyData} (h : ∀ F, Dq K F v d) : SimE K T W (tC v) (mC d) := by
  intro σ0 σ H s R fps I Qm Xm hm hx Q hQ
  exact hQ v H s _ nol fps ((Go.refl I).alt0 fun _ z => z) (.val (.dat (h _) fun _ z => z)) (fun _ z => z.elim) hm
/-! ### tests -/
/-- an expression whose value is True or False, as a test -/
def mB (m : ME) : MT := fun s Q X => m s (fun r s1 => match r with
  | .val (.dat (.bool b)) => Q b s1
  | _ => False) X
theorem sim_b {te : TE} {m : ME} (h : SimE K T W te m) : SimT K T W (tB te) (mB m) := by
  intro σ0 σ H s R fps I Qm Xm hm hx Q hQ
  refine h σ0 σ H s R fps I _ Xm hm hx _ fun v H1 s1 r fp fps1 g hr nR q => ?_
  split at q
  · rename_i b
    cases hr with
    | val ho =>
      cases ho with
      | dat hd _ =>
        cases dp_bool hd
        exact ⟨b, rfl, hQ b H1 s1 fps1 (g.drop (fun _ z => z) fun _ z => .inl z) q⟩
  · exact q.elim
theorem sim_test {te : TE} {m : ME} (h : SimE K T W te m) : SimT K T W (tTest te) (mB m) := sim_b h
def mAnd (a b : MT) : MT := fun s Q X => a s (fun c s1 => if c = true then b s1 Q X else Q false s1) X
def mOr (a b : MT) : MT := fun s Q X => a s (fun c s1 => if c = true then Q true s1 else b s1 Q X) X
def mNot (a : MT) : MT := fun s Q X => a s (fun c s1 => Q (!c) s1) X
theorem sim_and {t u : TT} {a b : MT} (h : SimT K T W t a) (h2 : SimT K T W u b) : SimT K T W (tAnd t u) (mAnd a b) := by
  intro σ0 σ H s R fps I Qm Xm hm hx Q hQ
  refine h σ0 σ H s R fps I _ Xm hm hx _ fun c H1 s1 fps1 g q => ?_
  cases c with
  | true => exact h2 σ0 σ H1 s1 R fps1 g.iv Qm Xm q (hx.go g) Q fun b H2 s2 fps2 g2 => hQ b H2 s2 fps2 (g.trans g2)
  | false => exact hQ false H1 s1 fps1 g q
theorem sim_or {t u : TT} {a b : MT} (h : SimT K T W t a) (h2 : SimT K T W u b) : SimT K T W (tOr t u) (mOr a b) := by
  intro σ0 σ H s R fps I Qm Xm hm hx Q hQ
  refine h σ0 σ H s R fps I _ Xm hm hx _ fun c H1 s1 fps1 g q => ?_
  cases c with
  | true => exact hQ true H1 s1 fps1 g q
  | false => exact h2 σ0 σ H1 s1 R fps1 g.iv Qm Xm q (hx.go g) Q fun b H2 s2 fps2 g2 => hQ b H2 s2 fps2 (g.trans g2)
theorem sim_not {t : TT} {a : MT} (h : SimT K T W t a) : SimT K T W (tNot t) (mNot a) := by
  intro σ0 σ H s R fps I Qm Xm hm hx Q hQ
  exact h σ0 σ H s R fps I _ Xm hm hx _ fun c H1 s1 fps1 g q => hQ (!c) H1 s1 fps1 g q
/-- .. as values -/
def mAndV (a : MT) (b : ME) : ME := fun s Q X => a s (fun c s1 => if c = true then b s1 Q X else Q (.val (.dat (.bool false))) s1) X
def mOrV (a : MT) (b : ME) : ME := fun s Q X => a s (fun c s1 => if c = true then Q (.val (.dat (.bool true))) s1 else b s1 Q X) X
theorem out_e {σ0 σ : L2.St} {H H1 : Hp} {s s1 : S} {R : Ad} {fps fps1 : Nat → Ad} {Qm : Rs → S → Prop} {Q : VK} {v : V} {d : PyData} (g : Go K T σ0 H s R fps σ H1 s1 R fps1) (hd : ∀ F, Dq K F v d)
    (hQ : ∀ v H' s' r fp fps', Go K T σ0 H s R fps σ H' s' (alt R fp) fps' → RAt K (hid (Wf (alt R fp) fps') H') H' s'.n σ v r fp → (∀ a, fp a → ¬ R a) → Qm r s' → Q v H') (q : Qm (.val (.dat d)) s1) : Q v H1 :=
  hQ v H1 s1 _ nol fps1 (g.alt0 fun _ z => z) (.val (.dat (hd _) fun _ z => z)) (fun _ z => z.elim) q
theorem sim_andV {ta tb : TE} {a b : ME} (h : SimE K T W ta a) (h2 : SimE K T W tb b) : SimE K T W (tAndV ta tb) (mAndV (mB a) b) := by
  intro σ0 σ H s R fps I Qm Xm hm hx Q hQ
  refine sim_b h σ0 σ H s R fps I _ Xm hm hx (fun c H1 => if c = true then tb σ H1 Q else Q (.bl false) H1) fun c H1 s1 fps1 g q => ?_
  cases c with
  | true => exact h2 σ0 σ H1 s1 R fps1 g.iv Qm Xm q (hx.go g) Q fun v H2 s2 r fp fps2 g2 => hQ v H2 s2 r fp fps2 (g.trans g2)
  | false => exact out_e g (fun _ => .bl false) hQ q
theorem sim_orV {ta tb : TE} {a b : ME} (h : SimE K T W ta a) (h2 : SimE K T W tb b) : SimE K T W (tOrV ta tb) (mOrV (mB a) b) := by
  intro σ0 σ H s R fps I Qm Xm hm hx Q hQ
  refine sim_b h σ0 σ H s R fps I _ Xm hm hx (fun c H1 => if c = true then Q (.bl true) H1 else tb σ H1 Q) fun c H1 s1 fps1 g q => ?_
  cases c with
  | true => exact out_e g (fun _ => .bl true) hQ q
  | false => exact h2 σ0 σ H1 s1 R fps1 g.iv Qm Xm q (hx.go g) Q fun v H2 s2 r fp fps2 g2 => hQ v H2 s2 r fp fps2 (g.trans g2)
def mNotV (a : MT) : ME := fun s Q X => a s (fun c s1 => Q (.val (.dat (.bool (!c)))) s1) X
theorem sim_notV {ta : TE} {a : ME} (h : SimE K T W ta a) : SimE K T W (tNotV ta) (mNotV (mB a)) := by
  intro σ0 σ H s R fps I Qm Xm hm hx Q hQ
  exact sim_b h σ0 σ H s R fps I _ Xm hm hx (fun c H1 => Q (.bl (!c)) H1) fun c H1 s1 fps1 g q => out_e g (fun _ => .bl (!c)) hQ q
def mIfE (c : MT) (a b : ME) : ME := fun s Q X => c s (fun k s1 => if k = true then a s1 Q X else b s1 Q X) X
theorem sim_ifE {t : TT} {ta tb : TE} {c : MT} {a b : ME} (h : SimT K T W t c) (h1 : SimE K T W ta a) (h2 : SimE K T W tb b) : SimE K T W (tIf t ta tb) (mIfE c a b) := by
  intro σ0 σ H s R fps I Qm Xm hm hx Q hQ
  refine h σ0 σ H s R fps I _ Xm hm hx _ fun k H1 s1 fps1 g q => ?_
  cases k with
  | true => exact h1 σ0 σ H1 s1 R fps1 g.iv Qm Xm q (hx.go g) Q fun v H2 s2 r fp fps2 g2 => hQ v H2 s2 r fp fps2 (g.trans g2)
  | false => exact h2 σ0 σ H1 s1 R fps1 g.iv Qm Xm q (hx.go g) Q fun v H2 s2 r fp fps2 g2 => hQ v H2 s2 r fp fps2 (g.trans g2)
end
/-! ### statements -/
structure SK where
  nx : S → Prop
  rt : O → S → Prop
  bk : S → Prop
  ct : S → Prop
  er : XM
abbrev MS : Type := S → SK → Prop
section
variable (K : PySem.W.Frag) (T : List (Addr × Str)) (W : WX)
structure DOk (σ0 : L2.St) (H : Hp) (s : S) (R : Ad) (fps : Nat → Ad) (D : Ends) (k : SK) : Prop where
  nx : ∀ σ' H' s' fps', Go K T σ0 H s R fps σ' H' s' R fps' → k.nx s' → D.nx σ' H'
  rt : ∀ σ' H' s' v o fp fps', Go K T σ0 H s R fps σ' H' s' (alt R fp) fps' → At K (hid (Wf (alt R fp) fps') H') H' s'.n v o fp → (∀ a, fp a → ¬ R a) → k.rt o s' → D.rt v H'
  bk : ∀ σ' H' s' fps', Go K T σ0 H s R fps σ' H' s' R fps' → k.bk s' → D.bk σ' H'
  ct : ∀ σ' H' s' fps', Go K T σ0 H s R fps σ' H' s' R fps' → k.ct s' → D.ct σ' H'
  er : ∀ C σ' H' s' fps', Go K T σ0 H s R fps σ' H' s' R fps' → k.er C s' → ∀ d, XD K (hid (Wf R fps') H') C.2 d → W (.ref C.1) d σ' H'
def SimS (ts : TS) (m : MS) : Prop := ∀ σ0 σ H s R fps, Iv K T σ0 σ H s R fps → ∀ D k, m s k → DOk K T W σ0 H s R fps D k → ts D σ H
end
section
variable {K : PySem.W.Frag} {T : List (Addr × Str)} {W : WX} {σ0 σ σ1 : L2.St} {H H1 : Hp} {s s1 : S} {R : Ad} {fps fps1 : Nat → Ad} {D : Ends} {k : SK}
theorem DOk.go (x : DOk K T W σ0 H s R fps D k) (g : Go K T σ0 H s R fps σ1 H1 s1 R fps1) : DOk K T W σ0 H1 s1 R fps1 D k where
  nx := fun σ' H' s' fps' g' => x.nx σ' H' s' fps' (g.trans g')
  rt := fun σ' H' s' v o fp fps' g' => x.rt σ' H' s' v o fp fps' (g.trans g')
  bk := fun σ' H' s' fps' g' => x.bk σ' H' s' fps' (g.trans g')
  ct := fun σ' H' s' fps' g' => x.ct σ' H' s' fps' (g.trans g')
  er := fun C σ' H' s' fps' g' => x.er C σ' H' s' fps' (g.trans g')
theorem DOk.xok (x : DOk K T W σ0 H s R fps D k) : XOk K T W σ0 σ H s R fps k.er := fun C H' s' fps' g h => x.er C σ H' s' fps' g h
def mNext : MS := fun s k => k.nx s
def mSeq (a b : MS) : MS := fun s k => a s { k with nx := fun s1 => b s1 k }
theorem sim_next : SimS K T W tNext mNext := fun σ0 σ H s R fps I D k h x => x.nx σ H s fps (Go.refl I) h
theorem sim_seq {ta tb : TS} {a b : MS} (h : SimS K T W ta a) (h2 : SimS K T W tb b) : SimS K T W (tSeq ta tb) (mSeq a b) := fun σ0 σ H s R fps I D k hm x =>
  h σ0 σ H s R fps I _ _ hm ⟨fun σ' H' s' fps' g q => h2 σ0 σ' H' s' R fps' g.iv D k q (x.go g), x.rt, x.bk, x.ct, x.er⟩
def mIf (c : MT) (a b : MS) : MS := fun s k => c s (fun q s1 => if q = true then a s1 k else b s1 k) k.er
theorem sim_if {t : TT} {ta tb : TS} {c : MT} {a b : MS} (h : SimT K T W t c) (h1 : SimS K T W ta a) (h2 : SimS K T W tb b) : SimS K T W (tIfS t ta tb) (mIf c a b) := fun σ0 σ H s R fps I D k hm x =>
  h σ0 σ H s R fps I _ k.er hm x.xok _ fun q H1 s1 fps1 g hq => by
    cases q with
    | true => exact h1 σ0 σ H1 s1 R fps1 g.iv D k hq (x.go g)
    | false => exact h2 σ0 σ H1 s1 R fps1 g.iv D k hq (x.go g)
def mBreak : MS := fun s k => k.bk s
def mCont : MS := fun s k => k.ct s
def mDrop (m : ME) : MS := fun s k => m s (fun _ s1 => k.nx s1) k.er
theorem sim_drop {te : TE} {m : ME} (h : SimE K T W te m) : SimS K T W (tDrop te) (mDrop m) := fun σ0 σ H s R fps I D k hm x =>
  h σ0 σ H s R fps I _ k.er hm x.xok _ fun v H1 s1 r fp fps1 g _ _ q => x.nx σ H1 s1 fps1 (g.drop (fun _ z => z) fun _ z => .inl z) q
/-- what is handed on: a thing of one's own goes along -/
def mov (s : S) : Rs → Option (O × S)
  | .val o => some (o, s)
  | .slot i => match s.env[i]? with
    | some (some (.dct kvs)) => some (.dct kvs, ⟨s.env.set i none, s.n, s.bor⟩)
    | _ => match frz s (.slot i) with
      | some (d, s1) => some (.dat d, s1)
      | none => none
theorem mov_dct {i : Nat} {v : V} {kvs : List (Key × PyData)} {fp : Ad} (I : Iv K T σ0 σ H s (alt R fp) fps) (h : σ[i]? = some (some v)) (hz : ∀ a, ¬ fp a) (q : s.env[i]? = some (some (.dct kvs))) :
    ∃ fp' fps', Iv K T σ0 σ H ⟨s.env.set i none, s.n, s.bor⟩ (alt R fp') fps' ∧ Gr (Wf (alt R fp) fps) H (Wf (alt R fp') fps') H ∧ At K (hid (Wf (alt R fp') fps') H) H s.n v (.dct kvs) fp' ∧ (∀ a, fp' a → ¬ R a) ∧ s.bor = s.bor ∧ s.n = s.n := by
  have ha := I.slotv q h
  have W : ∀ a, Wf (alt R (fps i)) (fset fps i nol) a → Wf (alt R fp) fps a := fun a z => by
    rcases wf_fset z with (z | z) | z | ⟨j, _, z⟩
    · exact .inl (.inl z)
    · exact .inr ⟨i, z⟩
    · exact z.elim
    · exact .inr ⟨j, z⟩
  have g : Gr (Wf (alt R fp) fps) H (Wf (alt R (fps i)) (fset fps i nol)) H := gr_sub W
  have out : ∀ {j : Nat} {a : Addr}, fset fps i nol j a → j ≠ i ∧ fps j a := fun {j a} z => by
    by_cases e : j = i
    · rw [e, fset_same] at z; exact z.elim
    · rw [fset_ne e] at z; exact ⟨e, z⟩
  refine ⟨fps i, fset fps i nol, ⟨?_, fun j o e => ?_, fun j e a z => ?_, fun j k a y z => I.dis j k a (out y).2 (out z).2, fun j a y z => ?_, fun a z => ?_, I.tab, I.bor⟩, g, ha.keep g (fun _ _ => rfl) (Nat.le_refl _), fun a z y => I.disR i a z (.inl y), rfl, rfl⟩
  · rw [List.length_set]; exact I.len
  · have hj : j ≠ i := fun z => by
      subst z
      rw [List.getElem?_set] at e
      split at e
      · split at e <;> cases e
      · exact absurd rfl ‹_›
    rw [List.getElem?_set_ne (Ne.symm hj)] at e
    obtain ⟨w, h1, h2⟩ := I.at_ j o e
    rw [fset_ne hj]
    exact ⟨w, h1, h2.keep g (fun _ _ => rfl) (Nat.le_refl _)⟩
  · obtain ⟨hj, z⟩ := out z
    refine I.emp j (fun o q => e o ?_) a z
    rw [List.getElem?_set_ne (Ne.symm hj)]; exact q
  · obtain ⟨hj, y⟩ := out y
    rcases z with z | z
    · exact I.disR j a y (.inl z)
    · exact hj (I.dis j i a y z)
  · rcases z with z | z
    · exact I.liv a (.inl z)
    · exact I.live (.inr ⟨i, z⟩)
theorem mov_go {o : O} {s' : S} {r : Rs} {v : V} {fp : Ad} (I : Iv K T σ0 σ H s (alt R fp) fps) (h : RAt K (hid (Wf (alt R fp) fps) H) H s.n σ v r fp) (nR : ∀ a, fp a → ¬ R a) (e : mov s r = some (o, s')) :
    ∃ fp' fps', Iv K T σ0 σ H s' (alt R fp') fps' ∧ Gr (Wf (alt R fp) fps) H (Wf (alt R fp') fps') H ∧ At K (hid (Wf (alt R fp') fps') H) H s'.n v o fp' ∧ (∀ a, fp' a → ¬ R a) ∧ s'.bor = s.bor ∧ s'.n = s.n := by
  cases r with
  | val o1 =>
    have e' : o1 = o ∧ s = s' := by
      cases e; exact ⟨rfl, rfl⟩
    obtain ⟨rfl, rfl⟩ := e'
    cases h with
    | val h => exact ⟨fp, fps, I, Gr.refl, h, nR, rfl, rfl⟩
  | slot i =>
    by_cases qd : ∃ kvs, s.env[i]? = some (some (.dct kvs))
    · obtain ⟨kvs, qd⟩ := qd
      have e' : (match s.env[i]? with
        | some (some (.dct kvs)) => some (O.dct kvs, (⟨s.env.set i none, s.n, s.bor⟩ : S))
        | _ => match frz s (.slot i) with
          | some (d, s1) => some (O.dat d, s1)
          | none => none) = some (o, s') := e
      rw [qd] at e'
      cases e'
      cases h with
      | slot h hz => exact mov_dct I h hz qd
    have e' : (match frz s (.slot i) with
      | some (d, s1) => some (O.dat d, s1)
      | none => none) = some (o, s') := by
      have e1 : (match s.env[i]? with
        | some (some (.dct kvs)) => some (O.dct kvs, (⟨s.env.set i none, s.n, s.bor⟩ : S))
        | _ => match frz s (.slot i) with
          | some (d, s1) => some (O.dat d, s1)
          | none => none) = some (o, s') := e
      split at e1
      · exact absurd ⟨_, by assumption⟩ qd
      · exact e1
    cases q : frz s (.slot i) with
    | none => rw [q] at e'; cases e'
    | some p =>
      obtain ⟨d, s1⟩ := p
      rw [q] at e'
      cases e'
      obtain ⟨fps', I2, g2, hd, hb, hn⟩ := frz_go I h nR q
      refine ⟨nol, fps', by rw [alt_nol]; exact I2, by rw [alt_nol]; exact g2, .dat (by rw [alt_nol]; exact hd) fun _ z => z, fun _ z => z.elim, hb, hn⟩
def mRet (m : ME) : MS := fun s k => m s (fun r s1 => match mov s1 r with
  | some (o, s2) => k.rt o s2
  | none => False) k.er
theorem sim_ret {te : TE} {m : ME} (h : SimE K T W te m) : SimS K T W (tRet te) (mRet m) := fun σ0 σ H s R fps I D k hm x =>
  h σ0 σ H s R fps I _ k.er hm x.xok _ fun v H1 s1 r fp fps1 g hr nR q => by
    split at q
    · rename_i o s2 e
      obtain ⟨fp', fps', I2, g2, hd, n2, hb, hn⟩ := mov_go g.iv hr nR e
      exact x.rt σ H1 s2 v o fp' fps' ⟨I2, g.kp, g.gr.trans g2, hb.trans g.bo, Nat.le_trans g.le (Nat.le_of_eq hn.symm), fun _ z => .inl z⟩ hd n2 q
    · exact q.elim
def mRetN : MS := fun s k => k.rt (.dat .none) s
/-- a thing is put into a slot -/
def putO (s : S) (i : Nat) (o : O) : S := ⟨s.env.set i (some o), s.n, s.bor⟩
theorem put_go {H0 : Hp} {s0 : S} {fps0 : Nat → Ad} {i : Nat} {v : V} {o : O} {fp : Ad} (G : Go K T σ0 H0 s0 R fps0 σ H s (alt R fp) fps) (h : At K (hid (Wf (alt R fp) fps) H) H s.n v o fp) (nR : ∀ a, fp a → ¬ R a) (hi : i < s.env.length) (hb : i ∉ s.bor) :
    ∃ fps', Go K T σ0 H0 s0 R fps0 (σ.set i (some v)) H (putO s i o) R fps' := by
  have I := G.iv
  have g : Gr (Wf (alt R fp) fps) H (Wf R (fset fps i fp)) H := gr_sub fun a z => by
    rcases wf_fset z with z | z | ⟨j, _, z⟩
    · exact .inl (.inl z)
    · exact .inl (.inr z)
    · exact .inr ⟨j, z⟩
  exact ⟨fset fps i fp, ⟨I.put (by rw [I.len]; exact hi) (fun _ z => .inl z) g (fun _ _ _ _ => rfl) (fun _ _ => rfl) I.tab (Nat.le_refl _) (h.keep g (fun _ _ => rfl) (Nat.le_refl _)) nR (fun j a _ z y => I.disR j a y (.inr z)) (fun z => (hb z).elim),
    G.kp, G.gr.trans g, G.bo, G.le, fun _ z => z⟩⟩
end
end Mk

/-! part Mk4 -/
/-! Mk, part 4: assignments, lists of one's own, loops. -/
namespace Mk
open PySem PySem.Spec PyProof.Rows L2 Evl Lk LamX
section
variable {K : PySem.W.Frag} {T : List (Addr × Str)} {W : WX} {σ0 σ : L2.St} {H H0 : Hp} {s s0 : S} {R fp : Ad} {fps fps0 : Nat → Ad}
/-- a new object that nobody keeps -/
theorem go_new {p : Addr} {o : HO} (I : Iv K T σ0 σ H s R fps) (hp : H p = none) : Go K T σ0 H s R fps σ (upd H p o) s R fps := by
  have hW := I.fresh hp
  have g : Gr (Wf R fps) H (Wf R fps) (upd H p o) := gr_ex (Ex.new hp) (fun _ _ _ n => n)
  exact ⟨I.step g (fun i a q => upd_ne (show a ≠ p from fun z => hW (.inr ⟨i, z ▸ q⟩))) I.disR (fun a q => by
    rw [upd_ne (show a ≠ p from fun z => hW (.inl (z ▸ q)))]
    exact I.liv a q) (tabs_new I.tab hp), fun a q => upd_ne (show a ≠ p from fun z => hW (.inl (z ▸ q))), g, rfl, Nat.le_refl _, fun _ z => z⟩
/-! ### name = value -/
def asg (i : Nat) (r : Rs) (s : S) (Q : S → Prop) : Prop := match mov s r with
  | some (o, s2) => i ∉ s2.bor ∧ i < s2.env.length ∧ Q (putO s2 i o)
  | none => False
def mAsg (i : Nat) (m : ME) : MS := fun s k => m s (fun r s1 => asg i r s1 k.nx) k.er
theorem sim_asg {te : TE} {m : ME} {i : Nat} (h : SimE K T W te m) : SimS K T W (tAsg te (gName i)) (mAsg i m) := fun σ0 σ H s R fps I D k hm x =>
  h σ0 σ H s R fps I _ k.er hm x.xok _ fun v H1 s1 r fp fps1 g hr nR q => by
    unfold asg at q
    split at q
    · rename_i o s2 e
      obtain ⟨fp', fps', I2, g2, hd, n2, hb, hn⟩ := mov_go g.iv hr nR e
      have G2 : Go K T σ0 H s R fps σ H1 s2 (alt R fp') fps' := ⟨I2, g.kp, g.gr.trans g2, hb.trans g.bo, Nat.le_trans g.le (Nat.le_of_eq hn.symm), fun _ z => .inl z⟩
      obtain ⟨fps3, G3⟩ := put_go G2 hd n2 q.2.1 q.1
      exact x.nx _ H1 _ fps3 G3 q.2.2
    · exact q.elim
/-! ### a, b, .. = a tuple -/
abbrev MG : Type := PyData → S → (S → Prop) → Prop
abbrev MGs : Type := List PyData → S → (S → Prop) → Prop
end
section
variable (K : PySem.W.Frag) (T : List (Addr × Str))
def SimG (g : TG) (m : MG) : Prop := ∀ σ0 σ H s R fps, Iv K T σ0 σ H s R fps → ∀ v d, Dq K (hid (Wf R fps) H) v d → ∀ Qm : S → Prop, m d s Qm → ∀ Q : L2.St → Hp → Prop,
  (∀ σ' H' s' fps', Go K T σ0 H s R fps σ' H' s' R fps' → Qm s' → Q σ' H') → g v σ H Q
def SimGs (g : TGs) (m : MGs) : Prop := ∀ σ0 σ H s R fps, Iv K T σ0 σ H s R fps → ∀ vs ds, DqAll K (hid (Wf R fps) H) vs ds → ∀ Qm : S → Prop, m ds s Qm → ∀ Q : L2.St → Hp → Prop,
  (∀ σ' H' s' fps', Go K T σ0 H s R fps σ' H' s' R fps' → Qm s' → Q σ' H') → g vs σ H Q
end
section
variable {K : PySem.W.Frag} {T : List (Addr × Str)} {W : WX} {σ0 σ : L2.St} {H H0 : Hp} {s s0 : S} {R fp : Ad} {fps fps0 : Nat → Ad}
def mgN (i : Nat) : MG := fun d s Q => i ∉ s.bor ∧ i < s.env.length ∧ Q (putO s i (.dat d))
theorem go_alt0 (I : Iv K T σ0 σ H s R fps) : Go K T σ0 H s R fps σ H s (alt R nol) fps := (Go.refl I).alt0 fun _ z => z
theorem simg_n {i : Nat} : SimG K T (gName i) (mgN i) := fun σ0 σ H s R fps I v d hd Qm hm Q hQ => by
  obtain ⟨fps3, G3⟩ := put_go (v := v) (o := .dat d) (fp := nol) (i := i) (go_alt0 I) (.dat (by rw [alt_nol]; exact hd) fun _ z => z) (fun _ z => z.elim) hm.2.1 hm.1
  exact hQ _ H _ fps3 G3 hm.2.2
def mgNil : MGs := fun ds s Q => ds = [] ∧ Q s
def mgCons (m : MG) (r : MGs) : MGs := fun ds s Q => match ds with
  | d :: ds => m d s fun s1 => r ds s1 Q
  | [] => False
theorem simgs_nil : SimGs K T gNil mgNil := fun σ0 σ H s R fps I vs ds hd Qm hm Q hQ => by
  obtain ⟨rfl, hm⟩ := hm
  cases hd
  exact ⟨rfl, hQ σ H s fps (Go.refl I) hm⟩
theorem simgs_cons {g : TG} {gs : TGs} {m : MG} {r : MGs} (h : SimG K T g m) (hr : SimGs K T gs r) : SimGs K T (gCons g gs) (mgCons m r) := fun σ0 σ H s R fps I vs ds hd Qm hm Q hQ => by
  cases hd with
  | nil => exact hm.elim
  | cons hv hvs =>
    exact ⟨_, _, rfl, h σ0 σ H s R fps I _ _ hv _ hm _ fun σ1 H1 s1 fps1 g1 q => hr σ0 σ1 H1 s1 R fps1 g1.iv _ _ (dps_ex g1.gr _ _ hvs) Qm q Q fun σ2 H2 s2 fps2 g2 => hQ σ2 H2 s2 fps2 (g1.trans g2)⟩
def mgT (n : Nat) (m : MGs) : MG := fun d s Q => match d with
  | .tuple ds => ds.length = n ∧ m ds s Q
  | _ => False
theorem simg_t {K' : PySem.W.Frag} {n : Nat} {gs : TGs} {m : MGs} (h : SimGs K T gs m) (hK : K' = K) : SimG K T (gTup K' n gs) (mgT n m) := fun σ0 σ H s R fps I v d hd Qm hm Q hQ => by
  subst hK
  cases d with
  | tuple ds =>
    obtain ⟨a, xs, rfl, hs, hx⟩ := dp_tup hd
    exact ⟨a, xs, rfl, ex_t hid_ex hs, (dps_len hx).trans hm.1, h σ0 σ H s R fps I _ _ hx Qm hm.2 Q hQ⟩
  | none => exact hm.elim
  | bool _ => exact hm.elim
  | int _ => exact hm.elim
  | str _ => exact hm.elim
  | list _ => exact hm.elim
  | dict _ => exact hm.elim
def mAsgG (g : MG) (m : MD) : MS := fun s k => m s (fun d s1 => g d s1 k.nx) k.er
theorem sim_asgG {te : TE} {m : MD} {tg : TG} {g : MG} (h : SimD K T W te m) (hg : SimG K T tg g) : SimS K T W (tAsg te tg) (mAsgG g m) := fun σ0 σ H s R fps I D k hm x =>
  h σ0 σ H s R fps I _ k.er hm x.xok _ fun v H1 s1 d fps1 g1 hd q => hg σ0 σ H1 s1 R fps1 g1.iv v d hd _ q _ fun σ2 H2 s2 fps2 g2 q2 => x.nx σ2 H2 s2 fps2 (g1.trans g2) q2
/-! ### a, b, .. = x, y, .. -/
def mMv (m : ME) : ME := fun s Q X => m s (fun r s1 => match mov s1 r with
  | some (o, s2) => Q (.val o) s2
  | none => False) X
theorem sim_mv {te : TE} {m : ME} (h : SimE K T W te m) : SimE K T W te (mMv m) := by
  intro σ0 σ H s R fps I Qm Xm hm hx Q hQ
  refine h σ0 σ H s R fps I _ Xm hm hx _ fun v H1 s1 r fp fps1 g hr nR q => ?_
  split at q
  · rename_i o s2 e
    obtain ⟨fp', fps', I2, g2, hd, n2, hb, hn⟩ := mov_go g.iv hr nR e
    exact hQ v H1 s2 (.val o) fp' fps' ⟨I2, g.kp, g.gr.trans g2, hb.trans g.bo, Nat.le_trans g.le (Nat.le_of_eq hn.symm), fun _ z => .inl z⟩ (.val hd) n2 q
  · exact q.elim
def puts : List Nat → List Rs → S → (S → Prop) → Prop
  | [], [], s, Q => Q s
  | i :: is, .val o :: rs, s, Q => i ∉ s.bor ∧ i < s.env.length ∧ puts is rs (putO s i o) Q
  | _, _, _, _ => False
def sets : List Nat → List V → L2.St → L2.St
  | i :: is, v :: vs, σ => sets is vs (σ.set i (some v))
  | _, _, σ => σ
theorem puts_go : ∀ (is : List Nat) (vs : List V) (rs : List Rs) (l : List Ad) (σ : L2.St) (s : S) (fps : Nat → Ad) (Q : S → Prop), Go K T σ0 H0 s0 R fps0 σ H s (alt R (AnyF l)) fps →
    RAts K (hid (Wf (alt R (AnyF l)) fps) H) H s.n σ vs rs l → Apart l → (∀ a, AnyF l a → ¬ R a) → puts is rs s Q → ∃ s' fps', Go K T σ0 H0 s0 R fps0 (sets is vs σ) H s' R fps' ∧ Q s' ∧ vs.length = is.length
  | [], [], [], l, σ, s, fps, Q, G, h, ap, nR, q => by
    cases h
    refine ⟨s, fps, G.drop (fun _ z => z) fun _ z => .inl z, q, rfl⟩
  | i :: is, v :: vs, .val o :: rs, l, σ, s, fps, Q, G, h, ap, nR, q => by
    cases h with
    | cons h hr =>
      rename_i fp l
      cases h with
      | val h =>
        have e : alt (alt R (AnyF l)) fp = alt R (AnyF (fp :: l)) := by
          rw [anyF_cons, alt_assoc]
          exact congrArg (alt R) (funext fun a => propext Or.comm)
        rw [← e] at h hr G
        have G' : Go K T σ0 H0 s0 (alt R (AnyF l)) fps0 σ H s (alt (alt R (AnyF l)) fp) fps → True := fun _ => trivial
        -- put one
        have I := G.iv
        have g : Gr (Wf (alt (alt R (AnyF l)) fp) fps) H (Wf (alt R (AnyF l)) (fset fps i fp)) H := gr_sub fun a z => by
          rcases wf_fset z with z | z | ⟨j, _, z⟩
          · exact .inl (.inl z)
          · exact .inl (.inr z)
          · exact .inr ⟨j, z⟩
        have nfp : ∀ a, fp a → ¬ alt R (AnyF l) a := fun a z y => by
          rcases y with y | y
          · exact nR a (by rw [anyF_cons]; exact .inl z) y
          · exact ap.1 a z y
        have P := I.put (R' := alt R (AnyF l)) (H' := H) (n' := s.n) (i := i) (by rw [I.len]; exact q.2.1) (fun _ z => .inl z) g (fun _ _ _ _ => rfl) (fun _ _ => rfl) I.tab (Nat.le_refl _) (h.keep g (fun _ _ => rfl) (Nat.le_refl _)) nfp (fun j a _ z y => I.disR j a y (.inr z)) (fun z => (q.1 z).elim)
        refine puts_go is vs rs l (σ.set i (some v)) (putO s i o) _ Q ⟨P, G.kp, G.gr.trans g, G.bo, G.le, fun _ z => .inl z⟩ ?_ ap.2 (fun a z => nR a (by rw [anyF_cons]; exact .inr z)) q.2.2 |>.imp fun s' => .imp fun fps' h => ⟨h.1, h.2.1, by simp [h.2.2]⟩
        -- the rest are things: their values do not hang on the slots
        have mono := hr.keep (n := s.n) (m := s.n) g (fun _ _ => rfl) (Nat.le_refl _)
        clear hr
        revert mono q
        generalize hid (Wf (alt R (AnyF l)) (fset fps i fp)) H = F'
        intro q mono
        have key : ∀ {is : List Nat} {rs : List Rs} {s2 : S} {vs : List V} {l : List Ad}, puts is rs s2 Q → RAts K F' H s.n σ vs rs l → RAts K F' H s.n (σ.set i (some v)) vs rs l := fun {is rs} => by
          induction rs generalizing is with
          | nil =>
            intro s2 vs l hp hq
            cases hq
            exact .nil
          | cons r rs ih =>
            intro s2 vs l hp hq
            cases is with
            | nil => cases r <;> exact hp.elim
            | cons j js =>
              cases r with
              | slot _ => exact hp.elim
              | val o2 =>
                cases hq with
                | cons h1 h2 =>
                  cases h1 with
                  | val h1 => exact .cons (.val h1) (ih hp.2.2 h2)
        exact key q.2.2 mono
  | [], _, _ :: _, _, _, _, _, _, _, h, _, _, q => q.elim
  | _ :: _, _, [], _, _, _, _, _, _, h, _, _, q => q.elim
  | _ :: _, _, .slot _ :: _, _, _, _, _, _, _, h, _, _, q => q.elim
  | _ :: _, [], _ :: _, _, _, _, _, _, _, h, _, _, _ => nomatch h
  | [], _ :: _, [], _, _, _, _, _, _, h, _, _, _ => nomatch h
def mPar (is : List Nat) (m : MA) : MS := fun s k => m s (fun rs s1 => puts is rs s1 k.nx) k.er
theorem sim_par {i j : Nat} {ta : TA} {m : MA} (h : SimA K T W ta m) : SimS K T W (tPar i j ta) (mPar [i, j] m) := fun σ0 σ H s R fps I D k hm x =>
  h σ0 σ H s R fps I _ k.er hm x.xok _ fun vs H1 s1 rs l fps1 g hr ap nR q => by
    obtain ⟨s2, fps2, G, q2, hl⟩ := puts_go [i, j] vs rs l σ s1 fps1 _ g hr ap nR q
    match vs, hl with
    | [v, w], _ => exact ⟨v, w, rfl, x.nx _ H1 s2 fps2 G q2⟩
/-- the targets' reading: plain names -/
def gNames : List Nat → TGs
  | [] => gNil
  | i :: is => gCons (gName i) (gNames is)
theorem gnames_sets : ∀ (is : List Nat) (vs : List V) (σ : L2.St) (H : Hp) (Q : L2.St → Hp → Prop), vs.length = is.length → Q (sets is vs σ) H → gNames is vs σ H Q
  | [], [], _, _, _, _, q => ⟨rfl, q⟩
  | i :: is, v :: vs, σ, H, Q, hl, q => ⟨v, vs, rfl, gnames_sets is vs _ H Q (by simpa using hl) q⟩
theorem sim_parN {K' : PySem.W.Frag} {n : Nat} {is : List Nat} {gs : TGs} {ta : TA} {m : MA} (h : SimA K T W ta m) (hg : gs = gNames is) (hn : is.length = n) (hK : K' = K) (hz : n ≤ 100000) : SimS K T W (tAsg (tTup ta) (gTup K' n gs)) (mPar is m) := fun σ0 σ H s R fps I D k hm x => by
  subst hK hg
  refine h σ0 σ H s R fps I _ k.er hm x.xok _ fun vs H1 s1 rs l fps1 g hr ap nR q => ?_
  obtain ⟨s2, fps2, G, q2, hl⟩ := puts_go is vs rs l σ s1 fps1 _ g hr ap nR q
  refine ⟨sz_of (by omega), fun p hp => ⟨p, vs, rfl, st_of upd_same, hl.trans hn, gnames_sets is vs σ _ _ hl ?_⟩⟩
  exact x.nx _ _ s2 fps2 (G.trans (go_new G.iv hp)) q2
/-! ### lists of one's own -/
def mFz (m : ME) : ME := fun s Q X => m s (fun r s1 => match frz s1 r with
  | some (d, s2) => Q (.val (.dat d)) s2
  | none => False) X
theorem sim_fz {te : TE} {m : ME} (h : SimE K T W te m) : SimE K T W te (mFz m) := by
  intro σ0 σ H s R fps I Qm Xm hm hx Q hQ
  refine d_sim (sim_d h) σ0 σ H s R fps I Qm Xm ?_ hx Q hQ
  exact hm
def dats : List Rs → Option (List PyData)
  | [] => some []
  | .val (.dat d) :: rs => match dats rs with
    | some ds => some (d :: ds)
    | none => none
  | _ => none
theorem dats_at {F : Hp} {n : Nat} {vs : List V} {rs : List Rs} {l : List Ad} (h : RAts K F H n σ vs rs l) : ∀ {ds : List PyData}, dats rs = some ds → DqAll K F vs ds := by
  induction h with
  | nil => intro ds e; cases e; exact .nil
  | cons h _ ih =>
    rename_i r _ _ rs _ _
    intro ds e
    cases r with
    | slot _ => cases e
    | val o =>
      cases o with
      | dat d =>
        have e' : (match dats rs with
          | some ds => some (d :: ds)
          | none => none) = some ds := e
        cases q : dats rs with
        | none => rw [q] at e'; cases e'
        | some ds1 =>
          rw [q] at e'
          cases e'
          cases h with
          | val h =>
            cases h with
            | dat h _ => exact .cons h (ih q)
      | lst _ => cases e
      | dct _ => cases e
      | st => cases e
      | exc _ => cases e
      | xs _ => cases e
      | dn _ => cases e
/-- the list in slot i is written -/
theorem mutL_go {i : Nat} {a : Addr} {vs vs' : List V} {ds ds' : List PyData} (G : Go K T σ0 H0 s0 R fps0 σ H s R fps) (hv : σ[i]? = some (some (.ref a))) (he : s.env[i]? = some (some (.lst ds))) (ha : H a = some (.lst vs))
    (hd : DqAll K (hid (Wf R fps) H) vs' ds') : ∃ fps', Go K T σ0 H0 s0 R fps0 σ (upd H a (.lst vs')) (putO s i (.lst ds')) R fps' ∧ Gr (Wf R fps) H (Wf R fps') (upd H a (.lst vs')) := by
  have I := G.iv
  have hA := I.slotv he hv
  cases hA with
  | lst hA hdA hz =>
    have wa : Wf R fps a := .inr ⟨i, (hz a).mpr rfl⟩
    have nR : ¬ R a := I.disR i a ((hz a).mpr rfl)
    have g : Gr (Wf R fps) H (Wf R (fset fps i (fps i))) (upd H a (.lst vs')) := gr_of (fun b o h n _ => by
      rw [upd_ne (show b ≠ a from fun z => n (z ▸ wa))]
      exact h) (fun b o h n z => by
      rcases wf_fset z with z | z | ⟨j, _, z⟩
      · exact n (.inl z)
      · exact n (.inr ⟨i, z⟩)
      · exact n (.inr ⟨j, z⟩))
    have P := I.put (R' := R) (i := i) (v' := .ref a) (o' := .lst ds') (fp' := fps i) (n' := s.n) (lt_of_slot hv) (fun _ z => z) g (fun j b hj z => upd_ne (show b ≠ a from fun y => hj (I.dis j i a (y ▸ z) ((hz a).mpr rfl))))
      (fun b z => upd_ne (show b ≠ a from fun y => nR (y ▸ z))) (Tabs.lst I.tab ha) (Nat.le_refl _) (.lst upd_same (dps_ex g _ _ hd) hz) (fun b z => I.disR i b z) (fun j b hj z y => hj (I.dis j i b y z)) (fun _ => hv)
    rw [set_same hv] at P
    exact ⟨_, ⟨P, fun b z => (upd_ne (show b ≠ a from fun y => nR (y ▸ z))).trans (G.kp b z), G.gr.trans g, G.bo, G.le, fun _ z => z⟩, g⟩
/-- a list's method: on values rr, on data f (the list's items, the arguments; what then stands in it, the answer) -/
def LSim (K : PySem.W.Frag) (rr : V → List V → Hp → VK → Prop) (f : List PyData → List PyData → (List PyData → PyData → Prop) → Prop) : Prop := ∀ F H a vs ds xs es Qo Q, Ex F H → H a = some (.lst vs) → DqAll K F vs ds → DqAll K F xs es → f ds es Qo →
  (∀ v vs' ds' d', DqAll K F vs' ds' → Dq K F v d' → Qo ds' d' → Q v (upd H a (.lst vs'))) → rr (.ref a) xs H Q
def isLst (s : S) (i : Nat) : Prop := match s.env[i]? with
  | some (some (.lst _)) => True
  | _ => False
def mLM (f : List PyData → List PyData → (List PyData → PyData → Prop) → Prop) (i : Nat) (m : MA) : ME := fun s Q X => isLst s i ∧ m s (fun rs s1 => match dats rs, s1.env[i]? with
  | some es, some (some (.lst ds)) => f ds es fun ds' d' => Q (.val (.dat d')) (putO s1 i (.lst ds'))
  | _, _ => False) X
theorem isLst_yes {i : Nat} (h : isLst s i) : ∃ ds, s.env[i]? = some (some (.lst ds)) := by
  unfold isLst at h
  split at h
  · exact ⟨_, by assumption⟩
  · exact h.elim
theorem sim_lm {K' : PySem.W.Frag} {rr : V → List V → Hp → VK → Prop} {f : List PyData → List PyData → (List PyData → PyData → Prop) → Prop} {ta : TA} {m : MA} {i : Nat} (hr : LSim K rr f) (ha : SimA K T W ta m) (hK : K' = K) : SimE K T W (tBM K' "list" rr (tVar i) ta) (mLM f i m) := by
  subst hK
  intro σ0 σ H s R fps I Qm Xm hm hx Q hQ
  obtain ⟨ds0, e0⟩ := isLst_yes hm.1
  obtain ⟨v, hv, hA0⟩ := I.at_ i _ e0
  cases hA0 with
  | lst hA hd hz =>
    rename_i a vs0
    refine ⟨.ref a, hv, Or.inl ⟨rfl, vs0, sq_of hA⟩, ?_⟩
    refine ha σ0 σ H s R fps I _ Xm hm.2 hx _ fun xs H1 s1 rs l fps1 g hrs ap nR q => ?_
    split at q
    · rename_i es ds q1 q2
      have G0 := g.drop (R2 := R) (fun _ z => z) fun _ z => .inl z
      have hA1 := G0.iv.slotv q2 hv
      cases hA1 with
      | lst hA1 hd1 hz1 =>
        have mo : Gr (Wf (alt R (AnyF l)) fps1) H1 (Wf R fps1) H1 := gr_sub fun a z => z.imp .inl id
        refine hr _ H1 a _ ds xs es _ Q hid_ex hA1 hd1 (dps_ex mo _ _ (dats_at hrs q1)) q fun w vs' ds' d' h1 h2 h3 => ?_
        obtain ⟨fps2, G2, g2⟩ := mutL_go G0 hv q2 hA1 h1
        refine hQ w _ _ (.val (.dat d')) nol fps2 (G2.alt0 fun _ z => z) (.val (.dat ?_ fun _ z => z)) (fun _ z => z.elim) h3
        rw [alt_nol]
        exact dp_ex g2 _ _ h2
    · exact q.elim
end
end Mk

/-! part Mk5 -/
/-! Mk, part 5: loops, comprehensions. -/
namespace Mk
open PySem PySem.Spec PyProof.Rows L2 Evl Lk LamX
abbrev MI : Type := S → (List PyData → S → Prop) → XM → Prop
section
variable (K : PySem.W.Frag) (T : List (Addr × Str)) (W : WX)
/-- J walks the items ds, whatever comes of what is not frozen in F0 -/
def Steady (J : It) (ds : List PyData) (F0 : Hp) : Prop := ∀ σ0 σ H s R fps, Iv K T σ0 σ H s R fps → Ex F0 (hid (Wf R fps) H) → ∀ i,
  (∀ d, ds[i]? = some d → J.go i H ∧ ∀ x H', J.yld i H x H' → Go K T σ0 H s R fps σ H' s R fps ∧ Dq K (hid (Wf R fps) H') x d) ∧ (ds.length ≤ i → J.stop i H)
def SimI (wi : TI) (m : MI) : Prop := ∀ σ0 σ H s R fps, Iv K T σ0 σ H s R fps → ∀ Qm Xm, m s Qm Xm → XOk K T W σ0 σ H s R fps Xm → ∀ Q : It → Hp → Prop,
  (∀ J H' s' ds fps', Go K T σ0 H s R fps σ H' s' R fps' → Steady K T J ds (hid (Wf R fps') H') → Qm ds s' → Q J H') → wi σ H Q
end
/-- over a list or a tuple -/
def iAny (K : PySem.W.Frag) (tl : TE) : TI := fun σ H R => tl σ H fun x H1 => (∃ a, x = .ref a ∧ (∃ xs, SqL K H1 a xs) ∧ R (Itl K a) H1) ∨ (∃ a, x = .ref a ∧ (∃ xs, SqT K H1 a xs) ∧ R (Itt K a) H1) ∨ (∃ z, x = .str z ∧ R (Its z) H1) ∨ ∃ a ob xs, x = .ref a ∧ H1 a = some (ndO a ob xs) ∧ R (Itn a ob xs) H1
theorem pi_any {X : Cx} {tg l : Expr} {tl : TE} (hl : PE X l tl) : PI X tg l (iAny X.K tl) := by
  have h1 : ∀ te, PE X l te → PI X tg l (iList X.K te) := fun te h => pi_list h
  refine ⟨fun pins s σ H R I h => ?_⟩
  refine thn (hl.run pins s σ H _ I h) fun v s1 ⟨x, H1, I1, r1, q1⟩ => ?_
  rcases q1 with ⟨a, e, ⟨xs, hq⟩, q⟩ | ⟨a, e, ⟨xs, hq⟩, q⟩ | ⟨z, e, q⟩ | ⟨a, ob, xs, e, ha, q⟩
  · subst e
    cases r1
    obtain ⟨its, rv, p, hz⟩ := I1.list hq
    refine wpAny_pyIter_list p.isList ?_
    refine ⟨s1.heap.objs.size, [s1.heap.objs.size], _, _, H1, rfl, I1.kept (t' := s1.toks) fun b o e => Heap.get?_push_of_some _ e, turn_list a _, ⟨_, Heap.get?_push_size _ rfl, rfl, rfl⟩, fun b hb => ?_, q⟩
    have e : b = s1.heap.objs.size := by simpa using hb
    subst e
    exact I1.fpOk (Nat.le_refl _) (I1.hok.fresh (Nat.le_refl _))
  · subst e
    cases r1
    obtain ⟨its, rv, p, hz⟩ := I1.tuple hq
    refine wpAny_pyIter_tuple (show s1.heap.IsTuple a its.toArray from p) ?_
    refine ⟨s1.heap.objs.size, [s1.heap.objs.size], _, _, H1, rfl, I1.kept (t' := s1.toks) fun b o e => Heap.get?_push_of_some _ e, turn_tuple a _, ⟨_, Heap.get?_push_size _ rfl, rfl, rfl⟩, fun b hb => ?_, q⟩
    have e : b = s1.heap.objs.size := by simpa using hb
    subst e
    exact I1.fpOk (Nat.le_refl _) (I1.hok.fresh (Nat.le_refl _))
  · subst e
    obtain ⟨t, rfl⟩ := r1
    cases ha : z.cps.all (· < 128)
    · exact wpAny_pyIter_wide ha (pi_one (tk := s1.toks) I1 _ (turn_str _ z t "str_iterator" (.inr rfl)) ⟨_, Heap.get?_push_size _ rfl, rfl, rfl⟩ q)
    · exact wpAny_pyIter_ascii ha (pi_one (tk := s1.toks) I1 _ (turn_str _ z t "str_ascii_iterator" (.inl rfl)) ⟨_, Heap.get?_push_size _ rfl, rfl, rfl⟩ q)
  · subst e
    cases r1
    obtain ⟨hs, hgd, hx, es, ep, hdt, hsz, _, _⟩ := nd_obj I1 ha
    exact iter_keys hs hgd hx hdt (pi_one (tk := s1.toks) I1 _ (turn_nd _ hdt hsz) ⟨_, Heap.get?_push_size _ rfl, rfl, by rw [hsz] <;> rfl⟩ q)
/-- a text's letters -/
def charsOf (z : Str) : List PyData := z.cps.toList.map fun c => .str ⟨#[c]⟩
def itemsOf : PyData → Option (List PyData)
  | .list ds => some ds
  | .tuple ds => some ds
  | .str z => some (charsOf z)
  | .dict (p :: r) => some ((p :: r).map (·.1))
  | _ => none
def mIt (m : ME) : MI := fun s Q X => mD m s (fun d s1 => match itemsOf d with
  | some ds => Q ds s1
  | none => False) X
section
variable {K : PySem.W.Frag} {T : List (Addr × Str)} {W : WX}
theorem steady_l {a : Addr} {xs : List V} {ds : List PyData} {F : Hp} (h : SqL K F a xs) (hd : DqAll K F xs ds) : Steady K T (Itl K a) ds F := by
  intro σ0 σ H s R fps I e i
  have h1 : SqL K H a xs := ex_l (e.trans hid_ex) h
  refine ⟨fun d hi => ?_, fun hi => ⟨xs, h1, by rw [dps_len hd]; exact hi⟩⟩
  obtain ⟨v, hv, dv⟩ := dps_at (i := i) hd hi
  refine ⟨⟨xs, v, h1, hv⟩, fun x H' y => ?_⟩
  obtain ⟨rfl, y⟩ := y
  have ev := y xs h1
  rw [hv] at ev
  cases ev
  exact ⟨Go.refl I, dp_ex e _ _ dv⟩
theorem steady_t {a : Addr} {xs : List V} {ds : List PyData} {F : Hp} (h : SqT K F a xs) (hd : DqAll K F xs ds) : Steady K T (Itt K a) ds F := by
  intro σ0 σ H s R fps I e i
  have h1 : SqT K H a xs := ex_t (e.trans hid_ex) h
  refine ⟨fun d hi => ?_, fun hi => ⟨xs, h1, by rw [dps_len hd]; exact hi⟩⟩
  obtain ⟨v, hv, dv⟩ := dps_at (i := i) hd hi
  refine ⟨⟨xs, v, h1, hv⟩, fun x H' y => ?_⟩
  obtain ⟨rfl, y⟩ := y
  have ev := y xs h1
  rw [hv] at ev
  cases ev
  exact ⟨Go.refl I, dp_ex e _ _ dv⟩
theorem steady_nd {a : Addr} {ob : Obj} {xs : List NEnt} {ds : List PyData} {F : Hp} (h : F a = some (ndO a ob xs)) (hd : DqAll K F (xs.map fun x => V.ref x.2.1) ds) : Steady K T (Itn a ob xs) ds F := by
  intro σ0 σ H s R fps I e i
  have h1 : H a = some (ndO a ob xs) := hid_ex _ _ (e _ _ h)
  have hl := dps_len hd
  rw [List.length_map] at hl
  refine ⟨fun d hi => ?_, fun hi => ⟨by rw [hl]; exact hi, h1⟩⟩
  obtain ⟨v, hv, dv⟩ := dps_at (i := i) hd hi
  refine ⟨⟨by rw [hl]; exact (List.getElem?_eq_some_iff.mp hi).1, h1⟩, fun x H' y => ?_⟩
  obtain ⟨⟨z, hz, rfl⟩, rfl⟩ := y
  rw [List.getElem?_map, hz] at hv
  cases hv
  exact ⟨Go.refl I, dp_ex e _ _ dv⟩
theorem steady_s {z : Str} {F : Hp} : Steady K T (Its z) (charsOf z) F := by
  intro σ0 σ H s R fps I e i
  refine ⟨fun d hi => ?_, fun hi => ?_⟩
  · unfold charsOf at hi
    rw [List.getElem?_map] at hi
    obtain ⟨c, hc, rfl⟩ := Option.map_eq_some_iff.mp hi
    rw [Array.getElem?_toList] at hc
    refine ⟨(Array.getElem?_eq_some_iff.mp hc).1, fun x H' y => ?_⟩
    obtain ⟨rfl, c', hc', rfl⟩ := y
    rw [hc] at hc'
    cases hc'
    exact ⟨Go.refl I, .str _⟩
  · unfold charsOf at hi
    rw [List.length_map, Array.length_toList] at hi
    exact hi
theorem sim_it {K' : PySem.W.Frag} {te : TE} {m : ME} (h : SimE K T W te m) (hK : K' = K) : SimI K T W (iAny K' te) (mIt m) := by
  subst hK
  intro σ0 σ H s R fps I Qm Xm hm hx Q hQ
  refine sim_d h σ0 σ H s R fps I _ Xm hm hx _ fun v H1 s1 d fps1 g hd q => ?_
  cases d with
  | list ds =>
    obtain ⟨a, xs, rfl, hs, hds⟩ := dp_lst hd
    exact .inl ⟨a, rfl, ⟨xs, ex_l hid_ex hs⟩, hQ _ H1 s1 ds fps1 g (steady_l hs hds) q⟩
  | tuple ds =>
    obtain ⟨a, xs, rfl, hs, hds⟩ := dp_tup hd
    exact .inr (.inl ⟨a, rfl, ⟨xs, ex_t hid_ex hs⟩, hQ _ H1 s1 ds fps1 g (steady_t hs hds) q⟩)
  | none => exact q.elim
  | bool _ => exact q.elim
  | int _ => exact q.elim
  | str z =>
    obtain rfl := dp_str hd
    exact .inr (.inr (.inl ⟨z, rfl, hQ _ H1 s1 _ fps1 g steady_s q⟩))
  | dict kvs =>
    cases kvs with
    | nil => exact q.elim
    | cons p r =>
      obtain ⟨a, ob, xs, rfl, ha, hds⟩ := VAt.dict (F := hid (Wf R fps1) H1) (H := hid (Wf R fps1) H1) (.dq hd) (Ex.refl _)
      exact .inr (.inr (.inr ⟨a, ob, xs, rfl, hid_ex _ _ ha, hQ _ H1 s1 _ fps1 g (steady_nd ha hds) q⟩))
/-! ### range -/
def intsFrom (lo : Int) (n : Nat) : List PyData := (List.range n).map fun (i : Nat) => .int (lo + (i : Int))
theorem steady_r {lo : Int} {n : Nat} {F : Hp} : Steady K T (Itr lo n) (intsFrom lo n) F := by
  intro σ0 σ H s R fps I e i
  refine ⟨fun d hi => ?_, fun hi => ?_⟩
  · unfold intsFrom at hi
    rw [List.getElem?_map] at hi
    obtain ⟨j, hj, rfl⟩ := Option.map_eq_some_iff.mp hi
    obtain ⟨hl, ej⟩ := List.getElem?_eq_some_iff.mp hj
    rw [List.length_range] at hl
    rw [List.getElem_range] at ej
    subst ej
    refine ⟨hl, fun x H' y => ?_⟩
    obtain ⟨rfl, rfl⟩ := y
    exact ⟨Go.refl I, .int _⟩
  · unfold intsFrom at hi
    rw [List.length_map, List.length_range] at hi
    exact hi
theorem go_nil {σ0 σ : L2.St} {H H1 : Hp} {s s1 : S} {R R1 : Ad} {fps fps1 : Nat → Ad} (g : Go K T σ0 H s R fps σ H1 s1 (alt R R1) fps1) : Go K T σ0 H s R fps σ H1 s1 R fps1 := g.drop (fun _ z => z) fun _ z => .inl z
theorem sim_rng1' {ta : TA} {m : MA} (h : SimA K T W ta m) : SimI K T W (iRng1 ta) (fun s Q X => m s (fun rs s1 => match dats rs with
  | some [.int j] => -(2 ^ 62) ≤ j ∧ j < 2 ^ 62 ∧ Q (intsFrom 0 j.toNat) s1
  | _ => False) X) := by
  intro σ0 σ H s R fps I Qm Xm hm hx Q hQ
  refine h σ0 σ H s R fps I _ Xm hm hx _ fun vs H1 s1 rs l fps1 g hrs ap nR q => ?_
  split at q
  · rename_i j e
    have hd := dats_at hrs e
    obtain _ | ⟨h1, _ | _⟩ := hd
    obtain rfl := dp_int h1
    exact ⟨j, rfl, q.1, q.2.1, hQ _ H1 s1 _ fps1 (go_nil g) steady_r q.2.2⟩
  · exact q.elim
/-! ### for -/
def mForL (g : MG) (b : MS) : List PyData → S → SK → Prop
  | [], s, k => k.nx s
  | d :: ds, s, k => g d s fun s1 => b s1 { k with nx := fun s2 => mForL g b ds s2 k, ct := fun s2 => mForL g b ds s2 k, bk := k.nx }
def mFor (i : MI) (g : MG) (b : MS) : MS := fun s k => i s (fun ds s1 => mForL g b ds s1 k) k.er
theorem sim_for {wi : TI} {mi : MI} {tg : TG} {g : MG} {tb : TS} {b : MS} (hi : SimI K T W wi mi) (hg : SimG K T tg g) (hb : SimS K T W tb b) : SimS K T W (tFor wi tg tb) (mFor mi g b) := fun σ0 σ H s R fps I D k hm x => by
  refine hi σ0 σ H s R fps I _ k.er hm x.xok _ fun J H1 s1 ds fps1 g1 st q => ?_
  refine ⟨fun i m σ' H' => m = ds.length - i ∧ i ≤ ds.length ∧ ∃ s' fps', Go K T σ0 H1 s1 R fps1 σ' H' s' R fps' ∧ mForL g b (ds.drop i) s' k, ⟨ds.length, by simp, Nat.zero_le _, s1, fps1, Go.refl g1.iv, q⟩, ?_⟩
  rintro i m σ2 H2 ⟨rfl, hi2, s2, fps2, g2, q2⟩
  obtain ⟨st1, st2⟩ := st σ0 σ2 H2 s2 R fps2 g2.iv g2.gr i
  by_cases hlt : i < ds.length
  · obtain ⟨go, yl⟩ := st1 ds[i] (List.getElem?_eq_getElem hlt)
    rw [List.drop_eq_getElem_cons hlt] at q2
    refine .inr ⟨go, fun σ' H' => ∃ s' fps', Go K T σ0 H1 s1 R fps1 σ' H' s' R fps' ∧ mForL g b (ds.drop (i + 1)) s' k, fun σ' H' z => ⟨ds.length - (i + 1), by omega, rfl, hlt, z⟩, fun v H3 y => ?_⟩
    obtain ⟨g3, hd⟩ := yl v H3 y
    refine hg σ0 σ2 H3 s2 R fps2 g3.iv v _ hd _ q2 _ fun σ4 H4 s4 fps4 g4 q4 => ?_
    have g14 := g2.trans (g3.trans g4)
    exact hb σ0 σ4 H4 s4 R fps4 g4.iv _ _ q4 ⟨fun σ' H' s' fps' g5 z => ⟨s', fps', g14.trans g5, z⟩, fun σ' H' s' v o fp fps' g5 => x.rt σ' H' s' v o fp fps' (g1.trans (g14.trans g5)),
      fun σ' H' s' fps' g5 z => x.nx σ' H' s' fps' (g1.trans (g14.trans g5)) z, fun σ' H' s' fps' g5 z => ⟨s', fps', g14.trans g5, z⟩, fun C σ' H' s' fps' g5 z => x.er C σ' H' s' fps' (g1.trans (g14.trans g5)) z⟩
  · refine .inl ⟨st2 (by omega), ?_⟩
    rw [List.drop_eq_nil_of_le (by omega)] at q2
    exact x.nx σ2 H2 s2 fps2 (g1.trans g2) q2
/-! ### while -/
def mWhN (c : MT) (b : MS) : Nat → S → SK → Prop
  | 0, _, _ => False
  | n + 1, s, k => c s (fun q s1 => if q = true then b s1 { k with nx := fun s2 => mWhN c b n s2 k, ct := fun s2 => mWhN c b n s2 k, bk := k.nx } else k.nx s1) k.er
def mWhile (c : MT) (b : MS) : MS := fun s k => ∃ n, mWhN c b n s k
theorem sim_while {tc : TT} {c : MT} {tb : TS} {b : MS} (hc : SimT K T W tc c) (hb : SimS K T W tb b) : SimS K T W (tWhile tc tb) (mWhile c b) := fun σ0 σ H s R fps I D k hm x => by
  obtain ⟨n, hm⟩ := hm
  refine ⟨fun m σ' H' => ∃ s' fps', Go K T σ0 H s R fps σ' H' s' R fps' ∧ mWhN c b m s' k, ⟨n, s, fps, Go.refl I, hm⟩, ?_⟩
  rintro m σ1 H1 ⟨s1, fps1, g1, q1⟩
  cases m with
  | zero => exact q1.elim
  | succ m =>
    refine hc σ0 σ1 H1 s1 R fps1 g1.iv _ k.er q1 (x.go g1).xok _ fun q H2 s2 fps2 g2 h2 => ?_
    cases q with
    | true =>
      refine ⟨fun σ' H' => ∃ s' fps', Go K T σ0 H s R fps σ' H' s' R fps' ∧ mWhN c b m s' k, fun σ' H' z => ⟨m, Nat.lt_succ_self m, z⟩, ?_⟩
      have g12 := g1.trans g2
      exact hb σ0 σ1 H2 s2 R fps2 g2.iv _ _ h2 ⟨fun σ' H' s' fps' g5 z => ⟨s', fps', g12.trans g5, z⟩, fun σ' H' s' v o fp fps' g5 => x.rt σ' H' s' v o fp fps' (g12.trans g5),
        fun σ' H' s' fps' g5 z => x.nx σ' H' s' fps' (g12.trans g5) z, fun σ' H' s' fps' g5 z => ⟨s', fps', g12.trans g5, z⟩, fun C σ' H' s' fps' g5 z => x.er C σ' H' s' fps' (g12.trans g5) z⟩
    | false => exact x.nx σ1 H2 s2 fps2 (g1.trans g2) h2
end
end Mk

/-! part Mk6 -/
/-! Mk, part 6: comprehensions; defs as contracts, calls. -/
namespace Mk
open PySem PySem.Spec PyProof.Rows L2 Evl Lk LamX
def wipeE : List (Option O) → List Nat → List (Option O)
  | e, [] => e
  | e, v :: vs => (wipeE e vs).set v none
def wipeS (vs : List Nat) (s : S) : S := ⟨wipeE s.env vs, s.n, s.bor⟩
theorem wipeE_len (e : List (Option O)) : ∀ vs, (wipeE e vs).length = e.length
  | [] => rfl
  | v :: vs => by rw [wipeE, List.length_set, wipeE_len e vs]
theorem wipeE_some {e : List (Option O)} {i : Nat} {o : O} : ∀ {vs : List Nat}, (wipeE e vs)[i]? = some (some o) → e[i]? = some (some o) ∧ i ∉ vs
  | [], h => ⟨h, by simp⟩
  | v :: vs, h => by
    rw [wipeE] at h
    by_cases hi : v = i
    · subst hi
      by_cases hv : v < (wipeE e vs).length
      · rw [List.getElem?_set_self hv] at h; cases h
      · rw [List.getElem?_eq_none (by simpa using hv)] at h; cases h
    · rw [List.getElem?_set_ne hi] at h
      obtain ⟨h1, h2⟩ := wipeE_some h
      exact ⟨h1, by simp only [List.mem_cons, not_or]; exact ⟨fun e => hi e.symm, h2⟩⟩
theorem wipeE_out {e : List (Option O)} {i : Nat} : ∀ {vs : List Nat}, i ∉ vs → (wipeE e vs)[i]? = e[i]?
  | [], _ => rfl
  | v :: vs, h => by
    have h1 : v ≠ i := fun z => h (by rw [z]; exact List.mem_cons_self)
    have h2 : i ∉ vs := fun m => h (List.mem_cons_of_mem _ m)
    rw [wipeE, List.getElem?_set_ne h1]
    exact wipeE_out h2
noncomputable def fwipe (fps : Nat → Ad) (vs : List Nat) : Nat → Ad := fun i => open Classical in if i ∈ vs then nol else fps i
theorem fwipe_in {fps : Nat → Ad} {vs : List Nat} {i : Nat} {a : Addr} (h : fwipe fps vs i a) : fps i a ∧ i ∉ vs := by
  unfold fwipe at h
  by_cases q : i ∈ vs
  · rw [if_pos q] at h; exact h.elim
  · rw [if_neg q] at h; exact ⟨h, q⟩
section
variable {K : PySem.W.Frag} {T : List (Addr × Str)} {W : WX} {σ0 σ : L2.St} {H H0 : Hp} {s s0 : S} {R fp : Ad} {fps fps0 : Nat → Ad}
theorem Go.wipe (G : Go K T σ0 H0 s0 R fps0 σ H s (alt R fp) fps) {vs : List Nat} (hb : ∀ v ∈ vs, v ∉ s.bor) : Go K T σ0 H0 s0 R fps0 (L2.wipe σ vs) H (wipeS vs s) (alt R fp) (fwipe fps vs) := by
  have I := G.iv
  have g : Gr (Wf (alt R fp) fps) H (Wf (alt R fp) (fwipe fps vs)) H := gr_sub fun a z => z.imp id fun ⟨i, y⟩ => ⟨i, (fwipe_in y).1⟩
  refine ⟨⟨?_, fun i o e => ?_, fun i h a z => ?_, fun i j a z y => I.dis i j a (fwipe_in z).1 (fwipe_in y).1, fun i a z => I.disR i a (fwipe_in z).1, I.liv, I.tab, fun i hi => ?_⟩, G.kp, G.gr.trans g, G.bo, G.le, G.sb⟩
  · rw [L2.wipe_length]
    show _ = (wipeE s.env vs).length
    rw [wipeE_len]
    exact I.len
  · obtain ⟨e1, ni⟩ := wipeE_some e
    obtain ⟨v, h1, h2⟩ := I.at_ i o e1
    refine ⟨v, by rw [wipe_out ni]; exact h1, ?_⟩
    have ef : fwipe fps vs i = fps i := if_neg ni
    rw [ef]
    exact h2.keep g (fun _ _ => rfl) (Nat.le_refl _)
  · obtain ⟨z, ni⟩ := fwipe_in z
    exact I.emp i (fun o e => h o (by
      show (wipeE s.env vs)[i]? = _
      rw [wipeE_out ni]; exact e)) a z
  · have ni : i ∉ vs := fun z => hb i z hi
    rw [wipe_out ni]
    exact I.bor i hi
theorem Go.unwipe {vs : List Nat} (G : Go K T σ0 H0 s0 R fps0 (L2.wipe σ vs) H s (alt R fp) fps) (hb : ∀ v ∈ vs, v ∉ s.bor) : Go K T σ0 H0 s0 R fps0 σ H s (alt R fp) fps := by
  have I := G.iv
  refine ⟨⟨by rw [← I.len, L2.wipe_length], fun i o e => ?_, I.emp, I.dis, I.disR, I.liv, I.tab, fun i hi => ?_⟩, G.kp, G.gr, G.bo, G.le, G.sb⟩
  · obtain ⟨v, h1, h2⟩ := I.at_ i o e
    exact ⟨v, (L2.wipe_some h1).1, h2⟩
  · have h := I.bor i hi
    rw [wipe_out (fun z => hb i z hi)] at h
    exact h
theorem mutR_go {D : Addr} {vs vs' : List V} (G : Go K T σ0 H0 s0 R fps0 σ H s (alt R fp) fps) (hD : H D = some (.lst vs)) (zD : fp D) (nR : ¬ R D) :
    Go K T σ0 H0 s0 R fps0 σ (upd H D (.lst vs')) s (alt R fp) fps ∧ Gr (Wf (alt R fp) fps) H (Wf (alt R fp) fps) (upd H D (.lst vs')) := by
  have I := G.iv
  have g : Gr (Wf (alt R fp) fps) H (Wf (alt R fp) fps) (upd H D (.lst vs')) := gr_of (fun b o h n _ => by
    rw [upd_ne (show b ≠ D from fun z => n (.inl (.inr (z ▸ zD))))]
    exact h) (fun _ _ _ n => n)
  refine ⟨⟨I.step g (fun i b q => upd_ne (show b ≠ D from fun z => I.disR i b q (.inr (z ▸ zD)))) I.disR (fun b q => ?_) (Tabs.lst I.tab hD), fun b q => (upd_ne (show b ≠ D from fun z => nR (z ▸ q))).trans (G.kp b q), G.gr.trans g, G.bo, G.le, G.sb⟩, g⟩
  by_cases e : b = D
  · rw [e, upd_same]; exact trivial
  · rw [upd_ne e]; exact I.liv b q
end
/-- a target's reading stores into the slots vs alone -/
def GOnly (g : TG) (vs : List Nat) : Prop := ∀ v σ H Q, g v σ H Q → g v σ H fun σ' H' => L2.wipe σ' vs = L2.wipe σ vs ∧ Q σ' H'
def GsOnly (g : TGs) (vs : List Nat) : Prop := ∀ v σ H Q, g v σ H Q → g v σ H fun σ' H' => L2.wipe σ' vs = L2.wipe σ vs ∧ Q σ' H'
theorem wipe_set {σ : L2.St} {i : Nat} {x : Option V} : ∀ {vs : List Nat}, i ∈ vs → L2.wipe (σ.set i x) vs = L2.wipe σ vs
  | v :: vs, h => by
    unfold L2.wipe
    apply List.ext_getElem?
    intro j
    by_cases e : j = v
    · subst e
      by_cases hv : j < σ.length
      · rw [List.getElem?_set_self (by rw [L2.wipe_length, List.length_set]; exact hv), List.getElem?_set_self (by rw [L2.wipe_length]; exact hv)]
      · rw [List.getElem?_eq_none (by rw [List.length_set, L2.wipe_length, List.length_set]; omega), List.getElem?_eq_none (by rw [List.length_set, L2.wipe_length]; omega)]
    · rw [List.getElem?_set_ne (Ne.symm e), List.getElem?_set_ne (Ne.symm e)]
      by_cases q : i ∈ vs
      · rw [wipe_set q]
      · have ei : i = v := (List.mem_cons.mp h).resolve_right q
        subst ei
        by_cases qj : j ∈ vs
        · have hs : ∀ (τ : L2.St) (ws : List Nat), j ∈ ws → (L2.wipe τ ws)[j]? = if j < τ.length then some none else none := fun τ ws => by
            induction ws with
            | nil => intro z; cases z
            | cons w ws ih =>
              intro z
              unfold L2.wipe
              by_cases ew : w = j
              · subst ew
                by_cases hl : w < τ.length
                · rw [List.getElem?_set_self (by rw [L2.wipe_length]; exact hl), if_pos hl]
                · rw [List.getElem?_eq_none (by rw [List.length_set, L2.wipe_length]; omega), if_neg hl]
              · rw [List.getElem?_set_ne ew]
                exact ih ((List.mem_cons.mp z).resolve_left (Ne.symm ew))
          rw [hs _ _ qj, hs _ _ qj, List.length_set]
        · rw [wipe_out qj, wipe_out qj, List.getElem?_set_ne (Ne.symm e)]
theorem wipe_wipe {σ : L2.St} : ∀ {vs : List Nat}, L2.wipe (L2.wipe σ vs) vs = L2.wipe σ vs := by
  intro vs
  have key : ∀ ws : List Nat, (∀ w ∈ ws, w ∈ vs) → L2.wipe (L2.wipe σ ws) vs = L2.wipe σ vs := by
    intro ws
    induction ws with
    | nil => intro _; rfl
    | cons w ws ih =>
      intro h
      rw [show L2.wipe σ (w :: ws) = (L2.wipe σ ws).set w none from rfl, wipe_set (h w List.mem_cons_self)]
      exact ih fun x hx => h x (List.mem_cons_of_mem _ hx)
  exact key vs fun _ h => h
theorem gonly_n {i : Nat} {vs : List Nat} (h : i ∈ vs) : GOnly (gName i) vs := fun v σ H Q q => ⟨wipe_set h, q⟩
theorem gsonly_nil {vs : List Nat} : GsOnly gNil vs := fun v σ H Q q => ⟨q.1, rfl, q.2⟩
/-- targets' readings are monotone -/
def GMono (g : TG) : Prop := ∀ v σ H (Q Q' : L2.St → Hp → Prop), (∀ σ' H', Q σ' H' → Q' σ' H') → g v σ H Q → g v σ H Q'
def GsMono (g : TGs) : Prop := ∀ v σ H (Q Q' : L2.St → Hp → Prop), (∀ σ' H', Q σ' H' → Q' σ' H') → g v σ H Q → g v σ H Q'
theorem gmono_n {i : Nat} : GMono (gName i) := fun v σ H Q Q' h q => h _ _ q
theorem gsmono_nil : GsMono gNil := fun v σ H Q Q' h q => ⟨q.1, h _ _ q.2⟩
theorem gsmono_cons {g : TG} {gs : TGs} (h : GMono g) (hs : GsMono gs) : GsMono (gCons g gs) := fun v σ H Q Q' i ⟨x, r, e, q⟩ => ⟨x, r, e, h _ _ _ _ _ (fun σ' H' z => hs _ _ _ _ _ i z) q⟩
theorem gmono_t {K : PySem.W.Frag} {n : Nat} {gs : TGs} (hs : GsMono gs) : GMono (gTup K n gs) := fun v σ H Q Q' i ⟨a, xs, e, h1, h2, q⟩ => ⟨a, xs, e, h1, h2, hs _ _ _ _ _ i q⟩
theorem gsonly_cons {g : TG} {gs : TGs} {vs : List Nat} (m : GMono g) (ms : GsMono gs) (h : GOnly g vs) (hs : GsOnly gs vs) : GsOnly (gCons g gs) vs := fun v σ H Q ⟨x, r, e, q⟩ =>
  ⟨x, r, e, m _ _ _ _ _ (fun σ' H' z => ms _ _ _ _ _ (fun σ2 H2 y => ⟨y.1.trans z.1, y.2⟩) (hs _ _ _ _ z.2)) (h _ _ _ _ q)⟩
theorem gonly_t {K : PySem.W.Frag} {n : Nat} {gs : TGs} {vs : List Nat} (hs : GsOnly gs vs) : GOnly (gTup K n gs) vs := fun v σ H Q ⟨a, xs, e, h1, h2, q⟩ => ⟨a, xs, e, h1, h2, hs _ _ _ _ q⟩
def mYes : MT := fun s Q _ => Q true s
def mLcL (g : MG) (t : MT) (e : ME) (vs : List Nat) : List PyData → List PyData → S → (List PyData → S → Prop) → Prop
  | [], acc, s, Q => Q acc s
  | d :: ds, acc, s, Q => g d s fun s1 => t s1 (fun b s2 => if b = true then mD e s2 (fun y s3 => acc.length < 100000 ∧ mLcL g t e vs ds (acc ++ [y]) (wipeS vs s3) Q) (fun _ _ => False) else mLcL g t e vs ds acc (wipeS vs s2) Q) (fun _ _ => False)
def mLc (i : MI) (g : MG) (t : MT) (e : ME) (vs : List Nat) : ME := fun s Q X => i s (fun ds s1 => (∀ v ∈ vs, v ∉ s1.bor) ∧ mLcL g t e vs ds [] (wipeS vs s1) fun acc s2 => Q (.val (.lst acc)) s2) X
section
variable {K : PySem.W.Frag} {T : List (Addr × Str)} {W : WX}
theorem sim_yes : SimT K T W tYes mYes := fun σ0 σ H s R fps I Qm Xm hm hx Q hQ => hQ true H s fps (Go.refl I) hm
theorem sim_lc {wi : TI} {mi : MI} {tg : TG} {g : MG} {tt : TT} {t : MT} {te : TE} {e : ME} {vs : List Nat} (hi : SimI K T W wi mi) (hg : SimG K T tg g) (ho : GOnly tg vs) (hmo : GMono tg) (ht : SimT K T (fun _ _ _ _ => False) tt t) (he : SimE K T (fun _ _ _ _ => False) te e) :
    SimE K T W (tLc wi tg tt te vs) (mLc mi g t e vs) := by
  intro σ0 σ H s R fps I Qm Xm hm hx Q hQ
  refine hi σ0 σ H s R fps I _ Xm hm hx _ fun J H1 s1 ds fps1 g1 st q => ?_
  obtain ⟨hb, q⟩ := q
  intro D hD
  obtain ⟨fp, g2, hA, hfp⟩ := res_go (v := .ref D) (H' := upd H1 D (.lst [])) (o := .lst []) g1.iv (.lst hD .nil)
  cases hA with
  | lst hA hdA hz =>
    have zD : fp D := (hz D).mpr rfl
    have nR : ¬ R D := fun z => by
      have e := g1.iv.liv D z
      rw [hD] at e; exact e
    have g3 := (g1.trans g2).wipe (vs := vs) hb
    have bo : ∀ {s' : S}, s'.bor = s.bor → ∀ v ∈ vs, v ∉ s'.bor := fun {s'} e v hv => by
      rw [e, ← g1.bo]
      exact hb v hv
    refine ⟨fun i m H' => m = ds.length - i ∧ i ≤ ds.length ∧ ∃ s' fps' acc vsa, Go K T σ0 H s R fps (L2.wipe σ vs) H' s' (alt R fp) fps' ∧ Ex (hid (Wf R fps1) H1) (hid (Wf (alt R fp) fps') H') ∧ H' D = some (.lst vsa) ∧ DqAll K (hid (Wf (alt R fp) fps') H') vsa acc ∧
      mLcL g t e vs (ds.drop i) acc s' (fun acc s2 => Qm (.val (.lst acc)) s2), ⟨ds.length, by simp, Nat.zero_le _, _, _, [], [], g3, ?_, upd_same, .nil, q⟩, ?_⟩
    · exact g2.gr.trans (gr_sub fun a z => z.imp id fun ⟨i, y⟩ => ⟨i, (fwipe_in y).1⟩)
    · rintro i m H2 ⟨rfl, hi2, s2, fps2, acc, vsa, g4, x4, hD4, hacc, q2⟩
      obtain ⟨st1, st2⟩ := st σ0 _ H2 s2 _ fps2 g4.iv x4 i
      by_cases hlt : i < ds.length
      · obtain ⟨go, yl⟩ := st1 ds[i] (List.getElem?_eq_getElem hlt)
        rw [List.drop_eq_getElem_cons hlt] at q2
        refine .inr ⟨go, fun H' => ∃ s' fps' acc vsa, Go K T σ0 H s R fps (L2.wipe σ vs) H' s' (alt R fp) fps' ∧ Ex (hid (Wf R fps1) H1) (hid (Wf (alt R fp) fps') H') ∧ H' D = some (.lst vsa) ∧ DqAll K (hid (Wf (alt R fp) fps') H') vsa acc ∧
          mLcL g t e vs (ds.drop (i + 1)) acc s' (fun acc s2 => Qm (.val (.lst acc)) s2), fun H' z => ⟨ds.length - (i + 1), by omega, rfl, hlt, z⟩, fun v H3 y => ?_⟩
        obtain ⟨g5, hd⟩ := yl v H3 y
        refine hmo _ _ _ (fun σ2 H2 => L2.wipe σ2 vs = L2.wipe (L2.wipe σ vs) vs ∧ (L2.wipe σ2 vs = L2.wipe σ vs → tt σ2 H2 fun b H3 => if b = true then te σ2 H3 fun y H4 => ∃ acc, H4 D = some (.lst acc) ∧ acc.length < sizeLine ∧ ∃ s' fps' acc1 vsa, Go K T σ0 H s R fps (L2.wipe σ vs) (upd H4 D (.lst (acc ++ [y]))) s' (alt R fp) fps' ∧ Ex (hid (Wf R fps1) H1) (hid (Wf (alt R fp) fps') (upd H4 D (.lst (acc ++ [y])))) ∧ (upd H4 D (.lst (acc ++ [y]))) D = some (.lst vsa) ∧ DqAll K (hid (Wf (alt R fp) fps') (upd H4 D (.lst (acc ++ [y])))) vsa acc1 ∧
            mLcL g t e vs (ds.drop (i + 1)) acc1 s' (fun acc s2 => Qm (.val (.lst acc)) s2) else ∃ s' fps' acc1 vsa, Go K T σ0 H s R fps (L2.wipe σ vs) H3 s' (alt R fp) fps' ∧ Ex (hid (Wf R fps1) H1) (hid (Wf (alt R fp) fps') H3) ∧ H3 D = some (.lst vsa) ∧ DqAll K (hid (Wf (alt R fp) fps') H3) vsa acc1 ∧
            mLcL g t e vs (ds.drop (i + 1)) acc1 s' (fun acc s2 => Qm (.val (.lst acc)) s2))) _ (fun σ2 H2 z => ?_) (ho _ _ _ _ (hg σ0 (L2.wipe σ vs) H3 s2 (alt R fp) fps2 g5.iv v _ hd _ q2 _ fun σ6 H6 s6 fps6 g6 q6 hw => ?_))
        · rw [wipe_wipe] at z
          exact ⟨z.1, z.2 z.1⟩
        · have xf : ∀ {σ : L2.St} {H : Hp} {s : S} {R : Ad} {fps : Nat → Ad}, XOk K T (fun _ _ _ _ => False) σ0 σ H s R fps (fun _ _ => False) := fun {σ H s R fps} C H' s' fps' _ z => z.elim
          have D6 : H6 D = some (.lst vsa) := ((g5.trans g6).kp D (.inr zD)).trans hD4
          refine ht σ0 σ6 H6 s6 _ fps6 g6.iv _ _ q6 xf _ fun b H7 s7 fps7 g7 q7 => ?_
          have g57 := (g5.trans g6).trans g7
          have D7 : H7 D = some (.lst vsa) := (g7.kp D (.inr zD)).trans D6
          cases b with
          | true =>
            refine sim_d he σ0 σ6 H7 s7 _ fps7 g7.iv _ _ q7 xf _ fun w H8 s8 y fps8 g8 hy q8 => ?_
            have g58 := g57.trans g8
            have D8 : H8 D = some (.lst vsa) := (g8.kp D (.inr zD)).trans D7
            have G8 : Go K T σ0 H s R fps σ6 H8 s8 (alt R fp) fps8 := ⟨g8.iv, fun a z => (g58.kp a (.inl z)).trans (g4.kp a z), g4.gr.trans g58.gr, g58.bo.trans g4.bo, Nat.le_trans g4.le g58.le, fun _ z => .inl z⟩
            obtain ⟨G9, m9⟩ := mutR_go (vs' := vsa ++ [w]) G8 D8 zD nR
            have G10 := G9.wipe (vs := vs) (bo G9.bo)
            rw [hw] at G10
            have m10 : Gr (Wf (alt R fp) fps8) H8 (Wf (alt R fp) (fwipe fps8 vs)) (upd H8 D (.lst (vsa ++ [w]))) := m9.trans (gr_sub fun a z => z.imp id fun ⟨i, y⟩ => ⟨i, (fwipe_in y).1⟩)
            have ln : vsa.length = acc.length := dps_len hacc
            exact ⟨vsa, D8, sz_lt (by rw [ln]; exact q8.1), _, _, acc ++ [y], vsa ++ [w], G10, x4.trans (g58.gr.trans m10), upd_same, dps_app (dps_ex m10 _ _ (dps_ex g58.gr _ _ hacc)) (.cons (dp_ex m10 _ _ hy) .nil), q8.2⟩
          | false =>
            have G8 : Go K T σ0 H s R fps σ6 H7 s7 (alt R fp) fps7 := ⟨g7.iv, fun a z => (g57.kp a (.inl z)).trans (g4.kp a z), g4.gr.trans g57.gr, g57.bo.trans g4.bo, Nat.le_trans g4.le g57.le, fun _ z => .inl z⟩
            have G10 := G8.wipe (vs := vs) (bo G8.bo)
            rw [hw] at G10
            have m10 : Gr (Wf (alt R fp) fps7) H7 (Wf (alt R fp) (fwipe fps7 vs)) H7 := gr_sub fun a z => z.imp id fun ⟨i, y⟩ => ⟨i, (fwipe_in y).1⟩
            exact ⟨_, _, acc, vsa, G10, x4.trans (g57.gr.trans m10), D7, dps_ex m10 _ _ (dps_ex g57.gr _ _ hacc), q7⟩
      · refine .inl ⟨st2 (by omega), ?_⟩
        rw [List.drop_eq_nil_of_le (by omega)] at q2
        have bo2 := bo g4.bo
        have g6 := g4.unwipe bo2
        exact hQ (.ref D) H2 s2 _ fp fps2 g6 (.val (.lst hD4 hacc hz)) (fun a z y => nR (by rw [(hz a).mp z] at y; exact y)) q2
end
end Mk

/-! part Mk7 -/
/-! Mk, part 7: defs as contracts, calls. -/
namespace Mk
open PySem PySem.Spec PyProof.Rows L2 Evl Lk LamX
/-- what a def does with things, at so many draws: its answer (or error), its parameters' things, the draws behind it -/
abbrev Den : Type := List O → Nat → (O → List O → Nat → Prop) → (Exn → List O → Nat → Prop) → Prop
def isOwn : O → Bool
  | .dat _ => false
  | .exc _ => false
  | _ => true
def ownsFrom : Nat → List O → List Nat
  | _, [] => []
  | k, o :: os => if isOwn o then k :: ownsFrom (k + 1) os else ownsFrom (k + 1) os
def fins : List O → List (Option O) → Option (List O)
  | [], _ => some []
  | o :: os, e :: es => match (if isOwn o then e else some o), fins os es with
    | some x, some xs => some (x :: xs)
    | _, _ => none
  | _ :: _, [] => none
def spM (K : PySem.W.Frag) (T : List (Addr × Str)) (G : Den) : Sp := fun vs H Q E => ∃ os n R fps Qm Xm, Iv K T (vs.map some) (vs.map some) H ⟨os.map some, n, []⟩ R fps ∧ G os n Qm Xm ∧
  (∀ v H' o os' n' fp fps', Go K T (vs.map some) H ⟨os.map some, n, []⟩ R fps (vs.map some) H' ⟨os'.map some, n', []⟩ (alt R fp) fps' → At K (hid (Wf (alt R fp) fps') H') H' n' v o fp → (∀ a, fp a → ¬ R a) → Qm o os' n' → Q v H') ∧
  (∀ C H' os' n' fps', Go K T (vs.map some) H ⟨os.map some, n, []⟩ R fps (vs.map some) H' ⟨os'.map some, n', []⟩ R fps' → Xm C os' n' → ∀ d, XD K (hid (Wf R fps') H') C.2 d → E (.ref C.1) d H')
/-- the slots at a def's entry -/
def s0Of (N : Nat) (os : List O) (n : Nat) : S := ⟨os.map some ++ List.replicate (N - os.length) none, n, ownsFrom 0 os⟩
def kOf (os : List O) (Qm : O → List O → Nat → Prop) (Xm : Exn → List O → Nat → Prop) : SK where
  nx := fun s => match fins os s.env with
    | some os' => Qm (.dat .none) os' s.n
    | none => False
  rt := fun o s => match fins os s.env with
    | some os' => Qm o os' s.n
    | none => False
  bk := fun _ => False
  ct := fun _ => False
  er := fun C s => match fins os s.env with
    | some os' => Xm C os' s.n
    | none => False
def runD (N : Nat) (b : MS) : Den := fun os n Qm Xm => b (s0Of N os n) (kOf os Qm Xm)
theorem ownsFrom_of : ∀ {os : List O} {k j : Nat} {o : O}, os[j]? = some o → isOwn o = true → k + j ∈ ownsFrom k os
  | o :: os, k, 0, o', h, q => by
    cases h
    rw [ownsFrom, if_pos q]
    exact List.mem_cons_self
  | o :: os, k, j + 1, o', h, q => by
    have ih := ownsFrom_of (os := os) (k := k + 1) (j := j) (o := o') h q
    have e : k + (j + 1) = k + 1 + j := by omega
    rw [ownsFrom, e]
    by_cases r : isOwn o = true
    · rw [if_pos r]; exact List.mem_cons_of_mem _ ih
    · rw [if_neg r]; exact ih
theorem fins_at : ∀ {os : List O} {es : List (Option O)} {os' : List O}, fins os es = some os' → os'.length = os.length ∧ ∀ (j : Nat) (o o' : O), os[j]? = some o → os'[j]? = some o' → if isOwn o then es[j]? = some (some o') else o' = o
  | [], es, os', h => by
    cases h
    exact ⟨rfl, fun j o o' e => by cases e⟩
  | o :: os, [], os', h => by cases h
  | o :: os, e :: es, os', h => by
    rw [fins] at h
    split at h
    · rename_i x xs h1 h2
      cases h
      obtain ⟨l, f⟩ := fins_at h2
      refine ⟨by simp [l], fun j p p' e1 e2 => ?_⟩
      cases j with
      | zero =>
        cases e1; cases e2
        by_cases q : isOwn o = true
        · rw [if_pos q] at h1 ⊢
          rw [h1]; rfl
        · rw [if_neg q] at h1 ⊢
          exact (Option.some.inj h1).symm
      | succ j => exact f j p p' e1 e2
    · cases h
section
variable {K : PySem.W.Frag} {T : List (Addr × Str)} {N : Nat}
theorem start_at {N : List Str} {vs : List V} {i : Nat} {v : V} (h : vs[i]? = some v) : (L2.start N vs)[i]? = some (some v) := by
  unfold L2.start
  have hi := (List.getElem?_eq_some_iff.mp h).1
  rw [List.getElem?_append_left (by simpa using hi), List.getElem?_map, h]
  rfl
theorem map_at {α : Type} {l : List α} {i : Nat} {x : α} : (l.map some)[i]? = some (some x) ↔ l[i]? = some x := by
  rw [List.getElem?_map]
  constructor
  · intro h
    obtain ⟨y, hy, e⟩ := Option.map_eq_some_iff.mp h
    cases e
    exact hy
  · intro h
    rw [h]; rfl
theorem entry_iv {Ns : List Str} {vs : List V} {os : List O} {n : Nat} {H : Hp} {R : Ad} {fps : Nat → Ad} (I : Iv K T (vs.map some) (vs.map some) H ⟨os.map some, n, []⟩ R fps) (hN : vs.length ≤ Ns.length) :
    Iv K T (L2.start Ns vs) (L2.start Ns vs) H (s0Of Ns.length os n) R fps := by
  have l : vs.length = os.length := by
    have := I.len
    simpa using this
  have envs : ∀ i o, (s0Of Ns.length os n).env[i]? = some (some o) → os[i]? = some o := fun i o e => by
    unfold s0Of at e
    by_cases hi : i < os.length
    · rw [List.getElem?_append_left (by simpa using hi)] at e
      exact map_at.mp e
    · rw [List.getElem?_append_right (by simpa using hi), List.getElem?_replicate] at e
      split at e <;> cases e
  refine ⟨?_, fun i o e => ?_, fun i h a z => ?_, I.dis, I.disR, I.liv, I.tab, fun _ _ => rfl⟩
  · unfold L2.start s0Of
    simp [l]
  · obtain ⟨v, h1, h2⟩ := I.at_ i o (map_at.mpr (envs i o e))
    exact ⟨v, start_at (map_at.mp h1), h2⟩
  · refine I.emp i (fun o e => h o ?_) a z
    have e' := map_at.mp e
    unfold s0Of
    rw [List.getElem?_append_left (by simpa using (List.getElem?_eq_some_iff.mp e').1)]
    exact map_at.mpr e'
/-- back from a body: the parameters' things -/
theorem leave_go {Ns : List Str} {vs : List V} {os os' : List O} {n : Nat} {H H' : Hp} {R fp : Ad} {fps fps' : Nat → Ad} {σ' : L2.St} {s' : S} (I : Iv K T (vs.map some) (vs.map some) H ⟨os.map some, n, []⟩ R fps)
    (G : Go K T (L2.start Ns vs) H (s0Of Ns.length os n) R fps σ' H' s' (alt R fp) fps') (e : fins os s'.env = some os') :
    ∃ fps2, Go K T (vs.map some) H ⟨os.map some, n, []⟩ R fps (vs.map some) H' ⟨os'.map some, s'.n, []⟩ (alt R fp) fps2 ∧ Gr (Wf (alt R fp) fps') H' (Wf (alt R fp) fps2) H' := by
  have l : vs.length = os.length := by
    have := I.len
    simpa using this
  obtain ⟨l2, fa⟩ := fins_at e
  have J := G.iv
  let fps2 : Nat → Ad := fun i a => fps' i a ∧ ∃ o, os[i]? = some o ∧ isOwn o = true
  have sub : Gr (Wf (alt R fp) fps') H' (Wf (alt R fp) fps2) H' := gr_sub fun a z => z.imp id fun ⟨i, y⟩ => ⟨i, y.1⟩
  refine ⟨fps2, ⟨⟨by simp [l, l2], fun i o' ei => ?_, fun i h a z => ?_, fun i j a z y => J.dis i j a z.1 y.1, fun i a z => J.disR i a z.1, J.liv, J.tab, fun _ z => nomatch z⟩, G.kp, G.gr.trans sub, rfl, G.le, G.sb⟩, sub⟩
  · have ei' := map_at.mp ei
    have hi : i < os.length := by rw [← l2]; exact (List.getElem?_eq_some_iff.mp ei').1
    have eo : os[i]? = some os[i] := List.getElem?_eq_getElem hi
    have fi := fa i _ o' eo ei'
    obtain ⟨v, hv, hA⟩ := I.at_ i _ (map_at.mpr eo)
    refine ⟨v, hv, ?_⟩
    by_cases q : isOwn os[i] = true
    · rw [if_pos q] at fi
      obtain ⟨w, hw, hB⟩ := J.at_ i o' fi
      have hb : i ∈ s'.bor := by
        rw [G.bo]
        have := ownsFrom_of (k := 0) eo q
        rw [Nat.zero_add] at this
        exact this
      rw [J.bor i hb, start_at (map_at.mp hv)] at hw
      cases hw
      exact (hB.keep sub (fun _ _ => rfl) (Nat.le_refl _)).fpc fun a => ⟨fun z => z.1, fun z => ⟨z, _, eo, q⟩⟩
    · rw [if_neg q] at fi
      subst fi
      have nf : ∀ a, ¬ fps2 i a := fun a ⟨_, o, e1, q1⟩ => by
        rw [eo] at e1
        cases e1
        exact q q1
      generalize os[i] = ob at q hA
      cases hA with
      | dat h z => exact .dat (dp_ex (G.gr.trans sub) _ _ h) nf
      | lst h hd z => exact (q rfl).elim
      | dct h hd z => exact (q rfl).elim
      | st h z => exact (q rfl).elim
      | xs h hd z => exact (q rfl).elim
      | dn h hd z => exact (q rfl).elim
      | exc h hx z => exact .exc ((G.gr.trans sub) _ _ h) (xd_ex (G.gr.trans sub) hx) nf
  · obtain ⟨_, o, e1, _⟩ := z
    have hi : i < os'.length := by rw [l2]; exact (List.getElem?_eq_some_iff.mp e1).1
    exact h _ (map_at.mpr (List.getElem?_eq_getElem hi))
theorem body_ok {Ns : List Str} {vs : List V} {H : Hp} {Q : VK} {E : XK} {ts : TS} {b : MS} (hN : vs.length ≤ Ns.length) (hb : SimS K T (fun cls d _ H => E cls d H) ts b) (h : spM K T (runD Ns.length b) vs H Q E) :
    ts { nx := fun _ H' => Q .non H', rt := Q } (L2.start Ns vs) H := by
  obtain ⟨os, n, R, fps, Qm, Xm, I, hm, hQ, hE⟩ := h
  refine hb _ _ H _ R fps (entry_iv I hN) _ _ hm ⟨fun σ' H' s' fps' g z => ?_, fun σ' H' s' v o fp fps' g hA nR z => ?_, fun _ _ _ _ _ z => z.elim, fun _ _ _ _ _ z => z.elim, fun C σ' H' s' fps' g z => ?_⟩
  · have z' : (match fins os s'.env with
      | some os' => Qm (.dat .none) os' s'.n
      | none => False) := z
    split at z'
    · rename_i os' e
      obtain ⟨fps2, G2, sub⟩ := leave_go I (g.alt0 (fp := nol) fun _ z => z) e
      exact hQ .non H' _ os' s'.n nol fps2 G2 (.dat .non fun _ z => z) (fun _ z => z.elim) z'
    · exact z'.elim
  · have z' : (match fins os s'.env with
      | some os' => Qm o os' s'.n
      | none => False) := z
    split at z'
    · rename_i os' e
      obtain ⟨fps2, G2, sub⟩ := leave_go I g e
      exact hQ v H' o os' s'.n fp fps2 G2 (hA.keep sub (fun _ _ => rfl) (Nat.le_refl _)) nR z'
    · exact z'.elim
  · have z' : (match fins os s'.env with
      | some os' => Xm C os' s'.n
      | none => False) := z
    split at z'
    · rename_i os' e
      obtain ⟨fps2, G2, sub⟩ := leave_go I (g.alt0 (fp := nol) fun _ z => z) e
      rw [alt_nol] at G2 sub
      exact fun d hd => hE C H' os' s'.n fps2 G2 z' d (xd_ex sub hd)
    · exact z'.elim
end
end Mk

/-! part Mk8 -/
/-! Mk, part 8: calls. -/
namespace Mk
open PySem PySem.Spec PyProof.Rows L2 Evl Lk LamX
def gets (s : S) : List Rs → Option (List O)
  | [] => some []
  | .val o :: rs => match gets s rs with
    | some os => some (o :: os)
    | none => none
  | .slot i :: rs => match s.env[i]?, gets s rs with
    | some (some o), some os => some (o :: os)
    | _, _ => none
def slotsOf : List Rs → List Nat
  | [] => []
  | .val _ :: rs => slotsOf rs
  | .slot i :: rs => i :: slotsOf rs
def backs : List Rs → List O → S → S
  | .slot i :: rs, o :: os, s => backs rs os (putO s i o)
  | .val _ :: rs, _ :: os, s => backs rs os s
  | _, _, s => s
def getF (fps : Nat → Ad) : List Rs → List Ad → List Ad
  | .val _ :: rs, f :: l => f :: getF fps rs l
  | .slot i :: rs, _ :: l => fps i :: getF fps rs l
  | _, _ => []
def ofL (l : List Ad) : Nat → Ad := fun k => (l[k]?).getD nol
def mCall (G : Den) (m : MA) : ME := fun s Q X => m s (fun rs s1 => match gets s1 rs with
  | some os => (slotsOf rs).Nodup ∧ G os s1.n (fun o os' n' => Q (.val o) (backs rs os' ⟨s1.env, n', s1.bor⟩)) (fun C os' n' => X C (backs rs os' ⟨s1.env, n', s1.bor⟩))
  | none => False) X
theorem anyF_getF {fps : Nat → Ad} : ∀ {rs : List Rs} {l : List Ad} {a : Addr}, AnyF (getF fps rs l) a → AnyF l a ∨ ∃ i ∈ slotsOf rs, fps i a
  | [], _, _, ⟨_, h, _⟩ => nomatch h
  | .val _ :: rs, [], _, ⟨_, h, _⟩ => nomatch h
  | .slot _ :: rs, [], _, ⟨_, h, _⟩ => nomatch h
  | .val _ :: rs, f :: l, a, h => by
    rw [getF, anyF_cons] at h
    rw [anyF_cons]
    rcases h with h | h
    · exact .inl (.inl h)
    · exact (anyF_getF h).imp .inr id
  | .slot i :: rs, f :: l, a, h => by
    rw [getF, anyF_cons] at h
    rw [anyF_cons]
    rcases h with h | h
    · exact .inr ⟨i, List.mem_cons_self, h⟩
    · rcases anyF_getF h with h | ⟨j, hj, h⟩
      · exact .inl (.inr h)
      · exact .inr ⟨j, List.mem_cons_of_mem _ hj, h⟩
theorem apart_at : ∀ {l : List Ad}, Apart l → ∀ {i j : Nat} {a : Addr}, ofL l i a → ofL l j a → i = j
  | [], _, i, j, a, h, _ => h.elim
  | f :: l, ap, 0, 0, a, _, _ => rfl
  | f :: l, ap, 0, j + 1, a, h, g => by
    exfalso
    refine ap.1 a h ?_
    have g' : (l[j]?).getD nol a := g
    cases q : l[j]? with
    | none => rw [q] at g'; exact g'.elim
    | some x => rw [q] at g'; exact ⟨x, List.mem_of_getElem? q, g'⟩
  | f :: l, ap, i + 1, 0, a, h, g => by
    exfalso
    refine ap.1 a g ?_
    have g' : (l[i]?).getD nol a := h
    cases q : l[i]? with
    | none => rw [q] at g'; exact g'.elim
    | some x => rw [q] at g'; exact ⟨x, List.mem_of_getElem? q, g'⟩
  | f :: l, ap, i + 1, j + 1, a, h, g => congrArg Nat.succ (apart_at (l := l) ap.2 h g)
theorem ofL_any {l : List Ad} {k : Nat} {a : Addr} (h : ofL l k a) : AnyF l a := by
  have h' : (l[k]?).getD nol a := h
  cases q : l[k]? with
  | none => rw [q] at h'; exact h'.elim
  | some x => rw [q] at h'; exact ⟨x, List.mem_of_getElem? q, h'⟩
theorem any_ofL {l : List Ad} {a : Addr} (h : AnyF l a) : ∃ k, ofL l k a := by
  obtain ⟨f, hf, q⟩ := h
  obtain ⟨k, hk⟩ := List.getElem?_of_mem hf
  exact ⟨k, show (l[k]?).getD nol a by rw [hk]; exact q⟩
section
variable {K : PySem.W.Frag} {T : List (Addr × Str)} {W : WX} {σ0 σ : L2.St} {H H1 H0 : Hp} {s s1 s0 : S} {R R1 fp : Ad} {fps fps1 fps0 : Nat → Ad}
theorem getF_apart (I : Iv K T σ0 σ H s R fps) : ∀ {rs : List Rs} {l : List Ad}, Apart l → (∀ a, AnyF l a → R a) → (slotsOf rs).Nodup → Apart (getF fps rs l)
  | [], _, _, _, _ => trivial
  | .val _ :: rs, [], _, _, _ => trivial
  | .slot _ :: rs, [], _, _, _ => trivial
  | .val _ :: rs, f :: l, ap, hl, nd => by
    refine ⟨fun a z y => ?_, getF_apart I ap.2 (fun a z => hl a (by rw [anyF_cons]; exact .inr z)) nd⟩
    rcases anyF_getF y with y | ⟨i, _, y⟩
    · exact ap.1 a z y
    · exact I.disR i a y (hl a (by rw [anyF_cons]; exact .inl z))
  | .slot i :: rs, f :: l, ap, hl, nd => by
    have nd' : (i :: slotsOf rs).Nodup := nd
    refine ⟨fun a z y => ?_, getF_apart I ap.2 (fun a z => hl a (by rw [anyF_cons]; exact .inr z)) (List.nodup_cons.mp nd').2⟩
    rcases anyF_getF y with y | ⟨j, hj, y⟩
    · exact I.disR i a z (hl a (by rw [anyF_cons]; exact .inr y))
    · have e := I.dis i j a z y
      rw [← e] at hj
      exact (List.nodup_cons.mp nd').1 hj
/-- the things handed over -/
theorem gets_at (I : Iv K T σ0 σ H s R fps) : ∀ {vs : List V} {rs : List Rs} {l : List Ad} {os : List O}, RAts K (hid (Wf R fps) H) H s.n σ vs rs l → gets s rs = some os →
    os.length = vs.length ∧ rs.length = vs.length ∧ (∀ (k : Nat) (o : O), os[k]? = some o → ∃ v, vs[k]? = some v ∧ At K (hid (Wf R fps) H) H s.n v o (ofL (getF fps rs l) k)) ∧
    (∀ (k i : Nat), rs[k]? = some (Rs.slot i) → ∃ v, vs[k]? = some v ∧ σ[i]? = some (some v) ∧ ∃ o, s.env[i]? = some (some o))
  | _, _, _, os, .nil, e => by
    cases e
    exact ⟨rfl, rfl, (fun k o h => by cases h), fun k i h => by cases h⟩
  | _, .val o :: rs, _, os, .cons (v := v) (fp := f) (vs := vs) (l := l) h hr, e => by
    have e' : (match gets s rs with | some os => some (o :: os) | none => none) = some os := e
    cases q : gets s rs with
    | none => rw [q] at e'; cases e'
    | some os1 =>
      rw [q] at e'
      cases e'
      obtain ⟨h1, h2, h3, h4⟩ := gets_at I hr q
      refine ⟨by simp [h1], by simp [h2], fun k p hp => ?_, fun k i hk => ?_⟩
      · cases k with
        | zero =>
          cases hp
          cases h with
          | val h => exact ⟨v, rfl, h⟩
        | succ k => exact h3 k p hp
      · cases k with
        | zero => cases hk
        | succ k => exact h4 k i hk
  | _, .slot i :: rs, _, os, .cons (v := v) (fp := f) (vs := vs) (l := l) h hr, e => by
    have e' : (match s.env[i]?, gets s rs with
      | some (some o), some os => some (o :: os)
      | _, _ => none) = some os := e
    cases q1 : s.env[i]? with
    | none => rw [q1] at e'; cases e'
    | some x =>
      cases x with
      | none => rw [q1] at e'; cases e'
      | some o =>
        cases q : gets s rs with
        | none => rw [q1, q] at e'; cases e'
        | some os1 =>
          rw [q1, q] at e'
          cases e'
          obtain ⟨h1, h2, h3, h4⟩ := gets_at I hr q
          cases h with
          | slot h hz =>
            refine ⟨by simp [h1], by simp [h2], fun k p hp => ?_, fun k j hk => ?_⟩
            · cases k with
              | zero =>
                cases hp
                exact ⟨v, rfl, I.slotv q1 h⟩
              | succ k => exact h3 k p hp
            · cases k with
              | zero =>
                cases hk
                exact ⟨v, rfl, h, o, q1⟩
              | succ k => exact h4 k j hk
theorem backs_len : ∀ (rs : List Rs) (os : List O) (s : S), (backs rs os s).env.length = s.env.length ∧ (backs rs os s).n = s.n ∧ (backs rs os s).bor = s.bor
  | [], _, _ => ⟨rfl, rfl, rfl⟩
  | .val _ :: rs, [], _ => ⟨rfl, rfl, rfl⟩
  | .slot _ :: rs, [], _ => ⟨rfl, rfl, rfl⟩
  | .val _ :: rs, _ :: os, s => backs_len rs os s
  | .slot i :: rs, o :: os, s => by
    obtain ⟨h1, h2, h3⟩ := backs_len rs os (putO s i o)
    exact ⟨h1.trans (by simp [putO]), h2, h3⟩
theorem backs_out : ∀ {rs : List Rs} {os : List O} {s : S} {i : Nat}, i ∉ slotsOf rs → (backs rs os s).env[i]? = s.env[i]?
  | [], _, _, _, _ => rfl
  | .val _ :: rs, [], _, _, _ => rfl
  | .slot _ :: rs, [], _, _, _ => rfl
  | .val _ :: rs, _ :: os, s, i, h => backs_out (rs := rs) h
  | .slot j :: rs, o :: os, s, i, h => by
    have h' : i ∉ j :: slotsOf rs := h
    have h1 : j ≠ i := fun e => h' (by rw [e]; exact List.mem_cons_self)
    have ih := backs_out (rs := rs) (os := os) (s := putO s j o) (i := i) fun z => h' (List.mem_cons_of_mem _ z)
    show (backs rs os (putO s j o)).env[i]? = _
    rw [ih]
    show (s.env.set j (some o))[i]? = _
    rw [List.getElem?_set_ne h1]
theorem backs_in : ∀ {rs : List Rs} {os : List O} {s : S} {k i : Nat}, (slotsOf rs).Nodup → rs[k]? = some (Rs.slot i) → i < s.env.length → os.length = rs.length → ∃ o, os[k]? = some o ∧ (backs rs os s).env[i]? = some (some o)
  | .val _ :: rs, _ :: os, s, 0, i, _, h, _, _ => by cases h
  | .val _ :: rs, p :: os, s, k + 1, i, nd, h, hi, hl => backs_in (rs := rs) (os := os) (s := s) (k := k) nd h hi (by simpa using hl)
  | .slot j :: rs, o :: os, s, 0, i, nd, h, hi, hl => by
    have ej : j = i := by cases h; rfl
    subst ej
    have nd' : (j :: slotsOf rs).Nodup := nd
    refine ⟨o, rfl, ?_⟩
    show (backs rs os (putO s j o)).env[j]? = _
    rw [backs_out (List.nodup_cons.mp nd').1]
    exact List.getElem?_set_self hi
  | .slot j :: rs, o :: os, s, k + 1, i, nd, h, hi, hl => by
    have nd' : (j :: slotsOf rs).Nodup := nd
    exact backs_in (rs := rs) (os := os) (s := putO s j o) (k := k) (List.nodup_cons.mp nd').2 h (by simpa [putO] using hi) (by simpa using hl)
  | .val _ :: rs, [], _, _, _, _, _, _, hl => by cases hl
  | .slot _ :: rs, [], _, _, _, _, _, _, hl => by cases hl
theorem slotsOf_at : ∀ {rs : List Rs} {i : Nat}, i ∈ slotsOf rs ↔ ∃ k : Nat, rs[k]? = some (Rs.slot i)
  | [], i => Iff.intro (fun h => nomatch h) (fun ⟨k, h⟩ => by cases h)
  | .val o :: rs, i => by
    rw [slotsOf, slotsOf_at]
    constructor
    · rintro ⟨k, h⟩; exact ⟨k + 1, h⟩
    · rintro ⟨k, h⟩
      cases k with
      | zero => cases h
      | succ k => exact ⟨k, h⟩
  | .slot j :: rs, i => by
    rw [slotsOf, List.mem_cons, slotsOf_at]
    constructor
    · rintro (e | ⟨k, h⟩)
      · exact ⟨0, by rw [e]; rfl⟩
      · exact ⟨k + 1, h⟩
    · rintro ⟨k, h⟩
      cases k with
      | zero => cases h; exact .inl rfl
      | succ k => exact .inr ⟨k, h⟩
theorem slots_inj : ∀ {rs : List Rs} {k j i : Nat}, (slotsOf rs).Nodup → rs[k]? = some (Rs.slot i) → rs[j]? = some (Rs.slot i) → k = j
  | .val _ :: rs, 0, _, i, _, h, _ => by cases h
  | .val _ :: rs, k + 1, 0, i, _, _, h => by cases h
  | .val _ :: rs, k + 1, j + 1, i, nd, h, g => congrArg Nat.succ (slots_inj (rs := rs) nd h g)
  | .slot _ :: rs, 0, 0, i, _, _, _ => rfl
  | .slot l :: rs, 0, j + 1, i, nd, h, g => by
    have ej : l = i := by cases h; rfl
    subst ej
    have nd' : (l :: slotsOf rs).Nodup := nd
    exact ((List.nodup_cons.mp nd').1 (slotsOf_at.mpr ⟨j, g⟩)).elim
  | .slot l :: rs, k + 1, 0, i, nd, h, g => by
    have ej : l = i := by cases g; rfl
    subst ej
    have nd' : (l :: slotsOf rs).Nodup := nd
    exact ((List.nodup_cons.mp nd').1 (slotsOf_at.mpr ⟨k, h⟩)).elim
  | .slot _ :: rs, k + 1, j + 1, i, nd, h, g => by
    have nd' : (_ :: slotsOf rs).Nodup := nd
    exact congrArg Nat.succ (slots_inj (rs := rs) (List.nodup_cons.mp nd').2 h g)
/-- into a callee -/
def rCall (R : Ad) (fps : Nat → Ad) (fl : List Ad) : Ad := fun a => Wf R fps a ∧ ¬ AnyF fl a
theorem call_in {vs : List V} {rs : List Rs} {l : List Ad} {os : List O} (I : Iv K T σ0 σ H s (alt R (AnyF l)) fps) (h : RAts K (hid (Wf (alt R (AnyF l)) fps) H) H s.n σ vs rs l) (e : gets s rs = some os) (ap : Apart l) (nd : (slotsOf rs).Nodup) :
    Iv K T (vs.map some) (vs.map some) H ⟨os.map some, s.n, []⟩ (rCall (alt R (AnyF l)) fps (getF fps rs l)) (ofL (getF fps rs l)) ∧ Wf (rCall (alt R (AnyF l)) fps (getF fps rs l)) (ofL (getF fps rs l)) = Wf (alt R (AnyF l)) fps := by
  obtain ⟨h1, h2, h3, h4⟩ := gets_at I h e
  have apF := getF_apart I ap (fun a z => .inr z) nd
  have anyW : ∀ a, AnyF (getF fps rs l) a → Wf (alt R (AnyF l)) fps a := fun a z => by
    rcases anyF_getF z with z | ⟨i, _, z⟩
    · exact .inl (.inr z)
    · exact .inr ⟨i, z⟩
  have eW : Wf (rCall (alt R (AnyF l)) fps (getF fps rs l)) (ofL (getF fps rs l)) = Wf (alt R (AnyF l)) fps := funext fun a => propext ⟨fun z => by
    rcases z with z | ⟨k, z⟩
    · exact z.1
    · exact anyW a (ofL_any z), fun z => by
    by_cases q : AnyF (getF fps rs l) a
    · exact .inr (any_ofL q)
    · exact .inl ⟨z, q⟩⟩
  refine ⟨⟨by simp [h1], fun k o ek => ?_, fun k hk a z => ?_, fun i j a z y => apart_at apF z y, fun i a z y => y.2 (ofL_any z), fun a z => I.live z.1, I.tab, fun _ z => nomatch z⟩, eW⟩
  · obtain ⟨v, hv, hA⟩ := h3 k o (map_at.mp ek)
    rw [eW]
    exact ⟨v, map_at.mpr hv, hA⟩
  · have hl : (getF fps rs l).length ≤ os.length := by
      have : ∀ (rs : List Rs) (l : List Ad), (getF fps rs l).length ≤ rs.length := fun rs => by
        induction rs with
        | nil => intro l; cases l <;> exact Nat.zero_le _
        | cons r rs ih =>
          intro l
          cases r <;> cases l <;> simp [getF]
          · exact ih _
          · exact ih _
      exact Nat.le_trans (this rs l) (by omega)
    by_cases q : k < os.length
    · exact hk os[k] (map_at.mpr (List.getElem?_eq_getElem q))
    · have z' : ((getF fps rs l)[k]?).getD nol a := z
      rw [List.getElem?_eq_none (by omega)] at z'
      exact z'
/-- back from a callee -/
theorem call_out {vs : List V} {rs : List Rs} {l : List Ad} {os os' : List O} {H' : Hp} {n' : Nat} {fpc : Nat → Ad} (G0 : Go K T σ0 H0 s0 R fps0 σ H s (alt R (AnyF l)) fps) (h : RAts K (hid (Wf (alt R (AnyF l)) fps) H) H s.n σ vs rs l) (nR : ∀ a, AnyF l a → ¬ R a)
    (e : gets s rs = some os) (ap : Apart l) (nd : (slotsOf rs).Nodup)
    (g : Go K T (vs.map some) H ⟨os.map some, s.n, []⟩ (rCall (alt R (AnyF l)) fps (getF fps rs l)) (ofL (getF fps rs l)) (vs.map some) H' ⟨os'.map some, n', []⟩ (alt (rCall (alt R (AnyF l)) fps (getF fps rs l)) fp) fpc) (nfp : ∀ a, fp a → ¬ rCall (alt R (AnyF l)) fps (getF fps rs l) a) :
    ∃ fps2, Go K T σ0 H0 s0 R fps0 σ H' (backs rs os' ⟨s.env, n', s.bor⟩) (alt R fp) fps2 ∧ Gr (Wf (alt (rCall (alt R (AnyF l)) fps (getF fps rs l)) fp) fpc) H' (Wf (alt R fp) fps2) H' ∧ ∀ a, fp a → ¬ R a := by
  have I := G0.iv
  obtain ⟨h1, h2, h3, h4⟩ := gets_at I h e
  obtain ⟨I1, eW⟩ := call_in I h e ap nd
  have J := g.iv
  have ol : os'.length = vs.length := by
    have := J.len
    simpa using this.symm
  have rsub : ∀ a, R a → rCall (alt R (AnyF l)) fps (getF fps rs l) a := fun a z => ⟨.inl (.inl z), fun y => by
    rcases anyF_getF y with y | ⟨i, _, y⟩
    · exact nR a y z
    · exact I.disR i a y (.inl z)⟩
  have fsub : ∀ i a, i ∉ slotsOf rs → fps i a → rCall (alt R (AnyF l)) fps (getF fps rs l) a := fun i a hi z => ⟨.inr ⟨i, z⟩, fun y => by
    rcases anyF_getF y with y | ⟨j, hj, y⟩
    · exact I.disR i a z (.inr y)
    · rw [I.dis i j a z y] at hi
      exact hi hj⟩
  have nfR : ∀ a, fp a → ¬ R a := fun a z y => nfp a z (rsub a y)
  let fps2 : Nat → Ad := fun i a => (∃ k : Nat, rs[k]? = some (Rs.slot i) ∧ fpc k a) ∨ (i ∉ slotsOf rs ∧ fps i a)
  have sub : ∀ a, Wf (alt R fp) fps2 a → Wf (alt (rCall (alt R (AnyF l)) fps (getF fps rs l)) fp) fpc a := fun a z => by
    rcases z with (z | z) | ⟨i, ⟨k, _, z⟩ | ⟨hi, z⟩⟩
    · exact .inl (.inl (rsub a z))
    · exact .inl (.inr z)
    · exact .inr ⟨k, z⟩
    · exact .inl (.inl (fsub i a hi z))
  have gs : Gr (Wf (alt (rCall (alt R (AnyF l)) fps (getF fps rs l)) fp) fpc) H' (Wf (alt R fp) fps2) H' := gr_sub sub
  have gr1 : Gr (Wf (alt R (AnyF l)) fps) H (Wf (alt R fp) fps2) H' := by
    have := g.gr
    rw [eW] at this
    exact this.trans gs
  obtain ⟨b1, b2, b3⟩ := backs_len rs os' ⟨s.env, n', s.bor⟩
  refine ⟨fps2, ⟨⟨?_, fun i o ei => ?_, fun i hi a z => ?_, fun i j a z y => ?_, fun i a z y => ?_, fun a z => ?_, J.tab, fun i hi => ?_⟩, fun a z => (g.kp a (rsub a z)).trans (G0.kp a z), G0.gr.trans gr1, b3.trans G0.bo, ?_, fun _ z => .inl z⟩, gs, nfR⟩
  · rw [b1]; exact I.len
  · rw [b2]
    by_cases hi : i ∈ slotsOf rs
    · obtain ⟨k, hk⟩ := slotsOf_at.mp hi
      obtain ⟨v, hv, hσ, o0, ho0⟩ := h4 k i hk
      obtain ⟨o', ho', hb⟩ := backs_in (s := ⟨s.env, n', s.bor⟩) nd hk (List.getElem?_eq_some_iff.mp ho0).1 (ol.trans h2.symm)
      rw [hb] at ei
      cases ei
      obtain ⟨w, hw, hA⟩ := J.at_ k o (map_at.mpr ho')
      have ew := map_at.mp hw
      rw [hv] at ew
      cases ew
      refine ⟨v, hσ, (hA.keep gs (fun _ _ => rfl) (Nat.le_refl _)).fpc fun a => ⟨fun z => ?_, fun z => .inl ⟨k, hk, z⟩⟩⟩
      rcases z with ⟨j, hj, z⟩ | ⟨z, _⟩
      · rw [slots_inj nd hk hj]; exact z
      · exact (z hi).elim
    · rw [backs_out hi] at ei
      obtain ⟨v, hv, hA⟩ := I.at_ i o ei
      refine ⟨v, hv, (hA.keep gr1 (fun a z => g.kp a (fsub i a hi z)) g.le).fpc fun a => ⟨fun z => ?_, fun z => .inr ⟨hi, z⟩⟩⟩
      rcases z with ⟨j, hj, _⟩ | ⟨_, z⟩
      · exact (hi (slotsOf_at.mpr ⟨j, hj⟩)).elim
      · exact z
  · rcases z with ⟨k, hk, z⟩ | ⟨hn, z⟩
    · obtain ⟨v, hv, hσ, o0, ho0⟩ := h4 k i hk
      obtain ⟨o', ho', hb⟩ := backs_in (s := ⟨s.env, n', s.bor⟩) nd hk (List.getElem?_eq_some_iff.mp ho0).1 (ol.trans h2.symm)
      exact hi o' hb
    · exact I.emp i (fun o e => hi o (by rw [backs_out hn]; exact e)) a z
  · rcases z with ⟨k, hk, z⟩ | ⟨hn, z⟩
    · rcases y with ⟨k', hk', y⟩ | ⟨hn', y⟩
      · have ek := J.dis k k' a z y
        rw [ek, hk'] at hk
        cases hk; rfl
      · exact (J.disR k a z (.inl (fsub j a hn' y))).elim
    · rcases y with ⟨k', hk', y⟩ | ⟨hn', y⟩
      · exact (J.disR k' a y (.inl (fsub i a hn z))).elim
      · exact I.dis i j a z y
  · rcases z with ⟨k, hk, z⟩ | ⟨hn, z⟩
    · rcases y with y | y
      · exact J.disR k a z (.inl (rsub a y))
      · exact J.disR k a z (.inr y)
    · rcases y with y | y
      · exact I.disR i a z (.inl y)
      · exact nfp a y (fsub i a hn z)
  · rcases z with z | z
    · exact J.liv a (.inl (rsub a z))
    · exact J.liv a (.inr z)
  · rw [b3] at hi
    exact I.bor i hi
  · rw [b2]
    exact Nat.le_trans G0.le g.le
/-- a call of a def by its contract -/
theorem sim_call {G : Den} {ta : TA} {m : MA} (ha : SimA K T W ta m) : SimE K T W (tCallS (spM K T G) (fun σ cls d H => W cls d σ H) ta) (mCall G m) := by
  intro σ0 σ H s R fps I Qm Xm hm hx Q hQ
  refine ha σ0 σ H s R fps I _ Xm hm hx _ fun vs H1 s1 rs l fps1 g hrs ap nR q => ?_
  split at q
  · rename_i os e
    obtain ⟨nd, q⟩ := q
    obtain ⟨I1, eW⟩ := call_in g.iv hrs e ap nd
    refine ⟨os, s1.n, _, _, _, _, I1, q, fun v H2 o os' n' fp fpc g2 hA nfp z => ?_, fun C H2 os' n' fpc g2 z => ?_⟩
    · obtain ⟨fps2, g3, gs, nf⟩ := call_out g hrs nR e ap nd g2 nfp
      obtain ⟨b1, b2, b3⟩ := backs_len rs os' ⟨s1.env, n', s1.bor⟩
      refine hQ v H2 _ (.val o) fp fps2 g3 (.val ?_) nf z
      rw [b2]
      exact hA.keep gs (fun _ _ => rfl) (Nat.le_refl _)
    · obtain ⟨fps2, g3, gs, nf⟩ := call_out (fp := nol) g hrs nR e ap nd (g2.alt0 fun _ z => z) (fun _ z => z.elim)
      rw [alt_nol] at g3
      simp only [alt_nol] at gs
      exact fun d hd => hx C H2 _ fps2 g3 z d (xd_ex gs hd)
  · exact q.elim
/-- .. that raises nothing here -/
theorem sim_call0 {G : Den} {ta : TA} {m : MA} (ha : SimA K T W ta m) : SimE K T W (tCall (spM K T G) [] E0 ta) (fun s Q X => mCall G m s Q fun _ _ => False) := by
  intro σ0 σ H s R fps I Qm Xm hm hx Q hQ
  refine ha σ0 σ H s R fps I _ (fun _ _ => False) hm (fun _ _ _ _ _ z => z.elim) _ fun vs H1 s1 rs l fps1 g hrs ap nR q => ?_
  split at q
  · rename_i os e
    obtain ⟨nd, q⟩ := q
    obtain ⟨I1, eW⟩ := call_in g.iv hrs e ap nd
    rw [List.append_nil]
    refine ⟨os, s1.n, _, _, _, _, I1, q, fun v H2 o os' n' fp fpc g2 hA nfp z => ?_, fun C H2 os' n' fpc g2 z => z.elim⟩
    obtain ⟨fps2, g3, gs, nf⟩ := call_out g hrs nR e ap nd g2 nfp
    obtain ⟨b1, b2, b3⟩ := backs_len rs os' ⟨s1.env, n', s1.bor⟩
    refine hQ v H2 _ (.val o) fp fps2 g3 (.val ?_) nf z
    rw [b2]
    exact hA.keep gs (fun _ _ => rfl) (Nat.le_refl _)
  · exact q.elim
end
end Mk

/-! part Mk9 -/
/-! Mk, part 9: operations. -/
namespace Mk
open PySem PySem.Spec PyProof.Rows L2 Evl Lk LamX
abbrev FO : Type := (O → Prop) → Prop
def lift1 (r : V → Hp → VK → Prop) : List V → Hp → VK → Prop := fun xs H Q => match xs with
  | [x] => r x H Q
  | _ => False
def lift2 (r : R2) : List V → Hp → VK → Prop := fun xs H Q => match xs with
  | [x, y] => r x y H Q
  | _ => False
def fl1 (f : PyData → FO) : List PyData → FO := fun ds Q => match ds with
  | [d] => f d Q
  | _ => False
def fl2 (f : PyData → PyData → FO) : List PyData → FO := fun ds Q => match ds with
  | [d, e] => f d e Q
  | _ => False
def PS1 (K : PySem.W.Frag) (r : V → Hp → VK → Prop) (f : PyData → FO) : Prop := ∀ F H x d Qo Q, Ex F H → VAt K F H x d → f d Qo → (∀ v H' o, Res K F H v H' o → Qo o → Q v H') → r x H Q
def PS2 (K : PySem.W.Frag) (r : R2) (f : PyData → PyData → FO) : Prop := ∀ F H x y d e Qo Q, Ex F H → VAt K F H x d → VAt K F H y e → f d e Qo → (∀ v H' o, Res K F H v H' o → Qo o → Q v H') → r x y H Q
section
variable {K : PySem.W.Frag}
theorem psim1 {r : V → Hp → VK → Prop} {f : PyData → FO} (h : PS1 K r f) : PSim K (lift1 r) (fl1 f) := fun F H vs ds Qo Q e hv hf k => by
  cases hv with
  | nil => exact hf.elim
  | cons h1 h2 =>
    cases h2 with
    | nil => exact h F H _ _ Qo Q e h1 hf k
    | cons _ _ => exact hf.elim
theorem psim2 {r : R2} {f : PyData → PyData → FO} (h : PS2 K r f) : PSim K (lift2 r) (fl2 f) := fun F H vs ds Qo Q e hv hf k => by
  cases hv with
  | nil => exact hf.elim
  | cons h1 h2 =>
    cases h2 with
    | nil => exact hf.elim
    | cons h2 h3 =>
      cases h3 with
      | nil => exact h F H _ _ _ _ Qo Q e h1 h2 hf k
      | cons _ _ => exact hf.elim
end
def mOp (f : PyData → PyData → FO) (a b : ME) : ME := mCB (fl2 f) (mCons a (mCons b mNil))
def mUn (f : PyData → FO) (a : ME) : ME := mCB (fl1 f) (mCons a mNil)
section
variable {K : PySem.W.Frag} {T : List (Addr × Str)} {W : WX}
theorem sim_op {r : R2} {f : PyData → PyData → FO} {ta tb : TE} {a b : ME} (h : PS2 K r f) (ha : SimE K T W ta a) (hb : SimE K T W tb b) : SimE K T W (tOp r ta tb) (mOp f a b) :=
  (sim_cb (psim2 h) (sim_cons ha (sim_cons hb sim_nil)) : SimE K T W (tCB (lift2 r) (tCons ta (tCons tb tNil))) (mOp f a b))
theorem sim_un {r : V → Hp → VK → Prop} {f : PyData → FO} {ta : TE} {a : ME} (h : PS1 K r f) (ha : SimE K T W ta a) : SimE K T W (tUn r ta) (mUn f a) :=
  (sim_cb (psim1 h) (sim_cons ha sim_nil) : SimE K T W (tCB (lift1 r) (tCons ta tNil)) (mUn f a))
end
/-! ### either rule -/
def orR (r q : R2) : R2 := fun x y H Q => r x y H Q ∨ q x y H Q
theorem opOr {X : Cx} {f : Value → Value → Sem Value} {r q : R2} (a : OpR X f r) (b : OpR X f q) : OpR X f (orR r q) := fun pins s σ H x y v u Q I rx ry h => h.elim (a pins s σ H x y v u Q I rx ry) (b pins s σ H x y v u Q I rx ry)
def orC (r q : List V → Hp → VK → Prop) : List V → Hp → VK → Prop := fun xs H Q => r xs H Q ∨ q xs H Q
theorem callOr {X : Cx} {f : Value} {r q : List V → Hp → VK → Prop} (a : CallR X f r) (b : CallR X f q) : CallR X f (orC r q) := fun pins s σ H xs us Q I rx h => h.elim (a pins s σ H xs us Q I rx) (b pins s σ H xs us Q I rx)
def orS (r q : V → Option Int → Option Int → Hp → VK → Prop) : V → Option Int → Option Int → Hp → VK → Prop := fun x lo hi H Q => r x lo hi H Q ∨ q x lo hi H Q
theorem slOr {X : Cx} {r q : V → Option Int → Option Int → Hp → VK → Prop} (a : SlR X r) (b : SlR X q) : SlR X (orS r q) := fun pins s σ H x v vl vu lo hi sl Q I rx hs pl pu h =>
  h.elim (a pins s σ H x v vl vu lo hi sl Q I rx hs pl pu) (b pins s σ H x v vl vu lo hi sl Q I rx hs pl pu)
/-! ### l + m, whatever lists -/
def rCatL (K : PySem.W.Frag) : R2 := fun x y H Q => ∃ l b xs zs, x = .ref l ∧ y = .ref b ∧ SqL K H l xs ∧ SqL K H b zs ∧ xs.length + zs.length ≤ sizeLine ∧ ∀ p, H p = none → Q (.ref p) (upd H p (.lst (xs ++ zs)))
theorem op_catL {X : Cx} : OpR X (binaryOp .Add) (rCatL X.K) := by
  rintro pins s σ H x y v u Q I rx ry ⟨l, b, xs, zs, rfl, rfl, h1, h2, hz, q⟩
  cases rx
  cases ry
  obtain ⟨is, r1, p1, _⟩ := I.list h1
  obtain ⟨js, r2, p2, _⟩ := I.list h2
  obtain ⟨⟨c1, d1, t1, l1⟩, e1, rfl, n1, rfl⟩ := p1.isList
  obtain ⟨⟨c2, d2, t2, l2⟩, e2, rfl, n2, rfl⟩ := p2.isList
  have z1 := r1.length
  have z2 := r2.length
  refine concat_meets ⟨_, e1, rfl⟩ ⟨_, e2, rfl⟩ noFill_list_add seq_list_add PySem.F.slot_list_add PySem.F.entry_list_add (PySem.F.args_list_add_2 _ _)
    (list_addW l b is.toArray js.toArray n1 n2 d1 d2 l1 l2 (by rw [List.size_toArray, List.size_toArray, ← z1, ← z2]; exact hz)) ⟨e1, e2, ?_⟩
  have ea : is.toArray ++ js.toArray = (is ++ js).toArray := by simp
  rw [ea]
  exact ⟨.ref _, _, I.lnew (t' := s.toks) (r1.append r2) (by rw [List.length_append]; exact hz), rfl, q _ I.fresh⟩
/-! ### + -/
def fAdd : PyData → PyData → FO
  | .int a, .int b, Q => Q (.dat (.int (a + b)))
  | .str a, .str b, Q => a.length + b.length ≤ 100000 ∧ Q (.dat (.str (a ++ b)))
  | .list xs, .list ys, Q => xs.length + ys.length ≤ 100000 ∧ Q (.lst (xs ++ ys))
  | .tuple xs, .tuple ys, Q => xs.length + ys.length ≤ 100000 ∧ Q (.dat (.tuple (xs ++ ys)))
  | _, _, _ => False
def rAddS : R2 := fun x y H Q => ∃ i j, x = .str i ∧ y = .str j ∧ i.length + j.length ≤ sizeLine ∧ Q (.str (i ++ j)) H
def rAdd4 (K : PySem.W.Frag) : R2 := orR (rI0 fun i j => .int (i + j)) (orR rAddS (orR (rCatL K) (rCatA K)))
section
variable {K : PySem.W.Frag}
theorem ps_add : PS2 K (rAdd4 K) fAdd := by
  intro F H x y d e Qo Q ex hx hy hf k
  cases d <;> cases e <;> first
    | exact hf.elim
    | skip
  · obtain rfl := hx.int
    obtain rfl := hy.int
    exact .inl ⟨_, _, rfl, rfl, k _ _ _ (.dat (.int _)) hf⟩
  · obtain rfl := hx.str
    obtain rfl := hy.str
    exact .inr (.inl ⟨_, _, rfl, rfl, sz_of hf.1, k _ _ _ (.dat (.str _)) hf.2⟩)
  · obtain ⟨a, xs, rfl, h1, h2⟩ := hx.list ex
    obtain ⟨b, ys, rfl, h3, h4⟩ := hy.list ex
    refine .inr (.inr (.inl ⟨a, b, xs, ys, rfl, rfl, h1, h3, sz_of (by rw [dps_len h2, dps_len h4]; exact hf.1), fun p hp => k _ _ _ (.lst hp (dps_app h2 h4)) hf.2⟩))
  · rename_i ds es
    obtain ⟨a, xs, rfl, h1, h2⟩ := hx.tuple ex
    obtain ⟨b, ys, rfl, h3, h4⟩ := hy.tuple ex
    refine .inr (.inr (.inr ⟨a, b, xs, ys, rfl, rfl, h1, h3, sz_of (by rw [dps_len h2, dps_len h4]; exact hf.1), fun z => ?_, fun _ z => ?_, fun _ _ p hp => k _ _ _ (.tup hp (dps_app h2 h4)) hf.2⟩))
    · subst z
      cases h2
      cases hy with
      | dq hy => exact k _ _ _ (.dat hy) hf.2
    · subst z
      cases h4
      cases hx with
      | dq hx =>
        have hf2 : Qo (.dat (.tuple (ds ++ []))) := hf.2
        rw [List.append_nil] at hf2
        exact k _ _ _ (.dat hx) hf2
end
/-! ### ints -/
def fI2 (C : Int → Int → Prop) (g : Int → Int → Int) : PyData → PyData → FO
  | .int a, .int b, Q => C a b ∧ Q (.dat (.int (g a b)))
  | _, _, _ => False
def fI0 (g : Int → Int → Int) : PyData → PyData → FO
  | .int a, .int b, Q => Q (.dat (.int (g a b)))
  | _, _, _ => False
def fNeg : PyData → FO
  | .int a, Q => Q (.dat (.int (-a)))
  | _, _ => False
section
variable {K : PySem.W.Frag}
theorem ps_I0 {g : Int → Int → Int} : PS2 K (rI0 fun i j => .int (g i j)) (fI0 g) := by
  intro F H x y d e Qo Q ex hx hy hf k
  cases d <;> cases e <;> first
    | exact hf.elim
    | skip
  obtain rfl := hx.int
  obtain rfl := hy.int
  exact ⟨_, _, rfl, rfl, k _ _ _ (.dat (.int _)) hf⟩
theorem ps_neg : PS1 K (rU fun i => .int (-i)) fNeg := by
  intro F H x d Qo Q ex hx hf k
  cases d <;> first
    | exact hf.elim
    | skip
  obtain rfl := hx.int
  exact ⟨_, rfl, k _ _ _ (.dat (.int _)) hf⟩
end
def fSub : PyData → PyData → FO := fI0 fun a b => a - b
def fFdiv : PyData → PyData → FO := fI2 CDivW fun a b => a / b
def fMod : PyData → PyData → FO := fI2 (fun _ b => 0 < b) fun a b => a % b
def fPow : PyData → PyData → FO := fI2 CPow fun a b => a ^ b.toNat
/-- products: one factor below 2^64, or both together below a million bits; a tuple so many times -/
def CMulA (i j : Int) : Prop := CMul i j ∨ CMulW i j
def fMul : PyData → PyData → FO
  | .int a, .int b, Q => CMulA a b ∧ Q (.dat (.int (a * b)))
  | .tuple xs, .int k, Q => xs ≠ [] ∧ 2 ≤ k ∧ k ≤ 1000 ∧ xs.length ≤ 1000 ∧ Q (.dat (.tuple (List.replicate k.toNat xs).flatten))
  | .str a, .int k, Q => 2 ≤ k ∧ k ≤ 1000 ∧ 1 ≤ a.cps.size ∧ a.cps.size ≤ 1000 ∧ Q (.dat (.str (repS a k.toNat)))
  | _, _, _ => False
def rMul3 (K : PySem.W.Frag) : R2 := orR (rI CMul fun i j => .int (i * j)) (orR (rI CMulW fun i j => .int (i * j)) (orR (rRepT K) rRepS))
theorem dps_rep {K : PySem.W.Frag} {F : Hp} {xs : List V} {ds : List PyData} (h : DqAll K F xs ds) : ∀ n, DqAll K F (List.replicate n xs).flatten (List.replicate n ds).flatten
  | 0 => .nil
  | n + 1 => by
    rw [List.replicate_succ, List.replicate_succ, List.flatten_cons, List.flatten_cons]
    exact dps_app h (dps_rep h n)
section
variable {K : PySem.W.Frag}
theorem ps_mul : PS2 K (rMul3 K) fMul := by
  intro F H x y d e Qo Q ex hx hy hf k
  cases d <;> cases e <;> first
    | exact hf.elim
    | skip
  · obtain rfl := hx.int
    obtain rfl := hy.int
    rcases hf.1 with h | h
    · exact .inl ⟨_, _, rfl, rfl, h, k _ _ _ (.dat (.int _)) hf.2⟩
    · exact .inr (.inl ⟨_, _, rfl, rfl, h, k _ _ _ (.dat (.int _)) hf.2⟩)
  · obtain rfl := hx.str
    obtain rfl := hy.int
    obtain ⟨h1, h2, h3, h4, q⟩ := hf
    exact .inr (.inr (.inr ⟨_, _, rfl, rfl, h1, h2, h3, h4, k _ _ _ (.dat (.str _)) q⟩))
  · obtain rfl := hy.int
    obtain ⟨a, xs, rfl, h1, h2⟩ := hx.tuple ex
    obtain ⟨hn, h3, h4, h5, q⟩ := hf
    refine .inr (.inr (.inl ⟨a, _, xs, rfl, rfl, h1, fun z => hn ?_, h3, h4, by rw [dps_len h2]; exact h5, fun p hp => k _ _ _ (.tup hp (dps_rep h2 _)) q⟩))
    subst z
    cases h2
    rfl
end
/-! ### ==, != -/
def eqd (d e : PyData) : Bool := PyData.eqv d e
/-- what may be compared: data of the known shape; any tuple with the empty one -/
def eqOk (d e : PyData) : Prop := (SeqAt.shaped d = true ∧ SeqAt.shaped e = true) ∨ ((∃ ds, d = .tuple ds) ∧ e = .tuple [])
def fEq : PyData → PyData → FO := fun d e Q => eqOk d e ∧ Q (.dat (.bool (eqd d e)))
theorem eqd_nil {ds : List PyData} : eqd (.tuple ds) (.tuple []) = decide (ds.length = 0) := by
  unfold eqd
  cases ds <;> simp [PyData.eqv, PyData.eqvAll]
def fNe : PyData → PyData → FO := fun d e Q => SeqAt.shaped d = true ∧ SeqAt.shaped e = true ∧ Q (.dat (.bool (!eqd d e)))
section
variable {K : PySem.W.Frag}
theorem ps_eq : PS2 K (orR (rEqD K) (rEqNil K)) fEq := fun F H x y d e Qo Q ex hx hy hf k => by
  rcases hf with ⟨⟨h1, h2⟩ | ⟨⟨ds, rfl⟩, rfl⟩, q⟩
  · exact .inl ⟨d, e, sh_dp h1 (hx.full ex), sh_dp h2 (hy.full ex), h1, h2, k _ _ _ (.dat (.bl _)) q⟩
  · obtain ⟨a, xs, rfl, ha, hxs⟩ := hx.tuple ex
    obtain ⟨b, ys, rfl, hb, hys⟩ := hy.tuple ex
    cases hys
    refine .inr ⟨a, b, xs, rfl, rfl, ha, hb, k _ _ _ (.dat (.bl _)) ?_⟩
    rw [eqd_nil, ← dps_len hxs] at q
    exact q
theorem ps_ne : PS2 K (rNeD K) fNe := fun F H x y d e Qo Q ex hx hy hf k => ⟨d, e, sh_dp hf.1 (hx.full ex), sh_dp hf.2.1 (hy.full ex), hf.1, hf.2.1, k _ _ _ (.dat (.bl _)) hf.2.2⟩
end
/-! ### <, <=, >, >= -/
def intsOf? : List PyData → Option (List Int)
  | [] => some []
  | .int i :: ds => match intsOf? ds with
    | some is => some (i :: is)
    | none => none
  | _ :: _ => none
theorem intsOf_some : ∀ {ds : List PyData} {is : List Int}, intsOf? ds = some is → ds = is.map PyData.int
  | [], is, h => by cases h; rfl
  | d :: ds, is, h => by
    cases d with
    | int i =>
      have h' : (match intsOf? ds with | some is => some (i :: is) | none => none) = some is := h
      cases q : intsOf? ds with
      | none => rw [q] at h'; cases h'
      | some js =>
        rw [q] at h'
        cases h'
        rw [intsOf_some q]; rfl
    | none => cases h
    | bool _ => cases h
    | str _ => cases h
    | list _ => cases h
    | tuple _ => cases h
    | dict _ => cases h
def leTup (ns ms : List Int) : Bool := Ob.lexAt (fun j => decide (ns.getD j 0 = ms.getD j 0)) (fun j => decide (ns.getD j 0 ≤ ms.getD j 0)) (decide (ns.length ≤ ms.length)) 0 (min ns.length ms.length)
def fCmp (f : Int → Int → Bool) (g : Str → Str → Bool) : PyData → PyData → FO
  | .int a, .int b, Q => Q (.dat (.bool (f a b)))
  | .str a, .str b, Q => Q (.dat (.bool (g a b)))
  | _, _, _ => False
def fLt : PyData → PyData → FO := fCmp (fun a b => decide (a < b)) fun a b => decide (a.cps.toList < b.cps.toList)
def fGt : PyData → PyData → FO := fCmp (fun a b => decide (b < a)) fun a b => decide (b.cps.toList < a.cps.toList)
def fGe : PyData → PyData → FO := fCmp (fun a b => decide (b ≤ a)) fun a b => !decide (a.cps.toList < b.cps.toList)
def fLe : PyData → PyData → FO
  | .tuple ds, .tuple es, Q => match intsOf? ds, intsOf? es with
    | some ns, some ms => Q (.dat (.bool (leTup ns ms)))
    | _, _ => False
  | d, e, Q => fCmp (fun a b => decide (a ≤ b)) (fun a b => !decide (b.cps.toList < a.cps.toList)) d e Q
def rSS (g : Str → Str → Bool) : R2 := fun x y H Q => ∃ i j, x = .str i ∧ y = .str j ∧ Q (.bl (g i j)) H
section
variable {K : PySem.W.Frag}
theorem ps_cmp {f : Int → Int → Bool} {g : Str → Str → Bool} : PS2 K (orR (rI0 fun i j => .bl (f i j)) (rSS g)) (fCmp f g) := by
  intro F H x y d e Qo Q ex hx hy hf k
  cases d <;> cases e <;> first
    | exact hf.elim
    | skip
  · obtain rfl := hx.int
    obtain rfl := hy.int
    exact .inl ⟨_, _, rfl, rfl, k _ _ _ (.dat (.bl _)) hf⟩
  · obtain rfl := hx.str
    obtain rfl := hy.str
    exact .inr ⟨_, _, rfl, rfl, k _ _ _ (.dat (.bl _)) hf⟩
theorem ps_le : PS2 K (orR (rLeT K) (orR (rI0 fun i j => .bl (decide (i ≤ j))) (rSS fun a b => !decide (b.cps.toList < a.cps.toList)))) fLe := by
  intro F H x y d e Qo Q ex hx hy hf k
  by_cases ht : ∃ ds es, d = .tuple ds ∧ e = .tuple es
  · obtain ⟨ds, es, rfl, rfl⟩ := ht
    have hf' : (match intsOf? ds, intsOf? es with
      | some ns, some ms => Qo (.dat (.bool (leTup ns ms)))
      | _, _ => False) := hf
    split at hf'
    · rename_i ns ms e1 e2
      obtain rfl := intsOf_some e1
      obtain rfl := intsOf_some e2
      obtain ⟨a, xs, rfl, h1, h2⟩ := hx.tuple ex
      obtain ⟨b, ys, rfl, h3, h4⟩ := hy.tuple ex
      obtain rfl := dps_ints_of h2
      obtain rfl := dps_ints_of h4
      exact .inl ⟨a, b, ns, ms, rfl, rfl, h1, h3, k _ _ _ (.dat (.bl _)) hf'⟩
    · exact hf'.elim
  · refine .inr (ps_cmp F H x y d e Qo Q ex hx hy ?_ k)
    unfold fLe at hf
    split at hf
    · exact (ht ⟨_, _, rfl, rfl⟩).elim
    · exact hf
end
/-! ### in, not in -/
def inB (d e : PyData) : Option Bool := match e with
  | .list ds => if SeqAt.shaped (.list ds) then some (ds.any fun z => PyData.eqv z d) else none
  | .tuple ds => if SeqAt.shaped (.tuple ds) then some (ds.any fun z => PyData.eqv z d) else none
  | .str z => match d with
    | .str ⟨cs⟩ => match cs.toList with
      | [c] => some (decide (c ∈ z.cps.toList))
      | _ => none
    | _ => none
  | _ => none
def fIn : PyData → PyData → FO := fun d e Q => match inB d e with
  | some b => Q (.dat (.bool b))
  | none => False
def fNotIn : PyData → PyData → FO := fun d e Q => match inB d e with
  | some b => Q (.dat (.bool (!b)))
  | none => False
def rIn3 (K : PySem.W.Frag) : R2 := orR (rInA K false) (orR (rInTA K false) fun x y H Q => ∃ (c : Nat) (z : Str), x = .str ⟨#[c]⟩ ∧ y = .str z ∧ Q (.bl (decide (c ∈ z.cps.toList))) H)
theorem inB_cases {d e : PyData} {b : Bool} (h : inB d e = some b) :
    (∃ ds, e = .list ds ∧ SeqAt.shaped e = true ∧ b = ds.any fun z => PyData.eqv z d) ∨ (∃ ds, e = .tuple ds ∧ SeqAt.shaped e = true ∧ b = ds.any fun z => PyData.eqv z d) ∨
    ∃ c z, d = .str ⟨#[c]⟩ ∧ e = .str z ∧ b = decide (c ∈ z.cps.toList) := by
  unfold inB at h
  split at h
  · rename_i ds
    split at h
    · rename_i q
      exact .inl ⟨ds, rfl, q, (Option.some.inj h).symm⟩
    · cases h
  · rename_i ds
    split at h
    · rename_i q
      exact .inr (.inl ⟨ds, rfl, q, (Option.some.inj h).symm⟩)
    · cases h
  · rename_i z
    split at h
    · rename_i cs
      split at h
      · rename_i c q
        refine .inr (.inr ⟨c, z, ?_, rfl, (Option.some.inj h).symm⟩)
        have e1 : cs = #[c] := by
          apply Array.ext'
          rw [q]
        rw [e1]
      · cases h
    · cases h
  · cases h
section
variable {K : PySem.W.Frag}
theorem ps_in : PS2 K (rIn3 K) fIn := by
  intro F H x y d e Qo Q ex hx hy hf k
  unfold fIn at hf
  split at hf
  · rename_i b q
    have fin := k (.bl b) H _ (.dat (.bl b)) hf
    rcases inB_cases q with ⟨ds, rfl, s2, rfl⟩ | ⟨ds, rfl, s2, rfl⟩ | ⟨c, z, rfl, rfl, rfl⟩
    · exact .inl ⟨d, ds, hx.full ex, hy.full ex, s2, fin⟩
    · exact .inr (.inl ⟨d, ds, hx.full ex, hy.full ex, s2, fin⟩)
    · exact .inr (.inr ⟨c, z, hx.str, hy.str, fin⟩)
  · exact hf.elim
end
/-! ### is None, is True -/
def isNone : PyData → Bool
  | .none => true
  | _ => false
theorem VAt.non_iff {K : PySem.W.Frag} {F H : Hp} {x : V} {d : PyData} (h : VAt K F H x d) : decide (x = .non) = isNone d := by
  cases h with
  | dq h => cases h <;> rfl
  | lst h _ => rfl
  | dct0 h => rfl
  | nd h _ => rfl
def fIsN : PyData → PyData → FO
  | d, .none, Q => Q (.dat (.bool (isNone d)))
  | _, _, _ => False
def fNotN : PyData → PyData → FO
  | d, .none, Q => Q (.dat (.bool (!isNone d)))
  | _, _, _ => False
def fIsB : PyData → PyData → FO
  | .bool a, .bool b, Q => Q (.dat (.bool (decide (a = b))))
  | _, _, _ => False
def fNotB : PyData → PyData → FO
  | .bool a, .bool b, Q => Q (.dat (.bool (!decide (a = b))))
  | _, _, _ => False
section
variable {K : PySem.W.Frag}
theorem ps_isN : PS2 K (fun x y H Q => y = .non ∧ Q (.bl (decide (x = .non))) H) fIsN := by
  intro F H x y d e Qo Q ex hx hy hf k
  cases e <;> first
    | exact hf.elim
    | skip
  refine ⟨hy.none, ?_⟩
  rw [hx.non_iff]
  exact k _ _ _ (.dat (.bl _)) hf
theorem ps_isB : PS2 K rIsB fIsB := by
  intro F H x y d e Qo Q ex hx hy hf k
  cases d <;> cases e <;> first
    | exact hf.elim
    | skip
  exact ⟨_, _, hx.bool, hy.bool, k _ _ _ (.dat (.bl _)) hf⟩
theorem ps_notB : PS2 K rNotB fNotB := by
  intro F H x y d e Qo Q ex hx hy hf k
  cases d <;> cases e <;> first
    | exact hf.elim
    | skip
  exact ⟨_, _, hx.bool, hy.bool, k _ _ _ (.dat (.bl _)) hf⟩
end
/-! ### items -/
def fIx : PyData → PyData → FO
  | .list ds, .int i, Q => match atI ds i with
    | some d => Q (.dat d)
    | none => False
  | .tuple ds, .int i, Q => match atI ds i with
    | some d => Q (.dat d)
    | none => False
  | .str z, .int i, Q => z.length ≤ 100000 ∧ match atI z.cps.toList i with
    | some c => Q (.dat (.str ⟨#[c]⟩))
    | none => False
  | _, _, _ => False
section
variable {K : PySem.W.Frag}
theorem ps_ix : PS2 K (rIx K) fIx := by
  intro F H x y d e Qo Q ex hx hy hf k
  cases d <;> cases e <;> first
    | exact hf.elim
    | skip
  · rename_i z i
    obtain rfl := hy.int
    obtain rfl := hx.str
    obtain ⟨hz, hf⟩ := hf
    split at hf
    · rename_i c q
      exact .inr (.inr ⟨z, i, c, rfl, rfl, sz_of hz, q, k _ _ _ (.dat (.str _)) hf⟩)
    · exact hf.elim
  · rename_i ds i
    obtain rfl := hy.int
    obtain ⟨a, xs, rfl, h1, h2⟩ := hx.list ex
    have hf' : (match atI ds i with | some d => Qo (.dat d) | none => False) := hf
    split at hf'
    · rename_i d q
      obtain ⟨v, hv, dv⟩ := atI_data h2 q
      exact .inl ⟨a, xs, i, v, rfl, rfl, h1, hv, k _ _ _ (.dat dv) hf'⟩
    · exact hf'.elim
  · rename_i ds i
    obtain rfl := hy.int
    obtain ⟨a, xs, rfl, h1, h2⟩ := hx.tuple ex
    have hf' : (match atI ds i with | some d => Qo (.dat d) | none => False) := hf
    split at hf'
    · rename_i d q
      obtain ⟨v, hv, dv⟩ := atI_data h2 q
      exact .inr (.inl ⟨a, xs, i, v, rfl, rfl, h1, hv, k _ _ _ (.dat dv) hf'⟩)
    · exact hf'.elim
end
/-! ### built-ins -/
def fLen : PyData → FO
  | .list ds, Q => Q (.dat (.int (ds.length : Int)))
  | .tuple ds, Q => Q (.dat (.int (ds.length : Int)))
  | .str z, Q => z.length ≤ 100000 ∧ Q (.dat (.int (z.length : Int)))
  | _, _ => False
def rLen2 (K : PySem.W.Frag) : List V → Hp → VK → Prop := orC (rLenS K) fun xs H Q => ∃ z, xs = [.str z] ∧ z.length ≤ sizeLine ∧ Q (.int z.length) H
section
variable {K : PySem.W.Frag}
theorem ps_len : PSim K (rLen2 K) (fl1 fLen) := by
  intro F H vs ds Qo Q ex hv hf k
  cases hv with
  | nil => exact hf.elim
  | cons h1 h2 =>
    cases h2 with
    | cons _ _ => exact hf.elim
    | nil =>
      rename_i v d
      cases d <;> first
        | exact hf.elim
        | skip
      · obtain rfl := h1.str
        exact .inr ⟨_, rfl, sz_of hf.1, k _ _ _ (.dat (.int _)) hf.2⟩
      · obtain ⟨a, xs, rfl, h3, h4⟩ := h1.list ex
        refine .inl ⟨a, xs, rfl, .inl h3, ?_⟩
        rw [dps_len h4]
        exact k _ _ _ (.dat (.int _)) hf
      · obtain ⟨a, xs, rfl, h3, h4⟩ := h1.tuple ex
        refine .inl ⟨a, xs, rfl, .inr h3, ?_⟩
        rw [dps_len h4]
        exact k _ _ _ (.dat (.int _)) hf
def fIntI : PyData → FO
  | .int i, Q => Q (.dat (.int i))
  | .bool b, Q => Q (.dat (.int (if b then 1 else 0)))
  | _, _ => False
def fMin2 : PyData → PyData → FO
  | .int i, .int j, Q => Q (.dat (.int (if j < i then j else i)))
  | _, _, _ => False
theorem ps_min2 : PSim K rMin (fl2 fMin2) := by
  intro F H vs ds Qo Q ex hv hf k
  cases hv with
  | nil => exact hf.elim
  | cons h1 h2 =>
    cases h2 with
    | nil => exact hf.elim
    | cons h2 h3 =>
      cases h3 with
      | cons _ _ => exact hf.elim
      | nil =>
        rename_i v d w e
        cases d <;> cases e <;> first
          | exact hf.elim
          | skip
        obtain rfl := h1.int
        obtain rfl := h2.int
        exact ⟨_, _, rfl, k _ _ _ (.dat (.int _)) hf⟩
def boolsOf? : List PyData → Option (List Bool)
  | [] => some []
  | .bool i :: ds => match boolsOf? ds with
    | some is => some (i :: is)
    | none => none
  | _ :: _ => none
theorem boolsOf_dq {F : Hp} : ∀ {ds : List PyData} {bs : List Bool} {vs : List V}, boolsOf? ds = some bs → DqAll K F vs ds → vs = bs.map V.bl
  | [], bs, vs, h, hv => by cases h; cases hv; rfl
  | d :: ds, bs, vs, h, hv => by
    cases d with
    | bool i =>
      have h' : (match boolsOf? ds with | some is => some (i :: is) | none => none) = some bs := h
      cases q : boolsOf? ds with
      | none => rw [q] at h'; cases h'
      | some js =>
        rw [q] at h'
        cases h'
        cases hv with
        | cons h1 h2 =>
          cases h1
          rw [boolsOf_dq q h2]; rfl
    | none => cases h
    | int _ => cases h
    | str _ => cases h
    | list _ => cases h
    | tuple _ => cases h
    | dict _ => cases h
def fAll : PyData → FO
  | .list ds, Q => match boolsOf? ds with
    | some bs => Q (.dat (.bool (bs.all id)))
    | none => False
  | _, _ => False
def fAny : PyData → FO
  | .list ds, Q => match boolsOf? ds with
    | some bs => Q (.dat (.bool (bs.any id)))
    | none => False
  | _, _ => False
theorem ps_all : PSim K (L2.rAll K) (fl1 fAll) := by
  intro F H vs ds Qo Q ex hv hf k
  cases hv with
  | nil => exact hf.elim
  | cons h1 h2 =>
    cases h2 with
    | cons _ _ => exact hf.elim
    | nil =>
      rename_i v d
      cases d <;> first
        | exact hf.elim
        | skip
      rename_i ds
      have hf' : (match boolsOf? ds with | some bs => Qo (.dat (.bool (bs.all id))) | none => False) := hf
      split at hf'
      · rename_i bs e
        obtain ⟨a, xs, rfl, h3, h4⟩ := h1.list ex
        obtain rfl := boolsOf_dq e h4
        exact ⟨a, bs, rfl, h3, k _ _ _ (.dat (.bl _)) hf'⟩
      · exact hf'.elim
theorem ps_any : PSim K (L2.rAny K) (fl1 fAny) := by
  intro F H vs ds Qo Q ex hv hf k
  cases hv with
  | nil => exact hf.elim
  | cons h1 h2 =>
    cases h2 with
    | cons _ _ => exact hf.elim
    | nil =>
      rename_i v d
      cases d <;> first
        | exact hf.elim
        | skip
      rename_i ds
      have hf' : (match boolsOf? ds with | some bs => Qo (.dat (.bool (bs.any id))) | none => False) := hf
      split at hf'
      · rename_i bs e
        obtain ⟨a, xs, rfl, h3, h4⟩ := h1.list ex
        obtain rfl := boolsOf_dq e h4
        exact ⟨a, bs, rfl, h3, k _ _ _ (.dat (.bl _)) hf'⟩
      · exact hf'.elim
def fSum : PyData → FO
  | .list ds, Q => match intsOf? ds with
    | some ns => Q (.dat (.int ns.sum))
    | none => False
  | _, _ => False
/-- tuple(x), x a list or a tuple -/
def fTuple : PyData → FO
  | .list ds, Q => Q (.dat (.tuple ds))
  | .tuple ds, Q => Q (.dat (.tuple ds))
  | _, _ => False
theorem ps_tuple : PS1 K (kTup K) fTuple := by
  intro F H x d Qo Q ex hx hf k
  cases d <;> first
    | exact hf.elim
    | skip
  · obtain ⟨a, xs, rfl, h1, h2⟩ := hx.list ex
    exact .inl ⟨a, xs, rfl, h1, fun p hp => k _ _ _ (.tup hp h2) hf⟩
  · cases hx with
    | dq hx =>
      obtain ⟨a, xs, rfl, h1, h2⟩ := dp_tup hx
      exact .inr ⟨a, xs, rfl, ex_t ex h1, k _ _ _ (.dat hx) hf⟩
/-- list(x) -/
def fList : PyData → FO
  | .list ds, Q => Q (.lst ds)
  | .tuple ds, Q => Q (.lst ds)
  | .dict (p :: r), Q => Q (.lst ((p :: r).map (·.1)))
  | _, _ => False
theorem cr_list {X : Cx} (hc : X.calm = true) : CallR X (.type "list") (orC (rListS X.K) (rListN X.K)) := callOr call_list_of (call_listN hc)
theorem ps_list : PSim K (orC (rListS K) (rListN K)) (fl1 fList) := by
  intro F H vs ds Qo Q ex hv hf k
  cases hv with
  | nil => exact hf.elim
  | cons h1 h2 =>
    cases h2 with
    | cons _ _ => exact hf.elim
    | nil =>
      rename_i v d
      cases d <;> first
        | exact hf.elim
        | skip
      · obtain ⟨a, xs, rfl, h3, h4⟩ := h1.list ex
        exact .inl ⟨a, xs, rfl, .inl h3, fun l hl => k _ _ _ (.lst hl h4) hf⟩
      · obtain ⟨a, xs, rfl, h3, h4⟩ := h1.tuple ex
        exact .inl ⟨a, xs, rfl, .inr h3, fun l hl => k _ _ _ (.lst hl h4) hf⟩
      · rename_i kvs
        cases kvs with
        | nil => exact hf.elim
        | cons p r =>
          obtain ⟨a, ob, xs, rfl, h3, h4⟩ := h1.dict ex
          exact .inr ⟨a, ob, xs, rfl, h3, fun l hl => k _ _ _ (.lst hl h4) hf⟩
end
end Mk

/-! part MkA -/
/-! Mk, part 10: displays, chains, slices, isinstance, raise, what is caught, dicts. -/
namespace Mk
open PySem PySem.Spec PyProof.Rows L2 Evl Lk LamX
section
variable {K : PySem.W.Frag} {T : List (Addr × Str)} {W : WX}
/-! ### displays -/
def mDis (f : List PyData → O) (m : MA) : ME := fun s Q X => m s (fun rs s1 => match dats rs with
  | some ds => ds.length ≤ 100000 ∧ Q (.val (f ds)) s1
  | none => False) X
theorem out_res {σ0 σ : L2.St} {H H1 H' : Hp} {s s1 : S} {R R1 : Ad} {fps fps1 : Nat → Ad} {Qm : Rs → S → Prop} {Q : VK} {v : V} {o : O} (g : Go K T σ0 H s R fps σ H1 s1 (alt R R1) fps1) (r : Res K (hid (Wf (alt R R1) fps1) H1) H1 v H' o)
    (hQ : ∀ v H' s' r fp fps', Go K T σ0 H s R fps σ H' s' (alt R fp) fps' → RAt K (hid (Wf (alt R fp) fps') H') H' s'.n σ v r fp → (∀ a, fp a → ¬ R a) → Qm r s' → Q v H') (q : Qm (.val o) s1) : Q v H' := by
  obtain ⟨fp, g2, ho, hn⟩ := res_go g.iv r
  have nA : ∀ a, fp a → ¬ R a := fun a z y => by
    have e := g.iv.liv a (.inl y)
    rw [hn a z] at e; exact e
  have g3 := (g.trans g2).drop (R2 := alt R fp) (fun _ z => .inl z) (fun a z => z.imp (fun y => .inl y) id)
  exact hQ v H' s1 (.val o) fp fps1 g3 (.val (ho.keep (gr_sub fun a z => z.imp (fun y => y.imp (fun w => .inl w) id) id) (fun _ _ => rfl) (Nat.le_refl _))) nA q
theorem sim_tup {ta : TA} {m : MA} (h : SimA K T W ta m) : SimE K T W (tTup ta) (mDis (fun ds => .dat (.tuple ds)) m) := by
  intro σ0 σ H s R fps I Qm Xm hm hx Q hQ
  refine h σ0 σ H s R fps I _ Xm hm hx _ fun vs H1 s1 rs l fps1 g hrs ap nR q => ?_
  split at q
  · rename_i ds e
    have hd := dats_at hrs e
    exact ⟨sz_of (by rw [dps_len hd]; exact q.1), fun p hp => out_res g (.tup hp hd) hQ q.2⟩
  · exact q.elim
theorem sim_lst {ta : TA} {m : MA} (h : SimA K T W ta m) : SimE K T W (tLst ta) (mDis (fun ds => .lst ds) m) := by
  intro σ0 σ H s R fps I Qm Xm hm hx Q hQ
  refine h σ0 σ H s R fps I _ Xm hm hx _ fun vs H1 s1 rs l fps1 g hrs ap nR q => ?_
  split at q
  · rename_i ds e
    have hd := dats_at hrs e
    exact ⟨sz_of (by rw [dps_len hd]; exact q.1), fun p hp => out_res g (.lst hp hd) hQ q.2⟩
  · exact q.elim
def mDNew : ME := fun s Q _ => Q (.val (.dct [])) s
/-- *e in a display or a call -/
def seqOf : PyData → Option (List PyData)
  | .list ds => some ds
  | .tuple ds => some ds
  | _ => none
def mStar (m : ME) (r : MA) : MA := fun s Q X => mD m s (fun d s1 => match seqOf d with
  | some ds => r s1 (fun rs s2 => Q (ds.map (fun d => .val (.dat d)) ++ rs) s2) X
  | none => False) X
theorem rats_dats {F H : Hp} {n : Nat} {σ : L2.St} : ∀ {vs : List V} {ds : List PyData}, DqAll K F vs ds → RAts K F H n σ vs (ds.map fun d => .val (.dat d)) (ds.map fun _ => nol)
  | _, _, .nil => .nil
  | _, _, .cons h r => .cons (.val (.dat h fun _ z => z)) (rats_dats r)
theorem rats_app {F H : Hp} {n : Nat} {σ : L2.St} {vs ws : List V} {rs qs : List Rs} {l k : List Ad} (a : RAts K F H n σ vs rs l) (b : RAts K F H n σ ws qs k) : RAts K F H n σ (vs ++ ws) (rs ++ qs) (l ++ k) := by
  induction a with
  | nil => exact b
  | cons h _ ih => exact .cons h ih
theorem anyF_nols {α : Type} {ds : List α} {l : List Ad} : AnyF ((ds.map fun _ => nol) ++ l) = AnyF l := by
  induction ds with
  | nil => rfl
  | cons d ds ih =>
    rw [List.map_cons, List.cons_append, anyF_cons, ih]
    exact funext fun a => propext ⟨fun z => z.elim (fun y => y.elim) id, .inr⟩
theorem apart_nols {α : Type} {ds : List α} {l : List Ad} (h : Apart l) : Apart ((ds.map fun _ => nol) ++ l) := by
  induction ds with
  | nil => exact h
  | cons d ds ih => exact ⟨fun a z => z.elim, ih⟩
theorem sim_star {K' : PySem.W.Frag} {te : TE} {tr : TA} {m : ME} {r : MA} (h : SimE K T W te m) (hr : SimA K T W tr r) (hK : K' = K) : SimA K T W (StX.tStar K' te tr) (mStar m r) := by
  subst hK
  intro σ0 σ H s R fps I Qm Xm hm hx Q hQ
  refine sim_d h σ0 σ H s R fps I _ Xm hm hx _ fun v H1 s1 d fps1 g hd q => ?_
  have fin : ∀ (a : Addr) (xs : List V) (ds : List PyData), DqAll K' (hid (Wf R fps1) H1) xs ds → r s1 (fun rs s2 => Qm (ds.map (fun d => .val (.dat d)) ++ rs) s2) Xm → tr σ H1 fun ys H2 => Q (xs ++ ys) H2 := fun a xs ds hds q =>
    hr σ0 σ H1 s1 R fps1 g.iv _ Xm q (hx.go g) _ fun vs H2 s2 rs l fps2 g2 hrs ap nR z => by
      have g3 := g.trans g2
      have e : AnyF l = AnyF ((ds.map fun _ => nol) ++ l) := anyF_nols.symm
      have g2g := g2.gr
      rw [e] at g3 hrs nR g2g
      exact hQ (xs ++ vs) H2 s2 _ ((ds.map fun _ => nol) ++ l) fps2 g3 (rats_app (rats_dats (dps_ex g2g _ _ hds)) hrs) (apart_nols ap) nR z
  cases d with
  | list ds =>
    obtain ⟨a, xs, rfl, h1, h2⟩ := dp_lst hd
    exact ⟨a, xs, rfl, .inr (ex_l hid_ex h1), fin a xs ds h2 q⟩
  | tuple ds =>
    obtain ⟨a, xs, rfl, h1, h2⟩ := dp_tup hd
    exact ⟨a, xs, rfl, .inl (ex_t hid_ex h1), fin a xs ds h2 q⟩
  | none => exact q.elim
  | bool _ => exact q.elim
  | int _ => exact q.elim
  | str _ => exact q.elim
  | dict _ => exact q.elim
/-! ### a < b < c -/
def bOf (o : O) (Q : Bool → Prop) : Prop := match o with
  | .dat (.bool b) => Q b
  | _ => False
def mChain (f f' : PyData → PyData → FO) (a b c : MD) : ME := fun s Q X => a s (fun d s1 => b s1 (fun e s2 => f d e fun o => bOf o fun k => if k = true then c s2 (fun z s3 => f' e z fun o2 => bOf o2 fun k2 => Q (.val (.dat (.bool k2))) s3) X else Q (.val (.dat (.bool false))) s2) X) X
theorem res_b {F H H' : Hp} {v : V} {o : O} {Q : Bool → Prop} (r : Res K F H v H' o) (h : bOf o Q) : ∃ b, v = .bl b ∧ H' = H ∧ Q b := by
  cases r with
  | dat hd =>
    cases hd with
    | bl b => exact ⟨b, rfl, rfl, h⟩
    | _ => exact h.elim
  | tup _ _ => exact h.elim
  | lst _ _ => exact h.elim
  | dct _ _ => exact h.elim
  | dn _ _ => exact h.elim
theorem sim_chain {r r' : R2} {f f' : PyData → PyData → FO} {ta tb tc : TE} {a b c : MD} (hr : PS2 K r f) (hr' : PS2 K r' f') (ha : SimD K T W ta a) (hb : SimD K T W tb b) (hc : SimD K T W tc c) : SimE K T W (tChain r r' ta tb tc) (mChain f f' a b c) := by
  intro σ0 σ H s R fps I Qm Xm hm hx Q hQ
  refine ha σ0 σ H s R fps I _ Xm hm hx _ fun v H1 s1 d fps1 g1 hd q => ?_
  refine hb σ0 σ H1 s1 R fps1 g1.iv _ Xm q (hx.go g1) _ fun w H2 s2 e fps2 g2 he q => ?_
  refine hr _ H2 v w d e _ _ hid_ex (.dq (dp_ex g2.gr _ _ hd)) (.dq he) q fun x H3 o r3 q3 => ?_
  obtain ⟨k, rfl, rfl, q4⟩ := res_b r3 q3
  refine ⟨k, rfl, ?_⟩
  cases k with
  | true =>
    rw [if_pos rfl] at q4
    show tc σ _ _
    refine hc σ0 σ _ s2 R fps2 g2.iv _ Xm q4 (hx.go (g1.trans g2)) _ fun y H4 s4 z fps4 g4 hz q5 => ?_
    refine hr' _ H4 w y e z _ _ hid_ex (.dq (dp_ex g4.gr _ _ he)) (.dq hz) q5 fun x H5 o r5 q6 => ?_
    obtain ⟨k2, rfl, rfl, q7⟩ := res_b r5 q6
    exact out_e ((g1.trans g2).trans g4) (fun _ => .bl k2) hQ q7
  | false =>
    rw [if_neg (by decide)] at q4
    exact out_e (g1.trans g2) (fun _ => .bl false) hQ q4
/-! ### slices -/
abbrev MO : Type := S → (Option Int → S → Prop) → XM → Prop
def mONone : MO := fun s Q _ => Q none s
def mOSome (m : MD) : MO := fun s Q X => m s (fun d s1 => match d with
  | .int i => Q (some i) s1
  | _ => False) X
def cutD (ds : List PyData) (lo hi : Option Int) : List PyData := (ds.drop (HT.sIx ds.length 0 lo)).take (HT.sIx ds.length ds.length hi - HT.sIx ds.length 0 lo)
def fSl (d : PyData) (lo hi : Option Int) : FO := fun Q => match d with
  | .list ds => Q (.lst (cutD ds lo hi))
  | .tuple ds => Q (.dat (.tuple (cutD ds lo hi)))
  | .str z => z.length ≤ 100000 ∧ Q (.dat (.str (cutS z lo hi)))
  | _ => False
def rSl3 (K : PySem.W.Frag) : V → Option Int → Option Int → Hp → VK → Prop := orS (rSlL K) (orS (rSlA K) rSlS)
theorem dps_drop {F : Hp} : ∀ {vs : List V} {ds : List PyData} (n : Nat), DqAll K F vs ds → DqAll K F (vs.drop n) (ds.drop n)
  | _, _, 0, h => h
  | _, _, _ + 1, .nil => .nil
  | _, _, n + 1, .cons _ r => dps_drop n r
theorem dps_take {F : Hp} : ∀ {vs : List V} {ds : List PyData} (n : Nat), DqAll K F vs ds → DqAll K F (vs.take n) (ds.take n)
  | _, _, 0, _ => .nil
  | _, _, _ + 1, .nil => .nil
  | _, _, n + 1, .cons h r => .cons h (dps_take n r)
theorem dps_cut {F : Hp} {vs : List V} {ds : List PyData} {lo hi : Option Int} (h : DqAll K F vs ds) : DqAll K F (cutV vs lo hi) (cutD ds lo hi) := by
  unfold cutV cutD
  rw [dps_len h]
  exact dps_take _ (dps_drop _ h)
theorem cut_whole {ds : List PyData} {lo hi : Option Int} (h : HT.sIx ds.length 0 lo = 0 ∧ HT.sIx ds.length ds.length hi = ds.length) : cutD ds lo hi = ds := by
  unfold cutD
  rw [h.1, h.2]
  simp
theorem ps_sl {F H : Hp} {x : V} {d : PyData} {lo hi : Option Int} {Qo : O → Prop} {Q : VK} (ex : Ex F H) (hx : VAt K F H x d) (hf : fSl d lo hi Qo) (k : ∀ v H' o, Res K F H v H' o → Qo o → Q v H') : rSl3 K x lo hi H Q := by
  cases d with
  | list ds =>
    obtain ⟨a, xs, rfl, h1, h2⟩ := hx.list ex
    exact .inl ⟨a, xs, rfl, h1, fun p hp => k _ _ _ (.lst hp (dps_cut h2)) hf⟩
  | tuple ds =>
    cases hx with
    | dq hx =>
      obtain ⟨a, xs, rfl, h1, h2⟩ := dp_tup hx
      have e := dps_len h2
      refine .inr (.inl ⟨a, xs, rfl, ex_t ex h1, fun z => ?_, fun _ p hp => k _ _ _ (.tup hp (dps_cut h2)) hf⟩)
      rw [e] at z
      have hf' : Qo (.dat (.tuple (cutD ds lo hi))) := hf
      rw [cut_whole z] at hf'
      exact k _ _ _ (.dat hx) hf'
  | str z =>
    obtain rfl := hx.str
    exact .inr (.inr ⟨z, rfl, sz_of hf.1, k _ _ _ (.dat (.str _)) hf.2⟩)
  | none => exact hf.elim
  | bool _ => exact hf.elim
  | int _ => exact hf.elim
  | dict _ => exact hf.elim
end
section
variable (K : PySem.W.Frag) (T : List (Addr × Str)) (W : WX)
def SimO (to : TO) (m : MO) : Prop := ∀ σ0 σ H s R fps, Iv K T σ0 σ H s R fps → ∀ Qm Xm, m s Qm Xm → XOk K T W σ0 σ H s R fps Xm → ∀ Q : Option Int → Hp → Prop,
  (∀ o H' s' fps', Go K T σ0 H s R fps σ H' s' R fps' → Qm o s' → Q o H') → to σ H Q
end
section
variable {K : PySem.W.Frag} {T : List (Addr × Str)} {W : WX}
theorem sim_onone : SimO K T W tNoPart mONone := fun σ0 σ H s R fps I Qm Xm hm hx Q hQ => hQ none H s fps (Go.refl I) hm
theorem sim_osome {te : TE} {m : MD} (h : SimD K T W te m) : SimO K T W (tPart te) (mOSome m) := fun σ0 σ H s R fps I Qm Xm hm hx Q hQ =>
  h σ0 σ H s R fps I _ Xm hm hx _ fun v H1 s1 d fps1 g hd q => by
    split at q
    · rename_i i
      obtain rfl := dp_int hd
      exact ⟨i, rfl, hQ _ H1 s1 fps1 g q⟩
    · exact q.elim
def mSl (m : ME) (lo hi : MO) : ME := fun s Q X => m s (fun r s1 => lo s1 (fun l s2 => hi s2 (fun h s3 => match rd s3 r with
  | some d => fSl d l h fun o => Q (.val o) s3
  | none => False) X) X) X
theorem sim_sl {te : TE} {tl th : TO} {m : ME} {lo hi : MO} {K' : PySem.W.Frag} (h : SimE K T W te m) (hl : SimO K T W tl lo) (hh : SimO K T W th hi) (hK : K' = K) : SimE K T W (tSl (rSl3 K') te tl th) (mSl m lo hi) := by
  subst hK
  intro σ0 σ H s R fps I Qm Xm hm hx Q hQ
  refine h σ0 σ H s R fps I _ Xm hm hx _ fun v H1 s1 r fp fps1 g1 hr nR q => ?_
  refine hl σ0 σ H1 s1 _ fps1 g1.iv _ Xm q (hx.go g1) _ fun l H2 s2 fps2 g2 q => ?_
  refine hh σ0 σ H2 s2 _ fps2 g2.iv _ Xm q (hx.go (g1.trans g2)) _ fun u H3 s3 fps3 g3 q => ?_
  have g23 := g2.trans g3
  have hr3 := hr.keep g23.gr (fun a z => g23.kp a (.inr z)) g23.le
  split at q
  · rename_i d e
    exact ps_sl hid_ex (rd_at g3.iv hr3 e) q fun v H' o r z => out_res (g1.trans g23) r hQ z
  · exact q.elim
/-! ### isinstance -/
def mIsi (f : PyData → Bool) (m : ME) : ME := fun s Q X => m s (fun r s1 => match rd s1 r with
  | some d => Q (.val (.dat (.bool (f d)))) s1
  | none => False) X
theorem sim_isi {K' : PySem.W.Frag} {n : String} {f : PyData → Bool} {te : TE} {m : ME} (h : SimE K T W te m) (hf : ∀ d, kitB (tyN d) n = some (f d)) (hK : K' = K) : SimE K T W (tCB (rIsiD K') (tCons te (tCons (tC (.ty n)) tNil))) (mIsi f m) := by
  subst hK
  intro σ0 σ H s R fps I Qm Xm hm hx Q hQ
  refine h σ0 σ H s R fps I _ Xm hm hx _ fun v H1 s1 r fp fps1 g1 hr nR q => ?_
  split at q
  · rename_i d e
    have hv := (rd_at g1.iv hr e).full hid_ex
    rcases dp_ty hv with t | ⟨e2, p, ob, xs, rfl, hp⟩
    · exact .inl ⟨v, .ty n, .type (tyN d), .type n, f d, rfl, .ty n, t, kit_ty (hf d), out_e (g1.drop (fun _ z => z) fun _ z => .inl z) (fun _ => .bl _) hQ q⟩
    · have hb := hf d
      rw [e2] at hb
      exact .inr ⟨p, ob, xs, .ty n, .type n, f d, rfl, hp, .ty n, kit_ty hb, out_e (g1.drop (fun _ z => z) fun _ z => .inl z) (fun _ => .bl _) hQ q⟩
  · exact q.elim
/-- isinstance(e, C), e what was caught or None -/
def mIsE (K : PySem.W.Frag) (C : Addr) (m : ME) : ME := fun s Q X => m s (fun r s1 => match r with
  | .val (.exc D) => ExcC K D.1 ∧ ∃ b, PySem.W.kitOne K (.ref D.1) (.ref C) = some b ∧ Q (.val (.dat (.bool b))) s1
  | .val (.dat .none) => ∃ b, PySem.W.kitOne K (.type "NoneType") (.ref C) = some b ∧ Q (.val (.dat (.bool b))) s1
  | _ => False) X
/-! ### raise -/
def mRaise (C : Addr) : MS := fun s k => k.er (C, []) s
theorem sim_raise {C : Addr} : SimS K T W (fun _ σ H => W (.ref C) none σ H) (mRaise C) := fun σ0 σ H s R fps I D k hm x => x.er (C, []) σ H s fps (Go.refl I) hm none xd_nil
/-! ### what is caught -/
def mCaught (K : PySem.W.Frag) (CS : Addr) (m : ME) : ME := fun s Q _ => m s (fun _ s1 => Q (.val (.dat .none)) s1) (fun x s1 => PySem.W.exmOne K (.ref x.1) (.ref CS) = some true ∧ Q (.val (.exc x)) s1)
/-! ### dicts of one's own -/
def keyOf : PyData → Option Key
  | .int i => some (.inl i)
  | .str s => some (.inr s)
  | _ => none
/-- the pair of a key, the dict with another value -/
def getK (kvs : List (Key × PyData)) (k : Key) : Option PyData := (kvs.find? fun kv => decide (kv.1 = k)).map (·.2)
/-- kvs with v at k -/
def putD (kvs : List (Key × PyData)) (k : Key) (v : PyData) : List (Key × PyData) :=
  if kvs.any (fun kv => decide (kv.1 = k)) then kvs.map (fun kv => if kv.1 = k then (kv.1, v) else kv) else kvs ++ [(k, v)]
def dctOf (s : S) : Rs → Option (List (Key × PyData))
  | .val (.dct kvs) => some kvs
  | .slot i => match s.env[i]? with
    | some (some (.dct kvs)) => some kvs
    | _ => none
  | _ => none
def mGet2 (m : ME) (mk mx : MD) : ME := fun s Q X => m s (fun r s1 => (∃ kvs, dctOf s1 r = some kvs) ∧ mk s1 (fun k s2 => mx s2 (fun z s3 => match dctOf s3 r, keyOf k with
  | some kvs, some k => Q (.val (.dat ((getK kvs k).getD z))) s3
  | _, _ => False) X) X) X
def isDct (s : S) (i : Nat) : Prop := match s.env[i]? with
  | some (some (.dct _)) => True
  | _ => False
def mDPut (i : Nat) (mk mv : MD) : MS := fun s k => mv s (fun d s1 => isDct s1 i ∧ mk s1 (fun y s2 => match s2.env[i]?, keyOf y with
  | some (some (.dct kvs)), some key => kvs.length < 100000 ∧ k.nx (putO s2 i (.dct (putD kvs key d)))
  | _, _ => False) k.er) k.er
end
end Mk

/-! part MkB -/
/-! Mk, part 11: the text's constructs, each with its reading and what it does. -/
namespace Mk
open PySem PySem.Spec PyProof.Rows L2 Evl Lk LamX
section
variable (X : Cx) (K : PySem.W.Frag) (T : List (Addr × Str)) (W : WX)
structure QE (e : Expr) (te : TE) (m : ME) : Prop where
  p : PE X e te
  s : SimE K T W te m
structure QT (e : Expr) (te : TT) (m : MT) : Prop where
  p : PT X e te
  s : SimT K T W te m
structure QW (e : Expr) (te : TT) (m : MT) : Prop where
  p : PW X e te
  s : SimT K T W te m
structure QA (es : List Expr) (ta : TA) (m : MA) : Prop where
  p : PA X es ta
  s : SimA K T W ta m
structure QK (ks : List Keyword) (ta : TA) (m : MA) : Prop where
  p : PK X ks ta
  s : SimA K T W ta m
structure QO (e : Option Expr) (to : TO) (m : MO) : Prop where
  p : PO X e to
  s : SimO K T W to m
structure QS (st : Stmt) (ts : TS) (m : MS) : Prop where
  p : PS X st ts
  s : SimS K T W ts m
structure QB (st : List Stmt) (ts : TS) (m : MS) : Prop where
  p : PSs X st ts
  s : SimS K T W ts m
structure QG (e : Expr) (tg : TG) (m : MG) : Prop where
  p : PG X e tg
  s : SimG K T tg m
  o : GMono tg
structure QGs (es : List Expr) (tg : TGs) (m : MGs) : Prop where
  p : PGs X es tg
  s : SimGs K T tg m
  o : GsMono tg
structure QI (tg iter : Expr) (wi : TI) (m : MI) : Prop where
  p : PI X tg iter wi
  s : SimI K T W wi m
end
section
variable {X : Cx} {K : PySem.W.Frag} {T : List (Addr × Str)} {W : WX} {a b c e : Expr} {es : List Expr} {ta tb tc te : TE} {ma mb mc me : ME} {pos : Pos} {tA tB' : TT} {mA mB' : MT} {rest : List Expr} {tr : TA} {mr : MA}
/-! ### values -/
theorem e_v (i : Nat) {x : Str} (hN : X.N[i]? = some x := by rfl) (hv : Vis X.env.scope x := by first | exact Or.inl rfl | exact Or.inr (Or.inl rfl) | exact Or.inr (Or.inr rfl)) (hd : (x == ("__debug__" : Str)) = false := by decide)
    (hcd : (x == ("__classdict__" : Str)) = false := by decide) : QE X K T W (.Name x pos) (tVar i) (mVar i) := ⟨pe_var hN hv hd hcd, sim_var⟩
theorem e_int {i : Int} {j} : QE X K T W (.Constant (.int i) j pos) (tC (.int i)) (mC (.int i)) := ⟨pe_int, sim_c fun _ => .int i⟩
theorem e_bl {b : Bool} {j} : QE X K T W (.Constant (.bool b) j pos) (tC (.bl b)) (mC (.bool b)) := ⟨pe_bl, sim_c fun _ => .bl b⟩
theorem e_non {j} : QE X K T W (.Constant .none j pos) (tC .non) (mC .none) := ⟨pe_non, sim_c fun _ => .non⟩
theorem e_str {x : Str} {j} : QE X K T W (.Constant (.str x) j pos) (tC (.str x)) (mC (.str x)) := ⟨pe_str, sim_c fun _ => .str x⟩
/-- a constant of the module -/
structure Cn (K : PySem.W.Frag) (mg : Str → Option Value) (x : Str) (v : V) (d : PyData) : Prop where
  g : ∃ u, mg x = some u ∧ RelV v u
  d : ∀ F, Dq K F v d
theorem pe_gc {x : Str} {v : V} (hg : Gl X x) (h : ∃ u, X.mg x = some u ∧ RelV v u) (hd : (x == ("__debug__" : Str)) = false := by decide) : PE X (.Name x pos) (tC v) := by
  obtain ⟨u, hm, r⟩ := h
  exact pe_glob hg hm r hd
theorem e_gl {x : Str} {v : V} {d : PyData} (hg : Gl X x) (h : Cn K X.mg x v d) (hd : (x == ("__debug__" : Str)) = false := by decide) : QE X K T W (.Name x pos) (tC v) (mC d) := ⟨pe_gc hg h.g hd, sim_c h.d⟩
/-! ### operations -/
theorem e_add (ha : QE X K T W a ta ma) (hb : QE X K T W b tb mb) (hK : X.K = K := by rfl) : QE X K T W (.BinOp a .Add b pos) (tOp (rAdd4 K) ta tb) (mOp fAdd ma mb) := by
  subst hK
  exact ⟨pe_op (opOr op_add (opOr op_add_str (opOr op_catL op_catA))) ha.p hb.p, sim_op ps_add ha.s hb.s⟩
theorem e_sub (ha : QE X K T W a ta ma) (hb : QE X K T W b tb mb) : QE X K T W (.BinOp a .Sub b pos) (tOp (rI0 fun i j => .int (i - j)) ta tb) (mOp fSub ma mb) := ⟨pe_op op_sub ha.p hb.p, sim_op ps_I0 ha.s hb.s⟩
theorem e_mul (ha : QE X K T W a ta ma) (hb : QE X K T W b tb mb) (hK : X.K = K := by rfl) : QE X K T W (.BinOp a .Mult b pos) (tOp (rMul3 K) ta tb) (mOp fMul ma mb) := by
  subst hK
  exact ⟨pe_op (opOr op_mul (opOr op_mulW (opOr op_repT op_repS))) ha.p hb.p, sim_op ps_mul ha.s hb.s⟩
theorem e_neg (ha : QE X K T W a ta ma) : QE X K T W (.UnaryOp .USub a pos) (tUn (rU fun i => .int (-i)) ta) (mUn fNeg ma) := ⟨pe_un un_neg ha.p, sim_un ps_neg ha.s⟩
/-- a comparison: what its operator does -/
structure Cm (X : Cx) (K : PySem.W.Frag) (op : CmpOp) (r : R2) (f : PyData → PyData → FO) : Prop where
  o : OpR X (compareOp op) r
  s : PS2 K r f
theorem c_eq (hu : X.A.units + 64 < cLine) (hK : X.K = K := by rfl) : Cm X K .Eq (orR (rEqD K) (rEqNil K)) fEq := by subst hK; exact ⟨opOr (op_eqD hu) (op_eqNil (by omega)), ps_eq⟩
theorem c_ne (hu : X.A.units + 64 < cLine) (hK : X.K = K := by rfl) : Cm X K .NotEq (rNeD K) fNe := by subst hK; exact ⟨op_neD hu, ps_ne⟩
theorem c_lt : Cm X K .Lt (orR (rI0 fun i j => .bl (decide (i < j))) (rSS fun a b => decide (a.cps.toList < b.cps.toList))) fLt := ⟨opOr op_lt op_lt_str, ps_cmp⟩
theorem c_gt : Cm X K .Gt (orR (rI0 fun i j => .bl (decide (j < i))) (rSS fun a b => decide (b.cps.toList < a.cps.toList))) fGt := ⟨opOr op_gt op_gt_str, ps_cmp⟩
theorem c_le (hu : X.A.units < cLine) (hK : X.K = K := by rfl) : Cm X K .LtE (orR (rLeT K) (orR (rI0 fun i j => .bl (decide (i ≤ j))) (rSS fun a b => !decide (b.cps.toList < a.cps.toList)))) fLe := by
  subst hK; exact ⟨opOr (op_leT hu) (opOr op_le op_le_str), ps_le⟩
theorem c_in (hu : X.A.units + 65 < cLine) (hK : X.K = K := by rfl) : Cm X K .In (rIn3 K) fIn := by subst hK; exact ⟨opOr (op_inA hu) (opOr (op_inTA hu) op_in_sign), ps_in⟩
theorem c_isN : Cm X K .Is (fun x y H Q => y = .non ∧ Q (.bl (decide (x = .non))) H) fIsN := ⟨op_isN, ps_isN⟩
theorem c_isB : Cm X K .Is rIsB fIsB := ⟨op_isBl, ps_isB⟩
theorem c_notB : Cm X K .IsNot rNotB fNotB := ⟨op_notBl, ps_notB⟩
theorem e_cmp {op : CmpOp} {r : R2} {f : PyData → PyData → FO} (h : Cm X K op r f) (ha : QE X K T W a ta ma) (hb : QE X K T W b tb mb) (hm : behindInMarks op b = false) : QE X K T W (.Compare a [op] [b] pos) (tOp r ta tb) (mOp f ma mb) := ⟨pe_cmpR h.o ha.p hb.p hm, sim_op h.s ha.s hb.s⟩
theorem t_cmp {op : CmpOp} {r : R2} {f : PyData → PyData → FO} (h : Cm X K op r f) (ha : QE X K T W a ta ma) (hb : QE X K T W b tb mb) (hm : behindInMarks op b = false) : QT X K T W (.Compare a [op] [b] pos) (tTest (tOp r ta tb)) (mB (mOp f ma mb)) := ⟨pt_cmpR h.o ha.p hb.p hm, sim_test (sim_op h.s ha.s hb.s)⟩
theorem e_chain {op op' : CmpOp} {r r' : R2} {f f' : PyData → PyData → FO} (h : Cm X K op r f) (h' : Cm X K op' r' f') (ha : QE X K T W a ta ma) (hb : QE X K T W b tb mb) (hc : QE X K T W c tc mc) (hm : lastMarks [op, op'] [b, c] = false := by with_unfolding_all rfl) :
    QE X K T W (.Compare a [op, op'] [b, c] pos) (tChain r r' ta tb tc) (mChain f f' (mD ma) (mD mb) (mD mc)) := ⟨pe_chain h.o h'.o ha.p hb.p hc.p hm, sim_chain h.s h'.s (sim_d ha.s) (sim_d hb.s) (sim_d hc.s)⟩
theorem t_chain {op op' : CmpOp} {r r' : R2} {f f' : PyData → PyData → FO} (h : Cm X K op r f) (h' : Cm X K op' r' f') (ha : QE X K T W a ta ma) (hb : QE X K T W b tb mb) (hc : QE X K T W c tc mc) (hm : lastMarks [op, op'] [b, c] = false := by with_unfolding_all rfl) :
    QT X K T W (.Compare a [op, op'] [b, c] pos) (tTest (tChain r r' ta tb tc)) (mB (mChain f f' (mD ma) (mD mb) (mD mc))) := ⟨pt_chain h.o h'.o ha.p hb.p hc.p hm, sim_test (sim_chain h.s h'.s (sim_d ha.s) (sim_d hb.s) (sim_d hc.s))⟩
/-! ### tests -/
theorem t_val (ha : QE X K T W a ta ma) (he : ∀ whole, isTrue a X.env whole = (do let v ← whole; standAt a.pos; holding [v] (truthy v)) := by intro _; rfl) : QT X K T W a (tB ta) (mB ma) := ⟨pt_val ha.p he, sim_b ha.s⟩
theorem t_not (ha : QT X K T W a tA mA) : QT X K T W (.UnaryOp .Not a pos) (tNot tA) (mNot mA) := ⟨pt_not ha.p, sim_not ha.s⟩
theorem w_and1 (ha : QT X K T W a tA mA) : QW X K T W (.BoolOp .And [a] pos) tA mA := ⟨pw_and1 ha.p, ha.s⟩
theorem w_or1 (ha : QT X K T W a tA mA) : QW X K T W (.BoolOp .Or [a] pos) tA mA := ⟨pw_or1 ha.p, ha.s⟩
theorem w_and (ha : QT X K T W a tA mA) (hb : QW X K T W (.BoolOp .And (b :: rest) pos) tB' mB') : QW X K T W (.BoolOp .And (a :: b :: rest) pos) (tAnd tA tB') (mAnd mA mB') := ⟨pw_and ha.p hb.p, sim_and ha.s hb.s⟩
theorem w_or (ha : QT X K T W a tA mA) (hb : QW X K T W (.BoolOp .Or (b :: rest) pos) tB' mB') : QW X K T W (.BoolOp .Or (a :: b :: rest) pos) (tOr tA tB') (mOr mA mB') := ⟨pw_or ha.p hb.p, sim_or ha.s hb.s⟩
theorem t_w (h : QW X K T W a tA mA) : QT X K T W a tA mA := ⟨h.p.pt, h.s⟩
theorem e_one {op} (ha : QE X K T W a ta ma) : QE X K T W (.BoolOp op [a] pos) ta ma := ⟨pe_one ha.p, ha.s⟩
theorem e_and (ha : QE X K T W a ta ma) (hb : QE X K T W (.BoolOp .And (b :: rest) pos) tb mb) : QE X K T W (.BoolOp .And (a :: b :: rest) pos) (tAndV ta tb) (mAndV (mB ma) mb) := ⟨pe_and ha.p hb.p, sim_andV ha.s hb.s⟩
theorem e_or (ha : QE X K T W a ta ma) (hb : QE X K T W (.BoolOp .Or (b :: rest) pos) tb mb) : QE X K T W (.BoolOp .Or (a :: b :: rest) pos) (tOrV ta tb) (mOrV (mB ma) mb) := ⟨pe_or ha.p hb.p, sim_orV ha.s hb.s⟩
theorem e_not (ha : QE X K T W a ta ma) : QE X K T W (.UnaryOp .Not a pos) (tNotV ta) (mNotV (mB ma)) := ⟨pe_not ha.p, sim_notV ha.s⟩
theorem e_if (hc : QT X K T W c tA mA) (ha : QE X K T W a ta ma) (hb : QE X K T W b tb mb) : QE X K T W (.IfExp c a b pos) (tIf tA ta tb) (mIfE mA ma mb) := ⟨pe_ifExp hc.p ha.p hb.p, sim_ifE hc.s ha.s hb.s⟩
/-! ### arguments, displays -/
theorem a_nil : QA X K T W [] tNil mNil := ⟨pa_nil, sim_nil⟩
theorem a_cons (ha : QE X K T W e te me) (hr : QA X K T W es tr mr) (hs : starEach (e :: es) X.env = (false, eval e X.env) :: starEach es X.env := by rfl) : QA X K T W (e :: es) (tCons te tr) (mCons me mr) := ⟨pa_cons ha.p hr.p hs, sim_cons ha.s hr.s⟩
/-- .. frozen -/
theorem f_cons (ha : QE X K T W e te me) (hr : QA X K T W es tr mr) (hs : starEach (e :: es) X.env = (false, eval e X.env) :: starEach es X.env := by rfl) : QA X K T W (e :: es) (tCons te tr) (mCons (mFz me) mr) := ⟨pa_cons ha.p hr.p hs, sim_cons (sim_fz ha.s) hr.s⟩
/-- .. moved -/
theorem m_cons (ha : QE X K T W e te me) (hr : QA X K T W es tr mr) (hs : starEach (e :: es) X.env = (false, eval e X.env) :: starEach es X.env := by rfl) : QA X K T W (e :: es) (tCons te tr) (mCons (mMv me) mr) := ⟨pa_cons ha.p hr.p hs, sim_cons (sim_mv ha.s) hr.s⟩
theorem f_star (ha : QE X K T W e te me) (hr : QA X K T W es tr mr) (hK : X.K = K := by rfl) (hs : starEach (.Starred e pos :: es) X.env = (true, eval e X.env) :: starEach es X.env := by rfl) : QA X K T W (.Starred e pos :: es) (StX.tStar K te tr) (mStar me mr) := by
  subst hK; exact ⟨StX.pa_star ha.p hr.p hs, sim_star ha.s hr.s rfl⟩
theorem e_tup {x1} (h : QA X K T W es tr mr) : QE X K T W (.Tuple es x1 pos) (tTup tr) (mDis (fun ds => .dat (.tuple ds)) mr) := ⟨pe_tup h.p, sim_tup h.s⟩
theorem e_lst (h : QA X K T W es tr mr) : QE X K T W (.List es pos) (tLst tr) (mDis (fun ds => .lst ds) mr) := ⟨pe_lst h.p, sim_lst h.s⟩
/-! ### items, slices -/
theorem e_ix (ha : QE X K T W a ta ma) (hb : QE X K T W b tb mb) (hs : PlainIx b) (hK : X.K = K := by rfl) : QE X K T W (.Subscript a b pos) (tOp (rIx K) ta tb) (mOp fIx ma mb) := by
  subst hK; exact ⟨pe_ix ix_seq ha.p hb.p hs, sim_op ps_ix ha.s hb.s⟩
theorem o_none : QO X K T W none tNoPart mONone := ⟨po_none, sim_onone⟩
theorem o_some (h : QE X K T W e te me) : QO X K T W (some e) (tPart te) (mOSome (mD me)) := ⟨po_some h.p, sim_osome (sim_d h.s)⟩
theorem e_sl {lo hi : Option Expr} {tl th : TO} {ml mh : MO} {p2 : Pos} (he : QE X K T W e te me) (hl : QO X K T W lo tl ml) (hh : QO X K T W hi th mh) (hK : X.K = K := by rfl) : QE X K T W (.Subscript e (.Slice lo hi none p2) pos) (tSl (rSl3 K) te tl th) (mSl me ml mh) := by
  subst hK; exact ⟨pe_slice (slOr sl_list (slOr sl_tupA sl_str)) he.p hl.p hh.p, sim_sl he.s hl.s hh.s rfl⟩
/-! ### calls of built-ins -/
theorem e_cb {id : String} {x : Str} {p : Pos} {r : List V → Hp → VK → Prop} {f : List PyData → FO} (hc : CallR X (.builtin id) r) (hf : PSim K r f) (hg : Gl X x) (hm : X.mg x = none) (hv : bootBuiltins x = some (.builtin id)) (ha : QA X K T W (e :: es) tr mr)
    (hn : x ≠ "__name__" := by decide) (hdb : (x == ("__debug__" : Str)) = false := by decide) (he : starEach (e :: es) X.env = (false, eval e X.env) :: starEach es X.env := by rfl) (hpl : (backTo pos (starEach es X.env)).any (·.1) = false := by rfl) :
    QE X K T W (.Call (.Name x p) (e :: es) [] pos) (tCB r tr) (mCB f mr) := ⟨pe_callB hc hg hm hv ha.p hn hdb he hpl, sim_cb hf ha.s⟩
theorem e_cty {t : String} {x : Str} {p : Pos} {r : List V → Hp → VK → Prop} {f : List PyData → FO} (hc : CallR X (.type t) r) (hf : PSim K r f) (hg : Gl X x) (hm : X.mg x = none) (hv : bootBuiltins x = some (.type t)) (ha : QA X K T W (e :: es) tr mr)
    (hn : x ≠ "__name__" := by decide) (hdb : (x == ("__debug__" : Str)) = false := by decide) (he : starEach (e :: es) X.env = (false, eval e X.env) :: starEach es X.env := by rfl) (hpl : (backTo pos (starEach es X.env)).any (·.1) = false := by rfl) :
    QE X K T W (.Call (.Name x p) (e :: es) [] pos) (tCB r tr) (mCB f mr) := ⟨pe_callTy hc hg hm hv ha.p hn hdb he hpl, sim_cb hf ha.s⟩
end
end Mk

/-! part MkC -/
/-! Mk, part 12: calls of defs, comprehensions, statements, defs. -/
namespace Mk
open PySem PySem.Spec PyProof.Rows L2 Evl Lk LamX
section
variable {X : Cx} {K : PySem.W.Frag} {T : List (Addr × Str)} {W : WX} {a b c e : Expr} {es : List Expr} {ta tb tc te : TE} {ma mb mc me : ME} {pos : Pos} {tA tB' : TT} {mA mB' : MT} {rest : List Stmt} {tr : TA} {mr : MA} {st : Stmt} {ts us : TS} {ms ns : MS} {sts stt : List Stmt}
/-! ### calls of defs -/
/-- the def x of the module does G -/
abbrev Cd (P : Program) (w : World) (K : PySem.W.Frag) (mg : Str → Option Value) (base : Heap) (T : List (Addr × Str)) (k : Nat) (x : Str) (G : Den) : Prop := Cl P w K mg base (L2.CX P w) k x (spM K T G)
abbrev Cdk (P : Program) (w : World) (K : PySem.W.Frag) (mg : Str → Option Value) (base : Heap) (T : List (Addr × Str)) (k : Nat) (x : Str) (ks : List Str) (G : Den) : Prop := Cw P w K mg base (L2.CX P w) k x ks (spM K T G)
section
variable {k j : Nat} {x : Str} {G : Den} {p : Pos}
/-- .. that may raise -/
theorem e_call (tk : Takes X W) (h : Cd X.prog X.w X.K X.mg X.base T k x G) (hr : Room j X.A) (hk : k ≤ j) (hg : Gl X x) (ha : QA X K T W (e :: es) tr mr) (hK : X.K = K := by rfl)
    (hdb : (x == ("__debug__" : Str)) = false := by decide) (he : starEach (e :: es) X.env = (false, eval e X.env) :: starEach es X.env := by rfl) (hpl : (backTo pos (starEach es X.env)).any (·.1) = false := by rfl) :
    QE X K T W (.Call (.Name x p) (e :: es) [] pos) (tCallS (spM K T G) (fun σ cls d H => W cls d σ H) tr) (mCall G mr) := by
  subst hK
  exact ⟨pe_kR tk h hr hk hg ha.p hdb he hpl, sim_call ha.s⟩
/-- .. that does not raise here -/
theorem e_call0 (h : Cd X.prog X.w X.K X.mg X.base T k x G) (hr : Room j X.A) (hk : k ≤ j) (hg : Gl X x) (ha : QA X K T W (e :: es) tr mr) (hK : X.K = K := by rfl)
    (hdb : (x == ("__debug__" : Str)) = false := by decide) (he : starEach (e :: es) X.env = (false, eval e X.env) :: starEach es X.env := by rfl) (hpl : (backTo pos (starEach es X.env)).any (·.1) = false := by rfl) :
    QE X K T W (.Call (.Name x p) (e :: es) [] pos) (tCall (spM K T G) [] E0 tr) (fun s Q X => mCall G mr s Q fun _ _ => False) := by
  subst hK
  exact ⟨pe_kX h hr hk hg ha.p hdb he hpl, sim_call0 ha.s⟩
theorem k_nil : QK X K T W [] tNil mNil := ⟨pk_nil, sim_nil⟩
theorem k_cons {nm : Option Str} {kpos : Pos} {kws : List Keyword} (ha : QE X K T W e te me) (hr : QK X K T W kws tr mr) : QK X K T W (⟨nm, e, kpos⟩ :: kws) (tCons te tr) (mCons me mr) := ⟨pk_cons ha.p hr.p, sim_cons ha.s hr.s⟩
/-- f(k = v, ..), in the parameters' order -/
theorem e_kw0 {kws : List Keyword} {ks : List Str} (h : Cdk X.prog X.w X.K X.mg X.base T k x ks G) (hr : Room j X.A) (hk : k ≤ j) (hg : Gl X x) (hkw : QK X K T W kws tr mr) (hK : X.K = K := by rfl)
    (hall : (backToKw pos (keywordEach kws X.env)).all (·.1.isSome) = true := by rfl) (hks : (backToKw pos (keywordEach kws X.env)).filterMap (·.1) = ks := by rfl) (hdb : (x == ("__debug__" : Str)) = false := by decide)
    (hpl : ((backTo pos (starEach [] X.env)).any (·.1) || (backToKw pos (keywordEach kws X.env)).any (·.1.isNone)) = false := by rfl) :
    QE X K T W (.Call (.Name x p) [] kws pos) (tCallK (spM K T G) (fun vs zs => vs ++ zs) E0 tNil tr) (fun s Q X => mCall G mr s Q fun _ _ => False) := by
  subst hK
  refine ⟨pe_kwX h hr hk hg hkw.p hall hks hdb hpl, ?_⟩
  have q := sim_call0 (W := W) (G := G) hkw.s
  intro σ0 σ H s R fps I Qm Xm hm hx Q hQ
  have q2 := q σ0 σ H s R fps I Qm Xm hm hx Q hQ
  have e : (fun (vs : List V) (H1 : Hp) => spM X.K T G (vs ++ []) H1 Q E0) = fun vs H1 => spM X.K T G ([] ++ vs) H1 Q E0 := by
    funext vs H1
    rw [List.append_nil, List.nil_append]
  have q3 : tr σ H fun vs H1 => spM X.K T G (vs ++ []) H1 Q E0 := q2
  rw [e] at q3
  exact q3
end
/-! ### isinstance -/
theorem e_isi {y : Str} {n : String} {f : PyData → Bool} {p q : Pos} (hf : ∀ d, kitB (tyN d) n = some (f d)) (hg : Gl X "isinstance") (hm : X.mg "isinstance" = none) (hg2 : Gl X y) (hm2 : X.mg y = none) (hv2 : bootBuiltins y = some (.type n)) (ha : QE X K T W e te me) (hK : X.K = K := by rfl)
    (hn2 : y ≠ "__name__" := by decide) (hd2 : (y == ("__debug__" : Str)) = false := by decide)
    (he : starEach [e, .Name y q] X.env = (false, eval e X.env) :: starEach [.Name y q] X.env := by rfl) (he2 : starEach [.Name y q] X.env = (false, eval (.Name y q) X.env) :: starEach [] X.env := by rfl) (hpl : (backTo pos (starEach [.Name y q] X.env)).any (·.1) = false := by rfl) :
    QE X K T W (.Call (.Name "isinstance" p) [e, .Name y q] [] pos) (tCB (rIsiD K) (tCons te (tCons (tC (.ty n)) tNil))) (mIsi f me) := by
  subst hK
  exact ⟨pe_callB call_isiD hg hm (by decide +kernel) (pa_cons ha.p (pa_cons (pe_bltn (v := .ty n) hg2 hm2 hv2 rfl hn2 hd2) pa_nil he2) he) (by decide) (by decide) he hpl, sim_isi ha.s hf rfl⟩
/-! ### tuple(x), list(x) -/
theorem e_tuple {p : Pos} (hg : Gl X "tuple") (hm : X.mg "tuple" = none) (ha : QE X K T W a ta ma) (hK : X.K = K := by rfl) (na : starEach [a] X.env = (false, eval a X.env) :: starEach [] X.env := by rfl) :
    QE X K T W (.Call (.Name "tuple" p) [a] [] pos) (tThen ta (kTup K)) (mUn fTuple ma) := by
  subst hK
  exact ⟨pe_tupleOf hg hm ha.p na, (sim_un ps_tuple ha.s : SimE X.K T W (tUn (kTup X.K) ta) (mUn fTuple ma))⟩
/-! ### methods of lists -/
theorem ls_append : LSim K rAppend (fun ds es Q => match es with
    | [e] => ds.length < 100000 ∧ Q (ds ++ [e]) .none
    | _ => False) := by
  intro F H a vs ds xs es Qo Q ex ha hd he hf k
  cases he with
  | nil => exact hf.elim
  | cons h1 h2 =>
    cases h2 with
    | cons _ _ => exact hf.elim
    | nil => exact ⟨a, vs, _, rfl, rfl, ha, sz_lt (by rw [dps_len hd]; exact hf.1), k _ _ _ _ (dps_app hd (.cons h1 .nil)) .non hf.2⟩
def fAppend : List PyData → List PyData → (List PyData → PyData → Prop) → Prop := fun ds es Q => match es with
    | [e] => ds.length < 100000 ∧ Q (ds ++ [e]) .none
    | _ => False
theorem e_lm {i : Nat} {x name : Str} {id : String} {r : V → List V → Hp → VK → Prop} {f : List PyData → List PyData → (List PyData → PyData → Prop) → Prop} {xp apos cpos : Pos} (pa : PlainAttrs "list") (slot : Slot "list" name id) (hty : typeOf (.builtin id) = pure (.type "method_descriptor")) (hm : MtR X id r) (hf : LSim K r f)
    (hN : X.N[i]? = some x) (hv : Vis X.env.scope x) (hd : (x == ("__debug__" : Str)) = false) (hcd : (x == ("__classdict__" : Str)) = false) (ha : QA X K T W (e :: es) tr mr) (hK : X.K = K := by rfl)
    (hbase : attributeBase (.Name x xp) name X.env (eval (.Name x xp) X.env) = eval (.Name x xp) X.env := by rfl)
    (hfew : ((backTo cpos (starEach (e :: es) X.env)).all (fun x => !x.1) && (backToKw cpos (keywordEach [] X.env)).all (fun x => x.1.isSome)
      && decide ((e :: es).length + ([] : List Keyword).length + (if ([] : List Keyword).isEmpty then 0 else 1) < 30)) = true := by rfl)
    (hline : (apos.endLine == cpos.line) = true := by rfl) (hs : starEach (e :: es) X.env = (false, eval e X.env) :: starEach es X.env := by rfl) (hplain : (backTo cpos (starEach es X.env)).any (·.1) = false := by rfl) :
    QE X K T W (.Call (.Attribute (.Name x xp) name apos) (e :: es) [] cpos) (tBM K "list" r (tVar i) tr) (mLM f i mr) := by
  subst hK
  exact ⟨pe_bm pa slot hty hm (pe_var hN hv hd hcd) ha.p hbase hfew hline hs hplain, sim_lm hf ha.s rfl⟩
/-! ### dicts -/
/-! ### what is walked -/
theorem i_any {tg : Expr} (h : QE X K T W e te me) (hK : X.K = K := by rfl) : QI X K T W tg e (iAny K te) (mIt me) := by subst hK; exact ⟨pi_any h.p, sim_it h.s rfl⟩
theorem i_rng1 {tg : Expr} {p : Pos} (hg : Gl X "range") (hm : X.mg "range" = none) (ha : QA X K T W [a] tr mr) (hs : starEach [a] X.env = [(false, eval a X.env)] := by rfl) : QI X K T W tg (.Call (.Name "range" p) [a] [] pos) (iRng1 tr) (fun s Q X => mr s (fun rs s1 => match dats rs with
  | some [.int j] => -(2 ^ 62) ≤ j ∧ j < 2 ^ 62 ∧ Q (intsFrom 0 j.toNat) s1
  | _ => False) X) := ⟨pi_range1 hg hm ha.p hs, sim_rng1' ha.s⟩
/-! ### targets -/
theorem g_n {i : Nat} {x : Str} (hN : X.N.Nodup) (hi : X.N[i]? = some x) (hx : Loc X.env.scope x) (hf : X.fn x = true ∨ X.env.scope.names.lookup x = some .local := by first | exact .inl rfl | exact .inr rfl | assumption) : QG X K T (.Name x pos) (gName i) (mgN i) := ⟨pg_name hN hi hx hf, simg_n, gmono_n⟩
theorem gs_nil : QGs X K T [] gNil mgNil := ⟨pgs_nil, simgs_nil, gsmono_nil⟩
theorem gs_cons {tg : TG} {tgs : TGs} {m : MG} {mm : MGs} (h1 : QG X K T e tg m) (h2 : QGs X K T es tgs mm) (hs : (assignEach (e :: es) X.env).map (·.2) = assign e X.env :: (assignEach es X.env).map (·.2) := by rfl) : QGs X K T (e :: es) (gCons tg tgs) (mgCons m mm) := ⟨pgs_cons h1.p h2.p hs, simgs_cons h1.s h2.s, gsmono_cons h1.o h2.o⟩
theorem g_tup {j : Nat} {tgs : TGs} {mm : MGs} {n : Nat} (hc : X.calm = true) (h : QGs X K T es tgs mm) (hK : X.K = K := by rfl) (hn : (assignEach es X.env).length = n := by rfl) (hst : (assignEach es X.env).findIdx? (·.1) = none := by rfl) : QG X K T (.Tuple es j pos) (gTup K n tgs) (mgT n mm) := by
  subst hK; exact ⟨pg_tup hc h.p hn hst, simg_t h.s rfl, gmono_t h.o⟩
/-! ### comprehensions -/
section
variable (X : Cx) (K : PySem.W.Frag) (T : List (Addr × Str)) (W : WX)
structure QTs (ifs : List Expr) (tt : TT) (m : MT) : Prop where
  p : PTs X ifs tt
  s : SimT K T W tt m
end
theorem ts_nil : QTs X K T W [] tYes mYes := ⟨pts_nil, sim_yes⟩
theorem ts_one (h : QT X K T W c tA mA) : QTs X K T W [c] tA mA := ⟨pts_one h.p, h.s⟩
abbrev W0 : WX := fun _ _ _ _ => False
theorem e_lc {elt tg iter : Expr} {ifs : List Expr} {scope : Scope} {own : List (Str × Nat)} {wi : TI} {g : TG} {tt : TT} {mi : MI} {mg : MG} {mt : MT} (hc : X.calm = true) (hN : X.N.Nodup) (hi : QI X K T W tg iter wi mi) (ok : BlkOk X.N X.env.scope scope own)
    (hg : ∀ (s : Shared) (H : Hp) (C : Addr) (cl : List (Str × Addr)) (fp : List Addr), QG (X.blk s H scope (compEnvC scope cl C X.env) fp) K T tg g mg) (ho : GOnly g (own.map (·.2)))
    (ht : ∀ (s : Shared) (H : Hp) (C : Addr) (cl : List (Str × Addr)) (fp : List Addr), QTs (X.blk s H scope (compEnvC scope cl C X.env) fp) K T W0 ifs tt mt)
    (he : ∀ (s : Shared) (H : Hp) (C : Addr) (cl : List (Str × Addr)) (fp : List Addr), QE (X.blk s H scope (compEnvC scope cl C X.env) fp) K T W0 elt te me)
    (hs : ∀ x, foldedSetIterable iter X.env x = pure x := by intro _; rfl) : QE X K T W (.ListComp elt [⟨tg, iter, ifs, 0⟩] scope pos) (tLc wi g tt te (own.map (·.2))) (mLc mi mg mt me (own.map (·.2))) :=
  ⟨pe_lc hc hN hi.p ok (fun s H C cl fp => (hg s H C cl fp).p) (fun s H C cl fp => (ht s H C cl fp).p) (fun s H C cl fp => (he s H C cl fp).p) hs,
    sim_lc hi.s (hg X.s_0 X.H_0 0 [] []).s ho (hg X.s_0 X.H_0 0 [] []).o (ht X.s_0 X.H_0 0 [] []).s (he X.s_0 X.H_0 0 [] []).s⟩
/-! ### statements -/
theorem b_nil : QB X K T W [] tNext mNext := ⟨pss_nil, sim_next⟩
theorem b_cons (h1 : QS X K T W st ts ms) (h2 : QB X K T W sts us ns) : QB X K T W (st :: sts) (tSeq ts us) (mSeq ms ns) := ⟨pss_cons h1.p h2.p, sim_seq h1.s h2.s⟩
theorem b_one (h1 : QS X K T W st ts ms) : QB X K T W [st] ts ms := ⟨pss_one h1.p, h1.s⟩
theorem s_expr (he : QE X K T W e te me) (hs : swapsWith e none pos.line X.env = pure false := by rfl) : QS X K T W (.Expr e pos) (tDrop te) (mDrop me) := ⟨ps_expr he.p hs, sim_drop he.s⟩
theorem s_ret (he : QE X K T W e te me) : QS X K T W (.Return (some e) pos) (tRet te) (mRet me) := ⟨ps_ret he.p, sim_ret he.s⟩
theorem s_if (hc : QT X K T W c tA mA) (h1 : QB X K T W sts ts ms) (h2 : QB X K T W stt us ns) : QS X K T W (.If c sts stt pos) (tIfS tA ts us) (mIf mA ms ns) := ⟨ps_if hc.p h1.p h2.p, sim_if hc.s h1.s h2.s⟩
theorem s_while (hp : PassesOwn (model X.prog X.w) X.A X.env X.xe) (hc : QT X K T W c tA mA) (h1 : QB X K T W sts ts ms) : QS X K T W (.While c sts [] pos) (tWhile tA ts) (mWhile mA ms) := ⟨ps_while hp hc.p h1.p, sim_while hc.s h1.s⟩
theorem s_for {tg iter : Expr} {wi : TI} {mi : MI} {g : TG} {mg : MG} (hp : PassesOwn (model X.prog X.w) X.A X.env X.xe) (hc : X.calm = true) (hi : QI X K T W tg iter wi mi) (hg : QG X K T tg g mg) (h1 : QB X K T W sts ts ms) (hs : ∀ x, foldedSetIterable iter X.env x = pure x := by intro _; rfl) :
    QS X K T W (.For tg iter sts [] pos) (tFor wi g ts) (mFor mi mg ms) := ⟨ps_for hp hc hi.p hg.p h1.p hs, sim_for hi.s hg.s h1.s⟩
theorem s_set {i : Nat} {x : Str} {pos' : Pos} (hN : X.N.Nodup) (hi : X.N[i]? = some x) (hx : Loc X.env.scope x) (he : QE X K T W e te me) (hs : swapsWith e (some (.Name x pos')) pos.line X.env = pure false := by rfl) (hf : X.fn x = true ∨ X.env.scope.names.lookup x = some .local := by first | exact .inl rfl | exact .inr rfl | assumption) :
    QS X K T W (.Assign [.Name x pos'] e pos) (tAsg te (gName i)) (mAsg i me) := ⟨ps_set hN hi hx he.p hs hf, sim_asg he.s⟩
theorem s_setLc {i : Nat} {y : Str} {py : Pos} {elt tg iter : Expr} {ifs : List Expr} {scope : Scope} {own : List (Str × Nat)} {spos : Pos} {wi : TI} {g : TG} {tt : TT} {mi : MI} {mg : MG} {mt : MT} (hc : X.calm = true) (hN : X.N.Nodup) (hy : X.N[i]? = some y) (hyl : X.env.scope.names.lookup y = some .local)
    (hsw : swapsWith (.ListComp elt [⟨tg, iter, ifs, 0⟩] scope pos) (some (.Name y py)) spos.line X.env = pure true) (hi : QI X K T W tg iter wi mi) (ok : BlkOk X.N X.env.scope scope own)
    (hg : ∀ (s : Shared) (H : Hp) (C : Addr) (cl : List (Str × Addr)) (fp : List Addr), QG (X.blk s H scope (compEnvC scope cl C X.env) fp) K T tg g mg) (ho : GOnly g (own.map (·.2)))
    (ht : ∀ (s : Shared) (H : Hp) (C : Addr) (cl : List (Str × Addr)) (fp : List Addr), QTs (X.blk s H scope (compEnvC scope cl C X.env) fp) K T W0 ifs tt mt)
    (he : ∀ (s : Shared) (H : Hp) (C : Addr) (cl : List (Str × Addr)) (fp : List Addr), QE (X.blk s H scope (compEnvC scope cl C X.env) fp) K T W0 elt te me)
    (hs : ∀ x, foldedSetIterable iter X.env x = pure x := by intro _; rfl) : QS X K T W (.Assign [.Name y py] (.ListComp elt [⟨tg, iter, ifs, 0⟩] scope pos) spos) (tAsg (tLc wi g tt te (own.map (·.2))) (gName i)) (mAsg i (mLc mi mg mt me (own.map (·.2)))) :=
  ⟨ps_setLc hc hN hy hyl hsw hi.p ok (fun s H C cl fp => (hg s H C cl fp).p) (fun s H C cl fp => (ht s H C cl fp).p) (fun s H C cl fp => (he s H C cl fp).p) hs,
    sim_asg (sim_lc hi.s (hg X.s_0 X.H_0 0 [] []).s ho (hg X.s_0 X.H_0 0 [] []).o (ht X.s_0 X.H_0 0 [] []).s (he X.s_0 X.H_0 0 [] []).s)⟩
/-- a, b = e -/
theorem s_asgG {tg : Expr} {g : TG} {mg : MG} (he : QE X K T W e te me) (hg : QG X K T tg g mg) (hs : swapsWithSole [tg] e pos.line X.env = pure false := by rfl) (hw : swappedStores [tg] e X.env = pure none := by rfl)
    (h1 : (assignEach [tg] X.env).map (·.2) = [assign tg X.env] := by rfl) : QS X K T W (.Assign [tg] e pos) (tAsg te g) (mAsgG mg (mD me)) := ⟨ps_asg he.p hg.p hs hw h1, sim_asgG (sim_d he.s) hg.s⟩
/-- a, b = x, y -/
theorem s_par {i j : Nat} {x y : Str} {px py pt : Pos} {kt k2 pt2} (hc : X.calm = true) (hN : X.N.Nodup) (hi : X.N[i]? = some x) (hj : X.N[j]? = some y) (hij : i ≠ j)
    (hx : X.env.scope.names.lookup x = some .local) (hy : X.env.scope.names.lookup y = some .local) (ha : QA X K T W [a, b] tr mr)
    (hw : swappedStores [.Tuple [.Name x px, .Name y py] kt pt] (.Tuple [a, b] k2 pt2) X.env = pure (some [x, y]))
    (hs : swapsWithSole [.Tuple [.Name x px, .Name y py] kt pt] (.Tuple [a, b] k2 pt2) pos.line X.env = pure false := by rfl) :
    QS X K T W (.Assign [.Tuple [.Name x px, .Name y py] kt pt] (.Tuple [a, b] k2 pt2) pos) (tPar i j tr) (mPar [i, j] mr) := ⟨ps_par hc hN hi hj hij hx hy ha.p hw hs, sim_par ha.s⟩
end
end Mk

/-! part MkD -/
/-! Mk, part 13: more statements; defs of the text; the draws; what is caught. -/
namespace Mk
open PySem PySem.Spec PyProof.Rows L2 Evl Lk LamX
section
variable {X : Cx} {K : PySem.W.Frag} {T : List (Addr × Str)} {W : WX} {a b c e : Expr} {es : List Expr} {ta tb tc te : TE} {ma mb mc me : ME} {pos : Pos} {tr : TA} {mr : MA}
/-- a, b, .. = x, y, .. by a tuple that nobody keeps -/
theorem s_parN {ts2 : List Expr} {n : Nat} {is : List Nat} {gs : TGs} {mg : MGs} {j1 j2} {pt pt2 : Pos} (hc : X.calm = true) (ha : QA X K T W es tr mr) (hg : QGs X K T ts2 gs mg) (hgs : gs = gNames is) (hn2 : is.length = n) (hz : n ≤ 100000) (hK : X.K = K := by rfl)
    (hn : (assignEach ts2 X.env).length = n := by rfl) (hst : (assignEach ts2 X.env).findIdx? (·.1) = none := by rfl)
    (hs : swapsWithSole [.Tuple ts2 j1 pt] (.Tuple es j2 pt2) pos.line X.env = pure false := by rfl) (hw : swappedStores [.Tuple ts2 j1 pt] (.Tuple es j2 pt2) X.env = pure none := by rfl)
    (h1 : (assignEach [.Tuple ts2 j1 pt] X.env).map (·.2) = [assign (.Tuple ts2 j1 pt) X.env] := by rfl) : QS X K T W (.Assign [.Tuple ts2 j1 pt] (.Tuple es j2 pt2) pos) (tAsg (tTup tr) (gTup K n gs)) (mPar is mr) := by
  subst hK
  exact ⟨ps_asg (pe_tup ha.p) (pg_tup hc hg.p hn hst) hs hw h1, sim_parN ha.s hgs hn2 rfl hz⟩
/-- x op= e, of ints -/
def mAug (i : Nat) (f : Int → Int → Int) (m : MD) : MS := fun s k => match s.env[i]? with
  | some (some (.dat (.int a))) => m s (fun d s1 => match d with
    | .int b => i ∉ s1.bor ∧ i < s1.env.length ∧ k.nx (putO s1 i (.dat (.int (f a b))))
    | _ => False) k.er
  | _ => False
theorem sim_aug {i : Nat} {f : Int → Int → Int} {m : MD} (h : SimD K T W te m) : SimS K T W (tAug i te (ipI f)) (mAug i f m) := fun σ0 σ H s R fps I D k hm x => by
  unfold mAug at hm
  split at hm
  · rename_i a q
    obtain ⟨v, hv, hA⟩ := I.at_ i _ q
    cases hA with
    | dat hA _ =>
      obtain rfl := dp_int hA
      refine ⟨.int a, hv, h σ0 σ H s R fps I _ k.er hm x.xok _ fun w H1 s1 d fps1 g hd q => ?_⟩
      split at q
      · rename_i b
        obtain rfl := dp_int hd
        obtain ⟨fps3, G3⟩ := put_go (v := .int (f a b)) (o := .dat (.int (f a b))) (fp := nol) (i := i) (g.alt0 fun _ z => z) (.dat (.int _) fun _ z => z) (fun _ z => z.elim) q.2.1 q.1
        exact ⟨a, b, rfl, rfl, x.nx _ H1 _ fps3 G3 q.2.2⟩
      · exact q.elim
  · exact hm.elim
theorem s_aug {i : Nat} {x : Str} {op : Operator} {f : Int → Int → Int} {pos' : Pos} (hN : X.N.Nodup) (hi : X.N[i]? = some x) (hx : Loc X.env.scope x) (he : QE X K T W e te me) (ho : PIp X op (ipI f)) (hf : X.fn x = true ∨ X.env.scope.names.lookup x = some .local := by first | exact .inl rfl | exact .inr rfl | assumption) :
    QS X K T W (.AugAssign (.Name x pos') op e pos) (tAug i te (ipI f)) (mAug i f (mD me)) := ⟨ps_aug hN hi hx he.p ho hf, sim_aug (sim_d he.s)⟩
/-- raise C('..') -/
theorem s_raise {C : Addr} {x m : Str} {j : Nat} {p p2 pos' : Pos} (hc : X.calm = true) (tk : Takes X W) (h : XcT X.K X.mg x C) (hg : Gl X x) (r : Raises X (.ref C)) (hdb : (x == ("__debug__" : Str)) = false := by decide) :
    QS X K T W (.Raise (some (.Call (.Name x p) [.Constant (.str m) j p2] [] pos)) none pos') (fun _ σ H => W (.ref C) none σ H) (mRaise C) :=
  ⟨ps_raise hc tk (pmk_own PySem.F.excBase_ValueError h.ex h.gl h.kp r hg hdb), sim_raise⟩
end
/-! ### defs -/
/-- a def of so many parameters and slots, by its body -/
def runF (p N : Nat) (b : MS) : Den := fun os n Q X => os.length = p ∧ runD N b os n Q X
theorem spM_imp {K : PySem.W.Frag} {T : List (Addr × Str)} {G G' : Den} (h : ∀ os n Q X, G os n Q X → G' os n Q X) {vs : List V} {H : Hp} {Q : VK} {E : XK} (q : spM K T G vs H Q E) : spM K T G' vs H Q E := by
  obtain ⟨os, n, R, fps, Qm, Xm, I, hm, r⟩ := q
  exact ⟨os, n, R, fps, Qm, Xm, I, h _ _ _ _ hm, r⟩
theorem spM_len {K : PySem.W.Frag} {T : List (Addr × Str)} {p N : Nat} {b : MS} {vs : List V} {H : Hp} {Q : VK} {E : XK} (q : spM K T (runF p N b) vs H Q E) : vs.length = p := by
  obtain ⟨os, n, R, fps, Qm, Xm, I, hm, _⟩ := q
  have := I.len
  rw [← hm.1]
  simpa using this
section
variable {P : Program} {w : World} {K : PySem.W.Frag} {mg : Str → Option Value} {base : Heap} {T : List (Addr × Str)} {x qual : Str} {params : Arguments} {body : List Stmt} {scope : Scope} {f : Addr} {fd : FuncData} {N ps : List Str} {k : Nat}
theorem scope_le {N ps : List Str} {scope : Scope} (S : FnScope N ps scope) : ps.length ≤ N.length := by
  have := congrArg List.length S.pre
  rw [List.length_take] at this
  omega
/-- THE RULE for a def, by its body -/
theorem fn_m {b : MS} (D : FunD K x qual params body scope [] [] f fd) (S : FnScope N ps scope)
    (h : ∀ (cdv : Value) (A : Around) (outer : List Env) (s : Shared) (H : Hp) (E : XK), Room k (A.deeper (envOfC qual scope s.heap.objs.size f cdv)) →
      ∃ t, QB (cxOf (L2.CX P w) P w K mg base N qual scope f cdv A outer s H E) K T (fun cls d _ H => E cls d H) body t b) :
    FnOk P w K mg base (L2.CX P w) (k + 1) f fd ps (spM K T (runF ps.length N.length b)) := by
  refine D.ok S (fun vs H Q E q => spM_len q) (fun cdv A outer s H vs Q E hr q => ?_)
  obtain ⟨t, ht⟩ := h cdv A outer s H E hr
  exact ⟨t, ht.p, body_ok (by rw [spM_len q]; exact scope_le S) ht.s (spM_imp (fun _ _ _ _ z => z.2) q)⟩
/-- .. that makes lambdas -/
theorem fn_ml {b : MS} {y : Str} (D : FunD K x qual params body scope [] [] f fd) (hf : f = He.fAd K (y, none)) (S : FnScope N ps scope)
    (h : ∀ (A : Around) (outer : List Env) (s : Shared) (H : Hp) (E : XK), Room k (A.deeper (envOfC qual scope s.heap.objs.size f (.ref (He.codeOf K (y, none))))) →
      ∃ t, QB (cxOf (L2.CX P w) P w K mg base N qual scope f (.ref (He.codeOf K (y, none))) A outer s H E) K T (fun cls d _ H => E cls d H) body t b) :
    FnOk P w K mg base (L2.CX P w) (k + 1) f fd ps (spM K T (runF ps.length N.length b)) := by
  obtain ⟨oc, od, dV, kV, doc, pm, an, cdv, ct, osl, rfl, lk, hcd, _, _⟩ := D.ex
  obtain ⟨c, rfl⟩ := He.codeIn_ref hcd
  have e : He.codeOf K (y, none) = c := He.codeOf_eq (by rw [← hf]; exact lk) rfl
  rw [e] at h
  refine fn_of lk hcd S (fun vs H Q E q => spM_len q) fun A outer s H vs Q E hr q => ?_
  obtain ⟨t, ht⟩ := h A outer s H E hr
  exact ⟨t, ht.p, body_ok (by rw [spM_len q]; exact scope_le S) ht.s (spM_imp (fun _ _ _ _ z => z.2) q)⟩
/-- a def that raises nothing, where one may -/
theorem fnok_cx {sp : Sp} (F : FnOk P w K mg base CX0 k f fd ps sp) : FnOk P w K mg base (L2.CX P w) k f fd ps sp := ⟨F.len, fun A outer s H args us vs Q E hr e0 hb hv hs =>
  codeAny_mono (F.run A outer s H args us vs Q E hr e0 hb hv hs) fun r s' h => by
    cases r with
    | ok fl => cases fl <;> exact h
    | error e => exact h.elim⟩
theorem cw_cx {ks : List Str} {sp : Sp} (c : Cw P w K mg base CX0 k x ks sp) : Cw P w K mg base (L2.CX P w) k x ks sp := by
  obtain ⟨f, fd, ps, F, r⟩ := c.ex
  exact ⟨f, fd, ps, fnok_cx F, r⟩
theorem cw_imp {CX : CXT} {ks : List Str} {sp sp' : Sp} (c : Cw P w K mg base CX k x ks sp) (h : ∀ vs H Q E, sp' vs H Q E → sp vs H Q E) : Cw P w K mg base CX k x ks sp' := by
  obtain ⟨f, fd, ps, F, r⟩ := c.ex
  exact ⟨f, fd, ps, F.imp h, r⟩
end
/-! ### contracts by data -/
section
variable {K : PySem.W.Frag} {T : List (Addr × Str)}
theorem iv_dats {σ0 : L2.St} {H : Hp} {n : Nat} {bo : List Nat} {R : Ad} {fps : Nat → Ad} : ∀ {ds : List PyData} {vs : List V}, Iv K T σ0 (vs.map some) H ⟨(ds.map O.dat).map some, n, bo⟩ R fps → DqAll K (hid (Wf R fps) H) vs ds := by
  intro ds vs I
  have l : vs.length = ds.length := by
    have := I.len
    simpa using this
  have key : ∀ (ds : List PyData) (vs : List V), vs.length = ds.length → (∀ (i : Nat) d, ds[i]? = some d → ∃ v, vs[i]? = some v ∧ Dq K (hid (Wf R fps) H) v d) → DqAll K (hid (Wf R fps) H) vs ds := by
    intro ds
    induction ds with
    | nil =>
      intro vs l _
      have := List.eq_nil_of_length_eq_zero l
      subst this
      exact .nil
    | cons d ds ih =>
      intro vs l h
      match vs, l with
      | v :: vs, l =>
        obtain ⟨w, e, hw⟩ := h 0 d rfl
        cases e
        exact .cons hw (ih vs (by simpa using l) fun i d hd => h (i + 1) d hd)
  refine key ds vs l fun i d hd => ?_
  obtain ⟨v, h1, h2⟩ := I.at_ i (.dat d) (by
    show ((ds.map O.dat).map some)[i]? = _
    rw [List.getElem?_map, List.getElem?_map, hd]; rfl)
  cases h2 with
  | dat h2 _ => exact ⟨v, map_at.mp h1, h2⟩
theorem mut_ex {H H' : Hp} {a : Addr} (e : Ex H H') (m : MutL (H a)) : H' a = H a := by
  cases q : H a with
  | none => rw [q] at m; exact m.elim
  | some o => exact e a o q
/-- the heap goes on by new things alone -/
theorem go_ex {σ0 σ : L2.St} {H H' : Hp} {s : S} {R : Ad} {fps : Nat → Ad} (I : Iv K T σ0 σ H s R fps) (e : Ex H H') : Go K T σ0 H s R fps σ H' s R fps := by
  have g : Gr (Wf R fps) H (Wf R fps) H' := gr_ex e fun _ _ _ n => n
  exact ⟨I.step g (fun i a q => mut_ex e (I.live (.inr ⟨i, q⟩))) I.disR (fun a q => by rw [mut_ex e (I.liv a q)]; exact I.liv a q) (I.tab.ext e), fun a q => mut_ex e (I.liv a q), g, rfl, Nat.le_refl _, fun _ z => z⟩
end
section
variable {P : Program} {w : World} {K : PySem.W.Frag} {mg : Str → Option Value} {base : Heap} {T : List (Addr × Str)} {k : Nat} {x : Str} {R : Rel} {G : Den} {ks : List Str}
end
/-! ### the draws -/
def spMixedA : Sp := fun vs H Q _ => ∃ a g c n, vs = [.ref a] ∧ StA H a g c n ∧ n < far ∧ ∀ x H', Kp a g H H' → StA H' a g c (n + 1) → Q (.int x) H'
def spDrawA : Sp := fun vs H Q _ => ∃ a g c n room, vs = [.ref a, .int room] ∧ StA H a g c n ∧ n < far ∧ 0 < room ∧ room.natAbs.log2 < 9000 ∧ ∀ x H', 0 ≤ x → x < room → Kp a g H H' → StA H' a g c (n + 1) → Q (.int x) H'
def spBegunA (K : PySem.W.Frag) : Sp := fun vs H Q _ => ∃ (l : Addr) (cs : List Int), vs = [.ref l] ∧ SqL K H l (cs.map V.int) ∧ cs.length ≤ 40000 ∧ ∀ a g c H', Ex H H' → StA H' a g c 0 → H a = none → H g = none → H c = none → Q (.ref a) H'
def dDraw : Den := fun os n Q _ => ∃ room, os = [.st, .dat (.int room)] ∧ 0 < room ∧ room.natAbs.log2 < 9000 ∧ n < far ∧ ∀ x, 0 ≤ x → x < room → Q (.dat (.int x)) os (n + 1)
def dBegun : Den := fun os n Q _ => ∃ cs : List Int, os = [.dat (.list (cs.map PyData.int))] ∧ cs.length ≤ 40000 ∧ Q .st os n
section
variable {K : PySem.W.Frag} {T : List (Addr × Str)}
theorem sp_draw {vs : List V} {H : Hp} {Q : VK} {E : XK} (h : spM K T dDraw vs H Q E) : spDrawA vs H Q E := by
  obtain ⟨os, n, R, fps, Qm, Xm, I, ⟨room, rfl, h0, hz, hn, q⟩, hQ, hE⟩ := h
  obtain ⟨v0, e0, A0⟩ := I.at_ 0 .st rfl
  obtain ⟨v1, e1, A1⟩ := I.at_ 1 (.dat (.int room)) rfl
  have l : vs.length = 2 := by
    have := I.len
    simpa using this
  cases A0 with
  | st s0 z0 =>
    rename_i a g c
    cases A1 with
    | dat A1 z1 =>
      obtain rfl := dp_int A1
      have ev : vs = [.ref a, .int room] := by
        match vs, l with
        | [x, y], _ =>
          cases e0; cases e1; rfl
      subst ev
      refine ⟨a, g, c, n, room, rfl, s0, hn, h0, hz, fun x H' x0 x1 kp st => ?_⟩
      have wa : ∀ b, (b = a ∨ b = g) → Wf R fps b := fun b z => .inr ⟨0, (z0 b).mpr (z.elim .inl fun y => .inr (.inl y))⟩
      have keep : ∀ b, b ≠ a → b ≠ g → MutL (H b) → H' b = H b := fun b n1 n2 m => by
        cases q : H b with
        | none => rw [q] at m; exact m.elim
        | some o => exact kp b o q n1 n2
      have g : Gr (Wf R fps) H (Wf R fps) H' := gr_of (fun b o h n _ => kp b o h (fun z => n (wa b (.inl z))) fun z => n (wa b (.inr z))) fun _ _ _ n => n
      have nR : ∀ b, R b → b ≠ a ∧ b ≠ _ := fun b z => ⟨fun y => I.disR 0 b ((z0 b).mpr (.inl y)) z, fun y => I.disR 0 b ((z0 b).mpr (.inr (.inl y))) z⟩
      have f0 : ∀ i b, fps i b → i = 0 := fun i b z => by
        cases i with
        | zero => rfl
        | succ i =>
          cases i with
          | zero => exact (z1 b z).elim
          | succ i => exact (I.emp (i + 2) (fun o e => by cases e) b z).elim
      have tb : Tabs T H' := fun p hp => by
        obtain ⟨gs, cs, r, t, sd, _⟩ := s0
        obtain ⟨ps, t1, t2, t3⟩ := I.tab p hp
        have ne : ∀ b o, H b = some o → (∀ kvs, o ≠ .dK kvs) → (∀ xs, o ≠ .lst xs) → H' b = some o := fun b o h n1 n2 => kp b o h (by
          rintro rfl
          exact n1 _ (Option.some.inj (h.symm.trans sd.hd))) (by
          rintro rfl
          exact n2 _ (Option.some.inj (h.symm.trans sd.hg)))
        refine ⟨ps, ne _ _ t1 (fun _ z => nomatch z) (fun _ z => nomatch z), t2, fun pos cv hc => ?_⟩
        obtain ⟨cc, e1, e2⟩ := t3 pos cv hc
        exact ⟨cc, e1, ne _ _ e2 codeO_nd.1 codeO_nd.2⟩
      refine hQ (.int x) H' _ _ (n + 1) nol fps (Go.alt0 ⟨⟨rfl, fun i o e => ?_, I.emp, I.dis, I.disR, fun b z => ?_, tb, fun _ z => nomatch z⟩, fun b z => keep b (nR b z).1 (nR b z).2 (I.liv b z), g, rfl, Nat.le_succ _, fun _ z => z⟩ fun _ z => z) (.dat (.int _) fun _ z => z) (fun _ z => z.elim) (q x x0 x1)
      · match i, e with
        | 0, e => cases e; exact ⟨_, rfl, .st st z0⟩
        | 1, e => cases e; exact ⟨_, rfl, .dat (.int _) z1⟩
        | _ + 2, e => cases e
      · rw [keep b (nR b z).1 (nR b z).2 (I.liv b z)]
        exact I.liv b z
theorem sp_begun {vs : List V} {H : Hp} {Q : VK} {E : XK} (h : spM K T dBegun vs H Q E) : spBegunA K vs H Q E := by
  obtain ⟨os, n, R, fps, Qm, Xm, I, ⟨cs, rfl, hl, q⟩, hQ, hE⟩ := h
  have hd := iv_dats (ds := [.list (cs.map PyData.int)]) I
  obtain _ | ⟨h1, _ | _⟩ := hd
  obtain ⟨l, xs, rfl, h2, h3⟩ := dp_lst h1
  obtain rfl := dps_ints_of h3
  refine ⟨l, cs, rfl, ex_l hid_ex h2, hl, fun a g c H' ex st na ng nc => ?_⟩
  have G := go_ex I ex
  have fr : ∀ b, (b = a ∨ b = g ∨ b = c) → H b = none := fun b z => by
    rcases z with rfl | rfl | rfl
    · exact na
    · exact ng
    · exact nc
  have nW : ∀ b, (b = a ∨ b = g ∨ b = c) → ¬ Wf R fps b := fun b z => I.fresh (fr b z)
  let fp : Ad := fun b => b = a ∨ b = g ∨ b = c
  have g2 : Gr (Wf R fps) H (Wf (alt R fp) fps) H' := gr_ex ex fun b o h n z => by
    rcases z with (z | z) | z
    · exact n (.inl z)
    · rw [fr b z] at h; cases h
    · exact n (.inr z)
  have stm := st.mono (Nat.zero_le n)
  have hA : At K (hid (Wf (alt R fp) fps) H') H' n (.ref a) .st fp := .st stm fun _ => Iff.rfl
  refine hQ (.ref a) H' .st _ n fp fps ⟨I.step g2 (fun i b z => mut_ex ex (I.live (.inr ⟨i, z⟩))) (fun i b z y => ?_) (fun b z => ?_) (I.tab.ext ex), G.kp, g2, rfl, Nat.le_refl _, fun _ z => .inl z⟩ hA (fun b z y => nW b z (.inl y)) q
  · rcases y with y | y
    · exact I.disR i b z y
    · exact nW b y (.inr ⟨i, z⟩)
  · rcases z with z | z
    · rw [mut_ex ex (I.liv b z)]; exact I.liv b z
    · exact hA.live z
end
end Mk

/-! part MkE -/
/-! Mk, part 14: calls by names in another order, reversed tuples, items stored, dicts read. -/
namespace Mk
open PySem PySem.Spec PyProof.Rows L2 Evl Lk LamX
def mCall0 (G : Den) (m : MA) : ME := fun s Q X => mCall G m s Q fun _ _ => False
def mRng1 (m : MA) : MI := fun s Q X => m s (fun rs s1 => match dats rs with
  | some [.int j] => -(2 ^ 62) ≤ j ∧ j < 2 ^ 62 ∧ Q (intsFrom 0 j.toNat) s1
  | _ => False) X
def mRng2 (m : MA) : MI := fun s Q X => m s (fun rs s1 => match dats rs with
  | some [.int i, .int j] => (-(2 ^ 62) ≤ i ∧ i < 2 ^ 62 ∧ -(2 ^ 62) ≤ j ∧ j < 2 ^ 62) ∧ Q (intsFrom i (j - i).toNat) s1
  | _ => False) X
/-- two parameters, the other way round -/
def swap2 (G : Den) : Den := fun os n Q X => match os with
  | [a, b] => G [b, a] n (fun o os' n' => match os' with
    | [c, d] => Q o [d, c] n'
    | _ => False) (fun C os' n' => match os' with
    | [c, d] => X C [d, c] n'
    | _ => False)
  | _ => False
/-- t[::-1] -/
def fRev : PyData → FO
  | .tuple ds, Q => Q (.dat (.tuple ds.reverse))
  | _, _ => False
section
variable {K : PySem.W.Frag} {T : List (Addr × Str)} {W : WX}
end
/-! ### items of a list of one's own -/
def mLPut (i : Nat) (mk mv : MD) : MS := fun s k => mv s (fun d s1 => isLst s1 i ∧ mk s1 (fun y s2 => match s2.env[i]?, y with
  | some (some (.lst ds)), .int j => match ixN ds.length j with
    | some n => k.nx (putO s2 i (.lst (ds.set n d)))
    | none => False
  | _, _ => False) k.er) k.er
theorem dps_set {K : PySem.W.Frag} {F : Hp} : ∀ {vs : List V} {ds : List PyData} (n : Nat) {v : V} {d : PyData}, DqAll K F vs ds → Dq K F v d → DqAll K F (vs.set n v) (ds.set n d)
  | _, _, _, _, _, .nil, _ => .nil
  | _, _, 0, _, _, .cons _ r, h => .cons h r
  | _, _, n + 1, _, _, .cons q r, h => .cons q (dps_set n r h)
section
variable {K : PySem.W.Frag} {T : List (Addr × Str)} {W : WX}
theorem sim_lput {ty tv : TE} {i : Nat} {mk mv : MD} (hk : SimD K T W ty mk) (hv : SimD K T W tv mv) : SimS K T W (tAsg tv (gSub (tVar i) ty rSetL)) (mLPut i mk mv) := fun σ0 σ H s R fps I D k hm x => by
  refine hv σ0 σ H s R fps I _ k.er hm x.xok _ fun v H1 s1 d fps1 g1 hd q => ?_
  obtain ⟨i1, q⟩ := q
  obtain ⟨ds0, e0⟩ := isLst_yes i1
  obtain ⟨v0, hv0, hA0⟩ := g1.iv.at_ i _ e0
  cases hA0 with
  | lst hA hd0 hz =>
    refine ⟨_, hv0, ?_⟩
    refine hk σ0 σ H1 s1 R fps1 g1.iv _ k.er q (x.go g1).xok _ fun y H2 s2 ky fps2 g2 hy q => ?_
    split at q
    · rename_i ds j e1
      split at q
      · rename_i n hn
        obtain rfl := dp_int hy
        have hA2 := g2.iv.slotv e1 hv0
        cases hA2 with
        | lst hA2 hd2 hz2 =>
          obtain ⟨fps3, G3, _⟩ := mutL_go (g1.trans g2) hv0 e1 hA2 (dps_set n hd2 (dp_ex g2.gr _ _ hd))
          exact ⟨_, _, j, n, rfl, rfl, hA2, by rw [dps_len hd2]; exact hn, x.nx _ _ _ fps3 G3 q⟩
      · exact q.elim
    · exact q.elim
/-- d[k] -/
def mGetD (m : ME) (mk : MD) : ME := fun s Q X => m s (fun r s1 => mk s1 (fun k s2 => match dctOf s2 r, keyOf k with
  | some kvs, some k => match getK kvs k with
    | some d => Q (.val (.dat d)) s2
    | none => False
  | _, _ => False) X) X
end
end Mk

/-! part MkF -/
/-! Mk, part 15: packaged rules of parts 14: reversed tuples, items stored, dicts read, names in another order, sorted sets, what is caught. -/
namespace Mk
open PySem PySem.Spec PyProof.Rows L2 Evl Lk LamX
section
variable {K : PySem.W.Frag}
theorem dpsI {F : Hp} : ∀ (l : List Int), DqAll K F (l.map V.int) (l.map PyData.int)
  | [] => .nil
  | i :: l => .cons (.int i) (dpsI l)
end
section
variable {X : Cx} {K : PySem.W.Frag} {T : List (Addr × Str)} {W : WX} {a b c e o : Expr} {es : List Expr} {ta tb tc te to : TE} {ma mb mc me mo : ME} {pos p1 p2 p3 : Pos} {tr : TA} {mr : MA} {k : Nat}
/-- l[i] = v -/
theorem s_lput {i : Nat} {x : Str} {k v : Expr} {xp pos' : Pos} {tk tv : TE} {mk mv : ME} (hN : X.N[i]? = some x) (hv : Vis X.env.scope x) (hd : (x == ("__debug__" : Str)) = false) (hcd : (x == ("__classdict__" : Str)) = false) (hk : QE X K T W k tk mk) (hx : QE X K T W v tv mv)
    (ha : ∀ v, assign (.Subscript (.Name x xp) k pos') X.env v = (do
      let ov ← holding [v] (eval (.Name x xp) X.env)
      let iv ← holding [v, ov] (eval k X.env)
      standAt pos'
      holding [v, ov, iv] (setItem ov iv v)
      release [v, ov, iv] []) := by intro _; rfl)
    (hs : swapsWithSole [.Subscript (.Name x xp) k pos'] v pos.line X.env = pure false := by rfl) (hw : swappedStores [.Subscript (.Name x xp) k pos'] v X.env = pure none := by rfl)
    (h1 : (assignEach [.Subscript (.Name x xp) k pos'] X.env).map (·.2) = [assign (.Subscript (.Name x xp) k pos') X.env] := by rfl) : QS X K T W (.Assign [.Subscript (.Name x xp) k pos'] v pos) (tAsg tv (gSub (tVar i) tk rSetL)) (mLPut i (mD mk) (mD mv)) :=
  ⟨ps_asg hx.p (pg_sub (pe_var hN hv hd hcd) hk.p set_list ha) hs hw h1, sim_lput (sim_d hk.s) (sim_d hx.s)⟩
end
section
variable {X : Cx} {K : PySem.W.Frag} {T : List (Addr × Str)} {W : WX} {a b c : Expr} {pos : Pos} {tr : TA} {mr : MA}
theorem sim_par3 {i j l : Nat} {ta : TA} {m : MA} (h : SimA K T W ta m) : SimS K T W (tPar3 i j l ta) (mPar [i, j, l] m) := fun σ0 σ H s R fps I D k hm x =>
  h σ0 σ H s R fps I _ k.er hm x.xok _ fun vs H1 s1 rs fl fps1 g hr ap nR q => by
    obtain ⟨s2, fps2, G, q2, hl⟩ := puts_go [i, j, l] vs rs fl σ s1 fps1 _ g hr ap nR q
    match vs, hl with
    | [v, w, u], _ => exact ⟨v, w, u, rfl, x.nx _ H1 s2 fps2 G q2⟩
/-- a, b, c = x, y, z -/
theorem s_par3 {i j l : Nat} {x y z : Str} {px py pz pt : Pos} {kt k2 pt2} (hc : X.calm = true) (hN : X.N.Nodup) (hi : X.N[i]? = some x) (hj : X.N[j]? = some y) (hl : X.N[l]? = some z) (hij : i ≠ j) (hil : i ≠ l) (hjl : j ≠ l)
    (hx : X.env.scope.names.lookup x = some .local) (hy : X.env.scope.names.lookup y = some .local) (hz : X.env.scope.names.lookup z = some .local) (ha : QA X K T W [a, b, c] tr mr)
    (hw : swappedStores [.Tuple [.Name x px, .Name y py, .Name z pz] kt pt] (.Tuple [a, b, c] k2 pt2) X.env = pure (some [x, y, z]))
    (hs : swapsWithSole [.Tuple [.Name x px, .Name y py, .Name z pz] kt pt] (.Tuple [a, b, c] k2 pt2) pos.line X.env = pure false := by rfl) :
    QS X K T W (.Assign [.Tuple [.Name x px, .Name y py, .Name z pz] kt pt] (.Tuple [a, b, c] k2 pt2) pos) (tPar3 i j l tr) (mPar [i, j, l] mr) := ⟨ps_par3 hc hN hi hj hl hij hil hjl hx hy hz ha.p hw hs, sim_par3 ha.s⟩
end
/-! ### two names, the other way round -/
section
variable {K : PySem.W.Frag} {T : List (Addr × Str)} {σ : L2.St} {H H' : Hp} {n n' : Nat} {x y : Option V} {a b : Option O} {R : Ad} {f f' : Nat → Ad}
end
section
variable {K : PySem.W.Frag} {T : List (Addr × Str)} {W : WX}
theorem sim_callP {G : Den} {ta : TA} {m : MA} {B : List V → Hp → VK → Prop} (hB : ∀ vs H Q, spM K T G vs H Q E0 → B vs H Q) (ha : SimA K T W ta m) : SimE K T W (fun σ H Q => ta σ H fun vs H1 => B vs H1 Q) (mCall0 G m) := by
  intro σ0 σ H s R fps I Qm Xm hm hx Q hQ
  refine ha σ0 σ H s R fps I _ (fun _ _ => False) hm (fun _ _ _ _ _ z => z.elim) _ fun vs H1 s1 rs l fps1 g hrs ap nR q => hB _ _ _ ?_
  split at q
  · rename_i os e
    obtain ⟨nd, q⟩ := q
    obtain ⟨I1, eW⟩ := call_in g.iv hrs e ap nd
    refine ⟨os, s1.n, _, _, _, _, I1, q, fun v H2 o os' n' fp fpc g2 hA nfp z => ?_, fun C H2 os' n' fpc g2 z => z.elim⟩
    obtain ⟨fps2, g3, gs, nf⟩ := call_out g hrs nR e ap nd g2 nfp
    obtain ⟨b1, b2, b3⟩ := backs_len rs os' ⟨s1.env, n', s1.bor⟩
    refine hQ v H2 _ (.val o) fp fps2 g3 (.val ?_) nf z
    rw [b2]
    exact hA.keep gs (fun _ _ => rfl) (Nat.le_refl _)
  · exact q.elim
end
/-- .. called so -/
structure Cdv (P : Program) (w : World) (K : PySem.W.Frag) (mg : Str → Option Value) (base : Heap) (T : List (Addr × Str)) (k : Nat) (x : Str) (ks : List Str) (G : Den) : Prop where
  ex : ∃ (f : Addr) (fd : FuncData) (ps : List Str), FnOk P w K mg base (L2.CX P w) k f fd ps (spM K T G) ∧ mg x = some (.ref f) ∧ PySem.W.keepIn K (.ref f) = true ∧ KBinds K fd ps ks (fun us ws => us ++ ws.reverse) (fun vs zs => vs ++ zs.reverse)
section
variable {X : Cx} {K : PySem.W.Frag} {T : List (Addr × Str)} {W : WX} {k j : Nat} {x : Str} {G : Den} {p pos : Pos} {kws : List Keyword} {ks : List Str} {tr : TA} {mr : MA}
end
end Mk

/-! part MkH -/
/-! Mk, part 20: whether what was caught is None. -/
namespace Mk
open PySem PySem.Spec PyProof.Rows L2 Evl Lk LamX
def mIsNone (neg : Bool) (m : ME) : ME := fun s Q X => m s (fun r s1 => match r with
  | .val (.exc _) => Q (.val (.dat (.bool neg))) s1
  | .val (.dat .none) => Q (.val (.dat (.bool (!neg)))) s1
  | _ => False) X
section
variable {K : PySem.W.Frag} {T : List (Addr × Str)} {W : WX} {X : Cx}
variable {a : Expr} {ta : TE} {ma : ME} {pos p : Pos}
def noneK (neg : Bool) (r : Rs) (s : S) (P : Rs → S → Prop) : Prop := match r with
  | .val (.exc _) => P (.val (.dat (.bool neg))) s
  | .val (.dat .none) => P (.val (.dat (.bool (!neg)))) s
  | _ => False
theorem x_isNone {neg : Bool} {m : ME} {s : S} {P : Rs → S → Prop} {Y : XM} (h : m s (fun r s1 => noneK neg r s1 P) Y) : mIsNone neg m s P Y := h
theorem x_noneX {neg : Bool} {C : Exn} {s : S} {P : Rs → S → Prop} (h : P (.val (.dat (.bool neg))) s) : noneK neg (.val (.exc C)) s P := h
theorem x_noneN {neg : Bool} {s : S} {P : Rs → S → Prop} (h : P (.val (.dat (.bool (!neg)))) s) : noneK neg (.val (.dat .none)) s P := h
end
end Mk

/-! part MkI -/
/-! Mk, part 21: enumerate, of a list or of a tuple. -/
namespace Mk
open PySem PySem.Spec PyProof.Rows L2 Evl Lk LamX
section
variable {prog : Program} {w : World} {A : Around} {E Q : Value → Shared → Prop} {s : Shared}
end
/-- a list's items with their places -/
def enumD : Int → List PyData → List PyData
  | _, [] => []
  | k, d :: ds => .tuple [.int k, d] :: enumD (k + 1) ds
section
variable {K : PySem.W.Frag} {T : List (Addr × Str)} {W : WX}
def listOf : PyData → Option (List PyData)
  | .list ds => some ds
  | .tuple ds => some ds
  | _ => none
def mEnum (m : ME) : MI := fun s Q X => mD m s (fun d s1 => match listOf d with
  | some ds => Q (enumD 0 ds) s1
  | none => False) X
variable {X : Cx} {e : Expr} {te : TE} {me : ME} {p pos tpos : Pos} {elts : List Expr} {kk : Nat}
end
end Mk

/-! part MkJ -/
/-! Mk, part 22: greatest, least, sorted, joined texts, texts in capitals, the place in a list. -/
namespace Mk
open PySem PySem.Spec PyProof.Rows L2 Evl Lk LamX
/-- one value handed in -/
theorem ps_one {K : PySem.W.Frag} {r : List V → Hp → VK → Prop} {f : PyData → FO} (h : ∀ F H x d Qo Q, Ex F H → VAt K F H x d → f d Qo → (∀ v H' o, Res K F H v H' o → Qo o → Q v H') → r [x] H Q) : PSim K r (fl1 f) := by
  intro F H vs ds Qo Q ex hv hf k
  cases hv with
  | nil => exact hf.elim
  | cons h1 h2 =>
    cases h2 with
    | cons _ _ => exact hf.elim
    | nil => exact h F H _ _ Qo Q ex h1 hf k
/-- two values handed in -/
theorem ps_two {K : PySem.W.Frag} {r : List V → Hp → VK → Prop} {f : PyData → PyData → FO} (h : ∀ F H x y d e Qo Q, Ex F H → VAt K F H x d → VAt K F H y e → f d e Qo → (∀ v H' o, Res K F H v H' o → Qo o → Q v H') → r [x, y] H Q) : PSim K r (fl2 f) := by
  intro F H vs ds Qo Q ex hv hf k
  cases hv with
  | nil => exact hf.elim
  | cons h1 h2 =>
    cases h2 with
    | nil => exact hf.elim
    | cons h2 h3 =>
      cases h3 with
      | cons _ _ => exact hf.elim
      | nil => exact h F H _ _ _ _ Qo Q ex h1 h2 hf k
section
variable {K : PySem.W.Frag}
/-! ### max, min -/
def fMax2 : PyData → PyData → FO
  | .int i, .int j, Q => Q (.dat (.int (if j > i then j else i)))
  | _, _, _ => False
theorem ps_max2 : PSim K (fun xs H Q => ∃ i j, xs = [.int i, .int j] ∧ Q (.int (if j > i then j else i)) H) (fl2 fMax2) := ps_two fun F H x y d e Qo Q ex hx hy hf k => by
  cases d <;> cases e <;> first
    | exact hf.elim
    | skip
  obtain rfl := hx.int
  obtain rfl := hy.int
  exact ⟨_, _, rfl, k _ _ _ (.dat (.int _)) hf⟩
/-! ### sorted -/
def fSortI : PyData → FO
  | .list ds, Q => ∃ ns : List Int, ds = ns.map PyData.int ∧ ns.length < 64 ∧ ∀ out : List Int, out.Perm ns → out.Pairwise (· ≤ ·) → Q (.lst (out.map PyData.int))
  | _, _ => False
theorem ps_sorted : PSim K (L2.rSorted K) (fl1 fSortI) := ps_one fun F H x d Qo Q ex hx hf k => by
  cases d <;> first
    | exact hf.elim
    | skip
  obtain ⟨ns, rfl, hl, hf⟩ := hf
  obtain ⟨a, xs, rfl, h3, h4⟩ := hx.list ex
  obtain rfl := dps_ints_of h4
  exact ⟨a, ns, rfl, h3, hl, fun out p h1 h2 hp => k _ _ _ (.lst hp (dpsI out)) (hf out h1 h2)⟩
/-! ### texts -/
variable {X : Cx} {T : List (Addr × Str)} {W : WX} {e : Expr} {te : TE} {me : ME} {pos apos p : Pos}
end
end Mk

/-! part MkK -/
/-! Mk, part 23: the place of a thing in a list. -/
namespace Mk
open PySem PySem.Spec PyProof.Rows L2 Evl Lk LamX
def indexK (r : Rs) (d : PyData) (s : S) (P : Rs → S → Prop) : Prop := match rd s r with
  | some (.list ds) => SeqAt.shaped (.list ds) = true ∧ SeqAt.shaped d = true ∧ ∃ j z, ds[j]? = some z ∧ PyData.eqv z d = true ∧ (∀ (m : Nat) (z' : PyData), m < j → ds[m]? = some z' → PyData.eqv z' d = false) ∧ P (.val (.dat (.int (j : Nat)))) s
  | _ => False
def mIndex (mo : ME) (ma : MD) : ME := fun s Q X => mo s (fun r s1 => (∃ ds, rd s1 r = some (.list ds)) ∧ ma s1 (fun d s2 => indexK r d s2 Q) X) X
section
variable {K : PySem.W.Frag} {T : List (Addr × Str)} {W : WX} {X : Cx} {o e : Expr} {to te : TE} {mo me : ME} {apos cpos : Pos}
end
end Mk

/-! part MkL -/
/-! Mk, part 24: isinstance of one of two types. -/
namespace Mk
open PySem PySem.Spec PyProof.Rows L2 Evl Lk LamX
section
variable {K : PySem.W.Frag} {T : List (Addr × Str)} {W : WX} {X : Cx} {e : Expr} {te : TE} {me : ME} {pos : Pos}
end
end Mk

/-! part MkG -/
/-! Mk, part 16: the head: what the top has written, contracts of defs, the law's call. -/
namespace Mk
open PySem PySem.Spec PyProof.Rows L2 Evl Lk LamX
theorem dps_zip {K : PySem.W.Frag} {F : Hp} : ∀ {vs : List V} {ds : List PyData}, vs.length = ds.length → (∀ p ∈ vs.zip ds, Dq K F p.1 p.2) → DqAll K F vs ds
  | [], [], _, _ => .nil
  | v :: vs, d :: ds, l, h => .cons (h (v, d) List.mem_cons_self) (dps_zip (by simpa using l) fun p hp => h p (List.mem_cons_of_mem _ hp))
theorem datB_ok {K : PySem.W.Frag} : ∀ (n : Nat) {v : V} {d : PyData}, datB K n v d = true → ∀ F, Dq K F v d
  | 0, _, _, h, _ => by cases h
  | n + 1, v, d, h, F => by
    unfold datB at h
    split at h
    · exact .non
    · obtain rfl := eq_of_beq h
      exact .bl _
    · obtain rfl := of_decide_eq_true h
      exact .int _
    · obtain rfl := of_decide_eq_true h
      exact .str _
    · split at h
      · rename_i c od its m sl q
        simp only [Bool.and_eq_true, decide_eq_true_eq] at h
        obtain ⟨rfl, h2, h3, h4, h5⟩ := h
        have hs : SqT K F _ (its.toList.map toV) := .inr ⟨_, its, m, q, rfl, rfl, h2, He.relAll_ok h3⟩
        exact .tup hs (dps_zip (by rw [List.length_map]; exact h4) fun p hp => datB_ok n (List.all_eq_true.mp h5 p hp) F)
      · cases h
    · cases h
theorem lam_one {T : List (Addr × Str)} (nd : (T.map (·.1)).Nodup) {a : Addr} {q : Str} (h : (a, q) ∈ T) : ∀ p ∈ T, p.1 = a → p.2 = q := by
  induction T with
  | nil => cases h
  | cons t T ih =>
    rw [List.map_cons, List.nodup_cons] at nd
    intro p hp e
    rcases List.mem_cons.mp h with h' | h'
    · rcases List.mem_cons.mp hp with hp | hp
      · subst hp; rw [← h']
      · exact (nd.1 (by rw [← h']; show a ∈ T.map (·.1); rw [← e]; exact List.mem_map_of_mem (f := fun z : Addr × Str => z.1) hp)).elim
    · rcases List.mem_cons.mp hp with hp | hp
      · subst hp
        exact (nd.1 (by rw [e]; exact List.mem_map_of_mem (f := fun z : Addr × Str => z.1) h')).elim
      · exact ih nd.2 h' p hp e
section
variable {P : Program} {w : World} {K : PySem.W.Frag} {mg : Str → Option Value} {base : Heap} {T : List (Addr × Str)} {CX : CXT} {k : Nat} {x : Str} {sp : Sp} {f : Addr} {fd : FuncData} {ps ks : List Str} {G : Den}
theorem cd_mk (o : FnOk P w K mg base (L2.CX P w) k f fd ps (spM K T G)) (g : mg x = some (.ref f)) (kp : PySem.W.keepIn K (.ref f) = true) (b : L2.Binds K fd ps []) : Cd P w K mg base T k x G := ⟨_, _, _, o, g, kp, b⟩
theorem cdk_mk (o : FnOk P w K mg base (L2.CX P w) k f fd ps (spM K T G)) (g : mg x = some (.ref f)) (kp : PySem.W.keepIn K (.ref f) = true) (b : KBinds K fd ps ks (fun us ws => us ++ ws) (fun vs zs => vs ++ zs)) : Cdk P w K mg base T k x ks G := ⟨_, _, _, o, g, kp, b⟩
/-- the law's own call -/
theorem sp_law {H : Hp} {a : Addr} {ns : List Int} (t : Tabs T H) (hl : SqL K H a (ns.map V.int))
    (h : G [.dat (.list (ns.map PyData.int))] 0 (fun o _ _ => o = .dat (.bool true)) (fun _ _ _ => False)) : spM K T G [.ref a] H (fun v _ => v = .bl true) fun _ _ _ => False := by
  have hl2 : SqL K (hid (Wf nol fun _ => nol) H) a (ns.map V.int) := by
    have nW : ∀ b, ¬ Wf nol (fun _ => nol) b := fun b z => z.elim id fun ⟨_, z⟩ => z
    rcases hl with (hl | ⟨o, hl⟩) | hl
    · exact .inl (.inl (hid_some.mpr ⟨hl, nW _, fun _ z => nomatch z⟩))
    · exact .inl (.inr ⟨o, hid_some.mpr ⟨hl, nW _, fun _ z => nomatch z⟩⟩)
    · exact .inr hl
  refine ⟨_, 0, nol, fun _ => nol, _, _, ⟨rfl, fun i o e => ?_, fun _ _ _ z => z, fun _ _ _ z => z.elim, fun _ _ z => z.elim, fun _ z => z.elim, t, fun _ z => nomatch z⟩, h, fun v H' o os' n' fp fps' _ hA _ q => ?_, fun _ _ _ _ _ _ z => z.elim⟩
  · match i, e with
    | 0, e =>
      cases e
      exact ⟨.ref a, rfl, .dat (.lst hl2 (dpsI ns)) fun _ z => z⟩
    | _ + 1, e => cases e
  · subst q
    cases hA with
    | dat h _ => exact dp_bool h
end
end Mk

/-! part MkM -/
/-! Mk, part 26: calls that name their values in another order (the order is its own inverse). -/
namespace Mk
open PySem PySem.Spec PyProof.Rows L2 Evl Lk LamX
/-- an order that undoes itself -/
structure Invo (p : List Nat) : Prop where
  lt : ∀ i ∈ p, i < p.length
  inv : ∀ i, i < p.length → p.getD (p.getD i 0) 0 = i
def permL {α : Type} (p : List Nat) (d : α) (l : List α) : List α := p.map fun i => l.getD i d
def permF (p : List Nat) (f : Nat → Ad) : Nat → Ad := fun i => if i < p.length then f (p.getD i 0) else f i
section
variable {p : List Nat}
theorem Invo.at_lt (h : Invo p) {i : Nat} (hi : i < p.length) : p.getD i 0 < p.length := by
  rw [List.getD_eq_getElem?_getD, List.getElem?_eq_getElem hi]
  exact h.lt _ (List.getElem_mem hi)
theorem permL_len {α : Type} {d : α} {l : List α} : (permL p d l).length = p.length := List.length_map _
theorem permL_at {α : Type} {d : α} {l : List α} {i : Nat} (hi : i < p.length) : (permL p d l)[i]? = some (l.getD (p.getD i 0) d) := by
  unfold permL
  rw [List.getElem?_map, List.getElem?_eq_getElem hi, List.getD_eq_getElem?_getD (l := p), List.getElem?_eq_getElem hi]
  rfl
theorem permL_get {α : Type} {d : α} {l : List α} (h : Invo p) (hl : l.length = p.length) {i : Nat} (hi : i < p.length) : (permL p d l)[i]? = l[p.getD i 0]? := by
  have := h.at_lt hi
  rw [permL_at hi, List.getD_eq_getElem?_getD, List.getElem?_eq_getElem (by omega)]
  rfl
theorem permL_permL {α : Type} {d : α} {l : List α} (h : Invo p) (hl : l.length = p.length) : permL p d (permL p d l) = l := by
  refine List.ext_getElem? fun i => ?_
  by_cases hi : i < p.length
  · rw [permL_get h permL_len hi, permL_get h hl (h.at_lt hi), h.inv i hi]
  · rw [List.getElem?_eq_none (by rw [permL_len]; omega), List.getElem?_eq_none (by omega)]
theorem permL_map {α β : Type} {d : α} {e : β} {l : List α} (f : α → β) (h : Invo p) (hl : l.length = p.length) : permL p e (l.map f) = (permL p d l).map f := by
  refine List.ext_getElem? fun i => ?_
  by_cases hi : i < p.length
  · rw [permL_get h (by rw [List.length_map]; exact hl) hi, List.getElem?_map, List.getElem?_map, permL_get h hl hi]
  · rw [List.getElem?_eq_none (by rw [permL_len]; omega), List.getElem?_eq_none (by rw [List.length_map, permL_len]; omega)]
theorem permF_permF (h : Invo p) (f : Nat → Ad) : permF p (permF p f) = f := by
  funext i
  unfold permF
  by_cases hi : i < p.length
  · rw [if_pos hi, if_pos (h.at_lt hi), h.inv i hi]
  · rw [if_neg hi, if_neg hi]
theorem wf_perm (h : Invo p) {R : Ad} {f : Nat → Ad} : Wf R (permF p f) = Wf R f := by
  have one : ∀ {g : Nat → Ad} {a : Addr}, Wf R (permF p g) a → Wf R g a := fun {g a} z => z.imp id fun ⟨i, q⟩ => by
    unfold permF at q
    split at q
    · exact ⟨_, q⟩
    · exact ⟨_, q⟩
  funext a
  refine propext ⟨one, fun z => one ?_⟩
  rw [permF_permF h]
  exact z
def swapP (p : List Nat) (G : Den) : Den := fun os n Q X => os.length = p.length ∧ G (permL p .st os) n (fun o os' n' => os'.length = p.length ∧ Q o (permL p .st os') n') (fun C os' n' => os'.length = p.length ∧ X C (permL p .st os') n')
variable {K : PySem.W.Frag} {T : List (Addr × Str)} {σ0 σ : L2.St} {H H' : Hp} {n n' : Nat} {e e' : List (Option O)} {R R' : Ad} {f f' : Nat → Ad}
theorem iv_perm (h : Invo p) (l0 : σ0.length = p.length) (l : σ.length = p.length) (I : Iv K T σ0 σ H ⟨e, n, []⟩ R f) : Iv K T (permL p none σ0) (permL p none σ) H ⟨permL p none e, n, []⟩ R (permF p f) := by
  have le : e.length = p.length := I.len.symm.trans l
  refine ⟨by rw [permL_len]; exact permL_len.symm, fun i o q => ?_, fun i q a z => ?_, fun i j a y z => ?_, fun i a y z => ?_, I.liv, I.tab, fun _ z => nomatch z⟩
  · have q : (permL p none e)[i]? = some (some o) := q
    by_cases hi : i < p.length
    · rw [permL_get h le hi] at q
      obtain ⟨v, h1, h2⟩ := I.at_ _ o q
      refine ⟨v, by rw [permL_get h l hi]; exact h1, ?_⟩
      rw [wf_perm h]
      unfold permF
      rw [if_pos hi]
      exact h2
    · rw [List.getElem?_eq_none (by rw [permL_len]; omega)] at q
      cases q
  · unfold permF at z
    by_cases hi : i < p.length
    · rw [if_pos hi] at z
      refine I.emp _ (fun o r => q o ?_) a z
      show (permL p none e)[i]? = _
      rw [permL_get h le hi]
      exact r
    · rw [if_neg hi] at z
      refine I.emp _ (fun o r => ?_) a z
      have r : e[i]? = some (some o) := r
      rw [List.getElem?_eq_none (by omega)] at r
      cases r
  · unfold permF at y z
    by_cases hi : i < p.length <;> by_cases hj : j < p.length
    · rw [if_pos hi] at y
      rw [if_pos hj] at z
      have := I.dis _ _ a y z
      rw [← h.inv i hi, ← h.inv j hj, this]
    · rw [if_pos hi] at y
      rw [if_neg hj] at z
      have := I.dis _ _ a y z
      have := h.at_lt hi
      omega
    · rw [if_neg hi] at y
      rw [if_pos hj] at z
      have := I.dis _ _ a y z
      have := h.at_lt hj
      omega
    · rw [if_neg hi] at y
      rw [if_neg hj] at z
      exact I.dis _ _ a y z
  · unfold permF at y
    split at y
    · exact I.disR _ a y z
    · exact I.disR _ a y z
theorem go_perm (h : Invo p) (l0 : σ0.length = p.length) (l : σ.length = p.length) (g : Go K T σ0 H ⟨e, n, []⟩ R f σ H' ⟨e', n', []⟩ R' f') : Go K T (permL p none σ0) H ⟨permL p none e, n, []⟩ R (permF p f) (permL p none σ) H' ⟨permL p none e', n', []⟩ R' (permF p f') :=
  ⟨iv_perm h l0 l g.iv, g.kp, by rw [wf_perm h, wf_perm h]; exact g.gr, rfl, g.le, g.sb⟩
theorem sp_perm {G : Den} {vs : List V} {Q : VK} {E : XK} (h : Invo p) (z : spM K T (swapP p G) vs H Q E) : spM K T G (permL p .non vs) H Q E := by
  obtain ⟨os, n, R, fps, Qm, Xm, I, ⟨lo, hm⟩, hQ, hE⟩ := z
  have lv : vs.length = p.length := by
    have := I.len
    rw [List.length_map, List.length_map] at this
    omega
  have lm : (vs.map some).length = p.length := by rw [List.length_map]; exact lv
  have em : permL p none (vs.map some) = (permL p .non vs).map some := permL_map some h lv
  have eo : ∀ {l : List O}, l.length = p.length → permL p none (l.map some) = (permL p .st l).map some := fun hl => permL_map some h hl
  refine ⟨permL p .st os, n, R, permF p fps, _, _, by rw [← em, ← eo lo]; exact iv_perm h lm lm I, hm, fun u H' o os' n' fp fps' g ha nR q => ?_, fun C H' os' n' fps' g q => ?_⟩
  · obtain ⟨l', q⟩ := q
    have g2 := go_perm (p := p) h (by rw [List.length_map, permL_len]) (by rw [List.length_map, permL_len]) g
    rw [permF_permF h, ← em, permL_permL h lm, ← eo lo, permL_permL h (by rw [List.length_map]; exact lo), eo l'] at g2
    refine hQ u H' o (permL p .st os') n' fp (permF p fps') g2 ?_ nR q
    rw [wf_perm h]
    exact ha
  · obtain ⟨l', q⟩ := q
    have g2 := go_perm (p := p) h (by rw [List.length_map, permL_len]) (by rw [List.length_map, permL_len]) g
    rw [permF_permF h, ← em, permL_permL h lm, ← eo lo, permL_permL h (by rw [List.length_map]; exact lo), eo l'] at g2
    exact fun dd hd => hE C H' (permL p .st os') n' (permF p fps') g2 q dd (by rw [wf_perm h]; exact hd)
end
/-! ### the call -/
def ordP {α : Type} (p : List Nat) (d : α) (us ws : List α) : List α := if us.length = 0 ∧ ws.length = p.length then permL p d ws else []
theorem vals_perm {zs : List V} {ws : List Value} (h : Vals zs ws) : ∀ {q : List Nat}, (∀ i ∈ q, i < zs.length) → Vals (q.map fun i => zs.getD i .non) (q.map fun i => ws.getD i .none)
  | [], _ => .nil
  | i :: q, hq => by
    have hi := hq i List.mem_cons_self
    obtain ⟨u, hu, ru⟩ := h.get (List.getElem?_eq_getElem hi)
    refine .cons ?_ (vals_perm h fun j hj => hq j (List.mem_cons_of_mem _ hj))
    show RelV (zs.getD i .non) (ws.getD i .none)
    rw [List.getD_eq_getElem?_getD, List.getD_eq_getElem?_getD, List.getElem?_eq_getElem hi, hu]
    exact ru
/-- .. called so -/
structure Cdp (P : Program) (w : World) (K : PySem.W.Frag) (mg : Str → Option Value) (base : Heap) (T : List (Addr × Str)) (k : Nat) (x : Str) (ks : List Str) (p : List Nat) (G : Den) : Prop where
  ok : Invo p
  ex : ∃ (f : Addr) (fd : FuncData) (ps : List Str), FnOk P w K mg base (L2.CX P w) k f fd ps (spM K T G) ∧ mg x = some (.ref f) ∧ PySem.W.keepIn K (.ref f) = true ∧ KBinds K fd ps ks (ordP p .none) (ordP p .non)
section
variable {P : Program} {w : World} {K : PySem.W.Frag} {mg : Str → Option Value} {base : Heap} {T : List (Addr × Str)} {f : Addr} {fd : FuncData} {ps : List Str}
variable {X : Cx} {W : WX} {k j : Nat} {x : Str} {ks : List Str} {p : List Nat} {G : Den} {pn pos : Pos} {kws : List Keyword} {tr : TA} {mr : MA}
theorem cdp_mk (h : Invo p) (o : FnOk P w K mg base (L2.CX P w) k f fd ps (spM K T G)) (g : mg x = some (.ref f)) (kp : PySem.W.keepIn K (.ref f) = true) (b : KBinds K fd ps ks (ordP p .none) (ordP p .non)) : Cdp P w K mg base T k x ks p G := ⟨h, _, _, _, o, g, kp, b⟩
theorem kbindsP {qual : Str} {params : Arguments} {body : List Stmt} {scope : Scope} (F : FunD K x qual params body scope [] [] f fd) (h : Invo p) (hp : p.length = ps.length) (h0 : 0 < ps.length)
    (hb : ∀ (kV doc pm : Value) (an : Option Addr) (cdv ct : Value) (ws : List Value), ws.length = p.length → bindArgs (PySem.W.fnOf x qual params body scope .none kV doc pm an cdv ct) ⟨[], ks.zip ws⟩ = pure (ps.zip (permL p .none ws))) :
    KBinds K fd ps ks (ordP p .none) (ordP p .non) := by
  obtain ⟨oc, od, dV, kV, doc, pm, an, cdv, ct, osl, rfl, lk, hcd, hD, hK⟩ := F.ex
  rcases hD with ⟨_, rfl⟩ | ⟨e, _⟩
  · refine ⟨fun s us ws _ hl => ?_, fun {vs us zs ws} r rz => ?_⟩
    · unfold ordP at hl ⊢
      by_cases c : us.length = 0 ∧ ws.length = p.length
      · rw [if_pos c]
        obtain rfl := List.eq_nil_of_length_eq_zero c.1
        exact .of_eq (hb kV doc pm an cdv ct ws c.2)
      · rw [if_neg c, List.length_nil] at hl
        omega
    · unfold ordP
      have l1 := r.length
      have l2 := rz.length
      by_cases c : us.length = 0 ∧ ws.length = p.length
      · rw [if_pos c, if_pos (by omega)]
        exact vals_perm rz fun i hi => by have := h.lt i hi; omega
      · rw [if_neg c, if_neg (by omega)]
        exact .nil
  · exact absurd rfl e
theorem e_kwP (h : Cdp X.prog X.w X.K X.mg X.base T k x ks p G) (hr : Room j X.A) (hk : k ≤ j) (hg : Gl X x) (hkw : QK X K T W kws tr mr) (hK : X.K = K := by rfl)
    (hall : (backToKw pos (keywordEach kws X.env)).all (·.1.isSome) = true := by rfl) (hks : (backToKw pos (keywordEach kws X.env)).filterMap (·.1) = ks := by rfl) (hdb : (x == ("__debug__" : Str)) = false := by decide)
    (hpl : ((backTo pos (starEach [] X.env)).any (·.1) || (backToKw pos (keywordEach kws X.env)).any (·.1.isNone)) = false := by rfl) :
    QE X K T W (.Call (.Name x pn) [] kws pos) (tCallK (spM K T G) (ordP p .non) E0 tNil tr) (mCall0 (swapP p G) mr) := by
  subst hK
  obtain ⟨f, fd, ps, F, hm, kp, b⟩ := h.ex
  refine ⟨pe_kwOnly F (hr.mono hk) hg hm kp b passL hkw.p hall hks hdb hpl, ?_⟩
  refine sim_callP (B := fun zs H Q => spM X.K T G (ordP p .non [] zs) H Q E0) (fun vs H Q q => ?_) hkw.s
  have l : vs.length = p.length := by
    obtain ⟨os, n, R, fps, Qm, Xm, I, ⟨lo, _⟩, _, _⟩ := q
    have := I.len
    rw [List.length_map, List.length_map] at this
    omega
  have e : ordP p .non [] vs = permL p .non vs := by
    unfold ordP
    rw [if_pos ⟨rfl, l⟩]
  show spM X.K T G (ordP p .non [] vs) H Q E0
  rw [e]
  exact sp_perm h.ok q
end
end Mk

/-! part MkN -/
/-! Mk, part 27: lists of what was caught: [c], xs.append(c), xs[j]. -/
namespace Mk
open PySem PySem.Spec PyProof.Rows L2 Evl Lk LamX
/-- what was caught, of a result -/
def capt : Rs → Option (Option Addr)
  | .val (.exc (C, [])) => some (some C)
  | .val (.dat .none) => some none
  | _ => none
def ofCapt : Option Addr → Rs
  | some C => .val (.exc (C, []))
  | none => .val (.dat .none)
def mXs1 (m : ME) : ME := fun s Q X => m s (fun r s1 => match capt r with
  | some c => Q (.val (.xs [c])) s1
  | none => False) X
def isXs (s : S) (i : Nat) : Prop := match s.env[i]? with
  | some (some (.xs _)) => True
  | _ => False
def mXApp (i : Nat) (m : ME) : ME := fun s Q X => isXs s i ∧ m s (fun r s1 => match capt r, s1.env[i]? with
  | some c, some (some (.xs es)) => es.length < 100 ∧ Q (.val (.dat .none)) (putO s1 i (.xs (es ++ [c])))
  | _, _ => False) X
def mXIx (i j : Nat) : ME := fun s Q _ => match s.env[i]? with
  | some (some (.xs es)) => match es[j]? with
    | some c => Q (ofCapt c) s
    | none => False
  | _ => False
section
variable {K : PySem.W.Frag} {T : List (Addr × Str)} {W : WX} {σ0 σ : L2.St} {H H' H0 : Hp} {s s0 : S} {R fp : Ad} {fps fps0 : Nat → Ad} {v : V} {r : Rs} {c : Option Addr}
variable {X : Cx} {e : Expr} {te : TE} {me : ME} {pos p q : Pos}
end
end Mk

/-! part MkO -/
/-! Mk, part 27: comprehensions over a list of one's own, that stays one's own. -/
namespace Mk
open PySem PySem.Spec PyProof.Rows L2 Evl Lk LamX
section
variable {K : PySem.W.Frag} {T : List (Addr × Str)} {W : WX}
variable {X : Cx} {pos p : Pos} {te : TE} {me : ME}
end
end Mk

/-! part MkP -/
/-! Mk, part 28: zip of two, each a list or a tuple. -/
namespace Mk
open PySem PySem.Spec PyProof.Rows L2 Evl Lk LamX
/-- a list (true) or a tuple (false) -/
def SqB (b : Bool) (K : PySem.W.Frag) (H : Hp) (a : Addr) (xs : List V) : Prop := match b with
  | true => SqL K H a xs
  | false => SqT K H a xs
def ItB (b : Bool) (h : Heap) (it a : Addr) (i : Nat) : Prop := match b with
  | true => h.IsListIter it a i
  | false => h.IsTupleIter it a i
def seqB (b : Bool) (h : Heap) (a : Addr) (its : Array Value) : Prop := match b with
  | true => h.IsList a its
  | false => h.IsTuple a its
theorem sqB_ex {b : Bool} {K : PySem.W.Frag} {H H' : Hp} {a : Addr} {xs : List V} (e : Ex H H') (h : SqB b K H a xs) : SqB b K H' a xs := by
  cases b
  · exact ex_t e h
  · exact ex_l e h
theorem itB_at {b : Bool} {h h' : Heap} {it a : Addr} {i : Nat} (x : ItB b h it a i) (k : ∀ o, h.get? it = some o → h'.get? it = some o) : ItB b h' it a i := by
  cases b
  · exact Heap.IsTupleIter.at x k
  · exact Heap.IsListIter.at x k
theorem itB_obj {b : Bool} {h : Heap} {it a : Addr} {i : Nat} (x : ItB b h it a i) : ∃ o, h.get? it = some o ∧ ∀ v, o.data ≠ .cell v := by
  cases b
  · obtain ⟨o, ho, _, hd⟩ := x
    exact ⟨o, ho, fun v q => by rw [hd] at q; cases q⟩
  · obtain ⟨o, ho, _, hd⟩ := x
    exact ⟨o, ho, fun v q => by rw [hd] at q; cases q⟩
theorem drawsB {prog : Program} {w : World} {A : Around} (hh : A.handled = none) (b : Bool) (it l : Addr) (hne : l ≠ it) (items : Array Value) :
    Draws prog w A it [it, l] items.size (fun i v => items[i]? = some v) (fun i h => ItB b h it l i ∧ seqB b h l items) := by
  cases b
  · exact Draws.tuple hh it l hne items
  · exact Draws.list hh it l hne items
theorem drawsAt {prog : Program} {w : World} {A : Around} {i : Nat} {h : Heap} (hh : A.handled = none) (b : Bool) (it l : Addr) (hne : l ≠ it) (items : Array Value) (g : ItB b h it l i) (p : seqB b h l items) :
    ∃ (n : Nat) (P : Nat → Value → Prop) (S : Nat → Heap → Prop), Draws prog w A it [it, l] n P S ∧ S i h ∧ i ≤ n ∧ (items.size ≤ i → n = i) := by
  by_cases q : items.size ≤ i
  · refine ⟨i, fun _ _ => True, fun j h => (ItB b h it l j ∧ seqB b h l items) ∧ j = i, ?_, ⟨⟨g, p⟩, rfl⟩, Nat.le_refl _, fun _ => rfl⟩
    have D := drawsB (prog := prog) (w := w) hh b it l hne items
    exact
      { live := fun j h st => D.live j h st.1
        frame := fun j h h' st k => ⟨D.frame j h h' st.1 k, st.2⟩
        item := fun j s Q E hj st hQ => by have := st.2; omega
        done := fun s Q E st hE => by
          cases b
          · exact wpAny_nextOf_tuple_end hh st.1.1 st.1.2 (by simpa using q) hE
          · exact wpAny_nextOf_list_end hh st.1.1 st.1.2 (by simpa using q) hE }
  · exact ⟨items.size, _, _, drawsB hh b it l hne items, ⟨g, p⟩, by omega, fun z => (q z).elim⟩
theorem beginsB (b : Bool) (l : Addr) (items : Array Value) : ∃ o, Begins (.ref l) o (fun h => seqB b h l items) ∧ ∀ (h : Heap) (it : Addr), h.get? it = some o → ItB b h it l 0 := by
  cases b
  · exact ⟨_, begins_tuple l items, fun h it e => ⟨_, e, rfl, rfl⟩⟩
  · exact ⟨_, begins_list l items, fun h it e => ⟨_, e, rfl, rfl⟩⟩
section
variable {X : Cx} {pins : List (Addr × Obj)} {σ : L2.St} {H : Hp} {s : Shared}
theorem inv_seqB (I : Inv X pins σ H s) {b : Bool} {a : Addr} {xs : List V} (h : SqB b X.K H a xs) : ∃ its, Vals xs its ∧ seqB b s.heap a its.toArray ∧ a < s.heap.objs.size := by
  cases b
  · obtain ⟨its, rv, p, _⟩ := I.tuple h
    obtain ⟨o, ho, _⟩ := id p
    exact ⟨its, rv, p, Heap.lt_size ho⟩
  · obtain ⟨its, rv, p, _⟩ := I.list h
    exact ⟨its, rv, p.isList, p.lt⟩
theorem sqB_inj (I : Inv X pins σ H s) {b : Bool} {a : Addr} {xs ys : List V} (h : SqB b X.K H a xs) (g : SqB b X.K H a ys) : xs = ys := by
  cases b
  · exact I.tuple_inj h g
  · exact I.list_inj h g
end
/-- what the loop draws: pairs, each a new tuple -/
def ItzB (K : PySem.W.Frag) (b1 b2 : Bool) (a b : Addr) : It where
  go := fun i H => ∃ (xs ys : List V) (x y : V), SqB b1 K H a xs ∧ SqB b2 K H b ys ∧ xs[i]? = some x ∧ ys[i]? = some y
  yld := fun i H v H' => ∃ T x y, v = .ref T ∧ H T = none ∧ H' = upd H T (.tup [x, y]) ∧ (∀ xs, SqB b1 K H a xs → xs[i]? = some x) ∧ ∀ ys, SqB b2 K H b ys → ys[i]? = some y
  stop := fun i H => ∃ (xs ys : List V), SqB b1 K H a xs ∧ SqB b2 K H b ys ∧ (xs.length ≤ i ∨ ys.length ≤ i)
theorem five {z TI TO i1 i2 c : Addr} (h : c ∈ [z, TI, TO, i1, i2]) : c = z ∨ c = TI ∨ c = TO ∨ c = i1 ∨ c = i2 := by simpa using h
theorem turn_zipB {P : Program} {w : World} {K : PySem.W.Frag} {elts : List Expr} {kk : Nat} {tpos : Pos} {b1 b2 : Bool} {a b z TI TO i1 i2 : Addr} (D : ZipSep2 z TI TO i1 i2 [i1, a] [i2, b]) :
    Turn P w K (.Tuple elts kk tpos) (ItzB K b1 b2 a b) [z, TI, TO, i1, i2] z (fun i h => IsZip h z TI TO .none ∧ IsTupOf2 h TI (.ref i1) (.ref i2) ∧ (∃ x y, IsTupOf2 h TO x y) ∧ ItB b1 h i1 a i ∧ ItB b2 h i2 b i) where
  mem := by simp
  obj := fun i h ⟨hz, hI, ⟨x, y, hO⟩, g1, g2⟩ c hc => by
    rcases five hc with rfl | rfl | rfl | rfl | rfl
    · exact ⟨_, hz, fun v q => nomatch q⟩
    · exact ⟨_, hI, fun v q => nomatch q⟩
    · exact ⟨_, hO, fun v q => nomatch q⟩
    · exact itB_obj g1
    · exact itB_obj g2
  keep := fun i h h' ⟨hz, hI, ⟨x, y, hO⟩, g1, g2⟩ k => ⟨k z (by simp) _ hz, k TI (by simp) _ hI, ⟨x, y, k TO (by simp) _ hO⟩, itB_at g1 fun o => k i1 (by simp) o, itB_at g2 fun o => k i2 (by simp) o⟩
  item := by
    intro X eP eW eK hc i pins s σ H E I hf ⟨hz, hI, ⟨x0, y0, hO⟩, g1, g2⟩ ⟨xs, ys, x, y, qx, qy, hx, hy⟩
    subst eP eW eK
    obtain ⟨its, rv, p, la⟩ := inv_seqB I qx
    obtain ⟨its2, rv2, p2, lb⟩ := inv_seqB I qy
    obtain ⟨u, hu, ru⟩ := rv.get hx
    obtain ⟨u2, hu2, ru2⟩ := rv2.get hy
    have hzl : z < s.heap.objs.size := Heap.lt_size hz
    have ne1 : a ≠ i1 := fun e => by
      obtain ⟨o, ho, hn⟩ := itB_obj g1
      subst e
      cases b1
      · obtain ⟨o1, q1, c1, _⟩ := id p
        obtain ⟨o2, q2, c2, _⟩ := id g1
        rw [q1] at q2; cases q2
        rw [c1] at c2
        exact absurd (Value.type.inj c2) (by decide)
      · obtain ⟨o1, q1, c1, _⟩ := id p
        obtain ⟨o2, q2, c2, _⟩ := id g1
        rw [q1] at q2; cases q2
        rw [c1] at c2
        exact absurd (Value.type.inj c2) (by decide)
    have ne2 : b ≠ i2 := fun e => by
      subst e
      cases b2
      · obtain ⟨o1, q1, c1, _⟩ := id p2
        obtain ⟨o2, q2, c2, _⟩ := id g2
        rw [q1] at q2; cases q2
        rw [c1] at c2
        exact absurd (Value.type.inj c2) (by decide)
      · obtain ⟨o1, q1, c1, _⟩ := id p2
        obtain ⟨o2, q2, c2, _⟩ := id g2
        rw [q1] at q2; cases q2
        rw [c1] at c2
        exact absurd (Value.type.inj c2) (by decide)
    have hh := I.ok.hd hc
    have D1 := drawsB (prog := X.prog) (w := X.w) (A := X.A.in1) hh b1 i1 a ne1 its.toArray
    have D2 := drawsB (prog := X.prog) (w := X.w) (A := X.A.in1) hh b2 i2 b ne2 its2.toArray
    have l1 : i < its.toArray.size := by
      have := rv.length
      have := (List.getElem?_eq_some_iff.mp hx).1
      simp; omega
    have l2 : i < its2.toArray.size := by
      have := rv2.length
      have := (List.getElem?_eq_some_iff.mp hy).1
      simp; omega
    refine wpAny_pyNext_zipD2_item D D1 D2 hz hI hO ⟨g1, p⟩ ⟨g2, p2⟩ l1 l2 fun v1 v2 h' tk e1 e2 z1 z2 st1 st2 hT hsz hk => ?_
    have ev1 : v1 = u := by
      have q : its.toArray[i]? = some u := by simpa using hu
      rw [q] at e1
      exact (Option.some.inj e1).symm
    have ev2 : v2 = u2 := by
      have q : its2.toArray[i]? = some u2 := by simpa using hu2
      rw [q] at e2
      exact (Option.some.inj e2).symm
    subst ev1 ev2
    refine ⟨_, rfl, wpAny_letOwnedTupleGo_zip (s := { s with heap := h', toks := tk }) z1 fun h2 z3 sb => ?_⟩
    have hT2 : h2.get? s.heap.objs.size = some { cls := .type "tuple", data := .seq #[v1, v2] } := (sb.2 _ (Nat.ne_of_gt hzl)).trans hT
    have new : ObjOk X.prog X.w (upd H s.heap.objs.size (.tup [x, y])) h2 s.heap.objs.size (.tup [x, y]) :=
      ⟨show 2 ≤ sizeLine by decide, [v1, v2], .cons ru (.cons ru2 .nil), _, hT2, rfl, _, rfl⟩
    have I1 : Inv X pins σ (upd H s.heap.objs.size (.tup [x, y])) { s with heap := h2, toks := tk } :=
      I.turnedNew (ch := [z, TI, TO, i1, i2]) (fun c o hb q => by
        simp only [List.mem_cons, List.not_mem_nil, or_false, not_or] at hb
        exact (sb.2 c hb.1).trans (hk c o hb.1 hb.2.2.1 hb.2.2.2.1 hb.2.2.2.2 q)) hf (Nat.le_refl _) new
    refine ⟨.ref s.heap.objs.size, _, I1, rfl, ⟨_, x, y, rfl, I.hok.fresh (Nat.le_refl _), rfl, fun l hl => by rw [sqB_inj I hl qx]; exact hx, fun l hl => by rw [sqB_inj I hl qy]; exact hy⟩, ⟨z3, ?_, ⟨v1, v2, ?_⟩, ?_, ?_⟩, fun c hcm => ?_⟩
    · exact (sb.2 _ D.TIz).trans (hk _ _ D.TIz D.TITO D.TIi1 D.TIi2 hI)
    · exact (sb.2 _ D.TOz).trans z2
    · exact itB_at st1.1 fun o q => (sb.2 i1 (Ne.symm D.zi1)).trans q
    · exact itB_at st2.1 fun o q => (sb.2 i2 (Ne.symm D.zi2)).trans q
    · have hlt : c < s.heap.objs.size := by
        rcases five hcm with rfl | rfl | rfl | rfl | rfl
        · exact hzl
        · exact Heap.lt_size hI
        · exact Heap.lt_size hO
        · obtain ⟨o, ho, _⟩ := itB_obj g1; exact Heap.lt_size ho
        · obtain ⟨o, ho, _⟩ := itB_obj g2; exact Heap.lt_size ho
      rw [upd_ne (Nat.ne_of_lt hlt)]
      exact (hf c hcm).1
  done := by
    intro X eP eW eK hc i pins s σ H E I hf ⟨hz, hI, ⟨x0, y0, hO⟩, g1, g2⟩ ⟨xs, ys, qx, qy, hend⟩
    subst eP eW eK
    obtain ⟨its, rv, p, la⟩ := inv_seqB I qx
    obtain ⟨its2, rv2, p2, lb⟩ := inv_seqB I qy
    have r1 := rv.length
    have r2 := rv2.length
    have ne1 : a ≠ i1 := fun e => by
      subst e
      cases b1
      · obtain ⟨o1, q1, c1, _⟩ := id p
        obtain ⟨o2, q2, c2, _⟩ := id g1
        rw [q1] at q2; cases q2
        rw [c1] at c2
        exact absurd (Value.type.inj c2) (by decide)
      · obtain ⟨o1, q1, c1, _⟩ := id p
        obtain ⟨o2, q2, c2, _⟩ := id g1
        rw [q1] at q2; cases q2
        rw [c1] at c2
        exact absurd (Value.type.inj c2) (by decide)
    have ne2 : b ≠ i2 := fun e => by
      subst e
      cases b2
      · obtain ⟨o1, q1, c1, _⟩ := id p2
        obtain ⟨o2, q2, c2, _⟩ := id g2
        rw [q1] at q2; cases q2
        rw [c1] at c2
        exact absurd (Value.type.inj c2) (by decide)
      · obtain ⟨o1, q1, c1, _⟩ := id p2
        obtain ⟨o2, q2, c2, _⟩ := id g2
        rw [q1] at q2; cases q2
        rw [c1] at c2
        exact absurd (Value.type.inj c2) (by decide)
    have hh := I.ok.hd hc
    obtain ⟨n1, P1, S1, D1, s1, m1, f1⟩ := drawsAt (prog := X.prog) (w := X.w) (A := X.A.in1) (i := i) (h := s.heap) hh b1 i1 a ne1 its.toArray g1 p
    obtain ⟨n2, P2, S2, D2, s2, m2, f2⟩ := drawsAt (prog := X.prog) (w := X.w) (A := X.A.in1) (i := i) (h := s.heap) hh b2 i2 b ne2 its2.toArray g2 p2
    refine wpAny_pyNext_zipD2_end D D1 D2 hz hI hO s1 s2 m1 m2 (hend.imp (fun z => (f1 (by simp; omega)).symm) fun z => (f2 (by simp; omega)).symm) fun h' tk hk => ⟨rfl, I.turnedL (ch := [z, TI, TO, i1, i2]) (fun c o hb q => ?_) hf⟩
    simp only [List.mem_cons, List.not_mem_nil, or_false, not_or] at hb
    exact hk c o hb.1 hb.2.2.1 hb.2.2.2.1 hb.2.2.2.2 q
  self := fun A i s Q E st h => wpAny_pyIter_zip st.1 h
theorem sep_at (n a b : Nat) (ha : a < n) (hb : b < n) : ZipSep2 (n + 4) (n + 2) (n + 3) n (n + 1) [n, a] [n + 1, b] := by
  have nm : ∀ x y z : Nat, x ≠ y → x ≠ z → x ∉ ([y, z] : List Addr) := fun x y z h1 h2 h => by
    rcases List.mem_cons.mp h with h | h
    · exact h1 h
    · exact h2 (List.mem_singleton.mp h)
  have ne : ∀ x y : Nat, x < y ∨ y < x → x ≠ y := fun x y h => by omega
  exact ⟨ne _ _ (by omega), ne _ _ (by omega), ne _ _ (by omega), ne _ _ (by omega), List.mem_cons_self, nm _ _ _ (ne _ _ (by omega)) (ne _ _ (by omega)), nm _ _ _ (ne _ _ (by omega)) (ne _ _ (by omega)), ne _ _ (by omega), List.mem_cons_self, nm _ _ _ (ne _ _ (by omega)) (ne _ _ (by omega)), nm _ _ _ (ne _ _ (by omega)) (ne _ _ (by omega)), nm _ _ _ (ne _ _ (by omega)) (ne _ _ (by omega)), nm _ _ _ (ne _ _ (by omega)) (ne _ _ (by omega))⟩
def iZipB (K : PySem.W.Frag) (t1 t2 : TE) : TI := fun σ H R => t1 σ H fun x H1 => t2 σ H1 fun y H2 => ∃ (b1 b2 : Bool) (a b : Addr) (xs ys : List V), x = .ref a ∧ y = .ref b ∧ SqB b1 K H2 a xs ∧ SqB b2 K H2 b ys ∧ R (ItzB K b1 b2 a b) H2
theorem pi_zipB {X : Cx} {e e2 : Expr} {t1 t2 : TE} {p pos tpos : Pos} {elts : List Expr} {kk : Nat} (hg : Gl X "zip") (hm : X.mg "zip" = none) (ha : PA X [e, e2] (tCons t1 (tCons t2 tNil)))
    (hs : starEach [e, e2] X.env = (false, eval e X.env) :: starEach [e2] X.env := by rfl) (hpl : (backTo pos (starEach [e2] X.env)).any (·.1) = false := by rfl) :
    PI X (.Tuple elts kk tpos) (.Call (.Name "zip" p) [e, e2] [] pos) (iZipB X.K t1 t2) := by
  refine ⟨fun pins s σ H R I h => Call_ (ld_blt I hg hm PyProof.Rows.boot_zip (PyProof.Rows.callWith_type1 (thn (ha.run pos pins s σ H (fun vs H2 => ∃ (b1 b2 : Bool) (a b : Addr) (xs ys : List V), vs = [.ref a, .ref b] ∧ SqB b1 X.K H2 a xs ∧ SqB b2 X.K H2 b ys ∧ R (ItzB X.K b1 b2 a b) H2) I ?_) fun us s1 ⟨vs, H1, I1, r1, q1⟩ => ?_) hs hpl))⟩
  · refine Eq.mp (congrArg (t1 σ H) ?_) h
    funext x H1
    refine congrArg (t2 σ H1) ?_
    funext y H2
    refine propext ⟨fun ⟨b1, b2, a, b, xs, ys, ex, ey, z⟩ => ⟨b1, b2, a, b, xs, ys, by rw [ex, ey], z⟩, fun ⟨b1, b2, a, b, xs, ys, e, z⟩ => ?_⟩
    injection e with e1 e3
    injection e3 with e4 _
    exact ⟨b1, b2, a, b, xs, ys, e1, e4, z⟩
  obtain ⟨b1, b2, a, b, xs, ys, rfl, hx, hy, q⟩ := q1
  cases r1 with
  | cons r rr =>
    cases rr with
    | cons r' rr =>
      cases rr
      cases r
      cases r'
      obtain ⟨its, rv, p1, la⟩ := inv_seqB I1 hx
      obtain ⟨its2, rv2, p2, lb⟩ := inv_seqB I1 hy
      obtain ⟨o1, B1, k1⟩ := beginsB b1 a its.toArray
      obtain ⟨o2, B2, k2⟩ := beginsB b2 b its2.toArray
      refine zip_begins2 B1 B2 p1 p2 fun h' hz hI hO g1 g2 hsz hk => wpAny_pyIter_zip hz ?_
      refine ⟨s1.heap.objs.size + 4, [s1.heap.objs.size + 4, s1.heap.objs.size + 2, s1.heap.objs.size + 3, s1.heap.objs.size, s1.heap.objs.size + 1], _, _, H1, rfl, I1.kept (t' := s1.toks) hk, turn_zipB (sep_at s1.heap.objs.size a b la lb), ⟨hz, hI, ⟨_, _, hO⟩, k1 _ _ g1, k2 _ _ g2⟩, fun c hcm => ?_, q⟩
      have hle : s1.heap.objs.size ≤ c := by
        rcases five hcm with z | z | z | z | z <;> rw [z] <;> first | exact Nat.le_refl _ | exact Nat.le_add_right _ _
      exact I1.fpOk hle (I1.hok.fresh hle)
/-- two lists, item by item -/
def zipD : List PyData → List PyData → List PyData
  | d :: ds, e :: es => .tuple [d, e] :: zipD ds es
  | _, _ => []
theorem zipD_len : ∀ (ds es : List PyData), (zipD ds es).length = min ds.length es.length
  | [], _ => by simp [zipD]
  | _ :: _, [] => by simp [zipD]
  | _ :: ds, _ :: es => by simp only [zipD, List.length_cons, zipD_len ds es]; omega
theorem zipD_at : ∀ {ds es : List PyData} {i : Nat} {d : PyData}, (zipD ds es)[i]? = some d → ∃ x y, ds[i]? = some x ∧ es[i]? = some y ∧ d = .tuple [x, y]
  | [], _, _, _, h => by cases h
  | _ :: _, [], _, _, h => by cases h
  | a :: ds, b :: es, 0, d, h => by
    rw [zipD, List.getElem?_cons_zero] at h
    cases h
    exact ⟨a, b, rfl, rfl, rfl⟩
  | a :: ds, b :: es, i + 1, d, h => by
    rw [zipD, List.getElem?_cons_succ] at h
    obtain ⟨x, y, hx, hy, rfl⟩ := zipD_at h
    exact ⟨x, y, by rw [List.getElem?_cons_succ]; exact hx, by rw [List.getElem?_cons_succ]; exact hy, rfl⟩
section
variable {K : PySem.W.Frag} {T : List (Addr × Str)} {W : WX}
theorem pairz_go {σ0 σ : L2.St} {H : Hp} {s : S} {R : Ad} {fps : Nat → Ad} {p : Addr} {v v2 : V} {d d2 : PyData} (I : Iv K T σ0 σ H s R fps) (hp : H p = none) (hd : Dq K (hid (Wf R fps) H) v d) (hd2 : Dq K (hid (Wf R fps) H) v2 d2) :
    Go K T σ0 H s R fps σ (upd H p (.tup [v, v2])) s R fps ∧ Dq K (hid (Wf R fps) (upd H p (.tup [v, v2]))) (.ref p) (.tuple [d, d2]) := by
  obtain ⟨fp, g, ha, _⟩ := res_go I (Res.tup (vs := [v, v2]) (ds := [d, d2]) hp (.cons hd (.cons hd2 .nil)))
  cases ha with
  | dat h e =>
    have ef : alt R fp = R := funext fun a => propext ⟨fun z => z.elim id fun q => (e a q).elim, .inl⟩
    rw [ef] at g h
    exact ⟨g, h⟩
theorem steady_z {b1 b2 : Bool} {a b : Addr} {xs ys : List V} {ds es : List PyData} {F : Hp} (h : SqB b1 K F a xs) (hd : DqAll K F xs ds) (h2 : SqB b2 K F b ys) (hd2 : DqAll K F ys es) : Steady K T (ItzB K b1 b2 a b) (zipD ds es) F := by
  intro σ0 σ H s R fps I e i
  have g1 : SqB b1 K H a xs := sqB_ex (e.trans hid_ex) h
  have g2 : SqB b2 K H b ys := sqB_ex (e.trans hid_ex) h2
  have l1 := dps_len hd
  have l2 := dps_len hd2
  refine ⟨fun d hi => ?_, fun hi => ⟨xs, ys, g1, g2, ?_⟩⟩
  · obtain ⟨x, y, hx, hy, rfl⟩ := zipD_at hi
    obtain ⟨v, hv, dv⟩ := dps_at (i := i) hd hx
    obtain ⟨v2, hv2, dv2⟩ := dps_at (i := i) hd2 hy
    refine ⟨⟨xs, ys, v, v2, g1, g2, hv, hv2⟩, fun u H' z => ?_⟩
    obtain ⟨p, w1, w2, rfl, hp, rfl, z1, z2⟩ := z
    have q1 := z1 xs g1
    rw [hv] at q1
    cases q1
    have q2 := z2 ys g2
    rw [hv2] at q2
    cases q2
    exact pairz_go I hp (dp_ex e _ _ dv) (dp_ex e _ _ dv2)
  · rw [zipD_len] at hi
    omega
def mZip (a b : ME) : MI := fun s Q X => mD a s (fun d s1 => mD b s1 (fun e s2 => match listOf d, listOf e with
  | some ds, some es => Q (zipD ds es) s2
  | _, _ => False) X) X
theorem sqB_of {F : Hp} {v : V} {d : PyData} {ds : List PyData} (h : Dq K F v d) (e : listOf d = some ds) : ∃ b a xs, v = .ref a ∧ SqB b K F a xs ∧ DqAll K F xs ds := by
  cases d with
  | list es =>
    cases e
    obtain ⟨a, xs, rfl, hs, hds⟩ := dp_lst h
    exact ⟨true, a, xs, rfl, hs, hds⟩
  | tuple es =>
    cases e
    obtain ⟨a, xs, rfl, hs, hds⟩ := dp_tup h
    exact ⟨false, a, xs, rfl, hs, hds⟩
  | _ => cases e
theorem sim_zip {K' : PySem.W.Frag} {t1 t2 : TE} {a b : ME} (h : SimE K T W t1 a) (h2 : SimE K T W t2 b) (hK : K' = K) : SimI K T W (iZipB K' t1 t2) (mZip a b) := by
  subst hK
  intro σ0 σ H s R fps I Qm Xm hm hx Q hQ
  refine sim_d h σ0 σ H s R fps I _ Xm hm hx _ fun v H1 s1 d fps1 g hd q => ?_
  refine sim_d h2 σ0 σ H1 s1 R fps1 g.iv _ Xm q (hx.go g) _ fun v2 H2 s2 d2 fps2 g2 hd2 q => ?_
  split at q
  · rename_i ds es e1 e2
    obtain ⟨b1, x, xs, rfl, z1, z2⟩ := sqB_of (dp_ex g2.gr _ _ hd) e1
    obtain ⟨b2, y, ys, rfl, z3, z4⟩ := sqB_of hd2 e2
    exact ⟨b1, b2, x, y, xs, ys, rfl, rfl, sqB_ex hid_ex z1, sqB_ex hid_ex z3, hQ _ H2 s2 _ fps2 (g.trans g2) (steady_z z1 z2 z3 z4) q⟩
  · exact q.elim
variable {X : Cx} {e e2 : Expr} {t1 t2 : TE} {m1 m2 : ME} {p pos tpos : Pos} {elts : List Expr} {kk : Nat}
theorem i_zip (hg : Gl X "zip") (hm : X.mg "zip" = none) (h : QE X K T W e t1 m1) (h2 : QE X K T W e2 t2 m2) (hK : X.K = K := by rfl) (hs : starEach [e, e2] X.env = (false, eval e X.env) :: starEach [e2] X.env := by rfl)
    (hs2 : starEach [e2] X.env = (false, eval e2 X.env) :: starEach [] X.env := by rfl) (hpl : (backTo pos (starEach [e2] X.env)).any (·.1) = false := by rfl) : QI X K T W (.Tuple elts kk tpos) (.Call (.Name "zip" p) [e, e2] [] pos) (iZipB K t1 t2) (mZip m1 m2) := by
  subst hK
  exact ⟨pi_zipB hg hm (pa_cons h.p (pa_cons h2.p pa_nil hs2) hs) hs hpl, sim_zip h.s h2.s rfl⟩
end
end Mk

/-! part MkQ -/
/-! Mk, part 29: len and sorted of sets, sorted of any alike data, pop, tuple(reversed(l)). -/
namespace Mk
open PySem PySem.Spec PyProof.Rows L2 Evl Lk LamX
section
variable {K : PySem.W.Frag} {T : List (Addr × Str)} {W : WX} {X : Cx} {a e : Expr} {ta te : TE} {ma me : ME} {p p2 q pos pos2 : Pos}
theorem setSrc_of {H : Hp} {x : V} {d : PyData} {m : Bool} {keys : List NestedKey} {F : Hp} (ex : Ex F H) (hx : VAt K F H x d) (e : listOf d = some (keys.map NestedKey.data)) (hk : ∀ k ∈ keys, keyMode m k) (few : keys.length < lim m) : SetSrc K F H x m keys := by
  cases d with
  | list es =>
    cases e
    obtain ⟨a, xs, rfl, h1, h2⟩ := hx.list ex
    exact ⟨a, xs, rfl, .inl h1, ex, h2, hk, few⟩
  | tuple es =>
    cases e
    obtain ⟨a, xs, rfl, h1, h2⟩ := hx.tuple ex
    exact ⟨a, xs, rfl, .inr h1, ex, h2, hk, few⟩
  | _ => cases e
/-- len(set(d)) -/
def fLenSet (d : PyData) : FO := fun Q => ∃ (m : Bool) (keys : List NestedKey), listOf d = some (keys.map NestedKey.data) ∧ (∀ k ∈ keys, keyMode m k) ∧ keys.length < lim m ∧ ∀ n : Nat, (∃ L : List NestedKey, L.Nodup ∧ (∀ k, k ∈ L ↔ k ∈ keys) ∧ L.length = n) → Q (.dat (.int (n : Nat)))
def rLenSetN (K : PySem.W.Frag) : V → Hp → VK → Prop := fun x H1 Q => ∃ m keys F, SetSrc K F H1 x m keys ∧ ∀ n : Nat, (∃ L : List NestedKey, L.Nodup ∧ (∀ k, k ∈ L ↔ k ∈ keys) ∧ L.length = n) → Q (.int (n : Nat)) H1
theorem ps_lenSet : PS1 K (rLenSetN K) fLenSet := fun F H x d Qo Q ex hx ⟨m, keys, e, hk, few, hf⟩ k => ⟨m, keys, F, setSrc_of ex hx e hk few, fun n h => k _ _ _ (.dat (.int _)) (hf n h)⟩
theorem e_lenSet (hc : X.calm = true) (hu : X.A.units + 64 < cLine) (hg : Gl X "len") (hm : X.mg "len" = none) (hg2 : Gl X "set") (hm2 : X.mg "set" = none) (ha : QE X K T W a ta ma) (hK : X.K = K := by rfl)
    (na : starEach [a] X.env = (false, eval a X.env) :: starEach [] X.env := by rfl) : QE X K T W (.Call (.Name "len" p) [.Call (.Name "set" p2) [a] [] q] [] pos) (tLenSetN K ta) (mUn fLenSet ma) := by
  subst hK
  exact ⟨pe_lenSetN hc hu hg hm hg2 hm2 ha.p na, (sim_un ps_lenSet ha.s : SimE X.K T W (tUn (rLenSetN X.K) ta) (mUn fLenSet ma))⟩
/-- tuple(reversed(d)) -/
def fTupRev : PyData → FO
  | .list ds, Q => Q (.dat (.tuple ds.reverse))
  | _, _ => False
/-! ### pop -/
end
end Mk

/-! part MkR -/
/-! Mk, part 30: dicts with nested keys: {k: v}, dict([(k, v), ..]), k in d, d[k], d[k] = v. -/
namespace Mk
open PySem PySem.Spec PyProof.Rows L2 Evl Lk LamX
mutual
/-- data as a key -/
def keyN : PyData → Option NestedKey
  | .none => some .none
  | .int i => some (.num i)
  | .tuple ds => match keysN ds with
    | some ks => some (.tup ks)
    | none => none
  | _ => none
def keysN : List PyData → Option (List NestedKey)
  | [] => some []
  | d :: ds => match keyN d, keysN ds with
    | some k, some ks => some (k :: ks)
    | _, _ => none
end
mutual
theorem keyN_ok : ∀ {d : PyData} {k : NestedKey}, keyN d = some k → k.data = d ∧ noText k = true
  | .none, k, e => by unfold keyN at e; cases e; exact ⟨rfl, rfl⟩
  | .int i, k, e => by unfold keyN at e; cases e; exact ⟨rfl, rfl⟩
  | .tuple ds, k, e => by
    unfold keyN at e
    split at e
    · rename_i ks q
      cases e
      obtain ⟨h1, h2⟩ := keysN_ok q
      exact ⟨by rw [NestedKey.data, h1], by rw [noText, h2]⟩
    · cases e
  | .str _, k, e => by unfold keyN at e; cases e
  | .bool _, k, e => by unfold keyN at e; cases e
  | .list _, k, e => by unfold keyN at e; cases e
  | .dict _, k, e => by unfold keyN at e; cases e
theorem keysN_ok : ∀ {ds : List PyData} {ks : List NestedKey}, keysN ds = some ks → NestedKey.datas ks = ds ∧ noTexts ks = true
  | [], ks, e => by unfold keysN at e; cases e; exact ⟨rfl, rfl⟩
  | d :: ds, ks, e => by
    unfold keysN at e
    split at e
    · rename_i k ks' q1 q2
      cases e
      obtain ⟨h1, h2⟩ := keyN_ok q1
      obtain ⟨h3, h4⟩ := keysN_ok q2
      exact ⟨by rw [NestedKey.datas, h1, h3], by rw [noTexts, h2, h4]; rfl⟩
    · cases e
end
/-- data as a key of such a dict -/
def nkOf : PyData → Option NestedKey
  | .tuple ds => match keysN ds with
    | some ks => if (NestedKey.tup ks).depth ≤ 8 then some (.tup ks) else none
    | none => none
  | _ => none
theorem nkOf_ok {d : PyData} {k : NestedKey} (e : nkOf d = some k) : nKey k ∧ k.data = d := by
  unfold nkOf at e
  split at e
  · split at e
    · rename_i ks q
      split at e
      · rename_i hd
        cases e
        obtain ⟨h1, h2⟩ := keysN_ok q
        exact ⟨⟨⟨ks, rfl⟩, hd, by rw [noText, h2]⟩, by rw [NestedKey.data, h1]⟩
      · cases e
    · cases e
  · cases e
theorem nk_ref {K : PySem.W.Frag} {F : Hp} {v : V} {k : NestedKey} (h : nKey k) (hv : Dq K F v k.data) : ∃ b, v = .ref b := by
  obtain ⟨⟨ks, rfl⟩, _⟩ := h
  obtain ⟨a, xs, rfl, _⟩ := dp_tup hv
  exact ⟨a, rfl⟩
theorem codeO_nn {c : Addr} {q : Str} {ob : Obj} {xs : List NEnt} : CodeO c q ≠ ndO c ob xs := fun z => by
  have z' := HO.ext.inj z
  have hg : (⟨Array.replicate (c + 1) ({ cls := .none, data := .fields #[.none, .str q default] } : Obj), {}⟩ : Heap).get? c = some ({ cls := .none, data := .fields #[.none, .str q default] } : Obj) := by
    unfold Heap.get?
    simp
  have h1 : (fun h : Heap => ∃ (oc : Obj) (vs : Array Value) (t : Tok), h.get? c = some oc ∧ oc.data = .fields vs ∧ vs[1]? = some (.str q t)) ⟨Array.replicate (c + 1) ({ cls := .none, data := .fields #[.none, .str q default] } : Obj), {}⟩ := ⟨_, _, _, hg, rfl, rfl⟩
  rw [z'] at h1
  obtain ⟨_, _, w, es, ep, e1, _, e3, _⟩ := h1
  rw [hg] at e1
  cases e1
  cases e3
section
variable {K : PySem.W.Frag} {T : List (Addr × Str)} {W : WX} {σ0 σ : L2.St} {H H' H0 : Hp} {s s0 : S} {R fp : Ad} {fps fps0 : Nat → Ad} {v : V} {r : Rs} {a p : Addr} {xs ys : List NEnt} {kvs kvs' : List (NestedKey × PyData)} {n : Nat}
theorem tabs_nd {ob ob' : Obj} (t : Tabs T H) (h : H a = some (ndO a ob xs)) : Tabs T (upd H a (ndO a ob' ys)) := fun r hr => by
  obtain ⟨ps, h1, h2, h3⟩ := t r hr
  have n1 : r.1 ≠ a := fun z => by
    rw [z, h] at h1
    cases h1
  refine ⟨ps, (upd_ne n1).trans h1, h2, fun pos cv hc => ?_⟩
  obtain ⟨c, e1, e2⟩ := h3 pos cv hc
  refine ⟨c, e1, (upd_ne fun z => ?_).trans e2⟩
  subst z
  rw [h] at e2
  exact codeO_nn (Option.some.inj e2).symm
def dnOf (s : S) : Rs → Option (List (NestedKey × PyData))
  | .val (.dn kvs) => some kvs
  | .slot i => match s.env[i]? with
    | some (some (.dn kvs)) => some kvs
    | _ => none
  | _ => none
theorem dnOf_at (I : Iv K T σ0 σ H s R fps) (h : RAt K (hid (Wf R fps) H) H n σ v r fp) (e : dnOf s r = some kvs) :
    ∃ a ob xs, v = .ref a ∧ H a = some (ndO a ob xs) ∧ NdAll K (hid (Wf R fps) H) xs kvs := by
  cases h with
  | val h =>
    cases h with
    | dn h hd _ => cases e; exact ⟨_, _, _, rfl, h, hd⟩
    | dct _ _ _ => cases e
    | dat _ _ => cases e
    | lst _ _ _ => cases e
    | st _ _ => cases e
    | exc _ _ _ => cases e
    | xs _ _ _ => cases e
  | slot h hz =>
    rename_i i
    have e' : (match s.env[i]? with
      | some (some (.dn kvs)) => some kvs
      | _ => none) = some kvs := e
    cases q : s.env[i]? with
    | none => rw [q] at e'; cases e'
    | some x =>
      cases x with
      | none => rw [q] at e'; cases e'
      | some o =>
        have hA := I.slotv q h
        cases hA with
        | dn h3 hd _ => rw [q] at e'; cases e'; exact ⟨_, _, _, rfl, h3, hd⟩
        | dct _ _ _ => rw [q] at e'; cases e'
        | dat _ _ => rw [q] at e'; cases e'
        | lst _ _ _ => rw [q] at e'; cases e'
        | st _ _ => rw [q] at e'; cases e'
        | exc _ _ _ => rw [q] at e'; cases e'
        | xs _ _ _ => rw [q] at e'; cases e'
/-- d[k] -/
def mGetN (m : ME) (mk : MD) : ME := fun s Q X => m s (fun r s1 => mk s1 (fun k s2 => match dnOf s2 r, nkOf k with
  | some kvs, some k => match getN kvs k with
    | some d => Q (.val (.dat d)) s2
    | none => False
  | _, _ => False) X) X
theorem sim_nget {td ty : TE} {m : ME} {mk : MD} (h : SimE K T W td m) (hk : SimD K T W ty mk) : SimE K T W (tNGet K td ty) (mGetN m mk) := by
  intro σ0 σ H s R fps I Qm Xm hm hx Q hQ
  refine h σ0 σ H s R fps I _ Xm hm hx _ fun v H1 s1 r fp fps1 g1 hr nR q => ?_
  refine hk σ0 σ H1 s1 _ fps1 g1.iv _ Xm q (hx.go g1) _ fun y H2 s2 k fps2 g2 hy q => ?_
  have hr2 := hr.keep g2.gr (fun a z => g2.kp a (.inr z)) g2.le
  split at q
  · rename_i kvs k' e1 e2
    obtain ⟨a, ob, xs, rfl, ha, hkv⟩ := dnOf_at g2.iv hr2 e1
    obtain ⟨nk, rfl⟩ := nkOf_ok e2
    obtain ⟨b, rfl⟩ := nk_ref nk hy
    have hg := getN_at hkv k'
    split at q
    · rename_i d eg
      rw [eg] at hg
      obtain ⟨b', u, v', h1, h2, h3⟩ := hg
      exact ⟨a, b, b', k', ob, xs, kvs, u, v', rfl, rfl, ha, nk, nd_ex hid_ex hkv, dp_ex hid_ex _ _ hy, h1, h2, out_res (g1.trans g2) (.dat h3) hQ q⟩
    · exact q.elim
  · exact q.elim
/-- k in d -/
def mInN (neg : Bool) (mk : MD) (m : ME) : ME := fun s Q X => mk s (fun k s1 => m s1 (fun r s2 => match dnOf s2 r, nkOf k with
  | some kvs, some k => Q (.val (.dat (.bool (if neg then !(getN kvs k).isSome else (getN kvs k).isSome)))) s2
  | _, _ => False) X) X
theorem sim_inN {td ty : TE} {m : ME} {mk : MD} (neg : Bool) (h : SimE K T W td m) (hk : SimD K T W ty mk) : SimE K T W (tNIn K neg ty td) (mInN neg mk m) := by
  intro σ0 σ H s R fps I Qm Xm hm hx Q hQ
  refine hk σ0 σ H s R fps I _ Xm hm hx _ fun y H1 s1 k fps1 g1 hy q0 => ?_
  refine h σ0 σ H1 s1 R fps1 g1.iv _ Xm q0 (hx.go g1) _ fun v H2 s2 r fp fps2 g2 hr nR q => ?_
  split at q
  · rename_i kvs k' e1 e2
    obtain ⟨a, ob, xs, rfl, ha, hkv⟩ := dnOf_at g2.iv hr e1
    obtain ⟨nk, rfl⟩ := nkOf_ok e2
    obtain ⟨b, rfl⟩ := nk_ref nk hy
    exact ⟨a, b, k', ob, xs, kvs, rfl, rfl, ha, nk, nd_ex hid_ex hkv, dp_ex (Ex.trans g2.gr hid_ex) _ _ hy, out_e ((g1.trans g2).drop (fun _ z => z) fun _ z => .inl z) (fun _ => .bl _) hQ q⟩
  · exact q.elim
/-- d[k] = v, d in slot i -/
theorem mutN_go {i : Nat} {ob' : Obj} (G : Go K T σ0 H0 s0 R fps0 σ H s R fps) (hv : σ[i]? = some (some (.ref a))) (he : s.env[i]? = some (some (.dn kvs)))
    (hd : NdAll K (hid (Wf R fps) H) ys kvs') : ∃ fps', Go K T σ0 H0 s0 R fps0 σ (upd H a (ndO a ob' ys)) (putO s i (.dn kvs')) R fps' := by
  have I := G.iv
  have hA := I.slotv he hv
  cases hA with
  | dn hA hdA hz =>
    have wa : Wf R fps a := .inr ⟨i, (hz a).mpr rfl⟩
    have nR : ¬ R a := I.disR i a ((hz a).mpr rfl)
    have g : Gr (Wf R fps) H (Wf R (fset fps i (fps i))) (upd H a (ndO a ob' ys)) := gr_of (fun b o h n _ => by
      rw [upd_ne (show b ≠ a from fun z => n (z ▸ wa))]
      exact h) (fun b o h n z => by
      rcases wf_fset z with z | z | ⟨j, _, z⟩
      · exact n (.inl z)
      · exact n (.inr ⟨i, z⟩)
      · exact n (.inr ⟨j, z⟩))
    have P := I.put (R' := R) (i := i) (v' := .ref a) (o' := .dn kvs') (fp' := fps i) (n' := s.n) (lt_of_slot hv) (fun _ z => z) g (fun j b hj z => upd_ne (show b ≠ a from fun y => hj (I.dis j i a (y ▸ z) ((hz a).mpr rfl))))
      (fun b z => upd_ne (show b ≠ a from fun y => nR (y ▸ z))) (tabs_nd I.tab hA) (Nat.le_refl _) (.dn upd_same (nd_ex g hd) hz) (fun b z => I.disR i b z) (fun j b hj z y => hj (I.dis j i b y z)) (fun _ => hv)
    rw [set_same hv] at P
    exact ⟨_, P, fun b z => (upd_ne (show b ≠ a from fun y => nR (y ▸ z))).trans (G.kp b z), G.gr.trans g, G.bo, G.le, fun _ z => z⟩
def isDn (s : S) (i : Nat) : Prop := match s.env[i]? with
  | some (some (.dn _)) => True
  | _ => False
def mNPut (i : Nat) (mk mv : MD) : MS := fun s k => mv s (fun d s1 => isDn s1 i ∧ mk s1 (fun y s2 => match s2.env[i]?, nkOf y with
  | some (some (.dn kvs)), some key => kvs.length < 100000 ∧ k.nx (putO s2 i (.dn (putN kvs key d)))
  | _, _ => False) k.er) k.er
theorem sim_nput {ty tv : TE} {i : Nat} {mk mv : MD} (hk : SimD K T W ty mk) (hv : SimD K T W tv mv) : SimS K T W (sNPut K (tVar i) ty tv) (mNPut i mk mv) := fun σ0 σ H s R fps I D k hm x => by
  refine hv σ0 σ H s R fps I _ k.er hm x.xok _ fun v H1 s1 d fps1 g1 hd q => ?_
  obtain ⟨i1, q⟩ := q
  unfold isDn at i1
  split at i1
  · rename_i kvs0 e0
    obtain ⟨v0, hv0, hA0⟩ := g1.iv.at_ i _ e0
    cases hA0 with
    | dn hA hd0 hz =>
      refine ⟨_, hv0, ?_⟩
      refine hk σ0 σ H1 s1 R fps1 g1.iv _ k.er q (x.go g1).xok _ fun y H2 s2 ky fps2 g2 hy q => ?_
      split at q
      · rename_i kvs key e1 e2
        have hA2 := g2.iv.slotv e1 hv0
        cases hA2 with
        | dn hA2 hd2 hz2 =>
          rename_i ob2 xs2
          obtain ⟨nk, rfl⟩ := nkOf_ok e2
          obtain ⟨b, rfl⟩ := nk_ref nk hy
          refine ⟨_, b, key, ob2, xs2, kvs, rfl, rfl, hA2, sz_lt (by rw [nd_len hd2]; exact q.1), nk, nd_ex hid_ex hd2, dp_ex hid_ex _ _ hy, fun u o' ru => ?_⟩
          obtain ⟨fps3, G3⟩ := mutN_go (ob' := o') (g1.trans g2) hv0 e1 (putN_at hd2 nk hy ru (dp_ex g2.gr _ _ hd))
          exact x.nx _ _ _ fps3 G3 q.2
      · exact q.elim
  · exact i1.elim
/-- {k: v} -/
def mNDisp (mk mv : MD) : ME := fun s Q X => mk s (fun k s1 => mv s1 (fun d s2 => match nkOf k with
  | some key => Q (.val (.dn [(key, d)])) s2
  | none => False) X) X
theorem dn_new {ob : Obj} (I : Iv K T σ0 σ H s R fps) (hp : H p = none) : Go K T σ0 H s R fps σ (upd H p (ndO p ob xs)) s (alt R fun a => a = p) fps := by
  have hW := I.fresh hp
  have g : Gr (Wf R fps) H (Wf (alt R fun a => a = p) fps) (upd H p (ndO p ob xs)) := gr_ex (Ex.new hp) (fun a u e n z => by
    rcases z with (z | z) | z
    · exact n (.inl z)
    · rw [z, hp] at e; cases e
    · exact n (.inr z))
  refine ⟨I.step g (fun i a q => upd_ne fun z => hW (.inr ⟨i, z ▸ q⟩)) (fun i a q z => ?_) (fun a q => ?_) (tabs_new I.tab hp), fun a q => upd_ne fun z => hW (.inl (z ▸ q)), g, rfl, Nat.le_refl _, fun _ z => .inl z⟩
  · rcases z with z | z
    · exact I.disR i a q z
    · exact hW (.inr ⟨i, z ▸ q⟩)
  · rcases q with q | q
    · have e := I.liv a q
      rw [upd_ne (show a ≠ p from fun z => hW (.inl (z ▸ q)))]
      exact e
    · rw [q, upd_same]
      exact mut_nd
/-- the new dict is filled -/
theorem dn_fill {ob ob' : Obj} (G : Go K T σ0 H0 s0 R fps0 σ H s (alt R fun a => a = p) fps) (hp : H p = some (ndO p ob xs)) (nR : ¬ R p) : Go K T σ0 H0 s0 R fps0 σ (upd H p (ndO p ob' ys)) s (alt R fun a => a = p) fps ∧ Gr (Wf (alt R fun a => a = p) fps) H (Wf (alt R fun a => a = p) fps) (upd H p (ndO p ob' ys)) := by
  have wp : Wf (alt R fun a => a = p) fps p := .inl (.inr rfl)
  have I := G.iv
  have g : Gr (Wf (alt R fun a => a = p) fps) H (Wf (alt R fun a => a = p) fps) (upd H p (ndO p ob' ys)) := gr_of (fun b o h n _ => by
    rw [upd_ne (show b ≠ p from fun z => n (z ▸ wp))]
    exact h) (fun _ _ _ n => n)
  refine ⟨⟨I.step g (fun i a q => upd_ne fun z => I.disR i a q (.inr z)) I.disR (fun a q => ?_) (tabs_nd I.tab hp), fun a q => (upd_ne fun z => nR (by rw [← z]; exact q)).trans (G.kp a q), G.gr.trans g, G.bo, G.le, fun a z => .inl z⟩, g⟩
  by_cases z : a = p
  · rw [z, upd_same]; exact mut_nd
  · rw [upd_ne z]; exact I.liv a q
theorem sim_ndisp {ty tv : TE} {mk mv : MD} (hk : SimD K T W ty mk) (hv : SimD K T W tv mv) : SimE K T W (tNDisp K ty tv) (mNDisp mk mv) := by
  intro σ0 σ H s R fps I Qm Xm hm hx Q hQ p ob hp
  have hW := I.fresh hp
  have g0 := dn_new (ob := ob) (xs := []) I hp
  refine hk σ0 σ _ s _ fps g0.iv _ Xm hm (hx.go g0) _ fun y H1 s1 k fps1 g1 hy q0 => ?_
  refine hv σ0 σ H1 s1 _ fps1 g1.iv _ Xm q0 (hx.go (g0.trans g1)) _ fun v H2 s2 d fps2 g2 hd q => ?_
  split at q
  · rename_i key e
    obtain ⟨nk, rfl⟩ := nkOf_ok e
    obtain ⟨b, rfl⟩ := nk_ref nk hy
    have hp2 : H2 p = some (ndO p ob []) := by rw [g2.kp p (.inr rfl), g1.kp p (.inr rfl), upd_same]
    have hy2 := dp_ex g2.gr _ _ hy
    refine ⟨hp2, key, b, rfl, nk, dp_ex hid_ex _ _ hy2, fun u o' ru => ?_⟩
    obtain ⟨G, g⟩ := dn_fill (ob' := o') (ys := [(key, b, u)]) ((g0.trans g1).trans g2) hp2 fun z => hW (.inl z)
    refine hQ _ _ s2 (.val (.dn [(key, d)])) (fun a => a = p) fps2 G (.val (.dn upd_same (.cons nk (dp_ex g _ _ hy2) ru (dp_ex g _ _ hd) .nil) fun _ => Iff.rfl)) (fun a z y => hW (.inl (z ▸ y))) q
  · exact q.elim
end
/-! ### dict of a list of pairs -/
def pairsN : List PyData → Option (List (NestedKey × PyData))
  | [] => some []
  | .tuple [k, d] :: r => match nkOf k, pairsN r with
    | some k, some r => some ((k, d) :: r)
    | _, _ => none
  | _ => none
def storeN (kvs more : List (NestedKey × PyData)) : List (NestedKey × PyData) := more.foldl (fun acc x => putN acc x.1 x.2) kvs
def fDictN : PyData → FO
  | .list ds, Q => match pairsN ds with
    | some ps => Q (.dn (storeN [] ps))
    | none => False
  | _, _ => False
section
variable {K : PySem.W.Frag} {F H : Hp}
theorem pairsN_at (ex : Ex F H) : ∀ {ds : List PyData} {vs : List V} {ps : List (NestedKey × PyData)}, DqAll K F vs ds → pairsN ds = some ps →
    ∃ (ts : List Addr) (es : List (NestedKey × Addr × V)), vs = ts.map V.ref ∧ Paired (fun (t : Addr) (e : NestedKey × Addr × V) => SqT K H t [.ref e.2.1, e.2.2] ∧ nKey e.1 ∧ Dq K H (.ref e.2.1) e.1.data) ts es ∧
      Paired (fun (e : NestedKey × Addr × V) (x : NestedKey × PyData) => e.1 = x.1 ∧ nKey x.1 ∧ Dq K F (.ref e.2.1) x.1.data ∧ Dq K F e.2.2 x.2) es ps
  | [], _, ps, .nil, e => by cases e; exact ⟨[], [], rfl, .nil, .nil⟩
  | d :: ds, _, ps, .cons h hr, e => by
    unfold pairsN at e
    split at e
    · rename_i heq
      cases heq
    · rename_i k d' r heq
      obtain ⟨rfl, rfl⟩ := List.cons.inj heq
      split at e
      · rename_i key ps' e1 e2
        cases e
        obtain ⟨ts, es, rfl, h1, h2⟩ := pairsN_at ex hr e2
        obtain ⟨t, xs, rfl, hs, hx⟩ := dp_tup h
        obtain ⟨nk, rfl⟩ := nkOf_ok e1
        cases hx with
        | cons hk hx2 =>
          cases hx2 with
          | cons hd hn =>
            cases hn
            obtain ⟨b, rfl⟩ := nk_ref nk hk
            exact ⟨t :: ts, (key, b, _) :: es, rfl, .cons ⟨ex_t ex hs, nk, dp_ex ex _ _ hk⟩ h1, .cons ⟨rfl, nk, hk, hd⟩ h2⟩
      · cases e
    · cases e
theorem storeN_at : ∀ {es : List (NestedKey × Addr × V)} {ps : List (NestedKey × PyData)} {ys : List NEnt} {xs : List NEnt} {kvs : List (NestedKey × PyData)},
    Paired (fun (e : NestedKey × Addr × V) (x : NestedKey × PyData) => e.1 = x.1 ∧ nKey x.1 ∧ Dq K F (.ref e.2.1) x.1.data ∧ Dq K F e.2.2 x.2) es ps →
    Paired (fun (e : NestedKey × Addr × V) (x : NEnt) => x.1 = e.1 ∧ x.2.1 = e.2.1 ∧ RelV e.2.2 x.2.2) es ys → NdAll K F xs kvs → NdAll K F (storedAllH xs ys) (storeN kvs ps)
  | _, _, _, _, _, .nil, .nil, h => h
  | _, _, _, _, _, .cons (b := x) h1 r1, .cons (b := y) h2 r2, h => by
    obtain ⟨e1, nk, hb, hd⟩ := h1
    obtain ⟨e2, e3, rv⟩ := h2
    have st := putN_at (k := x.1) (b := y.2.1) (u := y.2.2) h nk (by rw [e3]; exact hb) rv hd
    rw [← e1, ← e2] at st
    have := storeN_at r1 r2 st
    rw [e2, e1] at this
    show NdAll K F (storedAllH (storedH _ y.1 y.2.1 y.2.2) _) (storeN (putN _ x.1 x.2) _)
    rw [e2, e1]
    exact this
theorem ps_dictN : PSim K (rDictN K) (fl1 fDictN) := ps_one fun F H x d Qo Q ex hx hf k => by
  cases d with
  | list ds =>
    unfold fDictN at hf
    dsimp only at hf
    split at hf
    · rename_i ps e
      obtain ⟨a, xs, rfl, h1, h2⟩ := hx.list ex
      obtain ⟨ts, es, rfl, h3, h4⟩ := pairsN_at ex h2 e
      exact ⟨a, ts, es, rfl, h1, h3, fun p _ ys hp h5 => k _ _ _ (.dn hp (storeN_at h4 h5 .nil)) hf⟩
    · exact hf.elim
  | _ => exact hf.elim
end
section
variable {X : Cx} {K : PySem.W.Frag} {T : List (Addr × Str)} {W : WX} {e o i value : Expr} {te to ty tv : TE} {me mo mi mv : ME} {pos pos' : Pos}
theorem e_nget (hu : X.A.units + 10 < cLine) (ho : QE X K T W o to mo) (he : QE X K T W e te me) (hs : NoSl e) (hK : X.K = K := by rfl) : QE X K T W (.Subscript o e pos) (tNGet K to te) (mGetN mo (mD me)) := by
  subst hK
  exact ⟨pe_nget hu ho.p he.p hs, sim_nget ho.s (sim_d he.s)⟩
theorem e_ndisp (hu : X.A.units + 10 < cLine) (hi : QE X K T W i ty mi) (hv : QE X K T W value tv mv) (hK : X.K = K := by rfl) : QE X K T W (.Dict [some i] [value] pos) (tNDisp K ty tv) (mNDisp (mD mi) (mD mv)) := by
  subst hK
  exact ⟨pe_ndisp hu hi.p hv.p, sim_ndisp (sim_d hi.s) (sim_d hv.s)⟩
end
end Mk

/-! part MkS -/
/-! Mk, part 31: k in d, d[k] = v of dicts with nested keys; errors with an attribute raised, the attribute read. -/
namespace Mk
open PySem PySem.Spec PyProof.Rows L2 Evl Lk LamX
section
variable {X : Cx} {K : PySem.W.Frag} {T : List (Addr × Str)} {W : WX} {a b e : Expr} {ta tb te : TE} {ma mb me : ME} {pos : Pos}
theorem t_nnotin (hu : X.A.units + 10 < cLine) (ha : QE X K T W a ta ma) (hb : QE X K T W b tb mb) (hm : behindInMarks .NotIn b = false) (hK : X.K = K := by rfl) : QT X K T W (.Compare a [.NotIn] [b] pos) (tB (tNIn K true ta tb)) (mB (mInN true (mD ma) mb)) := by
  subst hK
  exact ⟨pt_cmp (pc_nnotin hu ha.p hb.p) hm, sim_b (sim_inN true hb.s (sim_d ha.s))⟩
theorem s_nput {i : Nat} {x : Str} {k v : Expr} {xp pos' : Pos} {tk tv : TE} {mk mv : ME} (hu : X.A.units + 10 < cLine) (hN : X.N[i]? = some x) (hv : Vis X.env.scope x) (hd : (x == ("__debug__" : Str)) = false) (hcd : (x == ("__classdict__" : Str)) = false) (hk : QE X K T W k tk mk) (hx : QE X K T W v tv mv) (hK : X.K = K := by rfl)
    (hs : swapsWith v (some (.Subscript (.Name x xp) k pos')) pos.line X.env = pure false := by rfl) : QS X K T W (.Assign [.Subscript (.Name x xp) k pos'] v pos) (sNPut K (tVar i) tk tv) (mNPut i (mD mk) (mD mv)) := by
  subst hK
  exact ⟨ps_nput hu (pe_var hN hv hd hcd) hk.p hx.p hs, sim_nput (sim_d hk.s) (sim_d hx.s)⟩
end
/-! ### errors with an attribute -/
/-- raise C(e), C's __init__ keeping it as f -/
def mRaiseA (C : Addr) (f : Str) (m : MD) : MS := fun s k => m s (fun d s1 => k.er (C, [(f, d)]) s1) k.er
section
variable {K : PySem.W.Frag} {T : List (Addr × Str)} {W : WX} {C : Addr} {f : Str} {te : TE} {m : MD}
/-- e.f, e an error that was kept -/
def mAtr (K : PySem.W.Frag) (f : Str) (m : ME) : ME := fun s Q X => m s (fun r s1 => match r with
  | .val (.exc x) => XfC K x.1 ∧ PySem.W.findIn K (.ref x.1) f = some none ∧ match x.2.lookup f with
    | some d => Q (.val (.dat d)) s1
    | none => False
  | _ => False) X
end
section
variable {X : Cx} {K : PySem.W.Frag} {T : List (Addr × Str)} {W : WX} {e : Expr} {te : TE} {me : ME} {pos : Pos}
/-- what the text says of such a class -/
structure XaT (P : Program) (K : PySem.W.Frag) (mg : Str → Option Value) (x : Str) (C fI : Addr) (p f : Str) : Prop where
  tx : AtrTxt P K C fI p f
  gl : mg x = some (.ref C)
  ms : mg "super" = none
end
end Mk

/-! part MkT -/
/-! Mk, part 32: the head's test of an error class whose __init__ keeps an attribute. -/
namespace Mk
open PySem PySem.Spec PyProof.Rows L2 Evl Lk LamX
end Mk

/-! part LkExcC -/
/-! Lk: try: a() / except x as n: return n; a def that does so. -/
namespace Lk
open PySem PySem.Spec PyProof.Rows L2 LamX
section
variable {X : Cx} {x n : Str} {c : Value} {i : Nat} {body : List Stmt} {np pos pos' vp sp : Pos} {tb : WX → TS} {Wout : WX}
end
section
variable {X : Cx}
end
section
variable {X : Cx}
end
end Lk

/-! part MkU -/
/-! Mk, part 33: calls with arguments by place and by name; dict of a list of pairs with keys ints and texts. -/
namespace Mk
open PySem PySem.Spec PyProof.Rows L2 Evl Lk LamX
def ordM {α : Type} (m n : Nat) (us ws : List α) : List α := if us.length = m ∧ ws.length = n then us ++ ws else []
/-- a contract of a def called with m arguments by place, the others by name, in order -/
structure Cdm (P : Program) (w : World) (K : PySem.W.Frag) (mg : Str → Option Value) (base : Heap) (T : List (Addr × Str)) (k : Nat) (x : Str) (ks : List Str) (m n : Nat) (G : Den) : Prop where
  ex : ∃ (f : Addr) (fd : FuncData) (ps : List Str), FnOk P w K mg base (L2.CX P w) k f fd ps (spM K T G) ∧ mg x = some (.ref f) ∧ PySem.W.keepIn K (.ref f) = true ∧ ps.length = m + n ∧ 0 < m + n ∧ KBinds K fd ps ks (ordM m n) (ordM m n)
section
variable {P : Program} {w : World} {K : PySem.W.Frag} {mg : Str → Option Value} {base : Heap} {T : List (Addr × Str)} {f : Addr} {fd : FuncData} {ps : List Str}
variable {X : Cx} {W : WX} {k j : Nat} {x : Str} {ks : List Str} {m n : Nat} {G : Den} {pn pos : Pos} {kws : List Keyword} {tr : TA} {mr : MA} {e e2 : Expr} {te te2 : TE} {me me2 : ME}
end
/-! ### dict of a list of pairs -/
def storeK (kvs more : List (Key × PyData)) : List (Key × PyData) := more.foldl (fun acc x => putD acc x.1 x.2) kvs
section
variable {K : PySem.W.Frag} {F H : Hp}
end
end Mk

/-! part MkV -/
/-! Mk, part 34: forms of the rules as gen2.py prints them. -/
namespace Mk
open PySem PySem.Spec PyProof.Rows L2 Evl Lk LamX
theorem hu12 {k : Nat} {A : Around} (r : Room k A) : A.units + 12 < cLine := by have := r.un; omega
theorem hu10 {k : Nat} {A : Around} (r : Room k A) : A.units + 10 < cLine := by have := r.un; omega
section
variable {X : Cx} {K : PySem.W.Frag} {T : List (Addr × Str)} {W : WX} {e : Expr} {te : TE} {me : ME} {pos : Pos}
end
end Mk

/-! part LkDz -/
/-! Lk: dict(zip(a, b)), a and b lists or tuples: the zip while its last tuple is still held. -/
namespace Lk
open PySem PySem.Spec PyProof.Rows L2 Evl
section
variable {prog : Program} {w : World} {A : Around} {E : Value → Shared → Prop} {s : Shared} {z TI TO T i1 i2 : Addr} {fp1 fp2 : List Addr} {n1 n2 i : Nat} {P1 P2 : Nat → Value → Prop} {St1 St2 : Nat → Heap → Prop} {f : Bool} {oT : Obj}
end
end Lk

/-! part MkZ -/
/-! Mk, part 35: dict(zip(a, b)), keys ints and texts. -/
namespace Mk
open PySem PySem.Spec PyProof.Rows L2 Evl Lk LamX
/-! ### told by data -/
def keysK : List PyData → Option (List Key)
  | [] => some []
  | d :: ds => match keyOf d, keysK ds with
    | some k, some ks => some (k :: ks)
    | _, _ => none
def mDictZip (a b : MD) : ME := fun s Q X => a s (fun d s1 => b s1 (fun e s2 => match listOf d, listOf e with
  | some ds, some es => match keysK ds with
    | some ks => Q (.val (.dct (storeK [] (ks.zip es)))) s2
    | none => False
  | _, _ => False) X) X
section
variable {X : Cx} {K : PySem.W.Frag} {T : List (Addr × Str)} {W : WX} {e e2 : Expr} {t1 t2 : TE} {m1 m2 : ME} {p p2 q pos : Pos}
end
end Mk

/-! part Mp -/
/-! Mk, part 17: what the denotations come to, by simp. -/
namespace Mk
open PySem PySem.Spec PyProof.Rows L2 Evl Lk LamX
@[simp] theorem u_runF (p N : Nat) (b : MS) : (runF p N b : Den) = fun os n Q X => os.length = p ∧ runD N b os n Q X := rfl
@[simp] theorem u_runD (N : Nat) (b : MS) : (runD N b : Den) = fun os n Qm Xm => b (s0Of N os n) (kOf os Qm Xm) := rfl
@[simp] theorem u_s0Of (N : Nat) (os : List O) (n : Nat) : (s0Of N os n : S) = (⟨os.map some ++ List.replicate (N - os.length) none, n, ownsFrom 0 os⟩) := rfl
@[simp] theorem u_mRet (m : ME) : (mRet m : MS) = fun s k => m s (fun r s1 => match mov s1 r with
  | some (o, s2) => k.rt o s2
  | none => False) k.er := rfl
@[simp] theorem u_mRetN  : (mRetN  : MS) = fun s k => k.rt (.dat .none) s := rfl
@[simp] theorem u_mAndV (a : MT) (b : ME) : (mAndV a b : ME) = fun s Q X => a s (fun c s1 => if c = true then b s1 Q X else Q (.val (.dat (.bool false))) s1) X := rfl
@[simp] theorem u_mOrV (a : MT) (b : ME) : (mOrV a b : ME) = fun s Q X => a s (fun c s1 => if c = true then Q (.val (.dat (.bool true))) s1 else b s1 Q X) X := rfl
@[simp] theorem u_mB (m : ME) : (mB m : MT) = fun s Q X => m s (fun r s1 => match r with
  | .val (.dat (.bool b)) => Q b s1
  | _ => False) X := rfl
@[simp] theorem u_mIsi (f : PyData → Bool) (m : ME) : (mIsi f m : ME) = fun s Q X => m s (fun r s1 => match rd s1 r with
  | some d => Q (.val (.dat (.bool (f d)))) s1
  | none => False) X := rfl
@[simp] theorem u_mIsE (K : PySem.W.Frag) (C : Addr) (m : ME) : (mIsE K C m : ME) = fun s Q X => m s (fun r s1 => match r with
  | .val (.exc D) => ExcC K D.1 ∧ ∃ b, PySem.W.kitOne K (.ref D.1) (.ref C) = some b ∧ Q (.val (.dat (.bool b))) s1
  | .val (.dat .none) => ∃ b, PySem.W.kitOne K (.type "NoneType") (.ref C) = some b ∧ Q (.val (.dat (.bool b))) s1
  | _ => False) X := rfl
@[simp] theorem u_mVar (i : Nat) : (mVar i : ME) = fun s Q _ => match s.env[i]? with
  | some (some (.dat d)) => Q (.val (.dat d)) s
  | some (some (.exc C)) => Q (.val (.exc C)) s
  | some (some _) => Q (.slot i) s
  | _ => False := rfl
@[simp] theorem u_mC (d : PyData) : (mC d : ME) = fun s Q _ => Q (.val (.dat d)) s := rfl
@[simp] theorem u_mNotV (a : MT) : (mNotV a : ME) = fun s Q X => a s (fun c s1 => Q (.val (.dat (.bool (!c)))) s1) X := rfl
@[simp] theorem u_mNot (a : MT) : (mNot a : MT) = fun s Q X => a s (fun c s1 => Q (!c) s1) X := rfl
@[simp] theorem u_mAnd (a b : MT) : (mAnd a b : MT) = fun s Q X => a s (fun c s1 => if c = true then b s1 Q X else Q false s1) X := rfl
@[simp] theorem u_mOr (a b : MT) : (mOr a b : MT) = fun s Q X => a s (fun c s1 => if c = true then Q true s1 else b s1 Q X) X := rfl
@[simp] theorem u_mChain (f f' : PyData → PyData → FO) (a b c : MD) : (mChain f f' a b c : ME) = fun s Q X => a s (fun d s1 => b s1 (fun e s2 => f d e fun o => bOf o fun k => if k = true then c s2 (fun z s3 => f' e z fun o2 => bOf o2 fun k2 => Q (.val (.dat (.bool k2))) s3) X else Q (.val (.dat (.bool false))) s2) X) X := rfl
@[simp] theorem u_bOf (o : O) (Q : Bool → Prop) : (bOf o Q : Prop) = (match o with
  | .dat (.bool b) => Q b
  | _ => False) := rfl
@[simp] theorem u_mD (m : ME) : (mD m : MD) = fun s Q X => m s (fun r s1 => match frz s1 r with
  | some (d, s2) => Q d s2
  | none => False) X := rfl
@[simp] theorem u_mOp (f : PyData → PyData → FO) (a b : ME) : (mOp f a b : ME) = (mCB (fl2 f) (mCons a (mCons b mNil))) := rfl
@[simp] theorem u_mUn (f : PyData → FO) (a : ME) : (mUn f a : ME) = (mCB (fl1 f) (mCons a mNil)) := rfl
@[simp] theorem u_mCB (f : List PyData → (O → Prop) → Prop) (m : MA) : (mCB f m : ME) = fun s Q X => m s (fun rs s1 => match rds s1 rs with
  | some ds => f ds fun o => Q (.val o) s1
  | none => False) X := rfl
@[simp] theorem u_mCons (m : ME) (r : MA) : (mCons m r : MA) = fun s Q X => m s (fun x s1 => r s1 (fun xs s2 => Q (x :: xs) s2) X) X := rfl
@[simp] theorem u_mNil  : (mNil  : MA) = fun s Q _ => Q [] s := rfl
@[simp] theorem u_mIfE (c : MT) (a b : ME) : (mIfE c a b : ME) = fun s Q X => c s (fun k s1 => if k = true then a s1 Q X else b s1 Q X) X := rfl
@[simp] theorem u_mIf (c : MT) (a b : MS) : (mIf c a b : MS) = fun s k => c s (fun q s1 => if q = true then a s1 k else b s1 k) k.er := rfl
@[simp] theorem u_mSeq (a b : MS) : (mSeq a b : MS) = fun s k => a s { k with nx := fun s1 => b s1 k } := rfl
@[simp] theorem u_mNext  : (mNext  : MS) = fun s k => k.nx s := rfl
@[simp] theorem u_mDrop (m : ME) : (mDrop m : MS) = fun s k => m s (fun _ s1 => k.nx s1) k.er := rfl
@[simp] theorem u_mAsg (i : Nat) (m : ME) : (mAsg i m : MS) = fun s k => m s (fun r s1 => asg i r s1 k.nx) k.er := rfl
@[simp] theorem u_asg (i : Nat) (r : Rs) (s : S) (Q : S → Prop) : (asg i r s Q : Prop) = (match mov s r with
  | some (o, s2) => i ∉ s2.bor ∧ i < s2.env.length ∧ Q (putO s2 i o)
  | none => False) := rfl
@[simp] theorem u_putO (s : S) (i : Nat) (o : O) : (putO s i o : S) = (⟨s.env.set i (some o), s.n, s.bor⟩) := rfl
@[simp] theorem u_mAsgG (g : MG) (m : MD) : (mAsgG g m : MS) = fun s k => m s (fun d s1 => g d s1 k.nx) k.er := rfl
@[simp] theorem u_mgN (i : Nat) : (mgN i : MG) = fun d s Q => i ∉ s.bor ∧ i < s.env.length ∧ Q (putO s i (.dat d)) := rfl
@[simp] theorem u_mgCons (m : MG) (r : MGs) : (mgCons m r : MGs) = fun ds s Q => match ds with
  | d :: ds => m d s fun s1 => r ds s1 Q
  | [] => False := rfl
@[simp] theorem u_mgNil  : (mgNil  : MGs) = fun ds s Q => ds = [] ∧ Q s := rfl
@[simp] theorem u_mMv (m : ME) : (mMv m : ME) = fun s Q X => m s (fun r s1 => match mov s1 r with
  | some (o, s2) => Q (.val o) s2
  | none => False) X := rfl
@[simp] theorem u_mFz (m : ME) : (mFz m : ME) = fun s Q X => m s (fun r s1 => match frz s1 r with
  | some (d, s2) => Q (.val (.dat d)) s2
  | none => False) X := rfl
@[simp] theorem u_mPar (is : List Nat) (m : MA) : (mPar is m : MS) = fun s k => m s (fun rs s1 => puts is rs s1 k.nx) k.er := rfl
@[simp] theorem u_mDis (f : List PyData → O) (m : MA) : (mDis f m : ME) = fun s Q X => m s (fun rs s1 => match dats rs with
  | some ds => ds.length ≤ 100000 ∧ Q (.val (f ds)) s1
  | none => False) X := rfl
@[simp] theorem u_mRaise (C : Addr) : (mRaise C : MS) = fun s k => k.er (C, []) s := rfl
@[simp] theorem u_mCall (G : Den) (m : MA) : (mCall G m : ME) = fun s Q X => m s (fun rs s1 => match gets s1 rs with
  | some os => (slotsOf rs).Nodup ∧ G os s1.n (fun o os' n' => Q (.val o) (backs rs os' ⟨s1.env, n', s1.bor⟩)) (fun C os' n' => X C (backs rs os' ⟨s1.env, n', s1.bor⟩))
  | none => False) X := rfl
@[simp] theorem u_mCall0 (G : Den) (m : MA) : (mCall0 G m : ME) = fun s Q X => mCall G m s Q fun _ _ => False := rfl
@[simp] theorem u_mLM (f : List PyData → List PyData → (List PyData → PyData → Prop) → Prop) (i : Nat) (m : MA) : (mLM f i m : ME) = fun s Q X => isLst s i ∧ m s (fun rs s1 => match dats rs, s1.env[i]? with
  | some es, some (some (.lst ds)) => f ds es fun ds' d' => Q (.val (.dat d')) (putO s1 i (.lst ds'))
  | _, _ => False) X := rfl
@[simp] theorem u_isLst (s : S) (i : Nat) : (isLst s i : Prop) = (match s.env[i]? with
  | some (some (.lst _)) => True
  | _ => False) := rfl
@[simp] theorem u_fAppend  : (fAppend  : List PyData → List PyData → (List PyData → PyData → Prop) → Prop) = fun ds es Q => match es with
    | [e] => ds.length < 100000 ∧ Q (ds ++ [e]) .none
    | _ => False := rfl
@[simp] theorem u_mSl (m : ME) (lo hi : MO) : (mSl m lo hi : ME) = fun s Q X => m s (fun r s1 => lo s1 (fun l s2 => hi s2 (fun h s3 => match rd s3 r with
  | some d => fSl d l h fun o => Q (.val o) s3
  | none => False) X) X) X := rfl
@[simp] theorem u_mONone  : (mONone  : MO) = fun s Q _ => Q none s := rfl
@[simp] theorem u_mOSome (m : MD) : (mOSome m : MO) = fun s Q X => m s (fun d s1 => match d with
  | .int i => Q (some i) s1
  | _ => False) X := rfl
@[simp] theorem u_mStar (m : ME) (r : MA) : (mStar m r : MA) = fun s Q X => mD m s (fun d s1 => match seqOf d with
  | some ds => r s1 (fun rs s2 => Q (ds.map (fun d => .val (.dat d)) ++ rs) s2) X
  | none => False) X := rfl
@[simp] theorem u_mIt (m : ME) : (mIt m : MI) = fun s Q X => mD m s (fun d s1 => match itemsOf d with
  | some ds => Q ds s1
  | none => False) X := rfl
@[simp] theorem u_mFor (i : MI) (g : MG) (b : MS) : (mFor i g b : MS) = fun s k => i s (fun ds s1 => mForL g b ds s1 k) k.er := rfl
@[simp] theorem u_mBreak  : (mBreak  : MS) = fun s k => k.bk s := rfl
@[simp] theorem u_mCont  : (mCont  : MS) = fun s k => k.ct s := rfl
@[simp] theorem u_mAug (i : Nat) (f : Int → Int → Int) (m : MD) : (mAug i f m : MS) = fun s k => match s.env[i]? with
  | some (some (.dat (.int a))) => m s (fun d s1 => match d with
    | .int b => i ∉ s1.bor ∧ i < s1.env.length ∧ k.nx (putO s1 i (.dat (.int (f a b))))
    | _ => False) k.er
  | _ => False := rfl
@[simp] theorem u_fSub  : (fSub  : PyData → PyData → FO) = (fI0 fun a b => a - b) := rfl
@[simp] theorem u_fFdiv  : (fFdiv  : PyData → PyData → FO) = (fI2 CDivW fun a b => a / b) := rfl
@[simp] theorem u_fMod  : (fMod  : PyData → PyData → FO) = (fI2 (fun _ b => 0 < b) fun a b => a % b) := rfl
@[simp] theorem u_fPow  : (fPow  : PyData → PyData → FO) = (fI2 CPow fun a b => a ^ b.toNat) := rfl
@[simp] theorem u_fEq  : (fEq  : PyData → PyData → FO) = fun d e Q => eqOk d e ∧ Q (.dat (.bool (eqd d e))) := rfl
@[simp] theorem u_fNe  : (fNe  : PyData → PyData → FO) = fun d e Q => SeqAt.shaped d = true ∧ SeqAt.shaped e = true ∧ Q (.dat (.bool (!eqd d e))) := rfl
@[simp] theorem u_fLt  : (fLt  : PyData → PyData → FO) = (fCmp (fun a b => decide (a < b)) fun a b => decide (a.cps.toList < b.cps.toList)) := rfl
@[simp] theorem u_fGt  : (fGt  : PyData → PyData → FO) = (fCmp (fun a b => decide (b < a)) fun a b => decide (b.cps.toList < a.cps.toList)) := rfl
@[simp] theorem u_fGe  : (fGe  : PyData → PyData → FO) = (fCmp (fun a b => decide (b ≤ a)) fun a b => !decide (a.cps.toList < b.cps.toList)) := rfl
@[simp] theorem u_mRng1 (m : MA) : (mRng1 m : MI) = fun s Q X => m s (fun rs s1 => match dats rs with
  | some [.int j] => -(2 ^ 62) ≤ j ∧ j < 2 ^ 62 ∧ Q (intsFrom 0 j.toNat) s1
  | _ => False) X := rfl
@[simp] theorem u_mRng2 (m : MA) : (mRng2 m : MI) = fun s Q X => m s (fun rs s1 => match dats rs with
  | some [.int i, .int j] => (-(2 ^ 62) ≤ i ∧ i < 2 ^ 62 ∧ -(2 ^ 62) ≤ j ∧ j < 2 ^ 62) ∧ Q (intsFrom i (j - i).toNat) s1
  | _ => False) X := rfl
@[simp] theorem u_mLPut (i : Nat) (mk mv : MD) : (mLPut i mk mv : MS) = fun s k => mv s (fun d s1 => isLst s1 i ∧ mk s1 (fun y s2 => match s2.env[i]?, y with
  | some (some (.lst ds)), .int j => match ixN ds.length j with
    | some n => k.nx (putO s2 i (.lst (ds.set n d)))
    | none => False
  | _, _ => False) k.er) k.er := rfl
@[simp] theorem u_mDPut (i : Nat) (mk mv : MD) : (mDPut i mk mv : MS) = fun s k => mv s (fun d s1 => isDct s1 i ∧ mk s1 (fun y s2 => match s2.env[i]?, keyOf y with
  | some (some (.dct kvs)), some key => kvs.length < 100000 ∧ k.nx (putO s2 i (.dct (putD kvs key d)))
  | _, _ => False) k.er) k.er := rfl
@[simp] theorem u_mDNew  : (mDNew  : ME) = fun s Q _ => Q (.val (.dct [])) s := rfl
@[simp] theorem u_mGet2 (m : ME) (mk mx : MD) : (mGet2 m mk mx : ME) = fun s Q X => m s (fun r s1 => (∃ kvs, dctOf s1 r = some kvs) ∧ mk s1 (fun k s2 => mx s2 (fun z s3 => match dctOf s3 r, keyOf k with
  | some kvs, some k => Q (.val (.dat ((getK kvs k).getD z))) s3
  | _, _ => False) X) X) X := rfl
@[simp] theorem u_mGetD (m : ME) (mk : MD) : (mGetD m mk : ME) = fun s Q X => m s (fun r s1 => mk s1 (fun k s2 => match dctOf s2 r, keyOf k with
  | some kvs, some k => match getK kvs k with
    | some d => Q (.val (.dat d)) s2
    | none => False
  | _, _ => False) X) X := rfl
@[simp] theorem u_isDct (s : S) (i : Nat) : (isDct s i : Prop) = (match s.env[i]? with
  | some (some (.dct _)) => True
  | _ => False) := rfl
@[simp] theorem u_mYes  : (mYes  : MT) = fun s Q _ => Q true s := rfl
@[simp] theorem u_mLc (i : MI) (g : MG) (t : MT) (e : ME) (vs : List Nat) : (mLc i g t e vs : ME) = fun s Q X => i s (fun ds s1 => (∀ v ∈ vs, v ∉ s1.bor) ∧ mLcL g t e vs ds [] (wipeS vs s1) fun acc s2 => Q (.val (.lst acc)) s2) X := rfl
@[simp] theorem u_wipeS (vs : List Nat) (s : S) : (wipeS vs s : S) = (⟨wipeE s.env vs, s.n, s.bor⟩) := rfl
@[simp] theorem u_mCaught (K : PySem.W.Frag) (CS : Addr) (m : ME) : (mCaught K CS m : ME) = fun s Q _ => m s (fun _ s1 => Q (.val (.dat .none)) s1) (fun C s1 => PySem.W.exmOne K (.ref C.1) (.ref CS) = some true ∧ Q (.val (.exc C)) s1) := rfl
@[simp] theorem u_fSl (d : PyData) (lo hi : Option Int) : (fSl d lo hi : FO) = fun Q => match d with
  | .list ds => Q (.lst (cutD ds lo hi))
  | .tuple ds => Q (.dat (.tuple (cutD ds lo hi)))
  | .str z => z.length ≤ 100000 ∧ Q (.dat (.str (cutS z lo hi)))
  | _ => False := rfl
@[simp] theorem u_fIn  : (fIn  : PyData → PyData → FO) = fun d e Q => match inB d e with
  | some b => Q (.dat (.bool b))
  | none => False := rfl
@[simp] theorem u_fNotIn  : (fNotIn  : PyData → PyData → FO) = fun d e Q => match inB d e with
  | some b => Q (.dat (.bool (!b)))
  | none => False := rfl
@[simp] theorem u_mgT (n : Nat) (m : MGs) : (mgT n m : MG) = fun d s Q => match d with
  | .tuple ds => ds.length = n ∧ m ds s Q
  | _ => False := rfl

section
variable {s : S} {os : List O} {o : O} {n k i j N : Nat} {d e : PyData} {ds es : List PyData} {rs : List Rs} {r : Rs} {Q : O → List O → Nat → Prop} {X : Exn → List O → Nat → Prop} {C : Exn} {q : O → Prop}
@[simp] theorem u_kOf_nx : (kOf os Q X).nx s = (match fins os s.env with
  | some os' => Q (.dat .none) os' s.n
  | none => False) := rfl
@[simp] theorem u_kOf_rt : (kOf os Q X).rt o s = (match fins os s.env with
  | some os' => Q o os' s.n
  | none => False) := rfl
@[simp] theorem u_kOf_er : (kOf os Q X).er C s = (match fins os s.env with
  | some os' => X C os' s.n
  | none => False) := rfl
@[simp] theorem u_owns_nil : ownsFrom k [] = [] := rfl
@[simp] theorem u_owns_dat : ownsFrom k (.dat d :: os) = ownsFrom (k + 1) os := rfl
@[simp] theorem u_owns_exc : ownsFrom k (.exc C :: os) = ownsFrom (k + 1) os := rfl
@[simp] theorem u_owns_st : ownsFrom k (.st :: os) = k :: ownsFrom (k + 1) os := rfl
@[simp] theorem u_owns_lst : ownsFrom k (.lst ds :: os) = k :: ownsFrom (k + 1) os := rfl
@[simp] theorem u_fins_nil {es : List (Option O)} : fins [] es = some [] := by cases es <;> rfl
@[simp] theorem u_fins_dat {x : Option O} {es : List (Option O)} : fins (.dat d :: os) (x :: es) = (fins os es).map (O.dat d :: ·) := by
  show (match some (O.dat d), fins os es with
    | some x, some xs => some (x :: xs)
    | _, _ => none) = _
  cases fins os es <;> rfl
@[simp] theorem u_fins_exc {x : Option O} {es : List (Option O)} : fins (.exc C :: os) (x :: es) = (fins os es).map (O.exc C :: ·) := by
  show (match some (O.exc C), fins os es with
    | some x, some xs => some (x :: xs)
    | _, _ => none) = _
  cases fins os es <;> rfl
@[simp] theorem u_fins_st {x : O} {es : List (Option O)} : fins (.st :: os) (some x :: es) = (fins os es).map (x :: ·) := by
  show (match some x, fins os es with
    | some x, some xs => some (x :: xs)
    | _, _ => none) = _
  cases fins os es <;> rfl
@[simp] theorem u_fins_lst {x : O} {es : List (Option O)} : fins (.lst ds :: os) (some x :: es) = (fins os es).map (x :: ·) := by
  show (match some x, fins os es with
    | some x, some xs => some (x :: xs)
    | _, _ => none) = _
  cases fins os es <;> rfl
@[simp] theorem u_mov_dat : mov s (.val (.dat d)) = some (.dat d, s) := rfl
@[simp] theorem u_mov_exc : mov s (.val (.exc C)) = some (.exc C, s) := rfl
@[simp] theorem u_mov_lst : mov s (.val (.lst ds)) = some (.lst ds, s) := rfl
@[simp] theorem u_mov_st : mov s (.val .st) = some (.st, s) := rfl
@[simp] theorem u_mov_dct {kvs : List (Key × PyData)} : mov s (.val (.dct kvs)) = some (.dct kvs, s) := rfl
@[simp] theorem u_mov_slot : mov s (.slot i) = (match s.env[i]? with
    | some (some (.dct kvs)) => some (.dct kvs, ⟨s.env.set i none, s.n, s.bor⟩)
    | _ => match frz s (.slot i) with
      | some (d, s1) => some (.dat d, s1)
      | none => none) := rfl
@[simp] theorem u_frz_dat : frz s (.val (.dat d)) = some (d, s) := rfl
@[simp] theorem u_frz_lst : frz s (.val (.lst ds)) = some (.list ds, s) := rfl
@[simp] theorem u_frz_dct : frz s (.val (.dct [])) = some (.dict [], s) := rfl
@[simp] theorem u_frz_exc : frz s (.val (.exc C)) = none := rfl
@[simp] theorem u_frz_slot : frz s (.slot i) = (match s.env[i]? with
    | some (some (.dat d)) => some (d, s)
    | some (some (.lst ds)) => some (.list ds, ⟨s.env.set i (some (.dat (.list ds))), s.n, s.bor⟩)
    | some (some (.dn kvs)) => some (keysD kvs, ⟨s.env.set i (some (.dat (keysD kvs))), s.n, s.bor⟩)
    | _ => none) := rfl
@[simp] theorem u_rd_dat : rd s (.val (.dat d)) = some d := rfl
@[simp] theorem u_rd_lst : rd s (.val (.lst ds)) = some (.list ds) := rfl
@[simp] theorem u_rd_dct : rd s (.val (.dct [])) = some (.dict []) := rfl
@[simp] theorem u_rd_slot : rd s (.slot i) = (match s.env[i]? with
    | some (some o) => rdO o
    | _ => none) := rfl
@[simp] theorem u_rdO_dat : rdO (.dat d) = some d := rfl
@[simp] theorem u_rdO_lst : rdO (.lst ds) = some (.list ds) := rfl
@[simp] theorem u_rds_nil : rds s [] = some [] := rfl
@[simp] theorem u_rds_cons : rds s (r :: rs) = (match rd s r, rds s rs with
  | some d, some ds => some (d :: ds)
  | _, _ => none) := rfl
@[simp] theorem u_fl1 {f : PyData → FO} : fl1 f [d] q = f d q := rfl
@[simp] theorem u_fl2 {f : PyData → PyData → FO} : fl2 f [d, e] q = f d e q := rfl
@[simp] theorem u_puts_nil {q : S → Prop} : puts [] [] s q = q s := rfl
@[simp] theorem u_puts_cons {is : List Nat} {q : S → Prop} : puts (i :: is) (.val o :: rs) s q = (i ∉ s.bor ∧ i < s.env.length ∧ puts is rs (putO s i o) q) := rfl
@[simp] theorem u_dats_nil : dats [] = some [] := rfl
@[simp] theorem u_dats_cons : dats (.val (.dat d) :: rs) = (dats rs).map (d :: ·) := by
  show (match dats rs with
    | some ds => some (d :: ds)
    | none => none) = _
  cases dats rs <;> rfl
@[simp] theorem u_gets_nil : gets s [] = some [] := rfl
@[simp] theorem u_gets_val : gets s (.val o :: rs) = (gets s rs).map (o :: ·) := by
  show (match gets s rs with
    | some os => some (o :: os)
    | none => none) = _
  cases gets s rs <;> rfl
@[simp] theorem u_gets_slot : gets s (.slot i :: rs) = (match s.env[i]?, gets s rs with
    | some (some o), some os => some (o :: os)
    | _, _ => none) := rfl
@[simp] theorem u_slots_nil : slotsOf [] = [] := rfl
@[simp] theorem u_slots_val : slotsOf (.val o :: rs) = slotsOf rs := rfl
@[simp] theorem u_slots_slot : slotsOf (.slot i :: rs) = i :: slotsOf rs := rfl
@[simp] theorem u_backs_nil : backs [] os s = s := by cases os <;> rfl
@[simp] theorem u_backs_val {o' : O} : backs (.val o :: rs) (o' :: os) s = backs rs os s := rfl
@[simp] theorem u_backs_slot {o' : O} : backs (.slot i :: rs) (o' :: os) s = backs rs os (putO s i o') := rfl
@[simp] theorem u_fI0 {g : Int → Int → Int} {a b : Int} : fI0 g (.int a) (.int b) q = q (.dat (.int (g a b))) := rfl
@[simp] theorem u_fI2 {c : Int → Int → Prop} {g : Int → Int → Int} {a b : Int} : fI2 c g (.int a) (.int b) q = (c a b ∧ q (.dat (.int (g a b)))) := rfl
@[simp] theorem u_fCmp {f : Int → Int → Bool} {g : Str → Str → Bool} {a b : Int} : fCmp f g (.int a) (.int b) q = q (.dat (.bool (f a b))) := rfl
@[simp] theorem u_fCmpS {f : Int → Int → Bool} {g : Str → Str → Bool} {a b : Str} : fCmp f g (.str a) (.str b) q = q (.dat (.bool (g a b))) := rfl
@[simp] theorem u_fAdd {a b : Int} : fAdd (.int a) (.int b) q = q (.dat (.int (a + b))) := rfl
@[simp] theorem u_fAddS {a b : Str} : fAdd (.str a) (.str b) q = (a.length + b.length ≤ 100000 ∧ q (.dat (.str (a ++ b)))) := rfl
@[simp] theorem u_fAddL : fAdd (.list ds) (.list es) q = (ds.length + es.length ≤ 100000 ∧ q (.lst (ds ++ es))) := rfl
@[simp] theorem u_fAddT : fAdd (.tuple ds) (.tuple es) q = (ds.length + es.length ≤ 100000 ∧ q (.dat (.tuple (ds ++ es)))) := rfl
@[simp] theorem u_fMul {a b : Int} : fMul (.int a) (.int b) q = (CMulA a b ∧ q (.dat (.int (a * b)))) := rfl
@[simp] theorem u_fMulS {a : Str} {b : Int} : fMul (.str a) (.int b) q = (2 ≤ b ∧ b ≤ 1000 ∧ 1 ≤ a.cps.size ∧ a.cps.size ≤ 1000 ∧ q (.dat (.str (repS a b.toNat)))) := rfl
@[simp] theorem u_fMulT {b : Int} : fMul (.tuple ds) (.int b) q = (ds ≠ [] ∧ 2 ≤ b ∧ b ≤ 1000 ∧ ds.length ≤ 1000 ∧ q (.dat (.tuple (List.replicate b.toNat ds).flatten))) := rfl
@[simp] theorem u_fLe {a b : Int} : fLe (.int a) (.int b) q = q (.dat (.bool (decide (a ≤ b)))) := rfl
@[simp] theorem u_fLeT : fLe (.tuple ds) (.tuple es) q = (match intsOf? ds, intsOf? es with
    | some ns, some ms => q (.dat (.bool (leTup ns ms)))
    | _, _ => False) := rfl
@[simp] theorem u_fLenL : fLen (.list ds) q = q (.dat (.int (ds.length : Int))) := rfl
@[simp] theorem u_fLenT : fLen (.tuple ds) q = q (.dat (.int (ds.length : Int))) := rfl
@[simp] theorem u_fLenS {z : Str} : fLen (.str z) q = (z.length ≤ 100000 ∧ q (.dat (.int (z.length : Int)))) := rfl
@[simp] theorem u_fIntI {a : Int} : fIntI (.int a) q = q (.dat (.int a)) := rfl
@[simp] theorem u_fIntB {a : Bool} : fIntI (.bool a) q = q (.dat (.int (if a then 1 else 0))) := rfl
@[simp] theorem u_fMin2 {a b : Int} : fMin2 (.int a) (.int b) q = q (.dat (.int (if b < a then b else a))) := rfl
@[simp] theorem u_fNeg {a : Int} : fNeg (.int a) q = q (.dat (.int (-a))) := rfl
@[simp] theorem u_fTupleL : fTuple (.list ds) q = q (.dat (.tuple ds)) := rfl
@[simp] theorem u_fTupleT : fTuple (.tuple ds) q = q (.dat (.tuple ds)) := rfl
@[simp] theorem u_fIxL {a : Int} : fIx (.list ds) (.int a) q = (match atI ds a with
    | some d => q (.dat d)
    | none => False) := rfl
@[simp] theorem u_fIxT {a : Int} : fIx (.tuple ds) (.int a) q = (match atI ds a with
    | some d => q (.dat d)
    | none => False) := rfl
@[simp] theorem u_fRev : fRev (.tuple ds) q = q (.dat (.tuple ds.reverse)) := rfl
@[simp] theorem u_fIsN : fIsN d .none q = q (.dat (.bool (isNone d))) := by cases d <;> rfl
@[simp] theorem u_fNotN : fNotN d .none q = q (.dat (.bool (!isNone d))) := by cases d <;> rfl
@[simp] theorem u_fIsB {a b : Bool} : fIsB (.bool a) (.bool b) q = q (.dat (.bool (decide (a = b)))) := rfl
@[simp] theorem u_fNotB {a b : Bool} : fNotB (.bool a) (.bool b) q = q (.dat (.bool (!decide (a = b)))) := rfl
@[simp] theorem u_seqL : seqOf (.list ds) = some ds := rfl
@[simp] theorem u_seqT : seqOf (.tuple ds) = some ds := rfl
@[simp] theorem u_itemsL : itemsOf (.list ds) = some ds := rfl
@[simp] theorem u_itemsT : itemsOf (.tuple ds) = some ds := rfl
@[simp] theorem u_atI0 {x : PyData} : atI (x :: ds) 0 = some x := atI_nat (j := 0) rfl
@[simp] theorem u_forL_nil {g : MG} {b : MS} {k : SK} : mForL g b [] s k = k.nx s := rfl
@[simp] theorem u_lcL_nil {g : MG} {t : MT} {e : ME} {vs : List Nat} {acc : List PyData} {Q : List PyData → S → Prop} : mLcL g t e vs [] acc s Q = Q acc s := rfl
@[simp] theorem sh_int {i : Int} : SeqAt.shaped (.int i) = true := rfl
@[simp] theorem sh_str {i : Str} : SeqAt.shaped (.str i) = PyData.strOk i := by
  simp [SeqAt.shaped, PyData.depth, PyData.canLay0]
@[simp] theorem sh_bool {i : Bool} : SeqAt.shaped (.bool i) = true := rfl
@[simp] theorem sh_none : SeqAt.shaped .none = true := rfl
@[simp] theorem eqd_int {i j : Int} : eqd (.int i) (.int j) = decide (i = j) := by
  unfold eqd
  by_cases h : i = j
  · subst h; simp [PyData.eqv]
  · simp [PyData.eqv, h]
@[simp] theorem eqd_str {i j : Str} : eqd (.str i) (.str j) = decide (i = j) := by
  unfold eqd
  by_cases h : i = j
  · subst h; simp [PyData.eqv]
  · simp [PyData.eqv, h]
end
end Mk

/-! part Mx -/
/-! Mk, part 18: what the denotations come to, step by step. -/
namespace Mk
open PySem PySem.Spec PyProof.Rows L2 Evl Lk LamX
def movK (r : Rs) (s : S) (k : O → S → Prop) : Prop := match mov s r with
  | some (o, s2) => k o s2
  | none => False
def frzK (r : Rs) (s : S) (k : PyData → S → Prop) : Prop := match frz s r with
  | some (d, s2) => k d s2
  | none => False
def boolK (r : Rs) (s : S) (k : Bool → S → Prop) : Prop := match r with
  | .val (.dat (.bool b)) => k b s
  | _ => False
def rdK (r : Rs) (s : S) (k : PyData → Prop) : Prop := match rd s r with
  | some d => k d
  | none => False
def rdsK (rs : List Rs) (s : S) (k : List PyData → Prop) : Prop := match rds s rs with
  | some ds => k ds
  | none => False
def datsK (rs : List Rs) (k : List PyData → Prop) : Prop := match dats rs with
  | some ds => k ds
  | none => False
def callK (G : Den) (rs : List Rs) (s1 : S) (Q : Rs → S → Prop) (X : XM) : Prop := match gets s1 rs with
  | some os => (slotsOf rs).Nodup ∧ G os s1.n (fun o os' n' => Q (.val o) (backs rs os' ⟨s1.env, n', s1.bor⟩)) (fun C os' n' => X C (backs rs os' ⟨s1.env, n', s1.bor⟩))
  | none => False
def itK (d : PyData) (k : List PyData → Prop) : Prop := match itemsOf d with
  | some ds => k ds
  | none => False
def intK (d : PyData) (k : Int → Prop) : Prop := match d with
  | .int i => k i
  | _ => False
def lmK (f : List PyData → List PyData → (List PyData → PyData → Prop) → Prop) (i : Nat) (rs : List Rs) (s1 : S) (Q : Rs → S → Prop) : Prop := match dats rs, s1.env[i]? with
  | some es, some (some (.lst ds)) => f ds es fun ds' d' => Q (.val (.dat d')) (putO s1 i (.lst ds'))
  | _, _ => False
section
variable {s s1 : S} {os os' : List O} {o : O} {n i j N p : Nat} {d e : PyData} {ds es : List PyData} {rs : List Rs} {r r2 : Rs} {Q : O → List O → Nat → Prop} {Y : Exn → List O → Nat → Prop} {C : Exn} {q : O → Prop} {m m' : ME} {X : XM} {ma mr : MA} {a b : MT} {P : Rs → S → Prop} {PB : Bool → S → Prop} {PA : List Rs → S → Prop} {PD : PyData → S → Prop} {K : SK} {st st' : MS} {c : Bool} {A B : Prop} {md me : MD} {PS : S → Prop} {z : Option O} {f f' : PyData → PyData → FO}
/-! ### a def's run -/
theorem x_run {b : MS} {ev : List (Option O)} {bo : List Nat} (hl : os.length = p) (he : os.map some ++ List.replicate (N - os.length) none = ev) (hb : ownsFrom 0 os = bo) (h : b ⟨ev, n, bo⟩ (kOf os Q Y)) : runF p N b os n Q Y := by
  subst he hb
  exact ⟨hl, h⟩
theorem x_rt {ev : List (Option O)} {bo : List Nat} (h : fins os ev = some os') (q : Q o os' n) : (kOf os Q Y).rt o ⟨ev, n, bo⟩ := by
  show (match fins os ev with
    | some os' => Q o os' n
    | none => False)
  rw [h]; exact q
theorem x_nx {ev : List (Option O)} {bo : List Nat} (h : fins os ev = some os') (q : Q (.dat .none) os' n) : (kOf os Q Y).nx ⟨ev, n, bo⟩ := by
  show (match fins os ev with
    | some os' => Q (.dat .none) os' n
    | none => False)
  rw [h]; exact q
theorem x_er {ev : List (Option O)} {bo : List Nat} (h : fins os ev = some os') (q : Y C os' n) : (kOf os Q Y).er C ⟨ev, n, bo⟩ := by
  show (match fins os ev with
    | some os' => Y C os' n
    | none => False)
  rw [h]; exact q
/-! ### results -/
theorem x_mov_dat {k : O → S → Prop} (h : k (.dat d) s) : movK (.val (.dat d)) s k := h
theorem x_mov_lst {k : O → S → Prop} (h : k (.lst ds) s) : movK (.val (.lst ds)) s k := h
theorem x_mov_dct {k : O → S → Prop} {kvs : List (Key × PyData)} (h : k (.dct kvs) s) : movK (.val (.dct kvs)) s k := h
theorem x_mov_exc {k : O → S → Prop} (h : k (.exc C) s) : movK (.val (.exc C)) s k := h
theorem x_mov_st {k : O → S → Prop} (h : k .st s) : movK (.val .st) s k := h
theorem x_mov_slot {k : O → S → Prop} {ev ev' : List (Option O)} {bo : List Nat} (e : ev[i]? = some (some (.lst ds))) (h3 : ev.set i (some (.dat (.list ds))) = ev') (h : k (.dat (.list ds)) ⟨ev', n, bo⟩) : movK (.slot i) ⟨ev, n, bo⟩ k := by
  subst h3
  obtain ⟨s, es⟩ : ∃ s : S, s = ⟨ev, n, bo⟩ := ⟨_, rfl⟩
  have e : s.env[i]? = some (some (.lst ds)) := by rw [es]; exact e
  have h : k (.dat (.list ds)) ⟨s.env.set i (some (.dat (.list ds))), s.n, s.bor⟩ := by rw [es]; exact h
  rw [← es]
  have z : mov s (.slot i) = some (.dat (.list ds), ⟨s.env.set i (some (.dat (.list ds))), s.n, s.bor⟩) := by
    rw [u_mov_slot, u_frz_slot, e]
  unfold movK
  rw [z]; exact h
theorem x_mov_slotD {k : O → S → Prop} {kvs : List (Key × PyData)} {ev ev' : List (Option O)} {bo : List Nat} (e : ev[i]? = some (some (.dct kvs))) (h3 : ev.set i none = ev') (h : k (.dct kvs) ⟨ev', n, bo⟩) : movK (.slot i) ⟨ev, n, bo⟩ k := by
  subst h3
  obtain ⟨s, es⟩ : ∃ s : S, s = ⟨ev, n, bo⟩ := ⟨_, rfl⟩
  have e : s.env[i]? = some (some (.dct kvs)) := by rw [es]; exact e
  have h : k (.dct kvs) ⟨s.env.set i none, s.n, s.bor⟩ := by rw [es]; exact h
  rw [← es]
  have z : mov s (.slot i) = some (.dct kvs, ⟨s.env.set i none, s.n, s.bor⟩) := by
    rw [u_mov_slot, e]
  unfold movK
  rw [z]; exact h
theorem x_frz_dat {k : PyData → S → Prop} (h : k d s) : frzK (.val (.dat d)) s k := h
theorem x_frz_lst {k : PyData → S → Prop} (h : k (.list ds) s) : frzK (.val (.lst ds)) s k := h
theorem x_frz_dct {k : PyData → S → Prop} (h : k (.dict []) s) : frzK (.val (.dct [])) s k := h
theorem x_frz_slot {k : PyData → S → Prop} {ev ev' : List (Option O)} {bo : List Nat} (e : ev[i]? = some (some (.lst ds))) (h3 : ev.set i (some (.dat (.list ds))) = ev') (h : k (.list ds) ⟨ev', n, bo⟩) : frzK (.slot i) ⟨ev, n, bo⟩ k := by
  subst h3
  obtain ⟨s, es⟩ : ∃ s : S, s = ⟨ev, n, bo⟩ := ⟨_, rfl⟩
  have e : s.env[i]? = some (some (.lst ds)) := by rw [es]; exact e
  have h : k (.list ds) ⟨s.env.set i (some (.dat (.list ds))), s.n, s.bor⟩ := by rw [es]; exact h
  rw [← es]
  have z : frz s (.slot i) = some (.list ds, ⟨s.env.set i (some (.dat (.list ds))), s.n, s.bor⟩) := by
    rw [u_frz_slot, e]
  unfold frzK
  rw [z]; exact h
theorem x_bool {k : Bool → S → Prop} (h : k c s) : boolK (.val (.dat (.bool c))) s k := h
theorem x_rdK {k : PyData → Prop} (e : rd s r = some d) (h : k d) : rdK r s k := by
  unfold rdK; rw [e]; exact h
theorem x_rdsK {k : List PyData → Prop} (e : rds s rs = some ds) (h : k ds) : rdsK rs s k := by
  unfold rdsK; rw [e]; exact h
theorem x_datsK {k : List PyData → Prop} (e : dats rs = some ds) (h : k ds) : datsK rs k := by
  unfold datsK; rw [e]; exact h
theorem x_itK {k : List PyData → Prop} (e : itemsOf d = some ds) (h : k ds) : itK d k := by
  unfold itK; rw [e]; exact h
theorem x_intK {k : Int → Prop} {i : Int} (h : k i) : intK (.int i) k := h
theorem x_callK {G : Den} {ev : List (Option O)} {bo : List Nat} (e : gets ⟨ev, n, bo⟩ rs = some os) (nd : (slotsOf rs).Nodup) (h : G os n (fun o os' n' => P (.val o) (backs rs os' ⟨ev, n', bo⟩)) (fun C os' n' => X C (backs rs os' ⟨ev, n', bo⟩))) : callK G rs ⟨ev, n, bo⟩ P X := by
  unfold callK; rw [e]; exact ⟨nd, h⟩
theorem backs_vals : ∀ {rs : List Rs} {os : List O} {s : S}, slotsOf rs = [] → backs rs os s = s
  | [], os, s, _ => by cases os <;> rfl
  | .val _ :: rs, [], s, _ => rfl
  | .val _ :: rs, _ :: os, s, h => backs_vals (rs := rs) (os := os) h
  | .slot _ :: _, _, _, h => nomatch h
/-- .. of data alone -/
theorem x_callV {G : Den} {ev : List (Option O)} {bo : List Nat} (e : gets ⟨ev, n, bo⟩ rs = some os) (nd : slotsOf rs = []) (h : G os n (fun o os' n' => P (.val o) ⟨ev, n', bo⟩) (fun C os' n' => X C ⟨ev, n', bo⟩)) : callK G rs ⟨ev, n, bo⟩ P X := by
  unfold callK
  rw [e]
  refine ⟨by rw [nd]; exact List.nodup_nil, ?_⟩
  have e1 : (fun o os' n' => P (.val o) (backs rs os' ⟨ev, n', bo⟩)) = fun o (_ : List O) n' => P (.val o) ⟨ev, n', bo⟩ := by
    funext o os' n'
    rw [backs_vals nd]
  have e2 : (fun C os' n' => X C (backs rs os' ⟨ev, n', bo⟩)) = fun C (_ : List O) n' => X C ⟨ev, n', bo⟩ := by
    funext o os' n'
    rw [backs_vals nd]
  rw [e1, e2]
  exact h
theorem x_fEqS {x y : Str} (h1 : PyData.strOk x = true) (h2 : PyData.strOk y = true) (h : q (.dat (.bool (decide (x = y))))) : fEq (.str x) (.str y) q := ⟨.inl ⟨by rw [sh_str]; exact h1, by rw [sh_str]; exact h2⟩, by rw [eqd_str]; exact h⟩
theorem x_fEqN0 (h : q (.dat (.bool true))) : fEq (.tuple []) (.tuple []) q := ⟨.inr ⟨⟨[], rfl⟩, rfl⟩, by rw [eqd_nil]; exact h⟩
theorem x_fEqNc (h : q (.dat (.bool false))) : fEq (.tuple (d :: ds)) (.tuple []) q := ⟨.inr ⟨⟨_, rfl⟩, rfl⟩, by rw [eqd_nil, decide_eq_false (by rw [List.length_cons]; omega)]; exact h⟩
theorem x_fEqN (h : q (.dat (.bool (decide (ds.length = 0))))) : fEq (.tuple ds) (.tuple []) q := ⟨.inr ⟨⟨ds, rfl⟩, rfl⟩, by rw [eqd_nil]; exact h⟩
theorem x_fNeS {x y : Str} (h1 : PyData.strOk x = true) (h2 : PyData.strOk y = true) (h : q (.dat (.bool (!decide (x = y))))) : fNe (.str x) (.str y) q := ⟨by rw [sh_str]; exact h1, by rw [sh_str]; exact h2, by rw [eqd_str]; exact h⟩
theorem x_fInC {c : Nat} {z : Str} (h : q (.dat (.bool (decide (c ∈ z.cps.toList))))) : fIn (.str ⟨#[c]⟩) (.str z) q := h
theorem x_fNotInC {c : Nat} {z : Str} (h : q (.dat (.bool (!decide (c ∈ z.cps.toList))))) : fNotIn (.str ⟨#[c]⟩) (.str z) q := h
theorem x_disl {ds : List PyData} {A : Prop} (h1 : ds.length ≤ 100000) (h : A) : ds.length ≤ 100000 ∧ A := ⟨h1, h⟩
theorem x_lmK {g : List PyData → List PyData → (List PyData → PyData → Prop) → Prop} {ev : List (Option O)} {bo : List Nat} (e1 : dats rs = some es) (e2 : ev[i]? = some (some (.lst ds))) (h : g ds es fun ds' d' => P (.val (.dat d')) ⟨ev.set i (some (.lst ds')), n, bo⟩) : lmK g i rs ⟨ev, n, bo⟩ P := by
  obtain ⟨s, es⟩ : ∃ s : S, s = ⟨ev, n, bo⟩ := ⟨_, rfl⟩
  have e2 : s.env[i]? = some (some (.lst ds)) := by rw [es]; exact e2
  rw [← es]
  unfold lmK; rw [e1, e2]
  subst es
  exact h
/-! ### statements -/
theorem x_seq (h : st s { K with nx := fun s1 => st' s1 K }) : mSeq st st' s K := h
theorem x_next (h : K.nx s) : mNext s K := h
theorem x_retN (h : K.rt (.dat .none) s) : mRetN s K := h
theorem x_ret (h : m s (fun r s1 => movK r s1 K.rt) K.er) : mRet m s K := h
theorem x_drop (h : m s (fun _ s1 => K.nx s1) K.er) : mDrop m s K := h
theorem x_brk (h : K.bk s) : mBreak s K := h
theorem x_cnt (h : K.ct s) : mCont s K := h
theorem x_rse {D : Addr} (h : K.er (D, []) s) : mRaise D s K := h
theorem x_if (h : a s (fun q s1 => if q = true then st s1 K else st' s1 K) K.er) : mIf a st st' s K := h
def putK (i : Nat) (o : O) (s : S) (k : S → Prop) : Prop := i ∉ s.bor ∧ i < s.env.length ∧ k (putO s i o)
theorem x_asg (h : m s (fun r s1 => movK r s1 fun o s2 => putK i o s2 K.nx) K.er) : mAsg i m s K := h
theorem x_put {ev ev' : List (Option O)} {bo : List Nat} (h1 : i ∉ bo) (h2 : i < ev.length) (h3 : ev.set i (some o) = ev') (h : PS ⟨ev', n, bo⟩) : putK i o ⟨ev, n, bo⟩ PS := by
  subst h3; exact ⟨h1, h2, h⟩
theorem x_asgG {g : MG} (h : md s (fun d s1 => g d s1 K.nx) K.er) : mAsgG g md s K := h
theorem x_gN (h : putK i (.dat d) s PS) : mgN i d s PS := h
theorem x_gT {g : MGs} (hl : ds.length = n) (h : g ds s PS) : mgT n g (.tuple ds) s PS := ⟨hl, h⟩
theorem x_gC {g : MG} {gs : MGs} (h : g d s fun s1 => gs ds s1 PS) : mgCons g gs (d :: ds) s PS := h
theorem x_gE (h : PS s) : mgNil [] s PS := ⟨rfl, h⟩
theorem x_par {is : List Nat} (h : ma s (fun rs s1 => puts is rs s1 K.nx) K.er) : mPar is ma s K := h
theorem x_putsE (h : PS s) : puts [] [] s PS := h
theorem x_putsC {is : List Nat} (h : putK i o s fun s1 => puts is rs s1 PS) : puts (i :: is) (.val o :: rs) s PS := ⟨h.1, h.2.1, h.2.2⟩
theorem x_for {mi : MI} {g : MG} (h : mi s (fun ds s1 => mForL g st ds s1 K) K.er) : mFor mi g st s K := h
theorem x_aug {op : Int → Int → Int} {u : Int} (e : s.env[i]? = some (some (.dat (.int u)))) (h : md s (fun d s1 => intK d fun v => putK i (.dat (.int (op u v))) s1 K.nx) K.er) : mAug i op md s K := by
  unfold mAug
  rw [e]
  exact h
theorem x_ite (h1 : c = true → A) (h2 : c = false → B) : if c = true then A else B := by
  cases c
  · exact h2 rfl
  · exact h1 rfl
theorem x_iteT (h : A) : if true = true then A else B := h
theorem x_iteF (h : B) : if false = true then A else B := h
theorem x_iteT2 (e : c = true) (h : A) : if c = true then A else B := by rw [if_pos e]; exact h
theorem x_iteF2 (e : c = false) (h : B) : if c = true then A else B := by rw [e, if_neg Bool.false_ne_true]; exact h
theorem x_iteN (e : c = true) (h : B) : if (!c) = true then A else B := by rw [e]; exact h
theorem x_iteM (e : c = false) (h : A) : if (!c) = true then A else B := by rw [e]; exact h
theorem x_fin {o' : O} (h : Q o os n) (e : o' = o) : Q o' os n := e ▸ h
/-! ### expressions -/
theorem x_v_dat (e : s.env[i]? = some (some (.dat d))) (h : P (.val (.dat d)) s) : mVar i s P X := by
  unfold mVar; rw [e]; exact h
theorem x_v_exc (e : s.env[i]? = some (some (.exc C))) (h : P (.val (.exc C)) s) : mVar i s P X := by
  unfold mVar; rw [e]; exact h
theorem x_v_lst (e : s.env[i]? = some (some (.lst ds))) (h : P (.slot i) s) : mVar i s P X := by
  unfold mVar; rw [e]; exact h
theorem x_v_dct {kvs : List (Key × PyData)} (e : s.env[i]? = some (some (.dct kvs))) (h : P (.slot i) s) : mVar i s P X := by
  unfold mVar; rw [e]; exact h
theorem x_v_st (e : s.env[i]? = some (some .st)) (h : P (.slot i) s) : mVar i s P X := by
  unfold mVar; rw [e]; exact h
theorem x_c (h : P (.val (.dat d)) s) : mC d s P X := h
theorem x_d (h : m s (fun r s1 => frzK r s1 PD) X) : mD m s PD X := h
theorem x_b (h : m s (fun r s1 => boolK r s1 PB) X) : mB m s PB X := h
theorem x_fz (h : m s (fun r s1 => frzK r s1 fun d s2 => P (.val (.dat d)) s2) X) : mFz m s P X := h
theorem x_mv (h : m s (fun r s1 => movK r s1 fun o s2 => P (.val o) s2) X) : mMv m s P X := h
theorem x_not (h : a s (fun q s1 => PB (!q) s1) X) : mNot a s PB X := h
theorem x_notV (h : a s (fun q s1 => P (.val (.dat (.bool (!q)))) s1) X) : mNotV a s P X := h
theorem x_and (h : a s (fun q s1 => if q = true then b s1 PB X else PB false s1) X) : mAnd a b s PB X := h
theorem x_or (h : a s (fun q s1 => if q = true then PB true s1 else b s1 PB X) X) : mOr a b s PB X := h
theorem x_andV (h : a s (fun q s1 => if q = true then m s1 P X else P (.val (.dat (.bool false))) s1) X) : mAndV a m s P X := h
theorem x_orV (h : a s (fun q s1 => if q = true then P (.val (.dat (.bool true))) s1 else m s1 P X) X) : mOrV a m s P X := h
theorem x_ifE (h : a s (fun q s1 => if q = true then m s1 P X else m' s1 P X) X) : mIfE a m m' s P X := h
theorem x_isi {g : PyData → Bool} (h : m s (fun r s1 => rdK r s1 fun d => P (.val (.dat (.bool (g d)))) s1) X) : mIsi g m s P X := h
def opK (f : PyData → PyData → FO) (r r2 : Rs) (s : S) (P : Rs → S → Prop) : Prop := rdsK [r, r2] s fun ds => fl2 f ds fun o => P (.val o) s
theorem x_op (h : m s (fun r s1 => m' s1 (fun r2 s2 => opK f r r2 s2 P) X) X) : mOp f m m' s P X := h
theorem x_opK (e1 : rd s r = some d) (e2 : rd s r2 = some e) (h : f d e fun o => P (.val o) s) : opK f r r2 s P := by
  unfold opK rdsK rds rds rds
  rw [e1, e2]
  exact h
theorem x_un {g : PyData → FO} (h : m s (fun r s1 => rdK r s1 fun d => g d fun o => P (.val o) s1) X) : mUn g m s P X := by
  refine Eq.mp (congrArg (fun z => m s z X) ?_) h
  funext r s1
  unfold rdK
  show _ = (match rds s1 [r] with
    | some ds => fl1 g ds fun o => P (.val o) s1
    | none => False)
  unfold rds rds
  cases rd s1 r <;> rfl
theorem x_cb {g : List PyData → FO} (h : ma s (fun rs s1 => rdsK rs s1 fun ds => g ds fun o => P (.val o) s1) X) : mCB g ma s P X := h
theorem x_chain (h : md s (fun d s1 => me s1 (fun e s2 => f d e fun o => bOf o fun k => if k = true then (mD m) s2 (fun z s3 => f' e z fun o2 => bOf o2 fun k2 => P (.val (.dat (.bool k2))) s3) X else P (.val (.dat (.bool false))) s2) X) X) : mChain f f' md me (mD m) s P X := h
theorem x_bOf {k : Bool → Prop} (h : k c) : bOf (.dat (.bool c)) k := h
theorem x_nil (h : PA [] s) : mNil s PA X := h
theorem x_cons (h : m s (fun x s1 => mr s1 (fun xs s2 => PA (x :: xs) s2) X) X) : mCons m mr s PA X := h
def seqK (d : PyData) (k : List PyData → Prop) : Prop := match seqOf d with
  | some ds => k ds
  | none => False
theorem x_star (h : mD m s (fun d s1 => seqK d fun ds => mr s1 (fun rs s2 => PA (ds.map (fun d => .val (.dat d)) ++ rs) s2) X) X) : mStar m mr s PA X := h
theorem x_seqK {k : List PyData → Prop} (e : seqOf d = some ds) (h : k ds) : seqK d k := by
  unfold seqK; rw [e]; exact h
theorem x_dis {g : List PyData → O} (h : ma s (fun rs s1 => datsK rs fun ds => ds.length ≤ 100000 ∧ P (.val (g ds)) s1) X) : mDis g ma s P X := h
theorem x_call {G : Den} (h : ma s (fun rs s1 => callK G rs s1 P X) X) : mCall G ma s P X := h
theorem x_call0 {G : Den} (h : ma s (fun rs s1 => callK G rs s1 P fun _ _ => False) fun _ _ => False) : mCall0 G ma s P X := h
theorem x_lm {g : List PyData → List PyData → (List PyData → PyData → Prop) → Prop} (e : s.env[i]? = some (some (.lst ds))) (h : ma s (fun rs s1 => lmK g i rs s1 P) X) : mLM g i ma s P X := by
  refine ⟨?_, h⟩
  unfold isLst
  rw [e]; trivial
theorem x_it {PL : List PyData → S → Prop} (h : mD m s (fun d s1 => itK d fun ds => PL ds s1) X) : mIt m s PL X := h
theorem x_dnew (h : P (.val (.dct [])) s) : mDNew s P X := h
theorem x_oN {PO : Option Int → S → Prop} (h : PO none s) : mONone s PO X := h
theorem x_oS {PO : Option Int → S → Prop} (h : md s (fun d s1 => intK d fun i => PO (some i) s1) X) : mOSome md s PO X := h
theorem x_sl {lo hi : MO} (h : m s (fun r s1 => lo s1 (fun l s2 => hi s2 (fun u s3 => rdK r s3 fun d => fSl d l u fun o => P (.val o) s3) X) X) X) : mSl m lo hi s P X := h
theorem x_lc {mi : MI} {g : MG} {vs : List Nat} (h : mi s (fun ds s1 => (∀ v ∈ vs, v ∉ s1.bor) ∧ mLcL g a m vs ds [] (wipeS vs s1) fun acc s2 => P (.val (.lst acc)) s2) X) : mLc mi g a m vs s P X := h
/-! ### operations -/
variable {u v : Int}
theorem x_fI0 {g : Int → Int → Int} (h : q (.dat (.int (g u v)))) : fI0 g (.int u) (.int v) q := h
theorem x_fSub (h : q (.dat (.int (u - v)))) : fSub (.int u) (.int v) q := h
theorem x_fMod (hc : 0 < v) (h : q (.dat (.int (u % v)))) : fMod (.int u) (.int v) q := ⟨hc, h⟩
theorem x_fFdiv (hc : CDivW u v) (h : q (.dat (.int (u / v)))) : fFdiv (.int u) (.int v) q := ⟨hc, h⟩
theorem x_fMul (hc : CMulA u v) (h : q (.dat (.int (u * v)))) : fMul (.int u) (.int v) q := ⟨hc, h⟩
theorem x_fAdd (h : q (.dat (.int (u + v)))) : fAdd (.int u) (.int v) q := h
theorem x_fEq (h1 : SeqAt.shaped d = true) (h2 : SeqAt.shaped e = true) (h : q (.dat (.bool (eqd d e)))) : fEq d e q := ⟨.inl ⟨h1, h2⟩, h⟩
theorem x_fNe (h1 : SeqAt.shaped d = true) (h2 : SeqAt.shaped e = true) (h : q (.dat (.bool (!eqd d e)))) : fNe d e q := ⟨h1, h2, h⟩
theorem x_fEqI (h : q (.dat (.bool (decide (u = v))))) : fEq (.int u) (.int v) q := ⟨.inl ⟨rfl, rfl⟩, by rw [eqd_int]; exact h⟩
theorem x_fNeI (h : q (.dat (.bool (!decide (u = v))))) : fNe (.int u) (.int v) q := ⟨rfl, rfl, by rw [eqd_int]; exact h⟩
theorem x_fLt (h : q (.dat (.bool (decide (u < v))))) : fLt (.int u) (.int v) q := h
theorem x_fLe (h : q (.dat (.bool (decide (u ≤ v))))) : fLe (.int u) (.int v) q := h
theorem x_fGt (h : q (.dat (.bool (decide (v < u))))) : fGt (.int u) (.int v) q := h
theorem x_fGe (h : q (.dat (.bool (decide (v ≤ u))))) : fGe (.int u) (.int v) q := h
theorem x_fIsN (h : q (.dat (.bool (isNone d)))) : fIsN d .none q := by rw [u_fIsN]; exact h
theorem x_fNotN (h : q (.dat (.bool (!isNone d)))) : fNotN d .none q := by rw [u_fNotN]; exact h
theorem x_fLenL (h : q (.dat (.int (ds.length : Int)))) : fLen (.list ds) q := h
theorem x_fLenT (h : q (.dat (.int (ds.length : Int)))) : fLen (.tuple ds) q := h
theorem x_fIntI (h : q (.dat (.int u))) : fIntI (.int u) q := h
theorem x_fIntB (h : q (.dat (.int (if c then 1 else 0)))) : fIntI (.bool c) q := h
theorem x_fNeg (h : q (.dat (.int (-u)))) : fNeg (.int u) q := h
theorem x_fTupL (h : q (.dat (.tuple ds))) : fTuple (.list ds) q := h
theorem x_fTupT (h : q (.dat (.tuple ds))) : fTuple (.tuple ds) q := h
theorem x_fIxL (e' : atI ds u = some d) (h : q (.dat d)) : fIx (.list ds) (.int u) q := by
  rw [u_fIxL, e']; exact h
theorem x_fIxT (e' : atI ds u = some d) (h : q (.dat d)) : fIx (.tuple ds) (.int u) q := by
  rw [u_fIxT, e']; exact h
theorem x_fRev (h : q (.dat (.tuple ds.reverse))) : fRev (.tuple ds) q := h
theorem x_fMin2 (h : q (.dat (.int (if v < u then v else u)))) : fMin2 (.int u) (.int v) q := h
theorem x_fl1 {g : PyData → FO} (h : g d q) : fl1 g [d] q := h
theorem x_fl2 (h : f d e q) : fl2 f [d, e] q := h
theorem x_fSlT {l u : Option Int} (h : q (.dat (.tuple (cutD ds l u)))) : fSl (.tuple ds) l u q := h
theorem x_fSlL {l u : Option Int} (h : q (.lst (cutD ds l u))) : fSl (.list ds) l u q := h
end
def rngK1 (rs : List Rs) (k : List PyData → Prop) : Prop := match dats rs with
  | some [.int j] => -(2 ^ 62) ≤ j ∧ j < 2 ^ 62 ∧ k (intsFrom 0 j.toNat)
  | _ => False
def rngK2 (rs : List Rs) (k : List PyData → Prop) : Prop := match dats rs with
  | some [.int i, .int j] => (-(2 ^ 62) ≤ i ∧ i < 2 ^ 62 ∧ -(2 ^ 62) ≤ j ∧ j < 2 ^ 62) ∧ k (intsFrom i (j - i).toNat)
  | _ => False
theorem x_rng1 {mr : MA} {s : S} {PL : List PyData → S → Prop} {X : XM} (h : mr s (fun rs s1 => rngK1 rs fun ds => PL ds s1) X) : mRng1 mr s PL X := by
  refine Eq.mp (congrArg (fun z => mr s z X) ?_) h
  funext rs s1
  unfold rngK1
  rfl
theorem x_rng2 {mr : MA} {s : S} {PL : List PyData → S → Prop} {X : XM} (h : mr s (fun rs s1 => rngK2 rs fun ds => PL ds s1) X) : mRng2 mr s PL X := by
  refine Eq.mp (congrArg (fun z => mr s z X) ?_) h
  funext rs s1
  unfold rngK2
  rfl
theorem x_rngK1 {j : Int} {k : List PyData → Prop} (b : -(2 ^ 62) ≤ j ∧ j < 2 ^ 62) (h : k (intsFrom 0 j.toNat)) : rngK1 [.val (.dat (.int j))] k := ⟨b.1, b.2, h⟩
theorem x_rngK2 {i j : Int} {k : List PyData → Prop} (b : -(2 ^ 62) ≤ i ∧ i < 2 ^ 62 ∧ -(2 ^ 62) ≤ j ∧ j < 2 ^ 62) (h : k (intsFrom i (j - i).toNat)) : rngK2 [.val (.dat (.int i)), .val (.dat (.int j))] k := ⟨b, h⟩
theorem x_fSum {ds : List PyData} {ns : List Int} {q : O → Prop} (e : Mk.intsOf? ds = some ns) (h : q (.dat (.int ns.sum))) : fSum (.list ds) q := by
  show (match Mk.intsOf? ds with
    | some ns => q (.dat (.int ns.sum))
    | none => False)
  rw [e]; exact h
theorem x_fAll {ds : List PyData} {bs : List Bool} {q : O → Prop} (e : boolsOf? ds = some bs) (h : q (.dat (.bool (bs.all id)))) : fAll (.list ds) q := by
  show (match boolsOf? ds with
    | some bs => q (.dat (.bool (bs.all id)))
    | none => False)
  rw [e]; exact h
theorem x_fIn {d e : PyData} {b : Bool} {q : O → Prop} (h1 : inB d e = some b) (h : q (.dat (.bool b))) : fIn d e q := by
  unfold fIn
  rw [h1]; exact h
theorem x_fLenS {z : Str} {q : O → Prop} (hz : z.length ≤ 100000) (h : q (.dat (.int (z.length : Int)))) : fLen (.str z) q := ⟨hz, h⟩
theorem ints_some {α : Type} (f : α → Int) : ∀ l : List α, Mk.intsOf? (l.map fun i => PyData.int (f i)) = some (l.map f)
  | [] => rfl
  | a :: l => by rw [List.map_cons, Mk.intsOf?, ints_some f l]; rfl
theorem bools_some {α : Type} (f : α → Bool) : ∀ l : List α, boolsOf? (l.map fun i => PyData.bool (f i)) = some (l.map f)
  | [] => rfl
  | a :: l => by rw [List.map_cons, boolsOf?, bools_some f l]; rfl
theorem filter_true {α : Type} : ∀ l : List α, l.filter (fun _ => true) = l
  | [] => rfl
  | a :: l => by rw [List.filter_cons_of_pos rfl, filter_true l]
/-! ### comprehensions, loops -/
section
variable {g : MG} {t : MT} {e : ME} {vs : List Nat} {k : SK} {b : MS} {c : MT}
theorem x_yes {s : S} {PB : Bool → S → Prop} {X : XM} (h : PB true s) : mYes s PB X := h
/-- .. over things told by a list -/
theorem x_lcM {α : Type} {s : S} {Q : List PyData → S → Prop} (f : α → PyData) (keep : α → Bool) (val : α → PyData) {l : List α} (hl : l.length ≤ 100000)
    (h : ∀ x ∈ l, ∀ (A : PyData → S → Prop) (B : S → Prop), (keep x = true → A (val x) s) → (keep x = false → B s) → g (f x) s fun s1 => t s1 (fun b s2 => if b = true then mD e s2 (fun y s3 => A y (wipeS vs s3)) (fun _ _ => False) else B (wipeS vs s2)) fun _ _ => False)
    (q : Q ((l.filter keep).map val) s) : mLcL g t e vs (l.map f) [] s Q := by
  have key : ∀ (l : List α) (acc : List PyData), (∀ x ∈ l, ∀ (A : PyData → S → Prop) (B : S → Prop), (keep x = true → A (val x) s) → (keep x = false → B s) → g (f x) s fun s1 => t s1 (fun b s2 => if b = true then mD e s2 (fun y s3 => A y (wipeS vs s3)) (fun _ _ => False) else B (wipeS vs s2)) fun _ _ => False) →
      acc.length + l.length ≤ 100000 → Q (acc ++ (l.filter keep).map val) s → mLcL g t e vs (l.map f) acc s Q := by
    intro l
    induction l with
    | nil => intro acc _ _ q; simpa using q
    | cons x l ih =>
      intro acc h hl q
      rw [List.length_cons] at hl
      refine h x List.mem_cons_self (fun y s3 => acc.length < 100000 ∧ mLcL g t e vs (l.map f) (acc ++ [y]) s3 Q) (fun s2 => mLcL g t e vs (l.map f) acc s2 Q) (fun hk => ⟨by omega, ?_⟩) fun hk => ?_
      · refine ih _ (fun y hy => h y (List.mem_cons_of_mem _ hy)) (by rw [List.length_append]; simp; omega) ?_
        rw [List.filter_cons_of_pos hk, List.map_cons] at q
        simpa using q
      · refine ih _ (fun y hy => h y (List.mem_cons_of_mem _ hy)) (by omega) ?_
        rw [List.filter_cons_of_neg (by rw [hk]; exact Bool.false_ne_true)] at q
        exact q
  exact key l [] h (by simpa using hl) (by simpa using q)
/-- .. that keeps all -/
theorem x_lcA {α : Type} {s : S} {Q : List PyData → S → Prop} (f : α → PyData) (val : α → PyData) {l : List α} (hl : l.length ≤ 100000)
    (h : ∀ x ∈ l, ∀ (A : PyData → S → Prop), A (val x) s → g (f x) s fun s1 => mD e s1 (fun y s3 => A y (wipeS vs s3)) fun _ _ => False)
    (q : Q (l.map val) s) : mLcL g mYes e vs (l.map f) [] s Q :=
  x_lcM f (fun _ => true) val hl (fun x hx A B hA _ => h x hx A (hA rfl)) (by rw [filter_true]; exact q)
theorem x_lcS {ev ev' : List (Option O)} {bo : List Nat} {n : Nat} {ds : List PyData} {Q : List PyData → S → Prop} (h1 : ∀ v ∈ vs, v ∉ bo) (h2 : wipeE ev vs = ev') (h : mLcL g t e vs ds [] ⟨ev', n, bo⟩ Q) : (∀ v ∈ vs, v ∉ S.bor ⟨ev, n, bo⟩) ∧ mLcL g t e vs ds [] (wipeS vs ⟨ev, n, bo⟩) Q := by
  subst h2
  exact ⟨h1, h⟩
/-- .. with what holds between the turns -/
theorem x_lcI {Q : List PyData → S → Prop} (I : List PyData → List PyData → S → Prop) (hs : ∀ (d : PyData) (ds acc : List PyData) (s : S) (A : PyData → S → Prop) (B : S → Prop), I (d :: ds) acc s → (∀ y s3, acc.length < 100000 → I ds (acc ++ [y]) s3 → A y s3) → (∀ s3, I ds acc s3 → B s3) →
      g d s fun s1 => t s1 (fun b s2 => if b = true then mD e s2 (fun y s3 => A y (wipeS vs s3)) (fun _ _ => False) else B (wipeS vs s2)) fun _ _ => False)
    (hq : ∀ acc s, I [] acc s → Q acc s) : ∀ {ds acc : List PyData} {s : S}, I ds acc s → mLcL g t e vs ds acc s Q
  | [], acc, s, h => hq acc s h
  | d :: ds, acc, s, h => hs d ds acc s (fun y s3 => acc.length < 100000 ∧ mLcL g t e vs ds (acc ++ [y]) s3 Q) (fun s2 => mLcL g t e vs ds acc s2 Q) h (fun y s3 hl hi => ⟨hl, x_lcI I hs hq hi⟩) fun s3 hi => x_lcI I hs hq hi
theorem x_forI (I : List PyData → S → Prop) (hs : ∀ (d : PyData) (ds : List PyData) (s : S) (N : S → Prop), I (d :: ds) s → (∀ s', I ds s' → N s') → g d s fun s1 => b s1 { k with nx := N, ct := N, bk := k.nx }) (hd : ∀ s, I [] s → k.nx s) : ∀ {ds : List PyData} {s : S}, I ds s → mForL g b ds s k
  | [], s, h => hd s h
  | d :: ds, s, h => hs d ds s _ h fun s' h' => x_forI I hs hd h'
/-- a loop: I and a measure -/
theorem x_whI (I : Nat → S → Prop) (hs : ∀ (m : Nat) (s : S) (N : S → Prop), I m s → (∀ j s', j < m → I j s' → N s') → c s (fun q s1 => if q = true then b s1 { k with nx := N, ct := N, bk := k.nx } else k.nx s1) k.er) {m : Nat} {s : S} (h : I m s) : mWhile c b s k := by
  have key : ∀ (f m : Nat) (s : S), m < f → I m s → mWhN c b f s k := by
    intro f
    induction f with
    | zero => intro m s hm; omega
    | succ f ih => exact fun m s hm h => hs m s (fun s2 => mWhN c b f s2 k) h fun j s' hj h' => ih j s' (by omega) h'
  exact ⟨m + 1, key (m + 1) m s (Nat.lt_succ_self m) h⟩
end
end Mk

/-! part My -/
/-! Mk, part 19: more steps: errors caught, dicts, sorted sets, tests of Bools. -/
namespace Mk
open PySem PySem.Spec PyProof.Rows L2 Evl Lk LamX
def isEK (K : PySem.W.Frag) (C : Addr) (r : Rs) (s : S) (P : Rs → S → Prop) : Prop := match r with
  | .val (.exc D) => ExcC K D.1 ∧ ∃ b, PySem.W.kitOne K (.ref D.1) (.ref C) = some b ∧ P (.val (.dat (.bool b))) s
  | .val (.dat .none) => ∃ b, PySem.W.kitOne K (.type "NoneType") (.ref C) = some b ∧ P (.val (.dat (.bool b))) s
  | _ => False
def get2K (r : Rs) (k z : PyData) (s : S) (P : Rs → S → Prop) : Prop := match dctOf s r, keyOf k with
  | some kvs, some k => P (.val (.dat ((getK kvs k).getD z))) s
  | _, _ => False
def dputK (i : Nat) (y d : PyData) (s : S) (P : S → Prop) : Prop := match s.env[i]?, keyOf y with
  | some (some (.dct kvs)), some key => kvs.length < 100000 ∧ P (putO s i (.dct (putD kvs key d)))
  | _, _ => False
def lputK (i : Nat) (y d : PyData) (s : S) (P : S → Prop) : Prop := match s.env[i]?, y with
  | some (some (.lst ds)), .int j => match ixN ds.length j with
    | some n => P (putO s i (.lst (ds.set n d)))
    | none => False
  | _, _ => False
section
variable {s : S} {n i : Nat} {d e y z : PyData} {ds es : List PyData} {r : Rs} {X : XM} {P : Rs → S → Prop} {PS : S → Prop} {K : PySem.W.Frag} {C CS : Addr} {D : Exn} {b : Bool} {m : ME} {mk mv mx : MD} {k : SK} {q : O → Prop} {A : Prop}
theorem x_fIsB {a b : Bool} (h : q (.dat (.bool (decide (a = b))))) : fIsB (.bool a) (.bool b) q := h
theorem x_fNotB {a b : Bool} (h : q (.dat (.bool (!decide (a = b))))) : fNotB (.bool a) (.bool b) q := h
theorem eqd_bool {a b : Bool} : eqd (.bool a) (.bool b) = decide (a = b) := by cases a <;> cases b <;> rfl
theorem x_fEqB {a b : Bool} (h : q (.dat (.bool (decide (a = b))))) : fEq (.bool a) (.bool b) q := ⟨.inl ⟨rfl, rfl⟩, by rw [eqd_bool]; exact h⟩
theorem x_isE {C : Addr} (h : m s (fun r s1 => isEK K C r s1 P) X) : mIsE K C m s P X := h
theorem x_caught (h : m s (fun _ s1 => P (.val (.dat .none)) s1) (fun D s1 => PySem.W.exmOne K (.ref D.1) (.ref CS) = some true ∧ P (.val (.exc D)) s1)) : mCaught K CS m s P X := h
theorem x_get2 (h : m s (fun r s1 => (∃ kvs, dctOf s1 r = some kvs) ∧ mk s1 (fun k s2 => mx s2 (fun z s3 => get2K r k z s3 P) X) X) X) : mGet2 m mk mx s P X := h
theorem x_isD {kvs : List (Key × PyData)} (e : dctOf s r = some kvs) (h : A) : (∃ kvs, dctOf s r = some kvs) ∧ A := ⟨⟨_, e⟩, h⟩
theorem x_get2K {kvs : List (Key × PyData)} {k' : Key} (e1 : dctOf s r = some kvs) (e2 : keyOf y = some k') (h : P (.val (.dat ((getK kvs k').getD z))) s) : get2K r y z s P := by
  unfold get2K
  rw [e1, e2]; exact h
theorem x_dput (h : mv s (fun d s1 => isDct s1 i ∧ mk s1 (fun y s2 => dputK i y d s2 k.nx) k.er) k.er) : mDPut i mk mv s k := h
theorem x_isDct {kvs : List (Key × PyData)} (e : s.env[i]? = some (some (.dct kvs))) (h : A) : isDct s i ∧ A := ⟨by unfold isDct; rw [e]; trivial, h⟩
theorem x_lput (h : mv s (fun d s1 => isLst s1 i ∧ mk s1 (fun y s2 => lputK i y d s2 k.nx) k.er) k.er) : mLPut i mk mv s k := h
theorem x_isLs (e : s.env[i]? = some (some (.lst ds))) (h : A) : isLst s i ∧ A := ⟨by unfold isLst; rw [e]; trivial, h⟩
theorem x_lputK {j : Int} {c : Nat} {ev : List (Option O)} {bo : List Nat} (e1 : ev[i]? = some (some (.lst ds))) (e2 : ixN ds.length j = some c) (h : PS ⟨ev.set i (some (.lst (ds.set c d))), n, bo⟩) : lputK i (.int j) d ⟨ev, n, bo⟩ PS := by
  have e1' : (S.mk ev n bo).env[i]? = some (some (.lst ds)) := e1
  unfold lputK
  rw [e1']
  show (match ixN ds.length j with
    | some n1 => PS (putO ⟨ev, n, bo⟩ i (.lst (ds.set n1 d)))
    | none => False)
  rw [e2]; exact h
theorem x_append (hl : ds.length < 100000) {Q : List PyData → PyData → Prop} (h : Q (ds ++ [d]) .none) : fAppend ds [d] Q := ⟨hl, h⟩
theorem x_begun {cs : List Int} {Q : O → List O → Nat → Prop} {Y : Exn → List O → Nat → Prop} (hl : cs.length ≤ 40000) (h : Q .st [.dat (.list (cs.map PyData.int))] n) : dBegun [.dat (.list (cs.map PyData.int))] n Q Y := ⟨cs, rfl, hl, h⟩
theorem x_swap {G : Den} {a b : O} {Q : O → List O → Nat → Prop} {Y : Exn → List O → Nat → Prop} (h : G [b, a] n (fun o os n' => match os with
    | [c, d] => Q o [d, c] n'
    | _ => False) (fun C os n' => match os with
    | [c, d] => Y C [d, c] n'
    | _ => False)) : swap2 G [a, b] n Q Y := h
end
end Mk

/-! part Mv -/
/-! Mk, part 25 (printed by mv.py, with a hand part): a step found by the head of what is to be shown. -/
namespace Mk
open PySem PySem.Spec PyProof.Rows L2 Evl Lk LamX
class Stp (A : Prop) (B : outParam Prop) : Prop where
  imp : B → A
theorem x_stp {A B : Prop} [h : Stp A B] (b : B) : A := h.imp b
/-! ### what stands in the slots -/
class LookL (ev : List (Option O)) (i : Nat) (o : outParam O) : Prop where
  e : ev[i]? = some (some o)
instance lookL0 {l : List (Option O)} {o : O} : LookL (some o :: l) 0 o := ⟨rfl⟩
instance lookLs {l : List (Option O)} {x : Option O} {i : Nat} {o : O} [h : LookL l i o] : LookL (x :: l) (i + 1) o := ⟨by rw [List.getElem?_cons_succ]; exact h.e⟩
class SetL (ev : List (Option O)) (i : Nat) (o : Option O) (ev' : outParam (List (Option O))) : Prop where
  e : ev.set i o = ev'
  l : i < ev.length
instance setL0 {l : List (Option O)} {x o : Option O} : SetL (x :: l) 0 o (o :: l) := ⟨rfl, by simp⟩
instance setLs {l l' : List (Option O)} {x o : Option O} {i : Nat} [h : SetL l i o l'] : SetL (x :: l) (i + 1) o (x :: l') := ⟨by rw [List.set_cons_succ, h.e], by have := h.l; simp; omega⟩
class Neq (i j : Nat) : Prop where
  e : i ≠ j
instance neq1 {j : Nat} : Neq 0 (j + 1) := ⟨by omega⟩
instance neq2 {i : Nat} : Neq (i + 1) 0 := ⟨by omega⟩
instance neq3 {i j : Nat} [h : Neq i j] : Neq (i + 1) (j + 1) := ⟨by have := h.e; omega⟩
class NotIn (i : Nat) (bo : List Nat) : Prop where
  e : i ∉ bo
instance notIn0 {i : Nat} : NotIn i [] := ⟨List.not_mem_nil⟩
instance notInS {i j : Nat} {bo : List Nat} [a : Neq i j] [b : NotIn i bo] : NotIn i (j :: bo) := ⟨by simp only [List.mem_cons, not_or]; exact ⟨a.e, b.e⟩⟩
class RdC (s : S) (r : Rs) (d : outParam PyData) : Prop where
  e : rd s r = some d
section
variable {ev : List (Option O)} {bo : List Nat} {s : S} {n i j : Nat} {d : PyData} {ds es : List PyData} {r r2 : Rs} {rs : List Rs} {o : O} {os : List O}
instance rdC1 : RdC s (.val (.dat d)) d := ⟨rfl⟩
instance rdC2 : RdC s (.val (.lst ds)) (.list ds) := ⟨rfl⟩
instance rdC3 : RdC s (.val (.dct [])) (.dict []) := ⟨rfl⟩
instance rdC4 [h : LookL ev i (.dat d)] : RdC ⟨ev, n, bo⟩ (.slot i) d := ⟨by
  have e : (S.mk ev n bo).env[i]? = some (some (.dat d)) := h.e
  rw [u_rd_slot, e]; rfl⟩
instance rdC5 [h : LookL ev i (.lst ds)] : RdC ⟨ev, n, bo⟩ (.slot i) (.list ds) := ⟨by
  have e : (S.mk ev n bo).env[i]? = some (some (.lst ds)) := h.e
  rw [u_rd_slot, e]; rfl⟩
class RdsC (s : S) (rs : List Rs) (ds : outParam (List PyData)) : Prop where
  e : rds s rs = some ds
instance rdsC0 : RdsC s [] [] := ⟨rfl⟩
instance rdsC1 [a : RdC s r d] [b : RdsC s rs ds] : RdsC s (r :: rs) (d :: ds) := ⟨by rw [rds, a.e, b.e]⟩
class DatsC (rs : List Rs) (ds : outParam (List PyData)) : Prop where
  e : dats rs = some ds
instance datsC0 : DatsC [] [] := ⟨rfl⟩
instance datsC1 [b : DatsC rs ds] : DatsC (.val (.dat d) :: rs) (d :: ds) := ⟨by rw [dats, b.e]⟩
class GetsC (s : S) (rs : List Rs) (os : outParam (List O)) : Prop where
  e : gets s rs = some os
instance getsC0 : GetsC s [] [] := ⟨rfl⟩
instance getsC1 [b : GetsC s rs os] : GetsC s (.val o :: rs) (o :: os) := ⟨by rw [gets, b.e]⟩
instance getsC2 [a : LookL ev i o] [b : GetsC ⟨ev, n, bo⟩ rs os] : GetsC ⟨ev, n, bo⟩ (.slot i :: rs) (o :: os) := ⟨by
  have e : (S.mk ev n bo).env[i]? = some (some o) := a.e
  rw [gets, e, b.e]⟩
class NoSl (rs : List Rs) : Prop where
  e : slotsOf rs = []
instance noSl0 : NoSl [] := ⟨rfl⟩
instance noSl1 [b : NoSl rs] : NoSl (.val o :: rs) := ⟨by rw [slotsOf, b.e]⟩
class NdSl (rs : List Rs) : Prop where
  e : (slotsOf rs).Nodup
instance ndSl1 [b : NoSl rs] : NdSl (.slot i :: rs) := ⟨by rw [slotsOf, b.e]; simp⟩
instance ndSl2 [a : Neq i j] [b : NoSl rs] : NdSl (.slot i :: .slot j :: rs) := ⟨by rw [slotsOf, slotsOf, b.e]; simp [a.e]⟩
instance ndSl3 [b : NdSl rs] : NdSl (.val o :: rs) := ⟨by rw [slotsOf]; exact b.e⟩
end
section
variable {s s1 : S} {os os' : List O} {o : O} {n i j N p : Nat} {d e : PyData} {ds es : List PyData} {rs : List Rs} {r r2 : Rs} {Q : O → List O → Nat → Prop} {Y : Exn → List O → Nat → Prop} {C : Exn} {q : O → Prop} {m m' : ME} {X : XM} {ma mr : MA} {a b : MT} {P : Rs → S → Prop} {PB : Bool → S → Prop} {PA : List Rs → S → Prop} {PD : PyData → S → Prop} {K : SK} {st st' : MS} {c : Bool} {A B : Prop} {md me : MD} {PS : S → Prop} {z : Option O} {f f' : PyData → PyData → FO}
variable {u v : Int} {ev ev' : List (Option O)} {bo : List Nat} {G : Den} {C : Exn} {CS : Addr} {KF : PySem.W.Frag} {mk mv mx : MD} {y : PyData} {k : O → S → Prop} {kd : PyData → S → Prop} {kl : List PyData → Prop} {kp : PyData → Prop} {kvs : List (Key × PyData)} {g : MGs}
instance st_seq : Stp (mSeq st st' s K) (st s { K with nx := fun s1 => st' s1 K }) := ⟨x_seq⟩
instance st_if : Stp (mIf a st st' s K) (a s (fun q s1 => if q = true then st s1 K else st' s1 K) K.er) := ⟨x_if⟩
instance st_ret : Stp (mRet m s K) (m s (fun r s1 => movK r s1 K.rt) K.er) := ⟨x_ret⟩
instance st_asg : Stp (mAsg i m s K) (m s (fun r s1 => movK r s1 fun o s2 => putK i o s2 K.nx) K.er) := ⟨x_asg⟩
instance st_asgG {g : MG} : Stp (mAsgG g md s K) (md s (fun d s1 => g d s1 K.nx) K.er) := ⟨x_asgG⟩
instance st_par {is : List Nat} : Stp (mPar is ma s K) (ma s (fun rs s1 => puts is rs s1 K.nx) K.er) := ⟨x_par⟩
instance st_next : Stp (mNext s K) (K.nx s) := ⟨x_next⟩
instance st_retN : Stp (mRetN s K) (K.rt (.dat .none) s) := ⟨x_retN⟩
instance st_drop : Stp (mDrop m s K) (m s (fun _ s1 => K.nx s1) K.er) := ⟨x_drop⟩
instance st_brk : Stp (mBreak s K) (K.bk s) := ⟨x_brk⟩
instance st_cnt : Stp (mCont s K) (K.ct s) := ⟨x_cnt⟩
instance st_rse {D : Addr} : Stp (mRaise D s K) (K.er (D, []) s) := ⟨x_rse⟩
instance st_for {mi : MI} {g : MG} : Stp (mFor mi g st s K) (mi s (fun ds s1 => mForL g st ds s1 K) K.er) := ⟨x_for⟩
instance st_op : Stp (mOp f m m' s P X) (m s (fun r s1 => m' s1 (fun r2 s2 => opK f r r2 s2 P) X) X) := ⟨x_op⟩
instance st_un {g : PyData → FO} : Stp (mUn g m s P X) (m s (fun r s1 => rdK r s1 fun d => g d fun o => P (.val o) s1) X) := ⟨x_un⟩
instance st_cb {g : List PyData → FO} : Stp (mCB g ma s P X) (ma s (fun rs s1 => rdsK rs s1 fun ds => g ds fun o => P (.val o) s1) X) := ⟨x_cb⟩
instance st_c : Stp (mC d s P X) (P (.val (.dat d)) s) := ⟨x_c⟩
instance st_d : Stp (mD m s PD X) (m s (fun r s1 => frzK r s1 PD) X) := ⟨x_d⟩
instance st_b : Stp (mB m s PB X) (m s (fun r s1 => boolK r s1 PB) X) := ⟨x_b⟩
instance st_fz : Stp (mFz m s P X) (m s (fun r s1 => frzK r s1 fun d s2 => P (.val (.dat d)) s2) X) := ⟨x_fz⟩
instance st_mv : Stp (mMv m s P X) (m s (fun r s1 => movK r s1 fun o s2 => P (.val o) s2) X) := ⟨x_mv⟩
instance st_not : Stp (mNot a s PB X) (a s (fun q s1 => PB (!q) s1) X) := ⟨x_not⟩
instance st_notV : Stp (mNotV a s P X) (a s (fun q s1 => P (.val (.dat (.bool (!q)))) s1) X) := ⟨x_notV⟩
instance st_and : Stp (mAnd a b s PB X) (a s (fun q s1 => if q = true then b s1 PB X else PB false s1) X) := ⟨x_and⟩
instance st_or : Stp (mOr a b s PB X) (a s (fun q s1 => if q = true then PB true s1 else b s1 PB X) X) := ⟨x_or⟩
instance st_andV : Stp (mAndV a m s P X) (a s (fun q s1 => if q = true then m s1 P X else P (.val (.dat (.bool false))) s1) X) := ⟨x_andV⟩
instance st_orV : Stp (mOrV a m s P X) (a s (fun q s1 => if q = true then P (.val (.dat (.bool true))) s1 else m s1 P X) X) := ⟨x_orV⟩
instance st_ifE : Stp (mIfE a m m' s P X) (a s (fun q s1 => if q = true then m s1 P X else m' s1 P X) X) := ⟨x_ifE⟩
instance st_isi {g : PyData → Bool} : Stp (mIsi g m s P X) (m s (fun r s1 => rdK r s1 fun d => P (.val (.dat (.bool (g d)))) s1) X) := ⟨x_isi⟩
instance st_chain : Stp (mChain f f' md me (mD m) s P X) (md s (fun d s1 => me s1 (fun e s2 => f d e fun o => bOf o fun k => if k = true then (mD m) s2 (fun z s3 => f' e z fun o2 => bOf o2 fun k2 => P (.val (.dat (.bool k2))) s3) X else P (.val (.dat (.bool false))) s2) X) X) := ⟨x_chain⟩
instance st_bOf {k : Bool → Prop} : Stp (bOf (.dat (.bool c)) k) (k c) := ⟨x_bOf⟩
instance st_nil : Stp (mNil s PA X) (PA [] s) := ⟨x_nil⟩
instance st_cons : Stp (mCons m mr s PA X) (m s (fun x s1 => mr s1 (fun xs s2 => PA (x :: xs) s2) X) X) := ⟨x_cons⟩
instance st_star : Stp (mStar m mr s PA X) (mD m s (fun d s1 => seqK d fun ds => mr s1 (fun rs s2 => PA (ds.map (fun d => .val (.dat d)) ++ rs) s2) X) X) := ⟨x_star⟩
instance st_dis {g : List PyData → O} : Stp (mDis g ma s P X) (ma s (fun rs s1 => datsK rs fun ds => ds.length ≤ 100000 ∧ P (.val (g ds)) s1) X) := ⟨x_dis⟩
instance st_call {G : Den} : Stp (mCall G ma s P X) (ma s (fun rs s1 => callK G rs s1 P X) X) := ⟨x_call⟩
instance st_call0 {G : Den} : Stp (mCall0 G ma s P X) (ma s (fun rs s1 => callK G rs s1 P fun _ _ => False) fun _ _ => False) := ⟨x_call0⟩
instance st_it {PL : List PyData → S → Prop} : Stp (mIt m s PL X) (mD m s (fun d s1 => itK d fun ds => PL ds s1) X) := ⟨x_it⟩
instance st_dnew : Stp (mDNew s P X) (P (.val (.dct [])) s) := ⟨x_dnew⟩
instance st_oN {PO : Option Int → S → Prop} : Stp (mONone s PO X) (PO none s) := ⟨x_oN⟩
instance st_oS {PO : Option Int → S → Prop} : Stp (mOSome md s PO X) (md s (fun d s1 => intK d fun i => PO (some i) s1) X) := ⟨x_oS⟩
instance st_sl {lo hi : MO} : Stp (mSl m lo hi s P X) (m s (fun r s1 => lo s1 (fun l s2 => hi s2 (fun u s3 => rdK r s3 fun d => fSl d l u fun o => P (.val o) s3) X) X) X) := ⟨x_sl⟩
instance st_lc {mi : MI} {g : MG} {vs : List Nat} : Stp (mLc mi g a m vs s P X) (mi s (fun ds s1 => (∀ v ∈ vs, v ∉ s1.bor) ∧ mLcL g a m vs ds [] (wipeS vs s1) fun acc s2 => P (.val (.lst acc)) s2) X) := ⟨x_lc⟩
instance st_gN : Stp (mgN i d s PS) (putK i (.dat d) s PS) := ⟨x_gN⟩
instance st_gC {g : MG} {gs : MGs} : Stp (mgCons g gs (d :: ds) s PS) (g d s fun s1 => gs ds s1 PS) := ⟨x_gC⟩
instance st_gE : Stp (mgNil [] s PS) (PS s) := ⟨x_gE⟩
instance st_putsE : Stp (puts [] [] s PS) (PS s) := ⟨x_putsE⟩
instance st_putsC {is : List Nat} : Stp (puts (i :: is) (.val o :: rs) s PS) (putK i o s fun s1 => puts is rs s1 PS) := ⟨x_putsC⟩
instance st_mov_dat {k : O → S → Prop} : Stp (movK (.val (.dat d)) s k) (k (.dat d) s) := ⟨x_mov_dat⟩
instance st_mov_st {k : O → S → Prop} : Stp (movK (.val .st) s k) (k .st s) := ⟨x_mov_st⟩
instance st_mov_lst {k : O → S → Prop} : Stp (movK (.val (.lst ds)) s k) (k (.lst ds) s) := ⟨x_mov_lst⟩
instance st_mov_dct {k : O → S → Prop} {kvs : List (Key × PyData)} : Stp (movK (.val (.dct kvs)) s k) (k (.dct kvs) s) := ⟨x_mov_dct⟩
instance st_mov_exc {k : O → S → Prop} : Stp (movK (.val (.exc C)) s k) (k (.exc C) s) := ⟨x_mov_exc⟩
instance st_frz_dat {k : PyData → S → Prop} : Stp (frzK (.val (.dat d)) s k) (k d s) := ⟨x_frz_dat⟩
instance st_frz_lst {k : PyData → S → Prop} : Stp (frzK (.val (.lst ds)) s k) (k (.list ds) s) := ⟨x_frz_lst⟩
instance st_frz_dct {k : PyData → S → Prop} : Stp (frzK (.val (.dct [])) s k) (k (.dict []) s) := ⟨x_frz_dct⟩
instance st_bool {k : Bool → S → Prop} : Stp (boolK (.val (.dat (.bool c))) s k) (k c s) := ⟨x_bool⟩
instance st_intK {k : Int → Prop} {i : Int} : Stp (intK (.int i) k) (k i) := ⟨x_intK⟩
instance st_fl1 {g : PyData → FO} : Stp (fl1 g [d] q) (g d q) := ⟨x_fl1⟩
instance st_fl2 : Stp (fl2 f [d, e] q) (f d e q) := ⟨x_fl2⟩
instance st_fI0 {g : Int → Int → Int} : Stp (fI0 g (.int u) (.int v) q) (q (.dat (.int (g u v)))) := ⟨x_fI0⟩
instance st_fSub : Stp (fSub (.int u) (.int v) q) (q (.dat (.int (u - v)))) := ⟨x_fSub⟩
instance st_fAdd : Stp (fAdd (.int u) (.int v) q) (q (.dat (.int (u + v)))) := ⟨x_fAdd⟩
instance st_fEqI : Stp (fEq (.int u) (.int v) q) (q (.dat (.bool (decide (u = v))))) := ⟨x_fEqI⟩
instance st_fNeI : Stp (fNe (.int u) (.int v) q) (q (.dat (.bool (!decide (u = v))))) := ⟨x_fNeI⟩
instance st_fLt : Stp (fLt (.int u) (.int v) q) (q (.dat (.bool (decide (u < v))))) := ⟨x_fLt⟩
instance st_fLe : Stp (fLe (.int u) (.int v) q) (q (.dat (.bool (decide (u ≤ v))))) := ⟨x_fLe⟩
instance st_fGt : Stp (fGt (.int u) (.int v) q) (q (.dat (.bool (decide (v < u))))) := ⟨x_fGt⟩
instance st_fGe : Stp (fGe (.int u) (.int v) q) (q (.dat (.bool (decide (v ≤ u))))) := ⟨x_fGe⟩
instance st_fIsN : Stp (fIsN d .none q) (q (.dat (.bool (isNone d)))) := ⟨x_fIsN⟩
instance st_fNotN : Stp (fNotN d .none q) (q (.dat (.bool (!isNone d)))) := ⟨x_fNotN⟩
instance st_fLenL : Stp (fLen (.list ds) q) (q (.dat (.int (ds.length : Int)))) := ⟨x_fLenL⟩
instance st_fLenT : Stp (fLen (.tuple ds) q) (q (.dat (.int (ds.length : Int)))) := ⟨x_fLenT⟩
instance st_fIntI : Stp (fIntI (.int u) q) (q (.dat (.int u))) := ⟨x_fIntI⟩
instance st_fIntB : Stp (fIntI (.bool c) q) (q (.dat (.int (if c then 1 else 0)))) := ⟨x_fIntB⟩
instance st_fNeg : Stp (fNeg (.int u) q) (q (.dat (.int (-u)))) := ⟨x_fNeg⟩
instance st_fEqN : Stp (fEq (.tuple ds) (.tuple []) q) (q (.dat (.bool (decide (ds.length = 0))))) := ⟨x_fEqN⟩
instance st_fEqNc : Stp (fEq (.tuple (d :: ds)) (.tuple []) q) (q (.dat (.bool false))) := ⟨x_fEqNc⟩
instance st_fEqN0 : Stp (fEq (.tuple []) (.tuple []) q) (q (.dat (.bool true))) := ⟨x_fEqN0⟩
instance st_fEqB {a b : Bool} : Stp (fEq (.bool a) (.bool b) q) (q (.dat (.bool (decide (a = b))))) := ⟨x_fEqB⟩
instance st_fIsB {a b : Bool} : Stp (fIsB (.bool a) (.bool b) q) (q (.dat (.bool (decide (a = b))))) := ⟨x_fIsB⟩
instance st_fNotB {a b : Bool} : Stp (fNotB (.bool a) (.bool b) q) (q (.dat (.bool (!decide (a = b))))) := ⟨x_fNotB⟩
instance st_isE {C : Addr} : Stp (mIsE KF C m s P X) (m s (fun r s1 => isEK KF C r s1 P) X) := ⟨x_isE⟩
instance st_isNone {neg : Bool} {m : ME} {s : S} {P : Rs → S → Prop} {Y : XM} : Stp (mIsNone neg m s P Y) (m s (fun r s1 => noneK neg r s1 P) Y) := ⟨x_isNone⟩
instance st_noneX {neg : Bool} {C : Exn} {s : S} {P : Rs → S → Prop} : Stp (noneK neg (.val (.exc C)) s P) (P (.val (.dat (.bool neg))) s) := ⟨x_noneX⟩
instance st_noneN {neg : Bool} {s : S} {P : Rs → S → Prop} : Stp (noneK neg (.val (.dat .none)) s P) (P (.val (.dat (.bool (!neg)))) s) := ⟨x_noneN⟩
instance st_caught : Stp (mCaught KF CS m s P X) (m s (fun _ s1 => P (.val (.dat .none)) s1) (fun D s1 => PySem.W.exmOne KF (.ref D.1) (.ref CS) = some true ∧ P (.val (.exc D)) s1)) := ⟨x_caught⟩
instance st_get2 : Stp (mGet2 m mk mx s P X) (m s (fun r s1 => (∃ kvs, dctOf s1 r = some kvs) ∧ mk s1 (fun K s2 => mx s2 (fun z s3 => get2K r K z s3 P) X) X) X) := ⟨x_get2⟩
instance st_dput : Stp (mDPut i mk mv s K) (mv s (fun d s1 => isDct s1 i ∧ mk s1 (fun y s2 => dputK i y d s2 K.nx) K.er) K.er) := ⟨x_dput⟩
instance st_lput : Stp (mLPut i mk mv s K) (mv s (fun d s1 => isLst s1 i ∧ mk s1 (fun y s2 => lputK i y d s2 K.nx) K.er) K.er) := ⟨x_lput⟩
instance st_swap {G : Den} {a b : O} {Q : O → List O → Nat → Prop} {Y : Exn → List O → Nat → Prop} : Stp (swap2 G [a, b] n Q Y) (G [b, a] n (fun o os n' => match os with | [c, d] => Q o [d, c] n' | _ => False) (fun C os n' => match os with | [c, d] => Y C [d, c] n' | _ => False)) := ⟨x_swap⟩
instance st_fInC {c : Nat} {z : Str} : Stp (fIn (.str ⟨#[c]⟩) (.str z) q) (q (.dat (.bool (decide (c ∈ z.cps.toList))))) := ⟨x_fInC⟩
instance st_fNotInC {c : Nat} {z : Str} : Stp (fNotIn (.str ⟨#[c]⟩) (.str z) q) (q (.dat (.bool (!decide (c ∈ z.cps.toList))))) := ⟨x_fNotInC⟩
instance st_yes {s : S} {PB : Bool → S → Prop} {X : XM} : Stp (mYes s PB X) (PB true s) := ⟨x_yes⟩
instance st_rng1 {mr : MA} {s : S} {PL : List PyData → S → Prop} {X : XM} : Stp (mRng1 mr s PL X) (mr s (fun rs s1 => rngK1 rs fun ds => PL ds s1) X) := ⟨x_rng1⟩
instance st_rng2 {mr : MA} {s : S} {PL : List PyData → S → Prop} {X : XM} : Stp (mRng2 mr s PL X) (mr s (fun rs s1 => rngK2 rs fun ds => PL ds s1) X) := ⟨x_rng2⟩
instance st_fTupL : Stp (fTuple (.list ds) q) (q (.dat (.tuple ds))) := ⟨x_fTupL⟩
instance st_fTupT : Stp (fTuple (.tuple ds) q) (q (.dat (.tuple ds))) := ⟨x_fTupT⟩
instance st_fRev : Stp (fRev (.tuple ds) q) (q (.dat (.tuple ds.reverse))) := ⟨x_fRev⟩
instance st_fMin2 : Stp (fMin2 (.int u) (.int v) q) (q (.dat (.int (if v < u then v else u)))) := ⟨x_fMin2⟩
instance st_fSlT {l u : Option Int} : Stp (fSl (.tuple ds) l u q) (q (.dat (.tuple (cutD ds l u)))) := ⟨x_fSlT⟩
instance st_fSlL {l u : Option Int} : Stp (fSl (.list ds) l u q) (q (.lst (cutD ds l u))) := ⟨x_fSlL⟩
instance st_iteT : Stp (if true = true then A else B) (A) := ⟨x_iteT⟩
instance st_iteF : Stp (if false = true then A else B) (B) := ⟨x_iteF⟩
instance st_v1 [h : LookL ev i (.dat d)] : Stp (mVar i ⟨ev, n, bo⟩ P X) (P (.val (.dat d)) ⟨ev, n, bo⟩) := ⟨fun z => x_v_dat h.e z⟩
instance st_v2 [h : LookL ev i (.lst ds)] : Stp (mVar i ⟨ev, n, bo⟩ P X) (P (.slot i) ⟨ev, n, bo⟩) := ⟨fun z => x_v_lst h.e z⟩
instance st_v3 [h : LookL ev i .st] : Stp (mVar i ⟨ev, n, bo⟩ P X) (P (.slot i) ⟨ev, n, bo⟩) := ⟨fun z => x_v_st h.e z⟩
instance st_v4 [h : LookL ev i (.dct kvs)] : Stp (mVar i ⟨ev, n, bo⟩ P X) (P (.slot i) ⟨ev, n, bo⟩) := ⟨fun z => x_v_dct h.e z⟩
instance st_v5 [h : LookL ev i (.exc C)] : Stp (mVar i ⟨ev, n, bo⟩ P X) (P (.val (.exc C)) ⟨ev, n, bo⟩) := ⟨fun z => x_v_exc h.e z⟩
instance st_opK [a : RdC s r d] [b : RdC s r2 e] : Stp (opK f r r2 s P) (f d e fun o => P (.val o) s) := ⟨fun z => x_opK a.e b.e z⟩
instance st_rdK [a : RdC s r d] : Stp (rdK r s kp) (kp d) := ⟨fun z => x_rdK a.e z⟩
instance st_rdsK [a : RdsC s rs ds] : Stp (rdsK rs s kl) (kl ds) := ⟨fun z => x_rdsK a.e z⟩
instance st_datsK [a : DatsC rs ds] : Stp (datsK rs kl) (kl ds) := ⟨fun z => x_datsK a.e z⟩
instance st_it1 : Stp (itK (.list ds) kl) (kl ds) := ⟨fun z => x_itK rfl z⟩
instance st_it2 : Stp (itK (.tuple ds) kl) (kl ds) := ⟨fun z => x_itK rfl z⟩
instance st_it3 {w : Str} : Stp (itK (.str w) kl) (kl (charsOf w)) := ⟨fun z => x_itK rfl z⟩
instance st_put [a : NotIn i bo] [b : SetL ev i (some o) ev'] : Stp (putK i o ⟨ev, n, bo⟩ PS) (PS ⟨ev', n, bo⟩) := ⟨fun z => x_put a.e b.l b.e z⟩
instance st_movS [a : LookL ev i (.lst ds)] [b : SetL ev i (some (.dat (.list ds))) ev'] : Stp (movK (.slot i) ⟨ev, n, bo⟩ k) (k (.dat (.list ds)) ⟨ev', n, bo⟩) := ⟨fun z => x_mov_slot a.e b.e z⟩
instance st_movD [a : LookL ev i (.dct kvs)] [b : SetL ev i none ev'] : Stp (movK (.slot i) ⟨ev, n, bo⟩ k) (k (.dct kvs) ⟨ev', n, bo⟩) := ⟨fun z => x_mov_slotD a.e b.e z⟩
instance st_frzS [a : LookL ev i (.lst ds)] [b : SetL ev i (some (.dat (.list ds))) ev'] : Stp (frzK (.slot i) ⟨ev, n, bo⟩ kd) (kd (.list ds) ⟨ev', n, bo⟩) := ⟨fun z => x_frz_slot a.e b.e z⟩
instance st_callK [a : GetsC ⟨ev, n, bo⟩ rs os] [b : NdSl rs] : Stp (callK G rs ⟨ev, n, bo⟩ P X) (G os n (fun o os' n' => P (.val o) (backs rs os' ⟨ev, n', bo⟩)) (fun C os' n' => X C (backs rs os' ⟨ev, n', bo⟩))) := ⟨fun z => x_callK a.e b.e z⟩
instance st_callV [a : GetsC ⟨ev, n, bo⟩ rs os] [b : NoSl rs] : Stp (callK G rs ⟨ev, n, bo⟩ P X) (G os n (fun o os' n' => P (.val o) ⟨ev, n', bo⟩) (fun C os' n' => X C ⟨ev, n', bo⟩)) := ⟨fun z => x_callV a.e b.e z⟩
instance st_gT1 {a : PyData} : Stp (mgT 1 g (.tuple [a]) s PS) (g [a] s PS) := ⟨fun z => x_gT rfl z⟩
instance st_gT2 {a b : PyData} : Stp (mgT 2 g (.tuple [a, b]) s PS) (g [a, b] s PS) := ⟨fun z => x_gT rfl z⟩
instance st_gT3 {a b c : PyData} : Stp (mgT 3 g (.tuple [a, b, c]) s PS) (g [a, b, c] s PS) := ⟨fun z => x_gT rfl z⟩
instance st_gT4 {a b c d : PyData} : Stp (mgT 4 g (.tuple [a, b, c, d]) s PS) (g [a, b, c, d] s PS) := ⟨fun z => x_gT rfl z⟩
instance st_dis0 : Stp (List.length ([] : List PyData) ≤ 100000 ∧ A) A := ⟨fun z => ⟨by simp, z⟩⟩
instance st_dis1 {a0 : PyData} : Stp (List.length ([a0] : List PyData) ≤ 100000 ∧ A) A := ⟨fun z => ⟨by simp, z⟩⟩
instance st_dis2 {a0 a1 : PyData} : Stp (List.length ([a0, a1] : List PyData) ≤ 100000 ∧ A) A := ⟨fun z => ⟨by simp, z⟩⟩
instance st_dis3 {a0 a1 a2 : PyData} : Stp (List.length ([a0, a1, a2] : List PyData) ≤ 100000 ∧ A) A := ⟨fun z => ⟨by simp, z⟩⟩
instance st_dis4 {a0 a1 a2 a3 : PyData} : Stp (List.length ([a0, a1, a2, a3] : List PyData) ≤ 100000 ∧ A) A := ⟨fun z => ⟨by simp, z⟩⟩
instance st_dis5 {a0 a1 a2 a3 a4 : PyData} : Stp (List.length ([a0, a1, a2, a3, a4] : List PyData) ≤ 100000 ∧ A) A := ⟨fun z => ⟨by simp, z⟩⟩
instance st_dis6 {a0 a1 a2 a3 a4 a5 : PyData} : Stp (List.length ([a0, a1, a2, a3, a4, a5] : List PyData) ≤ 100000 ∧ A) A := ⟨fun z => ⟨by simp, z⟩⟩
instance st_dis7 {a0 a1 a2 a3 a4 a5 a6 : PyData} : Stp (List.length ([a0, a1, a2, a3, a4, a5, a6] : List PyData) ≤ 100000 ∧ A) A := ⟨fun z => ⟨by simp, z⟩⟩
instance st_dis8 {a0 a1 a2 a3 a4 a5 a6 a7 : PyData} : Stp (List.length ([a0, a1, a2, a3, a4, a5, a6, a7] : List PyData) ≤ 100000 ∧ A) A := ⟨fun z => ⟨by simp, z⟩⟩
instance st_ixT0 {a0 : PyData} : Stp (fIx (.tuple (a0 :: ds)) (.int 0) q) (q (.dat a0)) := ⟨fun z => x_fIxT (atI_nat (j := 0) rfl) z⟩
instance st_ixL0 {a0 : PyData} : Stp (fIx (.list (a0 :: ds)) (.int 0) q) (q (.dat a0)) := ⟨fun z => x_fIxL (atI_nat (j := 0) rfl) z⟩
instance st_ixT1 {a0 a1 : PyData} : Stp (fIx (.tuple (a0 :: a1 :: ds)) (.int 1) q) (q (.dat a1)) := ⟨fun z => x_fIxT (atI_nat (j := 1) rfl) z⟩
instance st_ixL1 {a0 a1 : PyData} : Stp (fIx (.list (a0 :: a1 :: ds)) (.int 1) q) (q (.dat a1)) := ⟨fun z => x_fIxL (atI_nat (j := 1) rfl) z⟩
instance st_ixT2 {a0 a1 a2 : PyData} : Stp (fIx (.tuple (a0 :: a1 :: a2 :: ds)) (.int 2) q) (q (.dat a2)) := ⟨fun z => x_fIxT (atI_nat (j := 2) rfl) z⟩
instance st_ixL2 {a0 a1 a2 : PyData} : Stp (fIx (.list (a0 :: a1 :: a2 :: ds)) (.int 2) q) (q (.dat a2)) := ⟨fun z => x_fIxL (atI_nat (j := 2) rfl) z⟩
instance st_ixT3 {a0 a1 a2 a3 : PyData} : Stp (fIx (.tuple (a0 :: a1 :: a2 :: a3 :: ds)) (.int 3) q) (q (.dat a3)) := ⟨fun z => x_fIxT (atI_nat (j := 3) rfl) z⟩
instance st_ixL3 {a0 a1 a2 a3 : PyData} : Stp (fIx (.list (a0 :: a1 :: a2 :: a3 :: ds)) (.int 3) q) (q (.dat a3)) := ⟨fun z => x_fIxL (atI_nat (j := 3) rfl) z⟩
instance st_ixT4 {a0 a1 a2 a3 a4 : PyData} : Stp (fIx (.tuple (a0 :: a1 :: a2 :: a3 :: a4 :: ds)) (.int 4) q) (q (.dat a4)) := ⟨fun z => x_fIxT (atI_nat (j := 4) rfl) z⟩
instance st_ixL4 {a0 a1 a2 a3 a4 : PyData} : Stp (fIx (.list (a0 :: a1 :: a2 :: a3 :: a4 :: ds)) (.int 4) q) (q (.dat a4)) := ⟨fun z => x_fIxL (atI_nat (j := 4) rfl) z⟩
end
end Mk

/-! part Mw -/
/-! Mk, part 26: steps of enumerate, lists of what was caught, index, texts, calls in another order. -/
namespace Mk
open PySem PySem.Spec PyProof.Rows L2 Evl Lk LamX
def captK (r : Rs) (k : Option Addr → Prop) : Prop := match capt r with
  | some c => k c
  | none => False
def xappK (r : Rs) (i : Nat) (s : S) (P : Rs → S → Prop) : Prop := match capt r, s.env[i]? with
  | some c, some (some (.xs es)) => es.length < 100 ∧ P (.val (.dat .none)) (putO s i (.xs (es ++ [c])))
  | _, _ => False
def listK (d : PyData) (k : List PyData → Prop) : Prop := match listOf d with
  | some ds => k ds
  | none => False
section
variable {s : S} {n i j : Nat} {d e y z : PyData} {ds es : List PyData} {r : Rs} {rs : List Rs} {X : XM} {P : Rs → S → Prop} {PL : List PyData → S → Prop} {PS : S → Prop} {C : Addr} {m mo : ME} {ma : MD} {q : O → Prop} {A : Prop} {ev ev' : List (Option O)} {bo : List Nat} {k : Option Addr → Prop} {kl : List PyData → Prop} {c c0 : Option Addr} {xs : List (Option Addr)} {a b : Str} {u v : Int}
theorem x_xs1 (h : m s (fun r s1 => captK r fun c => P (.val (.xs [c])) s1) X) : mXs1 m s P X := by
  refine Eq.mp (congrArg (fun z => m s z X) ?_) h
  funext r s1
  unfold captK
  rfl
theorem x_captX (h : k (some C)) : captK (.val (.exc (C, []))) k := h
theorem x_captN (h : k none) : captK (.val (.dat .none)) k := h
theorem x_mov_xs {k : O → S → Prop} (h : k (.xs xs) s) : movK (.val (.xs xs)) s k := h
theorem x_xapp (e : ev[i]? = some (some (.xs xs))) (h : m ⟨ev, n, bo⟩ (fun r s1 => xappK r i s1 P) X) : mXApp i m ⟨ev, n, bo⟩ P X := by
  have e' : (S.mk ev n bo).env[i]? = some (some (.xs xs)) := e
  refine ⟨?_, h⟩
  unfold isXs
  rw [e']; trivial
theorem x_xappK (hc : capt r = some c) (e : ev[i]? = some (some (.xs [c0]))) (h3 : ev.set i (some (.xs [c0, c])) = ev') (h : P (.val (.dat .none)) ⟨ev', n, bo⟩) : xappK r i ⟨ev, n, bo⟩ P := by
  subst h3
  have e' : (S.mk ev n bo).env[i]? = some (some (.xs [c0])) := e
  unfold xappK
  rw [hc, e']
  exact ⟨by simp, h⟩
theorem x_xix (e : ev[i]? = some (some (.xs xs))) (ec : xs[j]? = some c) (h : P (ofCapt c) ⟨ev, n, bo⟩) : mXIx i j ⟨ev, n, bo⟩ P X := by
  have e' : (S.mk ev n bo).env[i]? = some (some (.xs xs)) := e
  unfold mXIx
  rw [e']
  show (match xs[j]? with
    | some c => P (ofCapt c) ⟨ev, n, bo⟩
    | none => False)
  rw [ec]; exact h
theorem x_enumK (h : mD m s (fun d s1 => listK d fun ds => PL (enumD 0 ds) s1) X) : mEnum m s PL X := by
  refine Eq.mp (congrArg (fun z => mD m s z X) ?_) h
  funext d s1
  unfold listK
  rfl
theorem x_index (h : mo s (fun r s1 => (∃ ds, rd s1 r = some (.list ds)) ∧ ma s1 (fun d s2 => indexK r d s2 P) X) X) : mIndex mo ma s P X := h
theorem x_rdL (e : rd s r = some (.list ds)) (h : A) : (∃ ds, rd s r = some (.list ds)) ∧ A := ⟨⟨_, e⟩, h⟩
theorem x_fAny {bs : List Bool} (e : boolsOf? ds = some bs) (h : q (.dat (.bool (bs.any id)))) : fAny (.list ds) q := by
  show (match boolsOf? ds with
    | some bs => q (.dat (.bool (bs.any id)))
    | none => False)
  rw [e]; exact h
theorem x_fListL (h : q (.lst ds)) : fList (.list ds) q := h
theorem x_fListT (h : q (.lst ds)) : fList (.tuple ds) q := h
theorem x_fLeT3 {a b c x y z : Int} (h : q (.dat (.bool (leTup [a, b, c] [x, y, z])))) : fLe (.tuple [.int a, .int b, .int c]) (.tuple [.int x, .int y, .int z]) q := h
theorem x_swap021 {G : Den} {a b c : O} {Q : O → List O → Nat → Prop} {Y : Exn → List O → Nat → Prop} (h : G [a, c, b] n (fun o os n' => match os with
    | [x, y, z] => Q o [x, z, y] n'
    | _ => False) (fun C os n' => match os with
    | [x, y, z] => Y C [x, z, y] n'
    | _ => False)) : swapP [0, 2, 1] G [a, b, c] n Q Y := by
  refine ⟨rfl, ?_⟩
  have e1 : (fun o (os' : List O) n' => os'.length = [0, 2, 1].length ∧ Q o (permL [0, 2, 1] .st os') n') = fun o os n' => match os with
      | [x, y, z] => Q o [x, z, y] n'
      | _ => False := by
    funext o os n'
    match os with
    | [] => exact propext ⟨fun h => absurd h.1 (by simp), fun h => h.elim⟩
    | [_] => exact propext ⟨fun h => absurd h.1 (by simp), fun h => h.elim⟩
    | [_, _] => exact propext ⟨fun h => absurd h.1 (by simp), fun h => h.elim⟩
    | [x, y, z] => exact propext ⟨fun h => h.2, fun h => ⟨rfl, h⟩⟩
    | _ :: _ :: _ :: _ :: _ => exact propext ⟨fun h => absurd h.1 (by simp), fun h => h.elim⟩
  have e2 : (fun C (os' : List O) n' => os'.length = [0, 2, 1].length ∧ Y C (permL [0, 2, 1] .st os') n') = fun C os n' => match os with
      | [x, y, z] => Y C [x, z, y] n'
      | _ => False := by
    funext o os n'
    match os with
    | [] => exact propext ⟨fun h => absurd h.1 (by simp), fun h => h.elim⟩
    | [_] => exact propext ⟨fun h => absurd h.1 (by simp), fun h => h.elim⟩
    | [_, _] => exact propext ⟨fun h => absurd h.1 (by simp), fun h => h.elim⟩
    | [x, y, z] => exact propext ⟨fun h => h.2, fun h => ⟨rfl, h⟩⟩
    | _ :: _ :: _ :: _ :: _ => exact propext ⟨fun h => absurd h.1 (by simp), fun h => h.elim⟩
  rw [e1, e2]
  exact h
/-! ### [..] == [] -/
theorem shaped_intL {α : Type} (f : α → Int) (l : List α) : SeqAt.shaped (.list (l.map fun a => PyData.int (f a))) = true := by
  have h1 : PyData.canLayAll0 (l.map fun a => PyData.int (f a)) = true := by
    induction l with
    | nil => rfl
    | cons a l ih => rw [List.map_cons, PyData.canLayAll0, ih]; rfl
  have h2 : PyData.depthAll (l.map fun a => PyData.int (f a)) ≤ 1 := by
    induction l with
    | nil => simp [PyData.depthAll]
    | cons a l ih =>
      have := ih (by rw [List.map_cons, PyData.canLayAll0, Bool.and_eq_true] at h1; exact h1.2)
      simp only [List.map_cons, PyData.depthAll, PyData.depth]
      omega
  have h3 : (PyData.list (l.map fun a => PyData.int (f a))).canLay0 = true := by rw [PyData.canLay0]; exact h1
  unfold SeqAt.shaped
  rw [h3, decide_eq_true (by simp only [PyData.depth]; omega)]
  rfl
theorem eqd_nilL : eqd (.list ds) (.list []) = decide (ds.length = 0) := by
  unfold eqd
  cases ds <;> simp [PyData.eqv, PyData.eqvAll]
theorem x_fEqL0 {α : Type} {f : α → Int} {l : List α} (h : q (.dat (.bool (decide (l.length = 0))))) : fEq (.list (l.map fun a => PyData.int (f a))) (.list []) q := ⟨.inl ⟨shaped_intL f l, rfl⟩, by rw [eqd_nilL, List.length_map]; exact h⟩
theorem x_fNeL0 {α : Type} {f : α → Int} {l : List α} (h : q (.dat (.bool (!decide (l.length = 0))))) : fNe (.list (l.map fun a => PyData.int (f a))) (.list []) q := ⟨shaped_intL f l, rfl, by rw [eqd_nilL, List.length_map]; exact h⟩
/-! ### found by the head -/
class LookX (xs : List (Option Addr)) (j : Nat) (c : outParam (Option Addr)) : Prop where
  e : xs[j]? = some c
instance lookX0 : LookX (c :: xs) 0 c := ⟨rfl⟩
instance lookXs [h : LookX xs j c] : LookX (c0 :: xs) (j + 1) c := ⟨by rw [List.getElem?_cons_succ]; exact h.e⟩
class CaptC (r : Rs) (c : outParam (Option Addr)) : Prop where
  e : capt r = some c
instance captC1 : CaptC (.val (.exc (C, []))) (some C) := ⟨rfl⟩
instance captC2 : CaptC (.val (.dat .none)) none := ⟨rfl⟩
instance st_xs1 : Stp (mXs1 m s P X) (m s (fun r s1 => captK r fun c => P (.val (.xs [c])) s1) X) := ⟨x_xs1⟩
instance st_captX : Stp (captK (.val (.exc (C, []))) k) (k (some C)) := ⟨x_captX⟩
instance st_captN : Stp (captK (.val (.dat .none)) k) (k none) := ⟨x_captN⟩
instance st_mov_xs {k : O → S → Prop} : Stp (movK (.val (.xs xs)) s k) (k (.xs xs) s) := ⟨x_mov_xs⟩
instance st_xapp [h : LookL ev i (.xs xs)] : Stp (mXApp i m ⟨ev, n, bo⟩ P X) (m ⟨ev, n, bo⟩ (fun r s1 => xappK r i s1 P) X) := ⟨fun z => x_xapp h.e z⟩
instance st_xappK [hc : CaptC r c] [h : LookL ev i (.xs [c0])] [g : SetL ev i (some (.xs [c0, c])) ev'] : Stp (xappK r i ⟨ev, n, bo⟩ P) (P (.val (.dat .none)) ⟨ev', n, bo⟩) := ⟨fun z => x_xappK hc.e h.e g.e z⟩
instance st_xix [h : LookL ev i (.xs xs)] [g : LookX xs j c] : Stp (mXIx i j ⟨ev, n, bo⟩ P X) (P (ofCapt c) ⟨ev, n, bo⟩) := ⟨fun z => x_xix h.e g.e z⟩
instance st_enum : Stp (mEnum m s PL X) (mD m s (fun d s1 => listK d fun ds => PL (enumD 0 ds) s1) X) := ⟨x_enumK⟩
instance st_listK1 : Stp (listK (.list ds) kl) (kl ds) := ⟨fun h => h⟩
instance st_listK2 : Stp (listK (.tuple ds) kl) (kl ds) := ⟨fun h => h⟩
instance st_index : Stp (mIndex mo ma s P X) (mo s (fun r s1 => (∃ ds, rd s1 r = some (.list ds)) ∧ ma s1 (fun d s2 => indexK r d s2 P) X) X) := ⟨x_index⟩
instance st_rdL [h : RdC s r (.list ds)] : Stp ((∃ ds, rd s r = some (.list ds)) ∧ A) A := ⟨fun z => x_rdL h.e z⟩
instance st_seqK1 : Stp (seqK (.tuple ds) kl) (kl ds) := ⟨fun h => x_seqK rfl h⟩
instance st_seqK2 : Stp (seqK (.list ds) kl) (kl ds) := ⟨fun h => x_seqK rfl h⟩
theorem dats_map : ∀ {ds : List PyData} {rs : List Rs} {es : List PyData}, dats rs = some es → dats (ds.map (fun d => Rs.val (.dat d)) ++ rs) = some (ds ++ es)
  | [], _, _, h => h
  | d :: ds, rs, es, h => by
    rw [List.map_cons, List.cons_append, dats, dats_map h]
    rfl
instance datsC2 [b : DatsC rs es] : DatsC (ds.map (fun d => Rs.val (.dat d)) ++ rs) (ds ++ es) := ⟨dats_map b.e⟩
instance st_fLeT3 {a b c x y z : Int} : Stp (fLe (.tuple [.int a, .int b, .int c]) (.tuple [.int x, .int y, .int z]) q) (q (.dat (.bool (leTup [a, b, c] [x, y, z])))) := ⟨x_fLeT3⟩
instance st_swap021 {G : Den} {a b c : O} {Q : O → List O → Nat → Prop} {Y : Exn → List O → Nat → Prop} : Stp (swapP [0, 2, 1] G [a, b, c] n Q Y) (G [a, c, b] n (fun o os n' => match os with
    | [x, y, z] => Q o [x, z, y] n'
    | _ => False) (fun C os n' => match os with
    | [x, y, z] => Y C [x, z, y] n'
    | _ => False)) := ⟨x_swap021⟩
instance st_fEqL0 {α : Type} {f : α → Int} {l : List α} : Stp (fEq (.list (l.map fun a => PyData.int (f a))) (.list []) q) (q (.dat (.bool (decide (l.length = 0))))) := ⟨x_fEqL0⟩
instance st_fNeL0 {α : Type} {f : α → Int} {l : List α} : Stp (fNe (.list (l.map fun a => PyData.int (f a))) (.list []) q) (q (.dat (.bool (!decide (l.length = 0))))) := ⟨x_fNeL0⟩
instance st_fListL : Stp (fList (.list ds) q) (q (.lst ds)) := ⟨x_fListL⟩
instance st_fListT : Stp (fList (.tuple ds) q) (q (.lst ds)) := ⟨x_fListT⟩
instance st_noneC1 : Stp (noneK false (ofCapt none) s P) (P (.val (.dat (.bool true))) s) := ⟨fun h => h⟩
instance st_noneC2 : Stp (noneK true (ofCapt none) s P) (P (.val (.dat (.bool false))) s) := ⟨fun h => h⟩
instance st_noneC3 {b : Bool} : Stp (noneK b (ofCapt (some C)) s P) (P (.val (.dat (.bool b))) s) := ⟨fun h => h⟩
instance st_fIsNn {x : Exn} : Stp (noneK true (.val (.exc x)) s P) (P (.val (.dat (.bool true))) s) := ⟨fun h => h⟩
end
end Mk

/-! part Mw3 -/
/-! Mk, part 36: steps of the new operations. -/
namespace Mk
open PySem PySem.Spec PyProof.Rows L2 Evl Lk LamX
section
variable {s : S} {n i : Nat} {d e y z : PyData} {ds es : List PyData} {r : Rs} {X : XM} {P : Rs → S → Prop} {PL : List PyData → S → Prop} {PS : S → Prop} {KF : PySem.W.Frag} {C : Addr} {f : Str} {b : Bool} {m m2 : ME} {mk mv ma mb : MD} {k : SK} {q : O → Prop} {ev : List (Option O)} {bo : List Nat}
def zipK (d e : PyData) (s : S) (PL : List PyData → S → Prop) : Prop := match listOf d, listOf e with
  | some ds, some es => PL (zipD ds es) s
  | _, _ => False
theorem x_zipS (h : mD m s (fun d s1 => mD m2 s1 (fun e s2 => zipK d e s2 PL) X) X) : mZip m m2 s PL X := by
  refine Eq.mp (congrArg (fun g => mD m s g X) ?_) h
  funext d s1
  refine congrArg (fun g => mD m2 s1 g X) ?_
  funext e s2
  unfold zipK
  rfl
instance st_zip : Stp (mZip m m2 s PL X) (mD m s (fun d s1 => mD m2 s1 (fun e s2 => zipK d e s2 PL) X) X) := ⟨x_zipS⟩
instance st_zipTT : Stp (zipK (.tuple ds) (.tuple es) s PL) (PL (zipD ds es) s) := ⟨fun h => h⟩
instance st_zipLL : Stp (zipK (.list ds) (.list es) s PL) (PL (zipD ds es) s) := ⟨fun h => h⟩
instance st_zipTL : Stp (zipK (.tuple ds) (.list es) s PL) (PL (zipD ds es) s) := ⟨fun h => h⟩
instance st_zipLT : Stp (zipK (.list ds) (.tuple es) s PL) (PL (zipD ds es) s) := ⟨fun h => h⟩
def dzK (d e : PyData) (s : S) (P : Rs → S → Prop) : Prop := match listOf d, listOf e with
  | some ds, some es => match keysK ds with
    | some ks => P (.val (.dct (storeK [] (ks.zip es)))) s
    | none => False
  | _, _ => False
theorem x_dictZip (h : ma s (fun d s1 => mb s1 (fun e s2 => dzK d e s2 P) X) X) : mDictZip ma mb s P X := by
  refine Eq.mp (congrArg (fun g => ma s g X) ?_) h
  funext d s1
  refine congrArg (fun g => mb s1 g X) ?_
  funext e s2
  unfold dzK
  rfl
instance st_dictZip : Stp (mDictZip ma mb s P X) (ma s (fun d s1 => mb s1 (fun e s2 => dzK d e s2 P) X) X) := ⟨x_dictZip⟩
def inNK (neg : Bool) (r : Rs) (k : PyData) (s : S) (P : Rs → S → Prop) : Prop := match dnOf s r, nkOf k with
  | some kvs, some k => P (.val (.dat (.bool (if neg then !(getN kvs k).isSome else (getN kvs k).isSome)))) s
  | _, _ => False
theorem x_inN (h : mk s (fun k s1 => m s1 (fun r s2 => inNK b r k s2 P) X) X) : mInN b mk m s P X := by
  refine Eq.mp (congrArg (fun g => mk s g X) ?_) h
  funext d s1
  refine congrArg (fun g => m s1 g X) ?_
  funext e s2
  unfold inNK
  rfl
instance st_inN : Stp (mInN b mk m s P X) (mk s (fun k s1 => m s1 (fun r s2 => inNK b r k s2 P) X) X) := ⟨x_inN⟩
theorem x_inNK {kvs : List (NestedKey × PyData)} {k : NestedKey} (e1 : dnOf s r = some kvs) (e2 : nkOf y = some k) (h : P (.val (.dat (.bool (if b then !(getN kvs k).isSome else (getN kvs k).isSome)))) s) : inNK b r y s P := by
  unfold inNK
  rw [e1, e2]
  exact h
instance st_raiseA : Stp (mRaiseA C f ma s k) (ma s (fun d s1 => k.er (C, [(f, d)]) s1) k.er) := ⟨fun h => h⟩
def atrK (K : PySem.W.Frag) (f : Str) (r : Rs) (s : S) (P : Rs → S → Prop) : Prop := match r with
  | .val (.exc x) => XfC K x.1 ∧ PySem.W.findIn K (.ref x.1) f = some none ∧ match x.2.lookup f with
    | some d => P (.val (.dat d)) s
    | none => False
  | _ => False
theorem x_atrS (h : m s (fun r s1 => atrK KF f r s1 P) X) : mAtr KF f m s P X := by
  refine Eq.mp (congrArg (fun g => m s g X) ?_) h
  funext r s1
  unfold atrK
  rfl
instance st_atr : Stp (mAtr KF f m s P X) (m s (fun r s1 => atrK KF f r s1 P) X) := ⟨x_atrS⟩
instance st_fTupRev : Stp (fTupRev (.list ds) q) (q (.dat (.tuple ds.reverse))) := ⟨fun h => h⟩
end
end Mk

/-! part MkRg -/
/-! Mk, part 38: list(range(..)), tuple(range(..)). -/
namespace Mk
open PySem PySem.Spec PyProof.Rows L2 Evl Lk LamX
/-- a row of whole numbers, as a list (true) or a tuple (false) -/
def outRg (b : Bool) (lo hi : Int) : O := match b with
  | true => .lst (intsFrom lo (hi - lo).toNat)
  | false => .dat (.tuple (intsFrom lo (hi - lo).toNat))
def rgK (b : Bool) (d e : PyData) (s : S) (P : Rs → S → Prop) : Prop := match d, e with
  | .int lo, .int hi => (-100000 ≤ lo ∧ hi ≤ 100000 ∧ lo ≤ 100000 ∧ -100000 ≤ hi) ∧ P (.val (outRg b lo hi)) s
  | _, _ => False
def mRg1 (b : Bool) (m : MD) : ME := fun s Q X => m s (fun d s1 => rgK b (.int 0) d s1 Q) X
def mRg2 (b : Bool) (m m2 : MD) : ME := fun s Q X => m s (fun d s1 => m2 s1 (fun e s2 => rgK b d e s2 Q) X) X
section
variable {K : PySem.W.Frag} {T : List (Addr × Str)} {W : WX} {t1 t2 : TE} {m1 m2 : MD}
variable {X : Cx} {e e2 : Expr} {n1 n2 : ME} {p p2 q pos : Pos}
variable {s : S} {P : Rs → S → Prop} {Y : XM} {b : Bool} {lo hi : Int}
instance st_rg1 : Stp (mRg1 b m1 s P Y) (m1 s (fun d s1 => rgK b (.int 0) d s1 P) Y) := ⟨fun h => h⟩
instance st_rg2 : Stp (mRg2 b m1 m2 s P Y) (m1 s (fun d s1 => m2 s1 (fun e s2 => rgK b d e s2 P) Y) Y) := ⟨fun h => h⟩
end
end Mk

/-! part LkEz -/
/-! Lk: enumerate(zip(a, b)): the zip's last tuple may be held or gone. -/
namespace Lk
open PySem PySem.Spec PyProof.Rows L2 Evl
section
variable {prog : Program} {w : World} {A : Around} {E : Value → Shared → Prop} {s : Shared} {z TI TO i1 i2 e : Addr} {fp1 fp2 : List Addr} {n1 n2 i : Nat} {P1 P2 : Nat → Value → Prop} {St1 St2 : Nat → Heap → Prop} {f : Bool} {u : Value}
end
end Lk

/-! part MkEz -/
/-! Mk, part 39: enumerate(zip(a, b)). -/
namespace Mk
open PySem PySem.Spec PyProof.Rows L2 Evl Lk LamX
section
variable {K : PySem.W.Frag} {T : List (Addr × Str)} {W : WX}
def ezK (d e : PyData) (s : S) (PL : List PyData → S → Prop) : Prop := match listOf d, listOf e with
  | some ds, some es => PL (enumD 0 (zipD ds es)) s
  | _, _ => False
def mEnumZip (a b : ME) : MI := fun s Q X => mD a s (fun d s1 => mD b s1 (fun e s2 => ezK d e s2 Q) X) X
variable {X : Cx} {e e2 : Expr} {t1 t2 : TE} {m1 m2 : ME} {p p2 q pos tpos : Pos} {elts : List Expr} {kk : Nat}
variable {s : S} {PL : List PyData → S → Prop} {Y : XM} {ds es : List PyData}
instance st_ez : Stp (mEnumZip m1 m2 s PL Y) (mD m1 s (fun d s1 => mD m2 s1 (fun e s2 => ezK d e s2 PL) Y) Y) := ⟨fun h => h⟩
instance st_ezTT : Stp (ezK (.tuple ds) (.tuple es) s PL) (PL (enumD 0 (zipD ds es)) s) := ⟨fun h => h⟩
instance st_ezLL : Stp (ezK (.list ds) (.list es) s PL) (PL (enumD 0 (zipD ds es)) s) := ⟨fun h => h⟩
instance st_ezTL : Stp (ezK (.tuple ds) (.list es) s PL) (PL (enumD 0 (zipD ds es)) s) := ⟨fun h => h⟩
instance st_ezLT : Stp (ezK (.list ds) (.tuple es) s PL) (PL (enumD 0 (zipD ds es)) s) := ⟨fun h => h⟩
end
end Mk

/-! part LkMin -/
/-! Lk: min(l), l a list of alike data. -/
namespace Lk
open PySem PySem.Spec PyProof.Rows L2 Evl
open PySem.W (EachIs dataLt)
section
variable {X : Cx}
end
end Lk

/-! part MkMin -/
/-! Mk, part 40: min of a list of alike data. -/
namespace Mk
open PySem PySem.Spec PyProof.Rows L2 Evl Lk LamX
end Mk

/-! part MkXc -/
/-! Mk: comprehensions over a list of what was caught (one's own, that stays one's own). -/
namespace Mk
open PySem PySem.Spec PyProof.Rows L2 Evl Lk LamX
section
variable {K : PySem.W.Frag} {T : List (Addr × Str)} {W : WX}
variable {X : Cx} {pos p : Pos} {te : TE} {me : ME}
end
end Mk

/-! part MkNn -/
/-! Mk: {} for a dict with nested keys. -/
namespace Mk
open PySem PySem.Spec PyProof.Rows L2 Evl Lk LamX
def mNNew : ME := fun s Q _ => Q (.val (.dn [])) s
theorem x_nnew {s : S} {P : Rs → S → Prop} {X : XM} (h : P (.val (.dn [])) s) : mNNew s P X := h
instance st_nnew {s : S} {P : Rs → S → Prop} {X : XM} : Stp (mNNew s P X) (P (.val (.dn [])) s) := ⟨x_nnew⟩
end Mk

/-! part MkKx -/
/-! Mk: a call with names whose errors are taken by a handler. -/
namespace Mk
open PySem PySem.Spec PyProof.Rows L2 Evl Lk LamX
section
variable {X : Cx} {W : WX} {T : List (Addr × Str)} {k j : Nat} {x : Str} {ks : List Str} {G : Den} {pn pos : Pos} {kws : List Keyword} {e : Expr} {te te2 : TE}
end
end Mk

/-! part MkFz -/
namespace Mk
open PySem PySem.Spec PyProof.Rows L2 Evl Lk LamX
/-! frozen values anywhere -/
section
variable {X : Cx} {K : PySem.W.Frag} {T : List (Addr × Str)} {W : WX} {e : Expr} {te : TE} {me : ME}
end
end Mk

/-! part LkWk -/
/-! Lk: a list of lambdas, called one by one in a comprehension. -/
namespace Lk
open PySem PySem.Spec PyProof.Rows L2 Evl LamX
section
variable {X : Cx} {pins : List (Addr × Obj)} {s : Shared} {σ : L2.St} {H : Hp}
/-- what the element of a comprehension may know: the def's own state at the block's entry -/
def ElOk (X : Cx) (pins : List (Addr × Obj)) (σ : L2.St) (elt : Expr) (scope : Scope) (te : TE) : Prop :=
  ∀ (s1 : Shared) (H1 : Hp) (C : Addr) (cl : List (Str × Addr)) (fp : List Addr), Inv X pins σ H1 s1 → (∀ b ∈ fp, FpOk X pins H1 b) →
    PE (X.blk s1 H1 scope (compEnvC scope cl C X.env) fp) elt te
/-- a comprehension without tests whose element knows the def's state -/
theorem lc_with {Q : VK} {elt tg iter : Expr} {scope : Scope} {own : List (Str × Nat)} {pos pos' : Pos} {wi : TI} {g : TG} {te : TE} {use : Option (Value → Sem Unit)} {Qf : Value → Shared → Prop}
    (calm : X.calm = true) (nd : X.N.Nodup) (I0 : Inv X pins σ H s) (hi : PI X tg iter wi) (bo : BlkOk X.N X.env.scope scope own)
    (hg : ∀ (s1 : Shared) (H1 : Hp) (C : Addr) (cl : List (Str × Addr)) (fp : List Addr), PG (X.blk s1 H1 scope (compEnvC scope cl C X.env) fp) tg g)
    (he : ElOk X pins σ elt scope te) (fs : ∀ x, foldedSetIterable iter X.env x = pure x) (h : tLc wi g tYes te (own.map (·.2)) σ H Q)
    (back : ∀ D C s' m H', Inv X pins σ H' s' → Q (.ref D) H' → s'.heap.Ns C m → FpOk X pins H' C → compPost (model X.prog X.w) X.A X.xe use Qf (.ref D) C (.ok .next) s') :
    wpAny (model X.prog X.w) X.A (comprehension (.ListComp elt [⟨tg, iter, [], 0⟩] scope pos) scope X.env pos' (newList []) false (eval iter X.env) use) Qf X.xe s := by
  have closed : ∀ z ∈ scope.names, z.2 = .free → ∃ c, X.env.cells.lookup z.1 = some c := fun z hz ez =>
    (bo.free z hz ez).elim (fun k => I0.ok.has _ (.inl k)) fun k => I0.ok.has _ (.inr k)
  refine wpAny_comprehension_free (use := use) rfl fs (closure_ok closed) bo.kind (fun z hz ez => by rw [bo.uniq z hz, ez])
    (thn (hi.run pins s σ H _ I0 h) fun _ _ hv => thn hv fun itv sa ga => ?_)
  obtain ⟨it, fp, tn, J, Ha, rfl, Ia, T, sta, fa, rest⟩ := ga
  refine wpAny_newObj_type (newEnv_comp ?_) (by show 0 ≤ sizeLine; decide)
  generalize eD : sa.heap.objs.size = D
  have fresh : Ha D = none := Ia.hok.fresh (Nat.le_of_eq eD)
  obtain ⟨W, ⟨m0, w0⟩, turn⟩ := rest D fresh
  generalize es : ({ sa with heap := sa.heap.push { cls := .type "list", data := .seq ([] : List Value).toArray } } : Shared) = sb
  have hb : sb.heap = sa.heap.push { cls := .type "list", data := .seq ([] : List Value).toArray } := by rw [← es]
  have Ib : Inv X pins σ (upd Ha D (.lst [])) sb := by
    rw [← es]
    exact Ia.laid (t' := sa.toks) (fun _ _ z => Heap.get?_push_of_some _ z) (Nat.le_of_eq eD) ⟨Nat.zero_le _, [], 0, .nil, by rw [← eD]; exact Heap.get?_push_size _ rfl⟩
  have small : ∀ b ∈ fp, b < sa.heap.objs.size := fun b z => (T.obj _ _ sta b z).elim fun _ y => Heap.lt_size y.1
  have fb : ∀ b ∈ fp, FpOk X pins (upd Ha D (.lst [])) b ∧ b < sb.heap.objs.size := fun b z =>
    ⟨⟨by rw [upd_ne (by rw [← eD]; exact Nat.ne_of_lt (small b z))]; exact (fa b z).1, (fa b z).2⟩, by rw [hb, Heap.size_push]; exact Nat.lt_succ_of_lt (small b z)⟩
  have stb : tn 0 sb.heap := T.keep _ _ _ sta fun b _ o z => by rw [hb]; exact Heap.get?_push_of_some _ z
  have Ic := block_start Ib bo nd fb
  have pg := hg sb (upd Ha D (.lst [])) sb.heap.objs.size (cellsFrom (sb.heap.objs.size + 1) scope.names (cloFrom X.env.cells scope.names [])) fp
  have pe := he sb (upd Ha D (.lst [])) sb.heap.objs.size (cellsFrom (sb.heap.objs.size + 1) scope.names (cloFrom X.env.cells scope.names [])) fp Ib fun b z => (fb b z).1
  have nofp : ∀ b ∈ fp, (upd Ha D (.lst [])) b = none := fun b z => (fb b z).1.1
  generalize eE : compEnvC scope (cellsFrom (sb.heap.objs.size + 1) scope.names (cloFrom X.env.cells scope.names [])) sb.heap.objs.size X.env = ce at Ic pg pe
  show codeAny _ _ (.compStart (.ListComp elt [⟨tg, iter, [], 0⟩] scope pos) 0 (.ref it) (.ref D) (compEnvC scope (cellsFrom (sb.heap.objs.size + 1) scope.names (cloFrom X.env.cells scope.names [])) sb.heap.objs.size X.env)) (compPost (model X.prog X.w) X.A X.xe use Qf (.ref D) sb.heap.objs.size)
    { sb with heap := pushCells (sb.heap.push { cls := .type "dict", data := .dict #[] }) scope.names }
  rw [eE]
  have eL : ce.locals = sb.heap.objs.size := by rw [← eE]; rfl
  generalize eH : upd Ha D (.lst []) = Hb at Ib Ic pg pe w0 nofp fb
  generalize ec : ({ sb with heap := pushCells (sb.heap.push { cls := .type "dict", data := .dict #[] }) scope.names } : Shared) = sc at Ic
  have stc : tn 0 sc.heap := T.keep _ _ _ stb fun b _ o z => by rw [← ec]; exact pushCells_keeps _ _ _ _ (Heap.get?_push_of_some _ z)
  have fpY : ∀ {σ' : L2.St} {H' : Hp} {s' : Shared}, Inv (X.blk sb Hb scope ce fp) [] σ' H' s' → (∀ b ∈ fp, H' b = none) → ∀ b ∈ fp, FpOk (X.blk sb Hb scope ce fp) [] H' b :=
    fun Iy ny b z => ⟨ny b z, (Iy.ok.exf b z).1, Iy.ok.exfs b z, .inl z, fun y c ey => (Iy.ok.exf b z).2 y c ey, fun p hp => by cases hp⟩
  have loop : codeAny (model X.prog X.w) X.A (.compLoop (.ListComp elt [⟨tg, iter, [], 0⟩] scope pos) 0 (.ref it) (.ref D) ce) (compPost (model X.prog X.w) X.A X.xe use Qf (.ref D) sb.heap.objs.size) sc := by
    refine compLoop_any (fun m s' => ∃ i H', Inv (X.blk sb Hb scope ce fp) [] (L2.wipe σ (own.map (·.2))) H' s' ∧ tn i s'.heap ∧ (∀ b ∈ fp, H' b = none) ∧ W i m H') (fun m s1 z => ?_) m0 ⟨0, Hb, Ic, stc, nofp, w0⟩
    obtain ⟨i, H1, I1, t1, n1, w1⟩ := z
    rcases turn i m H1 w1 with ⟨stop, fin⟩ | ⟨go, Nx, less, step⟩
    · refine thnF (T.done (X.blk sb Hb scope ce fp) rfl rfl rfl calm i [] s1 _ H1 (fun _ _ => False) I1 (fpY I1 n1) t1 stop) fun r s2 ⟨er, I2⟩ => ?_
      subst er
      have Ix : Inv X pins σ H1 s2 := Ib.call' (ch := fp) I2.os I2.base I2.hok I2.bare fun b z => ⟨(fb b z).1.2.2.2.1, (fb b z).1.2.1, (fb b z).1.2.2.2.2.1, (fb b z).1.2.2.2.2.2⟩
      have nC : H1 sb.heap.objs.size = none := by
        rw [← eL]
        exact I2.free
      obtain ⟨k, hk, _⟩ := I2.loc
      have hk' : s2.heap.Ns sb.heap.objs.size k := by
        rw [← eL]
        exact hk
      exact back D _ s2 k H1 Ix fin hk' (Ib.fpOk (Nat.le_refl _) nC)
    · refine thnF (T.item (X.blk sb Hb scope ce fp) rfl rfl rfl calm i [] s1 _ H1 (fun _ _ => False) I1 (fpY I1 n1) t1 go) fun r s2 ⟨u, er, g2⟩ => ?_
      subst er
      refine thnF g2 fun _ s3 ⟨x, H3, I3, r3, y3, t3, n3⟩ => ?_
      have I3' := I3.pinned (fpY I3 n3) (T.obj _ _ t3)
      refine thnF (pg.run _ s3 _ H3 x u _ I3' r3 (step x H3 y3)) fun _ s4 ⟨σ4, H4, I4, wq, q4⟩ => ?_
      refine thnF ((pts_nil (X := X.blk sb Hb scope ce fp)).run _ s4 σ4 H4 _ I4 q4) fun b s5 ⟨H5, I5, q5⟩ => ?_
      have done : ∀ {s' : Shared} {H' : Hp}, Inv (X.blk sb Hb scope ce fp) ([] ++ pinsAt fp s3.heap) σ4 H' s' → Nx H' → ∃ m', m' < m ∧ ∃ i H', Inv (X.blk sb Hb scope ce fp) [] (L2.wipe σ (own.map (·.2))) H' s' ∧ tn i s'.heap ∧ (∀ b ∈ fp, H' b = none) ∧ W i m' H' := by
        intro s' H' I' nx
        obtain ⟨m', lt, w'⟩ := less H' nx
        have same : ∀ b ∈ fp, ∀ o, s3.heap.get? b = some o → s'.heap.get? b = some o ∧ H' b = none := fun b z o e =>
          have y := I'.pin (b, o) (List.mem_append_right _ (List.mem_append_right _ (mem_pinsAt z e)))
          ⟨y.1, y.2.1⟩
        refine ⟨m', lt, i + 1, H', (I'.unpinned (pins := [])).weak (by rw [← wq, L2.wipe_length]) (fun j v e => ?_), T.keep _ _ _ t3 fun b z o e => (same b z o e).1, fun b z => ?_, w'⟩
        · rw [← wq] at e
          exact (L2.wipe_some e).1
        · obtain ⟨o, e, _⟩ := T.obj _ _ t3 b z
          exact (same b z o e).2
      cases b with
      | false =>
        simp only [Bool.false_eq_true, if_false] at q5 ⊢
        exact done I5 q5
      | true =>
        simp only [if_true] at q5 ⊢
        refine thnF (pe.run _ s5 σ4 H5 _ I5 q5) fun z s6 ⟨yv, H6, I6, r6, acc, hD, hz, nx⟩ => ?_
        exact app_ok (X := X.blk sb Hb scope ce fp) I6 hD hz r6 fun s7 I7 => done I7 nx
  exact codeAny_compStart_list loop (T.self X.A 0 _ _ _ stc loop)
end
end Lk

/-! part LkWkB -/
/-! Lk: a lambda held in a list, handed to a def that calls it. -/
namespace Lk
open PySem PySem.Spec PyProof.Rows L2 Evl LamX
/-- a lambda of the def, pinned; c its code object; t what its body does -/
def LamAt (X : Cx) (k : Nat) (pins : List (Addr × Obj)) (f c : Addr) (t : XK → TE) : Prop :=
  ∃ (params : Arguments) (body : Expr) (sc : Scope) (pm ctv : Value), (f, PySem.W.kla_obj "<lambda>" (X.env.qual ++ "<lambda>") params body sc (cloFrom X.env.cells sc.names []) pm c ctv) ∈ pins ∧ LamS X.env.scope sc ∧
    (∀ (q : Str) (cl : List (Str × Addr)) (pm cv ctv : Value), bindArgs (PySem.W.kla_fn "<lambda>" q params body sc cl pm cv ctv) ⟨[], []⟩ = pure []) ∧
    ∀ (A : Around) (outer : List Env) (s : Shared) (H : Hp) (E : XK) (f' c' : Addr), Room k (A.deeper (lamEnv X sc s.heap.objs.size f' c')) → PE (lamCx X A outer s H E sc f' c') body (t E)
/-- x(y), y such a lambda: the reading -/
def tWork (X : Cx) (k : Nat) (pins : List (Addr × Obj)) (σ0 : L2.St) (TT : (XK → Hp → VK → Prop) → Hp → VK → Prop) (w : Nat) : TE := fun σ H Q =>
  ∃ f c t, σ[w]? = some (some (.ref f)) ∧ LamAt X k pins f c t ∧ H c = some (CodeO c (X.env.qual ++ "<lambda>")) ∧ TT (fun E H' Q' => t E σ0 H' Q') H Q
section
variable {X : Cx} {pins : List (Addr × Obj)} {s : Shared} {σ : L2.St} {H : Hp}
theorem el_work {TT : (XK → Hp → VK → Prop) → Hp → VK → Prop} {x a y : Str} {g : Addr} {k w : Nat} {pg : Arguments} {bg : List Stmt} {sg : Scope} {dV kV doc pm cdv ct oc : Value} {an od : Option Addr} {osl : Array (Option Value)} {Ng : List Str}
    {scope : Scope} {p py pos : Pos} {P : List (Addr × Obj)} (hP : ∀ p ∈ P, p ∈ X.pn ++ pins) (hs : X.stack = X.env :: X.outer) (hfr : X.env.frame = some X.env.locals)
    (hx : ∀ (s1 : Shared) (H1 : Hp) (C : Addr) (cl : List (Str × Addr)) (fp : List Addr), Gl (X.blk s1 H1 scope (compEnvC scope cl C X.env) fp) x) (hm : X.mg x = some (.ref g)) (hk : PySem.W.keepIn X.K (.ref g) = true)
    (lk : X.K.lookup g = some ⟨oc, od, .func (PySem.W.fnOf x x pg bg sg dV kV doc pm an cdv ct), osl⟩) (hcg : PySem.W.codeIn X.K cdv x = true) (hb : L2.Binds X.K (PySem.W.fnOf x x pg bg sg dV kV doc pm an cdv ct) [a] []) (Sg : FnScope Ng [a] sg) (hNg : Ng[0]? = some a) (hva : Vis sg a)
    (hG : GivesTo X Ng x sg g cdv bg a (X.env.qual ++ "<lambda>") TT) (hr : Room (k + 2) X.A) (hw : X.N[w]? = some y) (hwv : ∀ C cl, Vis (compEnvC scope cl C X.env).scope y)
    (hdb : (x == ("__debug__" : Str)) = false) (hd : (a == ("__debug__" : Str)) = false) (hcd : (a == ("__classdict__" : Str)) = false) (hdy : (y == ("__debug__" : Str)) = false) (hcy : (y == ("__classdict__" : Str)) = false) :
    ElOk X pins σ (.Call (.Name x p) [.Name y py] [] pos) scope (tWork X k P σ TT w) := by
  intro s1 H1 C cl fp I1 ofp
  refine ⟨fun pb sb σb Hb Q Ib h => ?_⟩
  obtain ⟨f, c, t, ew, la, hc, ht⟩ := h
  obtain ⟨params, body, sc, pm', ctv, hp, L, hbind, hbody⟩ := la
  refine wpAny_Call_Name_kw (ld_glob Ib (hx s1 H1 C cl fp) hm ?_ hdb)
  refine PySem.W.callWith_K (h₀ := X.base) Ib.ok.mod.kin hk ?_ (by rfl) (by rfl)
  show wpAny _ _ (spliced ((false, eval (.Name y py) (X.blk s1 H1 scope (compEnvC scope cl C X.env) fp).env) :: backTo pos (starEach [] (X.blk s1 H1 scope (compEnvC scope cl C X.env) fp).env))) _ _ sb
  refine Calls.spliced_cons (thn ((pe_var (X := X.blk s1 H1 scope (compEnvC scope cl C X.env) fp) (pos := py) (i := w) hw (hwv C cl) hdy hcy).run pb sb σb Hb (fun v H2 => v = .ref f ∧ H2 = Hb) Ib ⟨.ref f, ew, rfl, rfl⟩) fun u s2 g2 => ?_)
  obtain ⟨v, H2, I2, r2, ev, eH⟩ := g2
  subst ev eH
  obtain rfl : u = Value.ref f := r2
  refine Calls.spliced_nil ⟨I2.kIn, ?_⟩
  have IX : Inv X pins σ H2 s2 := I1.call' (ch := fp) I2.os I2.base I2.hok I2.bare fun b z => ⟨(ofp b z).2.2.2.1, (ofp b z).2.1, (ofp b z).2.2.2.2.1, (ofp b z).2.2.2.2.2⟩
  obtain ⟨g1, g2, g3, g4, _⟩ := IX.pin _ (hP _ hp)
  have nf : f ∉ frs X.stack := by
    intro z
    rw [hs] at z
    obtain ⟨e, me, q⟩ := List.mem_filterMap.mp z
    rcases List.mem_cons.mp me with rfl | me
    · rw [hfr] at q
      exact g3 (Option.some.inj q).symm
    · exact g4 (List.mem_filterMap.mpr ⟨e, me, q⟩)
  have rc : codeAny (model X.prog X.w) X.A (.call (.ref g) ⟨[.ref f], []⟩) (CR C8.CX0 X.stack X.prog X.w H2 s2 Q C8.E0) s2 := by
    refine run_ofS (N := Ng) (ps := [a]) (us := [.ref f]) (vs := [.ref f]) lk hcg Sg hr I2.env0 (hb s2 [.ref f] I2.kIn rfl) (.cons rfl .nil) rfl fun hr' => ?_
    obtain ⟨t', ht', hq'⟩ := hG f c s2 H2 Q (fun E H' Q' => t E σ H' Q') (fun W pn xe E p1 p2 tk hW => pe_act (i := 0) IX L g1 g2 nf (hbind _ _ _ _ _) tk hW hr' (fun A outer s H hr2 => hbody A outer s H E f c hr2) hNg hva hd hcd) hc ht
    exact ⟨t', ht'.nox, hq'⟩
  refine wpAny_call (codeAny_mono rc fun r s3 hq => ?_)
  cases r with
  | error e => exact (show False from hq).elim
  | ok fl =>
    cases fl with
    | ret u => exact I2.after hq
    | next => exact False.elim hq
    | brk => exact False.elim hq
    | cont => exact False.elim hq
end
end Lk

/-! part LkWkC -/
/-! Lk: y = "none"; try: a() / except x: y = ".." / ..; return y. -/
namespace Lk
open PySem PySem.Spec PyProof.Rows L2 Evl LamX
/-- which text a class gives -/
def whichX (K : PySem.W.Frag) (cls : Value) (H : Hp) (Q : VK) : List (Addr × Str) → Prop
  | [] => False
  | (C, z) :: r => ∃ b, PySem.W.exmOne K cls (.ref C) = some b ∧ (b = true → Q (.str z) H) ∧ (b = false → whichX K cls H Q r)
def TRefuse (K : PySem.W.Frag) (z0 : Str) (l : List (Addr × Str)) : (XK → Hp → VK → Prop) → Hp → VK → Prop := fun tl H Q => tl (fun cls _ H' => whichX K cls H' Q l) H fun _ H1 => Q (.str z0) H1
/-- the clauses of such a def, one after the other -/
inductive HdStr (mg : Str → Option Value) (sg : Scope) (y : Str) : List ExceptHandler → List (Addr × Str) → Prop
  | nil : HdStr mg sg y [] []
  | cons {e z : Str} {C : Addr} {j : Nat} {p1 p2 p3 p4 p5 : Pos} {hds : List ExceptHandler} {l : List (Addr × Str)} (hge : sg.names.lookup e = some .globalImplicit) (hme : mg e = some (.ref C)) (hde : (e == ("__debug__" : Str)) = false) (r : HdStr mg sg y hds l) :
      HdStr mg sg y (.ExceptHandler (some (.Name e p1)) none [.Assign [.Name y p2] (.Constant (.str z) j p3) p4] p5 :: hds) ((C, z) :: l)
def toMany (i : Nat) (l : List (Addr × Str)) : List (Value × (Addr → Value → Option Addr → TS)) := l.map fun x => (.ref x.1, fun _ _ _ => tAsg (tC (.str x.2)) (gName i))
section
variable {X : Cx}
theorem hd_many {Y : Cx} {sg : Scope} {y : Str} {i : Nat} (nd : Y.N.Nodup) (hi : Y.N[i]? = some y) (hy : Y.env.scope.names.lookup y = some .local) (hs : Y.env.scope = sg) : ∀ {hds : List ExceptHandler} {l : List (Addr × Str)}, HdStr Y.mg sg y hds l → HdsOk Y hds (toMany i l)
  | _, _, .nil => .nil
  | _, _, .cons hge hme hde r => .cons ⟨by show Y.env.scope.names.lookup _ = _; rw [hs]; exact hge, hde, .inl hme⟩
      (fun a oe cls d pn _ _ => pss_one (ps_set (X := Y.suite a ((a, oe) :: pn)) nd hi (.inl hy) pe_str rfl (.inr hy))) (hd_many nd hi hy hs r)
theorem which_many {K : PySem.W.Frag} {D : Ends} {cls : Value} {d : Option Addr} {σ : L2.St} {H : Hp} {Q : VK} {i : Nat} (k : ∀ z, Q (.str z) H → D.nx (σ.set i (some (.str z))) H) : ∀ {l : List (Addr × Str)}, whichX K cls H Q l → wMany K (fun _ _ _ _ => False) D (toMany i l) cls d σ H
  | [], h => h
  | (C, z) :: l, h => by
    obtain ⟨b, e, h1, h2⟩ := h
    exact ⟨b, e, fun hb _ _ => k z (h1 hb), fun hb => which_many k (h2 hb)⟩
theorem refuse_gives {Ng : List Str} {x a y q z0 : Str} {sg : Scope} {g : Addr} {cdg : Value} {j : Nat} {p2 p1 p3 p9 q1 q2 q3 q4 q5 : Pos} {h0 : ExceptHandler} {hds : List ExceptHandler} {l : List (Addr × Str)}
    (hNg : Ng = [a, y]) (hnd : Ng.Nodup) (hy : sg.names.lookup y = some .local) (hh : HdStr X.mg sg y (h0 :: hds) l) (hdb2 : (y == ("__debug__" : Str)) = false) (hcd2 : (y == ("__classdict__" : Str)) = false) :
    GivesTo X Ng x sg g cdg [.Assign [.Name y q1] (.Constant (.str z0) j q2) q3,
      .Try [.Expr (.Call (.Name a p1) [] [] p2) p3] (h0 :: hds) [] [] p9,
      .Return (some (.Name y q4)) q5] a q (TRefuse X.K z0 l) := by
  intro f c' s H Q tl act hc h
  subst hNg
  refine ⟨_, pss_cons (ps_set (i := 1) hnd rfl (.inl hy) pe_str)
    (pss_cons (ps_try_many (X := (cxOf C8.CX0 X.prog X.w X.K X.mg X.base [a, y] x sg g cdg X.A X.stack s H C8.E0).nox) (l := toMany 1 l)
      (tb := fun W D σ H => ∃ Ech : XK, (∀ cls d σ' H', σ'.length = 2 → Ech cls d H' → W cls d σ' H') ∧ σ[0]? = some (some (.ref f)) ∧ H c' = some (CodeO c' q) ∧ tl Ech H fun _ H1 => D.nx σ H1)
      rfl rfl L2.takes0 ?_ (hd_many hnd rfl hy rfl hh))
    (pss_one (ps_ret (pe_var (i := 1) rfl (.inl hy) hdb2 hcd2)))), ?_⟩
  · intro W pn xe tk _
    have tk' : Takes ((cxOf C8.CX0 X.prog X.w X.K X.mg X.base [a, y] x sg g cdg X.A X.stack s H C8.E0).tr pn xe) (fun cls d σ' H' => σ'.length = 2 → W cls d σ' H') := by
      rintro u s' ⟨a', B, sI, pins', σ', H', cls, d, eu, J', nb, up, sky, na, os, ag, w⟩
      exact tk u s' ⟨a', B, sI, pins', σ', H', cls, d, eu, J', nb, up, sky, na, os, ag, w J'.len⟩
    constructor
    intro pins s' σ H' D I h'
    obtain ⟨Ech, hW, h1, h2, h3⟩ := h'
    have hp := act (fun cls d σ' H' => σ'.length = 2 → W cls d σ' H') pn xe Ech p1 p2 tk' (fun cls d σ' H' e hl => hW cls d σ' H' hl e)
    exact (pss_one (ps_expr (pos := p3) hp)).run pins s' σ H' D I ⟨h1, h2, h3⟩
  · refine ⟨fun cls d H' => whichX X.K cls H' Q l, ?_, rfl, hc, ?_⟩
    · intro cls d σ' H' hl hw
      refine which_many (Q := Q) (i := 1) (σ := σ') (fun z hz => ?_) hw
      refine ⟨.str z, ?_, hz⟩
      match σ', hl with
      | [_, _], _ => rfl
    · have e : (fun (_ : V) (H1 : Hp) => Q (.str z0) H1) = fun _ H1 => tRet (tVar 1) { nx := fun _ H' => Q .non H', rt := Q } ((L2.start [a, y] [V.ref f]).set 1 (some (V.str z0))) H1 := by
        funext _ H1
        apply propext
        constructor
        · exact fun q => ⟨.str z0, rfl, q⟩
        · rintro ⟨v, ev, q⟩
          have ev' : some (some (V.str z0)) = some (some v) := ev
          cases ev'
          exact q
      have h2 : tl (fun cls _ H' => whichX X.K cls H' Q l) H fun _ H1 => Q (.str z0) H1 := h
      rw [e] at h2
      exact h2
end
end Lk

/-! part LkWkD -/
/-! Lk: x = [lambda: .., ..]; the rest knows the lambdas. -/
namespace Lk
open PySem PySem.Spec PyProof.Rows L2 Evl LamX
theorem LamAt.mono {X : Cx} {k : Nat} {P P' : List (Addr × Obj)} {f c : Addr} {t : XK → TE} (h : LamAt X k P f c t) (m : ∀ p ∈ P, p ∈ P') : LamAt X k P' f c t := by
  obtain ⟨params, body, sc, pm, ctv, hp, r⟩ := h
  exact ⟨params, body, sc, pm, ctv, m _ hp, r⟩
/-- the lambdas that stand in a list: their addresses, their code objects' addresses -/
inductive LamsAt (X : Cx) (k : Nat) (P : List (Addr × Obj)) (H : Hp) : List (XK → TE) → List (Addr × Addr) → Prop
  | nil : LamsAt X k P H [] []
  | cons {t : XK → TE} {f c : Addr} {ts : List (XK → TE)} {fs : List (Addr × Addr)} (h : LamAt X k P f c t) (hc : H c = some (CodeO c (X.env.qual ++ "<lambda>"))) (r : LamsAt X k P H ts fs) : LamsAt X k P H (t :: ts) ((f, c) :: fs)
theorem LamsAt.mono {X : Cx} {k : Nat} {P P' : List (Addr × Obj)} {H : Hp} {ts : List (XK → TE)} {fs : List (Addr × Addr)} (h : LamsAt X k P H ts fs) (m : ∀ p ∈ P, p ∈ P') : LamsAt X k P' H ts fs := by
  induction h with
  | nil => exact .nil
  | cons a b _ ih => exact .cons (a.mono m) b ih
theorem LamsAt.len {X : Cx} {k : Nat} {P : List (Addr × Obj)} {H : Hp} {ts : List (XK → TE)} {fs : List (Addr × Addr)} (h : LamsAt X k P H ts fs) : fs.length = ts.length := by
  induction h with
  | nil => rfl
  | cons _ _ _ ih => rw [List.length_cons, List.length_cons, ih]
/-- the lambdas as they are written -/
inductive LamsOk (X : Cx) (k : Nat) : List Expr → List (XK → TE) → Prop
  | nil : LamsOk X k [] []
  | cons {params : Arguments} {body : Expr} {sc : Scope} {lpos : Pos} {t : XK → TE} {es : List Expr} {ts : List (XK → TE)} (L : LamS X.env.scope sc) (hdef : defaultsOf params X.env = ([], []))
      (hbind : ∀ (q : Str) (cl : List (Str × Addr)) (pm cv ctv : Value), bindArgs (PySem.W.kla_fn "<lambda>" q params body sc cl pm cv ctv) ⟨[], []⟩ = pure [])
      (hbody : ∀ (A : Around) (outer : List Env) (s : Shared) (H : Hp) (E : XK) (f' c' : Addr), Room k (A.deeper (lamEnv X sc s.heap.objs.size f' c')) → PE (lamCx X A outer s H E sc f' c') body (t E)) (r : LamsOk X k es ts) :
      LamsOk X k (.Lambda params body sc lpos :: es) (t :: ts)
section
variable {X : Cx} {s : Shared} {σ : L2.St} {H : Hp}
theorem lams_run {T : List (Addr × Str)} {k : Nat} {c P : Addr} (hs : X.stack = X.env :: X.outer) (hfr : X.env.frame = some X.env.locals) (TB : TabB X.base X.mg c P) (hcode : X.env.code = .ref c) (hm : (P, X.env.qual ++ "<lambda>") ∈ T) (hu : ∀ p ∈ T, p.1 = P → p.2 = X.env.qual ++ "<lambda>") {es : List Expr} {ts : List (XK → TE)} (h : LamsOk X k es ts) :
    ∀ (pos : Pos) (pins : List (Addr × Obj)) (s : Shared) (H : Hp) (Q : List Value → Shared → Prop), Inv X pins σ H s → Tabs T H →
      (∀ (ps : List (Addr × Obj)) (fs : List (Addr × Addr)) (H1 : Hp) (s1 : Shared), Inv X (ps ++ pins) σ H1 s1 → ExtN H H1 → Tabs T H1 → LamsAt X k (ps ++ pins) H1 ts fs → Q (fs.map fun x => .ref x.1) s1) →
      wpAny (model X.prog X.w) X.A (spliced (backTo pos (starEach es X.env))) Q X.xe s := by
  induction h with
  | nil =>
    intro pos pins s H Q I hT q
    exact Calls.spliced_nil (q [] [] H s I (fun _ _ z _ => z) hT .nil)
  | @cons params body sc lpos t es ts L hdef hbind hbody r ih =>
    intro pos pins s H Q I hT q
    show wpAny _ _ (spliced ((false, eval (.Lambda params body sc lpos) X.env) :: backTo pos (starEach es X.env))) _ _ s
    refine Calls.spliced_cons (lam_make2 I TB hcode hm hu hT hdef (L.has I.ok) fun f c' pm' ctv H1 s' I1 eN T1 hf hfn hfr' hco => ?_)
    have nL : f ≠ X.env.locals := fun z => hfr' (by rw [hs]; exact List.mem_filterMap.mpr ⟨X.env, List.mem_cons_self, by rw [hfr, z]⟩)
    have nF : f ∉ X.fs := fun z => hfr' (by
      obtain ⟨e, he, y⟩ := List.mem_filterMap.mp z
      rw [hs]
      exact List.mem_filterMap.mpr ⟨e, List.mem_cons_of_mem _ he, y⟩)
    have I2 : Inv X ((f, PySem.W.kla_obj "<lambda>" (X.env.qual ++ "<lambda>") params body sc (cloFrom X.env.cells sc.names []) pm' c' ctv) :: pins) σ H1 s' := I1.pins_of fun p hp => by
      rcases List.mem_cons.mp hp with rfl | hp
      · exact ⟨hf, hfn, nL, nF, fun v z => by cases z⟩
      · exact I1.pin p (List.mem_append_right _ hp)
    refine thn (ih pos _ s' H1 (fun us s2 => ∃ ps fs H2, us = fs.map (fun x : Addr × Addr => Value.ref x.1) ∧ Inv X (ps ++ pins) σ H2 s2 ∧ ExtN H1 H2 ∧ Tabs T H2 ∧ LamsAt X k (ps ++ pins) H2 (t :: ts) ((f, c') :: fs)) I2 T1 fun ps fs H2 s2 J eN2 T2 la => ?_) fun us s2 z => ?_
    · have em : ps ++ ((f, PySem.W.kla_obj "<lambda>" (X.env.qual ++ "<lambda>") params body sc (cloFrom X.env.cells sc.names []) pm' c' ctv) :: pins) = (ps ++ [(f, PySem.W.kla_obj "<lambda>" (X.env.qual ++ "<lambda>") params body sc (cloFrom X.env.cells sc.names []) pm' c' ctv)]) ++ pins := by simp
      rw [em] at J la
      exact ⟨_, fs, H2, rfl, J, eN2, T2, .cons ⟨params, body, sc, pm', ctv, by simp, L, hbind, hbody⟩ (eN2 _ _ hco fun ps' z => codeO_ne ps' z) la⟩
    · obtain ⟨ps, fs, H2, rfl, J, eN2, T2, la⟩ := z
      exact q ps _ H2 s2 J (fun b o z n => eN2 b o (eN b o z n) n) T2 la
/-- what stands behind x = [lambda: .., ..] -/
def tWorks (X : Cx) (k : Nat) (T : List (Addr × Str)) (ts : List (XK → TE)) (i : Nat) (tb : List (Addr × Obj) → TS) : TS := fun D σ H =>
  Tabs T H ∧ ∀ (P : List (Addr × Obj)) (fs : List (Addr × Addr)) (H1 : Hp), ExtN H H1 → Tabs T H1 → LamsAt X k P H1 ts fs → ∀ L, H1 L = none → tb P D (σ.set i (some (.ref L))) (upd H1 L (.lst (fs.map fun x => .ref x.1)))
theorem pss_works {T : List (Addr × Str)} {k i : Nat} {c Pt : Addr} {x : Str} {es : List Expr} {ts : List (XK → TE)} {tail : List Stmt} {tb : List (Addr × Obj) → TS} {p1 p2 p3 : Pos} (hs : X.stack = X.env :: X.outer) (hfr : X.env.frame = some X.env.locals) (TB : TabB X.base X.mg c Pt) (hcode : X.env.code = .ref c) (hm : (Pt, X.env.qual ++ "<lambda>") ∈ T)
    (hu : ∀ p ∈ T, p.1 = Pt → p.2 = X.env.qual ++ "<lambda>") (h : LamsOk X k es ts) (hl : ts.length ≤ 1000) (hN : X.N.Nodup) (hi : X.N[i]? = some x) (hx : X.env.scope.names.lookup x = some .local) (hb : ∀ P, PSs (X.tr P X.xe) tail (tb P))
    (hsw : swapsWith (.List es p2) (some (.Name x p1)) p3.line X.env = pure false := by rfl) : PSs X (.Assign [.Name x p1] (.List es p2) p3 :: tail) (tWorks X k T ts i tb) := by
  refine ⟨fun pins s σ H D I z => ?_⟩
  obtain ⟨hT, z⟩ := z
  refine wpAny_execs_cons (wpAny_Assign_Name (wpAny_List_spliced (lams_run hs hfr TB hcode hm hu h p2 pins s H _ I hT fun ps fs H1 s1 I1 eN T1 la => ⟨by rw [List.length_map, la.len]; exact Nat.le_trans hl (by decide), ?_⟩)) hsw)
  have hf : H1 s1.heap.objs.size = none := I1.hok.fresh (Nat.le_refl _)
  have rv : Vals (fs.map fun x : Addr × Addr => V.ref x.1) (fs.map fun x : Addr × Addr => Value.ref x.1) := by
    clear la z
    induction fs with
    | nil => exact .nil
    | cons a r ih => exact .cons rfl ih
  have I2 := I1.laid (t' := s1.toks) (o := .lst (fs.map fun x : Addr × Addr => V.ref x.1)) (fun b u e => Heap.get?_push_of_some _ e) (Nat.le_refl _) ⟨by rw [List.length_map, la.len]; exact Nat.le_trans hl (by decide), _, 0, rv, Heap.get?_push_size _ rfl⟩
  refine store_ok I2 hN hi (.inl hx) (v := .ref s1.heap.objs.size) rfl (fun s2 I3 => ?_) (.inr hx)
  refine wpAny_mono ((hb (X.pn ++ (ps ++ pins))).run [] s2 _ _ D (I3.toTry _) (z (X.pn ++ (ps ++ pins)) fs H1 eN T1 ?_ _ hf)) (fun f s3 q => ?_) fun _ _ e => e
  · exact la.mono fun p hp => List.mem_append_right _ hp
  · have drop : ∀ {σ' : L2.St} {H' : Hp}, Inv (X.tr (X.pn ++ (ps ++ pins)) X.xe) [] σ' H' s3 → Inv X pins σ' H' s3 := fun J =>
      (J.ofTry I.ok).pins_of fun p hp => (J.ofTry I.ok).pin p (List.mem_append_right _ (List.mem_append_right _ hp))
    cases f with
    | next =>
      obtain ⟨σ', H', J, y⟩ := q
      exact ⟨σ', H', drop J, y⟩
    | brk =>
      obtain ⟨σ', H', J, y⟩ := q
      exact ⟨σ', H', drop J, y⟩
    | cont =>
      obtain ⟨σ', H', J, y⟩ := q
      exact ⟨σ', H', drop J, y⟩
    | ret u =>
      obtain ⟨v, σ', H', J, r, y⟩ := q
      exact ⟨v, σ', H', drop J, r, y⟩
end
end Lk

/-! part LkWkE -/
/-! Lk: [f(y) for y in x], x the list of lambdas: the rule, its reading unrolled. -/
namespace Lk
open PySem PySem.Spec PyProof.Rows L2 Evl LamX
section
variable {X : Cx}
/-- the reading of [f(y) for y in x] -/
def tLW (X : Cx) (k : Nat) (P : List (Addr × Obj)) (TT : (XK → Hp → VK → Prop) → Hp → VK → Prop) (i w : Nat) : TE := fun σ H Q => tLc (iList X.K (tVar i)) (gName w) tYes (tWork X k P σ TT w) [w] σ H Q
theorem pe_lcWork {TT : (XK → Hp → VK → Prop) → Hp → VK → Prop} {x a y z : Str} {g : Addr} {k i w : Nat} {pg : Arguments} {bg : List Stmt} {sg : Scope} {dV kV doc pm cdv ct oc : Value} {an od : Option Addr} {osl : Array (Option Value)} {Ng : List Str}
    {scope : Scope} {p py pos tpos ipos lpos : Pos} {P : List (Addr × Obj)} (hP : ∀ p ∈ P, p ∈ X.pn) (hs : X.stack = X.env :: X.outer) (hfr : X.env.frame = some X.env.locals)
    (hx : ∀ (s1 : Shared) (H1 : Hp) (C : Addr) (cl : List (Str × Addr)) (fp : List Addr), Gl (X.blk s1 H1 scope (compEnvC scope cl C X.env) fp) x) (hm : X.mg x = some (.ref g)) (hk : PySem.W.keepIn X.K (.ref g) = true)
    (lk : X.K.lookup g = some ⟨oc, od, .func (PySem.W.fnOf x x pg bg sg dV kV doc pm an cdv ct), osl⟩) (hcg : PySem.W.codeIn X.K cdv x = true) (hb : L2.Binds X.K (PySem.W.fnOf x x pg bg sg dV kV doc pm an cdv ct) [a] []) (Sg : FnScope Ng [a] sg) (hNg : Ng[0]? = some a) (hva : Vis sg a)
    (hG : GivesTo X Ng x sg g cdv bg a (X.env.qual ++ "<lambda>") TT) (hr : Room (k + 2) X.A) (hw : X.N[w]? = some y) (hwv : ∀ C cl, Vis (compEnvC scope cl C X.env).scope y)
    (hdb : (x == ("__debug__" : Str)) = false) (hd : (a == ("__debug__" : Str)) = false) (hcd : (a == ("__classdict__" : Str)) = false) (hdy : (y == ("__debug__" : Str)) = false) (hcy : (y == ("__classdict__" : Str)) = false)
    (calm : X.calm = true) (nd : X.N.Nodup) (bo : BlkOk X.N X.env.scope scope [(y, w)]) (hi : X.N[i]? = some z) (hiv : Vis X.env.scope z) (hdz : (z == ("__debug__" : Str)) = false) (hcz : (z == ("__classdict__" : Str)) = false)
    (hg : ∀ (s1 : Shared) (H1 : Hp) (C : Addr) (cl : List (Str × Addr)) (fp : List Addr), PG (X.blk s1 H1 scope (compEnvC scope cl C X.env) fp) (.Name y tpos) (gName w)) :
    PE X (.ListComp (.Call (.Name x p) [.Name y py] [] pos) [⟨.Name y tpos, .Name z ipos, [], 0⟩] scope lpos) (tLW X k P TT i w) := by
  refine ⟨fun pins s σ H Q I h => ?_⟩
  rw [eval_ListComp]
  refine lc_with calm nd I (pi_list (pe_var hi hiv hdz hcz)) bo hg (el_work (P := P) (fun p hp => List.mem_append_left _ (hP p hp)) hs hfr hx hm hk lk hcg hb Sg hNg hva hG hr hw hwv hdb hd hcd hdy hcy) (fun _ => rfl) h fun D C s' m H' I' q hn f => ⟨m, hn, fun h2 sb => ?_⟩
  obtain ⟨f0, f1, f2, f3, f4, f5⟩ := f
  exact ⟨.ref D, H', I'.turned (t' := s'.toks) (fun b o hb e => (sb.2 b hb).trans e) f0 f1 f3 f4 f5, rfl, q⟩
end
section
variable (K : PySem.W.Frag) (te : TE) (σ : L2.St) (w : Nat) (L D : Addr) (Q : VK) (all : List V)
/-- such a comprehension, turn by turn -/
def Unr : Nat → Nat → Hp → Prop
  | _, 0, H => SqL K H L all ∧ Q (.ref D) H
  | i, m + 1, H => SqL K H L all ∧ ∃ x, all[i]? = some x ∧ te (σ.set w (some x)) H fun y H4 => ∃ acc, H4 D = some (.lst acc) ∧ acc.length < sizeLine ∧ Unr (i + 1) m (upd H4 D (.lst (acc ++ [y])))
end
theorem lc_unr {K : PySem.W.Frag} {te : TE} {σ : L2.St} {H : Hp} {i w : Nat} {L : Addr} {Q : VK} {all : List V} (hi : σ[i]? = some (some (.ref L))) (h0 : SqL K H L all) (h : ∀ D, H D = none → Unr K te (L2.wipe σ [w]) w L D Q all 0 all.length (upd H D (.lst []))) :
    tLc (iList K (tVar i)) (gName w) tYes te [w] σ H Q := by
  refine ⟨.ref L, hi, L, rfl, ⟨all, h0⟩, fun D hD => ?_⟩
  refine ⟨fun j m H' => j + m = all.length ∧ Unr K te (L2.wipe σ [w]) w L D Q all j m H', ⟨all.length, by omega, h D hD⟩, ?_⟩
  rintro j m H' ⟨jm, u⟩
  cases m with
  | zero => exact .inl ⟨⟨all, u.1, by omega⟩, u.2⟩
  | succ m =>
    obtain ⟨u1, x, ex, u2⟩ := u
    refine .inr ⟨⟨all, x, u1, ex⟩, fun H2 => Unr K te (L2.wipe σ [w]) w L D Q all (j + 1) m H2, fun H2 z => ⟨m, by omega, by omega, z⟩, ?_⟩
    rintro x' H2 ⟨rfl, q⟩
    have e := q all u1
    rw [ex] at e
    obtain rfl := Option.some.inj e
    refine ⟨?_, ?_⟩
    · show ((σ.set w none).set w (some x)).set w none = σ.set w none
      rw [List.set_set, List.set_set]
    · exact u2
end Lk

/-! part MkWk -/
/-! Mk: a list of lambdas, each called and its end named. -/
namespace Mk
open PySem PySem.Spec PyProof.Rows L2 Evl Lk LamX
/-- which text a class gives -/
def whichM (K : PySem.W.Frag) (C : Addr) (z : Str) : List (Addr × Str) → Prop
  | [] => False
  | (D, y) :: r => ∃ b, PySem.W.exmOne K (.ref C) (.ref D) = some b ∧ (b = true → z = y) ∧ (b = false → whichM K C z r)
theorem which_of {K : PySem.W.Frag} {C : Addr} {z : Str} {H : Hp} {Q : VK} (q : Q (.str z) H) : ∀ {l : List (Addr × Str)}, whichM K C z l → whichX K (.ref C) H Q l
  | [], h => h
  | (D, y) :: l, h => by
    obtain ⟨b, e, h1, h2⟩ := h
    exact ⟨b, e, fun hb => by rw [← h1 hb]; exact q, fun hb => which_of q (h2 hb)⟩
def mRf (K : PySem.W.Frag) (z0 : Str) (hs : List (Addr × Str)) (w : Nat) : List (Den × MA) → S → (List Str → S → Prop) → Prop
  | [], s, Q => Q [] s
  | (G, m) :: r, s, Q => mCall G m s (fun _ s1 => mRf K z0 hs w r (wipeS [w] s1) fun l s2 => Q (z0 :: l) s2) fun x s1 => ∃ z, whichM K x.1 z hs ∧ mRf K z0 hs w r (wipeS [w] s1) fun l s2 => Q (z :: l) s2
def mWks (K : PySem.W.Frag) (z0 : Str) (hs : List (Addr × Str)) (cs : List (Den × MA)) (w : Nat) : ME := fun s Q _ => (∀ v ∈ [w], v ∉ s.bor) ∧ mRf K z0 hs w cs (wipeS [w] s) fun l s1 => Q (.val (.lst (l.map PyData.str))) s1
inductive CallsOk (K : PySem.W.Frag) (T : List (Addr × Str)) : List (XK → TE) → List (Den × MA) → Prop
  | nil : CallsOk K T [] []
  | cons {G : Den} {ta : TA} {ma : MA} {ts : List (XK → TE)} {cs : List (Den × MA)} (h : ∀ W, SimA K T W ta ma) (r : CallsOk K T ts cs) : CallsOk K T ((fun E => tCallS (spM K T G) (WE fun cls d _ H => E cls d H) ta) :: ts) ((G, ma) :: cs)
section
variable {K : PySem.W.Frag} {T : List (Addr × Str)} {X : Cx} {k i w : Nat} {P : List (Addr × Obj)} {z0 : Str} {hs : List (Addr × Str)} {σ0 σ : L2.St} {H : Hp} {s : S} {R : Ad} {fps : Nat → Ad} {L : Addr} {Qm : Rs → S → Prop} {Xm : XM}
theorem lams_hid {H2 : Hp} {W W2 : Ad} (hw : ∀ a, W a → MutL (H a)) (g : Gr W H W2 H2) {ts : List (XK → TE)} {fs : List (Addr × Addr)} (la : LamsAt X k P H ts fs) : LamsAt X k P H2 ts fs := by
  induction la with
  | nil => exact .nil
  | cons a b _ ih =>
    refine .cons a ?_ ih
    have hh := g _ _ (hid_some.mpr ⟨b, (fun z => by have y := hw _ z; rw [b] at y; exact mut_code (a := 0) y), fun ps z => codeO_ne ps z⟩)
    exact (hid_some.mp hh).1
theorem dps_strs {F : Hp} : ∀ zs : List Str, DqAll K F (zs.map V.str) (zs.map PyData.str)
  | [] => .nil
  | z :: zs => .cons (.str z) (dps_strs zs)
theorem calls_len {ts : List (XK → TE)} {cs : List (Den × MA)} (co : CallsOk K T ts cs) : cs.length = ts.length := by
  induction co with
  | nil => rfl
  | cons _ _ ih => rw [List.length_cons, List.length_cons, ih]
theorem calls_at {ts : List (XK → TE)} {cs : List (Den × MA)} {fs : List (Addr × Addr)} (co : CallsOk K T ts cs) (la : LamsAt X k P H ts fs) : ∀ j, j < fs.length →
    ∃ f c G ta ma, fs[j]? = some (f, c) ∧ LamAt X k P f c (fun E => tCallS (spM K T G) (WE fun cls d _ H => E cls d H) ta) ∧ H c = some (CodeO c (X.env.qual ++ "<lambda>")) ∧ cs.drop j = (G, ma) :: cs.drop (j + 1) ∧ ∀ W, SimA K T W ta ma := by
  induction co generalizing fs with
  | nil =>
    intro j hj
    cases la
    exact absurd hj (Nat.not_lt_zero _)
  | @cons G ta ma ts cs h r ih =>
    intro j hj
    cases la with
    | @cons t f c ts fs a b la =>
    cases j with
    | zero => exact ⟨f, c, G, ta, ma, rfl, a, b, rfl, h⟩
    | succ j =>
      obtain ⟨f', c', G', ta', ma', e1, e2, e3, e4, e5⟩ := ih la j (by simpa using hj)
      exact ⟨f', c', G', ta', ma', e1, e2, e3, e4, e5⟩
theorem sim_wk (hX : X.K = K) {ts : List (XK → TE)} {fs : List (Addr × Addr)} {cs : List (Den × MA)} (I : Iv K T σ0 σ H s R fps) (hL : H L = some (.lst (fs.map fun x => .ref x.1))) (nL : ¬ Wf R fps L) (la : LamsAt X k P H ts fs) (co : CallsOk K T ts cs)
    (hi : σ[i]? = some (some (.ref L))) (hw : w < σ.length) (hiw : i ≠ w) (hl : cs.length ≤ 1000) (hm : mWks K z0 hs cs w s Qm Xm) (Q : VK)
    (hQ : ∀ v H' s' r fp fps', Go K T σ0 H s R fps σ H' s' (alt R fp) fps' → RAt K (hid (Wf (alt R fp) fps') H') H' s'.n σ v r fp → (∀ a, fp a → ¬ R a) → Qm r s' → Q v H') :
    tLW X k P (TRefuse X.K z0 hs) i w σ H Q := by
  subst hX
  obtain ⟨hb, hm⟩ := hm
  have sq : SqL X.K H L (fs.map fun x => .ref x.1) := .inl (.inl hL)
  refine lc_unr hi sq fun D hD => ?_
  obtain ⟨fp, g2, hA, hfp⟩ := res_go (v := .ref D) (H' := upd H D (.lst [])) (o := .lst []) I (.lst hD .nil)
  cases hA with
  | lst hA hdA hz =>
  have zD : fp D := (hz D).mpr rfl
  have nR : ¬ R D := fun z => by
    have e := I.liv D z
    rw [hD] at e; exact e
  have g3 := g2.wipe (vs := [w]) hb
  have bo : ∀ {s' : S}, s'.bor = s.bor → ∀ v ∈ [w], v ∉ s'.bor := fun {s'} e v hv => by
    rw [e]
    exact hb v hv
  have hidL : hid (Wf R fps) H L = some (.lst (fs.map fun x => .ref x.1)) := hid_some.mpr ⟨hL, nL, fun ps z => by cases z⟩
  have key : ∀ (m j : Nat) (H2 : Hp) (s2 : S) (fps2 : Nat → Ad) (zs : List Str), Go X.K T σ0 H s R fps (L2.wipe σ [w]) H2 s2 (alt R fp) fps2 → H2 D = some (.lst (zs.map V.str)) → zs.length = j → j + m = fs.length →
      mRf X.K z0 hs w (cs.drop j) s2 (fun l s1 => Qm (.val (.lst ((zs ++ l).map PyData.str))) s1) → Unr X.K (tWork X k P σ (TRefuse X.K z0 hs) w) (L2.wipe σ [w]) w L D Q (fs.map fun x => .ref x.1) j m H2 := by
    intro m
    induction m with
    | zero =>
      intro j H2 s2 fps2 zs g hD2 sl jm q
      have hh := (hid_some.mp (g.gr _ _ hidL)).1
      refine ⟨.inl (.inl hh), ?_⟩
      rw [List.drop_eq_nil_of_le (by have := calls_len co; have := la.len; omega)] at q
      have q' : Qm (.val (.lst (zs.map PyData.str))) s2 := by
        have q2 : Qm (.val (.lst ((zs ++ []).map PyData.str))) s2 := q
        rwa [List.append_nil] at q2
      exact hQ (.ref D) H2 s2 _ fp fps2 (g.unwipe (bo g.bo)) (.val (.lst hD2 (dps_strs zs) hz)) (fun a z y => nR (by rw [(hz a).mp z] at y; exact y)) q'
    | succ m ih =>
      intro j H2 s2 fps2 zs g hD2 sl jm q
      have hh := (hid_some.mp (g.gr _ _ hidL)).1
      obtain ⟨f, c, G, ta, ma, e1, e2, e3, e4, e5⟩ := calls_at co (lams_hid (fun a z => I.live z) g.gr la) j (by omega)
      refine ⟨.inl (.inl hh), .ref f, by rw [List.getElem?_map, e1]; rfl, ?_⟩
      rw [e4] at q
      have G6 := g.unwipe (bo g.bo)
      have next : ∀ (z : Str) (H3 : Hp) (s3 : S) (fps3 : Nat → Ad), Go X.K T σ0 H s R fps σ H3 s3 (alt R fp) fps3 → H3 D = some (.lst (zs.map V.str)) → mRf X.K z0 hs w (cs.drop (j + 1)) (wipeS [w] s3) (fun l s1 => Qm (.val (.lst ((zs ++ z :: l).map PyData.str))) s1) →
          ∃ acc, H3 D = some (.lst acc) ∧ acc.length < sizeLine ∧ Unr X.K (tWork X k P σ (TRefuse X.K z0 hs) w) (L2.wipe σ [w]) w L D Q (fs.map fun x => .ref x.1) (j + 1) m (upd H3 D (.lst (acc ++ [V.str z]))) := by
        intro z H3 s3 fps3 g8 d8 q8
        refine ⟨_, d8, sz_lt (by rw [List.length_map]; have := calls_len co; have := la.len; omega), ?_⟩
        obtain ⟨g9, _⟩ := mutR_go (vs' := zs.map V.str ++ [V.str z]) g8 d8 zD nR
        have g10 := g9.wipe (vs := [w]) (bo g9.bo)
        refine ih (j + 1) _ _ _ (zs ++ [z]) g10 (by rw [upd_same, List.map_append]; rfl) (by simp [sl]) (by omega) ?_
        simpa using q8
      refine ⟨f, c, _, List.getElem?_set_self (by rw [L2.wipe_length]; exact hw), e2, e3, ?_⟩
      refine (sim_call (W := fun cls d _ H' => whichX X.K cls H' (fun y H4 => ∃ acc, H4 D = some (.lst acc) ∧ acc.length < sizeLine ∧ Unr X.K (tWork X k P σ (TRefuse X.K z0 hs) w) (L2.wipe σ [w]) w L D Q (fs.map fun x => .ref x.1) (j + 1) m (upd H4 D (.lst (acc ++ [y])))) hs) (G := G) (e5 _)) σ0 σ H2 s2 (alt R fp) fps2 G6.iv _ _ q (fun x H3 s3 fps3 g3 hx d hd => ?_) _ fun v H3 s3 r fp3 fps3 g3 hr nR3 q3 => ?_
      · obtain ⟨z, w1, w2⟩ := hx
        exact which_of (next z H3 s3 fps3 (G6.trans g3) ((g3.kp D (.inr zD)).trans hD2) w2) w1
      · have g4 := g3.drop (R2 := alt R fp) (fun _ z => z) fun _ z => .inl z
        exact next z0 H3 s3 fps3 (G6.trans g4) ((g3.kp D (.inr zD)).trans hD2) q3
  rw [List.length_map]
  exact key fs.length 0 _ _ _ [] g3 upd_same rfl (by omega) hm
end
end Mk

/-! part MkWkB -/
/-! Mk: the statements x = [lambda: .., ..]; if [f(y) for y in x] != [..]: .. -/
namespace Mk
open PySem PySem.Spec PyProof.Rows L2 Evl Lk LamX
section
variable (K : PySem.W.Frag) (T : List (Addr × Str)) (W : WX) (σ0 σ : L2.St) (H : Hp) (s : S) (R : Ad) (fps : Nat → Ad)
/-- a reading at one state -/
def PtE (te : TE) (m : ME) : Prop := ∀ Qm Xm, m s Qm Xm → XOk K T W σ0 σ H s R fps Xm → ∀ Q : VK,
  (∀ v H' s' r fp fps', Go K T σ0 H s R fps σ H' s' (alt R fp) fps' → RAt K (hid (Wf (alt R fp) fps') H') H' s'.n σ v r fp → (∀ a, fp a → ¬ R a) → Qm r s' → Q v H') → te σ H Q
def PtA (ta : TA) (m : MA) : Prop := ∀ Qm Xm, m s Qm Xm → XOk K T W σ0 σ H s R fps Xm → ∀ Q : List V → Hp → Prop,
  (∀ vs H' s' rs l fps', Go K T σ0 H s R fps σ H' s' (alt R (AnyF l)) fps' → RAts K (hid (Wf (alt R (AnyF l)) fps') H') H' s'.n σ vs rs l → Apart l → (∀ a, AnyF l a → ¬ R a) → Qm rs s' → Q vs H') → ta σ H Q
end
section
variable {K : PySem.W.Frag} {T : List (Addr × Str)} {W : WX} {σ0 σ : L2.St} {H : Hp} {s : S} {R : Ad} {fps : Nat → Ad}
theorem pt_consE {te : TE} {ta : TA} {m : ME} {r : MA} (h : PtE K T W σ0 σ H s R fps te m) (hr : SimA K T W ta r) : PtA K T W σ0 σ H s R fps (tCons te ta) (mCons m r) := by
  intro Qm Xm hm hx Q hQ
  refine h _ Xm hm hx _ fun v H1 s1 x fp fps1 g hv nR q => ?_
  refine hr σ0 σ H1 s1 _ fps1 g.iv _ Xm q (hx.go g) _ fun vs H2 s2 xs l fps2 g2 hvs ap nR2 q2 => ?_
  have e : alt (alt R fp) (AnyF l) = alt R (AnyF (fp :: l)) := by rw [anyF_cons, alt_assoc]
  have g3 := g.trans g2
  rw [e] at g3 hvs
  refine hQ (v :: vs) H2 s2 (x :: xs) (fp :: l) fps2 g3 (.cons ?_ hvs) ⟨fun a q z => nR2 a z (.inr q), ap⟩ (fun a z y => ?_) q2
  · have g2' := g2.gr
    rw [e] at g2'
    exact hv.keep g2' (fun a q => g2.kp a (.inr q)) g2.le
  · rw [anyF_cons] at z
    rcases z with z | z
    · exact nR a z y
    · exact nR2 a z (.inl y)
theorem pt_cbE {rr : List V → Hp → VK → Prop} {f : List PyData → (O → Prop) → Prop} {ta : TA} {m : MA} (hr : PSim K rr f) (ha : PtA K T W σ0 σ H s R fps ta m) : PtE K T W σ0 σ H s R fps (tCB rr ta) (mCB f m) := by
  intro Qm Xm hm hx Q hQ
  refine ha _ Xm hm hx _ fun vs H1 s1 rs l fps1 g hrs ap nR q => ?_
  split at q
  · rename_i ds e
    refine hr _ H1 vs ds _ Q hid_ex (rds_at g.iv hrs e) q fun v H2 o r qo => ?_
    obtain ⟨fp, g2, ho, hn⟩ := res_go g.iv r
    have nA : ∀ a, fp a → ¬ R a ∧ ¬ AnyF l a := fun a z => by
      have hf := hn a z
      constructor
      · intro y
        have e := g.iv.liv a (.inl y)
        rw [hf] at e; exact e
      · intro y
        have e := g.iv.liv a (.inr y)
        rw [hf] at e; exact e
    have g3 := (g.trans g2).drop (R2 := alt R fp) (fun _ z => .inl z) (fun a z => z.imp (fun y => .inl y) id)
    refine hQ v H2 s1 (.val o) fp fps1 g3 (.val (ho.keep (gr_sub fun a z => z.imp (fun y => y.imp (fun w => .inl w) id) id) (fun _ _ => rfl) (Nat.le_refl _))) (fun a z => (nA a z).1) qo
  · exact q.elim
theorem pt_opE {r : R2} {f : PyData → PyData → FO} {ta tb : TE} {a b : ME} (h : PS2 K r f) (ha : PtE K T W σ0 σ H s R fps ta a) (hb : SimE K T W tb b) : PtE K T W σ0 σ H s R fps (tOp r ta tb) (mOp f a b) :=
  (pt_cbE (psim2 h) (pt_consE ha (sim_cons hb sim_nil)) : PtE K T W σ0 σ H s R fps (tCB (lift2 r) (tCons ta (tCons tb tNil))) (mOp f a b))
theorem works_go {L i : Nat} {H1 : Hp} {o : HO} (I : Iv K T σ0 σ H s R fps) (eN : ExtN H H1) (T1 : Tabs T H1) (hL : H1 L = none) (hb : i ∉ s.bor) :
    ∃ fps', Go K T σ0 H s R fps (σ.set i (some (.ref L))) (upd H1 L o) ⟨s.env.set i none, s.n, s.bor⟩ R fps' ∧ ¬ Wf R fps' L := by
  have lv : ∀ a, MutL (H a) → H1 a = H a := fun a z => by
    cases q : H a with
    | none => rw [q] at z; exact z.elim
    | some o => exact eN a o q fun ps y => by rw [q, y] at z; exact z
  have nL : ∀ a, MutL (H a) → a ≠ L := fun a z y => by
    have e := lv a z
    rw [y, hL] at e
    rw [y, ← e] at z
    exact z
  have keep : ∀ a, MutL (H a) → (upd H1 L o) a = H a := fun a z => (upd_ne (nL a z)).trans (lv a z)
  have g : Gr (Wf R fps) H (Wf R fun j => if j = i then nol else fps j) (upd H1 L o) := gr_of (fun a u h _ t => by
    have e1 := eN a u h t
    rw [upd_ne (show a ≠ L from fun y => by rw [y, hL] at e1; cases e1)]
    exact e1) fun a u h n z => n (z.imp id fun ⟨j, y⟩ => ⟨j, by
      have y2 : (if j = i then nol else fps j) a := y
      by_cases e : j = i
      · rw [if_pos e] at y2; exact y2.elim
      · rw [if_neg e] at y2; exact y2⟩)
  refine ⟨fun j => if j = i then nol else fps j, ⟨⟨by simp [I.len], fun j u e => ?_, fun j e a z => ?_, fun j l a z y => ?_, fun j a z => ?_, fun a z => ?_, tabs_new T1 hL, fun j hj => ?_⟩, fun a z => keep a (I.liv a z), g, rfl, Nat.le_refl _, fun _ z => z⟩, ?_⟩
  · by_cases q : j = i
    · subst q
      have e2 : (s.env.set j none)[j]? = some (some u) := e
      rw [List.getElem?_set] at e2
      split at e2
      · split at e2 <;> cases e2
      · rename_i h; exact absurd rfl h
    · have e2 : (s.env.set i none)[j]? = some (some u) := e
      rw [List.getElem?_set_ne (Ne.symm q)] at e2
      obtain ⟨v, h1, h2⟩ := I.at_ j u e2
      refine ⟨v, by rw [List.getElem?_set_ne (Ne.symm q)]; exact h1, ?_⟩
      have e3 : (if j = i then nol else fps j) = fps j := if_neg q
      rw [e3]
      exact h2.keep g (fun a z => keep a (I.live (.inr ⟨j, z⟩))) (Nat.le_refl _)
  · have z2 : (if j = i then nol else fps j) a := z
    by_cases q : j = i
    · rw [if_pos q] at z2; exact z2
    · rw [if_neg q] at z2
      refine I.emp j (fun u e2 => e u ?_) a z2
      show (s.env.set i none)[j]? = some (some u)
      rw [List.getElem?_set_ne (Ne.symm q)]
      exact e2
  · have z2 : (if j = i then nol else fps j) a := z
    have y2 : (if l = i then nol else fps l) a := y
    by_cases q : j = i
    · rw [if_pos q] at z2; exact z2.elim
    · by_cases q2 : l = i
      · rw [if_pos q2] at y2; exact y2.elim
      · rw [if_neg q] at z2
        rw [if_neg q2] at y2
        exact I.dis j l a z2 y2
  · have z2 : (if j = i then nol else fps j) a := z
    by_cases q : j = i
    · rw [if_pos q] at z2; exact z2.elim
    · rw [if_neg q] at z2
      exact I.disR j a z2
  · rw [keep a (I.liv a z)]
    exact I.liv a z
  · have q : j ≠ i := fun y => hb (y ▸ hj)
    rw [List.getElem?_set_ne (Ne.symm q)]
    exact I.bor j hj
  · intro z
    have m : MutL (H L) := by
      rcases z with z | ⟨j, z⟩
      · exact I.liv L z
      · have z2 : (if j = i then nol else fps j) L := z
        by_cases q : j = i
        · rw [if_pos q] at z2; exact z2.elim
        · rw [if_neg q] at z2
          exact I.live (.inr ⟨j, z2⟩)
    exact nL L m rfl
theorem lams_upd {X : Cx} {k : Nat} {P : List (Addr × Obj)} {L : Addr} {H1 : Hp} {o : HO} (hL : H1 L = none) {ts : List (XK → TE)} {fs : List (Addr × Addr)} (la : LamsAt X k P H1 ts fs) : LamsAt X k P (upd H1 L o) ts fs := by
  induction la with
  | nil => exact .nil
  | @cons t f c ts fs a b _ ih => exact .cons a (by rw [upd_ne (show c ≠ L from fun y => by rw [y, hL] at b; cases b)]; exact b) ih
/-- x = [lambda: .., ..]; if .. over x ..: ..; the rest -/
def mWorks (i w : Nat) (mt : MT) (ma mb mr : MS) : MS := fun s k => i ∉ s.bor ∧ i < s.env.length ∧ w < s.env.length ∧ mSeq (mIf mt ma mb) mr ⟨s.env.set i none, s.n, s.bor⟩ k
theorem sim_works {X : Cx} {W : WX} {k i w : Nat} {z0 : Str} {hs : List (Addr × Str)} {ts : List (XK → TE)} {cs : List (Den × MA)} {r : R2} {f : PyData → PyData → FO} {t2 : TE} {m2 : ME} {ta tb tr : TS} {ma mb mr : MS} (hX : X.K = K) (co : CallsOk K T ts cs) (hl : cs.length ≤ 1000) (hiw : i ≠ w) (pe : PS2 K r f)
    (h2 : SimE K T W t2 m2) (ha : SimS K T W ta ma) (hb : SimS K T W tb mb) (hr : SimS K T W tr mr) :
    SimS K T W (tWorks X k T ts i fun P => tSeq (tIfS (tTest (tOp r (tLW X k P (TRefuse X.K z0 hs) i w) t2)) ta tb) tr) (mWorks i w (mB (mOp f (mWks K z0 hs cs w) m2)) ma mb mr) := by
  intro σ0 σ H s R fps I D kk hm x
  obtain ⟨hbor, hil, hwl, hm⟩ := hm
  refine ⟨I.tab, fun P fs H1 eN T1 la L hL => ?_⟩
  obtain ⟨fps', G1, nL⟩ := works_go (o := .lst (fs.map fun x => .ref x.1)) I eN T1 hL hbor
  have la' : LamsAt X k P (upd H1 L (.lst (fs.map fun x => .ref x.1))) ts fs := lams_upd hL la
  have Q1 : PtE K T W σ0 (σ.set i (some (.ref L))) (upd H1 L (.lst (fs.map fun x => .ref x.1))) ⟨s.env.set i none, s.n, s.bor⟩ R fps' (tLW X k P (TRefuse X.K z0 hs) i w) (mWks K z0 hs cs w) := fun Qm Xm hm hx Q hQ =>
    sim_wk hX G1.iv upd_same nL la' co (List.getElem?_set_self (by rw [I.len]; exact hil)) (by rw [List.length_set, I.len]; exact hwl) hiw hl hm Q hQ
  show tTest (tOp r (tLW X k P (TRefuse X.K z0 hs) i w) t2) (σ.set i (some (.ref L))) (upd H1 L (.lst (fs.map fun x => .ref x.1))) fun b H2 => if b = true then ta { D with nx := tr D } (σ.set i (some (.ref L))) H2 else tb { D with nx := tr D } (σ.set i (some (.ref L))) H2
  have hm' : mOp f (mWks K z0 hs cs w) m2 ⟨s.env.set i none, s.n, s.bor⟩ (fun rr s1 => match rr with
      | .val (.dat (.bool b)) => if b = true then mSeq ma mr s1 kk else mSeq mb mr s1 kk
      | _ => False) kk.er := hm
  refine pt_opE pe Q1 h2 _ kk.er hm' (x.go G1).xok _ fun v H2 s2 rr fp fps2 g hrr nR q => ?_
  split at q
  · rename_i b
    cases hrr with
    | val ho =>
      cases ho with
      | dat hd _ =>
        cases dp_bool hd
        have g' := g.drop (R2 := R) (fun _ z => z) fun _ z => .inl z
        refine ⟨b, rfl, ?_⟩
        cases b with
        | true => exact sim_seq ha hr σ0 _ H2 s2 R fps2 g'.iv D kk q (x.go (G1.trans g'))
        | false => exact sim_seq hb hr σ0 _ H2 s2 R fps2 g'.iv D kk q (x.go (G1.trans g'))
  · exact q.elim
end
end Mk

/-! part MkWkC -/
/-! Mk: the rule for x = [lambda: .., ..]; if [f(y) for y in x] != [..]: ..; the rest -/
namespace Mk
open PySem PySem.Spec PyProof.Rows L2 Evl Lk LamX
/-- the lambdas as they are written, and what they do -/
structure LamQ (X : Cx) (K : PySem.W.Frag) (T : List (Addr × Str)) (k : Nat) (es : List Expr) (ts : List (XK → TE)) (cs : List (Den × MA)) : Prop where
  p : LamsOk X k es ts
  s : CallsOk K T ts cs
section
variable {X : Cx} {K : PySem.W.Frag} {T : List (Addr × Str)} {W : WX}
theorem lq_nil {k : Nat} : LamQ X K T k [] [] [] := ⟨.nil, .nil⟩
theorem lq_cons {k k0 : Nat} {y : Str} {G : Den} {mr : MA} {ta : TA} {params : Arguments} {e : Expr} {es : List Expr} {scope : Scope} {p1 p2 lpos : Pos} {ls : List Expr} {ts : List (XK → TE)} {cs : List (Den × MA)}
    (L : LamS X.env.scope scope) (hdef : defaultsOf params X.env = ([], []))
    (hbind : ∀ (q : Str) (cl : List (Str × Addr)) (pm cv ctv : Value), bindArgs (PySem.W.kla_fn "<lambda>" q params (.Call (.Name y p1) (e :: es) [] p2) scope cl pm cv ctv) ⟨[], []⟩ = pure [])
    (c : Cd X.prog X.w X.K X.mg X.base T k0 y G) (hk0 : k0 ≤ k) (hgl : ∀ (A : Around) (outer : List Env) (s : Shared) (H : Hp) (E : XK) (f' c' : Addr), Gl (lamCx X A outer s H E scope f' c') y)
    (ha : ∀ (A : Around) (outer : List Env) (s : Shared) (H : Hp) (E : XK) (f' c' : Addr) (W : WX), QA (lamCx X A outer s H E scope f' c') K T W (e :: es) ta mr) (r : LamQ X K T k ls ts cs) (hK : X.K = K := by rfl)
    (hdb : (y == ("__debug__" : Str)) = false := by decide) (he : ∀ (A : Around) (outer : List Env) (s : Shared) (H : Hp) (E : XK) (f' c' : Addr), starEach (e :: es) (lamCx X A outer s H E scope f' c').env = (false, eval e (lamCx X A outer s H E scope f' c').env) :: starEach es (lamCx X A outer s H E scope f' c').env := by intros; rfl)
    (hpl : ∀ (A : Around) (outer : List Env) (s : Shared) (H : Hp) (E : XK) (f' c' : Addr), (backTo p2 (starEach es (lamCx X A outer s H E scope f' c').env)).any (·.1) = false := by intros; rfl) :
    LamQ X K T k (.Lambda params (.Call (.Name y p1) (e :: es) [] p2) scope lpos :: ls) ((fun E => tCallS (spM K T G) (WE fun cls d _ H => E cls d H) ta) :: ts) ((G, mr) :: cs) := by
  subst hK
  refine ⟨.cons L hdef hbind (fun A outer s H E f' c' hr' => ?_) r.p, .cons (fun W => (ha X.A [] X.s_0 X.H_0 (fun _ _ _ => False) 0 0 W).s) r.s⟩
  exact pe_kR (takes_of rfl rfl rfl rfl) c hr' hk0 (hgl A outer s H E f' c') (ha A outer s H E f' c' (fun cls d _ H => E cls d H)).p hdb (he A outer s H E f' c') (hpl A outer s H E f' c')
theorem b_works {x a yv y z z0 xd q : Str} {g : Addr} {k i w : Nat} {pg : Arguments} {bg : List Stmt} {sg : Scope} {fd : FuncData} {h0 : ExceptHandler} {hds : List ExceptHandler} {l : List (Addr × Str)} {scope : Scope} {j : Nat}
    {p1 p2 p3 p9 q1 q2 q3 q4 q5 : Pos} {p py pos tpos ipos lpos r1 r2 r3 ipos' cpos : Pos} {ls : List Expr} {ts : List (XK → TE)} {cs : List (Den × MA)} {e2 : Expr} {t2 : TE} {m2 : ME} {sa sb rest : List Stmt} {ta tb tr : TS} {ma mb mr : MS} {op : CmpOp} {r : R2} {f : PyData → PyData → FO}
    (D : FunD X.K x x pg bg sg [] [] g fd) (hm : X.mg x = some (.ref g))
    (hbg : bg = [.Assign [.Name yv q1] (.Constant (.str z0) j q2) q3, .Try [.Expr (.Call (.Name a p1) [] [] p2) p3] (h0 :: hds) [] [] p9, .Return (some (.Name yv q4)) q5])
    (hbp : ∀ (kV doc pm : Value) (an : Option Addr) (cdv ct : Value) (us : List Value), us.length = [a].length → bindArgs (PySem.W.fnOf x x pg bg sg .none kV doc pm an cdv ct) ⟨us, []⟩ = pure ([a].zip us))
    (Sg : FnScope [a, yv] [a] sg) (hnd : [a, yv].Nodup) (hva : Vis sg a) (hyv : sg.names.lookup yv = some .local) (hh : HdStr X.mg sg yv (h0 :: hds) l)
    (hdx : (x == ("__debug__" : Str)) = false) (hda : (a == ("__debug__" : Str)) = false) (hca : (a == ("__classdict__" : Str)) = false) (hdv : (yv == ("__debug__" : Str)) = false) (hcv : (yv == ("__classdict__" : Str)) = false)
    (hs : X.stack = X.env :: X.outer) (hfr : X.env.frame = some X.env.locals) (LD : LamD X.K X.mg X.base T xd q) (hcode : X.env.code = .ref (He.codeOf X.K (xd, none))) (hq : X.env.qual ++ "<lambda>" = q) (hr : Room (k + 2) X.A)
    (lq : LamQ X K T k ls ts cs) (hl : ts.length ≤ 1000)
    (hx : ∀ (P : List (Addr × Obj)) (s1 : Shared) (H1 : Hp) (C : Addr) (cl : List (Str × Addr)) (fp : List Addr), Gl ((X.tr P X.xe).blk s1 H1 scope (compEnvC scope cl C X.env) fp) x)
    (hw : X.N[w]? = some y) (hwv : ∀ C cl, Vis (compEnvC scope cl C X.env).scope y) (hdy : (y == ("__debug__" : Str)) = false) (hcy : (y == ("__classdict__" : Str)) = false)
    (calm : X.calm = true) (nd : X.N.Nodup) (bo : BlkOk X.N X.env.scope scope [(y, w)]) (hi : X.N[i]? = some z) (hiv : X.env.scope.names.lookup z = some .local) (hiw : i ≠ w) (hdz : (z == ("__debug__" : Str)) = false) (hcz : (z == ("__classdict__" : Str)) = false)
    (hg : ∀ (P : List (Addr × Obj)) (s1 : Shared) (H1 : Hp) (C : Addr) (cl : List (Str × Addr)) (fp : List Addr), PG ((X.tr P X.xe).blk s1 H1 scope (compEnvC scope cl C X.env) fp) (.Name y tpos) (gName w))
    (hop : ∀ P : List (Addr × Obj), Cm (X.tr P X.xe) K op r f) (h2 : ∀ P : List (Addr × Obj), QE (X.tr P X.xe) K T W e2 t2 m2) (hbm : behindInMarks op e2 = false) (ha : ∀ P : List (Addr × Obj), QB (X.tr P X.xe) K T W sa ta ma) (hb : ∀ P : List (Addr × Obj), QB (X.tr P X.xe) K T W sb tb mb)
    (hrest : ∀ P : List (Addr × Obj), QB (X.tr P X.xe) K T W rest tr mr) (hsw : swapsWith (.List ls r2) (some (.Name z r1)) r3.line X.env = pure false) (hK : X.K = K := by rfl) :
    QB X K T W (.Assign [.Name z r1] (.List ls r2) r3 :: .If (.Compare (.ListComp (.Call (.Name x p) [.Name y py] [] pos) [⟨.Name y tpos, .Name z ipos, [], 0⟩] scope lpos) [op] [e2] cpos) sa sb ipos' :: rest)
      (tWorks X k T ts i fun P => tSeq (tIfS (tTest (tOp r (tLW X k P (TRefuse X.K z0 l) i w) t2)) ta tb) tr) (mWorks i w (mB (mOp f (mWks K z0 l cs w) m2)) ma mb mr) := by
  subst hK
  have kp := D.kp
  have hbn := D.bindsN hbp
  obtain ⟨oc, od, dV, kV, doc, pm, an, cdv, ct, osl, rfl, lk, hcdx, _, _⟩ := D.ex
  subst hbg hq
  have e0 : ∀ P : List (Addr × Obj), QE (X.tr P X.xe) X.K T W e2 t2 m2 := h2
  refine ⟨pss_works hs hfr LD.tb hcode LD.mem LD.one lq.p hl nd hi hiv (fun P => ?_) hsw, sim_works (K := X.K) rfl lq.s (by rw [calls_len lq.s]; exact hl) hiw (hop []).s (h2 []).s (ha []).s (hb []).s (hrest []).s⟩
  refine pss_cons (ps_if (pt_cmpR (hop P).o ?_ (h2 P).p hbm) (ha P).p (hb P).p) (hrest P).p
  exact pe_lcWork (X := X.tr P X.xe) (P := P) (fun _ h => h) hs hfr (hx P) hm kp lk hcdx hbn Sg rfl hva (refuse_gives (X := X.tr P X.xe) rfl hnd hyv hh hdv hcv) hr hw hwv hdx hda hca hdy hcy calm nd bo hi (.inl hiv) hdz hcz (hg P)
end
end Mk

/-! part LkSortT -/
/-! Lk: sorted(t), t a tuple of numbers. -/
namespace Lk
open PySem PySem.Spec PyProof.Rows L2 Evl
section
variable {prog : Program} {w : World} {A : Around} {E : Value → Shared → Prop} {s : Shared}
/-- a tuple's items, taken into a new list -/
theorem collect_tupT {l : Addr} {o : Obj} {vs : List Value} {n : Nat} {Q : List Value → Shared → Prop} (ho : s.heap.get? l = some o) (hc : o.cls = .type "tuple") (hd : o.data = .seq vs.toArray n) (hz : vs.length ≤ sizeLine)
    (h : Q vs { s with heap := (s.heap.push (seqObj "list" #[] 0)).update s.heap.objs.size (Obj.mapSeq (· ++ vs.toArray)) }) : wpAny (model prog w) A (collect (.ref l)) Q E s := by
  have old : (s.heap.push (seqObj "list" #[] 0)).get? l = some o := Heap.get?_push_of_some _ ho
  have new : (s.heap.push (seqObj "list" #[] 0)).get? s.heap.objs.size = some (seqObj "list" #[] 0) := Heap.get?_push_size _ rfl
  unfold collect
  refine wpAny_bind (wpAny_runValue (codeAny_builtin entry_proto_collect' ?_))
  show wpAny _ _ (do again (.builtin "list.__iadd__" ⟨[← newList [], .ref l], []⟩)) _ _ s
  refine wpAny_bind (wpAny_newList (wpAny_pure ⟨Code.quiet_builtin _ (by decide +kernel), codeAny_builtin entry_list_iadd' ?_⟩))
  show wpAny _ _ (Builtin.List.listExtendWith (.ref s.heap.objs.size) (.ref l) (.ref s.heap.objs.size)) _ _ { s with heap := s.heap.push (seqObj "list" #[] 0) }
  unfold Builtin.List.listExtendWith
  refine wpAny_bind (wpAny_typeOf (T := "tuple") ⟨o, old, hc⟩ ?_)
  have tt : (Value.type "tuple" == Value.type "tuple") = true := by rfl
  rw [if_pos (by rw [tt]; simp)]
  refine wpAny_bind (listItems_at old hd (wpAny_bind (listItems_at (xs := #[]) (n := 0) new rfl ?_)))
  rw [if_neg (by simp)]
  refine wpAny_bind (listUpdate_at (xs := #[]) (n := 0) new rfl (wpAny_pure ?_) (Nat.zero_le _) (by show (#[] ++ vs.toArray).size ≤ sizeLine + 1; simp only [Array.size_append, List.size_toArray, List.length_nil]; omega))
  show wpAny (model prog w) A (do
      let o ← load s.heap.objs.size
      match o.data with
      | .seq xs _ => pure xs.toList
      | _ => unsupported "internal:collect") Q E { s with heap := (s.heap.push (seqObj "list" #[] 0)).update s.heap.objs.size (Obj.mapSeq (· ++ vs.toArray)) }
  refine wpAny_bind (wpAny_load (get?_update_seq new _) ?_)
  have er : ((#[] : Array Value) ++ vs.toArray).toList = vs := by simp
  show wpAny _ _ (pure ((#[] : Array Value) ++ vs.toArray).toList) Q E _
  rw [er]
  exact wpAny_pure h
/-- sorted(t) -/
theorem sorted_tupI {l : Addr} {o : Obj} {vs : List Value} {n : Nat} {ns : List Int} {Q : Value → Shared → Prop} (ho : s.heap.get? l = some o) (hc : o.cls = .type "tuple") (hd : o.data = .seq vs.toArray n) (hI : IntsAre vs ns) (h64 : vs.length < 64)
    (h : ∀ (out : Array Value) (ns' : List Int), IntsAre out.toList ns' → ns'.Perm ns → ns'.Pairwise (· ≤ ·) → Q (.ref (s.heap.objs.size + 1)) { s with heap := sortedAll s.heap vs out }) :
    wpAny (model prog w) A (call (.builtin "sorted") [.ref l]) Q E s := by
  have hz : vs.length ≤ sizeLine := Nat.le_trans (Nat.le_of_lt h64) (by decide)
  refine Calls.call_function_entry kind_sorted plain_sorted entry_sorted (args_sorted1 _) ?_
  unfold Builtin.«sorted»
  refine wpAny_bind (m := checkCount "sorted" 1 1 _) (wpAny_pure (wpAny_bind (collect_tupT ho hc hd hz (wpAny_bind (wpAny_newList ?_)))))
  have sz : ((s.heap.push (seqObj "list" #[] 0)).update s.heap.objs.size (Obj.mapSeq (· ++ vs.toArray))).objs.size = s.heap.objs.size + 1 := by
    rw [Heap.size_update, size_push']
  have hoL : (((s.heap.push (seqObj "list" #[] 0)).update s.heap.objs.size (Obj.mapSeq (· ++ vs.toArray))).push (seqObj "list" vs.toArray 0)).get? (s.heap.objs.size + 1) = some (seqObj "list" vs.toArray 0) := by
    rw [← sz]
    exact Heap.get?_push_size _ rfl
  show wpAny _ _ _ _ _ { s with heap := ((s.heap.push (seqObj "list" #[] 0)).update s.heap.objs.size (Obj.mapSeq (· ++ vs.toArray))).push (seqObj "list" vs.toArray 0) }
  rw [sz]
  exact wpAny_bind (wpAny_holding (wpAny_call_entry slot_list_sort ⟨_, hoL, rfl⟩ entry_list_sort (list_sort_tree hoL hI h64 fun out ns' a1 a2 a3 => ⟨_, rfl, wpAny_pure ⟨_, rfl, h out ns' a1 a2 a3⟩⟩) (args_list_sort _)))
end
def rSortTup (K : PySem.W.Frag) : List V → Hp → VK → Prop := fun vs H Q => ∃ (a : Addr) (ns : List Int), vs = [V.ref a] ∧ SqT K H a (ns.map V.int) ∧ ns.length < 64 ∧
  ∀ (out : List Int) (p : Addr), out.Perm ns → out.Pairwise (· ≤ ·) → H p = none → Q (.ref p) (upd H p (.lst (out.map V.int)))
theorem cr_sortTup {X : Cx} : CallR X (.builtin "sorted") (rSortTup X.K) := by
  intro pins s σ H vs us Q I r h
  obtain ⟨a, ns, rfl, hs, h64, q⟩ := h
  obtain ⟨its, rv, hl, _⟩ := I.tuple hs
  rw [Vals.ref1 r]
  have hi := rv.ints
  obtain ⟨o, e, hc, n, hd⟩ := hl
  refine sorted_tupI e hc hd hi (by rw [hi.length]; exact h64) fun out ns' h1 h2 h3 => ?_
  obtain ⟨ep, he'⟩ := PyProof.Rows.sortedAll_at s.heap its out
  have few : (ns'.map V.int).length ≤ sizeLine := by rw [List.length_map, h2.length_eq]; exact small64 h64
  exact ⟨.ref _, upd H (s.heap.objs.size + 1) (.lst (ns'.map V.int)), I.laid (t' := s.toks) (fun _ _ => PyProof.Rows.sortedAll_old) (Nat.le_succ _) ⟨few, out.toList, ep, vals_of_ints h1, he'⟩, rfl, q ns' _ h2 h3 (I.hok.fresh (Nat.le_succ _))⟩
end Lk

/-! part MkSt -/
/-! Mk: sorted(t), t a tuple of numbers. -/
namespace Mk
open PySem PySem.Spec PyProof.Rows L2 Evl Lk LamX
section
variable {K : PySem.W.Frag}
def fSortIT : PyData → FO
  | .tuple ds, Q => ∃ ns : List Int, ds = ns.map PyData.int ∧ ns.length < 64 ∧ ∀ out : List Int, out.Perm ns → out.Pairwise (· ≤ ·) → Q (.lst (out.map PyData.int))
  | _, _ => False
theorem ps_sortedT : PSim K (Lk.rSortTup K) (fl1 fSortIT) := ps_one fun F H x d Qo Q ex hx hf k => by
  cases d <;> first
    | exact hf.elim
    | skip
  obtain ⟨ns, rfl, hl, hf⟩ := hf
  obtain ⟨a, xs, rfl, h3, h4⟩ := hx.tuple ex
  obtain rfl := dps_ints_of h4
  exact ⟨a, ns, rfl, h3, hl, fun out p h1 h2 hp => k _ _ _ (.lst hp (dpsI out)) (hf out h1 h2)⟩
end
section
variable {X : Cx} {K : PySem.W.Frag} {T : List (Addr × Str)} {W : WX} {k j : Nat} {x : Str} {G : Den} {p pos : Pos}
/-- f() -/
theorem e_call00 (h : Cd X.prog X.w X.K X.mg X.base T k x G) (hr : Room j X.A) (hk : k ≤ j) (hg : Gl X x) (hK : X.K = K := by rfl) (hdb : (x == ("__debug__" : Str)) = false := by decide) :
    QE X K T W (.Call (.Name x p) [] [] pos) (tCall (spM K T G) [] E0 tNil) (fun s Q X => mCall G mNil s Q fun _ _ => False) := by
  subst hK
  obtain ⟨f, fd, ps, F, hm, kp, b⟩ := h.ex
  exact ⟨pe_call0 F (hr.mono hk) hg hm kp b .nil passL hdb, sim_call0 sim_nil⟩
end
end Mk

section
/-! the walk's small tactics: Ev, EvT, EvD, EvDA by the reading's head -/
local macro_rules | `(tactic| wtm_at "dp") => `(tactic| first
  | assumption
  | exact Lk.Dq.int _
  | exact Lk.Dq.bl _
  | exact Lk.Dq.str _
  | exact Lk.Dq.non
  | fail "dp stops")
local macro_rules | `(tactic| wtm_at "rvc") => `(tactic| first
  | trivial
  | (show (0 : Int) < _; first | decide | omega)
  | exact ⟨by decide, by decide⟩
  | exact ⟨by decide, by decide, by decide⟩
  | exact Or.inl ⟨by decide, by decide⟩
  | exact Or.inr ⟨by decide, by decide⟩
  | exact Or.inl ⟨by omega, by omega⟩
  | exact Or.inr ⟨by omega, by omega⟩
  | assumption
  | fail "rvc stops")
local macro_rules | `(tactic| wtm_at "rv") => `(tactic| first
  | with_reducible exact Evl.rv_I0
  | ((with_reducible refine' Evl.rv_I ?c); (case c => wtm_at "rvc"))
  | ((with_reducible refine' Evl.rv_eq ?c); (case c => rfl))
  | ((with_reducible refine' Evl.rv_ne ?c); (case c => rfl))
  | fail "rv stops")
local macro_rules | `(tactic| wtm_at "rel") => `(tactic| first
  | exact ⟨_, rfl, rfl⟩
  | exact ⟨_, _, rfl, rfl⟩
  | exact ⟨_, _, _, rfl, rfl⟩
  | exact ⟨_, _, _, _, rfl, rfl⟩
  | exact ⟨_, rfl, by omega, rfl⟩
  | exact ⟨_, _, rfl, by omega, by omega, rfl⟩
  | exact ⟨_, _, _, rfl, by omega, by omega, rfl⟩
  | assumption
  | fail "rel stops")
local macro_rules | `(tactic| wtm_at "eda") => `(tactic| first
  | with_reducible exact Lk.eda_nil
  | ((with_reducible refine' Lk.eda_cons ?a ?b); (case a => wtm_at "ed"); (case b => wtm_at "eda"))
  | ((with_reducible refine' Lk.eda_star ?a ?b ?k); (case a => wtm_at "ed"); (case b => wtm_at "eda"); (case k => rfl))
  | fail "eda stops")
local macro_rules | `(tactic| wtm_at "ed") => `(tactic| first
  | ((with_reducible refine' Lk.ed_var ?a ?b); (case a => exact rfl); (case b => wtm_at "dp"))
  | with_reducible exact Lk.ed_cI
  | with_reducible exact Lk.ed_cS
  | with_reducible exact Lk.ed_cN
  | with_reducible exact Lk.ed_cB
  | ((with_reducible refine' Lk.ed_tup ?a ?b); (case a => wtm_at "eda"); (case b => first | decide | exact Nat.le_of_ble_eq_true rfl))
  | ((with_reducible refine' Lk.ed_lst ?a ?b); (case a => wtm_at "eda"); (case b => first | decide | exact Nat.le_of_ble_eq_true rfl))
  | ((with_reducible refine' Lk.ed_call ?a ?b); (case a => wtm_at "eda"); (case b => wtm_at "rel"))
  | ((with_reducible refine' Lk.ed_callK ?a ?b); (case a => wtm_at "eda"); (case b => wtm_at "rel"))
  | ((with_reducible refine' Lk.ed_ixT ?a ?b ?c ?k); (case a => wtm_at "ed"); (case b => wtm_at "ev"); (case c => rfl); (case k => rfl))
  | ((with_reducible refine' Lk.ed_ixL ?a ?b ?c ?k); (case a => wtm_at "ed"); (case b => wtm_at "ev"); (case c => rfl); (case k => rfl))
  | (refine' Lk.ed_ev (v := L2.V.int _) ?a ?b; (case a => wtm_at "ev"); (case b => exact Lk.Dq.int _))
  | (refine' Lk.ed_ev (v := L2.V.bl _) ?a ?b; (case a => wtm_at "ev"); (case b => exact Lk.Dq.bl _))
  | (refine' Lk.ed_ev (v := L2.V.str _) ?a ?b; (case a => wtm_at "ev"); (case b => exact Lk.Dq.str _))
  | fail "ed stops")
local macro_rules | `(tactic| wtm_at "ev") => `(tactic| first
  | with_reducible exact Evl.ev_c
  | ((with_reducible refine' Evl.ev_var ?a); (case a => exact rfl))
  | ((with_reducible refine' Lk.ev_eqD ?a ?b ?c ?d); (case a => wtm_at "ed"); (case b => wtm_at "ed"); (case c => wtm_at "sh"); (case d => wtm_at "sh"))
  | ((with_reducible refine' Lk.ev_neD ?a ?b ?c ?d); (case a => wtm_at "ed"); (case b => wtm_at "ed"); (case c => wtm_at "sh"); (case d => wtm_at "sh"))
  | ((with_reducible refine' Evl.ev_op ?a ?b ?c); (case a => wtm_at "ev"); (case b => wtm_at "ev"); (case c => wtm_at "rv"))
  | ((with_reducible refine' Evl.ev_un ?a ?c); (case a => wtm_at "ev"); (case c => with_reducible exact Evl.ru_neg))
  | ((with_reducible refine' Evl.ev_andV ?a ?b); (case a => wtm_at "ev"); (case b => (intro hb; first | exact (Bool.false_ne_true hb).elim | exact (Bool.false_ne_true hb.symm).elim | wtm_at "ev")); (all_goals try exact false))
  | ((with_reducible refine' Evl.ev_orV ?a ?b); (case a => wtm_at "ev"); (case b => (intro hb; first | exact (Bool.false_ne_true hb).elim | exact (Bool.false_ne_true hb.symm).elim | wtm_at "ev")); (all_goals try exact false))
  | ((with_reducible refine' Lk.ev_chain ?a ?b ?c ?d ?e); (case a => wtm_at "ev"); (case b => wtm_at "ev"); (case c => wtm_at "rv"); (case d => (intro hb; wtm_at "ev")); (case e => (intro hb; wtm_at "rv")))
  | ((with_reducible refine' Evl.ev_notV ?a); (case a => wtm_at "ev"))
  | ((with_reducible refine' Lk.ev_edI (Lk.ed_call ?a ?b)); (case a => wtm_at "eda"); (case b => wtm_at "rel"))
  | ((with_reducible refine' Lk.ev_edB (Lk.ed_call ?a ?b)); (case a => wtm_at "eda"); (case b => wtm_at "rel"))
  | ((with_reducible refine' Lk.ev_edS (Lk.ed_call ?a ?b)); (case a => wtm_at "eda"); (case b => wtm_at "rel"))
  | ((with_reducible refine' Lk.ev_edI (Lk.ed_callK ?a ?b)); (case a => wtm_at "eda"); (case b => wtm_at "rel"))
  | ((with_reducible refine' Lk.ev_edI (Lk.ed_ixT ?a ?b ?c ?k)); (case a => wtm_at "ed"); (case b => wtm_at "ev"); (case c => rfl); (case k => rfl))
  | ((with_reducible refine' Lk.ev_edI (Lk.ed_ixL ?a ?b ?c ?k)); (case a => wtm_at "ed"); (case b => wtm_at "ev"); (case c => rfl); (case k => rfl))
  | ((with_reducible refine' Lk.ev_intI ?a); (case a => wtm_at "ev"))
  | ((with_reducible refine' Lk.ev_abs ?a); (case a => wtm_at "ev"))
  | ((with_reducible refine' Lk.ev_min ?a ?b); (case a => wtm_at "ev"); (case b => wtm_at "ev"))
  | ((with_reducible refine' Lk.ev_lenT ?a); (case a => wtm_at "ed"))
  | ((with_reducible refine' Lk.ev_lenL ?a); (case a => wtm_at "ed"))
  | ((with_reducible refine' Lk.ev_isiD ?a ?b); (case a => wtm_at "ed"); (case b => first
      | with_reducible exact Lk.kit_int _
      | with_reducible exact Lk.kit_bool _
      | with_reducible exact Lk.kit_tup _
      | with_reducible exact Lk.kit_lst _
      | with_reducible exact Lk.kit_str _
      | with_reducible exact Lk.kit_dct _))
  | fail "ev stops")
local macro_rules | `(tactic| wtm_at "ea") => `(tactic| first
  | with_reducible exact Evl.ea_nil
  | ((with_reducible refine' Evl.ea_cons ?a ?b); (case a => wtm_at "ev"); (case b => wtm_at "ea"))
  | fail "ea stops")
local macro_rules | `(tactic| wtm_at "sh") => `(tactic| first
  | rfl
  | assumption
  | decide
  | fail "sh stops")
local macro_rules | `(tactic| wtm_at "et") => `(tactic| first
  | ((with_reducible refine' Evl.et_test ?a); (case a => wtm_at "ev"))
  | ((with_reducible refine' Evl.et_B ?a); (case a => wtm_at "ev"))
  | ((with_reducible refine' Evl.et_and ?a ?b); (case a => wtm_at "et"); (case b => (intro hb; first | exact (Bool.false_ne_true hb).elim | exact (Bool.false_ne_true hb.symm).elim | wtm_at "et")); (all_goals try exact false))
  | ((with_reducible refine' Evl.et_or ?a ?b); (case a => wtm_at "et"); (case b => (intro hb; first | exact (Bool.false_ne_true hb).elim | exact (Bool.false_ne_true hb.symm).elim | wtm_at "et")); (all_goals try exact false))
  | ((with_reducible refine' Evl.et_not ?a); (case a => wtm_at "et"))
  | fail "et stops")

/-! part Pa -/
namespace K48
open PySem PySem.Spec PyProof.Rows L2 Evl Lk LamX Mk
abbrev Fn (K : PySem.W.Frag) (x : Str) (st : Stmt) (f : Addr) (fd : FuncData) : Prop := FunD K x x (defArgs st) (defBody st) (defScope st) [] [] f fd
structure Txt (K : PySem.W.Frag) (mg : Str → Option Value) : Prop where
  n_abs : mg "abs" = none
  n_all : mg "all" = none
  n_any : mg "any" = none
  n_bool : mg "bool" = none
  n_dict : mg "dict" = none
  n_int : mg "int" = none
  n_isinstance : mg "isinstance" = none
  n_len : mg "len" = none
  n_list : mg "list" = none
  n_max : mg "max" = none
  n_min : mg "min" = none
  n_range : mg "range" = none
  n_set : mg "set" = none
  n_sorted : mg "sorted" = none
  n_str : mg "str" = none
  n_tuple : mg "tuple" = none
  n_zip : mg "zip" = none
  v_LETTERS : Cn K mg "LETTERS" (.str "abcdefghijklmnopqrstuvwxyz") k_LETTERS
  v_MOST_FLOORS : Cn K mg "MOST_FLOORS" (.int 8) k_MOST_FLOORS
  v_MOST_PLACES : Cn K mg "MOST_PLACES" (.int 20000) k_MOST_PLACES
  v_MOST_STAY : Cn K mg "MOST_STAY" (.int 6) k_MOST_STAY
  v_TICK : Cn K mg "TICK" (.ref (He.ga K "TICK")) k_TICK
  v_WORDS : Cn K mg "WORDS" (.ref (He.ga K "WORDS")) k_WORDS
  x_BadFloors : XcT K mg "BadFloors" (He.ga K "BadFloors")
  x_BadRule : XcT K mg "BadRule" (He.ga K "BadRule")
  x_BadSignal : XcT K mg "BadSignal" (He.ga K "BadSignal")
  x_BadStanding : XcT K mg "BadStanding" (He.ga K "BadStanding")
  x_BadStay : XcT K mg "BadStay" (He.ga K "BadStay")
/-- what stands of the exceptions -/
structure Xf (K : PySem.W.Frag) : Prop where
  h_BadFloors_BadFloors : PySem.W.exmOne K (.ref (He.ga K "BadFloors")) (.ref (He.ga K "BadFloors")) = some true
  h_BadFloors_BadStay : PySem.W.exmOne K (.ref (He.ga K "BadFloors")) (.ref (He.ga K "BadStay")) = some false
  h_BadFloors_BadRule : PySem.W.exmOne K (.ref (He.ga K "BadFloors")) (.ref (He.ga K "BadRule")) = some false
  h_BadFloors_BadStanding : PySem.W.exmOne K (.ref (He.ga K "BadFloors")) (.ref (He.ga K "BadStanding")) = some false
  h_BadFloors_BadSignal : PySem.W.exmOne K (.ref (He.ga K "BadFloors")) (.ref (He.ga K "BadSignal")) = some false
  h_BadFloors_KeptError : PySem.W.exmOne K (.ref (He.ga K "BadFloors")) (.ref (He.ga K "KeptError")) = some true
  h_BadRule_BadFloors : PySem.W.exmOne K (.ref (He.ga K "BadRule")) (.ref (He.ga K "BadFloors")) = some false
  h_BadRule_BadStay : PySem.W.exmOne K (.ref (He.ga K "BadRule")) (.ref (He.ga K "BadStay")) = some false
  h_BadRule_BadRule : PySem.W.exmOne K (.ref (He.ga K "BadRule")) (.ref (He.ga K "BadRule")) = some true
  h_BadRule_BadStanding : PySem.W.exmOne K (.ref (He.ga K "BadRule")) (.ref (He.ga K "BadStanding")) = some false
  h_BadRule_BadSignal : PySem.W.exmOne K (.ref (He.ga K "BadRule")) (.ref (He.ga K "BadSignal")) = some false
  h_BadRule_KeptError : PySem.W.exmOne K (.ref (He.ga K "BadRule")) (.ref (He.ga K "KeptError")) = some true
  h_BadSignal_BadFloors : PySem.W.exmOne K (.ref (He.ga K "BadSignal")) (.ref (He.ga K "BadFloors")) = some false
  h_BadSignal_BadStay : PySem.W.exmOne K (.ref (He.ga K "BadSignal")) (.ref (He.ga K "BadStay")) = some false
  h_BadSignal_BadRule : PySem.W.exmOne K (.ref (He.ga K "BadSignal")) (.ref (He.ga K "BadRule")) = some false
  h_BadSignal_BadStanding : PySem.W.exmOne K (.ref (He.ga K "BadSignal")) (.ref (He.ga K "BadStanding")) = some false
  h_BadSignal_BadSignal : PySem.W.exmOne K (.ref (He.ga K "BadSignal")) (.ref (He.ga K "BadSignal")) = some true
  h_BadSignal_KeptError : PySem.W.exmOne K (.ref (He.ga K "BadSignal")) (.ref (He.ga K "KeptError")) = some true
  h_BadStanding_BadFloors : PySem.W.exmOne K (.ref (He.ga K "BadStanding")) (.ref (He.ga K "BadFloors")) = some false
  h_BadStanding_BadStay : PySem.W.exmOne K (.ref (He.ga K "BadStanding")) (.ref (He.ga K "BadStay")) = some false
  h_BadStanding_BadRule : PySem.W.exmOne K (.ref (He.ga K "BadStanding")) (.ref (He.ga K "BadRule")) = some false
  h_BadStanding_BadStanding : PySem.W.exmOne K (.ref (He.ga K "BadStanding")) (.ref (He.ga K "BadStanding")) = some true
  h_BadStanding_BadSignal : PySem.W.exmOne K (.ref (He.ga K "BadStanding")) (.ref (He.ga K "BadSignal")) = some false
  h_BadStanding_KeptError : PySem.W.exmOne K (.ref (He.ga K "BadStanding")) (.ref (He.ga K "KeptError")) = some true
  h_BadStay_BadFloors : PySem.W.exmOne K (.ref (He.ga K "BadStay")) (.ref (He.ga K "BadFloors")) = some false
  h_BadStay_BadStay : PySem.W.exmOne K (.ref (He.ga K "BadStay")) (.ref (He.ga K "BadStay")) = some true
  h_BadStay_BadRule : PySem.W.exmOne K (.ref (He.ga K "BadStay")) (.ref (He.ga K "BadRule")) = some false
  h_BadStay_BadStanding : PySem.W.exmOne K (.ref (He.ga K "BadStay")) (.ref (He.ga K "BadStanding")) = some false
  h_BadStay_BadSignal : PySem.W.exmOne K (.ref (He.ga K "BadStay")) (.ref (He.ga K "BadSignal")) = some false
  h_BadStay_KeptError : PySem.W.exmOne K (.ref (He.ga K "BadStay")) (.ref (He.ga K "KeptError")) = some true
abbrev N__law_begun : List Str := ["script", "great", "cell"]
theorem sc__law_begun : FnScope N__law_begun ["script"] (defScope s__law_begun) := ⟨rfl, rfl, rfl, by decide +kernel, rfl, by decide +kernel, by decide +kernel⟩
abbrev N__law_called : List Str := ["now", "one"]
theorem sc__law_called : FnScope N__law_called ["now", "one"] (defScope s__law_called) := ⟨rfl, rfl, rfl, by decide +kernel, rfl, by decide +kernel, by decide +kernel⟩
abbrev N__law_word : List Str := ["sheet", "here", "way", "lit", "ahead", "one", "behind", "place"]
theorem sc__law_word : FnScope N__law_word ["sheet", "here", "way", "lit"] (defScope s__law_word) := ⟨rfl, rfl, rfl, by decide +kernel, rfl, by decide +kernel, by decide +kernel⟩
abbrev N__law_tick : List Str := ["many", "pause", "sheet", "now", "here", "way", "left", "lit", "word", "again", "one"]
theorem sc__law_tick : FnScope N__law_tick ["many", "pause", "sheet", "now"] (defScope s__law_tick) := ⟨rfl, rfl, rfl, by decide +kernel, rfl, by decide +kernel, by decide +kernel⟩
abbrev N__law_lift_walk : List Str := ["many", "pause", "sheet", "found", "rows", "known", "at", "laters", "one", "later"]
theorem sc__law_lift_walk : FnScope N__law_lift_walk ["many", "pause", "sheet"] (defScope s__law_lift_walk) := ⟨rfl, rfl, rfl, by decide +kernel, rfl, by decide +kernel, by decide +kernel⟩
abbrev N_is_whole : List Str := ["value", "low", "high"]
theorem sc_is_whole : FnScope N_is_whole ["value", "low", "high"] (defScope s_is_whole) := ⟨rfl, rfl, rfl, by decide +kernel, rfl, by decide +kernel, by decide +kernel⟩
abbrev N_is_rule : List Str := ["value", "one"]
theorem sc_is_rule : FnScope N_is_rule ["value"] (defScope s_is_rule) := ⟨rfl, rfl, rfl, by decide +kernel, rfl, by decide +kernel, by decide +kernel⟩
abbrev N_need_lift : List Str := ["floors", "stay", "rule"]
theorem sc_need_lift : FnScope N_need_lift ["floors", "stay", "rule"] (defScope s_need_lift) := ⟨rfl, rfl, rfl, by decide +kernel, rfl, by decide +kernel, by decide +kernel⟩
abbrev N_lift_signals : List Str := ["floors", "floor"]
theorem sc_lift_signals : FnScope N_lift_signals ["floors"] (defScope s_lift_signals) := ⟨rfl, rfl, rfl, by decide +kernel, rfl, by decide +kernel, by decide +kernel⟩
abbrev N_web_walked : List Str := ["floors", "table", "signals", "moves", "row", "one", "place"]
theorem sc_web_walked : FnScope N_web_walked ["floors", "table"] (defScope s_web_walked) := ⟨rfl, rfl, rfl, by decide +kernel, rfl, by decide +kernel, by decide +kernel⟩
abbrev N_with_call : List Str := ["standing", "floor", "here", "way", "left", "lit"]
theorem sc_with_call : FnScope N_with_call ["standing", "floor"] (defScope s_with_call) := ⟨rfl, rfl, rfl, by decide +kernel, rfl, by decide +kernel, by decide +kernel⟩
abbrev N_word_for : List Str := ["rule", "floor", "way", "lit", "above", "below", "one", "ahead", "behind"]
theorem sc_word_for : FnScope N_word_for ["rule", "floor", "way", "lit"] (defScope s_word_for) := ⟨rfl, rfl, rfl, by decide +kernel, rfl, by decide +kernel, by decide +kernel⟩
abbrev N_worked_off : List Str := ["floors", "stay", "rule", "standing", "floor", "way", "left", "lit", "word", "one", "later"]
theorem sc_worked_off : FnScope N_worked_off ["floors", "stay", "rule", "standing"] (defScope s_worked_off) := ⟨rfl, rfl, rfl, by decide +kernel, rfl, by decide +kernel, by decide +kernel⟩
abbrev N_behind_signal : List Str := ["floors", "stay", "rule", "standing", "signal"]
theorem sc_behind_signal : FnScope N_behind_signal ["floors", "stay", "rule", "standing", "signal"] (defScope s_behind_signal) := ⟨rfl, rfl, rfl, by decide +kernel, rfl, by decide +kernel, by decide +kernel⟩
abbrev N_walked : List Str := ["floors", "stay", "rule", "found", "numbers", "table", "at", "row", "signal", "later"]
theorem sc_walked : FnScope N_walked ["floors", "stay", "rule"] (defScope s_walked) := ⟨rfl, rfl, rfl, by decide +kernel, rfl, by decide +kernel, by decide +kernel⟩
abbrev N_lift_web : List Str := ["floors", "stay", "rule"]
theorem sc_lift_web : FnScope N_lift_web ["floors", "stay", "rule"] (defScope s_lift_web) := ⟨rfl, rfl, rfl, by decide +kernel, rfl, by decide +kernel, by decide +kernel⟩
abbrev N_collective : List Str := ["half"]
theorem sc_collective : FnScope N_collective [] (defScope s_collective) := ⟨rfl, rfl, rfl, by decide +kernel, rfl, by decide +kernel, by decide +kernel⟩
abbrev N_one_way : List Str := []
theorem sc_one_way : FnScope N_one_way [] (defScope s_one_way) := ⟨rfl, rfl, rfl, by decide +kernel, rfl, by decide +kernel, by decide +kernel⟩
abbrev N__law_mixed : List Str := ["state", "turn", "found", "prime", "blend", "cell"]
theorem sc__law_mixed : FnScope N__law_mixed ["state"] (defScope s__law_mixed) := ⟨rfl, rfl, rfl, by decide +kernel, rfl, by decide +kernel, by decide +kernel⟩
abbrev N__law_draw : List Str := ["state", "room", "found"]
theorem sc__law_draw : FnScope N__law_draw ["state", "room"] (defScope s__law_draw) := ⟨rfl, rfl, rfl, by decide +kernel, rfl, by decide +kernel, by decide +kernel⟩
abbrev N__law_pick : List Str := ["state", "some"]
theorem sc__law_pick : FnScope N__law_pick ["state", "some"] (defScope s__law_pick) := ⟨rfl, rfl, rfl, by decide +kernel, rfl, by decide +kernel, by decide +kernel⟩
abbrev N__law_sheet : List Str := ["state", "some", "up", "words", "lap"]
theorem sc__law_sheet : FnScope N__law_sheet ["state"] (defScope s__law_sheet) := ⟨rfl, rfl, rfl, by decide +kernel, rfl, by decide +kernel, by decide +kernel⟩
abbrev N__law_any_now : List Str := ["state", "many", "pause", "lit", "one"]
theorem sc__law_any_now : FnScope N__law_any_now ["state", "many", "pause"] (defScope s__law_any_now) := ⟨rfl, rfl, rfl, by decide +kernel, rfl, by decide +kernel, by decide +kernel⟩
abbrev N_is_lift_standing : List Str := ["floors", "stay", "value", "lit", "one", "other"]
theorem sc_is_lift_standing : FnScope N_is_lift_standing ["floors", "stay", "value"] (defScope s_is_lift_standing) := ⟨rfl, rfl, rfl, by decide +kernel, rfl, by decide +kernel, by decide +kernel⟩
abbrev N_is_lift_signal : List Str := ["floors", "value"]
theorem sc_is_lift_signal : FnScope N_is_lift_signal ["floors", "value"] (defScope s_is_lift_signal) := ⟨rfl, rfl, rfl, by decide +kernel, rfl, by decide +kernel, by decide +kernel⟩
abbrev N_lift_step : List Str := ["floors", "stay", "rule", "standing", "signal"]
theorem sc_lift_step : FnScope N_lift_step ["floors", "stay", "rule", "standing", "signal"] (defScope s_lift_step) := ⟨rfl, rfl, rfl, by decide +kernel, rfl, by decide +kernel, by decide +kernel⟩
abbrev N_lift_standings : List Str := ["floors", "stay", "rule"]
theorem sc_lift_standings : FnScope N_lift_standings ["floors", "stay", "rule"] (defScope s_lift_standings) := ⟨rfl, rfl, rfl, by decide +kernel, rfl, by decide +kernel, by decide +kernel⟩
abbrev N__law_refusal : List Str := ["work", "found"]
theorem sc__law_refusal : FnScope N__law_refusal ["work"] (defScope s__law_refusal) := ⟨rfl, rfl, rfl, by decide +kernel, rfl, by decide +kernel, by decide +kernel⟩
abbrev N__law_refusals_right : List Str := ["state", "many", "pause", "sheet", "now", "odd_many", "odd_pause", "odd_sheet", "odd_now", "odd_sig", "works", "work"]
theorem sc__law_refusals_right : FnScope N__law_refusals_right ["state", "many", "pause", "sheet", "now"] (defScope s__law_refusals_right) := ⟨rfl, rfl, rfl, by decide +kernel, rfl, by decide +kernel, by decide +kernel⟩
abbrev N__law_lift_web : List Str := ["many", "rows", "labels", "one", "label", "at", "row"]
theorem sc__law_lift_web : FnScope N__law_lift_web ["many", "rows"] (defScope s__law_lift_web) := ⟨rfl, rfl, rfl, by decide +kernel, rfl, by decide +kernel, by decide +kernel⟩
abbrev N_is_name : List Str := ["value", "letter"]
theorem sc_is_name : FnScope N_is_name ["value"] (defScope s_is_name) := ⟨rfl, rfl, rfl, by decide +kernel, rfl, by decide +kernel, by decide +kernel⟩
abbrev N_is_post : List Str := ["value", "one"]
theorem sc_is_post : FnScope N_is_post ["value"] (defScope s_is_post) := ⟨rfl, rfl, rfl, by decide +kernel, rfl, by decide +kernel, by decide +kernel⟩
abbrev N_is_label : List Str := ["value", "one"]
theorem sc_is_label : FnScope N_is_label ["value"] (defScope s_is_label) := ⟨rfl, rfl, rfl, by decide +kernel, rfl, by decide +kernel, by decide +kernel⟩
abbrev N_is_move : List Str := ["value", "many"]
theorem sc_is_move : FnScope N_is_move ["value", "many"] (defScope s_is_move) := ⟨rfl, rfl, rfl, by decide +kernel, rfl, by decide +kernel, by decide +kernel⟩
abbrev N_is_web : List Str := ["value", "word", "begins", "moves", "one", "other", "row"]
theorem sc_is_web : FnScope N_is_web ["value"] (defScope s_is_web) := ⟨rfl, rfl, rfl, by decide +kernel, rfl, by decide +kernel, by decide +kernel⟩
abbrev N__law_row_right : List Str := ["state", "many", "pause", "sheet", "web", "every", "now", "at", "turn", "sig", "move"]
theorem sc__law_row_right : FnScope N__law_row_right ["state", "many", "pause", "sheet", "web"] (defScope s__law_row_right) := ⟨rfl, rfl, rfl, by decide +kernel, rfl, by decide +kernel, by decide +kernel⟩
abbrev N_law : List Str := ["script", "state", "half", "turn", "many", "pause", "sheet", "found", "rows", "web", "lap", "now", "one", "due", "told"]
theorem sc_law : FnScope N_law ["script"] (defScope s_law) := ⟨rfl, rfl, rfl, by decide +kernel, rfl, by decide +kernel, by decide +kernel⟩
abbrev hsR (K : PySem.W.Frag) : List (Addr × Str) := [(He.ga K "BadFloors", "floors"), (He.ga K "BadStay", "stay"), (He.ga K "BadRule", "rule"), (He.ga K "BadStanding", "standing"), (He.ga K "BadSignal", "signal"), (He.ga K "KeptError", "other")]
@[reducible] def B__law_called_1 (K : PySem.W.Frag) : MT := (mAnd (mB (mOp fGt (mOp fIx (mVar 0) (mC (.int 2))) (mC (.int 0)))) (mB (mOp fEq (mOp fIx (mVar 0) (mC (.int 0))) (mVar 1))))
@[reducible] def B__law_called_2 (K : PySem.W.Frag) : MS := (mRet (mOp fAdd (mSl (mVar 0) mONone (mOSome (mD (mC (.int 3))))) (mDis (fun ds => .dat (.tuple ds)) (mCons (mFz (mUn fTuple (mCB (fl1 fSortIT) (mCons (mOp fAdd (mOp fIx (mVar 0) (mC (.int 3))) (mDis (fun ds => .dat (.tuple ds)) (mCons (mFz (mVar 1)) mNil))) mNil)))) mNil))))
def b__law_called (K : PySem.W.Frag) : MS := (mSeq (mIf (mOr (mB (mOp fIn (mVar 1) (mOp fIx (mVar 0) (mC (.int 3))))) (B__law_called_1 K)) (mRet (mVar 0)) mNext)
  (B__law_called_2 K))
def d__law_called (K : PySem.W.Frag) : Den := runF 2 2 (b__law_called K)
@[reducible] def B__law_word_1 (K : PySem.W.Frag) : MS := (mSeq (mAsg 7 (mOp fAdd (mOp fAdd (mOp fAdd (mOp fMul (mC (.int 8)) (mVar 2)) (mIfE (mB (mOp fIn (mVar 1) (mVar 3))) (mC (.int 4)) (mC (.int 0)))) (mIfE (mB (mOp fNe (mVar 4) (mDis (fun ds => .lst ds) mNil))) (mC (.int 2)) (mC (.int 0)))) (mIfE (mB (mOp fNe (mVar 6) (mDis (fun ds => .lst ds) mNil))) (mC (.int 1)) (mC (.int 0)))))
  (mRet (mOp fIx (mVar 0) (mVar 7))))
@[reducible] def B__law_word_2 (K : PySem.W.Frag) : MS := (mSeq (mAsg 6 (mLc (mIt (mVar 3)) (mgN 5) (mAnd (mB (mOp fNe (mVar 5) (mVar 1))) (mB (mOp fEq (mOp fGt (mVar 5) (mVar 1)) (mOp fEq (mVar 2) (mC (.int 0)))))) (mVar 5) [5]))
  (B__law_word_1 K))
def b__law_word (K : PySem.W.Frag) : MS := (mSeq (mAsg 4 (mLc (mIt (mVar 3)) (mgN 5) (mAnd (mB (mOp fNe (mVar 5) (mVar 1))) (mB (mOp fEq (mOp fGt (mVar 5) (mVar 1)) (mOp fEq (mVar 2) (mC (.int 1)))))) (mVar 5) [5]))
  (B__law_word_2 K))
def d__law_word (K : PySem.W.Frag) : Den := runF 4 8 (b__law_word K)
@[reducible] def B__law_tick_1 (K : PySem.W.Frag) : MS := (mRet (mDis (fun ds => .dat (.tuple ds)) (mCons (mFz (mVar 4)) (mCons (mFz (mVar 5)) (mCons (mFz (mOp fSub (mVar 6) (mC (.int 1)))) (mCons (mFz (mVar 7)) mNil))))))
@[reducible] def B__law_tick_2 (K : PySem.W.Frag) : ME := (mDis (fun ds => .dat (.tuple ds)) (mCons (mFz (mOp fSub (mC (.int 1)) (mVar 5))) (mCons (mFz (mVar 9)) mNil)))
@[reducible] def B__law_tick_3 (K : PySem.W.Frag) : MS := (mAsgG (mgT 2 (mgCons (mgN 5) (mgCons (mgN 8) mgNil))) (mD (mIfE (mB (mOp fEq (mVar 9) (mC (.str "turn")))) (mDis (fun ds => .dat (.tuple ds)) (mCons (mFz (mVar 5)) (mCons (mFz (mC (.str "rest"))) mNil))) (B__law_tick_2 K))))
@[reducible] def B__law_tick_4 (K : PySem.W.Frag) : MS := (mSeq (mAsg 9 (mCall0 (d__law_word K) (mCons (mVar 2) (mCons (mVar 4) (mCons (mOp fSub (mC (.int 1)) (mVar 5)) (mCons (mVar 7) mNil))))))
  (B__law_tick_3 K))
@[reducible] def B__law_tick_5 (K : PySem.W.Frag) : MS := (mRet (mDis (fun ds => .dat (.tuple ds)) (mCons (mFz (mVar 4)) (mCons (mFz (mVar 5)) (mCons (mFz (mVar 1)) (mCons (mFz (mUn fTuple (mLc (mIt (mVar 7)) (mgN 10) (mB (mOp fNe (mVar 10) (mVar 4))) (mVar 10) [10]))) mNil))))))
@[reducible] def B__law_tick_6 (K : PySem.W.Frag) : MS := (mRet (mDis (fun ds => .dat (.tuple ds)) (mCons (mFz (mCB (fl2 fMax2) (mCons (mC (.int 0)) (mCons (mCB (fl2 fMin2) (mCons (mOp fSub (mVar 0) (mC (.int 1))) (mCons (mOp fAdd (mVar 4) (mIfE (mB (mOp fEq (mVar 5) (mC (.int 1)))) (mC (.int 1)) (mUn fNeg (mC (.int 1))))) mNil))) mNil)))) (mCons (mFz (mVar 5)) (mCons (mFz (mC (.int 0))) (mCons (mFz (mVar 7)) mNil))))))
@[reducible] def B__law_tick_7 (K : PySem.W.Frag) : MS := (mRet (mDis (fun ds => .dat (.tuple ds)) (mCons (mFz (mVar 4)) (mCons (mFz (mVar 5)) (mCons (mFz (mC (.int 0))) (mCons (mFz (mVar 7)) mNil))))))
@[reducible] def B__law_tick_8 (K : PySem.W.Frag) : MS := (mSeq (mIf (mB (mOp fEq (mVar 8) (mC (.str "go")))) (B__law_tick_6 K) mNext)
  (B__law_tick_7 K))
@[reducible] def B__law_tick_9 (K : PySem.W.Frag) : MS := (mSeq (mIf (mB (mOp fEq (mVar 8) (mC (.str "open")))) (B__law_tick_5 K) mNext)
  (B__law_tick_8 K))
@[reducible] def B__law_tick_10 (K : PySem.W.Frag) : MS := (mSeq (mIf (mB (mOp fEq (mVar 8) (mC (.str "turn")))) (B__law_tick_4 K) mNext)
  (B__law_tick_9 K))
@[reducible] def B__law_tick_11 (K : PySem.W.Frag) : MS := (mSeq (mAsg 8 (mCall0 (d__law_word K) (mCons (mVar 2) (mCons (mVar 4) (mCons (mVar 5) (mCons (mVar 7) mNil))))))
  (B__law_tick_10 K))
@[reducible] def B__law_tick_12 (K : PySem.W.Frag) : MS := (mSeq (mIf (mB (mOp fGt (mVar 6) (mC (.int 1)))) (B__law_tick_1 K) mNext)
  (B__law_tick_11 K))
def b__law_tick (K : PySem.W.Frag) : MS := (mSeq (mAsgG (mgT 4 (mgCons (mgN 4) (mgCons (mgN 5) (mgCons (mgN 6) (mgCons (mgN 7) mgNil))))) (mD (mVar 3)))
  (B__law_tick_12 K))
def d__law_tick (K : PySem.W.Frag) : Den := runF 4 11 (b__law_tick K)
@[reducible] def B__law_lift_walk_1 (K : PySem.W.Frag) : MS := (mRet (mDis (fun ds => .dat (.tuple ds)) (mCons (mFz (mVar 3)) (mCons (mFz (mVar 4)) mNil))))
@[reducible] def B__law_lift_walk_2 (K : PySem.W.Frag) : MS := (mSeq (mNPut 5 (mD (mVar 9)) (mD (mCB (fl1 fLen) (mCons (mVar 3) mNil))))
  (mDrop (mLM fAppend 3 (mCons (mFz (mVar 9)) mNil))))
@[reducible] def B__law_lift_walk_3 (K : PySem.W.Frag) : MS := (mIf (mB (mInN true (mD (mVar 9)) (mVar 5))) (B__law_lift_walk_2 K) mNext)
@[reducible] def B__law_lift_walk_4 (K : PySem.W.Frag) : MS := (mDrop (mLM fAppend 4 (mCons (mFz (mLc (mIt (mVar 7)) (mgN 9) mYes (mGetN (mVar 5) (mD (mVar 9))) [9])) mNil)))
@[reducible] def B__law_lift_walk_5 (K : PySem.W.Frag) : MS := (mSeq (mFor (mIt (mVar 7)) (mgN 9) (B__law_lift_walk_3 K))
  (B__law_lift_walk_4 K))
@[reducible] def B__law_lift_walk_6 (K : PySem.W.Frag) : MS := (mSeq (mAsg 7 (mOp fAdd (mLc (mRng1 (mCons (mFz (mVar 0)) mNil)) (mgN 8) mYes (mCall0 (d__law_called K) (mCons (mOp fIx (mVar 3) (mVar 6)) (mCons (mVar 8) mNil))) [8]) (mDis (fun ds => .lst ds) (mCons (mFz (mCall0 (d__law_tick K) (mCons (mVar 0) (mCons (mVar 1) (mCons (mVar 2) (mCons (mOp fIx (mVar 3) (mVar 6)) mNil)))))) mNil))))
  (B__law_lift_walk_5 K))
@[reducible] def B__law_lift_walk_7 (K : PySem.W.Frag) : MS := (mSeq (mIf (mB (mOp fEq (mVar 6) (mCB (fl1 fLen) (mCons (mVar 3) mNil)))) (B__law_lift_walk_1 K) mNext)
  (B__law_lift_walk_6 K))
@[reducible] def B__law_lift_walk_8 (K : PySem.W.Frag) : MS := (mRet (mDis (fun ds => .dat (.tuple ds)) (mCons (mFz (mVar 3)) (mCons (mFz (mVar 4)) mNil))))
@[reducible] def B__law_lift_walk_9 (K : PySem.W.Frag) : MS := (mSeq (mFor (mRng1 (mCons (mFz (mC (.int 16385))) mNil)) (mgN 6) (B__law_lift_walk_7 K))
  (B__law_lift_walk_8 K))
@[reducible] def B__law_lift_walk_10 (K : PySem.W.Frag) : MS := (mSeq (mAsg 5 (mCB (fl1 fDictN) (mCons (mDis (fun ds => .lst ds) (mCons (mFz (mDis (fun ds => .dat (.tuple ds)) (mCons (mFz (mOp fIx (mVar 3) (mC (.int 0)))) (mCons (mFz (mC (.int 0))) mNil)))) mNil)) mNil)))
  (B__law_lift_walk_9 K))
def b__law_lift_walk (K : PySem.W.Frag) : MS := (mSeq (mPar [3, 4] (mCons (mMv (mDis (fun ds => .lst ds) (mCons (mFz (mDis (fun ds => .dat (.tuple ds)) (mCons (mFz (mC (.int 0))) (mCons (mFz (mC (.int 0))) (mCons (mFz (mC (.int 0))) (mCons (mFz (mDis (fun ds => .dat (.tuple ds)) mNil)) mNil)))))) mNil))) (mCons (mMv (mDis (fun ds => .lst ds) mNil)) mNil)))
  (B__law_lift_walk_10 K))
def d__law_lift_walk (K : PySem.W.Frag) : Den := runF 3 10 (b__law_lift_walk K)
@[reducible] def B_is_whole_1 (K : PySem.W.Frag) : ME := (mAndV (mB (mNotV (mB (mIsi Lk.isBool (mVar 0))))) (mChain fLe fLe (mD (mVar 1)) (mD (mVar 0)) (mD (mVar 2))))
def b_is_whole (K : PySem.W.Frag) : MS := (mRet (mAndV (mB (mIsi Lk.isInt (mVar 0))) (B_is_whole_1 K)))
def d_is_whole (K : PySem.W.Frag) : Den := runF 3 3 (b_is_whole K)
@[reducible] def B_is_rule_1 (K : PySem.W.Frag) : MS := (mRet (mCB (fl1 fAll) (mCons (mLc (mIt (mVar 0)) (mgN 1) mYes (mAndV (mB (mIsi Lk.isStr (mVar 1))) (mOp fIn (mVar 1) (mC k_WORDS))) [1]) mNil)))
def b_is_rule (K : PySem.W.Frag) : MS := (mSeq (mIf (mOr (mNot (mB (mIsi Lk.isTup (mVar 0)))) (mB (mOp fNe (mCB (fl1 fLen) (mCons (mVar 0) mNil)) (mC (.int 16))))) (mRet (mC (.bool false))) mNext)
  (B_is_rule_1 K))
def d_is_rule (K : PySem.W.Frag) : Den := runF 1 2 (b_is_rule K)
@[reducible] def B_need_lift_1 (K : PySem.W.Frag) : MS := (mIf (mNot (mB (mCall0 (d_is_rule K) (mCons (mVar 2) mNil)))) (mRaise (He.ga K "BadRule")) mNext)
@[reducible] def B_need_lift_2 (K : PySem.W.Frag) : MS := (mSeq (mIf (mNot (mB (mCall0 (d_is_whole K) (mCons (mVar 1) (mCons (mC (.int 1)) (mCons (mC k_MOST_STAY) mNil)))))) (mRaise (He.ga K "BadStay")) mNext)
  (B_need_lift_1 K))
def b_need_lift (K : PySem.W.Frag) : MS := (mSeq (mIf (mNot (mB (mCall0 (d_is_whole K) (mCons (mVar 0) (mCons (mC (.int 2)) (mCons (mC k_MOST_FLOORS) mNil)))))) (mRaise (He.ga K "BadFloors")) mNext)
  (B_need_lift_2 K))
def d_need_lift (K : PySem.W.Frag) : Den := runF 3 3 (b_need_lift K)
def b_lift_signals (K : PySem.W.Frag) : MS := (mRet (mDis (fun ds => .lst ds) (mStar (mLc (mRng1 (mCons (mFz (mVar 0)) mNil)) (mgN 1) mYes (mDis (fun ds => .dat (.tuple ds)) (mCons (mFz (mC (.str "call"))) (mCons (mFz (mVar 1)) mNil))) [1]) (mCons (mFz (mC k_TICK)) mNil))))
def d_lift_signals (K : PySem.W.Frag) : Den := runF 1 2 (b_lift_signals K)
@[reducible] def B_web_walked_1 (K : PySem.W.Frag) : MS := (mDrop (mLM fAppend 3 (mCons (mFz (mUn fTuple (mLc (mZip (mVar 2) (mVar 4)) (mgT 2 (mgCons (mgN 5) (mgCons (mgN 6) mgNil))) mYes (mDis (fun ds => .dat (.tuple ds)) (mCons (mFz (mVar 5)) (mCons (mFz (mC .none)) (mCons (mFz (mC .none)) (mCons (mFz (mVar 6)) mNil))))) [5, 6]))) mNil)))
@[reducible] def B_web_walked_2 (K : PySem.W.Frag) : MS := (mRet (mDis (fun ds => .dat (.tuple ds)) (mCons (mFz (mC (.str "web"))) (mCons (mFz (mDis (fun ds => .dat (.tuple ds)) (mCons (mFz (mC (.int 0))) mNil))) (mCons (mFz (mUn fTuple (mVar 3))) mNil)))))
@[reducible] def B_web_walked_3 (K : PySem.W.Frag) : MS := (mSeq (mFor (mIt (mVar 1)) (mgN 4) (B_web_walked_1 K))
  (B_web_walked_2 K))
def b_web_walked (K : PySem.W.Frag) : MS := (mSeq (mPar [2, 3] (mCons (mMv (mCall0 (d_lift_signals K) (mCons (mVar 0) mNil))) (mCons (mMv (mDis (fun ds => .lst ds) mNil)) mNil)))
  (B_web_walked_3 K))
def d_web_walked (K : PySem.W.Frag) : Den := runF 2 7 (b_web_walked K)
@[reducible] def B_with_call_1 (K : PySem.W.Frag) : MS := (mRet (mDis (fun ds => .dat (.tuple ds)) (mCons (mFz (mVar 2)) (mCons (mFz (mVar 3)) (mCons (mFz (mVar 4)) (mCons (mFz (mUn fTuple (mCB (fl1 fSortI) (mCons (mDis (fun ds => .lst ds) (mStar (mVar 5) (mCons (mFz (mVar 1)) mNil))) mNil)))) mNil))))))
@[reducible] def B_with_call_2 (K : PySem.W.Frag) : MS := (mSeq (mIf (mOr (mB (mOp fIn (mVar 1) (mVar 5))) (mAnd (mB (mOp fGt (mVar 4) (mC (.int 0)))) (mB (mOp fEq (mVar 1) (mVar 2))))) (mRet (mVar 0)) mNext)
  (B_with_call_1 K))
def b_with_call (K : PySem.W.Frag) : MS := (mSeq (mAsgG (mgT 4 (mgCons (mgN 2) (mgCons (mgN 3) (mgCons (mgN 4) (mgCons (mgN 5) mgNil))))) (mD (mVar 0)))
  (B_with_call_2 K))
def d_with_call (K : PySem.W.Frag) : Den := runF 2 6 (b_with_call K)
@[reducible] def B_word_for_1 (K : PySem.W.Frag) : MS := (mRet (mOp fIx (mVar 0) (mOp fAdd (mOp fAdd (mOp fAdd (mOp fMul (mC (.int 8)) (mVar 2)) (mOp fMul (mC (.int 4)) (mIfE (mB (mOp fIn (mVar 1) (mVar 3))) (mC (.int 1)) (mC (.int 0))))) (mOp fMul (mC (.int 2)) (mIfE (mB (mVar 7)) (mC (.int 1)) (mC (.int 0))))) (mIfE (mB (mVar 8)) (mC (.int 1)) (mC (.int 0))))))
@[reducible] def B_word_for_2 (K : PySem.W.Frag) : MS := (mSeq (mAsgG (mgT 2 (mgCons (mgN 7) (mgCons (mgN 8) mgNil))) (mD (mIfE (mB (mOp fEq (mVar 2) (mC (.int 1)))) (mDis (fun ds => .dat (.tuple ds)) (mCons (mFz (mVar 4)) (mCons (mFz (mVar 5)) mNil))) (mDis (fun ds => .dat (.tuple ds)) (mCons (mFz (mVar 5)) (mCons (mFz (mVar 4)) mNil))))))
  (B_word_for_1 K))
def b_word_for (K : PySem.W.Frag) : MS := (mSeq (mPar [4, 5] (mCons (mMv (mCB (fl1 fAny) (mCons (mLc (mIt (mVar 3)) (mgN 6) mYes (mOp fGt (mVar 6) (mVar 1)) [6]) mNil))) (mCons (mMv (mCB (fl1 fAny) (mCons (mLc (mIt (mVar 3)) (mgN 6) mYes (mOp fLt (mVar 6) (mVar 1)) [6]) mNil))) mNil)))
  (B_word_for_2 K))
def d_word_for (K : PySem.W.Frag) : Den := runF 4 9 (b_word_for K)
@[reducible] def B_worked_off_1 (K : PySem.W.Frag) : MS := (mRet (mDis (fun ds => .dat (.tuple ds)) (mCons (mFz (mVar 4)) (mCons (mFz (mVar 5)) (mCons (mFz (mOp fSub (mVar 6) (mC (.int 1)))) (mCons (mFz (mVar 7)) mNil))))))
@[reducible] def B_worked_off_2 (K : PySem.W.Frag) : MS := (mPar [8, 5] (mCons (mMv (mC (.str "rest"))) (mCons (mMv (mOp fSub (mC (.int 1)) (mVar 5))) mNil)))
@[reducible] def B_worked_off_3 (K : PySem.W.Frag) : MS := (mIf (mB (mOp fEq (mVar 8) (mC (.str "turn")))) (B_worked_off_2 K) mNext)
@[reducible] def B_worked_off_4 (K : PySem.W.Frag) : MS := (mSeq (mPar [8, 5] (mCons (mMv (mCall0 (d_word_for K) (mCons (mVar 2) (mCons (mVar 4) (mCons (mOp fSub (mC (.int 1)) (mVar 5)) (mCons (mVar 7) mNil)))))) (mCons (mMv (mOp fSub (mC (.int 1)) (mVar 5))) mNil)))
  (B_worked_off_3 K))
@[reducible] def B_worked_off_5 (K : PySem.W.Frag) : MS := (mRet (mDis (fun ds => .dat (.tuple ds)) (mCons (mFz (mVar 4)) (mCons (mFz (mVar 5)) (mCons (mFz (mVar 1)) (mCons (mFz (mUn fTuple (mLc (mIt (mVar 7)) (mgN 9) (mB (mOp fNe (mVar 9) (mVar 4))) (mVar 9) [9]))) mNil))))))
@[reducible] def B_worked_off_6 (K : PySem.W.Frag) : MS := (mRet (mDis (fun ds => .dat (.tuple ds)) (mCons (mFz (mVar 10)) (mCons (mFz (mVar 5)) (mCons (mFz (mC (.int 0))) (mCons (mFz (mVar 7)) mNil))))))
@[reducible] def B_worked_off_7 (K : PySem.W.Frag) : MS := (mRet (mDis (fun ds => .dat (.tuple ds)) (mCons (mFz (mVar 4)) (mCons (mFz (mVar 5)) (mCons (mFz (mC (.int 0))) (mCons (mFz (mVar 7)) mNil))))))
@[reducible] def B_worked_off_8 (K : PySem.W.Frag) : MS := (mSeq (mIf (mAnd (mB (mOp fEq (mVar 8) (mC (.str "go")))) (mB (mChain fLe fLt (mD (mC (.int 0))) (mD (mVar 10)) (mD (mVar 0))))) (B_worked_off_6 K) mNext)
  (B_worked_off_7 K))
@[reducible] def B_worked_off_9 (K : PySem.W.Frag) : MS := (mSeq (mAsg 10 (mOp fSub (mOp fAdd (mVar 4) (mOp fMul (mC (.int 2)) (mVar 5))) (mC (.int 1))))
  (B_worked_off_8 K))
@[reducible] def B_worked_off_10 (K : PySem.W.Frag) : MS := (mSeq (mIf (mB (mOp fEq (mVar 8) (mC (.str "open")))) (B_worked_off_5 K) mNext)
  (B_worked_off_9 K))
@[reducible] def B_worked_off_11 (K : PySem.W.Frag) : MS := (mSeq (mIf (mB (mOp fEq (mVar 8) (mC (.str "turn")))) (B_worked_off_4 K) mNext)
  (B_worked_off_10 K))
@[reducible] def B_worked_off_12 (K : PySem.W.Frag) : MS := (mSeq (mAsg 8 (mCall0 (d_word_for K) (mCons (mVar 2) (mCons (mVar 4) (mCons (mVar 5) (mCons (mVar 7) mNil))))))
  (B_worked_off_11 K))
@[reducible] def B_worked_off_13 (K : PySem.W.Frag) : MS := (mSeq (mIf (mB (mOp fGt (mVar 6) (mC (.int 1)))) (B_worked_off_1 K) mNext)
  (B_worked_off_12 K))
def b_worked_off (K : PySem.W.Frag) : MS := (mSeq (mAsgG (mgT 4 (mgCons (mgN 4) (mgCons (mgN 5) (mgCons (mgN 6) (mgCons (mgN 7) mgNil))))) (mD (mVar 3)))
  (B_worked_off_13 K))
def d_worked_off (K : PySem.W.Frag) : Den := runF 4 11 (b_worked_off K)
@[reducible] def B_behind_signal_1 (K : PySem.W.Frag) : MS := (mRet (mCall0 (d_worked_off K) (mCons (mVar 0) (mCons (mVar 1) (mCons (mVar 2) (mCons (mVar 3) mNil))))))
@[reducible] def B_behind_signal_2 (K : PySem.W.Frag) : MS := (mRet (mCall0 (d_with_call K) (mCons (mVar 3) (mCons (mOp fIx (mVar 4) (mC (.int 1))) mNil))))
def b_behind_signal (K : PySem.W.Frag) : MS := (mSeq (mIf (mB (mOp fEq (mVar 4) (mC k_TICK))) (B_behind_signal_1 K) mNext)
  (B_behind_signal_2 K))
def d_behind_signal (K : PySem.W.Frag) : Den := runF 5 5 (b_behind_signal K)
@[reducible] def B_walked_1 (K : PySem.W.Frag) : MS := (mSeq (mNPut 4 (mD (mVar 9)) (mD (mCB (fl1 fLen) (mCons (mVar 3) mNil))))
  (mDrop (mLM fAppend 3 (mCons (mFz (mVar 9)) mNil))))
@[reducible] def B_walked_2 (K : PySem.W.Frag) : MS := (mDrop (mLM fAppend 7 (mCons (mFz (mGetN (mVar 4) (mD (mVar 9)))) mNil)))
@[reducible] def B_walked_3 (K : PySem.W.Frag) : MS := (mSeq (mIf (mB (mInN true (mD (mVar 9)) (mVar 4))) (B_walked_1 K) mNext)
  (B_walked_2 K))
@[reducible] def B_walked_4 (K : PySem.W.Frag) : MS := (mSeq (mAsg 9 (mCall0 (d_behind_signal K) (mCons (mVar 0) (mCons (mVar 1) (mCons (mVar 2) (mCons (mOp fIx (mVar 3) (mVar 6)) (mCons (mVar 8) mNil)))))))
  (B_walked_3 K))
@[reducible] def B_walked_5 (K : PySem.W.Frag) : MS := (mSeq (mDrop (mLM fAppend 5 (mCons (mFz (mVar 7)) mNil)))
  (mAug 6 (fun a b => a + b) (mD (mC (.int 1)))))
@[reducible] def B_walked_6 (K : PySem.W.Frag) : MS := (mSeq (mFor (mIt (mCall0 (d_lift_signals K) (mCons (mVar 0) mNil))) (mgN 8) (B_walked_4 K))
  (B_walked_5 K))
@[reducible] def B_walked_7 (K : PySem.W.Frag) : MS := (mRet (mDis (fun ds => .dat (.tuple ds)) (mCons (mFz (mVar 3)) (mCons (mFz (mVar 5)) mNil))))
@[reducible] def B_walked_8 (K : PySem.W.Frag) : MS := (mSeq (mWhile (mB (mOp fLt (mVar 6) (mCB (fl1 fLen) (mCons (mVar 3) mNil)))) (mSeq (mAsg 7 (mDis (fun ds => .lst ds) mNil))
  (B_walked_6 K)))
  (B_walked_7 K))
def b_walked (K : PySem.W.Frag) : MS := (mSeq (mPar [3, 4, 5, 6] (mCons (mMv (mDis (fun ds => .lst ds) (mCons (mFz (mDis (fun ds => .dat (.tuple ds)) (mCons (mFz (mC (.int 0))) (mCons (mFz (mC (.int 0))) (mCons (mFz (mC (.int 0))) (mCons (mFz (mDis (fun ds => .dat (.tuple ds)) mNil)) mNil)))))) mNil))) (mCons (mMv (mNDisp (mD (mDis (fun ds => .dat (.tuple ds)) (mCons (mFz (mC (.int 0))) (mCons (mFz (mC (.int 0))) (mCons (mFz (mC (.int 0))) (mCons (mFz (mDis (fun ds => .dat (.tuple ds)) mNil)) mNil)))))) (mD (mC (.int 0))))) (mCons (mMv (mDis (fun ds => .lst ds) mNil)) (mCons (mMv (mC (.int 0))) mNil)))))
  (B_walked_8 K))
def d_walked (K : PySem.W.Frag) : Den := runF 3 10 (b_walked K)
@[reducible] def B_lift_web_1 (K : PySem.W.Frag) : MS := (mRet (mCall0 (d_web_walked K) (mCons (mVar 0) (mCons (mOp fIx (mCall0 (d_walked K) (mCons (mVar 0) (mCons (mVar 1) (mCons (mVar 2) mNil)))) (mC (.int 1))) mNil))))
def b_lift_web (K : PySem.W.Frag) : MS := (mSeq (mDrop (mCall (d_need_lift K) (mCons (mVar 0) (mCons (mVar 1) (mCons (mVar 2) mNil)))))
  (B_lift_web_1 K))
def d_lift_web (K : PySem.W.Frag) : Den := runF 3 3 (b_lift_web K)
@[reducible] def B_collective_1 (K : PySem.W.Frag) : MS := (mRet (mDis (fun ds => .dat (.tuple ds)) (mStar (mVar 0) (mStar (mVar 0) mNil))))
def b_collective (K : PySem.W.Frag) : MS := (mSeq (mAsg 0 (mDis (fun ds => .dat (.tuple ds)) (mCons (mFz (mC (.str "rest"))) (mCons (mFz (mC (.str "turn"))) (mCons (mFz (mC (.str "go"))) (mCons (mFz (mC (.str "go"))) (mCons (mFz (mC (.str "open"))) (mCons (mFz (mC (.str "open"))) (mCons (mFz (mC (.str "open"))) (mCons (mFz (mC (.str "open"))) mNil))))))))))
  (B_collective_1 K))
def d_collective (K : PySem.W.Frag) : Den := runF 0 1 (b_collective K)
def b_one_way (K : PySem.W.Frag) : MS := (mRet (mDis (fun ds => .dat (.tuple ds)) (mStar (mSl (mCall0 (d_collective K) mNil) mONone (mOSome (mD (mC (.int 8))))) (mCons (mFz (mC (.str "rest"))) (mCons (mFz (mC (.str "turn"))) (mCons (mFz (mC (.str "go"))) (mCons (mFz (mC (.str "go"))) (mCons (mFz (mC (.str "turn"))) (mCons (mFz (mC (.str "turn"))) (mCons (mFz (mC (.str "go"))) (mCons (mFz (mC (.str "go"))) mNil)))))))))))
def d_one_way (K : PySem.W.Frag) : Den := runF 0 0 (b_one_way K)
def b__law_pick (K : PySem.W.Frag) : MS := (mRet (mOp fIx (mVar 1) (mCall0 dDraw (mCons (mVar 0) (mCons (mCB (fl1 fLen) (mCons (mVar 1) mNil)) mNil)))))
def d__law_pick (K : PySem.W.Frag) : Den := runF 2 2 (b__law_pick K)
@[reducible] def B__law_sheet_1 (K : PySem.W.Frag) : MS := (mLPut 3 (mD (mCall0 dDraw (mCons (mVar 0) (mCons (mC (.int 16)) mNil)))) (mD (mCall0 (d__law_pick K) (mCons (mVar 0) (mCons (mDis (fun ds => .lst ds) (mCons (mFz (mC (.str "go"))) (mCons (mFz (mC (.str "open"))) (mCons (mFz (mC (.str "rest"))) (mCons (mFz (mC (.str "turn"))) mNil))))) mNil)))))
@[reducible] def B__law_sheet_2 (K : PySem.W.Frag) : MS := (mSeq (mFor (mRng1 (mCons (mFz (mCall0 (d__law_pick K) (mCons (mVar 0) (mCons (mDis (fun ds => .lst ds) (mCons (mFz (mC (.int 0))) (mCons (mFz (mC (.int 1))) (mCons (mFz (mC (.int 2))) (mCons (mFz (mC (.int 5))) (mCons (mFz (mC (.int 16))) mNil)))))) mNil)))) mNil)) (mgN 4) (B__law_sheet_1 K))
  (mRet (mUn fTuple (mVar 3))))
@[reducible] def B__law_sheet_3 (K : PySem.W.Frag) : MS := (mSeq (mAsg 3 (mOp fAdd (mVar 1) (mVar 2)))
  (B__law_sheet_2 K))
@[reducible] def B__law_sheet_4 (K : PySem.W.Frag) : MS := (mSeq (mAsg 2 (mCall0 (d__law_pick K) (mCons (mVar 0) (mCons (mDis (fun ds => .lst ds) (mCons (mFz (mVar 1)) (mCons (mFz (mDis (fun ds => .lst ds) (mCons (mFz (mC (.str "rest"))) (mCons (mFz (mC (.str "turn"))) (mCons (mFz (mC (.str "go"))) (mCons (mFz (mC (.str "go"))) (mCons (mFz (mC (.str "turn"))) (mCons (mFz (mC (.str "turn"))) (mCons (mFz (mC (.str "go"))) (mCons (mFz (mC (.str "go"))) mNil)))))))))) mNil))) mNil))))
  (B__law_sheet_3 K))
def b__law_sheet (K : PySem.W.Frag) : MS := (mSeq (mAsg 1 (mDis (fun ds => .lst ds) (mCons (mFz (mC (.str "rest"))) (mCons (mFz (mC (.str "turn"))) (mCons (mFz (mC (.str "go"))) (mCons (mFz (mC (.str "go"))) (mCons (mFz (mC (.str "open"))) (mCons (mFz (mC (.str "open"))) (mCons (mFz (mC (.str "open"))) (mCons (mFz (mC (.str "open"))) mNil))))))))))
  (B__law_sheet_4 K))
def d__law_sheet (K : PySem.W.Frag) : Den := runF 1 5 (b__law_sheet K)
@[reducible] def B__law_any_now_1 (K : PySem.W.Frag) : MS := (mRet (mDis (fun ds => .dat (.tuple ds)) (mCons (mFz (mCall0 dDraw (mCons (mVar 0) (mCons (mVar 1) mNil)))) (mCons (mFz (mCall0 dDraw (mCons (mVar 0) (mCons (mC (.int 2)) mNil)))) (mCons (mFz (mCall0 dDraw (mCons (mVar 0) (mCons (mOp fAdd (mVar 2) (mC (.int 1))) mNil)))) (mCons (mFz (mVar 3)) mNil))))))
def b__law_any_now (K : PySem.W.Frag) : MS := (mSeq (mAsg 3 (mUn fTuple (mLc (mRng1 (mCons (mFz (mVar 1)) mNil)) (mgN 4) (mB (mOp fEq (mCall0 dDraw (mCons (mVar 0) (mCons (mC (.int 2)) mNil))) (mC (.int 0)))) (mVar 4) [4])))
  (B__law_any_now_1 K))
def d__law_any_now (K : PySem.W.Frag) : Den := runF 3 5 (b__law_any_now K)
@[reducible] def B_is_lift_standing_1 (K : PySem.W.Frag) : MT := (mOr (mB (mOp fNe (mCB (fl1 fLen) (mCons (mVar 2) mNil)) (mC (.int 4)))) (mNot (mB (mIsi Lk.isTup (mOp fIx (mVar 2) (mC (.int 3)))))))
@[reducible] def B_is_lift_standing_2 (K : PySem.W.Frag) : MT := (mNot (mB (mCall0 (d_is_whole K) (mCons (mOp fIx (mVar 2) (mC (.int 2))) (mCons (mC (.int 0)) (mCons (mVar 1) mNil))))))
@[reducible] def B_is_lift_standing_3 (K : PySem.W.Frag) : MT := (mOr (mNot (mB (mCall0 (d_is_whole K) (mCons (mOp fIx (mVar 2) (mC (.int 1))) (mCons (mC (.int 0)) (mCons (mC (.int 1)) mNil)))))) (B_is_lift_standing_2 K))
@[reducible] def B_is_lift_standing_4 (K : PySem.W.Frag) : MS := (mRet (mCB (fl1 fAll) (mCons (mLc (mZip (mVar 3) (mSl (mVar 3) (mOSome (mD (mC (.int 1)))) mONone)) (mgT 2 (mgCons (mgN 4) (mgCons (mgN 5) mgNil))) mYes (mOp fLt (mVar 4) (mVar 5)) [4, 5]) mNil)))
@[reducible] def B_is_lift_standing_5 (K : PySem.W.Frag) : MS := (mSeq (mIf (mNot (mB (mCB (fl1 fAll) (mCons (mLc (mIt (mVar 3)) (mgN 4) mYes (mCall0 (d_is_whole K) (mCons (mVar 4) (mCons (mC (.int 0)) (mCons (mOp fSub (mVar 0) (mC (.int 1))) mNil)))) [4]) mNil)))) (mRet (mC (.bool false))) mNext)
  (B_is_lift_standing_4 K))
@[reducible] def B_is_lift_standing_6 (K : PySem.W.Frag) : MS := (mSeq (mAsg 3 (mOp fIx (mVar 2) (mC (.int 3))))
  (B_is_lift_standing_5 K))
@[reducible] def B_is_lift_standing_7 (K : PySem.W.Frag) : MS := (mSeq (mIf (mOr (mNot (mB (mCall0 (d_is_whole K) (mCons (mOp fIx (mVar 2) (mC (.int 0))) (mCons (mC (.int 0)) (mCons (mOp fSub (mVar 0) (mC (.int 1))) mNil)))))) (B_is_lift_standing_3 K)) (mRet (mC (.bool false))) mNext)
  (B_is_lift_standing_6 K))
def b_is_lift_standing (K : PySem.W.Frag) : MS := (mSeq (mIf (mOr (mNot (mB (mIsi Lk.isTup (mVar 2)))) (B_is_lift_standing_1 K)) (mRet (mC (.bool false))) mNext)
  (B_is_lift_standing_7 K))
def d_is_lift_standing (K : PySem.W.Frag) : Den := runF 3 6 (b_is_lift_standing K)
@[reducible] def B_is_lift_signal_1 (K : PySem.W.Frag) : MT := (mOr (mB (mOp fEq (mVar 1) (mDis (fun ds => .dat (.tuple ds)) mNil))) (mNot (mB (mIsi Lk.isStr (mOp fIx (mVar 1) (mC (.int 0)))))))
@[reducible] def B_is_lift_signal_2 (K : PySem.W.Frag) : ME := (mCall0 (d_is_whole K) (mCons (mOp fIx (mVar 1) (mC (.int 1))) (mCons (mC (.int 0)) (mCons (mOp fSub (mVar 0) (mC (.int 1))) mNil))))
@[reducible] def B_is_lift_signal_3 (K : PySem.W.Frag) : ME := (mAndV (mB (mOp fEq (mCB (fl1 fLen) (mCons (mVar 1) mNil)) (mC (.int 2)))) (mAndV (mB (mOp fEq (mOp fIx (mVar 1) (mC (.int 0))) (mC (.str "call")))) (B_is_lift_signal_2 K)))
@[reducible] def B_is_lift_signal_4 (K : PySem.W.Frag) : MS := (mRet (mOrV (mB (mOp fEq (mVar 1) (mC k_TICK))) (B_is_lift_signal_3 K)))
def b_is_lift_signal (K : PySem.W.Frag) : MS := (mSeq (mIf (mOr (mNot (mB (mIsi Lk.isTup (mVar 1)))) (B_is_lift_signal_1 K)) (mRet (mC (.bool false))) mNext)
  (B_is_lift_signal_4 K))
def d_is_lift_signal (K : PySem.W.Frag) : Den := runF 2 2 (b_is_lift_signal K)
@[reducible] def B_lift_step_1 (K : PySem.W.Frag) : MS := (mRet (mCall0 (d_behind_signal K) (mCons (mVar 0) (mCons (mVar 1) (mCons (mVar 2) (mCons (mVar 3) (mCons (mVar 4) mNil)))))))
@[reducible] def B_lift_step_2 (K : PySem.W.Frag) : MS := (mSeq (mIf (mNot (mB (mCall0 (d_is_lift_signal K) (mCons (mVar 0) (mCons (mVar 4) mNil))))) (mRaise (He.ga K "BadSignal")) mNext)
  (B_lift_step_1 K))
@[reducible] def B_lift_step_3 (K : PySem.W.Frag) : MS := (mSeq (mIf (mNot (mB (mCall0 (d_is_lift_standing K) (mCons (mVar 0) (mCons (mVar 1) (mCons (mVar 3) mNil)))))) (mRaise (He.ga K "BadStanding")) mNext)
  (B_lift_step_2 K))
def b_lift_step (K : PySem.W.Frag) : MS := (mSeq (mDrop (mCall (d_need_lift K) (mCons (mVar 0) (mCons (mVar 1) (mCons (mVar 2) mNil)))))
  (B_lift_step_3 K))
def d_lift_step (K : PySem.W.Frag) : Den := runF 5 5 (b_lift_step K)
@[reducible] def B_lift_standings_1 (K : PySem.W.Frag) : MS := (mRet (mOp fIx (mCall0 (d_walked K) (mCons (mVar 0) (mCons (mVar 1) (mCons (mVar 2) mNil)))) (mC (.int 0))))
def b_lift_standings (K : PySem.W.Frag) : MS := (mSeq (mDrop (mCall (d_need_lift K) (mCons (mVar 0) (mCons (mVar 1) (mCons (mVar 2) mNil)))))
  (B_lift_standings_1 K))
def d_lift_standings (K : PySem.W.Frag) : Den := runF 3 3 (b_lift_standings K)
@[reducible] def B__law_refusals_right_1 (K : PySem.W.Frag) : ME := (mAndV (mB (mOp fIsB (mCall0 (d_is_rule K) (mCons (mVar 3) mNil)) (mC (.bool true)))) (mOp fIsB (mCall0 (d_is_rule K) (mCons (mVar 3) mNil)) (mC (.bool true))))
@[reducible] def B__law_refusals_right_2 (K : PySem.W.Frag) : List (Den × MA) := [((d_lift_step K), (mCons (mVar 5) (mCons (mVar 6) (mCons (mVar 7) (mCons (mVar 8) (mCons (mVar 9) mNil)))))), ((d_lift_web K), (mCons (mVar 1) (mCons (mVar 6) (mCons (mVar 7) mNil)))), ((d_lift_standings K), (mCons (mVar 1) (mCons (mVar 2) (mCons (mVar 7) mNil)))), ((d_lift_step K), (mCons (mVar 1) (mCons (mVar 2) (mCons (mVar 3) (mCons (mVar 8) (mCons (mVar 9) mNil)))))), ((d_lift_step K), (mCons (mVar 1) (mCons (mVar 2) (mCons (mVar 3) (mCons (mVar 4) (mCons (mVar 9) mNil))))))]
@[reducible] def B__law_refusals_right_3 (K : PySem.W.Frag) : MS := (mRet (mAndV (mB (mOp fIsB (mCall0 (d_is_rule K) (mCons (mVar 7) mNil)) (mC (.bool false)))) (B__law_refusals_right_1 K)))
@[reducible] def B__law_refusals_right_4 (K : PySem.W.Frag) : MS := (mWorks 10 11 (mB (mOp fNe (mWks K "none" (hsR K) (B__law_refusals_right_2 K) 11) (mDis (fun ds => .lst ds) (mCons (mFz (mC (.str "floors"))) (mCons (mFz (mC (.str "stay"))) (mCons (mFz (mC (.str "rule"))) (mCons (mFz (mC (.str "standing"))) (mCons (mFz (mC (.str "signal"))) mNil)))))))) (mRet (mC (.bool false))) mNext (B__law_refusals_right_3 K))
@[reducible] def B__law_refusals_right_5 (K : PySem.W.Frag) : MS := (mSeq (mAsg 9 (mCall0 (d__law_pick K) (mCons (mVar 0) (mCons (mDis (fun ds => .lst ds) (mCons (mFz (mC .none)) (mCons (mFz (mDis (fun ds => .dat (.tuple ds)) mNil)) (mCons (mFz (mDis (fun ds => .dat (.tuple ds)) (mCons (mFz (mC (.str "call"))) mNil))) (mCons (mFz (mDis (fun ds => .dat (.tuple ds)) (mCons (mFz (mC (.str "call"))) (mCons (mFz (mVar 1)) mNil)))) (mCons (mFz (mDis (fun ds => .dat (.tuple ds)) (mCons (mFz (mC (.str "call"))) (mCons (mFz (mUn fNeg (mC (.int 1)))) mNil)))) (mCons (mFz (mDis (fun ds => .dat (.tuple ds)) (mCons (mFz (mC (.str "call"))) (mCons (mFz (mC (.bool true))) mNil)))) (mCons (mFz (mDis (fun ds => .dat (.tuple ds)) (mCons (mFz (mC (.str "tick"))) (mCons (mFz (mC (.int 0))) mNil)))) (mCons (mFz (mC (.str "tick"))) (mCons (mFz (mDis (fun ds => .dat (.tuple ds)) (mCons (mFz (mC (.str "button"))) (mCons (mFz (mC (.int 0))) mNil)))) (mCons (mFz (mDis (fun ds => .lst ds) (mCons (mFz (mC (.str "tick"))) mNil))) mNil))))))))))) mNil))))
  (B__law_refusals_right_4 K))
@[reducible] def B__law_refusals_right_6 (K : PySem.W.Frag) : MS := (mSeq (mAsg 8 (mCall0 (d__law_pick K) (mCons (mVar 0) (mCons (mDis (fun ds => .lst ds) (mCons (mFz (mC .none)) (mCons (mFz (mSl (mVar 4) mONone (mOSome (mD (mC (.int 3)))))) (mCons (mFz (mCB (fl1 fList) (mCons (mVar 4) mNil))) (mCons (mFz (mOp fAdd (mDis (fun ds => .dat (.tuple ds)) (mCons (mFz (mVar 1)) mNil)) (mSl (mVar 4) (mOSome (mD (mC (.int 1)))) mONone))) (mCons (mFz (mOp fAdd (mDis (fun ds => .dat (.tuple ds)) (mCons (mFz (mUn fNeg (mC (.int 1)))) mNil)) (mSl (mVar 4) (mOSome (mD (mC (.int 1)))) mONone))) (mCons (mFz (mOp fAdd (mOp fAdd (mSl (mVar 4) mONone (mOSome (mD (mC (.int 1))))) (mDis (fun ds => .dat (.tuple ds)) (mCons (mFz (mC (.int 2))) mNil))) (mSl (mVar 4) (mOSome (mD (mC (.int 2)))) mONone))) (mCons (mFz (mOp fAdd (mDis (fun ds => .dat (.tuple ds)) (mCons (mFz (mC (.bool true))) mNil)) (mSl (mVar 4) (mOSome (mD (mC (.int 1)))) mONone))) (mCons (mFz (mOp fAdd (mOp fAdd (mSl (mVar 4) mONone (mOSome (mD (mC (.int 2))))) (mDis (fun ds => .dat (.tuple ds)) (mCons (mFz (mOp fAdd (mVar 2) (mC (.int 1)))) mNil))) (mSl (mVar 4) (mOSome (mD (mC (.int 3)))) mONone))) (mCons (mFz (mOp fAdd (mSl (mVar 4) mONone (mOSome (mD (mC (.int 3))))) (mDis (fun ds => .dat (.tuple ds)) (mCons (mFz (mDis (fun ds => .lst ds) mNil)) mNil)))) (mCons (mFz (mOp fAdd (mSl (mVar 4) mONone (mOSome (mD (mC (.int 3))))) (mDis (fun ds => .dat (.tuple ds)) (mCons (mFz (mDis (fun ds => .dat (.tuple ds)) (mCons (mFz (mC (.int 1))) (mCons (mFz (mC (.int 0))) mNil)))) mNil)))) (mCons (mFz (mOp fAdd (mSl (mVar 4) mONone (mOSome (mD (mC (.int 3))))) (mDis (fun ds => .dat (.tuple ds)) (mCons (mFz (mDis (fun ds => .dat (.tuple ds)) (mCons (mFz (mVar 1)) mNil))) mNil)))) (mCons (mFz (mOp fAdd (mSl (mVar 4) mONone (mOSome (mD (mC (.int 3))))) (mDis (fun ds => .dat (.tuple ds)) (mCons (mFz (mDis (fun ds => .dat (.tuple ds)) (mCons (mFz (mC (.int 0))) (mCons (mFz (mC (.int 0))) mNil)))) mNil)))) mNil))))))))))))) mNil))))
  (B__law_refusals_right_5 K))
@[reducible] def B__law_refusals_right_7 (K : PySem.W.Frag) : MS := (mSeq (mAsg 7 (mCall0 (d__law_pick K) (mCons (mVar 0) (mCons (mDis (fun ds => .lst ds) (mCons (mFz (mC .none)) (mCons (mFz (mSl (mVar 3) (mOSome (mD (mC (.int 1)))) mONone)) (mCons (mFz (mCB (fl1 fList) (mCons (mVar 3) mNil))) (mCons (mFz (mOp fAdd (mSl (mVar 3) mONone (mOSome (mD (mC (.int 15))))) (mDis (fun ds => .dat (.tuple ds)) (mCons (mFz (mC (.str "stay"))) mNil)))) (mCons (mFz (mOp fAdd (mSl (mVar 3) mONone (mOSome (mD (mC (.int 15))))) (mDis (fun ds => .dat (.tuple ds)) (mCons (mFz (mC (.int 0))) mNil)))) (mCons (mFz (mOp fAdd (mVar 3) (mDis (fun ds => .dat (.tuple ds)) (mCons (mFz (mC (.str "go"))) mNil)))) mNil))))))) mNil))))
  (B__law_refusals_right_6 K))
def b__law_refusals_right (K : PySem.W.Frag) : MS := (mSeq (mPar [5, 6] (mCons (mMv (mCall0 (d__law_pick K) (mCons (mVar 0) (mCons (mDis (fun ds => .lst ds) (mCons (mFz (mC .none)) (mCons (mFz (mC (.int 1))) (mCons (mFz (mC (.int 9))) (mCons (mFz (mC (.bool true))) (mCons (mFz (mC (.str "2"))) mNil)))))) mNil)))) (mCons (mMv (mCall0 (d__law_pick K) (mCons (mVar 0) (mCons (mDis (fun ds => .lst ds) (mCons (mFz (mC .none)) (mCons (mFz (mC (.int 0))) (mCons (mFz (mC (.int 7))) (mCons (mFz (mC (.bool true))) mNil))))) mNil)))) mNil)))
  (B__law_refusals_right_7 K))
def d__law_refusals_right (K : PySem.W.Frag) : Den := runF 5 12 (b__law_refusals_right K)
@[reducible] def B__law_lift_web_1 (K : PySem.W.Frag) : MS := (mRet (mDis (fun ds => .dat (.tuple ds)) (mCons (mFz (mC (.str "web"))) (mCons (mFz (mDis (fun ds => .dat (.tuple ds)) (mCons (mFz (mC (.int 0))) mNil))) (mCons (mFz (mUn fTuple (mLc (mIt (mVar 1)) (mgN 6) mYes (mUn fTuple (mLc (mZip (mVar 2) (mVar 6)) (mgT 2 (mgCons (mgN 4) (mgCons (mgN 5) mgNil))) mYes (mDis (fun ds => .dat (.tuple ds)) (mCons (mFz (mVar 4)) (mCons (mFz (mC .none)) (mCons (mFz (mC .none)) (mCons (mFz (mVar 5)) mNil))))) [4, 5])) [6]))) mNil)))))
def b__law_lift_web (K : PySem.W.Frag) : MS := (mSeq (mAsg 2 (mOp fAdd (mLc (mRng1 (mCons (mFz (mVar 0)) mNil)) (mgN 3) mYes (mDis (fun ds => .dat (.tuple ds)) (mCons (mFz (mC (.str "call"))) (mCons (mFz (mVar 3)) mNil))) [3]) (mDis (fun ds => .lst ds) (mCons (mFz (mDis (fun ds => .dat (.tuple ds)) (mCons (mFz (mC (.str "tick"))) mNil))) mNil))))
  (B__law_lift_web_1 K))
def d__law_lift_web (K : PySem.W.Frag) : Den := runF 2 7 (b__law_lift_web K)
@[reducible] def B_is_name_1 (K : PySem.W.Frag) : MT := (mOr (mNot (mB (mChain fLe fLe (mD (mC (.int 1))) (mD (mCB (fl1 fLen) (mCons (mVar 0) mNil))) (mD (mC (.int 8)))))) (mB (mOp fEq (mVar 0) (mC (.str "any")))))
@[reducible] def B_is_name_2 (K : PySem.W.Frag) : MS := (mRet (mCB (fl1 fAll) (mCons (mLc (mIt (mVar 0)) (mgN 1) mYes (mOp fIn (mVar 1) (mC k_LETTERS)) [1]) mNil)))
def b_is_name (K : PySem.W.Frag) : MS := (mSeq (mIf (mOr (mNot (mB (mIsi Lk.isStr (mVar 0)))) (B_is_name_1 K)) (mRet (mC (.bool false))) mNext)
  (B_is_name_2 K))
def d_is_name (K : PySem.W.Frag) : Den := runF 1 2 (b_is_name K)
@[reducible] def B_is_post_1 (K : PySem.W.Frag) : ME := (mCB (fl1 fAll) (mCons (mLc (mIt (mVar 0)) (mgN 1) mYes (mCall0 (d_is_name K) (mCons (mVar 1) mNil)) [1]) mNil))
def b_is_post (K : PySem.W.Frag) : MS := (mRet (mAndV (mB (mIsi Lk.isTup (mVar 0))) (mAndV (mB (mOp fEq (mCB (fl1 fLen) (mCons (mVar 0) mNil)) (mC (.int 2)))) (B_is_post_1 K))))
def d_is_post (K : PySem.W.Frag) : Den := runF 1 2 (b_is_post K)
@[reducible] def B_is_label_1 (K : PySem.W.Frag) : MT := (mOr (mB (mOp fEq (mVar 0) (mDis (fun ds => .dat (.tuple ds)) mNil))) (mNot (mB (mIsi Lk.isStr (mOp fIx (mVar 0) (mC (.int 0)))))))
@[reducible] def B_is_label_2 (K : PySem.W.Frag) : MS := (mRet (mCB (fl1 fAll) (mCons (mLc (mIt (mVar 0)) (mgN 1) mYes (mOrV (mB (mIsi Lk.isStr (mVar 1))) (mAndV (mB (mIsi Lk.isInt (mVar 1))) (mNotV (mB (mIsi Lk.isBool (mVar 1)))))) [1]) mNil)))
def b_is_label (K : PySem.W.Frag) : MS := (mSeq (mIf (mOr (mNot (mB (mIsi Lk.isTup (mVar 0)))) (B_is_label_1 K)) (mRet (mC (.bool false))) mNext)
  (B_is_label_2 K))
def d_is_label (K : PySem.W.Frag) : Den := runF 1 2 (b_is_label K)
@[reducible] def B_is_move_1 (K : PySem.W.Frag) : MT := (mNot (mB (mCall0 (d_is_whole K) (mCons (mOp fIx (mVar 0) (mC (.int 3))) (mCons (mC (.int 0)) (mCons (mOp fSub (mVar 1) (mC (.int 1))) mNil))))))
@[reducible] def B_is_move_2 (K : PySem.W.Frag) : MT := (mOr (mNot (mB (mCall0 (d_is_label K) (mCons (mOp fIx (mVar 0) (mC (.int 0))) mNil)))) (B_is_move_1 K))
@[reducible] def B_is_move_3 (K : PySem.W.Frag) : MS := (mRet (mAndV (mB (mOp fIsN (mOp fIx (mVar 0) (mC (.int 1))) (mC .none))) (mOp fIsN (mOp fIx (mVar 0) (mC (.int 2))) (mC .none))))
@[reducible] def B_is_move_4 (K : PySem.W.Frag) : ME := (mOp fEq (mOp fIx (mOp fIx (mVar 0) (mC (.int 1))) (mC (.int 0))) (mOp fIx (mOp fIx (mVar 0) (mC (.int 2))) (mC (.int 0))))
@[reducible] def B_is_move_5 (K : PySem.W.Frag) : MS := (mRet (mAndV (mB (mCall0 (d_is_post K) (mCons (mOp fIx (mVar 0) (mC (.int 1))) mNil))) (mAndV (mB (mCall0 (d_is_post K) (mCons (mOp fIx (mVar 0) (mC (.int 2))) mNil))) (B_is_move_4 K))))
@[reducible] def B_is_move_6 (K : PySem.W.Frag) : MS := (mSeq (mIf (mOr (mB (mOp fIsN (mOp fIx (mVar 0) (mC (.int 1))) (mC .none))) (mB (mOp fIsN (mOp fIx (mVar 0) (mC (.int 2))) (mC .none)))) (B_is_move_3 K) mNext)
  (B_is_move_5 K))
def b_is_move (K : PySem.W.Frag) : MS := (mSeq (mIf (mOr (mNot (mB (mIsi Lk.isTup (mVar 0)))) (mOr (mB (mOp fNe (mCB (fl1 fLen) (mCons (mVar 0) mNil)) (mC (.int 4)))) (B_is_move_2 K))) (mRet (mC (.bool false))) mNext)
  (B_is_move_6 K))
def d_is_move (K : PySem.W.Frag) : Den := runF 2 2 (b_is_move K)
@[reducible] def B_is_web_1 (K : PySem.W.Frag) : MT := (mOr (mB (mOp fNe (mCB (fl1 fLen) (mCons (mVar 0) mNil)) (mC (.int 3)))) (mB (mOp fNe (mOp fIx (mVar 0) (mC (.int 0))) (mC (.str "web")))))
@[reducible] def B_is_web_2 (K : PySem.W.Frag) : MT := (mNot (mB (mChain fLe fLe (mD (mC (.int 1))) (mD (mCB (fl1 fLen) (mCons (mVar 3) mNil))) (mD (mC k_MOST_PLACES)))))
@[reducible] def B_is_web_3 (K : PySem.W.Frag) : MT := (mNot (mB (mCB (fl1 fAll) (mCons (mLc (mIt (mVar 2)) (mgN 4) mYes (mCall0 (d_is_whole K) (mCons (mVar 4) (mCons (mC (.int 0)) (mCons (mOp fSub (mCB (fl1 fLen) (mCons (mVar 3) mNil)) (mC (.int 1))) mNil)))) [4]) mNil))))
@[reducible] def B_is_web_4 (K : PySem.W.Frag) : MT := (mNot (mB (mCB (fl1 fAll) (mCons (mLc (mIt (mVar 6)) (mgN 4) mYes (mCall0 (d_is_move K) (mCons (mVar 4) (mCons (mCB (fl1 fLen) (mCons (mVar 3) mNil)) mNil))) [4]) mNil))))
@[reducible] def B_is_web_5 (K : PySem.W.Frag) : MS := (mIf (mB (mOp fLt (mUn fLenSet (mVar 6)) (mCB (fl1 fLen) (mCons (mVar 6) mNil)))) (mRet (mC (.bool false))) mNext)
@[reducible] def B_is_web_6 (K : PySem.W.Frag) : MS := (mSeq (mIf (mOr (mNot (mB (mIsi Lk.isTup (mVar 6)))) (B_is_web_4 K)) (mRet (mC (.bool false))) mNext)
  (B_is_web_5 K))
@[reducible] def B_is_web_7 (K : PySem.W.Frag) : MS := (mSeq (mFor (mIt (mVar 3)) (mgN 6) (B_is_web_6 K))
  (mRet (mC (.bool true))))
@[reducible] def B_is_web_8 (K : PySem.W.Frag) : MS := (mSeq (mIf (mNot (mB (mCB (fl1 fAll) (mCons (mLc (mZip (mVar 2) (mSl (mVar 2) (mOSome (mD (mC (.int 1)))) mONone)) (mgT 2 (mgCons (mgN 4) (mgCons (mgN 5) mgNil))) mYes (mOp fLt (mVar 4) (mVar 5)) [4, 5]) mNil)))) (mRet (mC (.bool false))) mNext)
  (B_is_web_7 K))
@[reducible] def B_is_web_9 (K : PySem.W.Frag) : MS := (mSeq (mIf (mOr (mB (mOp fEq (mVar 2) (mDis (fun ds => .dat (.tuple ds)) mNil))) (B_is_web_3 K)) (mRet (mC (.bool false))) mNext)
  (B_is_web_8 K))
@[reducible] def B_is_web_10 (K : PySem.W.Frag) : MS := (mSeq (mIf (mOr (mNot (mB (mIsi Lk.isTup (mVar 2)))) (mOr (mNot (mB (mIsi Lk.isTup (mVar 3)))) (B_is_web_2 K))) (mRet (mC (.bool false))) mNext)
  (B_is_web_9 K))
@[reducible] def B_is_web_11 (K : PySem.W.Frag) : MS := (mSeq (mAsgG (mgT 3 (mgCons (mgN 1) (mgCons (mgN 2) (mgCons (mgN 3) mgNil)))) (mD (mVar 0)))
  (B_is_web_10 K))
def b_is_web (K : PySem.W.Frag) : MS := (mSeq (mIf (mOr (mNot (mB (mIsi Lk.isTup (mVar 0)))) (B_is_web_1 K)) (mRet (mC (.bool false))) mNext)
  (B_is_web_11 K))
def d_is_web (K : PySem.W.Frag) : Den := runF 1 7 (b_is_web K)
@[reducible] def B__law_row_right_1 (K : PySem.W.Frag) : ME := (mDis (fun ds => .dat (.tuple ds)) (mCons (mFz (mC (.str "call"))) (mCons (mFz (mCall0 dDraw (mCons (mVar 0) (mCons (mVar 1) mNil)))) mNil)))
@[reducible] def B__law_row_right_2 (K : PySem.W.Frag) : MS := (mIf (mB (mOp fNe (mOp fIx (mVar 5) (mVar 7)) (mVar 6))) (mRet (mC (.bool false))) mNext)
@[reducible] def B__law_row_right_3 (K : PySem.W.Frag) : MS := (mSeq (mAsg 7 (mOp fIx (mLc (mIt (mOp fIx (mOp fIx (mVar 4) (mC (.int 2))) (mVar 7))) (mgN 10) (mB (mOp fEq (mOp fIx (mVar 10) (mC (.int 0))) (mVar 9))) (mOp fIx (mVar 10) (mC (.int 3))) [10]) (mC (.int 0))))
  (B__law_row_right_2 K))
@[reducible] def B__law_row_right_4 (K : PySem.W.Frag) : MS := (mSeq (mAsg 6 (mCall (d_lift_step K) (mCons (mVar 1) (mCons (mVar 2) (mCons (mVar 3) (mCons (mVar 6) (mCons (mVar 9) mNil)))))))
  (B__law_row_right_3 K))
@[reducible] def B__law_row_right_5 (K : PySem.W.Frag) : MS := (mSeq (mAsg 9 (mIfE (mB (mOp fEq (mCall0 dDraw (mCons (mVar 0) (mCons (mC (.int 2)) mNil))) (mC (.int 0)))) (mDis (fun ds => .dat (.tuple ds)) (mCons (mFz (mC (.str "tick"))) mNil)) (B__law_row_right_1 K)))
  (B__law_row_right_4 K))
@[reducible] def B__law_row_right_6 (K : PySem.W.Frag) : MS := (mSeq (mFor (mRng1 (mCons (mFz (mC (.int 40))) mNil)) (mgN 8) (B__law_row_right_5 K))
  (mRet (mC (.bool true))))
def b__law_row_right (K : PySem.W.Frag) : MS := (mSeq (mPar [5, 6, 7] (mCons (mMv (mCall (d_lift_standings K) (mCons (mVar 1) (mCons (mVar 2) (mCons (mVar 3) mNil))))) (mCons (mMv (mDis (fun ds => .dat (.tuple ds)) (mCons (mFz (mC (.int 0))) (mCons (mFz (mC (.int 0))) (mCons (mFz (mC (.int 0))) (mCons (mFz (mDis (fun ds => .dat (.tuple ds)) mNil)) mNil)))))) (mCons (mMv (mC (.int 0))) mNil))))
  (B__law_row_right_6 K))
def d__law_row_right (K : PySem.W.Frag) : Den := runF 5 11 (b__law_row_right K)
@[reducible] def B_law_1 (K : PySem.W.Frag) : MT := (mB (mOp fNe (mCall0 (d_one_way K) mNil) (mOp fAdd (mVar 2) (mDis (fun ds => .dat (.tuple ds)) (mCons (mFz (mC (.str "rest"))) (mCons (mFz (mC (.str "turn"))) (mCons (mFz (mC (.str "go"))) (mCons (mFz (mC (.str "go"))) (mCons (mFz (mC (.str "turn"))) (mCons (mFz (mC (.str "turn"))) (mCons (mFz (mC (.str "go"))) (mCons (mFz (mC (.str "go"))) mNil))))))))))))
@[reducible] def B_law_2 (K : PySem.W.Frag) : MT := (mNot (mB (mCall (d__law_row_right K) (mCons (mVar 1) (mCons (mVar 4) (mCons (mVar 5) (mCons (mVar 6) (mCons (mVar 9) mNil))))))))
@[reducible] def B_law_3 (K : PySem.W.Frag) : MS := (mIf (mB (mOp fNe (mVar 14) (mVar 13))) (mRet (mC (.bool false))) mNext)
@[reducible] def B_law_4 (K : PySem.W.Frag) : MS := (mSeq (mAsg 14 (mDis (fun ds => .lst ds) (mCons (mFz (mCall (d_lift_step K) (mCons (mVar 4) (mCons (mVar 5) (mCons (mVar 6) (mCons (mVar 11) (mCons (mDis (fun ds => .dat (.tuple ds)) (mCons (mFz (mC (.str "tick"))) mNil)) mNil))))))) (mCons (mFz (mCall0 (swapP [4, 3, 2, 1, 0] (d_lift_step K)) (mCons (mDis (fun ds => .dat (.tuple ds)) (mCons (mFz (mC (.str "call"))) (mCons (mFz (mVar 12)) mNil))) (mCons (mVar 11) (mCons (mVar 6) (mCons (mVar 5) (mCons (mVar 4) mNil))))))) mNil))))
  (B_law_3 K))
@[reducible] def B_law_5 (K : PySem.W.Frag) : MS := (mSeq (mAsg 13 (mDis (fun ds => .lst ds) (mCons (mFz (mCall0 (d__law_tick K) (mCons (mVar 4) (mCons (mVar 5) (mCons (mVar 6) (mCons (mVar 11) mNil)))))) (mCons (mFz (mCall0 (d__law_called K) (mCons (mVar 11) (mCons (mVar 12) mNil)))) mNil))))
  (B_law_4 K))
@[reducible] def B_law_6 (K : PySem.W.Frag) : MS := (mSeq (mAsg 12 (mCall0 dDraw (mCons (mVar 1) (mCons (mVar 4) mNil))))
  (B_law_5 K))
@[reducible] def B_law_7 (K : PySem.W.Frag) : MS := (mSeq (mAsg 11 (mCall0 (d__law_any_now K) (mCons (mVar 1) (mCons (mVar 4) (mCons (mVar 5) mNil)))))
  (B_law_6 K))
@[reducible] def B_law_8 (K : PySem.W.Frag) : MS := (mIf (mNot (mB (mCall0 (d__law_refusals_right K) (mCons (mVar 1) (mCons (mVar 4) (mCons (mVar 5) (mCons (mVar 6) (mCons (mCall0 (d__law_any_now K) (mCons (mVar 1) (mCons (mVar 4) (mCons (mVar 5) mNil)))) mNil)))))))) (mRet (mC (.bool false))) mNext)
@[reducible] def B_law_9 (K : PySem.W.Frag) : MS := (mSeq (mFor (mRng1 (mCons (mFz (mC (.int 20))) mNil)) (mgN 10) (B_law_7 K))
  (B_law_8 K))
@[reducible] def B_law_10 (K : PySem.W.Frag) : MS := (mSeq (mIf (mOr (mB (mOp fNotB (mCall0 (d_is_web K) (mCons (mCall0 (swapP [0, 1, 2] (d_lift_web K)) (mCons (mVar 4) (mCons (mVar 5) (mCons (mVar 6) mNil)))) mNil)) (mC (.bool true)))) (B_law_2 K)) (mRet (mC (.bool false))) mNext)
  (B_law_9 K))
@[reducible] def B_law_11 (K : PySem.W.Frag) : MS := (mSeq (mIf (mOr (mB (mOp fNe (mCall0 (swapP [0, 1, 2] (d_lift_standings K)) (mCons (mVar 4) (mCons (mVar 5) (mCons (mVar 6) mNil)))) (mVar 7))) (mB (mOp fNe (mVar 9) (mCall0 (d__law_lift_web K) (mCons (mVar 4) (mCons (mVar 8) mNil)))))) (mRet (mC (.bool false))) mNext)
  (B_law_10 K))
@[reducible] def B_law_12 (K : PySem.W.Frag) : MS := (mSeq (mAsg 9 (mCall (d_lift_web K) (mCons (mVar 4) (mCons (mVar 5) (mCons (mVar 6) mNil)))))
  (B_law_11 K))
@[reducible] def B_law_13 (K : PySem.W.Frag) : MS := (mSeq (mAsgG (mgT 2 (mgCons (mgN 7) (mgCons (mgN 8) mgNil))) (mD (mCall0 (d__law_lift_walk K) (mCons (mVar 4) (mCons (mVar 5) (mCons (mVar 6) mNil))))))
  (B_law_12 K))
@[reducible] def B_law_14 (K : PySem.W.Frag) : MS := (mSeq (mPar [4, 5, 6] (mCons (mMv (mOp fAdd (mC (.int 2)) (mCall0 (d__law_pick K) (mCons (mVar 1) (mCons (mDis (fun ds => .lst ds) (mCons (mFz (mC (.int 0))) (mCons (mFz (mC (.int 1))) (mCons (mFz (mC (.int 1))) (mCons (mFz (mC (.int 2))) (mCons (mFz (mC (.int 0))) (mCons (mFz (mC (.int 3))) mNil))))))) mNil))))) (mCons (mMv (mOp fAdd (mC (.int 1)) (mCall0 dDraw (mCons (mVar 1) (mCons (mC (.int 6)) mNil))))) (mCons (mMv (mCall0 (d__law_sheet K) (mCons (mVar 1) mNil))) mNil))))
  (B_law_13 K))
@[reducible] def B_law_15 (K : PySem.W.Frag) : MS := (mSeq (mFor (mRng1 (mCons (mFz (mOp fAdd (mC (.int 1)) (mCB (fl2 fMin2) (mCons (mCB (fl1 fLen) (mCons (mVar 0) mNil)) (mCons (mC (.int 3)) mNil))))) mNil)) (mgN 3) (B_law_14 K))
  (mRet (mC (.bool true))))
@[reducible] def B_law_16 (K : PySem.W.Frag) : MS := (mSeq (mIf (mOr (mB (mOp fNe (mCall0 (d_collective K) mNil) (mOp fAdd (mVar 2) (mVar 2)))) (B_law_1 K)) (mRet (mC (.bool false))) mNext)
  (B_law_15 K))
@[reducible] def B_law_17 (K : PySem.W.Frag) : MS := (mSeq (mAsg 2 (mDis (fun ds => .dat (.tuple ds)) (mCons (mFz (mC (.str "rest"))) (mCons (mFz (mC (.str "turn"))) (mCons (mFz (mC (.str "go"))) (mCons (mFz (mC (.str "go"))) (mCons (mFz (mC (.str "open"))) (mCons (mFz (mC (.str "open"))) (mCons (mFz (mC (.str "open"))) (mCons (mFz (mC (.str "open"))) mNil))))))))))
  (B_law_16 K))
def b_law (K : PySem.W.Frag) : MS := (mSeq (mAsg 1 (mCall0 dBegun (mCons (mVar 0) mNil)))
  (B_law_17 K))
def d_law (K : PySem.W.Frag) : Den := runF 1 15 (b_law K)
end K48

/-! part Pd -/
namespace K48
open PySem PySem.Spec PyProof.Rows L2 Evl Lk LamX Mk
section
variable {P : Program} {w : World} {K : PySem.W.Frag} {mg : Str → Option Value} {base : Heap} {f : Addr} {fd : FuncData} {TT : List (Addr × Str)}
/-! ### the state of the draws (the same in every law) -/
theorem ok__law_begun (T : Txt K mg) (F : Fn K "_law_begun" s__law_begun f fd) : FnOk P w K mg base CX0 1 f fd ["script"] (spBegunA K) := by
  refine fn_run F sc__law_begun ?l fun cdv A outer s H E hr => ⟨_, (pss_cons (ps_setLc (i := 1) (own := [("cell", 2)]) (by rfl) sc__law_begun.nd rfl rfl (sw_true rfl rfl rfl (by decide +kernel)) (pi_list (pv 0)) (blkOk_by (own := [("cell", 2)]) (N := N__law_begun) (sc := defScope s__law_begun) (by decide +kernel)) (fun _ _ _ _ _ => (pg_name (i := 2) sc__law_begun.nd rfl (Or.inl rfl))) (fun _ _ _ _ _ => (pts_one (pt_cmpR op_ge (pe_callB cl_abs (by rfl) T.n_abs (by decide +kernel) (pa_cons (pv 2) pa_nil)) (pe_op op_pow pe_int pe_int) (nomark _)))) (fun _ _ _ _ _ => (pe_op op_sub (pe_callB cl_abs (by rfl) T.n_abs (by decide +kernel) (pa_cons (pv 2) pa_nil)) (pe_op op_pow pe_int pe_int))))
  (pss_one (ps_ret (pe_disp (pps_cons pe_str (pv 1) (pps_cons pe_str (by exact (pe_lc (own := [("cell", 2)]) (by rfl) sc__law_begun.nd (pi_list (pv 0)) (blkOk_by (own := [("cell", 2)]) (N := N__law_begun) (sc := defScope s__law_begun) (by decide +kernel)) (fun _ _ _ _ _ => (pg_name (i := 2) sc__law_begun.nd rfl (Or.inl rfl))) (fun _ _ _ _ _ => pts_nil) (fun _ _ _ _ _ => (pe_callB cl_abs (by rfl) T.n_abs (by decide +kernel) (pa_cons (pv 2) pa_nil))))) (pps_cons pe_str pe_int (pps_cons pe_str pe_int pps_nil)))) (by rfl) (by rfl) (fun z => by cases z) (by decide))))), ?p⟩
  case l =>
    rintro vs H Q E ⟨l, cs, rfl, _⟩
    rfl
  case p =>
    rintro vs Q ⟨l, cs, rfl, hl, hz, k⟩
    have at_i : ∀ (i : Nat) (x : V), (cs.map V.int)[i]? = some x → x = .int (cs.getD i 0) := fun i x h => by
      rw [List.getElem?_map] at h
      obtain ⟨y, hy, rfl⟩ := Option.map_eq_some_iff.mp h
      rw [List.getD_eq_getElem?_getD, hy]
      rfl
    have hz' : (cs.map V.int).length ≤ 40000 := by rw [List.length_map]; exact hz
    let ab : Int → Int := fun c => if c < 0 then -c else c
    have gv : ∀ (n : Nat) (f : Nat → Bool) (h : Nat → Int), given n f (fun i => V.int (h i)) = (((List.range n).filter f).map h).map V.int := fun n f h => by
      unfold given
      rw [List.map_map]
      rfl
    refine q_asgL (xs := given (cs.map V.int).length (fun i => decide ((10 : Int) ^ 18 ≤ ab (cs.getD i 0))) fun i => .int (ab (cs.getD i 0) - 10 ^ 18)) ?lc fun g H1 hg e1 h1 => ?_
    case lc =>
      refine el_lcL (xs := cs.map V.int) (fun i => decide ((10 : Int) ^ 18 ≤ ab (cs.getD i 0))) (fun i => .int (ab (cs.getD i 0) - 10 ^ 18)) (ev_var rfl) hl hz' (fun _ => rfl) (fun i x H1 e1 hi => ?_) fun i x H1 e1 hi _ => ?_
      · obtain rfl := at_i i x hi
        exact et_is (by wtm_at "et") (by rfl)
      · obtain rfl := at_i i x hi
        exact ev_is (by wtm_at "ev") (by rfl)
    refine fun p hp => ?_
    have hgp : g ≠ p := by
      rintro rfl
      rw [h1] at hp
      cases hp
    have e2 : Ex H1 (upd H1 p (.dK [])) := Ex.new hp
    refine r_pairEv (v := .ref g) (ev_var rfl) fun H2 e2' => ?_
    refine r_pairEvL (xs := given (cs.map V.int).length (fun _ => true) fun i => .int (ab (cs.getD i 0))) ?lc2 fun c H3 hc e3 h3 => ?_
    case lc2 =>
      refine el_lcL (xs := cs.map V.int) (fun _ => true) (fun i => .int (ab (cs.getD i 0))) (ev_var rfl) (ex_l (e1.trans (e2.trans e2')) hl) hz' (fun _ => rfl) (fun i x H1 e1 hi => et_yes) fun i x H2 e2 hi _ => ?_
      obtain rfl := at_i i x hi
      exact ev_is (by wtm_at "ev") (by rfl)
    refine r_pairEv ev_c fun H4 e4 => r_pairEv ev_c fun H5 e5 => ?_
    have e6 : Ex H1 H3 := e2.trans (e2'.trans e3)
    have e7 : Ex H3 H5 := e4.trans e5
    refine ⟨(e2'.trans (e3.trans e7)) _ _ upd_same, stD g c 0 0, rfl, show 4 ≤ 15 by decide, ?_⟩
    have h1' : H5 g = some (.lst (given (cs.map V.int).length (fun i => decide ((10 : Int) ^ 18 ≤ ab (cs.getD i 0))) fun i => .int (ab (cs.getD i 0) - 10 ^ 18))) := e7 _ _ (e6 _ _ h1)
    have h3' := e7 _ _ h3
    have hpn : H p = none := by
      cases q : H p with
      | none => rfl
      | some o =>
        have := e1 _ _ q
        rw [hp] at this
        cases this
    have hgc : g ≠ c := by
      rintro rfl
      rw [(e2.trans e2') _ _ h1] at hc
      cases hc
    have hpc : c ≠ p := by
      rintro rfl
      rw [e2' _ _ upd_same] at hc
      cases hc
    rw [gv] at h1' h3'
    refine k p g c _ ?_ ⟨_, _, 0, 0, ⟨upd_same, by rw [upd_ne hgp]; exact h1', by rw [upd_ne hpc]; exact h3', hgc⟩, by decide, by decide⟩ hpn hg ?_
    · exact Ex.mut (e1.trans (e6.trans e7)) hpn
    · cases q : H c with
      | none => rfl
      | some o =>
        have := ((e1.trans e2).trans e2') _ _ q
        rw [hc] at this
        cases this
theorem ok__law_mixed (T : Txt K mg) (F : Fn K "_law_mixed" s__law_mixed f fd) : FnOk P w K mg base CX0 1 f fd ["state"] spMixedA := by
  refine fn_run F sc__law_mixed ?l fun cdv A outer s H E hr => ⟨_, (pss_cons (ps_par (i := 1) (j := 2) (by rfl) sc__law_mixed.nd rfl rfl (by decide) rfl rfl (pa_cons (pe_op op_add (pe_dget (hu_of hr) (pv 0) pe_str (fun _ _ => rfl)) pe_int) (pa_cons pe_int pa_nil)) (by rfl))
  (pss_cons (ps_dput (hu_of hr) (pv 0) pe_str (pv 1) rfl)
  (pss_cons (ps_for PassesOwn.never rfl (pi_list (pe_lst (pa_cons pe_int (pa_cons pe_int (pa_cons pe_int (pa_cons pe_int pa_nil)))))) (pg_name (i := 3) sc__law_mixed.nd rfl (Or.inl rfl)) (pss_cons (ps_set (i := 4) sc__law_mixed.nd rfl (Or.inl rfl) (pe_op op_add (pe_op op_mul pe_int (pv 1)) (pe_op op_fdiv (pv 3) pe_int)))
  (pss_cons (ps_for PassesOwn.never rfl (pi_list (pe_dget (hu_of hr) (pv 0) pe_str (fun _ _ => rfl))) (pg_name (i := 5) sc__law_mixed.nd rfl (Or.inl rfl)) (pss_one (ps_set (i := 4) sc__law_mixed.nd rfl (Or.inl rfl) (pe_op op_mod (pe_callTy cl_int (by rfl) T.n_int (by decide +kernel) (pa_cons (pe_op op_add (pe_op op_add (pe_op op_mul (pv 4) pe_int) (pv 5)) (pv 1)) pa_nil)) (pv 3)))))
  (pss_one (ps_set (i := 2) sc__law_mixed.nd rfl (Or.inl rfl) (pe_op op_add (pe_op op_mul (pv 2) pe_int) (pe_op op_mod (pe_callTy cl_int (by rfl) T.n_int (by decide +kernel) (pa_cons (pe_op op_pow (pv 4) pe_int) pa_nil)) (pv 3))))))))
  (pss_one (ps_ret (pv 2)))))), ?p⟩
  case l =>
    rintro vs H Q E ⟨a, g, c, n, rfl, _⟩
    rfl
  case p =>
    rintro vs Q ⟨a, g, c, n, rfl, ⟨gs, cs, r, t, st, t0, tn⟩, hn, k⟩
    refine q_par (x := .int (t + 1)) (y := .int 0) (ea_cons (ev_op (ev_dget (ev_var rfl) st.hd stD_turn) (by wtm_at "ev") (by wtm_at "rv")) (ea_cons (by wtm_at "ev") ea_nil)) fun H1 e1 => ?_
    have st1 := st.ex e1
    refine q_dput ⟨_, rfl, dput_end (T := fun σ H => _) (ev_var rfl) st1.hd stD_len fun H2 e2 => ?_⟩
    rw [put_turn]
    have st2 : StD (upd H2 a (.dK (stD g c r (t + 1)))) a g c gs cs r (t + 1) := (st1.ex e2).put
    have kp2 : Kp a g H (upd H2 a (.dK (stD g c r (t + 1)))) := ((Kp.of e1).trans (Kp.of e2)).trans Kp.a
    generalize upd H2 a (.dK (stD g c r (t + 1))) = H3 at st2 kp2
    have hb : 0 ≤ 69621 * (t + 1) ∧ 69621 * (t + 1) < 100000000000000000 := by
      have h : n < 1000000000000 := hn
      omega
    refine q_forNLn (xs := primes.map V.int) (el_lst (vs := [.int 2147483629, .int 2147483647, .int 2147483563, .int 2147483587]) (by wtm_at "ea") (by decide)) (fun p i σ' H' => Ex H3 H' ∧ H' p = some (.lst (primes.map V.int)) ∧ ∃ (z : Int) (x y u : Option V), σ' = [some (.ref a), some (.int (t + 1)), some (.int z), x, y, u])
      (fun p H4 _ e4 h4 => ⟨e4, h4, 0, none, none, none, rfl⟩) (fun p i σ' H' _ q => sq_of q.2.1) ?_ ?_
    · rintro p i x σ' H' hx ⟨e4, hp, z, x', y, u, rfl⟩
      obtain ⟨q, rfl, q1, q2⟩ := primes_at i x hx
      have st4 := st2.ex e4
      refine q_asg (v := .int (69621 * (t + 1) + q / 41)) (by wtm_at "ev") fun H5 e5 => ?_
      have st5 := st4.ex e5
      refine q_forLn (a := c) (xs := cs.map V.int) (ev_dget (ev_var rfl) st5.hd stD_cells) (sq_of st5.hc) (fun i σ2 H6 => Ex H5 H6 ∧ ∃ (b : Int) (u : Option V), 0 ≤ b ∧ b < 1000000000000000000 ∧ σ2 = [some (.ref a), some (.int (t + 1)), some (.int z), some (.int q), some (.int b), u])
        (fun H6 e6 => ⟨e6, _, u, ?_, ?_, rfl⟩) (fun i σ2 H6 _ w => sq_of (st5.ex w.1).hc) ?_ ?_
      · omega
      · omega
      · rintro i x σ2 H6 hx ⟨e6, b, u, b0, b1, rfl⟩
        rw [List.getElem?_map] at hx
        obtain ⟨y, hy, rfl⟩ := Option.map_eq_some_iff.mp hx
        refine s_asg (v := .int ((b * 48271 + y + (t + 1)) % q)) (by wtm_at "ev") fun H7 e7 => ⟨e6.trans e7, _, _, ?_, ?_, rfl⟩
        · exact Int.emod_nonneg _ (by omega)
        · have := Int.emod_lt_of_pos (b * 48271 + y + (t + 1)) (show 0 < q by omega)
          omega
      · rintro σ2 H6 ⟨e6, b, u, b0, b1, rfl⟩
        refine s_asg (v := .int (z * 2147483659 + b ^ (5 : Int).toNat % q)) (ev_op (by wtm_at "ev") (ev_op (ev_intI (ev_op (by wtm_at "ev") (by wtm_at "ev") (rv_I ⟨by decide, by decide, by omega⟩))) (by wtm_at "ev") (rv_I (by omega))) (by wtm_at "rv")) fun H7 e7 => ?_
        exact ⟨((e4.trans e5).trans e6).trans e7, (e6.trans e7) _ _ (e5 _ _ hp), _, _, _, _, rfl⟩
    · rintro p σ' H' ⟨e4, hp, z, x', y, u, rfl⟩
      refine s_ret (v := .int z) (ev_var rfl) fun H5 e5 => ?_
      exact k z H5 (kp2.trans ((Kp.of e4).trans (Kp.of e5))) ⟨gs, cs, r, t + 1, st2.ex (e4.trans e5), by omega, by omega⟩
abbrev C__law_mixed (P : Program) (w : World) (K : PySem.W.Frag) (mg : Str → Option Value) (base : Heap) : Prop := Cl P w K mg base CX0 1 "_law_mixed" spMixedA
theorem ok__law_draw (T : Txt K mg) (c__law_mixed : C__law_mixed P w K mg base) (F : Fn K "_law_draw" s__law_draw f fd) : FnOk P w K mg base CX0 2 f fd ["state", "room"] spDrawA := by
  refine fn_run F sc__law_draw ?l fun cdv A outer s H E hr => ⟨_, (Evl.pss_cut (ps_if (pt_cmpR op_eq (pe_dget (hu_of hr) (pv 0) pe_str (fun _ _ => rfl)) pe_int (nomark _)) (pss_one (ps_dput (hu_of hr) (pv 0) pe_str (pe_ifExp (pt_cmpR (op_neD hr.units) (pe_dget (hu_of hr) (pv 0) pe_str (fun _ _ => rfl)) (pe_lst pa_nil) (nomark _)) (pe_bm PySem.F.plainAttrs_list PySem.F.slot_list_pop PySem.F.type_list_pop mt_popAt (pe_dget (hu_of hr) (pv 0) pe_str (fun _ _ => rfl)) (pa_cons pe_int pa_nil)) (pe_k c__law_mixed hr (by decide) rfl (by exact (pa_cons (pv 0) pa_nil)))) rfl)) pss_nil)
  (pss_cons (ps_set (i := 2) sc__law_draw.nd rfl (Or.inl rfl) (pe_op op_mod (pe_callTy cl_int (by rfl) T.n_int (by decide +kernel) (pa_cons (pe_dget (hu_of hr) (pv 0) pe_str (fun _ _ => rfl)) pa_nil)) (pv 1)))
  (pss_cons (ps_dput (hu_of hr) (pv 0) pe_str (pe_op op_fdivW (pe_dget (hu_of hr) (pv 0) pe_str (fun _ _ => rfl)) (pv 1)) rfl)
  (pss_one (ps_ret (pv 2)))))), ?p⟩
  case l =>
    rintro vs H Q E ⟨a, g, c, n, room, rfl, _⟩
    rfl
  case p =>
    rintro vs Q ⟨a, g, c, n, room, rfl, ⟨gs, cs, r, t, st, t0, tn⟩, hn, h0, hz, k⟩
    refine q_cut (M := fun σ' H' => σ' = [some (.ref a), some (.int room), none] ∧ Kp a g H H' ∧ StA H' a g c (n + 1)) ?_ ?_
    · refine s_when (b := decide (r = 0)) (et_is (et_test (ev_op (ev_dget (ev_var rfl) st.hd stD_rest) ev_c (by wtm_at "rv"))) (dec_vi' r 0)) (fun hb H1 e1 => ?_) fun hb H1 e1 => ?_
      · have st1 := st.ex e1
        have fin : ∀ (x : Int) (gs' : List Int) (H2 : Hp) (t' : Int), Kp a g H H2 → StD H2 a g c gs' cs r t' → 0 ≤ t' → t' ≤ (n + 1 : Nat) → (tVar 0) [some (.ref a), some (.int room), none] H2 fun x' H3 => ∃ a' H4, x' = .ref a' ∧ DPut H3 a' (.str "rest") (.int x) H4 ∧ [some (V.ref a), some (.int room), none] = [some (.ref a), some (.int room), none] ∧ Kp a g H H4 ∧ StA H4 a g c (n + 1) :=
          fun x gs' H2 t' kp st2 t0 tn => dput_end (T := fun σ' H4 => σ' = [some (.ref a), some (.int room), none] ∧ Kp a g H H4 ∧ StA H4 a g c (n + 1)) (ev_var rfl) st2.hd stD_len fun H3 e3 => ⟨rfl, (kp.trans (Kp.of e3)).trans Kp.a, gs', cs, x, t', by rw [put_rest]; exact (st2.ex e3).put, t0, tn⟩
        refine r_dput (r_if (b := !PyData.eqv (.list (gs.map .int)) (.list [])) (et_test (ev_neD (ed_ev (ev_dget (ev_var rfl) st1.hd stD_great) (.lst (sq_of st1.hg) (dps_ints gs))) (ed_lst eda_nil) (sh_ints gs) rfl)) (fun hb2 H2 e2 => ?_) fun hb2 H2 e2 => ?_)
        · have st2 := st1.ex e2
          rcases gs with _ | ⟨x, gs⟩
          · exact absurd hb2 (by decide)
          · refine r_pop0 (ev_dget (ev_var rfl) st2.hd stD_great) st2.hg fun H3 e3 => ?_
            have st3 := (st2.ex e3).pop (gs' := gs)
            exact fin x gs _ t (((Kp.of e1).trans (Kp.of e2)).trans ((Kp.of e3).trans Kp.g)) st3 t0 (by omega)
        · have st2 := st1.ex e2
          refine ⟨_, rfl, a, g, c, n, rfl, ⟨gs, cs, r, t, st2, t0, tn⟩, hn, fun x H3 kp3 st3 => ?_⟩
          obtain ⟨gs', cs', r', t', st3, t0', tn'⟩ := st3
          exact dput_end (T := fun σ' H4 => σ' = [some (.ref a), some (.int room), none] ∧ Kp a g H H4 ∧ StA H4 a g c (n + 1)) (ev_var rfl) st3.hd stD_len fun H4 e4 =>
            ⟨rfl, (((Kp.of e1).trans (Kp.of e2)).trans (kp3.trans (Kp.of e4))).trans Kp.a, gs', cs', x, t', by rw [put_rest]; exact (st3.ex e4).put, t0', tn'⟩
      · exact ⟨rfl, Kp.of e1, gs, cs, r, t, st.ex e1, t0, by omega⟩
    · rintro σ' H1 ⟨rfl, kp1, gs, cs, r, t, st1, t0, tn⟩
      refine q_asg (v := .int (r % room)) (ev_op (ev_intI (ev_dget (ev_var rfl) st1.hd stD_rest)) (by wtm_at "ev") (rv_I h0)) fun H2 e2 => ?_
      have st2 := st1.ex e2
      refine q_dput (ev_op (z := .int (r / room)) (ev_dget (ev_var rfl) st2.hd stD_rest) (ev_var rfl) (rv_I ⟨h0, hz⟩) H2 (Ex.refl H2) _ fun H3 e3 => dput_end (T := fun σ H => _) (ev_var rfl) (st2.ex e3).hd stD_len fun H4 e4 => ?_)
      refine s_ret (v := .int (r % room)) (ev_var rfl) fun H5 e5 => ?_
      refine k _ H5 (Int.emod_nonneg _ (by omega)) (Int.emod_lt_of_pos _ h0) ((((kp1.trans (Kp.of e2)).trans ((Kp.of e3).trans (Kp.of e4))).trans Kp.a).trans (Kp.of e5)) ⟨gs, cs, r / room, t, ?_, t0, tn⟩
      rw [put_rest] at e5
      exact ((st2.ex (e3.trans e4)).put).ex e5
end
end K48

/-! part Pb -/
namespace K48
open PySem PySem.Spec PyProof.Rows L2 Evl Lk LamX Mk
section
variable {P : Program} {w : World} {K : PySem.W.Frag} {mg : Str → Option Value} {base : Heap} {f : Addr} {fd : FuncData} {TT : List (Addr × Str)}
structure Rg (K : PySem.W.Frag) (mg : Str → Option Value) : Prop where
  ex : ∃ g fd, Fn K "_law_refusal" s__law_refusal g fd ∧ mg "_law_refusal" = some (.ref g)
  h_BadFloors : mg "BadFloors" = some (.ref (He.ga K "BadFloors"))
  h_BadStay : mg "BadStay" = some (.ref (He.ga K "BadStay"))
  h_BadRule : mg "BadRule" = some (.ref (He.ga K "BadRule"))
  h_BadStanding : mg "BadStanding" = some (.ref (He.ga K "BadStanding"))
  h_BadSignal : mg "BadSignal" = some (.ref (He.ga K "BadSignal"))
  h_KeptError : mg "KeptError" = some (.ref (He.ga K "KeptError"))
/-- x = [lambda: .., ..]; if [_law_refusal(y) for y in x] ..: ..; the rest -/
theorem e_works {X : Cx} {K : PySem.W.Frag} {T : List (Addr × Str)} {W : WX} {y z xd q : Str} {k i w : Nat} {scope : Scope} 
    {p py pos tpos ipos lpos r1 r2 r3 ipos' cpos : Pos} {ls : List Expr} {ts : List (XK → TE)} {cs : List (Den × MA)} {e2 : Expr} {t2 : TE} {m2 : ME} {sa sb rest : List Stmt} {ta tb tr : TS} {ma mb mr : MS} {op : CmpOp} {r : R2} {f : PyData → PyData → FO}
    (Rc : Rg X.K X.mg)
    (hs : X.stack = X.env :: X.outer) (hfr : X.env.frame = some X.env.locals) (LD : LamD X.K X.mg X.base T xd q) (hcode : X.env.code = .ref (He.codeOf X.K (xd, none))) (hq : X.env.qual ++ "<lambda>" = q) (hr : Room (k + 2) X.A)
    (lq : LamQ X K T k ls ts cs) (hl : ts.length ≤ 1000)
    (hx : ∀ (P : List (Addr × Obj)) (s1 : Shared) (H1 : Hp) (C : Addr) (cl : List (Str × Addr)) (fp : List Addr), Gl ((X.tr P X.xe).blk s1 H1 scope (compEnvC scope cl C X.env) fp) "_law_refusal")
    (hw : X.N[w]? = some y) (hwv : ∀ C cl, Vis (compEnvC scope cl C X.env).scope y) (hdy : (y == ("__debug__" : Str)) = false) (hcy : (y == ("__classdict__" : Str)) = false)
    (calm : X.calm = true) (nd : X.N.Nodup) (bo : BlkOk X.N X.env.scope scope [(y, w)]) (hi : X.N[i]? = some z) (hiv : X.env.scope.names.lookup z = some .local) (hiw : i ≠ w) (hdz : (z == ("__debug__" : Str)) = false) (hcz : (z == ("__classdict__" : Str)) = false)
    (hg : ∀ (P : List (Addr × Obj)) (s1 : Shared) (H1 : Hp) (C : Addr) (cl : List (Str × Addr)) (fp : List Addr), PG ((X.tr P X.xe).blk s1 H1 scope (compEnvC scope cl C X.env) fp) (.Name y tpos) (gName w))
    (hop : ∀ P : List (Addr × Obj), Cm (X.tr P X.xe) K op r f) (h2 : ∀ P : List (Addr × Obj), QE (X.tr P X.xe) K T W e2 t2 m2) (hbm : behindInMarks op e2 = false) (ha : ∀ P : List (Addr × Obj), QB (X.tr P X.xe) K T W sa ta ma) (hb : ∀ P : List (Addr × Obj), QB (X.tr P X.xe) K T W sb tb mb)
    (hrest : ∀ P : List (Addr × Obj), QB (X.tr P X.xe) K T W rest tr mr) (hsw : swapsWith (.List ls r2) (some (.Name z r1)) r3.line X.env = pure false) (hK : X.K = K := by rfl) :
    QB X K T W (.Assign [.Name z r1] (.List ls r2) r3 :: .If (.Compare (.ListComp (.Call (.Name "_law_refusal" p) [.Name y py] [] pos) [⟨.Name y tpos, .Name z ipos, [], 0⟩] scope lpos) [op] [e2] cpos) sa sb ipos' :: rest)
      (tWorks X k T ts i fun P => tSeq (tIfS (tTest (tOp r (tLW X k P (TRefuse X.K "none" (hsR X.K)) i w) t2)) ta tb) tr) (mWorks i w (mB (mOp f (mWks K "none" (hsR K) cs w) m2)) ma mb mr) := by
  subst hK
  obtain ⟨g, fd, D, hm⟩ := Rc.ex
  exact b_works D hm rfl (fun _ _ _ _ _ _ us hl => match us, hl with | [_], _ => rfl) sc__law_refusal sc__law_refusal.nd (.inl rfl) rfl (.cons rfl Rc.h_BadFloors rfl (.cons rfl Rc.h_BadStay rfl (.cons rfl Rc.h_BadRule rfl (.cons rfl Rc.h_BadStanding rfl (.cons rfl Rc.h_BadSignal rfl (.cons rfl Rc.h_KeptError rfl .nil)))))) rfl rfl rfl rfl rfl
    hs hfr LD hcode hq hr lq hl hx hw hwv hdy hcy calm nd bo hi hiv hiw hdz hcz hg hop h2 hbm ha hb hrest hsw
theorem ok__law_called (T : Txt K mg) (F : Fn K "_law_called" s__law_called f fd) : FnOk P w K mg base (L2.CX P w) 1 f fd ["now", "one"] (spM K TT (d__law_called K)) :=
  fn_m F sc__law_called fun cdv A outer s H E hr => ⟨_, (b_cons (s_if (t_w (w_or (t_cmp (c_in (units1 hr)) (e_v 1) (e_ix (e_v 0) e_int (fun _ _ => rfl)) (by rfl)) (w_or1 (t_w (w_and (t_cmp c_gt (e_ix (e_v 0) e_int (fun _ _ => rfl)) e_int (nomark _)) (w_and1 (t_cmp (c_eq hr.units) (e_ix (e_v 0) e_int (fun _ _ => rfl)) (e_v 1) (nomark _)))))))) (b_one (s_ret (e_v 0))) b_nil)
  (b_one (s_ret (e_add (e_sl (e_v 0) o_none (o_some e_int)) (e_tup (f_cons (e_tuple (by rfl) T.n_tuple (e_cb cr_sortTup ps_sortedT (by rfl) T.n_sorted (by decide +kernel) (a_cons (e_add (e_ix (e_v 0) e_int (fun _ _ => rfl)) (e_tup (f_cons (e_v 1) a_nil))) a_nil))) a_nil))))))⟩
theorem ok__law_word (T : Txt K mg) (F : Fn K "_law_word" s__law_word f fd) : FnOk P w K mg base (L2.CX P w) 1 f fd ["sheet", "here", "way", "lit"] (spM K TT (d__law_word K)) :=
  fn_m F sc__law_word fun cdv A outer s H E hr => ⟨_, (b_cons (s_setLc (i := 4) (own := [("one", 5)]) (by rfl) sc__law_word.nd rfl rfl (sw_true rfl rfl rfl (by decide +kernel)) (i_any (e_v 3)) (blkOk_by (own := [("one", 5)]) (N := N__law_word) (sc := defScope s__law_word) (by decide +kernel)) (fun _ _ _ _ _ => by exact (g_n (i := 5) sc__law_word.nd rfl (Or.inl rfl))) (gonly_n (by decide)) (fun _ _ _ _ _ => by exact (ts_one (t_w (w_and (t_cmp (c_ne hr.units) (e_v 5) (e_v 1) (nomark _)) (w_and1 (t_cmp (c_eq hr.units) (e_cmp c_gt (e_v 5) (e_v 1) (nomark _)) (e_cmp (c_eq hr.units) (e_v 2) e_int (nomark _)) (nomark _))))))) (fun _ _ _ _ _ => by exact (e_v 5)))
  (b_cons (s_setLc (i := 6) (own := [("one", 5)]) (by rfl) sc__law_word.nd rfl rfl (sw_true rfl rfl rfl (by decide +kernel)) (i_any (e_v 3)) (blkOk_by (own := [("one", 5)]) (N := N__law_word) (sc := defScope s__law_word) (by decide +kernel)) (fun _ _ _ _ _ => by exact (g_n (i := 5) sc__law_word.nd rfl (Or.inl rfl))) (gonly_n (by decide)) (fun _ _ _ _ _ => by exact (ts_one (t_w (w_and (t_cmp (c_ne hr.units) (e_v 5) (e_v 1) (nomark _)) (w_and1 (t_cmp (c_eq hr.units) (e_cmp c_gt (e_v 5) (e_v 1) (nomark _)) (e_cmp (c_eq hr.units) (e_v 2) e_int (nomark _)) (nomark _))))))) (fun _ _ _ _ _ => by exact (e_v 5)))
  (b_cons (s_set (i := 7) sc__law_word.nd rfl (Or.inl rfl) (e_add (e_add (e_add (e_mul e_int (e_v 2)) (e_if (t_cmp (c_in (units1 hr)) (e_v 1) (e_v 3) (by rfl)) e_int e_int)) (e_if (t_cmp (c_ne hr.units) (e_v 4) (e_lst a_nil) (nomark _)) e_int e_int)) (e_if (t_cmp (c_ne hr.units) (e_v 6) (e_lst a_nil) (nomark _)) e_int e_int)))
  (b_one (s_ret (e_ix (e_v 0) (e_v 7) (fun _ _ => rfl)))))))⟩
theorem ok__law_tick (T : Txt K mg) (c__law_word : Cd P w K mg base TT 1 "_law_word" (d__law_word K)) (F : Fn K "_law_tick" s__law_tick f fd) : FnOk P w K mg base (L2.CX P w) 2 f fd ["many", "pause", "sheet", "now"] (spM K TT (d__law_tick K)) :=
  fn_m F sc__law_tick fun cdv A outer s H E hr => ⟨_, (b_cons (s_asgG (e_v 3) (g_tup rfl (gs_cons (g_n (i := 4) sc__law_tick.nd rfl (Or.inr rfl)) (gs_cons (g_n (i := 5) sc__law_tick.nd rfl (Or.inl rfl)) (gs_cons (g_n (i := 6) sc__law_tick.nd rfl (Or.inl rfl)) (gs_cons (g_n (i := 7) sc__law_tick.nd rfl (Or.inl rfl)) gs_nil))))))
  (b_cons (s_if (t_cmp c_gt (e_v 6) e_int (nomark _)) (b_one (s_ret (e_tup (f_cons (e_v 4) (f_cons (e_v 5) (f_cons (e_sub (e_v 6) e_int) (f_cons (e_v 7) a_nil))))))) b_nil)
  (b_cons (s_set (i := 8) sc__law_tick.nd rfl (Or.inl rfl) (e_call0 c__law_word hr (by decide) rfl (a_cons (e_v 2) (a_cons (e_v 4) (a_cons (e_v 5) (a_cons (e_v 7) a_nil))))))
  (b_cons (s_if (t_cmp (c_eq hr.units) (e_v 8) e_str (nomark _)) (b_cons (s_set (i := 9) sc__law_tick.nd rfl (Or.inl rfl) (e_call0 c__law_word hr (by decide) rfl (a_cons (e_v 2) (a_cons (e_v 4) (a_cons (e_sub e_int (e_v 5)) (a_cons (e_v 7) a_nil))))))
  (b_one (s_asgG (e_if (t_cmp (c_eq hr.units) (e_v 9) e_str (nomark _)) (e_tup (f_cons (e_v 5) (f_cons e_str a_nil))) (e_tup (f_cons (e_sub e_int (e_v 5)) (f_cons (e_v 9) a_nil)))) (g_tup rfl (gs_cons (g_n (i := 5) sc__law_tick.nd rfl (Or.inl rfl)) (gs_cons (g_n (i := 8) sc__law_tick.nd rfl (Or.inl rfl)) gs_nil)))))) b_nil)
  (b_cons (s_if (t_cmp (c_eq hr.units) (e_v 8) e_str (nomark _)) (b_one (s_ret (e_tup (f_cons (e_v 4) (f_cons (e_v 5) (f_cons (e_v 1) (f_cons (e_tuple (by rfl) T.n_tuple (by exact (e_lc (own := [("one", 10)]) (by rfl) sc__law_tick.nd (i_any (e_v 7)) (blkOk_by (own := [("one", 10)]) (N := N__law_tick) (sc := defScope s__law_tick) (by decide +kernel)) (fun _ _ _ _ _ => by exact (g_n (i := 10) sc__law_tick.nd rfl (Or.inl rfl))) (gonly_n (by decide)) (fun _ _ _ _ _ => by exact (ts_one (t_cmp (c_ne hr.units) (e_v 10) (e_v 4) (nomark _)))) (fun _ _ _ _ _ => by exact (e_v 10))))) a_nil))))))) b_nil)
  (b_cons (s_if (t_cmp (c_eq hr.units) (e_v 8) e_str (nomark _)) (b_one (s_ret (e_tup (f_cons (e_cb (call_max2 rfl) ps_max2 (by rfl) T.n_max (by decide +kernel) (a_cons e_int (a_cons (e_cb (cl_min rfl) ps_min2 (by rfl) T.n_min (by decide +kernel) (a_cons (e_sub (e_v 0) e_int) (a_cons (e_add (e_v 4) (e_if (t_cmp (c_eq hr.units) (e_v 5) e_int (nomark _)) e_int (e_neg e_int))) a_nil))) a_nil))) (f_cons (e_v 5) (f_cons e_int (f_cons (e_v 7) a_nil))))))) b_nil)
  (b_one (s_ret (e_tup (f_cons (e_v 4) (f_cons (e_v 5) (f_cons e_int (f_cons (e_v 7) a_nil)))))))))))))⟩
theorem ok__law_lift_walk (T : Txt K mg) (c__law_called : Cd P w K mg base TT 1 "_law_called" (d__law_called K)) (c__law_tick : Cd P w K mg base TT 2 "_law_tick" (d__law_tick K)) (F : Fn K "_law_lift_walk" s__law_lift_walk f fd) : FnOk P w K mg base (L2.CX P w) 3 f fd ["many", "pause", "sheet"] (spM K TT (d__law_lift_walk K)) :=
  fn_m F sc__law_lift_walk fun cdv A outer s H E hr => ⟨_, (b_cons (s_parN (is := [3, 4]) rfl (m_cons (e_lst (f_cons (e_tup (f_cons e_int (f_cons e_int (f_cons e_int (f_cons (e_tup a_nil) a_nil))))) a_nil)) (m_cons (e_lst a_nil) a_nil)) (gs_cons (g_n (i := 3) sc__law_lift_walk.nd rfl (Or.inr rfl)) (gs_cons (g_n (i := 4) sc__law_lift_walk.nd rfl (Or.inl rfl)) gs_nil)) rfl rfl (by decide))
  (b_cons (s_set (i := 5) sc__law_lift_walk.nd rfl (Or.inr rfl) (e_cty (cr_dictN rfl (hu12 hr)) ps_dictN (by rfl) T.n_dict (by decide +kernel) (a_cons (e_lst (f_cons (e_tup (f_cons (e_ix (e_v 3) e_int (fun _ _ => rfl)) (f_cons e_int a_nil))) a_nil)) a_nil)))
  (b_cons (s_for (passes_of rfl) rfl (i_rng1 (by rfl) T.n_range (f_cons e_int a_nil)) (g_n (i := 6) sc__law_lift_walk.nd rfl (Or.inr rfl)) (b_cons (s_if (t_cmp (c_eq hr.units) (e_v 6) (e_cb (callOr cl_len call_len_str) ps_len (by rfl) T.n_len (by decide +kernel) (a_cons (e_v 3) a_nil)) (nomark _)) (b_one (s_ret (e_tup (f_cons (e_v 3) (f_cons (e_v 4) a_nil))))) b_nil)
  (b_cons (s_set (i := 7) sc__law_lift_walk.nd rfl (Or.inl rfl) (e_add (by exact (e_lc (own := [("one", 8)]) (by rfl) sc__law_lift_walk.nd (i_rng1 (by rfl) T.n_range (f_cons (e_v 0) a_nil)) (blkOk_by (own := [("one", 8)]) (N := N__law_lift_walk) (sc := defScope s__law_lift_walk) (by decide +kernel)) (fun _ _ _ _ _ => by exact (g_n (i := 8) sc__law_lift_walk.nd rfl (Or.inl rfl))) (gonly_n (by decide)) (fun _ _ _ _ _ => by exact ts_nil) (fun _ _ _ _ _ => by exact (e_call0 c__law_called hr (by decide) rfl (a_cons (e_ix (e_v 3) (e_v 6) (fun _ _ => rfl)) (a_cons (e_v 8) a_nil)))))) (e_lst (f_cons (e_call0 c__law_tick hr (by decide) rfl (a_cons (e_v 0) (a_cons (e_v 1) (a_cons (e_v 2) (a_cons (e_ix (e_v 3) (e_v 6) (fun _ _ => rfl)) a_nil))))) a_nil))))
  (b_cons (s_for (passes_of rfl) rfl (i_any (e_v 7)) (g_n (i := 9) sc__law_lift_walk.nd rfl (Or.inl rfl)) (b_one (s_if (t_nnotin (hu10 hr) (e_v 9) (e_v 5) (by rfl)) (b_cons (s_nput (i := 5) (hu10 hr) rfl (Or.inr (Or.inl rfl)) (by decide) (by decide) (e_v 9) (e_cb (callOr cl_len call_len_str) ps_len (by rfl) T.n_len (by decide +kernel) (a_cons (e_v 3) a_nil)))
  (b_one (s_expr (e_lm PySem.F.plainAttrs_list PySem.F.slot_list_append PySem.F.type_list_append mt_append ls_append (i := 3) (by rfl) (Or.inr (Or.inl rfl)) (by decide) (by decide) (f_cons (e_v 9) a_nil))))) b_nil)))
  (b_one (s_expr (e_lm PySem.F.plainAttrs_list PySem.F.slot_list_append PySem.F.type_list_append mt_append ls_append (i := 4) (by rfl) (Or.inl rfl) (by decide) (by decide) (f_cons (by exact (e_lc (own := [("later", 9)]) (by rfl) sc__law_lift_walk.nd (i_any (e_v 7)) (blkOk_by (own := [("later", 9)]) (N := N__law_lift_walk) (sc := defScope s__law_lift_walk) (by decide +kernel)) (fun _ _ _ _ _ => by exact (g_n (i := 9) sc__law_lift_walk.nd rfl (Or.inl rfl))) (gonly_n (by decide)) (fun _ _ _ _ _ => by exact ts_nil) (fun _ _ _ _ _ => by exact (e_nget (hu10 hr) (e_v 5) (e_v 9) (fun _ _ => rfl))))) a_nil))))))))
  (b_one (s_ret (e_tup (f_cons (e_v 3) (f_cons (e_v 4) a_nil))))))))⟩
theorem ok_is_whole (T : Txt K mg) (F : Fn K "is_whole" s_is_whole f fd) : FnOk P w K mg base (L2.CX P w) 1 f fd ["value", "low", "high"] (spM K TT (d_is_whole K)) :=
  fn_m F sc_is_whole fun cdv A outer s H E hr => ⟨_, (b_one (s_ret (e_and (e_isi Lk.kit_int (by rfl) T.n_isinstance (by rfl) T.n_int (by decide +kernel) (e_v 0)) (e_and (e_not (e_isi Lk.kit_bool (by rfl) T.n_isinstance (by rfl) T.n_bool (by decide +kernel) (e_v 0))) (e_one (e_chain (c_le hr.units0) (c_le hr.units0) (e_v 1) (e_v 0) (e_v 2)))))))⟩
theorem ok_is_rule (T : Txt K mg) (F : Fn K "is_rule" s_is_rule f fd) : FnOk P w K mg base (L2.CX P w) 1 f fd ["value"] (spM K TT (d_is_rule K)) :=
  fn_m F sc_is_rule fun cdv A outer s H E hr => ⟨_, (b_cons (s_if (t_w (w_or (t_not (t_val (e_isi Lk.kit_tup (by rfl) T.n_isinstance (by rfl) T.n_tuple (by decide +kernel) (e_v 0)))) (w_or1 (t_cmp (c_ne hr.units) (e_cb (callOr cl_len call_len_str) ps_len (by rfl) T.n_len (by decide +kernel) (a_cons (e_v 0) a_nil)) e_int (nomark _))))) (b_one (s_ret e_bl)) b_nil)
  (b_one (s_ret (e_cb (cr_all rfl) ps_all (by rfl) T.n_all (by decide +kernel) (a_cons (by exact (e_lc (own := [("one", 1)]) (by rfl) sc_is_rule.nd (i_any (e_v 0)) (blkOk_by (own := [("one", 1)]) (N := N_is_rule) (sc := defScope s_is_rule) (by decide +kernel)) (fun _ _ _ _ _ => by exact (g_n (i := 1) sc_is_rule.nd rfl (Or.inl rfl))) (gonly_n (by decide)) (fun _ _ _ _ _ => by exact ts_nil) (fun _ _ _ _ _ => by exact (e_and (e_isi Lk.kit_str (by rfl) T.n_isinstance (by rfl) T.n_str (by decide +kernel) (e_v 1)) (e_one (e_cmp (c_in (units1 hr)) (e_v 1) (e_gl rfl T.v_WORDS) (by rfl))))))) a_nil)))))⟩
theorem ok_need_lift (T : Txt K mg) (c_is_whole : Cd P w K mg base TT 1 "is_whole" (d_is_whole K)) (c_is_rule : Cd P w K mg base TT 1 "is_rule" (d_is_rule K)) (F : Fn K "need_lift" s_need_lift f fd) : FnOk P w K mg base (L2.CX P w) 2 f fd ["floors", "stay", "rule"] (spM K TT (d_need_lift K)) :=
  fn_m F sc_need_lift fun cdv A outer s H E hr => ⟨_, (b_cons (s_if (t_not (t_val (e_call0 c_is_whole hr (by decide) rfl (a_cons (e_v 0) (a_cons e_int (a_cons (e_gl rfl T.v_MOST_FLOORS) a_nil)))))) (b_one (s_raise rfl (takes_of rfl rfl rfl rfl) T.x_BadFloors rfl (raises_own T.x_BadFloors.sb T.x_BadFloors.ty))) b_nil)
  (b_cons (s_if (t_not (t_val (e_call0 c_is_whole hr (by decide) rfl (a_cons (e_v 1) (a_cons e_int (a_cons (e_gl rfl T.v_MOST_STAY) a_nil)))))) (b_one (s_raise rfl (takes_of rfl rfl rfl rfl) T.x_BadStay rfl (raises_own T.x_BadStay.sb T.x_BadStay.ty))) b_nil)
  (b_one (s_if (t_not (t_val (e_call0 c_is_rule hr (by decide) rfl (a_cons (e_v 2) a_nil)))) (b_one (s_raise rfl (takes_of rfl rfl rfl rfl) T.x_BadRule rfl (raises_own T.x_BadRule.sb T.x_BadRule.ty))) b_nil))))⟩
theorem ok_lift_signals (T : Txt K mg) (F : Fn K "lift_signals" s_lift_signals f fd) : FnOk P w K mg base (L2.CX P w) 1 f fd ["floors"] (spM K TT (d_lift_signals K)) :=
  fn_m F sc_lift_signals fun cdv A outer s H E hr => ⟨_, (b_one (s_ret (e_lst (f_star (by exact (e_lc (own := [("floor", 1)]) (by rfl) sc_lift_signals.nd (i_rng1 (by rfl) T.n_range (f_cons (e_v 0) a_nil)) (blkOk_by (own := [("floor", 1)]) (N := N_lift_signals) (sc := defScope s_lift_signals) (by decide +kernel)) (fun _ _ _ _ _ => by exact (g_n (i := 1) sc_lift_signals.nd rfl (Or.inl rfl))) (gonly_n (by decide)) (fun _ _ _ _ _ => by exact ts_nil) (fun _ _ _ _ _ => by exact (e_tup (f_cons e_str (f_cons (e_v 1) a_nil)))))) (f_cons (e_gl rfl T.v_TICK) a_nil)))))⟩
theorem ok_web_walked (T : Txt K mg) (c_lift_signals : Cd P w K mg base TT 1 "lift_signals" (d_lift_signals K)) (F : Fn K "web_walked" s_web_walked f fd) : FnOk P w K mg base (L2.CX P w) 2 f fd ["floors", "table"] (spM K TT (d_web_walked K)) :=
  fn_m F sc_web_walked fun cdv A outer s H E hr => ⟨_, (b_cons (s_par (i := 2) (j := 3) (by rfl) sc_web_walked.nd rfl rfl (by decide) rfl rfl (m_cons (e_call0 c_lift_signals hr (by decide) rfl (a_cons (e_v 0) a_nil)) (m_cons (e_lst a_nil) a_nil)) (by rfl))
  (b_cons (s_for (passes_of rfl) rfl (i_any (e_v 1)) (g_n (i := 4) sc_web_walked.nd rfl (Or.inl rfl)) (b_one (s_expr (e_lm PySem.F.plainAttrs_list PySem.F.slot_list_append PySem.F.type_list_append mt_append ls_append (i := 3) (by rfl) (Or.inl rfl) (by decide) (by decide) (f_cons (e_tuple (by rfl) T.n_tuple (by exact (e_lc (own := [("one", 5), ("place", 6)]) (by rfl) sc_web_walked.nd (i_zip (by rfl) T.n_zip (e_v 2) (e_v 4)) (blkOk_by (own := [("one", 5), ("place", 6)]) (N := N_web_walked) (sc := defScope s_web_walked) (by decide +kernel)) (fun _ _ _ _ _ => by exact (g_tup rfl (gs_cons (g_n (i := 5) sc_web_walked.nd rfl (Or.inl rfl)) (gs_cons (g_n (i := 6) sc_web_walked.nd rfl (Or.inl rfl)) gs_nil)))) (gonly_t (gsonly_cons gmono_n (gsmono_cons gmono_n gsmono_nil) (gonly_n (by decide)) (gsonly_cons gmono_n gsmono_nil (gonly_n (by decide)) gsonly_nil))) (fun _ _ _ _ _ => by exact ts_nil) (fun _ _ _ _ _ => by exact (e_tup (f_cons (e_v 5) (f_cons e_non (f_cons e_non (f_cons (e_v 6) a_nil))))))))) a_nil)))))
  (b_one (s_ret (e_tup (f_cons e_str (f_cons (e_tup (f_cons e_int a_nil)) (f_cons (e_tuple (by rfl) T.n_tuple (e_v 3)) a_nil))))))))⟩
theorem ok_with_call (T : Txt K mg) (F : Fn K "with_call" s_with_call f fd) : FnOk P w K mg base (L2.CX P w) 1 f fd ["standing", "floor"] (spM K TT (d_with_call K)) :=
  fn_m F sc_with_call fun cdv A outer s H E hr => ⟨_, (b_cons (s_asgG (e_v 0) (g_tup rfl (gs_cons (g_n (i := 2) sc_with_call.nd rfl (Or.inl rfl)) (gs_cons (g_n (i := 3) sc_with_call.nd rfl (Or.inl rfl)) (gs_cons (g_n (i := 4) sc_with_call.nd rfl (Or.inl rfl)) (gs_cons (g_n (i := 5) sc_with_call.nd rfl (Or.inl rfl)) gs_nil))))))
  (b_cons (s_if (t_w (w_or (t_cmp (c_in (units1 hr)) (e_v 1) (e_v 5) (by rfl)) (w_or1 (t_w (w_and (t_cmp c_gt (e_v 4) e_int (nomark _)) (w_and1 (t_cmp (c_eq hr.units) (e_v 1) (e_v 2) (nomark _)))))))) (b_one (s_ret (e_v 0))) b_nil)
  (b_one (s_ret (e_tup (f_cons (e_v 2) (f_cons (e_v 3) (f_cons (e_v 4) (f_cons (e_tuple (by rfl) T.n_tuple (e_cb cr_sorted ps_sorted (by rfl) T.n_sorted (by decide +kernel) (a_cons (e_lst (f_star (e_v 5) (f_cons (e_v 1) a_nil))) a_nil))) a_nil)))))))))⟩
theorem ok_word_for (T : Txt K mg) (F : Fn K "word_for" s_word_for f fd) : FnOk P w K mg base (L2.CX P w) 1 f fd ["rule", "floor", "way", "lit"] (spM K TT (d_word_for K)) :=
  fn_m F sc_word_for fun cdv A outer s H E hr => ⟨_, (b_cons (s_par (i := 4) (j := 5) (by rfl) sc_word_for.nd rfl rfl (by decide) rfl rfl (m_cons (e_cb (cr_any rfl) ps_any (by rfl) T.n_any (by decide +kernel) (a_cons (by exact (e_lc (own := [("one", 6)]) (by rfl) sc_word_for.nd (i_any (e_v 3)) (blkOk_by (own := [("one", 6)]) (N := N_word_for) (sc := defScope s_word_for) (by decide +kernel)) (fun _ _ _ _ _ => by exact (g_n (i := 6) sc_word_for.nd rfl (Or.inl rfl))) (gonly_n (by decide)) (fun _ _ _ _ _ => by exact ts_nil) (fun _ _ _ _ _ => by exact (e_cmp c_gt (e_v 6) (e_v 1) (nomark _))))) a_nil)) (m_cons (e_cb (cr_any rfl) ps_any (by rfl) T.n_any (by decide +kernel) (a_cons (by exact (e_lc (own := [("one", 6)]) (by rfl) sc_word_for.nd (i_any (e_v 3)) (blkOk_by (own := [("one", 6)]) (N := N_word_for) (sc := defScope s_word_for) (by decide +kernel)) (fun _ _ _ _ _ => by exact (g_n (i := 6) sc_word_for.nd rfl (Or.inl rfl))) (gonly_n (by decide)) (fun _ _ _ _ _ => by exact ts_nil) (fun _ _ _ _ _ => by exact (e_cmp c_lt (e_v 6) (e_v 1) (nomark _))))) a_nil)) a_nil)) (by rfl))
  (b_cons (s_asgG (e_if (t_cmp (c_eq hr.units) (e_v 2) e_int (nomark _)) (e_tup (f_cons (e_v 4) (f_cons (e_v 5) a_nil))) (e_tup (f_cons (e_v 5) (f_cons (e_v 4) a_nil)))) (g_tup rfl (gs_cons (g_n (i := 7) sc_word_for.nd rfl (Or.inl rfl)) (gs_cons (g_n (i := 8) sc_word_for.nd rfl (Or.inl rfl)) gs_nil))))
  (b_one (s_ret (e_ix (e_v 0) (e_add (e_add (e_add (e_mul e_int (e_v 2)) (e_mul e_int (e_if (t_cmp (c_in (units1 hr)) (e_v 1) (e_v 3) (by rfl)) e_int e_int))) (e_mul e_int (e_if (t_val (e_v 7)) e_int e_int))) (e_if (t_val (e_v 8)) e_int e_int)) (fun _ _ => rfl))))))⟩
theorem ok_worked_off (T : Txt K mg) (c_word_for : Cd P w K mg base TT 1 "word_for" (d_word_for K)) (F : Fn K "worked_off" s_worked_off f fd) : FnOk P w K mg base (L2.CX P w) 2 f fd ["floors", "stay", "rule", "standing"] (spM K TT (d_worked_off K)) :=
  fn_m F sc_worked_off fun cdv A outer s H E hr => ⟨_, (b_cons (s_asgG (e_v 3) (g_tup rfl (gs_cons (g_n (i := 4) sc_worked_off.nd rfl (Or.inr rfl)) (gs_cons (g_n (i := 5) sc_worked_off.nd rfl (Or.inl rfl)) (gs_cons (g_n (i := 6) sc_worked_off.nd rfl (Or.inl rfl)) (gs_cons (g_n (i := 7) sc_worked_off.nd rfl (Or.inl rfl)) gs_nil))))))
  (b_cons (s_if (t_cmp c_gt (e_v 6) e_int (nomark _)) (b_one (s_ret (e_tup (f_cons (e_v 4) (f_cons (e_v 5) (f_cons (e_sub (e_v 6) e_int) (f_cons (e_v 7) a_nil))))))) b_nil)
  (b_cons (s_set (i := 8) sc_worked_off.nd rfl (Or.inl rfl) (e_call0 c_word_for hr (by decide) rfl (a_cons (e_v 2) (a_cons (e_v 4) (a_cons (e_v 5) (a_cons (e_v 7) a_nil))))))
  (b_cons (s_if (t_cmp (c_eq hr.units) (e_v 8) e_str (nomark _)) (b_cons (s_par (i := 8) (j := 5) (by rfl) sc_worked_off.nd rfl rfl (by decide) rfl rfl (m_cons (e_call0 c_word_for hr (by decide) rfl (a_cons (e_v 2) (a_cons (e_v 4) (a_cons (e_sub e_int (e_v 5)) (a_cons (e_v 7) a_nil))))) (m_cons (e_sub e_int (e_v 5)) a_nil)) (by rfl))
  (b_one (s_if (t_cmp (c_eq hr.units) (e_v 8) e_str (nomark _)) (b_one (s_par (i := 8) (j := 5) (by rfl) sc_worked_off.nd rfl rfl (by decide) rfl rfl (m_cons e_str (m_cons (e_sub e_int (e_v 5)) a_nil)) (by rfl))) b_nil))) b_nil)
  (b_cons (s_if (t_cmp (c_eq hr.units) (e_v 8) e_str (nomark _)) (b_one (s_ret (e_tup (f_cons (e_v 4) (f_cons (e_v 5) (f_cons (e_v 1) (f_cons (e_tuple (by rfl) T.n_tuple (by exact (e_lc (own := [("one", 9)]) (by rfl) sc_worked_off.nd (i_any (e_v 7)) (blkOk_by (own := [("one", 9)]) (N := N_worked_off) (sc := defScope s_worked_off) (by decide +kernel)) (fun _ _ _ _ _ => by exact (g_n (i := 9) sc_worked_off.nd rfl (Or.inl rfl))) (gonly_n (by decide)) (fun _ _ _ _ _ => by exact (ts_one (t_cmp (c_ne hr.units) (e_v 9) (e_v 4) (nomark _)))) (fun _ _ _ _ _ => by exact (e_v 9))))) a_nil))))))) b_nil)
  (b_cons (s_set (i := 10) sc_worked_off.nd rfl (Or.inl rfl) (e_sub (e_add (e_v 4) (e_mul e_int (e_v 5))) e_int))
  (b_cons (s_if (t_w (w_and (t_cmp (c_eq hr.units) (e_v 8) e_str (nomark _)) (w_and1 (t_chain (c_le hr.units0) c_lt e_int (e_v 10) (e_v 0))))) (b_one (s_ret (e_tup (f_cons (e_v 10) (f_cons (e_v 5) (f_cons e_int (f_cons (e_v 7) a_nil))))))) b_nil)
  (b_one (s_ret (e_tup (f_cons (e_v 4) (f_cons (e_v 5) (f_cons e_int (f_cons (e_v 7) a_nil))))))))))))))⟩
theorem ok_behind_signal (T : Txt K mg) (c_worked_off : Cd P w K mg base TT 2 "worked_off" (d_worked_off K)) (c_with_call : Cd P w K mg base TT 1 "with_call" (d_with_call K)) (F : Fn K "behind_signal" s_behind_signal f fd) : FnOk P w K mg base (L2.CX P w) 3 f fd ["floors", "stay", "rule", "standing", "signal"] (spM K TT (d_behind_signal K)) :=
  fn_m F sc_behind_signal fun cdv A outer s H E hr => ⟨_, (b_cons (s_if (t_cmp (c_eq hr.units) (e_v 4) (e_gl rfl T.v_TICK) (nomark _)) (b_one (s_ret (e_call0 c_worked_off hr (by decide) rfl (a_cons (e_v 0) (a_cons (e_v 1) (a_cons (e_v 2) (a_cons (e_v 3) a_nil))))))) b_nil)
  (b_one (s_ret (e_call0 c_with_call hr (by decide) rfl (a_cons (e_v 3) (a_cons (e_ix (e_v 4) e_int (fun _ _ => rfl)) a_nil))))))⟩
theorem ok_walked (T : Txt K mg) (c_lift_signals : Cd P w K mg base TT 1 "lift_signals" (d_lift_signals K)) (c_behind_signal : Cd P w K mg base TT 3 "behind_signal" (d_behind_signal K)) (F : Fn K "walked" s_walked f fd) : FnOk P w K mg base (L2.CX P w) 4 f fd ["floors", "stay", "rule"] (spM K TT (d_walked K)) :=
  fn_m F sc_walked fun cdv A outer s H E hr => ⟨_, (b_cons (s_parN (is := [3, 4, 5, 6]) rfl (m_cons (e_lst (f_cons (e_tup (f_cons e_int (f_cons e_int (f_cons e_int (f_cons (e_tup a_nil) a_nil))))) a_nil)) (m_cons (e_ndisp (hu10 hr) (e_tup (f_cons e_int (f_cons e_int (f_cons e_int (f_cons (e_tup a_nil) a_nil))))) e_int) (m_cons (e_lst a_nil) (m_cons e_int a_nil)))) (gs_cons (g_n (i := 3) sc_walked.nd rfl (Or.inl rfl)) (gs_cons (g_n (i := 4) sc_walked.nd rfl (Or.inl rfl)) (gs_cons (g_n (i := 5) sc_walked.nd rfl (Or.inl rfl)) (gs_cons (g_n (i := 6) sc_walked.nd rfl (Or.inl rfl)) gs_nil)))) rfl rfl (by decide))
  (b_cons (s_while (passes_of rfl) (t_cmp c_lt (e_v 6) (e_cb (callOr cl_len call_len_str) ps_len (by rfl) T.n_len (by decide +kernel) (a_cons (e_v 3) a_nil)) (nomark _)) (b_cons (s_set (i := 7) sc_walked.nd rfl (Or.inl rfl) (e_lst a_nil))
  (b_cons (s_for (passes_of rfl) rfl (i_any (e_call0 c_lift_signals hr (by decide) rfl (a_cons (e_v 0) a_nil))) (g_n (i := 8) sc_walked.nd rfl (Or.inl rfl)) (b_cons (s_set (i := 9) sc_walked.nd rfl (Or.inl rfl) (e_call0 c_behind_signal hr (by decide) rfl (a_cons (e_v 0) (a_cons (e_v 1) (a_cons (e_v 2) (a_cons (e_ix (e_v 3) (e_v 6) (fun _ _ => rfl)) (a_cons (e_v 8) a_nil)))))))
  (b_cons (s_if (t_nnotin (hu10 hr) (e_v 9) (e_v 4) (by rfl)) (b_cons (s_nput (i := 4) (hu10 hr) rfl (Or.inl rfl) (by decide) (by decide) (e_v 9) (e_cb (callOr cl_len call_len_str) ps_len (by rfl) T.n_len (by decide +kernel) (a_cons (e_v 3) a_nil)))
  (b_one (s_expr (e_lm PySem.F.plainAttrs_list PySem.F.slot_list_append PySem.F.type_list_append mt_append ls_append (i := 3) (by rfl) (Or.inl rfl) (by decide) (by decide) (f_cons (e_v 9) a_nil))))) b_nil)
  (b_one (s_expr (e_lm PySem.F.plainAttrs_list PySem.F.slot_list_append PySem.F.type_list_append mt_append ls_append (i := 7) (by rfl) (Or.inl rfl) (by decide) (by decide) (f_cons (e_nget (hu10 hr) (e_v 4) (e_v 9) (fun _ _ => rfl)) a_nil)))))))
  (b_cons (s_expr (e_lm PySem.F.plainAttrs_list PySem.F.slot_list_append PySem.F.type_list_append mt_append ls_append (i := 5) (by rfl) (Or.inl rfl) (by decide) (by decide) (f_cons (e_v 7) a_nil)))
  (b_one (s_aug (i := 6) sc_walked.nd rfl (Or.inl rfl) e_int ip_add))))))
  (b_one (s_ret (e_tup (f_cons (e_v 3) (f_cons (e_v 5) a_nil)))))))⟩
theorem ok_lift_web (T : Txt K mg) (c_need_lift : Cd P w K mg base TT 2 "need_lift" (d_need_lift K)) (c_web_walked : Cd P w K mg base TT 2 "web_walked" (d_web_walked K)) (c_walked : Cd P w K mg base TT 4 "walked" (d_walked K)) (F : Fn K "lift_web" s_lift_web f fd) : FnOk P w K mg base (L2.CX P w) 5 f fd ["floors", "stay", "rule"] (spM K TT (d_lift_web K)) :=
  fn_m F sc_lift_web fun cdv A outer s H E hr => ⟨_, (b_cons (s_expr (e_call (takes_of rfl rfl rfl rfl) c_need_lift hr (by decide) rfl (a_cons (e_v 0) (a_cons (e_v 1) (a_cons (e_v 2) a_nil)))))
  (b_one (s_ret (e_call0 c_web_walked hr (by decide) rfl (a_cons (e_v 0) (a_cons (e_ix (e_call0 c_walked hr (by decide) rfl (a_cons (e_v 0) (a_cons (e_v 1) (a_cons (e_v 2) a_nil)))) e_int (fun _ _ => rfl)) a_nil))))))⟩
theorem ok_collective (T : Txt K mg) (F : Fn K "collective" s_collective f fd) : FnOk P w K mg base (L2.CX P w) 1 f fd [] (spM K TT (d_collective K)) :=
  fn_m F sc_collective fun cdv A outer s H E hr => ⟨_, (b_cons (s_set (i := 0) sc_collective.nd rfl (Or.inl rfl) (e_tup (f_cons e_str (f_cons e_str (f_cons e_str (f_cons e_str (f_cons e_str (f_cons e_str (f_cons e_str (f_cons e_str a_nil))))))))))
  (b_one (s_ret (e_tup (f_star (e_v 0) (f_star (e_v 0) a_nil))))))⟩
theorem ok_one_way (T : Txt K mg) (c_collective : Cd P w K mg base TT 1 "collective" (d_collective K)) (F : Fn K "one_way" s_one_way f fd) : FnOk P w K mg base (L2.CX P w) 2 f fd [] (spM K TT (d_one_way K)) :=
  fn_m F sc_one_way fun cdv A outer s H E hr => ⟨_, (b_one (s_ret (e_tup (f_star (e_sl (e_call00 c_collective hr (by decide) rfl) o_none (o_some e_int)) (f_cons e_str (f_cons e_str (f_cons e_str (f_cons e_str (f_cons e_str (f_cons e_str (f_cons e_str (f_cons e_str a_nil))))))))))))⟩
theorem ok__law_pick (T : Txt K mg) (c__law_draw : Cd P w K mg base TT 2 "_law_draw" dDraw) (F : Fn K "_law_pick" s__law_pick f fd) : FnOk P w K mg base (L2.CX P w) 3 f fd ["state", "some"] (spM K TT (d__law_pick K)) :=
  fn_m F sc__law_pick fun cdv A outer s H E hr => ⟨_, (b_one (s_ret (e_ix (e_v 1) (e_call0 c__law_draw hr (by decide) rfl (a_cons (e_v 0) (a_cons (e_cb (callOr cl_len call_len_str) ps_len (by rfl) T.n_len (by decide +kernel) (a_cons (e_v 1) a_nil)) a_nil))) (fun _ _ => rfl))))⟩
theorem ok__law_sheet (T : Txt K mg) (c__law_pick : Cd P w K mg base TT 3 "_law_pick" (d__law_pick K)) (c__law_draw : Cd P w K mg base TT 2 "_law_draw" dDraw) (F : Fn K "_law_sheet" s__law_sheet f fd) : FnOk P w K mg base (L2.CX P w) 4 f fd ["state"] (spM K TT (d__law_sheet K)) :=
  fn_m F sc__law_sheet fun cdv A outer s H E hr => ⟨_, (b_cons (s_set (i := 1) sc__law_sheet.nd rfl (Or.inl rfl) (e_lst (f_cons e_str (f_cons e_str (f_cons e_str (f_cons e_str (f_cons e_str (f_cons e_str (f_cons e_str (f_cons e_str a_nil))))))))))
  (b_cons (s_set (i := 2) sc__law_sheet.nd rfl (Or.inl rfl) (e_call0 c__law_pick hr (by decide) rfl (a_cons (e_v 0) (a_cons (e_lst (f_cons (e_v 1) (f_cons (e_lst (f_cons e_str (f_cons e_str (f_cons e_str (f_cons e_str (f_cons e_str (f_cons e_str (f_cons e_str (f_cons e_str a_nil))))))))) a_nil))) a_nil))))
  (b_cons (s_set (i := 3) sc__law_sheet.nd rfl (Or.inl rfl) (e_add (e_v 1) (e_v 2)))
  (b_cons (s_for (passes_of rfl) rfl (i_rng1 (by rfl) T.n_range (f_cons (e_call0 c__law_pick hr (by decide) rfl (a_cons (e_v 0) (a_cons (e_lst (f_cons e_int (f_cons e_int (f_cons e_int (f_cons e_int (f_cons e_int a_nil)))))) a_nil))) a_nil)) (g_n (i := 4) sc__law_sheet.nd rfl (Or.inl rfl)) (b_one (s_lput (i := 3) rfl (Or.inl rfl) (by decide) (by decide) (e_call0 c__law_draw hr (by decide) rfl (a_cons (e_v 0) (a_cons e_int a_nil))) (e_call0 c__law_pick hr (by decide) rfl (a_cons (e_v 0) (a_cons (e_lst (f_cons e_str (f_cons e_str (f_cons e_str (f_cons e_str a_nil))))) a_nil))))))
  (b_one (s_ret (e_tuple (by rfl) T.n_tuple (e_v 3))))))))⟩
theorem ok__law_any_now (T : Txt K mg) (c__law_draw : Cd P w K mg base TT 2 "_law_draw" dDraw) (F : Fn K "_law_any_now" s__law_any_now f fd) : FnOk P w K mg base (L2.CX P w) 3 f fd ["state", "many", "pause"] (spM K TT (d__law_any_now K)) :=
  fn_m F sc__law_any_now fun cdv A outer s H E hr => ⟨_, (b_cons (s_set (i := 3) sc__law_any_now.nd rfl (Or.inl rfl) (e_tuple (by rfl) T.n_tuple (by exact (e_lc (own := [("one", 4)]) (by rfl) sc__law_any_now.nd (i_rng1 (by rfl) T.n_range (f_cons (e_v 1) a_nil)) (blkOk_by (own := [("one", 4)]) (N := N__law_any_now) (sc := defScope s__law_any_now) (by decide +kernel)) (fun _ _ _ _ _ => by exact (g_n (i := 4) sc__law_any_now.nd rfl (Or.inl rfl))) (gonly_n (by decide)) (fun _ _ _ _ _ => by exact (ts_one (t_cmp (c_eq hr.units) (e_call0 c__law_draw hr (by decide) rfl (a_cons (e_v 0) (a_cons e_int a_nil))) e_int (nomark _)))) (fun _ _ _ _ _ => by exact (e_v 4))))))
  (b_one (s_ret (e_tup (f_cons (e_call0 c__law_draw hr (by decide) rfl (a_cons (e_v 0) (a_cons (e_v 1) a_nil))) (f_cons (e_call0 c__law_draw hr (by decide) rfl (a_cons (e_v 0) (a_cons e_int a_nil))) (f_cons (e_call0 c__law_draw hr (by decide) rfl (a_cons (e_v 0) (a_cons (e_add (e_v 2) e_int) a_nil))) (f_cons (e_v 3) a_nil))))))))⟩
theorem ok_is_lift_standing (T : Txt K mg) (c_is_whole : Cd P w K mg base TT 1 "is_whole" (d_is_whole K)) (F : Fn K "is_lift_standing" s_is_lift_standing f fd) : FnOk P w K mg base (L2.CX P w) 2 f fd ["floors", "stay", "value"] (spM K TT (d_is_lift_standing K)) :=
  fn_m F sc_is_lift_standing fun cdv A outer s H E hr => ⟨_, (b_cons (s_if (t_w (w_or (t_not (t_val (e_isi Lk.kit_tup (by rfl) T.n_isinstance (by rfl) T.n_tuple (by decide +kernel) (e_v 2)))) (w_or (t_cmp (c_ne hr.units) (e_cb (callOr cl_len call_len_str) ps_len (by rfl) T.n_len (by decide +kernel) (a_cons (e_v 2) a_nil)) e_int (nomark _)) (w_or1 (t_not (t_val (e_isi Lk.kit_tup (by rfl) T.n_isinstance (by rfl) T.n_tuple (by decide +kernel) (e_ix (e_v 2) e_int (fun _ _ => rfl))))))))) (b_one (s_ret e_bl)) b_nil)
  (b_cons (s_if (t_w (w_or (t_not (t_val (e_call0 c_is_whole hr (by decide) rfl (a_cons (e_ix (e_v 2) e_int (fun _ _ => rfl)) (a_cons e_int (a_cons (e_sub (e_v 0) e_int) a_nil)))))) (w_or (t_not (t_val (e_call0 c_is_whole hr (by decide) rfl (a_cons (e_ix (e_v 2) e_int (fun _ _ => rfl)) (a_cons e_int (a_cons e_int a_nil)))))) (w_or1 (t_not (t_val (e_call0 c_is_whole hr (by decide) rfl (a_cons (e_ix (e_v 2) e_int (fun _ _ => rfl)) (a_cons e_int (a_cons (e_v 1) a_nil)))))))))) (b_one (s_ret e_bl)) b_nil)
  (b_cons (s_set (i := 3) sc_is_lift_standing.nd rfl (Or.inl rfl) (e_ix (e_v 2) e_int (fun _ _ => rfl)))
  (b_cons (s_if (t_not (t_val (e_cb (cr_all rfl) ps_all (by rfl) T.n_all (by decide +kernel) (a_cons (by exact (e_lc (own := [("one", 4)]) (by rfl) sc_is_lift_standing.nd (i_any (e_v 3)) (blkOk_by (own := [("one", 4)]) (N := N_is_lift_standing) (sc := defScope s_is_lift_standing) (by decide +kernel)) (fun _ _ _ _ _ => by exact (g_n (i := 4) sc_is_lift_standing.nd rfl (Or.inl rfl))) (gonly_n (by decide)) (fun _ _ _ _ _ => by exact ts_nil) (fun _ _ _ _ _ => by exact (e_call0 c_is_whole hr (by decide) rfl (a_cons (e_v 4) (a_cons e_int (a_cons (e_sub (e_v 0) e_int) a_nil))))))) a_nil)))) (b_one (s_ret e_bl)) b_nil)
  (b_one (s_ret (e_cb (cr_all rfl) ps_all (by rfl) T.n_all (by decide +kernel) (a_cons (by exact (e_lc (own := [("one", 4), ("other", 5)]) (by rfl) sc_is_lift_standing.nd (i_zip (by rfl) T.n_zip (e_v 3) (e_sl (e_v 3) (o_some e_int) o_none)) (blkOk_by (own := [("one", 4), ("other", 5)]) (N := N_is_lift_standing) (sc := defScope s_is_lift_standing) (by decide +kernel)) (fun _ _ _ _ _ => by exact (g_tup rfl (gs_cons (g_n (i := 4) sc_is_lift_standing.nd rfl (Or.inl rfl)) (gs_cons (g_n (i := 5) sc_is_lift_standing.nd rfl (Or.inl rfl)) gs_nil)))) (gonly_t (gsonly_cons gmono_n (gsmono_cons gmono_n gsmono_nil) (gonly_n (by decide)) (gsonly_cons gmono_n gsmono_nil (gonly_n (by decide)) gsonly_nil))) (fun _ _ _ _ _ => by exact ts_nil) (fun _ _ _ _ _ => by exact (e_cmp c_lt (e_v 4) (e_v 5) (nomark _))))) a_nil))))))))⟩
theorem ok_is_lift_signal (T : Txt K mg) (c_is_whole : Cd P w K mg base TT 1 "is_whole" (d_is_whole K)) (F : Fn K "is_lift_signal" s_is_lift_signal f fd) : FnOk P w K mg base (L2.CX P w) 2 f fd ["floors", "value"] (spM K TT (d_is_lift_signal K)) :=
  fn_m F sc_is_lift_signal fun cdv A outer s H E hr => ⟨_, (b_cons (s_if (t_w (w_or (t_not (t_val (e_isi Lk.kit_tup (by rfl) T.n_isinstance (by rfl) T.n_tuple (by decide +kernel) (e_v 1)))) (w_or (t_cmp (c_eq hr.units) (e_v 1) (e_tup a_nil) (nomark _)) (w_or1 (t_not (t_val (e_isi Lk.kit_str (by rfl) T.n_isinstance (by rfl) T.n_str (by decide +kernel) (e_ix (e_v 1) e_int (fun _ _ => rfl))))))))) (b_one (s_ret e_bl)) b_nil)
  (b_one (s_ret (e_or (e_cmp (c_eq hr.units) (e_v 1) (e_gl rfl T.v_TICK) (nomark _)) (e_one (e_and (e_cmp (c_eq hr.units) (e_cb (callOr cl_len call_len_str) ps_len (by rfl) T.n_len (by decide +kernel) (a_cons (e_v 1) a_nil)) e_int (nomark _)) (e_and (e_cmp (c_eq hr.units) (e_ix (e_v 1) e_int (fun _ _ => rfl)) e_str (nomark _)) (e_one (e_call0 c_is_whole hr (by decide) rfl (a_cons (e_ix (e_v 1) e_int (fun _ _ => rfl)) (a_cons e_int (a_cons (e_sub (e_v 0) e_int) a_nil))))))))))))⟩
theorem ok_lift_step (T : Txt K mg) (c_need_lift : Cd P w K mg base TT 2 "need_lift" (d_need_lift K)) (c_is_lift_standing : Cd P w K mg base TT 2 "is_lift_standing" (d_is_lift_standing K)) (c_is_lift_signal : Cd P w K mg base TT 2 "is_lift_signal" (d_is_lift_signal K)) (c_behind_signal : Cd P w K mg base TT 3 "behind_signal" (d_behind_signal K)) (F : Fn K "lift_step" s_lift_step f fd) : FnOk P w K mg base (L2.CX P w) 4 f fd ["floors", "stay", "rule", "standing", "signal"] (spM K TT (d_lift_step K)) :=
  fn_m F sc_lift_step fun cdv A outer s H E hr => ⟨_, (b_cons (s_expr (e_call (takes_of rfl rfl rfl rfl) c_need_lift hr (by decide) rfl (a_cons (e_v 0) (a_cons (e_v 1) (a_cons (e_v 2) a_nil)))))
  (b_cons (s_if (t_not (t_val (e_call0 c_is_lift_standing hr (by decide) rfl (a_cons (e_v 0) (a_cons (e_v 1) (a_cons (e_v 3) a_nil)))))) (b_one (s_raise rfl (takes_of rfl rfl rfl rfl) T.x_BadStanding rfl (raises_own T.x_BadStanding.sb T.x_BadStanding.ty))) b_nil)
  (b_cons (s_if (t_not (t_val (e_call0 c_is_lift_signal hr (by decide) rfl (a_cons (e_v 0) (a_cons (e_v 4) a_nil))))) (b_one (s_raise rfl (takes_of rfl rfl rfl rfl) T.x_BadSignal rfl (raises_own T.x_BadSignal.sb T.x_BadSignal.ty))) b_nil)
  (b_one (s_ret (e_call0 c_behind_signal hr (by decide) rfl (a_cons (e_v 0) (a_cons (e_v 1) (a_cons (e_v 2) (a_cons (e_v 3) (a_cons (e_v 4) a_nil)))))))))))⟩
theorem ok_lift_standings (T : Txt K mg) (c_need_lift : Cd P w K mg base TT 2 "need_lift" (d_need_lift K)) (c_walked : Cd P w K mg base TT 4 "walked" (d_walked K)) (F : Fn K "lift_standings" s_lift_standings f fd) : FnOk P w K mg base (L2.CX P w) 5 f fd ["floors", "stay", "rule"] (spM K TT (d_lift_standings K)) :=
  fn_m F sc_lift_standings fun cdv A outer s H E hr => ⟨_, (b_cons (s_expr (e_call (takes_of rfl rfl rfl rfl) c_need_lift hr (by decide) rfl (a_cons (e_v 0) (a_cons (e_v 1) (a_cons (e_v 2) a_nil)))))
  (b_one (s_ret (e_ix (e_call0 c_walked hr (by decide) rfl (a_cons (e_v 0) (a_cons (e_v 1) (a_cons (e_v 2) a_nil)))) e_int (fun _ _ => rfl)))))⟩
theorem ok__law_refusals_right (T : Txt K mg) (Rc : Rg K mg) (LD : LamD K mg base TT "_law_refusals_right" "_law_refusals_right.<locals>.<lambda>") (c__law_pick : Cd P w K mg base TT 3 "_law_pick" (d__law_pick K)) (c_lift_step : Cd P w K mg base TT 4 "lift_step" (d_lift_step K)) (c_lift_standings : Cd P w K mg base TT 5 "lift_standings" (d_lift_standings K)) (c_lift_web : Cd P w K mg base TT 5 "lift_web" (d_lift_web K)) (c_is_rule : Cd P w K mg base TT 1 "is_rule" (d_is_rule K)) (w_is_rule : Cdk P w K mg base TT 1 "is_rule" ["value"] (d_is_rule K)) (F : Fn K "_law_refusals_right" s__law_refusals_right f fd) (hf : f = He.fAd K ("_law_refusals_right", none)) : FnOk P w K mg base (L2.CX P w) 8 f fd ["state", "many", "pause", "sheet", "now"] (spM K TT (d__law_refusals_right K)) :=
  fn_ml F hf sc__law_refusals_right fun A outer s H E hr => ⟨_, (b_cons (s_parN (is := [5, 6]) rfl (m_cons (e_call0 c__law_pick hr (by decide) rfl (a_cons (e_v 0) (a_cons (e_lst (f_cons e_non (f_cons e_int (f_cons e_int (f_cons e_bl (f_cons e_str a_nil)))))) a_nil))) (m_cons (e_call0 c__law_pick hr (by decide) rfl (a_cons (e_v 0) (a_cons (e_lst (f_cons e_non (f_cons e_int (f_cons e_int (f_cons e_bl a_nil))))) a_nil))) a_nil)) (gs_cons (g_n (i := 5) sc__law_refusals_right.nd rfl (Or.inr rfl)) (gs_cons (g_n (i := 6) sc__law_refusals_right.nd rfl (Or.inr rfl)) gs_nil)) rfl rfl (by decide))
  (b_cons (s_set (i := 7) sc__law_refusals_right.nd rfl (Or.inr rfl) (e_call0 c__law_pick hr (by decide) rfl (a_cons (e_v 0) (a_cons (e_lst (f_cons e_non (f_cons (e_sl (e_v 3) (o_some e_int) o_none) (f_cons (e_cty (cr_list rfl) ps_list (by rfl) T.n_list (by decide +kernel) (a_cons (e_v 3) a_nil)) (f_cons (e_add (e_sl (e_v 3) o_none (o_some e_int)) (e_tup (f_cons e_str a_nil))) (f_cons (e_add (e_sl (e_v 3) o_none (o_some e_int)) (e_tup (f_cons e_int a_nil))) (f_cons (e_add (e_v 3) (e_tup (f_cons e_str a_nil))) a_nil))))))) a_nil))))
  (b_cons (s_set (i := 8) sc__law_refusals_right.nd rfl (Or.inr rfl) (e_call0 c__law_pick hr (by decide) rfl (a_cons (e_v 0) (a_cons (e_lst (f_cons e_non (f_cons (e_sl (e_v 4) o_none (o_some e_int)) (f_cons (e_cty (cr_list rfl) ps_list (by rfl) T.n_list (by decide +kernel) (a_cons (e_v 4) a_nil)) (f_cons (e_add (e_tup (f_cons (e_v 1) a_nil)) (e_sl (e_v 4) (o_some e_int) o_none)) (f_cons (e_add (e_tup (f_cons (e_neg e_int) a_nil)) (e_sl (e_v 4) (o_some e_int) o_none)) (f_cons (e_add (e_add (e_sl (e_v 4) o_none (o_some e_int)) (e_tup (f_cons e_int a_nil))) (e_sl (e_v 4) (o_some e_int) o_none)) (f_cons (e_add (e_tup (f_cons e_bl a_nil)) (e_sl (e_v 4) (o_some e_int) o_none)) (f_cons (e_add (e_add (e_sl (e_v 4) o_none (o_some e_int)) (e_tup (f_cons (e_add (e_v 2) e_int) a_nil))) (e_sl (e_v 4) (o_some e_int) o_none)) (f_cons (e_add (e_sl (e_v 4) o_none (o_some e_int)) (e_tup (f_cons (e_lst a_nil) a_nil))) (f_cons (e_add (e_sl (e_v 4) o_none (o_some e_int)) (e_tup (f_cons (e_tup (f_cons e_int (f_cons e_int a_nil))) a_nil))) (f_cons (e_add (e_sl (e_v 4) o_none (o_some e_int)) (e_tup (f_cons (e_tup (f_cons (e_v 1) a_nil)) a_nil))) (f_cons (e_add (e_sl (e_v 4) o_none (o_some e_int)) (e_tup (f_cons (e_tup (f_cons e_int (f_cons e_int a_nil))) a_nil))) a_nil))))))))))))) a_nil))))
  (b_cons (s_set (i := 9) sc__law_refusals_right.nd rfl (Or.inr rfl) (e_call0 c__law_pick hr (by decide) rfl (a_cons (e_v 0) (a_cons (e_lst (f_cons e_non (f_cons (e_tup a_nil) (f_cons (e_tup (f_cons e_str a_nil)) (f_cons (e_tup (f_cons e_str (f_cons (e_v 1) a_nil))) (f_cons (e_tup (f_cons e_str (f_cons (e_neg e_int) a_nil))) (f_cons (e_tup (f_cons e_str (f_cons e_bl a_nil))) (f_cons (e_tup (f_cons e_str (f_cons e_int a_nil))) (f_cons e_str (f_cons (e_tup (f_cons e_str (f_cons e_int a_nil))) (f_cons (e_lst (f_cons e_str a_nil)) a_nil))))))))))) a_nil))))
  (e_works (i := 10) (w := 11) (k := 5) Rc rfl rfl LD rfl rfl (hr.mono (by decide))
    (lq_cons (lamS_by (by rfl)) rfl (fun _ _ _ _ _ => rfl) c_lift_step (by decide) (fun _ _ _ _ _ _ _ => rfl) (fun _ _ _ _ _ _ _ _ => by exact (a_cons (e_v 5) (a_cons (e_v 6) (a_cons (e_v 7) (a_cons (e_v 8) (a_cons (e_v 9) a_nil))))))
    (lq_cons (lamS_by (by rfl)) rfl (fun _ _ _ _ _ => rfl) c_lift_web (by decide) (fun _ _ _ _ _ _ _ => rfl) (fun _ _ _ _ _ _ _ _ => by exact (a_cons (e_v 1) (a_cons (e_v 6) (a_cons (e_v 7) a_nil))))
    (lq_cons (lamS_by (by rfl)) rfl (fun _ _ _ _ _ => rfl) c_lift_standings (by decide) (fun _ _ _ _ _ _ _ => rfl) (fun _ _ _ _ _ _ _ _ => by exact (a_cons (e_v 1) (a_cons (e_v 2) (a_cons (e_v 7) a_nil))))
    (lq_cons (lamS_by (by rfl)) rfl (fun _ _ _ _ _ => rfl) c_lift_step (by decide) (fun _ _ _ _ _ _ _ => rfl) (fun _ _ _ _ _ _ _ _ => by exact (a_cons (e_v 1) (a_cons (e_v 2) (a_cons (e_v 3) (a_cons (e_v 8) (a_cons (e_v 9) a_nil))))))
    (lq_cons (lamS_by (by rfl)) rfl (fun _ _ _ _ _ => rfl) c_lift_step (by decide) (fun _ _ _ _ _ _ _ => rfl) (fun _ _ _ _ _ _ _ _ => by exact (a_cons (e_v 1) (a_cons (e_v 2) (a_cons (e_v 3) (a_cons (e_v 4) (a_cons (e_v 9) a_nil))))))
    lq_nil))))) (Nat.le_of_ble_eq_true rfl) (fun _ _ _ _ _ _ => rfl) rfl (fun _ _ => .inl rfl) rfl rfl rfl sc__law_refusals_right.nd (blkOk_by (own := [("work", 11)]) (N := N__law_refusals_right) (sc := defScope s__law_refusals_right) (by decide +kernel)) rfl rfl (by decide) rfl rfl (fun _ _ _ _ _ _ => pg_name sc__law_refusals_right.nd rfl (.inl rfl) (.inr rfl))
    (fun _ => by exact (c_ne hr.units)) (fun _ => by exact (e_lst (f_cons e_str (f_cons e_str (f_cons e_str (f_cons e_str (f_cons e_str a_nil))))))) (nomark _) 
    (fun _ => by exact (b_one (s_ret e_bl))) 
    (fun _ => by exact b_nil) 
    (fun _ => by exact (b_one (s_ret (e_and (e_cmp c_isB (e_call0 c_is_rule hr (by decide) rfl (a_cons (e_v 7) a_nil)) e_bl (nomark _)) (e_and (e_cmp c_isB (e_call0 c_is_rule hr (by decide) rfl (a_cons (e_v 3) a_nil)) e_bl (nomark _)) (e_one (e_cmp c_isB (e_kw0 w_is_rule hr (by decide) rfl (k_cons (e_v 3) k_nil)) e_bl (nomark _)))))))) rfl)))))⟩
theorem ok__law_lift_web (T : Txt K mg) (F : Fn K "_law_lift_web" s__law_lift_web f fd) : FnOk P w K mg base (L2.CX P w) 1 f fd ["many", "rows"] (spM K TT (d__law_lift_web K)) :=
  fn_m F sc__law_lift_web fun cdv A outer s H E hr => ⟨_, (b_cons (s_set (i := 2) sc__law_lift_web.nd rfl (Or.inr rfl) (e_add (by exact (e_lc (own := [("one", 3)]) (by rfl) sc__law_lift_web.nd (i_rng1 (by rfl) T.n_range (f_cons (e_v 0) a_nil)) (blkOk_by (own := [("one", 3)]) (N := N__law_lift_web) (sc := defScope s__law_lift_web) (by decide +kernel)) (fun _ _ _ _ _ => by exact (g_n (i := 3) sc__law_lift_web.nd rfl (Or.inl rfl))) (gonly_n (by decide)) (fun _ _ _ _ _ => by exact ts_nil) (fun _ _ _ _ _ => by exact (e_tup (f_cons e_str (f_cons (e_v 3) a_nil)))))) (e_lst (f_cons (e_tup (f_cons e_str a_nil)) a_nil))))
  (b_one (s_ret (e_tup (f_cons e_str (f_cons (e_tup (f_cons e_int a_nil)) (f_cons (e_tuple (by rfl) T.n_tuple (by exact (e_lc (own := [("row", 6)]) (by rfl) sc__law_lift_web.nd (i_any (e_v 1)) (blkOk_by (own := [("row", 6)]) (N := N__law_lift_web) (sc := defScope s__law_lift_web) (by decide +kernel)) (fun _ _ _ _ _ => by exact (g_n (i := 6) sc__law_lift_web.nd rfl (Or.inl rfl))) (gonly_n (by decide)) (fun _ _ _ _ _ => by exact ts_nil) (fun _ _ _ _ _ => by exact (e_tuple (by rfl) T.n_tuple (by exact (e_lc (own := [("label", 4), ("at", 5)]) (by rfl) sc__law_lift_web.nd (i_zip (by rfl) T.n_zip (e_v 2) (e_v 6)) (by refine blkOk_by (own := [("label", 4), ("at", 5)]) ?_; kernel_rfl) (fun _ _ _ _ _ => by exact (g_tup rfl (gs_cons (g_n (i := 4) sc__law_lift_web.nd rfl (Or.inl rfl)) (gs_cons (g_n (i := 5) sc__law_lift_web.nd rfl (Or.inl rfl)) gs_nil)))) (gonly_t (gsonly_cons gmono_n (gsmono_cons gmono_n gsmono_nil) (gonly_n (by decide)) (gsonly_cons gmono_n gsmono_nil (gonly_n (by decide)) gsonly_nil))) (fun _ _ _ _ _ => by exact ts_nil) (fun _ _ _ _ _ => by exact (e_tup (f_cons (e_v 4) (f_cons e_non (f_cons e_non (f_cons (e_v 5) a_nil))))))))))))) a_nil)))))))⟩
theorem ok_is_name (T : Txt K mg) (F : Fn K "is_name" s_is_name f fd) : FnOk P w K mg base (L2.CX P w) 1 f fd ["value"] (spM K TT (d_is_name K)) :=
  fn_m F sc_is_name fun cdv A outer s H E hr => ⟨_, (b_cons (s_if (t_w (w_or (t_not (t_val (e_isi Lk.kit_str (by rfl) T.n_isinstance (by rfl) T.n_str (by decide +kernel) (e_v 0)))) (w_or (t_not (t_chain (c_le hr.units0) (c_le hr.units0) e_int (e_cb (callOr cl_len call_len_str) ps_len (by rfl) T.n_len (by decide +kernel) (a_cons (e_v 0) a_nil)) e_int)) (w_or1 (t_cmp (c_eq hr.units) (e_v 0) e_str (nomark _)))))) (b_one (s_ret e_bl)) b_nil)
  (b_one (s_ret (e_cb (cr_all rfl) ps_all (by rfl) T.n_all (by decide +kernel) (a_cons (by exact (e_lc (own := [("letter", 1)]) (by rfl) sc_is_name.nd (i_any (e_v 0)) (blkOk_by (own := [("letter", 1)]) (N := N_is_name) (sc := defScope s_is_name) (by decide +kernel)) (fun _ _ _ _ _ => by exact (g_n (i := 1) sc_is_name.nd rfl (Or.inl rfl))) (gonly_n (by decide)) (fun _ _ _ _ _ => by exact ts_nil) (fun _ _ _ _ _ => by exact (e_cmp (c_in (units1 hr)) (e_v 1) (e_gl rfl T.v_LETTERS) (by rfl))))) a_nil)))))⟩
theorem ok_is_post (T : Txt K mg) (c_is_name : Cd P w K mg base TT 1 "is_name" (d_is_name K)) (F : Fn K "is_post" s_is_post f fd) : FnOk P w K mg base (L2.CX P w) 2 f fd ["value"] (spM K TT (d_is_post K)) :=
  fn_m F sc_is_post fun cdv A outer s H E hr => ⟨_, (b_one (s_ret (e_and (e_isi Lk.kit_tup (by rfl) T.n_isinstance (by rfl) T.n_tuple (by decide +kernel) (e_v 0)) (e_and (e_cmp (c_eq hr.units) (e_cb (callOr cl_len call_len_str) ps_len (by rfl) T.n_len (by decide +kernel) (a_cons (e_v 0) a_nil)) e_int (nomark _)) (e_one (e_cb (cr_all rfl) ps_all (by rfl) T.n_all (by decide +kernel) (a_cons (by exact (e_lc (own := [("one", 1)]) (by rfl) sc_is_post.nd (i_any (e_v 0)) (blkOk_by (own := [("one", 1)]) (N := N_is_post) (sc := defScope s_is_post) (by decide +kernel)) (fun _ _ _ _ _ => by exact (g_n (i := 1) sc_is_post.nd rfl (Or.inl rfl))) (gonly_n (by decide)) (fun _ _ _ _ _ => by exact ts_nil) (fun _ _ _ _ _ => by exact (e_call0 c_is_name hr (by decide) rfl (a_cons (e_v 1) a_nil))))) a_nil)))))))⟩
theorem ok_is_label (T : Txt K mg) (F : Fn K "is_label" s_is_label f fd) : FnOk P w K mg base (L2.CX P w) 1 f fd ["value"] (spM K TT (d_is_label K)) :=
  fn_m F sc_is_label fun cdv A outer s H E hr => ⟨_, (b_cons (s_if (t_w (w_or (t_not (t_val (e_isi Lk.kit_tup (by rfl) T.n_isinstance (by rfl) T.n_tuple (by decide +kernel) (e_v 0)))) (w_or (t_cmp (c_eq hr.units) (e_v 0) (e_tup a_nil) (nomark _)) (w_or1 (t_not (t_val (e_isi Lk.kit_str (by rfl) T.n_isinstance (by rfl) T.n_str (by decide +kernel) (e_ix (e_v 0) e_int (fun _ _ => rfl))))))))) (b_one (s_ret e_bl)) b_nil)
  (b_one (s_ret (e_cb (cr_all rfl) ps_all (by rfl) T.n_all (by decide +kernel) (a_cons (by exact (e_lc (own := [("one", 1)]) (by rfl) sc_is_label.nd (i_any (e_v 0)) (blkOk_by (own := [("one", 1)]) (N := N_is_label) (sc := defScope s_is_label) (by decide +kernel)) (fun _ _ _ _ _ => by exact (g_n (i := 1) sc_is_label.nd rfl (Or.inl rfl))) (gonly_n (by decide)) (fun _ _ _ _ _ => by exact ts_nil) (fun _ _ _ _ _ => by exact (e_or (e_isi Lk.kit_str (by rfl) T.n_isinstance (by rfl) T.n_str (by decide +kernel) (e_v 1)) (e_one (e_and (e_isi Lk.kit_int (by rfl) T.n_isinstance (by rfl) T.n_int (by decide +kernel) (e_v 1)) (e_one (e_not (e_isi Lk.kit_bool (by rfl) T.n_isinstance (by rfl) T.n_bool (by decide +kernel) (e_v 1)))))))))) a_nil)))))⟩
theorem ok_is_move (T : Txt K mg) (c_is_whole : Cd P w K mg base TT 1 "is_whole" (d_is_whole K)) (c_is_label : Cd P w K mg base TT 1 "is_label" (d_is_label K)) (c_is_post : Cd P w K mg base TT 2 "is_post" (d_is_post K)) (F : Fn K "is_move" s_is_move f fd) : FnOk P w K mg base (L2.CX P w) 3 f fd ["value", "many"] (spM K TT (d_is_move K)) :=
  fn_m F sc_is_move fun cdv A outer s H E hr => ⟨_, (b_cons (s_if (t_w (w_or (t_not (t_val (e_isi Lk.kit_tup (by rfl) T.n_isinstance (by rfl) T.n_tuple (by decide +kernel) (e_v 0)))) (w_or (t_cmp (c_ne hr.units) (e_cb (callOr cl_len call_len_str) ps_len (by rfl) T.n_len (by decide +kernel) (a_cons (e_v 0) a_nil)) e_int (nomark _)) (w_or (t_not (t_val (e_call0 c_is_label hr (by decide) rfl (a_cons (e_ix (e_v 0) e_int (fun _ _ => rfl)) a_nil)))) (w_or1 (t_not (t_val (e_call0 c_is_whole hr (by decide) rfl (a_cons (e_ix (e_v 0) e_int (fun _ _ => rfl)) (a_cons e_int (a_cons (e_sub (e_v 1) e_int) a_nil))))))))))) (b_one (s_ret e_bl)) b_nil)
  (b_cons (s_if (t_w (w_or (t_cmp c_isN (e_ix (e_v 0) e_int (fun _ _ => rfl)) e_non (nomark _)) (w_or1 (t_cmp c_isN (e_ix (e_v 0) e_int (fun _ _ => rfl)) e_non (nomark _))))) (b_one (s_ret (e_and (e_cmp c_isN (e_ix (e_v 0) e_int (fun _ _ => rfl)) e_non (nomark _)) (e_one (e_cmp c_isN (e_ix (e_v 0) e_int (fun _ _ => rfl)) e_non (nomark _)))))) b_nil)
  (b_one (s_ret (e_and (e_call0 c_is_post hr (by decide) rfl (a_cons (e_ix (e_v 0) e_int (fun _ _ => rfl)) a_nil)) (e_and (e_call0 c_is_post hr (by decide) rfl (a_cons (e_ix (e_v 0) e_int (fun _ _ => rfl)) a_nil)) (e_one (e_cmp (c_eq hr.units) (e_ix (e_ix (e_v 0) e_int (fun _ _ => rfl)) e_int (fun _ _ => rfl)) (e_ix (e_ix (e_v 0) e_int (fun _ _ => rfl)) e_int (fun _ _ => rfl)) (nomark _)))))))))⟩
theorem ok_is_web (T : Txt K mg) (c_is_whole : Cd P w K mg base TT 1 "is_whole" (d_is_whole K)) (c_is_move : Cd P w K mg base TT 3 "is_move" (d_is_move K)) (F : Fn K "is_web" s_is_web f fd) : FnOk P w K mg base (L2.CX P w) 4 f fd ["value"] (spM K TT (d_is_web K)) :=
  fn_m F sc_is_web fun cdv A outer s H E hr => ⟨_, (b_cons (s_if (t_w (w_or (t_not (t_val (e_isi Lk.kit_tup (by rfl) T.n_isinstance (by rfl) T.n_tuple (by decide +kernel) (e_v 0)))) (w_or (t_cmp (c_ne hr.units) (e_cb (callOr cl_len call_len_str) ps_len (by rfl) T.n_len (by decide +kernel) (a_cons (e_v 0) a_nil)) e_int (nomark _)) (w_or1 (t_cmp (c_ne hr.units) (e_ix (e_v 0) e_int (fun _ _ => rfl)) e_str (nomark _)))))) (b_one (s_ret e_bl)) b_nil)
  (b_cons (s_asgG (e_v 0) (g_tup rfl (gs_cons (g_n (i := 1) sc_is_web.nd rfl (Or.inl rfl)) (gs_cons (g_n (i := 2) sc_is_web.nd rfl (Or.inl rfl)) (gs_cons (g_n (i := 3) sc_is_web.nd rfl (Or.inr rfl)) gs_nil)))))
  (b_cons (s_if (t_w (w_or (t_not (t_val (e_isi Lk.kit_tup (by rfl) T.n_isinstance (by rfl) T.n_tuple (by decide +kernel) (e_v 2)))) (w_or (t_not (t_val (e_isi Lk.kit_tup (by rfl) T.n_isinstance (by rfl) T.n_tuple (by decide +kernel) (e_v 3)))) (w_or1 (t_not (t_chain (c_le hr.units0) (c_le hr.units0) e_int (e_cb (callOr cl_len call_len_str) ps_len (by rfl) T.n_len (by decide +kernel) (a_cons (e_v 3) a_nil)) (e_gl rfl T.v_MOST_PLACES))))))) (b_one (s_ret e_bl)) b_nil)
  (b_cons (s_if (t_w (w_or (t_cmp (c_eq hr.units) (e_v 2) (e_tup a_nil) (nomark _)) (w_or1 (t_not (t_val (e_cb (cr_all rfl) ps_all (by rfl) T.n_all (by decide +kernel) (a_cons (by exact (e_lc (own := [("one", 4)]) (by rfl) sc_is_web.nd (i_any (e_v 2)) (blkOk_by (own := [("one", 4)]) (N := N_is_web) (sc := defScope s_is_web) (by decide +kernel)) (fun _ _ _ _ _ => by exact (g_n (i := 4) sc_is_web.nd rfl (Or.inl rfl))) (gonly_n (by decide)) (fun _ _ _ _ _ => by exact ts_nil) (fun _ _ _ _ _ => by exact (e_call0 c_is_whole hr (by decide) rfl (a_cons (e_v 4) (a_cons e_int (a_cons (e_sub (e_cb (callOr cl_len call_len_str) ps_len (by rfl) T.n_len (by decide +kernel) (a_cons (e_v 3) a_nil)) e_int) a_nil))))))) a_nil))))))) (b_one (s_ret e_bl)) b_nil)
  (b_cons (s_if (t_not (t_val (e_cb (cr_all rfl) ps_all (by rfl) T.n_all (by decide +kernel) (a_cons (by exact (e_lc (own := [("one", 4), ("other", 5)]) (by rfl) sc_is_web.nd (i_zip (by rfl) T.n_zip (e_v 2) (e_sl (e_v 2) (o_some e_int) o_none)) (blkOk_by (own := [("one", 4), ("other", 5)]) (N := N_is_web) (sc := defScope s_is_web) (by decide +kernel)) (fun _ _ _ _ _ => by exact (g_tup rfl (gs_cons (g_n (i := 4) sc_is_web.nd rfl (Or.inl rfl)) (gs_cons (g_n (i := 5) sc_is_web.nd rfl (Or.inl rfl)) gs_nil)))) (gonly_t (gsonly_cons gmono_n (gsmono_cons gmono_n gsmono_nil) (gonly_n (by decide)) (gsonly_cons gmono_n gsmono_nil (gonly_n (by decide)) gsonly_nil))) (fun _ _ _ _ _ => by exact ts_nil) (fun _ _ _ _ _ => by exact (e_cmp c_lt (e_v 4) (e_v 5) (nomark _))))) a_nil)))) (b_one (s_ret e_bl)) b_nil)
  (b_cons (s_for (passes_of rfl) rfl (i_any (e_v 3)) (g_n (i := 6) sc_is_web.nd rfl (Or.inl rfl)) (b_cons (s_if (t_w (w_or (t_not (t_val (e_isi Lk.kit_tup (by rfl) T.n_isinstance (by rfl) T.n_tuple (by decide +kernel) (e_v 6)))) (w_or1 (t_not (t_val (e_cb (cr_all rfl) ps_all (by rfl) T.n_all (by decide +kernel) (a_cons (by exact (e_lc (own := [("one", 4)]) (by rfl) sc_is_web.nd (i_any (e_v 6)) (blkOk_by (own := [("one", 4)]) (N := N_is_web) (sc := defScope s_is_web) (by decide +kernel)) (fun _ _ _ _ _ => by exact (g_n (i := 4) sc_is_web.nd rfl (Or.inl rfl))) (gonly_n (by decide)) (fun _ _ _ _ _ => by exact ts_nil) (fun _ _ _ _ _ => by exact (e_call0 c_is_move hr (by decide) rfl (a_cons (e_v 4) (a_cons (e_cb (callOr cl_len call_len_str) ps_len (by rfl) T.n_len (by decide +kernel) (a_cons (e_v 3) a_nil)) a_nil)))))) a_nil))))))) (b_one (s_ret e_bl)) b_nil)
  (b_one (s_if (t_cmp c_lt (e_lenSet rfl hr.units (by rfl) T.n_len (by rfl) T.n_set (e_v 6)) (e_cb (callOr cl_len call_len_str) ps_len (by rfl) T.n_len (by decide +kernel) (a_cons (e_v 6) a_nil)) (nomark _)) (b_one (s_ret e_bl)) b_nil))))
  (b_one (s_ret e_bl))))))))⟩
theorem ok__law_row_right (T : Txt K mg) (c_lift_standings : Cd P w K mg base TT 5 "lift_standings" (d_lift_standings K)) (c__law_draw : Cd P w K mg base TT 2 "_law_draw" dDraw) (c_lift_step : Cd P w K mg base TT 4 "lift_step" (d_lift_step K)) (F : Fn K "_law_row_right" s__law_row_right f fd) : FnOk P w K mg base (L2.CX P w) 6 f fd ["state", "many", "pause", "sheet", "web"] (spM K TT (d__law_row_right K)) :=
  fn_m F sc__law_row_right fun cdv A outer s H E hr => ⟨_, (b_cons (s_par3 (i := 5) (j := 6) (l := 7) (by rfl) sc__law_row_right.nd rfl rfl rfl (by decide) (by decide) (by decide) rfl rfl rfl (m_cons (e_call (takes_of rfl rfl rfl rfl) c_lift_standings hr (by decide) rfl (a_cons (e_v 1) (a_cons (e_v 2) (a_cons (e_v 3) a_nil)))) (m_cons (e_tup (f_cons e_int (f_cons e_int (f_cons e_int (f_cons (e_tup a_nil) a_nil))))) (m_cons e_int a_nil))) (by rfl))
  (b_cons (s_for (passes_of rfl) rfl (i_rng1 (by rfl) T.n_range (f_cons e_int a_nil)) (g_n (i := 8) sc__law_row_right.nd rfl (Or.inl rfl)) (b_cons (s_set (i := 9) sc__law_row_right.nd rfl (Or.inr rfl) (e_if (t_cmp (c_eq hr.units) (e_call0 c__law_draw hr (by decide) rfl (a_cons (e_v 0) (a_cons e_int a_nil))) e_int (nomark _)) (e_tup (f_cons e_str a_nil)) (e_tup (f_cons e_str (f_cons (e_call0 c__law_draw hr (by decide) rfl (a_cons (e_v 0) (a_cons (e_v 1) a_nil))) a_nil)))))
  (b_cons (s_set (i := 6) sc__law_row_right.nd rfl (Or.inl rfl) (e_call (takes_of rfl rfl rfl rfl) c_lift_step hr (by decide) rfl (a_cons (e_v 1) (a_cons (e_v 2) (a_cons (e_v 3) (a_cons (e_v 6) (a_cons (e_v 9) a_nil)))))))
  (b_cons (s_set (i := 7) sc__law_row_right.nd rfl (Or.inl rfl) (e_ix (by exact (e_lc (own := [("move", 10)]) (by rfl) sc__law_row_right.nd (i_any (e_ix (e_ix (e_v 4) e_int (fun _ _ => rfl)) (e_v 7) (fun _ _ => rfl))) (blkOk_by (own := [("move", 10)]) (N := N__law_row_right) (sc := defScope s__law_row_right) (by decide +kernel)) (fun _ _ _ _ _ => by exact (g_n (i := 10) sc__law_row_right.nd rfl (Or.inl rfl))) (gonly_n (by decide)) (fun _ _ _ _ _ => by exact (ts_one (t_cmp (c_eq hr.units) (e_ix (e_v 10) e_int (fun _ _ => rfl)) (e_v 9) (nomark _)))) (fun _ _ _ _ _ => by exact (e_ix (e_v 10) e_int (fun _ _ => rfl))))) e_int (fun _ _ => rfl)))
  (b_one (s_if (t_cmp (c_ne hr.units) (e_ix (e_v 5) (e_v 7) (fun _ _ => rfl)) (e_v 6) (nomark _)) (b_one (s_ret e_bl)) b_nil))))))
  (b_one (s_ret e_bl))))⟩
theorem ok_law (T : Txt K mg) (c__law_begun : Cd P w K mg base TT 1 "_law_begun" dBegun) (c_one_way : Cd P w K mg base TT 2 "one_way" (d_one_way K)) (c_collective : Cd P w K mg base TT 1 "collective" (d_collective K)) (c__law_sheet : Cd P w K mg base TT 4 "_law_sheet" (d__law_sheet K)) (c__law_draw : Cd P w K mg base TT 2 "_law_draw" dDraw) (c__law_pick : Cd P w K mg base TT 3 "_law_pick" (d__law_pick K)) (c__law_lift_walk : Cd P w K mg base TT 3 "_law_lift_walk" (d__law_lift_walk K)) (c_lift_web : Cd P w K mg base TT 5 "lift_web" (d_lift_web K)) (u_lift_web_012 : Cdp P w K mg base TT 5 "lift_web" ["floors", "stay", "rule"] [0, 1, 2] (d_lift_web K)) (c__law_lift_web : Cd P w K mg base TT 1 "_law_lift_web" (d__law_lift_web K)) (u_lift_standings_012 : Cdp P w K mg base TT 5 "lift_standings" ["floors", "stay", "rule"] [0, 1, 2] (d_lift_standings K)) (c__law_row_right : Cd P w K mg base TT 6 "_law_row_right" (d__law_row_right K)) (c_is_web : Cd P w K mg base TT 4 "is_web" (d_is_web K)) (c__law_any_now : Cd P w K mg base TT 3 "_law_any_now" (d__law_any_now K)) (c__law_called : Cd P w K mg base TT 1 "_law_called" (d__law_called K)) (c__law_tick : Cd P w K mg base TT 2 "_law_tick" (d__law_tick K)) (c_lift_step : Cd P w K mg base TT 4 "lift_step" (d_lift_step K)) (u_lift_step_43210 : Cdp P w K mg base TT 4 "lift_step" ["signal", "standing", "rule", "stay", "floors"] [4, 3, 2, 1, 0] (d_lift_step K)) (c__law_refusals_right : Cd P w K mg base TT 8 "_law_refusals_right" (d__law_refusals_right K)) (F : Fn K "law" s_law f fd) : FnOk P w K mg base (L2.CX P w) 9 f fd ["script"] (spM K TT (d_law K)) :=
  fn_m F sc_law fun cdv A outer s H E hr => ⟨_, (b_cons (s_set (i := 1) sc_law.nd rfl (Or.inl rfl) (e_call0 c__law_begun hr (by decide) rfl (a_cons (e_v 0) a_nil)))
  (b_cons (s_set (i := 2) sc_law.nd rfl (Or.inl rfl) (e_tup (f_cons e_str (f_cons e_str (f_cons e_str (f_cons e_str (f_cons e_str (f_cons e_str (f_cons e_str (f_cons e_str a_nil))))))))))
  (b_cons (s_if (t_w (w_or (t_cmp (c_ne hr.units) (e_call00 c_collective hr (by decide) rfl) (e_add (e_v 2) (e_v 2)) (nomark _)) (w_or1 (t_cmp (c_ne hr.units) (e_call00 c_one_way hr (by decide) rfl) (e_add (e_v 2) (e_tup (f_cons e_str (f_cons e_str (f_cons e_str (f_cons e_str (f_cons e_str (f_cons e_str (f_cons e_str (f_cons e_str a_nil)))))))))) (nomark _))))) (b_one (s_ret e_bl)) b_nil)
  (b_cons (s_for (passes_of rfl) rfl (i_rng1 (by rfl) T.n_range (f_cons (e_add e_int (e_cb (cl_min rfl) ps_min2 (by rfl) T.n_min (by decide +kernel) (a_cons (e_cb (callOr cl_len call_len_str) ps_len (by rfl) T.n_len (by decide +kernel) (a_cons (e_v 0) a_nil)) (a_cons e_int a_nil)))) a_nil)) (g_n (i := 3) sc_law.nd rfl (Or.inl rfl)) (b_cons (s_par3 (i := 4) (j := 5) (l := 6) (by rfl) sc_law.nd rfl rfl rfl (by decide) (by decide) (by decide) rfl rfl rfl (m_cons (e_add e_int (e_call0 c__law_pick hr (by decide) rfl (a_cons (e_v 1) (a_cons (e_lst (f_cons e_int (f_cons e_int (f_cons e_int (f_cons e_int (f_cons e_int (f_cons e_int a_nil))))))) a_nil)))) (m_cons (e_add e_int (e_call0 c__law_draw hr (by decide) rfl (a_cons (e_v 1) (a_cons e_int a_nil)))) (m_cons (e_call0 c__law_sheet hr (by decide) rfl (a_cons (e_v 1) a_nil)) a_nil))) (by rfl))
  (b_cons (s_asgG (e_call0 c__law_lift_walk hr (by decide) rfl (a_cons (e_v 4) (a_cons (e_v 5) (a_cons (e_v 6) a_nil)))) (g_tup rfl (gs_cons (g_n (i := 7) sc_law.nd rfl (Or.inl rfl)) (gs_cons (g_n (i := 8) sc_law.nd rfl (Or.inl rfl)) gs_nil))))
  (b_cons (s_set (i := 9) sc_law.nd rfl (Or.inl rfl) (e_call (takes_of rfl rfl rfl rfl) c_lift_web hr (by decide) rfl (a_cons (e_v 4) (a_cons (e_v 5) (a_cons (e_v 6) a_nil)))))
  (b_cons (s_if (t_w (w_or (t_cmp (c_ne hr.units) (e_kwP u_lift_standings_012 hr (by decide) rfl (k_cons (e_v 4) (k_cons (e_v 5) (k_cons (e_v 6) k_nil)))) (e_v 7) (nomark _)) (w_or1 (t_cmp (c_ne hr.units) (e_v 9) (e_call0 c__law_lift_web hr (by decide) rfl (a_cons (e_v 4) (a_cons (e_v 8) a_nil))) (nomark _))))) (b_one (s_ret e_bl)) b_nil)
  (b_cons (s_if (t_w (w_or (t_cmp c_notB (e_call0 c_is_web hr (by decide) rfl (a_cons (e_kwP u_lift_web_012 hr (by decide) rfl (k_cons (e_v 4) (k_cons (e_v 5) (k_cons (e_v 6) k_nil)))) a_nil)) e_bl (nomark _)) (w_or1 (t_not (t_val (e_call (takes_of rfl rfl rfl rfl) c__law_row_right hr (by decide) rfl (a_cons (e_v 1) (a_cons (e_v 4) (a_cons (e_v 5) (a_cons (e_v 6) (a_cons (e_v 9) a_nil))))))))))) (b_one (s_ret e_bl)) b_nil)
  (b_cons (s_for (passes_of rfl) rfl (i_rng1 (by rfl) T.n_range (f_cons e_int a_nil)) (g_n (i := 10) sc_law.nd rfl (Or.inl rfl)) (b_cons (s_set (i := 11) sc_law.nd rfl (Or.inl rfl) (e_call0 c__law_any_now hr (by decide) rfl (a_cons (e_v 1) (a_cons (e_v 4) (a_cons (e_v 5) a_nil)))))
  (b_cons (s_set (i := 12) sc_law.nd rfl (Or.inl rfl) (e_call0 c__law_draw hr (by decide) rfl (a_cons (e_v 1) (a_cons (e_v 4) a_nil))))
  (b_cons (s_set (i := 13) sc_law.nd rfl (Or.inl rfl) (e_lst (f_cons (e_call0 c__law_tick hr (by decide) rfl (a_cons (e_v 4) (a_cons (e_v 5) (a_cons (e_v 6) (a_cons (e_v 11) a_nil))))) (f_cons (e_call0 c__law_called hr (by decide) rfl (a_cons (e_v 11) (a_cons (e_v 12) a_nil))) a_nil))))
  (b_cons (s_set (i := 14) sc_law.nd rfl (Or.inl rfl) (e_lst (f_cons (e_call (takes_of rfl rfl rfl rfl) c_lift_step hr (by decide) rfl (a_cons (e_v 4) (a_cons (e_v 5) (a_cons (e_v 6) (a_cons (e_v 11) (a_cons (e_tup (f_cons e_str a_nil)) a_nil)))))) (f_cons (e_kwP u_lift_step_43210 hr (by decide) rfl (k_cons (e_tup (f_cons e_str (f_cons (e_v 12) a_nil))) (k_cons (e_v 11) (k_cons (e_v 6) (k_cons (e_v 5) (k_cons (e_v 4) k_nil)))))) a_nil))))
  (b_one (s_if (t_cmp (c_ne hr.units) (e_v 14) (e_v 13) (nomark _)) (b_one (s_ret e_bl)) b_nil)))))))
  (b_one (s_if (t_not (t_val (e_call0 c__law_refusals_right hr (by decide) rfl (a_cons (e_v 1) (a_cons (e_v 4) (a_cons (e_v 5) (a_cons (e_v 6) (a_cons (e_call0 c__law_any_now hr (by decide) rfl (a_cons (e_v 1) (a_cons (e_v 4) (a_cons (e_v 5) a_nil)))) a_nil)))))))) (b_one (s_ret e_bl)) b_nil)))))))))
  (b_one (s_ret e_bl))))))⟩
end
end K48

end

section
/-! the plain part's small tactics: one step of a denotation; all steps that go by themselves -/
local macro_rules | `(tactic| wtm_at "k") => `(tactic| fail "no call")
local macro_rules | `(tactic| wtm_at "set") => `(tactic| (first | (simp only [List.set_cons_zero, List.set_cons_succ, List.set_nil]; done) | (simp only [List.set_cons_zero, List.set_cons_succ, List.set_nil]; exact rfl) | exact rfl))
local macro_rules | `(tactic| wtm_at "cond") => `(tactic| first | assumption | omega | decide | rfl | (exact ⟨by omega, by decide⟩))
local macro_rules | `(tactic| wtm_at "sh") => `(tactic| first | assumption | rfl | decide +kernel)
local macro_rules | `(tactic| wtm_at "x1") => `(tactic| (with_reducible refine Mk.x_stp ?_))
local macro_rules | `(tactic| wtm_at "x2") => `(tactic| first
  | ((with_reducible refine' Mk.x_seqK ?a ?h); (case a => exact rfl))
  | ((with_reducible refine' Mk.x_callK ?a ?b ?h); (case a => exact rfl); (case b => first | exact List.nodup_nil | (simp only [Mk.u_slots_slot, Mk.u_slots_val, Mk.u_slots_nil]; decide)))
  | ((with_reducible refine' Mk.x_lm ?a ?h); (case a => exact rfl))
  | ((with_reducible refine' Mk.x_lmK ?a ?b ?h); (case a => exact rfl); (case b => exact rfl))
  | ((with_reducible refine' Mk.x_isD ?e ?h); (case e => exact rfl))
  | ((with_reducible refine' Mk.x_isDct ?e ?h); (case e => exact rfl))
  | ((with_reducible refine' Mk.x_isLs ?e ?h); (case e => exact rfl))
  | ((with_reducible refine' Mk.x_get2K ?a ?b ?h); (case a => exact rfl); (case b => exact rfl))
  | ((with_reducible refine' Mk.x_gT ?a ?h); (case a => exact rfl))
  | ((with_reducible refine' Mk.x_aug ?a ?h); (case a => exact rfl))
  | ((with_reducible refine' Mk.x_fMul ?c ?h); (case c => first | exact .inl (.inl ⟨by omega, by omega⟩) | exact .inl (.inr ⟨by omega, by omega⟩) | assumption))
  | ((with_reducible refine' Mk.x_rngK1 ?c ?h); (case c => omega))
  | ((with_reducible refine' Mk.x_rngK2 ?c ?h); (case c => omega))
  | ((with_reducible refine' Mk.x_lcS ?a ?b ?h); (case a => simp); (case b => (simp only [Mk.wipeE, List.set_cons_zero, List.set_cons_succ]; exact rfl)))
  | ((with_reducible refine' Mk.x_fSum ?a ?h); (case a => exact Mk.ints_some _ _))
  | ((with_reducible refine' Mk.x_fAll ?a ?h); (case a => exact Mk.bools_some _ _))
  | ((with_reducible refine' Mk.x_disl ?c ?h); (case c => first | decide | assumption | (simp; done) | omega))
  | ((with_reducible refine' Mk.x_fEqS ?a ?b ?h); (case a => first | assumption | decide +kernel); (case b => first | assumption | decide +kernel))
  | ((with_reducible refine' Mk.x_fNeS ?a ?b ?h); (case a => first | assumption | decide +kernel); (case b => first | assumption | decide +kernel))
  | ((with_reducible refine' Mk.x_fLenS ?a ?h); (case a => first | assumption | omega | decide))
  | ((with_reducible refine' Mk.x_fMod ?c ?h); (case c => first | omega | decide))
  | ((with_reducible refine' Mk.x_fFdiv ?c ?h); (case c => wtm_at "cond"))
  | ((with_reducible refine' Mk.x_fIxT ?c ?h); (case c => first | exact rfl | assumption | exact Mk.u_atI0))
  | ((with_reducible refine' Mk.x_fIxL ?c ?h); (case c => first | exact rfl | assumption | exact Mk.u_atI0))
  | ((with_reducible refine' Mk.x_fEq ?a ?b ?h); (case a => wtm_at "sh"); (case b => wtm_at "sh"))
  | ((with_reducible refine' Mk.x_fNe ?a ?b ?h); (case a => wtm_at "sh"); (case b => wtm_at "sh"))
  | ((with_reducible refine' Mk.x_rt ?a ?h); (case a => exact rfl))
  | ((with_reducible refine' Mk.x_nx ?a ?h); (case a => exact rfl))
  | ((with_reducible refine' Mk.x_er ?a ?h); (case a => exact rfl))
  | ((with_reducible refine' Mk.x_datsK ?a ?h); (case a => exact rfl))
  | ((with_reducible refine' Mk.x_rdsK ?a ?h); (case a => exact rfl))
  | ((with_reducible refine' Mk.x_rdK ?a ?h); (case a => exact rfl))
  | ((with_reducible refine' Mk.x_opK ?a ?b ?h); (case a => exact rfl); (case b => exact rfl))
  | ((with_reducible refine' Mk.x_itK ?a ?h); (case a => exact rfl))
  | ((with_reducible refine' Mk.x_callV ?a ?b ?h); (case a => exact rfl); (case b => exact rfl))
  | ((with_reducible refine' Mk.x_mov_slot ?a ?c ?h); (case a => exact rfl); (case c => wtm_at "set"))
  | ((with_reducible refine' Mk.x_frz_slot ?a ?c ?h); (case a => exact rfl); (case c => wtm_at "set"))
  | ((with_reducible refine' Mk.x_put ?a ?b ?c ?h); (case a => first | exact List.not_mem_nil | decide); (case b => first | decide | simp); (case c => wtm_at "set"))
  | ((with_reducible refine' Mk.x_v_dat ?e ?h); (case e => exact rfl))
  | ((with_reducible refine' Mk.x_v_lst ?e ?h); (case e => exact rfl))
  | ((with_reducible refine' Mk.x_v_st ?e ?h); (case e => exact rfl))
  | ((with_reducible refine' Mk.x_v_dct ?e ?h); (case e => exact rfl)))
local macro_rules | `(tactic| wtm_at "x") => `(tactic| first | (with_reducible refine Mk.x_stp ?_) | ((with_reducible refine' Mk.x_iteF2 ?a ?h); (case a => first | assumption | exact rfl | decide +kernel)) | ((with_reducible refine' Mk.x_iteT2 ?a ?h); (case a => first | assumption | exact rfl | decide +kernel)) | ((with_reducible refine' Mk.x_iteN ?a ?h); (case a => assumption)) | ((with_reducible refine' Mk.x_iteM ?a ?h); (case a => assumption)) | wtm_at "k" | wtm_at "x2")
local macro_rules | `(tactic| wtm_at "go") => `(tactic| repeat (wtm_at "x"))
local macro_rules | `(tactic| wtm_at "all") => `(tactic| repeat' (first | wtm_at "x" | (with_reducible refine Mk.x_ite (fun _ => ?_) (fun _ => ?_))))
local macro_rules | `(tactic| wtm_at "in") => `(tactic| ((with_reducible refine' Mk.x_run ?a ?b ?c ?h); (case a => exact rfl); (case b => (simp only [List.map_cons, List.map_nil, List.length_cons, List.length_nil, List.replicate, List.nil_append, List.cons_append, Nat.reduceAdd, Nat.reduceSub]; exact rfl)); (case c => (simp only [Mk.u_owns_nil, Mk.u_owns_dat, Mk.u_owns_exc, Mk.u_owns_st, Mk.u_owns_lst, Nat.reduceAdd]; exact rfl))))
local macro_rules | `(tactic| wtm_at "hy") => `(tactic| simp only [Bool.not_eq_true', Bool.not_eq_false', decide_eq_true_eq, decide_eq_false_iff_not, Bool.and_eq_true, Bool.or_eq_true, Bool.and_eq_false_iff, Bool.or_eq_false_iff, Mk.eqd_int, Mk.eqd_str, Mk.isNone, Lk.isInt, Lk.isBool, Lk.isTup, Lk.isStr, Lk.isLst] at *)
local macro_rules | `(tactic| wtm_at "bz") => `(tactic| ((try simp only [Bool.not_eq_true', Bool.not_eq_false'] at *); simp [*]))
local macro_rules | `(tactic| wtm_at "bk") => `(tactic| simp only [Mk.u_backs_slot, Mk.u_backs_val, Mk.u_backs_nil, Mk.u_putO, List.set_cons_zero, List.set_cons_succ])
local macro_rules | `(tactic| wtm_at "gs") => `(tactic| repeat ((fail_if_success (with_reducible refine Mk.x_seq ?_)); wtm_at "x"))

/-! part Q1 -/
namespace K48
open PySem PySem.Spec PyProof.Rows L2 Evl Lk LamX Mk
/-! ### names, whole numbers -/
def isWhole : PyData → Int → Int → Bool
  | .int i, lo, hi => decide (lo ≤ i) && decide (i ≤ hi)
  | _, _, _ => false
theorem isWhole_int {d : PyData} {lo hi : Int} (h : isWhole d lo hi = true) : ∃ i, d = .int i ∧ lo ≤ i ∧ i ≤ hi := by
  cases d with
  | int i =>
    have h' : (decide (lo ≤ i) && decide (i ≤ hi)) = true := h
    rw [Bool.and_eq_true, decide_eq_true_eq, decide_eq_true_eq] at h'
    exact ⟨i, rfl, h'.1, h'.2⟩
  | _ => cases h
def letters : Str := "abcdefghijklmnopqrstuvwxyz"
/-- a text of ASCII signs, so long at most -/
structure Tx (m : Nat) (x : Str) : Prop where
  a : ∀ c ∈ x.cps.toList, c < 128
  l : x.length ≤ m
theorem Tx.ok {m : Nat} {x : Str} (h : Tx m x) : PyData.strOk x = true := by
  unfold PyData.strOk
  rw [← Array.all_toList]
  exact List.all_eq_true.mpr fun c hc => decide_eq_true (by have := h.a c hc; omega)
theorem Tx.mono {m k : Nat} {x : Str} (h : Tx m x) (l : m ≤ k) : Tx k x := ⟨h.a, Nat.le_trans h.l l⟩
/-! data with texts of ASCII signs, of such a length; empty dicts may stand within -/
mutual
def txD (m : Nat) : PyData → Bool
  | .str x => x.cps.toList.all (fun c => decide (c < 128)) && decide (x.length ≤ m)
  | .list ds => txDs m ds
  | .tuple ds => txDs m ds
  | _ => true
def txDs (m : Nat) : List PyData → Bool
  | [] => true
  | d :: ds => txD m d && txDs m ds
end
structure Tame (m : Nat) (d : PyData) : Prop where
  k : txD m d = true
theorem txDs_all {m : Nat} {ds : List PyData} : txDs m ds = true ↔ ∀ d ∈ ds, txD m d = true := by
  induction ds with
  | nil => simp [txDs]
  | cons a ds ih => rw [txDs, Bool.and_eq_true, ih]; simp
theorem Tame.tup {m : Nat} {ds : List PyData} (h : ∀ d ∈ ds, Tame m d) : Tame m (.tuple ds) := ⟨by rw [txD]; exact txDs_all.mpr fun d hd => (h d hd).k⟩
theorem Tame.list {m : Nat} {ds : List PyData} (h : ∀ d ∈ ds, Tame m d) : Tame m (.list ds) := ⟨by rw [txD]; exact txDs_all.mpr fun d hd => (h d hd).k⟩
theorem Tame.item {m : Nat} {ds : List PyData} {d : PyData} (t : Tame m (.tuple ds)) (h : d ∈ ds) : Tame m d := by
  have k := t.k
  rw [txD] at k
  exact ⟨txDs_all.mp k d h⟩
theorem Tame.int {m : Nat} {i : Int} : Tame m (.int i) := ⟨by simp [txD]⟩
theorem Tame.none {m : Nat} : Tame m .none := ⟨by simp [txD]⟩
theorem Tame.bool {m : Nat} {b : Bool} : Tame m (.bool b) := ⟨by simp [txD]⟩
theorem Tame.dict {m : Nat} {kv : List (PyData × PyData)} : Tame m (.dict kv) := ⟨by simp [txD]⟩
theorem Tame.str {m : Nat} {x : Str} (h : Tx m x) : Tame m (.str x) := ⟨by
  rw [txD, decide_eq_true h.l, List.all_eq_true.mpr fun c hc => decide_eq_true (h.a c hc)]
  rfl⟩
theorem Tame.tx {m : Nat} {x : Str} (t : Tame m (.str x)) : Tx m x := by
  have k := t.k
  rw [txD, Bool.and_eq_true, decide_eq_true_eq, List.all_eq_true] at k
  exact ⟨fun c hc => of_decide_eq_true (k.1 c hc), k.2⟩
theorem txD_mono {m k : Nat} (l : m ≤ k) : ∀ d : PyData, txD m d = true → txD k d = true := by
  intro d
  refine PyData.rec (motive_1 := fun d => txD m d = true → txD k d = true) (motive_2 := fun ds => txDs m ds = true → txDs k ds = true) (motive_3 := fun _ => True) (motive_4 := fun _ => True) ?_ ?_ ?_ ?_ ?_ ?_ ?_ ?_ ?_ ?_ ?_ ?_ d
  · intro _; simp [txD]
  · intro _ _; simp [txD]
  · intro _ _; simp [txD]
  · intro x h
    exact (Tame.str ((Tame.tx ⟨h⟩).mono l)).k
  · intro ds ih h
    rw [txD] at h ⊢
    exact ih h
  · intro ds ih h
    rw [txD] at h ⊢
    exact ih h
  · intro _ _ _; simp [txD]
  · intro _; simp [txDs]
  · intro a ds ha hs h
    rw [txDs, Bool.and_eq_true] at h ⊢
    exact ⟨ha h.1, hs h.2⟩
  · trivial
  · intros; trivial
  · intros; trivial
theorem Tame.mono {m k : Nat} {d : PyData} (h : Tame m d) (l : m ≤ k) : Tame k d := ⟨txD_mono l d h.k⟩
section
variable {K : PySem.W.Frag} {n : Nat} {Q : O → List O → Nat → Prop} {X : Exn → List O → Nat → Prop}
theorem k_is_whole {d : PyData} {lo hi : Int} (h : Q (.dat (.bool (isWhole d lo hi))) [.dat d, .dat (.int lo), .dat (.int hi)] n) : d_is_whole K [.dat d, .dat (.int lo), .dat (.int hi)] n Q X := by
  unfold d_is_whole b_is_whole
  cases d <;> wtm_at "in" <;> wtm_at "all"
  all_goals (refine x_fin h ?_; simp_all [isWhole]; try omega)
theorem all_map' {α : Type} (p : α → Bool) : ∀ l : List α, (l.map p).all id = l.all p
  | [] => rfl
  | x :: l => by rw [List.map_cons, List.all_cons, List.all_cons, all_map' p l]; rfl
end
end K48

/-! part Q2 -/
namespace K48
open PySem PySem.Spec PyProof.Rows L2 Evl Lk LamX Mk
/-! ### small facts of lists -/
theorem lay_all {ds : List PyData} (h : ∀ d ∈ ds, d.canLay0 = true) : PyData.canLayAll0 ds = true := by
  induction ds with
  | nil => rfl
  | cons a ds ih => rw [PyData.canLayAll0, h a List.mem_cons_self, ih fun d hd => h d (List.mem_cons_of_mem _ hd)]; rfl
theorem dep_all {ds : List PyData} {k : Nat} (h : ∀ d ∈ ds, d.depth ≤ k) : PyData.depthAll ds ≤ k := by
  induction ds with
  | nil => simp only [PyData.depthAll]; omega
  | cons a ds ih =>
    have h1 := h a List.mem_cons_self
    have h2 := ih fun d hd => h d (List.mem_cons_of_mem _ hd)
    simp only [PyData.depthAll]
    omega
/-- of the known shape, not deep -/
def Sh (d : PyData) : Prop := d.canLay0 = true ∧ d.depth ≤ 20
theorem shT {ds : List PyData} (h : ∀ d ∈ ds, Sh d) : SeqAt.shaped (.tuple ds) = true := by
  have h3 : (PyData.tuple ds).canLay0 = true := by rw [PyData.canLay0]; exact lay_all fun d hd => (h d hd).1
  have h4 := dep_all fun d hd => (h d hd).2
  unfold SeqAt.shaped
  rw [h3, decide_eq_true (by simp only [PyData.depth]; omega)]
  rfl
theorem shL {ds : List PyData} (h : ∀ d ∈ ds, Sh d) : SeqAt.shaped (.list ds) = true := by
  have h3 : (PyData.list ds).canLay0 = true := by rw [PyData.canLay0]; exact lay_all fun d hd => (h d hd).1
  have h4 := dep_all fun d hd => (h d hd).2
  unfold SeqAt.shaped
  rw [h3, decide_eq_true (by simp only [PyData.depth]; omega)]
  rfl
theorem Sh.int {i : Int} : Sh (.int i) := ⟨rfl, by simp only [PyData.depth]; omega⟩
theorem Sh.bool {b : Bool} : Sh (.bool b) := ⟨rfl, by simp only [PyData.depth]; omega⟩
theorem Sh.str {x : Str} {m : Nat} (h : Tx m x) : Sh (.str x) := ⟨by rw [PyData.canLay0]; exact h.ok, by simp only [PyData.depth]; omega⟩
theorem Sh.sh {d : PyData} (h : Sh d) : SeqAt.shaped d = true := by
  unfold SeqAt.shaped
  rw [h.1, decide_eq_true (by have := h.2; omega)]
  rfl
def hasD (ds : List PyData) (d : PyData) : Bool := ds.any fun z => PyData.eqv z d
theorem inT {ds : List PyData} {d : PyData} (h : ∀ d ∈ ds, Sh d) : inB d (.tuple ds) = some (hasD ds d) := by
  show (if SeqAt.shaped (.tuple ds) = true then some (ds.any fun z => PyData.eqv z d) else none) = _
  rw [shT h]
  rfl
theorem cut_take {ds : List PyData} {k : Nat} (h : k ≤ ds.length) : Mk.cutD ds none (some (k : Int)) = ds.take k := by
  unfold Mk.cutD
  have e1 : HT.sIx ds.length 0 none = 0 := rfl
  have e2 : HT.sIx ds.length ds.length (some (k : Int)) = k := by
    simp only [HT.sIx]
    split <;> omega
  rw [e1, e2, List.drop_zero, Nat.sub_zero]
theorem none_of {α : Type} (p : α → Bool) : ∀ l : List α, decide ((l.filter p).length = 0) = l.all fun a => !p a
  | [] => rfl
  | x :: l => by
    have ih := none_of p l
    rw [List.all_cons]
    cases hp : p x with
    | false => rw [List.filter_cons_of_neg (by simp [hp]), ih]; rfl
    | true => rw [List.filter_cons_of_pos hp]; rfl
end K48

/-! part Q3 -/
namespace K48
open PySem PySem.Spec PyProof.Rows L2 Evl Lk LamX Mk
/-! ### unlike things -/
theorem nodup_len {α : Type} : ∀ {l m : List α}, l.Nodup → (∀ x ∈ l, x ∈ m) → l.length ≤ m.length
  | [], _, _, _ => Nat.zero_le _
  | a :: l, m, nd, h => by
    rw [List.nodup_cons] at nd
    obtain ⟨u, v, rfl⟩ := List.append_of_mem (h a List.mem_cons_self)
    have := nodup_len (l := l) (m := u ++ v) nd.2 fun x hx => by
      have := h x (List.mem_cons_of_mem _ hx)
      rcases List.mem_append.mp this with z | z
      · exact List.mem_append_left _ z
      · rcases List.mem_cons.mp z with z | z
        · exact (nd.1 (z ▸ hx)).elim
        · exact List.mem_append_right _ z
    simp at this ⊢
    omega
theorem nodup_of {α : Type} [DecidableEq α] : ∀ {m l : List α}, l.Nodup → (∀ x, x ∈ l ↔ x ∈ m) → l.length = m.length → m.Nodup
  | [], _, _, _, _ => List.nodup_nil
  | a :: m, l, nd, h, e => by
    by_cases q : a ∈ m
    · have := nodup_len (l := l) (m := m) nd fun x hx => by
        rcases List.mem_cons.mp ((h x).mp hx) with z | z
        · rw [z]; exact q
        · exact z
      simp at e
      omega
    · have ha : a ∈ l := (h a).mpr List.mem_cons_self
      refine List.nodup_cons.mpr ⟨q, nodup_of (l := l.erase a) (nd.erase a) (fun x => ?_) ?_⟩
      · rw [List.Nodup.mem_erase_iff nd]
        constructor
        · rintro ⟨h1, h2⟩
          rcases List.mem_cons.mp ((h x).mp h2) with z | z
          · exact (h1 z).elim
          · exact z
        · intro hx
          exact ⟨fun z => q (z ▸ hx), (h x).mpr (List.mem_cons_of_mem _ hx)⟩
      · rw [List.length_erase_of_mem ha, e]
        simp
theorem nodup_iff {α : Type} [DecidableEq α] {m l : List α} (nd : l.Nodup) (h : ∀ x, x ∈ l ↔ x ∈ m) : l.length = m.length ↔ m.Nodup := by
  refine ⟨nodup_of nd h, fun n => ?_⟩
  have h1 := nodup_len nd fun x hx => (h x).mp hx
  have h2 := nodup_len n fun x hx => (h x).mpr hx
  omega
/-- len(set(d)) of keys -/
theorem x_fLenK {keys : List NestedKey} {m : Bool} {d : PyData} {q : O → Prop} (hd : listOf d = some (keys.map NestedKey.data)) (hk : ∀ k ∈ keys, keyMode m k) (hl : keys.length < lim m) (h : ∀ n : Nat, (n = keys.length ↔ keys.Nodup) → q (.dat (.int (n : Nat)))) : fLenSet d q :=
  ⟨m, keys, hd, hk, hl, fun n ⟨L, nd, hL, e⟩ => h n (by rw [← e]; exact nodup_iff nd hL)⟩
def txt : PyData → Str
  | .str x => x
  | _ => ""
def fst (d : PyData) : PyData := match d with
  | .tuple (a :: _) => a
  | _ => .none
/-- names, each once -/
def unlike (ds : List PyData) : Bool := decide ((ds.map txt).Nodup)
section
variable {K : PySem.W.Frag} {n : Nat} {Q : O → List O → Nat → Prop} {X : Exn → List O → Nat → Prop}
end
section
variable {g : MG} {t : MT} {e : ME} {vs : List Nat} {s : S} {P : List PyData → S → Prop}
/-- a comprehension over data -/
theorem x_lcD (val : PyData → PyData) {ds : List PyData} (hl : ds.length ≤ 100000) (h : ∀ d ∈ ds, ∀ A : PyData → S → Prop, A (val d) s → g d s fun s1 => mD e s1 (fun y s3 => A y (wipeS vs s3)) fun _ _ => False)
    (q : P (ds.map val) s) : mLcL g mYes e vs ds [] s P := by
  have := x_lcA (g := g) (e := e) (vs := vs) (fun d : PyData => d) val hl h q
  rwa [List.map_id'] at this
theorem x_lcDM (keep : PyData → Bool) (val : PyData → PyData) {ds : List PyData} (hl : ds.length ≤ 100000)
    (h : ∀ d ∈ ds, ∀ (A : PyData → S → Prop) (B : S → Prop), (keep d = true → A (val d) s) → (keep d = false → B s) → g d s fun s1 => t s1 (fun b s2 => if b = true then mD e s2 (fun y s3 => A y (wipeS vs s3)) (fun _ _ => False) else B (wipeS vs s2)) fun _ _ => False)
    (q : P ((ds.filter keep).map val) s) : mLcL g t e vs ds [] s P := by
  have := x_lcM (g := g) (t := t) (e := e) (vs := vs) (fun d : PyData => d) keep val hl h q
  rwa [List.map_id'] at this
end
end K48

/-! part Q26 -/
namespace K48
open PySem PySem.Spec PyProof.Rows L2 Evl Lk LamX Mk
/-! ### draws -/
theorem log2_len {k : Nat} (h : k ≤ 100000) : (k : Int).natAbs.log2 < 9000 := by
  have : (k : Int).natAbs < 2 ^ 20 := by
    have e : (k : Int).natAbs = k := rfl
    rw [e]; omega
  have := log2_of (c := 9000) this (by decide) (by decide)
  exact this
theorem log2_int {k : Int} (h0 : 0 ≤ k) (h : k ≤ 100000) : k.natAbs.log2 < 9000 := by
  obtain ⟨j, rfl⟩ : ∃ j : Nat, k = (j : Int) := ⟨k.toNat, by omega⟩
  exact log2_len (by omega)
section
variable {K : PySem.W.Frag} {n : Nat} {Q : O → List O → Nat → Prop} {X : Exn → List O → Nat → Prop}
theorem k_draw {room : Int} (h0 : 0 < room) (hz : room.natAbs.log2 < 9000) (hn : n < far) (h : ∀ x, 0 ≤ x → x < room → Q (.dat (.int x)) [.st, .dat (.int room)] (n + 1)) : dDraw [.st, .dat (.int room)] n Q X := ⟨room, rfl, h0, hz, hn, h⟩
theorem k_pick_l {ds : List PyData} (h0 : 0 < ds.length) (hz : ds.length ≤ 100000) (hn : n < far) (h : ∀ d ∈ ds, Q (.dat d) [.st, .lst ds] (n + 1)) : d__law_pick K [.st, .lst ds] n Q X := by
  unfold d__law_pick b__law_pick
  wtm_at "in"
  wtm_at "go"
  refine k_draw (by omega) (log2_len hz) hn fun x x0 x1 => ?_
  wtm_at "bk"
  obtain ⟨j, rfl⟩ : ∃ j : Nat, x = (j : Int) := ⟨x.toNat, by omega⟩
  have hj : j < ds.length := by omega
  wtm_at "go"
  refine x_fIxL (d := ds[j]) (atI_nat (List.getElem?_eq_getElem hj)) ?_
  wtm_at "go"
  exact h _ (List.getElem_mem hj)
end
end K48

/-! part L1 -/
namespace K48
open PySem PySem.Spec PyProof.Rows L2 Evl Lk LamX Mk
/-! ### lifts: words -/
structure Sd where
  f : Int
  w : Int
  l : Int
  lit : List Int
  deriving DecidableEq
abbrev sheetD (ws : List Str) : PyData := .tuple (ws.map PyData.str)
abbrev litD (lit : List Int) : PyData := .tuple (lit.map PyData.int)
abbrev stD (f w l : Int) (lit : List Int) : PyData := .tuple [.int f, .int w, .int l, litD lit]
abbrev sD (s : Sd) : PyData := stD s.f s.w s.l s.lit
structure SheetOk (ws : List Str) : Prop where
  len : ws.length = 16
  word : ∀ x ∈ ws, x = "go" ∨ x = "open" ∨ x = "rest" ∨ x = "turn"
def aheadZ (f w : Int) (lit : List Int) : Bool := if w = 1 then lit.any fun x => decide (f < x) else lit.any fun x => decide (x < f)
def behindZ (f w : Int) (lit : List Int) : Bool := if w = 1 then lit.any fun x => decide (x < f) else lit.any fun x => decide (f < x)
def ixZ (f w : Int) (lit : List Int) : Int := 8 * w + 4 * (if decide (f ∈ lit) = true then 1 else 0) + 2 * (if aheadZ f w lit = true then 1 else 0) + (if behindZ f w lit = true then 1 else 0)
def wordZ (ws : List Str) (f w : Int) (lit : List Int) : Str := ws.getD (ixZ f w lit).toNat ""
theorem sheet_at {ws : List Str} (h : SheetOk ws) {k : Int} (h0 : 0 ≤ k) (h1 : k < 16) : atI (ws.map PyData.str) k = some (.str (ws.getD k.toNat "")) := by
  obtain ⟨j, rfl⟩ : ∃ j : Nat, k = (j : Int) := ⟨k.toNat, by omega⟩
  have hl := h.len
  refine atI_nat ?_
  rw [List.getElem?_map, List.getElem?_eq_getElem (by omega), List.getD_eq_getElem?_getD]
  show some (PyData.str ws[j]) = some (.str (ws[j]?.getD ""))
  rw [List.getElem?_eq_getElem (by omega)]
  rfl
theorem word_in {ws : List Str} (h : SheetOk ws) {f w : Int} {lit : List Int} (hw : w = 0 ∨ w = 1) : wordZ ws f w lit ∈ ws := by
  have hl := h.len
  have hb : (ixZ f w lit).toNat < ws.length := by
    unfold ixZ
    split <;> split <;> split <;> omega
  unfold wordZ
  rw [List.getD_eq_getElem?_getD, List.getElem?_eq_getElem hb]
  exact List.getElem_mem hb
theorem has_ints {lit : List Int} {f : Int} : hasD (lit.map PyData.int) (.int f) = decide (f ∈ lit) := by
  unfold hasD
  rw [Bool.eq_iff_iff, decide_eq_true_eq, List.any_eq_true]
  constructor
  · rintro ⟨d, hd, e⟩
    obtain ⟨i, hi, rfl⟩ := List.mem_map.mp hd
    have e' : decide (i = f) = true := e
    rw [← of_decide_eq_true e']
    exact hi
  · intro h
    exact ⟨_, List.mem_map.mpr ⟨f, h, rfl⟩, decide_eq_true rfl⟩
theorem ints_sh {lit : List Int} : ∀ d ∈ lit.map PyData.int, Sh d := fun d hd => by
  obtain ⟨i, _, rfl⟩ := List.mem_map.mp hd
  exact .int
theorem any_map' {α : Type} (p : α → Bool) : ∀ l : List α, (l.map p).any id = l.any p
  | [] => rfl
  | x :: l => by rw [List.map_cons, List.any_cons, List.any_cons, any_map' p l]; rfl
theorem bools_map {α : Type} (p : α → Bool) : ∀ l : List α, boolsOf? (l.map fun x => PyData.bool (p x)) = some (l.map p)
  | [] => rfl
  | x :: l => by
    have ih := bools_map p l
    rw [List.map_cons, List.map_cons, boolsOf?, ih]
section
variable {K : PySem.W.Frag} {n : Nat} {Q : O → List O → Nat → Prop} {X : Exn → List O → Nat → Prop}
theorem k_word_for {ws : List Str} {f w : Int} {lit : List Int} (S : SheetOk ws) (hw : w = 0 ∨ w = 1) (hl : lit.length ≤ 1000) (h : Q (.dat (.str (wordZ ws f w lit))) [.dat (sheetD ws), .dat (.int f), .dat (.int w), .dat (litD lit)] n) :
    d_word_for K [.dat (sheetD ws), .dat (.int f), .dat (.int w), .dat (litD lit)] n Q X := by
  have at_ : ∀ k, k = ixZ f w lit → atI (ws.map PyData.str) k = some (.str (wordZ ws f w lit)) := fun k e => by
    rw [e]
    unfold wordZ
    refine sheet_at S ?_ ?_
    · unfold ixZ
      split <;> split <;> split <;> omega
    · unfold ixZ
      split <;> split <;> split <;> omega
  unfold d_word_for b_word_for
  wtm_at "in"
  wtm_at "go"
  refine x_lcA (l := lit) (fun x : Int => PyData.int x) (fun x => PyData.bool (decide (f < x))) (by omega) (fun x hx A hA => ?_) ?_
  · wtm_at "go"
    exact hA
  wtm_at "go"
  refine x_fAny (bools_map _ lit) ?_
  rw [any_map']
  wtm_at "go"
  refine x_lcA (l := lit) (fun x : Int => PyData.int x) (fun x => PyData.bool (decide (x < f))) (by omega) (fun x hx A hA => ?_) ?_
  · wtm_at "go"
    exact hA
  wtm_at "go"
  refine x_fAny (bools_map _ lit) ?_
  rw [any_map']
  wtm_at "go"
  have hc : (if decide (w = 1) = true then (lit.any fun x => decide (f < x)) else lit.any fun x => decide (x < f)) = aheadZ f w lit := by unfold aheadZ; simp
  have hb : (if decide (w = 1) = true then (lit.any fun x => decide (x < f)) else lit.any fun x => decide (f < x)) = behindZ f w lit := by unfold behindZ; simp
  cases cw : decide (w = 1) with
  | true =>
    rw [cw, if_pos rfl] at hc hb
    rw [hc, hb]
    wtm_at "go"
    refine x_fIn (inT ints_sh) ?_
    rw [has_ints]
    wtm_at "go"
    cases c1 : decide (f ∈ lit) <;> wtm_at "go" <;> cases c2 : aheadZ f w lit <;> wtm_at "go" <;> cases c3 : behindZ f w lit <;> wtm_at "go" <;> (refine x_fIxT (at_ _ (by unfold ixZ; rw [c1, c2, c3]; rfl)) ?_; wtm_at "go"; exact h)
  | false =>
    rw [cw, if_neg Bool.false_ne_true] at hc hb
    rw [hc, hb]
    wtm_at "go"
    refine x_fIn (inT ints_sh) ?_
    rw [has_ints]
    wtm_at "go"
    cases c1 : decide (f ∈ lit) <;> wtm_at "go" <;> cases c2 : aheadZ f w lit <;> wtm_at "go" <;> cases c3 : behindZ f w lit <;> wtm_at "go" <;> (refine x_fIxT (at_ _ (by unfold ixZ; rw [c1, c2, c3]; rfl)) ?_; wtm_at "go"; exact h)
end
end K48

/-! part L2 -/
namespace K48
open PySem PySem.Spec PyProof.Rows L2 Evl Lk LamX Mk
/-! ### lifts: what becomes of a standing; the walk over all of them -/
def tickW (ws : List Str) (s : Sd) : Str × Int :=
  if wordZ ws s.f s.w s.lit = "turn" then (if wordZ ws s.f (1 - s.w) s.lit = "turn" then ("rest", s.w) else (wordZ ws s.f (1 - s.w) s.lit, 1 - s.w)) else (wordZ ws s.f s.w s.lit, s.w)
def goZ (n f w : Int) : Int := max 0 (min (n - 1) (f + (if w = 1 then 1 else -1)))
def tickZ (n stay : Int) (ws : List Str) (s : Sd) : Sd :=
  if 1 < s.l then ⟨s.f, s.w, s.l - 1, s.lit⟩
  else if (tickW ws s).1 = "open" then ⟨s.f, (tickW ws s).2, stay, s.lit.filter fun x => !decide (x = s.f)⟩
  else if (tickW ws s).1 = "go" then ⟨goZ n s.f (tickW ws s).2, (tickW ws s).2, 0, s.lit⟩
  else ⟨s.f, (tickW ws s).2, 0, s.lit⟩
def insZ (j : Int) : List Int → List Int
  | [] => [j]
  | x :: xs => if j < x then j :: x :: xs else x :: insZ j xs
def callZ (s : Sd) (j : Int) : Sd := if (decide (j ∈ s.lit) || (decide (0 < s.l) && decide (s.f = j))) = true then s else ⟨s.f, s.w, s.l, insZ j s.lit⟩
structure StOk (n stay : Int) (s : Sd) : Prop where
  f0 : 0 ≤ s.f
  f1 : s.f < n
  w : s.w = 0 ∨ s.w = 1
  l0 : 0 ≤ s.l
  l1 : s.l ≤ stay
  up : s.lit.Pairwise (· < ·)
  li : ∀ x ∈ s.lit, 0 ≤ x ∧ x < n
theorem ins_perm (j : Int) : ∀ l : List Int, (insZ j l).Perm (l ++ [j])
  | [] => .refl _
  | x :: xs => by
    unfold insZ
    split
    · exact (List.perm_append_singleton j (x :: xs)).symm
    · exact (ins_perm j xs).cons x
theorem ins_mem {j x : Int} {l : List Int} : x ∈ insZ j l ↔ x ∈ l ∨ x = j := by
  rw [(ins_perm j l).mem_iff, List.mem_append, List.mem_singleton]
theorem ins_up {j : Int} : ∀ {l : List Int}, l.Pairwise (· < ·) → j ∉ l → (insZ j l).Pairwise (· < ·)
  | [], _, _ => List.pairwise_singleton _ _
  | x :: xs, h, nj => by
    obtain ⟨h1, h2⟩ := List.pairwise_cons.mp h
    unfold insZ
    split
    · rename_i c
      exact List.pairwise_cons.mpr ⟨fun y hy => by
        rcases List.mem_cons.mp hy with rfl | hy
        · exact c
        · have := h1 y hy
          omega, h⟩
    · rename_i c
      refine List.pairwise_cons.mpr ⟨fun y hy => ?_, ins_up h2 fun z => nj (List.mem_cons_of_mem _ z)⟩
      rcases ins_mem.mp hy with hy | rfl
      · exact h1 y hy
      · have : y ≠ x := fun z => nj (by rw [z]; exact List.mem_cons_self)
        omega
theorem lt_nodup {l : List Int} (h : l.Pairwise (· < ·)) : l.Nodup := h.imp fun q e => by omega
theorem sort_ins {j : Int} {l out : List Int} (h : l.Pairwise (· < ·)) (nj : j ∉ l) (p : out.Perm (l ++ [j])) (o : out.Pairwise (· ≤ ·)) : out = insZ j l :=
  List.Perm.eq_of_pairwise (le := (· ≤ ·)) (fun a b _ _ q r => Int.le_antisymm q r) o ((ins_up h nj).imp fun q => Int.le_of_lt q) (p.trans (ins_perm j l).symm)
theorem call_ok {n stay : Int} {s : Sd} {j : Int} (h : StOk n stay s) (j0 : 0 ≤ j) (j1 : j < n) : StOk n stay (callZ s j) := by
  unfold callZ
  split
  · exact h
  · rename_i c
    have nj : j ∉ s.lit := fun z => c (by rw [decide_eq_true z]; rfl)
    exact ⟨h.f0, h.f1, h.w, h.l0, h.l1, ins_up h.up nj, fun x hx => by
      rcases ins_mem.mp hx with hx | rfl
      · exact h.li x hx
      · exact ⟨j0, j1⟩⟩
theorem tickW_w {ws : List Str} {s : Sd} (h : s.w = 0 ∨ s.w = 1) : (tickW ws s).2 = 0 ∨ (tickW ws s).2 = 1 := by
  unfold tickW
  split
  · split
    · exact h
    · show (1 - s.w) = 0 ∨ (1 - s.w) = 1
      omega
  · exact h
theorem tick_ok {n stay : Int} {ws : List Str} {s : Sd} (h : StOk n stay s) (hs : 1 ≤ stay) : StOk n stay (tickZ n stay ws s) := by
  have hw := tickW_w (ws := ws) h.w
  have f0 := h.f0
  have f1 := h.f1
  have l0 := h.l0
  have l1 := h.l1
  unfold tickZ
  split
  · exact ⟨h.f0, h.f1, h.w, by show 0 ≤ s.l - 1; omega, by show s.l - 1 ≤ stay; omega, h.up, h.li⟩
  · split
    · exact ⟨h.f0, h.f1, hw, by show 0 ≤ stay; omega, Int.le_refl _, h.up.filter _, fun x hx => h.li x (List.mem_filter.mp hx).1⟩
    · split
      · refine ⟨?_, ?_, hw, Int.le_refl _, by show (0 : Int) ≤ stay; omega, h.up, h.li⟩
        · show 0 ≤ goZ n s.f (tickW ws s).2
          unfold goZ
          omega
        · show goZ n s.f (tickW ws s).2 < n
          unfold goZ
          split <;> omega
      · exact ⟨h.f0, h.f1, hw, Int.le_refl _, by show (0 : Int) ≤ stay; omega, h.up, h.li⟩
/-! how many there are -/
def subsZ : List Int → List (List Int)
  | [] => [[]]
  | x :: xs => subsZ xs ++ (subsZ xs).map (x :: ·)
theorem subs_len : ∀ l : List Int, (subsZ l).length = 2 ^ l.length
  | [] => rfl
  | x :: xs => by
    rw [subsZ, List.length_append, List.length_map, subs_len xs, List.length_cons, Nat.pow_succ]
    omega
def fromZ (lo : Int) : Nat → List Int
  | 0 => []
  | k + 1 => lo :: fromZ (lo + 1) k
theorem fromZ_len : ∀ (k : Nat) (lo : Int), (fromZ lo k).length = k
  | 0, _ => rfl
  | k + 1, lo => by rw [fromZ, List.length_cons, fromZ_len k]
theorem fromZ_mem : ∀ {k : Nat} {lo x : Int}, lo ≤ x → x < lo + (k : Int) → x ∈ fromZ lo k
  | 0, lo, x, h0, h1 => by omega
  | k + 1, lo, x, h0, h1 => by
    rw [fromZ, List.mem_cons]
    by_cases e : x = lo
    · exact .inl e
    · exact .inr (fromZ_mem (by omega) (by omega))
theorem subs_mem : ∀ {k : Nat} {lo : Int} {l : List Int}, l.Pairwise (· < ·) → (∀ x ∈ l, lo ≤ x ∧ x < lo + (k : Int)) → l ∈ subsZ (fromZ lo k)
  | 0, lo, [], _, _ => List.mem_singleton.mpr rfl
  | 0, lo, x :: xs, _, h => by
    have := h x List.mem_cons_self
    omega
  | k + 1, lo, [], _, _ => by
    rw [fromZ, subsZ, List.mem_append]
    exact .inl (subs_mem .nil fun _ z => by cases z)
  | k + 1, lo, x :: xs, hp, h => by
    obtain ⟨h1, h2⟩ := List.pairwise_cons.mp hp
    have hx := h x List.mem_cons_self
    rw [fromZ, subsZ, List.mem_append, List.mem_map]
    by_cases e : x = lo
    · refine .inr ⟨xs, subs_mem h2 fun y hy => ?_, by rw [e]⟩
      have a := h1 y hy
      have b := h y (List.mem_cons_of_mem _ hy)
      omega
    · refine .inl (subs_mem hp fun y hy => ?_)
      have b := h y hy
      rcases List.mem_cons.mp hy with rfl | hy
      · omega
      · have a := h1 y hy
        omega
theorem flat_len {α β : Type} {f : α → List β} {c : Nat} : ∀ {l : List α}, (∀ x ∈ l, (f x).length = c) → (l.flatMap f).length = l.length * c
  | [], _ => by simp
  | x :: l, h => by
    rw [List.flatMap_cons, List.length_append, h x List.mem_cons_self, flat_len fun y hy => h y (List.mem_cons_of_mem _ hy), List.length_cons, Nat.add_mul]
    omega
def allZ (n stay : Nat) : List Sd := (fromZ 0 n).flatMap fun f => [0, 1].flatMap fun w => (fromZ 0 (stay + 1)).flatMap fun l => (subsZ (fromZ 0 n)).map fun lit => ⟨f, w, l, lit⟩
theorem all_len (n stay : Nat) : (allZ n stay).length = n * (2 * ((stay + 1) * 2 ^ n)) := by
  unfold allZ
  rw [flat_len (c := 2 * ((stay + 1) * 2 ^ n)) fun f _ => ?_, fromZ_len]
  rw [flat_len (c := (stay + 1) * 2 ^ n) fun w _ => ?_]
  · rfl
  rw [flat_len (c := 2 ^ n) fun l _ => ?_, fromZ_len]
  rw [List.length_map, subs_len, fromZ_len]
theorem all_mem {n stay : Nat} {s : Sd} (h : StOk n stay s) : s ∈ allZ n stay := by
  unfold allZ
  have f0 := h.f0
  have f1 := h.f1
  have l0 := h.l0
  have l1 := h.l1
  refine List.mem_flatMap.mpr ⟨s.f, fromZ_mem f0 (by omega), List.mem_flatMap.mpr ⟨s.w, ?_, List.mem_flatMap.mpr ⟨s.l, fromZ_mem l0 (by omega), List.mem_map.mpr ⟨s.lit, subs_mem h.up fun x hx => ?_, rfl⟩⟩⟩⟩
  · rcases h.w with e | e <;> rw [e] <;> simp
  · have := h.li x hx
    omega
/-! the walk -/
def latersZ (n : Nat) (stay : Int) (ws : List Str) (s : Sd) : List Sd := ((List.range n).map fun j : Nat => callZ s (j : Int)) ++ [tickZ n stay ws s]
def addZ (F : List Sd) (x : Sd) : List Sd := if x ∈ F then F else F ++ [x]
def addsZ (F : List Sd) : List Sd → List Sd
  | [] => F
  | x :: xs => addsZ (addZ F x) xs
def ixOf (F : List Sd) (x : Sd) : Nat := F.idxOf x
structure FOk (n : Nat) (stay : Int) (F : List Sd) : Prop where
  nd : F.Nodup
  ok : ∀ s ∈ F, StOk n stay s
theorem later_ok {n : Nat} {stay : Int} {ws : List Str} {s : Sd} (h : StOk n stay s) (hs : 1 ≤ stay) : ∀ x ∈ latersZ n stay ws s, StOk n stay x := fun x hx => by
  unfold latersZ at hx
  rcases List.mem_append.mp hx with hx | hx
  · obtain ⟨j, hj, rfl⟩ := List.mem_map.mp hx
    rw [List.mem_range] at hj
    exact call_ok h (by omega) (by omega)
  · rw [List.mem_singleton.mp hx]
    exact tick_ok h hs
theorem add_ok {n : Nat} {stay : Int} {F : List Sd} {x : Sd} (h : FOk n stay F) (hx : StOk n stay x) : FOk n stay (addZ F x) := by
  unfold addZ
  split
  · exact h
  · rename_i c
    refine ⟨List.nodup_append.mpr ⟨h.nd, by simp, fun a ha b hb e => ?_⟩, fun s hs => ?_⟩
    · rw [List.mem_singleton] at hb
      rw [e, hb] at ha
      exact c ha
    · rcases List.mem_append.mp hs with hs | hs
      · exact h.ok s hs
      · rw [List.mem_singleton.mp hs]
        exact hx
theorem adds_ok {n : Nat} {stay : Int} : ∀ {xs F : List Sd}, FOk n stay F → (∀ x ∈ xs, StOk n stay x) → FOk n stay (addsZ F xs)
  | [], _, h, _ => h
  | x :: xs, F, h, hx => by
    have z := adds_ok (xs := xs) (F := addZ F x) (add_ok h (hx x List.mem_cons_self)) fun y hy => hx y (List.mem_cons_of_mem _ hy)
    exact z
theorem fok_len {n stay : Nat} {F : List Sd} (h : FOk n stay F) (hn : n ≤ 5) (hs : stay ≤ 6) : F.length ≤ 2240 := by
  have l := nodup_len h.nd fun s hs => all_mem (h.ok s hs)
  rw [all_len] at l
  have a : 2 ^ n ≤ 32 := Nat.pow_le_pow_right (n := 2) (i := n) (j := 5) (by decide) (by omega)
  have b : (stay + 1) * 2 ^ n ≤ 7 * 32 := Nat.mul_le_mul (by omega) a
  have c : n * (2 * ((stay + 1) * 2 ^ n)) ≤ 5 * (2 * (7 * 32)) := Nat.mul_le_mul hn (Nat.mul_le_mul_left 2 b)
  omega
theorem add_pre (F : List Sd) (x : Sd) : ∃ m, addZ F x = F ++ m := by
  unfold addZ
  split
  · exact ⟨[], (List.append_nil _).symm⟩
  · exact ⟨[x], rfl⟩
theorem adds_pre : ∀ (xs F : List Sd), ∃ m, addsZ F xs = F ++ m
  | [], F => ⟨[], (List.append_nil _).symm⟩
  | x :: xs, F => by
    obtain ⟨m, e⟩ := add_pre F x
    obtain ⟨m2, e2⟩ := adds_pre xs (addZ F x)
    exact ⟨m ++ m2, by rw [addsZ, e2, e, List.append_assoc]⟩
theorem add_in (F : List Sd) (x : Sd) : x ∈ addZ F x := by
  unfold addZ
  split
  · assumption
  · simp
theorem adds_in : ∀ {xs F : List Sd} {x : Sd}, x ∈ xs → x ∈ addsZ F xs
  | y :: xs, F, x, h => by
    rw [addsZ]
    rcases List.mem_cons.mp h with rfl | h
    · obtain ⟨m, e⟩ := adds_pre xs (addZ F x)
      rw [e]
      exact List.mem_append_left _ (add_in F x)
    · exact adds_in h
theorem ix_pre {F m : List Sd} {x : Sd} (h : x ∈ F) : ixOf (F ++ m) x = ixOf F x := by
  unfold ixOf
  rw [List.idxOf_append, if_pos h]
theorem ix_adds {F xs : List Sd} {x : Sd} (h : x ∈ F) : ixOf (addsZ F xs) x = ixOf F x := by
  obtain ⟨m, e⟩ := adds_pre xs F
  rw [e, ix_pre h]
/-- so many standings worked off: what was found, the rows -/
def walkZ (n : Nat) (stay : Int) (ws : List Str) : Nat → List Sd × List (List Nat)
  | 0 => ([⟨0, 0, 0, []⟩], [])
  | k + 1 => match (walkZ n stay ws k).1[k]? with
    | none => walkZ n stay ws k
    | some s => (addsZ (walkZ n stay ws k).1 (latersZ n stay ws s), (walkZ n stay ws k).2 ++ [(latersZ n stay ws s).map (ixOf (addsZ (walkZ n stay ws k).1 (latersZ n stay ws s)))])
section
variable {n : Nat} {stay : Int} {ws : List Str}
theorem walk_ok (hn : 1 ≤ n) (hs : 1 ≤ stay) : ∀ k, FOk n stay (walkZ n stay ws k).1
  | 0 => ⟨by simp [walkZ], fun s h => by
    have e : s = ⟨0, 0, 0, []⟩ := by simpa [walkZ] using h
    rw [e]
    exact ⟨Int.le_refl _, by show (0 : Int) < n; omega, .inl rfl, Int.le_refl _, by show (0 : Int) ≤ stay; omega, .nil, fun _ z => by cases z⟩⟩
  | k + 1 => by
    have ih := walk_ok hn hs k
    rw [walkZ]
    split
    · exact ih
    · rename_i s e
      exact adds_ok ih (later_ok (ih.ok s (List.mem_of_getElem? e)) hs)
theorem walk_next {k : Nat} {s : Sd} (e : (walkZ n stay ws k).1[k]? = some s) : walkZ n stay ws (k + 1) = (addsZ (walkZ n stay ws k).1 (latersZ n stay ws s), (walkZ n stay ws k).2 ++ [(latersZ n stay ws s).map (ixOf (addsZ (walkZ n stay ws k).1 (latersZ n stay ws s)))]) := by
  rw [walkZ, e]
/-- the walk ends there -/
structure EndAt (n : Nat) (stay : Int) (ws : List Str) (k : Nat) : Prop where
  e : (walkZ n stay ws k).1.length = k
  b : ∀ j, j < k → j < (walkZ n stay ws j).1.length
theorem end_one {j k : Nat} (h : EndAt n stay ws j) (g : EndAt n stay ws k) : j = k := by
  rcases Nat.lt_trichotomy j k with q | q | q
  · have := g.b j q
    rw [h.e] at this
    omega
  · exact q
  · have := h.b k q
    rw [g.e] at this
    omega
end
end K48

/-! part L3 -/
namespace K48
open PySem PySem.Spec PyProof.Rows L2 Evl Lk LamX Mk
/-! ### a standing's tick, its call -/
section
variable {K : PySem.W.Frag} {n : Nat} {Q : O → List O → Nat → Prop} {X : Exn → List O → Nat → Prop}
theorem any_flip {lit : List Int} {p : Int → Bool} : (!(lit.all fun x => !p x)) = lit.any p := by
  rw [List.not_all_eq_any_not]
  congr 1
  funext x
  rw [Bool.not_not]
theorem law_ahead {f w : Int} {lit : List Int} : lit.any (fun x => !decide (x = f) && decide (decide (f < x) = decide (w = 1))) = aheadZ f w lit := by
  unfold aheadZ
  rw [Bool.eq_iff_iff]
  by_cases c : w = 1
  · rw [if_pos c, List.any_eq_true, List.any_eq_true]
    refine exists_congr fun x => and_congr_right fun _ => ?_
    rw [decide_eq_true c]
    simp
    omega
  · rw [if_neg c, List.any_eq_true, List.any_eq_true]
    refine exists_congr fun x => and_congr_right fun _ => ?_
    rw [decide_eq_false c]
    simp
    omega
theorem law_behind {f w : Int} {lit : List Int} (hw : w = 0 ∨ w = 1) : lit.any (fun x => !decide (x = f) && decide (decide (f < x) = decide (w = 0))) = behindZ f w lit := by
  unfold behindZ
  rw [Bool.eq_iff_iff]
  rcases hw with rfl | rfl
  · rw [if_neg (by decide), List.any_eq_true, List.any_eq_true]
    refine exists_congr fun x => and_congr_right fun _ => ?_
    simp
    omega
  · rw [if_pos rfl, List.any_eq_true, List.any_eq_true]
    refine exists_congr fun x => and_congr_right fun _ => ?_
    simp
    omega
theorem k__law_word {ws : List Str} {f w : Int} {lit : List Int} (S : SheetOk ws) (hw : w = 0 ∨ w = 1) (hl : lit.length ≤ 1000) (h : Q (.dat (.str (wordZ ws f w lit))) [.dat (sheetD ws), .dat (.int f), .dat (.int w), .dat (litD lit)] n) :
    d__law_word K [.dat (sheetD ws), .dat (.int f), .dat (.int w), .dat (litD lit)] n Q X := by
  have at_ : ∀ k, k = ixZ f w lit → atI (ws.map PyData.str) k = some (.str (wordZ ws f w lit)) := fun k e => by
    rw [e]
    unfold wordZ
    refine sheet_at S ?_ ?_
    · unfold ixZ
      split <;> split <;> split <;> omega
    · unfold ixZ
      split <;> split <;> split <;> omega
  unfold d__law_word b__law_word
  wtm_at "in"
  wtm_at "go"
  refine x_lcM (l := lit) (fun x : Int => PyData.int x) (fun x => !decide (x = f) && decide (decide (f < x) = decide (w = 1))) (fun x => .int x) (by omega) (fun x hx A B hA hB => ?_) ?_
  · wtm_at "go"
    cases c1 : decide (x = f) with
    | true =>
      wtm_at "go"
      exact hB (by rw [c1]; rfl)
    | false =>
      wtm_at "go"
      cases c2 : decide (decide (f < x) = decide (w = 1)) with
      | true =>
        wtm_at "go"
        exact hA (by rw [c1, c2]; rfl)
      | false =>
        wtm_at "go"
        exact hB (by rw [c1, c2]; rfl)
  wtm_at "go"
  refine x_lcM (l := lit) (fun x : Int => PyData.int x) (fun x => !decide (x = f) && decide (decide (f < x) = decide (w = 0))) (fun x => .int x) (by omega) (fun x hx A B hA hB => ?_) ?_
  · wtm_at "go"
    cases c1 : decide (x = f) with
    | true =>
      wtm_at "go"
      exact hB (by rw [c1]; rfl)
    | false =>
      wtm_at "go"
      cases c2 : decide (decide (f < x) = decide (w = 0)) with
      | true =>
        wtm_at "go"
        exact hA (by rw [c1, c2]; rfl)
      | false =>
        wtm_at "go"
        exact hB (by rw [c1, c2]; rfl)
  wtm_at "go"
  refine x_fIn (inT ints_sh) ?_
  rw [has_ints]
  wtm_at "go"
  cases c1 : decide (f ∈ lit) <;> wtm_at "go" <;> refine x_fNeL0 (f := fun x : Int => x) ?_ <;> rw [none_of, any_flip, law_ahead] <;> cases c2 : aheadZ f w lit <;> wtm_at "go" <;> refine x_fNeL0 (f := fun x : Int => x) ?_ <;> rw [none_of, any_flip, law_behind hw] <;> cases c3 : behindZ f w lit <;> wtm_at "go" <;>
    (refine x_fIxT (at_ _ (by unfold ixZ; rw [c1, c2, c3]; simp)) ?_; wtm_at "go"; exact h)
theorem word_four {ws : List Str} (S : SheetOk ws) {f w : Int} {lit : List Int} (hw : w = 0 ∨ w = 1) : wordZ ws f w lit = "go" ∨ wordZ ws f w lit = "open" ∨ wordZ ws f w lit = "rest" ∨ wordZ ws f w lit = "turn" := S.word _ (word_in S hw)
theorem word_ok {ws : List Str} (S : SheetOk ws) {f w : Int} {lit : List Int} (hw : w = 0 ∨ w = 1) : PyData.strOk (wordZ ws f w lit) = true := by
  rcases word_four S (f := f) (lit := lit) hw with e | e | e | e <;> rw [e] <;> decide +kernel
/-- the end of a tick, once word and way are known -/
def endZ (N stay : Int) (f : Int) (lit : List Int) (p : Str × Int) : Sd :=
  if p.1 = "open" then ⟨f, p.2, stay, lit.filter fun x => !decide (x = f)⟩
  else if p.1 = "go" then ⟨goZ N f p.2, p.2, 0, lit⟩ else ⟨f, p.2, 0, lit⟩
theorem tick_end {N stay : Int} {ws : List Str} {f w l : Int} {lit : List Int} (c : ¬ 1 < l) : tickZ N stay ws ⟨f, w, l, lit⟩ = endZ N stay f lit (tickW ws ⟨f, w, l, lit⟩) := if_neg c
theorem k_worked_end {N stay : Int} {ws : List Str} {f w l : Int} {lit : List Int} {x : Str} (hx : PyData.strOk x = true) (hw : w = 0 ∨ w = 1) (f0 : 0 ≤ f) (f1 : f < N) (hl : lit.length ≤ 1000) {d0 : PyData} (h : Q (.dat (sD (endZ N stay f lit (x, w)))) [.dat (.int N), .dat (.int stay), .dat (sheetD ws), .dat d0] n) :
    B_worked_off_10 K ⟨[some (.dat (.int N)), some (.dat (.int stay)), some (.dat (sheetD ws)), some (.dat d0), some (.dat (.int f)), some (.dat (.int w)), some (.dat (.int l)), some (.dat (litD lit)), some (.dat (.str x)), none, none], n, []⟩ (kOf [.dat (.int N), .dat (.int stay), .dat (sheetD ws), .dat d0] Q X) := by
  wtm_at "go"
  cases c1 : decide (x = "open") with
  | true =>
    have e : endZ N stay f lit (x, w) = ⟨f, w, stay, lit.filter fun x => !decide (x = f)⟩ := if_pos (of_decide_eq_true c1)
    rw [e] at h
    wtm_at "go"
    refine x_lcM (l := lit) (fun x : Int => PyData.int x) (fun x => !decide (x = f)) (fun x => .int x) (by omega) (fun y hy A B hA hB => ?_) ?_
    · wtm_at "go"
      cases c2 : decide (y = f) with
      | true =>
        wtm_at "go"
        exact hB (by rw [c2]; rfl)
      | false =>
        wtm_at "go"
        exact hA (by rw [c2]; rfl)
    wtm_at "go"
    exact h
  | false =>
    have e : endZ N stay f lit (x, w) = if x = "go" then ⟨goZ N f w, w, 0, lit⟩ else ⟨f, w, 0, lit⟩ := if_neg (of_decide_eq_false c1)
    rw [e] at h
    wtm_at "go"
    cases c2 : decide (x = "go") with
    | true =>
      rw [if_pos (of_decide_eq_true c2)] at h
      have hg : (if decide (0 ≤ f + 2 * w - 1) = true ∧ decide (f + 2 * w - 1 < N) = true then f + 2 * w - 1 else f) = goZ N f w := by
        simp only [decide_eq_true_eq]
        unfold goZ
        rcases hw with rfl | rfl <;> simp <;> split <;> omega
      wtm_at "go"
      cases c3 : decide (0 ≤ f + 2 * w - 1) with
      | true =>
        wtm_at "go"
        cases c4 : decide (f + 2 * w - 1 < N) with
        | true =>
          rw [if_pos ⟨c3, c4⟩] at hg
          rw [← hg] at h
          wtm_at "go"
          exact h
        | false =>
          rw [if_neg (fun z => by rw [c4] at z; cases z.2)] at hg
          rw [← hg] at h
          wtm_at "go"
          exact h
      | false =>
        rw [if_neg (fun z => by rw [c3] at z; cases z.1)] at hg
        rw [← hg] at h
        wtm_at "go"
        exact h
    | false =>
      rw [if_neg (of_decide_eq_false c2)] at h
      wtm_at "go"
      exact h
theorem k_worked_off {N stay : Int} {ws : List Str} {f w l : Int} {lit : List Int} (S : SheetOk ws) (hs : StOk N stay ⟨f, w, l, lit⟩) (hl : lit.length ≤ 1000) (h : Q (.dat (sD (tickZ N stay ws ⟨f, w, l, lit⟩))) [.dat (.int N), .dat (.int stay), .dat (sheetD ws), .dat (stD f w l lit)] n) :
    d_worked_off K [.dat (.int N), .dat (.int stay), .dat (sheetD ws), .dat (stD f w l lit)] n Q X := by
  have hw : w = 0 ∨ w = 1 := hs.w
  have hw' : 1 - w = 0 ∨ 1 - w = 1 := by omega
  have f0 : 0 ≤ f := hs.f0
  have f1 : f < N := hs.f1
  have wk := word_ok S (f := f) (lit := lit) hw
  have wk' := word_ok S (f := f) (lit := lit) hw'
  unfold d_worked_off b_worked_off
  wtm_at "in"
  wtm_at "go"
  cases c : decide (1 < l) with
  | true =>
    have e : tickZ N stay ws ⟨f, w, l, lit⟩ = ⟨f, w, l - 1, lit⟩ := if_pos (of_decide_eq_true c)
    rw [e] at h
    wtm_at "go"
    exact h
  | false =>
    rw [tick_end (of_decide_eq_false c)] at h
    wtm_at "go"
    refine k_word_for S hw hl ?_
    wtm_at "go"
    cases c1 : decide (wordZ ws f w lit = "turn") with
    | true =>
      wtm_at "go"
      refine k_word_for S hw' hl ?_
      wtm_at "go"
      cases c2 : decide (wordZ ws f (1 - w) lit = "turn") with
      | true =>
        have e : tickW ws ⟨f, w, l, lit⟩ = (("rest" : Str), w) := by
          show (if wordZ ws f w lit = "turn" then (if wordZ ws f (1 - w) lit = "turn" then (("rest" : Str), w) else (wordZ ws f (1 - w) lit, 1 - w)) else (wordZ ws f w lit, w)) = _
          rw [if_pos (of_decide_eq_true c1), if_pos (of_decide_eq_true c2)]
        rw [e] at h
        have ew : 1 - (1 - w) = w := by omega
        wtm_at "gs"
        rw [ew]
        exact k_worked_end (by decide +kernel) hw f0 f1 hl h
      | false =>
        have e : tickW ws ⟨f, w, l, lit⟩ = (wordZ ws f (1 - w) lit, 1 - w) := by
          show (if wordZ ws f w lit = "turn" then (if wordZ ws f (1 - w) lit = "turn" then (("rest" : Str), w) else (wordZ ws f (1 - w) lit, 1 - w)) else (wordZ ws f w lit, w)) = _
          rw [if_pos (of_decide_eq_true c1), if_neg (of_decide_eq_false c2)]
        rw [e] at h
        wtm_at "gs"
        exact k_worked_end (word_ok S hw') hw' f0 f1 hl h
    | false =>
      have e : tickW ws ⟨f, w, l, lit⟩ = (wordZ ws f w lit, w) := if_neg (of_decide_eq_false c1)
      rw [e] at h
      wtm_at "gs"
      exact k_worked_end (word_ok S hw) hw f0 f1 hl h
end
end K48

/-! part L4 -/
namespace K48
open PySem PySem.Spec PyProof.Rows L2 Evl Lk LamX Mk
/-! ### the law's tick; calls -/
section
variable {K : PySem.W.Frag} {n : Nat} {Q : O → List O → Nat → Prop} {X : Exn → List O → Nat → Prop}
theorem x_fMax2 {u v : Int} {q : O → Prop} (h : ∀ w, w = (if v > u then v else u) → q (.dat (.int w))) : fMax2 (.int u) (.int v) q := h _ rfl
theorem k_law_end {N stay : Int} {ws : List Str} {f w l : Int} {lit : List Int} {x : Str} {u9 : Option O} (hx : PyData.strOk x = true) (hw : w = 0 ∨ w = 1) (f0 : 0 ≤ f) (f1 : f < N) (hl : lit.length ≤ 1000) {d0 : PyData} (h : Q (.dat (sD (endZ N stay f lit (x, w)))) [.dat (.int N), .dat (.int stay), .dat (sheetD ws), .dat d0] n) :
    B__law_tick_9 K ⟨[some (.dat (.int N)), some (.dat (.int stay)), some (.dat (sheetD ws)), some (.dat d0), some (.dat (.int f)), some (.dat (.int w)), some (.dat (.int l)), some (.dat (litD lit)), some (.dat (.str x)), u9, none], n, []⟩ (kOf [.dat (.int N), .dat (.int stay), .dat (sheetD ws), .dat d0] Q X) := by
  wtm_at "go"
  cases c1 : decide (x = "open") with
  | true =>
    have e : endZ N stay f lit (x, w) = ⟨f, w, stay, lit.filter fun x => !decide (x = f)⟩ := if_pos (of_decide_eq_true c1)
    rw [e] at h
    wtm_at "go"
    refine x_lcM (l := lit) (fun x : Int => PyData.int x) (fun x => !decide (x = f)) (fun x => .int x) (by omega) (fun y hy A B hA hB => ?_) ?_
    · wtm_at "go"
      cases c2 : decide (y = f) with
      | true =>
        wtm_at "go"
        exact hB (by rw [c2]; rfl)
      | false =>
        wtm_at "go"
        exact hA (by rw [c2]; rfl)
    wtm_at "go"
    exact h
  | false =>
    have e : endZ N stay f lit (x, w) = if x = "go" then ⟨goZ N f w, w, 0, lit⟩ else ⟨f, w, 0, lit⟩ := if_neg (of_decide_eq_false c1)
    rw [e] at h
    wtm_at "go"
    cases c2 : decide (x = "go") with
    | true =>
      rw [if_pos (of_decide_eq_true c2)] at h
      wtm_at "go"
      cases cw : decide (w = 1) with
      | true =>
        wtm_at "go"
        refine x_fMax2 fun z ez => ?_
        have hz : z = goZ N f w := by
          rw [ez]
          unfold goZ
          rw [if_pos (of_decide_eq_true cw)]
          repeat' split
          all_goals omega
        rw [hz]
        wtm_at "go"
        exact h
      | false =>
        wtm_at "go"
        refine x_fMax2 fun z ez => ?_
        have hz : z = goZ N f w := by
          rw [ez]
          unfold goZ
          rw [if_neg (of_decide_eq_false cw)]
          repeat' split
          all_goals omega
        rw [hz]
        wtm_at "go"
        exact h
    | false =>
      rw [if_neg (of_decide_eq_false c2)] at h
      wtm_at "go"
      exact h
theorem k__law_tick {N stay : Int} {ws : List Str} {f w l : Int} {lit : List Int} (S : SheetOk ws) (hs : StOk N stay ⟨f, w, l, lit⟩) (hl : lit.length ≤ 1000) (h : Q (.dat (sD (tickZ N stay ws ⟨f, w, l, lit⟩))) [.dat (.int N), .dat (.int stay), .dat (sheetD ws), .dat (stD f w l lit)] n) :
    d__law_tick K [.dat (.int N), .dat (.int stay), .dat (sheetD ws), .dat (stD f w l lit)] n Q X := by
  have hw : w = 0 ∨ w = 1 := hs.w
  have hw' : 1 - w = 0 ∨ 1 - w = 1 := by omega
  have f0 : 0 ≤ f := hs.f0
  have f1 : f < N := hs.f1
  have wk := word_ok S (f := f) (lit := lit) hw
  have wk' := word_ok S (f := f) (lit := lit) hw'
  unfold d__law_tick b__law_tick
  wtm_at "in"
  wtm_at "go"
  cases c : decide (1 < l) with
  | true =>
    have e : tickZ N stay ws ⟨f, w, l, lit⟩ = ⟨f, w, l - 1, lit⟩ := if_pos (of_decide_eq_true c)
    rw [e] at h
    wtm_at "go"
    exact h
  | false =>
    rw [tick_end (of_decide_eq_false c)] at h
    wtm_at "go"
    refine k__law_word S hw hl ?_
    wtm_at "go"
    cases c1 : decide (wordZ ws f w lit = "turn") with
    | true =>
      wtm_at "go"
      refine k__law_word S hw' hl ?_
      wtm_at "go"
      cases c2 : decide (wordZ ws f (1 - w) lit = "turn") with
      | true =>
        have e : tickW ws ⟨f, w, l, lit⟩ = (("rest" : Str), w) := by
          show (if wordZ ws f w lit = "turn" then (if wordZ ws f (1 - w) lit = "turn" then (("rest" : Str), w) else (wordZ ws f (1 - w) lit, 1 - w)) else (wordZ ws f w lit, w)) = _
          rw [if_pos (of_decide_eq_true c1), if_pos (of_decide_eq_true c2)]
        rw [e] at h
        wtm_at "gs"
        exact k_law_end (by decide +kernel) hw f0 f1 hl h
      | false =>
        have e : tickW ws ⟨f, w, l, lit⟩ = (wordZ ws f (1 - w) lit, 1 - w) := by
          show (if wordZ ws f w lit = "turn" then (if wordZ ws f (1 - w) lit = "turn" then (("rest" : Str), w) else (wordZ ws f (1 - w) lit, 1 - w)) else (wordZ ws f w lit, w)) = _
          rw [if_pos (of_decide_eq_true c1), if_neg (of_decide_eq_false c2)]
        rw [e] at h
        wtm_at "gs"
        exact k_law_end wk' hw' f0 f1 hl h
    | false =>
      have e : tickW ws ⟨f, w, l, lit⟩ = (wordZ ws f w lit, w) := if_neg (of_decide_eq_false c1)
      rw [e] at h
      wtm_at "gs"
      exact k_law_end wk hw f0 f1 hl h
theorem k_with_call {f w l j : Int} {lit : List Int} (hu : lit.Pairwise (· < ·)) (hl : lit.length < 60) (h : Q (.dat (sD (callZ ⟨f, w, l, lit⟩ j))) [.dat (stD f w l lit), .dat (.int j)] n) : d_with_call K [.dat (stD f w l lit), .dat (.int j)] n Q X := by
  have e : callZ ⟨f, w, l, lit⟩ j = if (decide (j ∈ lit) || (decide (0 < l) && decide (j = f))) = true then ⟨f, w, l, lit⟩ else ⟨f, w, l, insZ j lit⟩ := by
    have q : decide (f = j) = decide (j = f) := by
      rw [Bool.eq_iff_iff, decide_eq_true_eq, decide_eq_true_eq]
      exact ⟨Eq.symm, Eq.symm⟩
    rw [← q]
    rfl
  rw [e] at h
  unfold d_with_call b_with_call
  wtm_at "in"
  wtm_at "go"
  refine x_fIn (inT ints_sh) ?_
  rw [has_ints]
  wtm_at "go"
  have fin : decide (j ∈ lit) = false → ∀ out : List Int, out.Perm (lit ++ [j]) → out.Pairwise (· ≤ ·) → out = insZ j lit := fun c out p o => sort_ins hu (of_decide_eq_false c) p o
  cases c1 : decide (j ∈ lit) with
  | true =>
    rw [c1, Bool.true_or, if_pos rfl] at h
    wtm_at "go"
    exact h
  | false =>
    rw [c1, Bool.false_or] at h
    wtm_at "go"
    cases c2 : decide (0 < l) with
    | true =>
      rw [c2, Bool.true_and] at h
      wtm_at "go"
      cases c3 : decide (j = f) with
      | true =>
        rw [c3, if_pos rfl] at h
        wtm_at "go"
        exact h
      | false =>
        rw [c3, if_neg Bool.false_ne_true] at h
        wtm_at "go"
        refine ⟨by rw [List.length_append, List.length_map, List.length_singleton]; omega, ?_⟩
        wtm_at "go"
        refine ⟨lit ++ [j], by rw [List.map_append]; rfl, by rw [List.length_append, List.length_singleton]; omega, fun out p o => ?_⟩
        rw [fin c1 out p o]
        wtm_at "go"
        exact h
    | false =>
      rw [c2, Bool.false_and, if_neg Bool.false_ne_true] at h
      wtm_at "go"
      refine ⟨by rw [List.length_append, List.length_map, List.length_singleton]; omega, ?_⟩
      wtm_at "go"
      refine ⟨lit ++ [j], by rw [List.map_append]; rfl, by rw [List.length_append, List.length_singleton]; omega, fun out p o => ?_⟩
      rw [fin c1 out p o]
      wtm_at "go"
      exact h
end
end K48

/-! part L5 -/
namespace K48
open PySem PySem.Spec PyProof.Rows L2 Evl Lk LamX Mk
/-! ### the law's call; signals -/
abbrev tickD : PyData := .tuple [.str "tick"]
abbrev callD (j : Int) : PyData := .tuple [.str "call", .int j]
def sigsD (N : Nat) : List PyData := ((List.range N).map fun j : Nat => callD (j : Int)) ++ [tickD]
theorem tick_sh : SeqAt.shaped tickD = true := by decide +kernel
theorem call_sh {j : Int} : SeqAt.shaped (callD j) = true := shT fun d hd => by
  simp only [List.mem_cons, List.not_mem_nil, or_false] at hd
  rcases hd with rfl | rfl
  · exact .str (m := 9) ⟨by decide +kernel, by decide +kernel⟩
  · exact .int
theorem eq_tt : eqd tickD tickD = true := by decide +kernel
theorem eq_ct {j : Int} : eqd (callD j) tickD = false := by rfl
theorem eq_tc {j : Int} : eqd tickD (callD j) = false := by rfl
section
variable {K : PySem.W.Frag} {n : Nat} {Q : O → List O → Nat → Prop} {X : Exn → List O → Nat → Prop}
theorem k__law_called {f w l j : Int} {lit : List Int} (hu : lit.Pairwise (· < ·)) (hl : lit.length < 60) (h : Q (.dat (sD (callZ ⟨f, w, l, lit⟩ j))) [.dat (stD f w l lit), .dat (.int j)] n) : d__law_called K [.dat (stD f w l lit), .dat (.int j)] n Q X := by
  have e : callZ ⟨f, w, l, lit⟩ j = if (decide (j ∈ lit) || (decide (0 < l) && decide (f = j))) = true then ⟨f, w, l, lit⟩ else ⟨f, w, l, insZ j lit⟩ := rfl
  have ec : Mk.cutD [PyData.int f, .int w, .int l, litD lit] none (some 3) = [.int f, .int w, .int l] := rfl
  rw [e] at h
  unfold d__law_called b__law_called
  wtm_at "in"
  wtm_at "go"
  refine x_fIn (inT ints_sh) ?_
  rw [has_ints]
  wtm_at "go"
  have fin : decide (j ∈ lit) = false → ∀ out : List Int, out.Perm (lit ++ [j]) → out.Pairwise (· ≤ ·) → out = insZ j lit := fun c out p o => sort_ins hu (of_decide_eq_false c) p o
  cases c1 : decide (j ∈ lit) with
  | true =>
    rw [c1, Bool.true_or, if_pos rfl] at h
    wtm_at "go"
    exact h
  | false =>
    rw [c1, Bool.false_or] at h
    wtm_at "go"
    cases c2 : decide (0 < l) with
    | true =>
      rw [c2, Bool.true_and] at h
      wtm_at "go"
      cases c3 : decide (f = j) with
      | true =>
        rw [c3, if_pos rfl] at h
        wtm_at "go"
        exact h
      | false =>
        rw [c3, if_neg Bool.false_ne_true] at h
        wtm_at "go"
        refine ⟨by rw [List.length_map, List.length_singleton]; omega, ?_⟩
        wtm_at "go"
        refine ⟨lit ++ [j], by rw [List.map_append]; rfl, by rw [List.length_append, List.length_singleton]; omega, fun out p o => ?_⟩
        rw [fin c1 out p o]
        wtm_at "go"
        rw [ec]
        refine ⟨by simp, ?_⟩
        wtm_at "go"
        exact h
    | false =>
      rw [c2, Bool.false_and, if_neg Bool.false_ne_true] at h
      wtm_at "go"
      refine ⟨by rw [List.length_map, List.length_singleton]; omega, ?_⟩
      wtm_at "go"
      refine ⟨lit ++ [j], by rw [List.map_append]; rfl, by rw [List.length_append, List.length_singleton]; omega, fun out p o => ?_⟩
      rw [fin c1 out p o]
      wtm_at "go"
      rw [ec]
      refine ⟨by simp, ?_⟩
      wtm_at "go"
      exact h
theorem k_behind_tick {N stay : Int} {ws : List Str} {f w l : Int} {lit : List Int} (S : SheetOk ws) (hs : StOk N stay ⟨f, w, l, lit⟩) (hl : lit.length ≤ 1000) (h : Q (.dat (sD (tickZ N stay ws ⟨f, w, l, lit⟩))) [.dat (.int N), .dat (.int stay), .dat (sheetD ws), .dat (stD f w l lit), .dat tickD] n) :
    d_behind_signal K [.dat (.int N), .dat (.int stay), .dat (sheetD ws), .dat (stD f w l lit), .dat tickD] n Q X := by
  unfold d_behind_signal b_behind_signal
  wtm_at "in"
  wtm_at "go"
  refine k_worked_off S hs hl ?_
  wtm_at "go"
  exact h
theorem k_behind_call {N stay : Int} {ws : List Str} {f w l j : Int} {lit : List Int} (hu : lit.Pairwise (· < ·)) (hl : lit.length < 60) (h : Q (.dat (sD (callZ ⟨f, w, l, lit⟩ j))) [.dat (.int N), .dat (.int stay), .dat (sheetD ws), .dat (stD f w l lit), .dat (callD j)] n) :
    d_behind_signal K [.dat (.int N), .dat (.int stay), .dat (sheetD ws), .dat (stD f w l lit), .dat (callD j)] n Q X := by
  unfold d_behind_signal b_behind_signal
  wtm_at "in"
  wtm_at "go"
  refine x_fEq call_sh tick_sh ?_
  rw [eq_ct]
  wtm_at "go"
  refine k_with_call hu hl ?_
  wtm_at "go"
  exact h
theorem k_lift_signals {N : Nat} (hN : N ≤ 1000) (h : Q (.lst (sigsD N)) [.dat (.int (N : Nat))] n) : d_lift_signals K [.dat (.int (N : Nat))] n Q X := by
  have es : sigsD N = ((List.range N).map fun i : Nat => callD (0 + (i : Int))) ++ [tickD] := by
    unfold sigsD
    congr 1
    refine List.map_congr_left fun i _ => ?_
    rw [Int.zero_add]
  rw [es] at h
  unfold d_lift_signals b_lift_signals
  wtm_at "in"
  wtm_at "go"
  unfold Mk.intsFrom
  refine x_lcA (l := List.range N) (fun i : Nat => PyData.int (0 + (i : Int))) (fun i : Nat => callD (0 + (i : Int))) (by rw [List.length_range]; omega) (fun i hi A hA => ?_) ?_
  · wtm_at "go"
    exact hA
  wtm_at "go"
  refine ⟨by rw [List.length_append, List.length_map, List.length_range, List.length_singleton]; omega, ?_⟩
  wtm_at "go"
  exact h
end
end K48

/-! part L6 -/
namespace K48
open PySem PySem.Spec PyProof.Rows L2 Evl Lk LamX Mk
/-! ### standings as keys -/
theorem keysN_ints : ∀ xs : List Int, keysN (xs.map PyData.int) = some (xs.map NestedKey.num)
  | [] => by rw [List.map_nil, List.map_nil, keysN]
  | x :: xs => by rw [List.map_cons, List.map_cons, keysN, keyN, keysN_ints xs]
theorem depth_nums : ∀ xs : List Int, NestedKey.depthAll (xs.map NestedKey.num) = 0
  | [] => rfl
  | x :: xs => by rw [List.map_cons, NestedKey.depthAll, depth_nums xs]; rfl
def keyZ (s : Sd) : NestedKey := .tup [.num s.f, .num s.w, .num s.l, .tup (s.lit.map NestedKey.num)]
theorem nk_z (f w l : Int) (lit : List Int) : nkOf (stD f w l lit) = some (keyZ ⟨f, w, l, lit⟩) := by
  have e : keysN [.int f, .int w, .int l, litD lit] = some [.num f, .num w, .num l, .tup (lit.map NestedKey.num)] := by
    rw [keysN, keyN, keysN, keyN, keysN, keyN, keysN, keyN, keysN_ints, keysN]
  have d : (NestedKey.tup [.num f, .num w, .num l, .tup (lit.map NestedKey.num)]).depth ≤ 8 := by
    rw [NestedKey.depth, NestedKey.depthAll, NestedKey.depthAll, NestedKey.depthAll, NestedKey.depthAll, NestedKey.depth, NestedKey.depth, NestedKey.depth, NestedKey.depth, depth_nums, NestedKey.depthAll]
    omega
  unfold nkOf
  simp only [e]
  rw [if_pos d]
  rfl
theorem num_inj : ∀ {xs ys : List Int}, xs.map NestedKey.num = ys.map NestedKey.num → xs = ys
  | [], [], _ => rfl
  | [], _ :: _, h => by cases h
  | _ :: _, [], h => by cases h
  | x :: xs, y :: ys, h => by
    rw [List.map_cons, List.map_cons] at h
    obtain ⟨h1, h2⟩ := List.cons.inj h
    rw [num_inj h2]
    cases h1
    rfl
theorem key_inj {p q : Sd} (h : keyZ p = keyZ q) : p = q := by
  obtain ⟨f, w, l, x⟩ := p
  obtain ⟨f', w', l', y⟩ := q
  have h0 : NestedKey.tup [.num f, .num w, .num l, .tup (x.map NestedKey.num)] = .tup [.num f', .num w', .num l', .tup (y.map NestedKey.num)] := h
  obtain ⟨a1, h1⟩ := List.cons.inj (NestedKey.tup.inj h0)
  obtain ⟨a2, h2⟩ := List.cons.inj h1
  obtain ⟨a3, h3⟩ := List.cons.inj h2
  obtain ⟨a4, _⟩ := List.cons.inj h3
  rw [NestedKey.num.inj a1, NestedKey.num.inj a2, NestedKey.num.inj a3, num_inj (NestedKey.tup.inj a4)]
def kvsFrom : Nat → List Sd → List (NestedKey × PyData)
  | _, [] => []
  | i, s :: F => (keyZ s, .int ((i : Nat) : Int)) :: kvsFrom (i + 1) F
theorem kvs_len : ∀ (F : List Sd) (i : Nat), (kvsFrom i F).length = F.length
  | [], _ => rfl
  | s :: F, i => by rw [kvsFrom, List.length_cons, kvs_len F, List.length_cons]
theorem kvs_app : ∀ (F : List Sd) (i : Nat) (x : Sd), kvsFrom i (F ++ [x]) = kvsFrom i F ++ [(keyZ x, .int ((i + F.length : Nat) : Int))]
  | [], i, x => rfl
  | s :: F, i, x => by
    have e : i + 1 + F.length = i + (s :: F).length := by rw [List.length_cons]; omega
    rw [List.cons_append, kvsFrom, kvsFrom, kvs_app F (i + 1) x, e]
    rfl
theorem get_kvs : ∀ (F : List Sd) (i : Nat) (x : Sd), getN (kvsFrom i F) (keyZ x) = if x ∈ F then some (.int ((i + ixOf F x : Nat) : Int)) else none
  | [], _, _ => rfl
  | s :: F, i, x => by
    have ih := get_kvs F (i + 1) x
    unfold getN at ih ⊢
    rw [kvsFrom]
    by_cases e : s = x
    · subst e
      rw [List.find?_cons_of_pos (by simp), if_pos List.mem_cons_self]
      unfold ixOf
      rw [List.idxOf_cons_self]
      rfl
    · rw [List.find?_cons_of_neg (by simp only [decide_eq_true_eq]; exact fun z => e (key_inj z)), ih]
      have e2 : ixOf (s :: F) x = ixOf F x + 1 := by
        unfold ixOf
        rw [List.idxOf_cons, beq_false_of_ne e]
        rfl
      rw [e2]
      by_cases m : x ∈ F
      · rw [if_pos m, if_pos (List.mem_cons_of_mem _ m)]
        congr 2
        omega
      · rw [if_neg m, if_neg (fun z => (List.mem_cons.mp z).elim (fun q => e q.symm) m)]
theorem put_new {F : List Sd} {x : Sd} (h : x ∉ F) : putN (kvsFrom 0 F) (keyZ x) (.int ((F.length : Nat) : Int)) = kvsFrom 0 (F ++ [x]) := by
  unfold putN
  rw [get_kvs, if_neg h, if_neg (by simp), kvs_app, Nat.zero_add]
theorem get_in {F : List Sd} {x : Sd} (h : x ∈ F) : getN (kvsFrom 0 F) (keyZ x) = some (.int ((ixOf F x : Nat) : Int)) := by rw [get_kvs, if_pos h, Nat.zero_add]
theorem get_some {F : List Sd} {x : Sd} : (getN (kvsFrom 0 F) (keyZ x)).isSome = decide (x ∈ F) := by
  rw [get_kvs]
  by_cases h : x ∈ F
  · rw [if_pos h, decide_eq_true h]; rfl
  · rw [if_neg h, decide_eq_false h]; rfl
abbrev rowD (r : List Nat) : PyData := .list (r.map fun i : Nat => PyData.int (i : Int))
theorem adds_app : ∀ (xs ys F : List Sd), addsZ F (xs ++ ys) = addsZ (addsZ F xs) ys
  | [], _, _ => rfl
  | x :: xs, ys, F => by rw [List.cons_append, addsZ, addsZ, adds_app xs ys]
end K48

/-! part L7 -/
namespace K48
open PySem PySem.Spec PyProof.Rows L2 Evl Lk LamX Mk
/-! ### the program's walk -/
theorem x_movN {kvs : List (NestedKey × PyData)} {s : S} {q : O → S → Prop} (h : q (.dn kvs) s) : movK (.val (.dn kvs)) s q := h
def getNK (r : Rs) (k : PyData) (s : S) (P : Rs → S → Prop) : Prop := match dnOf s r, nkOf k with
  | some kvs, some k => match getN kvs k with
    | some d => P (.val (.dat d)) s
    | none => False
  | _, _ => False
theorem x_getN {m : ME} {mk : MD} {s : S} {P : Rs → S → Prop} {X : XM} (h : m s (fun r s1 => mk s1 (fun k s2 => getNK r k s2 P) X) X) : mGetN m mk s P X := by
  refine Eq.mp (congrArg (fun g => m s g X) ?_) h
  funext d s1
  refine congrArg (fun g => mk s1 g X) ?_
  funext e s2
  unfold getNK
  rfl
instance st_getN {m : ME} {mk : MD} {s : S} {P : Rs → S → Prop} {X : XM} : Stp (mGetN m mk s P X) (m s (fun r s1 => mk s1 (fun k s2 => getNK r k s2 P) X) X) := ⟨x_getN⟩
theorem x_getNK {r : Rs} {y d : PyData} {s : S} {P : Rs → S → Prop} {kvs : List (NestedKey × PyData)} {k : NestedKey} (e1 : dnOf s r = some kvs) (e2 : nkOf y = some k) (e3 : getN kvs k = some d) (h : P (.val (.dat d)) s) : getNK r y s P := by
  unfold getNK
  rw [e1, e2]
  dsimp only
  rw [e3]
  exact h
theorem x_varS {i n : Nat} {ev : List (Option O)} {bo : List Nat} {kvs : List (NestedKey × PyData)} {P : Rs → S → Prop} {X : XM} (e : ev[i]? = some (some (.dn kvs))) (h : P (.slot i) ⟨ev, n, bo⟩) : mVar i ⟨ev, n, bo⟩ P X := by
  have e' : (S.mk ev n bo).env[i]? = some (some (.dn kvs)) := e
  unfold mVar
  rw [e']
  exact h
theorem sig_at {N i : Nat} (h : i < N) : (sigsD N)[i]? = some (callD (i : Int)) := by
  unfold sigsD
  rw [List.getElem?_append_left (by rw [List.length_map, List.length_range]; exact h), List.getElem?_map, List.getElem?_range h]
  rfl
theorem sig_end {N : Nat} : (sigsD N)[N]? = some tickD := by
  unfold sigsD
  rw [List.getElem?_append_right (by rw [List.length_map, List.length_range]; omega), List.length_map, List.length_range, Nat.sub_self]
  rfl
theorem lat_at {N i : Nat} {stay : Int} {ws : List Str} {s : Sd} (h : i < N) : (latersZ N stay ws s)[i]? = some (callZ s (i : Int)) := by
  unfold latersZ
  rw [List.getElem?_append_left (by rw [List.length_map, List.length_range]; exact h), List.getElem?_map, List.getElem?_range h]
  rfl
theorem lat_end {N : Nat} {stay : Int} {ws : List Str} {s : Sd} : (latersZ N stay ws s)[N]? = some (tickZ N stay ws s) := by
  unfold latersZ
  rw [List.getElem?_append_right (by rw [List.length_map, List.length_range]; omega), List.length_map, List.length_range, Nat.sub_self]
  rfl
theorem sigs_len {N : Nat} : (sigsD N).length = N + 1 := by
  unfold sigsD
  rw [List.length_append, List.length_map, List.length_range, List.length_singleton]
theorem lats_len {N : Nat} {stay : Int} {ws : List Str} {s : Sd} : (latersZ N stay ws s).length = N + 1 := by
  unfold latersZ
  rw [List.length_append, List.length_map, List.length_range, List.length_singleton]
theorem take_at {α : Type} {l : List α} {i : Nat} {x : α} (e : l[i]? = some x) : l.take (i + 1) = l.take i ++ [x] := by
  rw [List.take_succ, e]
  rfl
theorem nats_app {r : List Nat} {k : Nat} : (r ++ [k]).map (fun i : Nat => PyData.int (i : Int)) = r.map (fun i : Nat => PyData.int (i : Int)) ++ [.int (k : Int)] := by rw [List.map_append]; rfl
theorem lit_len {N : Nat} {stay : Int} {s : Sd} (h : StOk N stay s) (n5 : N ≤ 5) : s.lit.length ≤ 5 := by
  have q := nodup_len (lt_nodup h.up) (m := fromZ 0 N) fun x hx => by
    obtain ⟨a, b⟩ := h.li x hx
    exact fromZ_mem a (by omega)
  rw [fromZ_len] at q
  omega
theorem drop_cons {α : Type} {l : List α} {k : Nat} {x : α} {r : List α} (h : l.drop k = x :: r) : l[k]? = some x ∧ l.drop (k + 1) = r := by
  constructor
  · have := List.getElem?_drop (xs := l) (i := k) (j := 0)
    rw [h] at this
    exact this.symm
  · rw [← List.drop_drop, h]
    rfl
section
variable {K : PySem.W.Frag} {n : Nat} {Q : O → List O → Nat → Prop} {X : Exn → List O → Nat → Prop}
theorem k_behind {N stay i : Nat} {ws : List Str} {s x : Sd} {d : PyData} (S : SheetOk ws) (n5 : N ≤ 5) (hs : StOk N stay s) (e1 : (sigsD N)[i]? = some d) (e2 : (latersZ N stay ws s)[i]? = some x) (h : Q (.dat (sD x)) [.dat (.int N), .dat (.int stay), .dat (sheetD ws), .dat (sD s), .dat d] n) :
    d_behind_signal K [.dat (.int N), .dat (.int stay), .dat (sheetD ws), .dat (sD s), .dat d] n Q X := by
  have ll := lit_len hs n5
  have hi : i < N + 1 := by
    have := (List.getElem?_eq_some_iff.mp e1).1
    rw [sigs_len] at this
    exact this
  by_cases c : i < N
  · rw [sig_at c] at e1
    rw [lat_at c] at e2
    cases e1
    cases e2
    exact k_behind_call hs.up (by show s.lit.length < 60; omega) h
  · obtain rfl : i = N := by omega
    rw [sig_end] at e1
    rw [lat_end] at e2
    cases e1
    cases e2
    exact k_behind_tick S hs (by show s.lit.length ≤ 1000; omega) h
set_option maxHeartbeats 4000000 in
theorem k_walked {N stay : Nat} {ws : List Str} (S : SheetOk ws) (n1 : 1 ≤ N) (n5 : N ≤ 5) (s1 : 1 ≤ stay) (s6 : stay ≤ 6)
    (h : ∀ k, EndAt N stay ws k → Q (.dat (.tuple [.list ((walkZ N stay ws k).1.map sD), .list ((walkZ N stay ws k).2.map rowD)])) [.dat (.int (N : Nat)), .dat (.int (stay : Nat)), .dat (sheetD ws)] n) :
    d_walked K [.dat (.int (N : Nat)), .dat (.int (stay : Nat)), .dat (sheetD ws)] n Q X := by
  unfold d_walked b_walked
  wtm_at "in"
  wtm_at "go"
  unfold mNDisp
  wtm_at "go"
  have en0 : nkOf (.tuple [.int 0, .int 0, .int 0, .tuple []]) = some (keyZ ⟨0, 0, 0, []⟩) := nk_z 0 0 0 []
  rw [en0]
  dsimp only
  refine x_movN ?_
  wtm_at "go"
  refine x_whI (fun t s => ∃ (k : Nat) (u7 u8 u9 : Option O), t = 2241 - k ∧ (∀ j, j < k → j < (walkZ N stay ws j).1.length) ∧ k ≤ (walkZ N stay ws k).1.length ∧ (walkZ N stay ws k).2.length = k ∧ s = ⟨[some (.dat (.int N)), some (.dat (.int stay)), some (.dat (sheetD ws)), some (.lst ((walkZ N stay ws k).1.map sD)), some (.dn (kvsFrom 0 (walkZ N stay ws k).1)), some (.lst ((walkZ N stay ws k).2.map rowD)), some (.dat (.int (k : Nat))), u7, u8, u9], n, []⟩) (fun t s M hI hN => ?_) (m := 2241) ⟨0, none, none, none, rfl, fun j z => by omega, Nat.zero_le _, rfl, rfl⟩
  obtain ⟨k, u7, u8, u9, rfl, hb, hk, hr, rfl⟩ := hI
  have ok := walk_ok (ws := ws) n1 (show (1 : Int) ≤ stay by omega) k
  have fl := fok_len ok n5 s6
  wtm_at "go"
  rw [List.length_map]
  by_cases c : k < (walkZ N stay ws k).1.length
  · rw [if_pos (decide_eq_true (by omega))]
    wtm_at "go"
    refine k_lift_signals (by omega) ?_
    wtm_at "bk"
    wtm_at "go"
    generalize eF : (walkZ N stay ws k).1 = F at *
    generalize eR : (walkZ N stay ws k).2 = Rw at *
    obtain ⟨s, es⟩ : ∃ s, F[k]? = some s := ⟨F[k], List.getElem?_eq_getElem c⟩
    have hso := ok.ok s (List.mem_of_getElem? es)
    have wn := walk_next (n := N) (stay := stay) (ws := ws) (k := k) (s := s) (by rw [eF]; exact es)
    rw [eF, eR] at wn
    have lok := later_ok (ws := ws) hso (show (1 : Int) ≤ stay by omega)
    generalize eL : latersZ N stay ws s = L at *
    have hL : L.length = N + 1 := by rw [← eL]; exact lats_len
    refine x_forI (fun r s2 => ∃ (i : Nat) (u8 u9 : Option O), r = (sigsD N).drop i ∧ i ≤ N + 1 ∧ s2 = ⟨[some (.dat (.int N)), some (.dat (.int stay)), some (.dat (sheetD ws)), some (.lst ((addsZ F (L.take i)).map sD)), some (.dn (kvsFrom 0 (addsZ F (L.take i)))), some (.lst (Rw.map rowD)), some (.dat (.int (k : Nat))), some (.lst (((L.take i).map (ixOf (addsZ F L))).map fun i : Nat => PyData.int (i : Int))), u8, u9], n, []⟩) ?_ ?_ ⟨0, u8, u9, rfl, by omega, rfl⟩
    · rintro d r s2 N' ⟨i, u8, u9, er, hi, rfl⟩ hN'
      obtain ⟨ed, er2⟩ := drop_cons er.symm
      have hi2 : i < N + 1 := by
        have := (List.getElem?_eq_some_iff.mp ed).1
        rw [sigs_len] at this
        exact this
      obtain ⟨x, ex⟩ : ∃ x, L[i]? = some x := ⟨L[i], List.getElem?_eq_getElem (by omega)⟩
      have hN2 := fun u8 u9 => hN' _ ⟨i + 1, u8, u9, er2.symm, hi2, rfl⟩
      have okp : FOk N stay (addsZ F (L.take i)) := adds_ok ok fun y hy => lok y (List.mem_of_mem_take hy)
      have flp := fok_len okp n5 s6
      have ea : (addsZ F (L.take i))[k]? = some s := by
        obtain ⟨m, e⟩ := adds_pre (L.take i) F
        rw [e, List.getElem?_append_left c]
        exact es
      have ea2 : atI ((addsZ F (L.take i)).map sD) (k : Int) = some (sD s) := atI_nat (by rw [List.getElem?_map, ea]; rfl)
      have enx : addsZ F (L.take (i + 1)) = addZ (addsZ F (L.take i)) x := by
        rw [take_at ex, adds_app]
        rfl
      have erow : ((L.take (i + 1)).map (ixOf (addsZ F L))).map (fun i : Nat => PyData.int (i : Int)) = ((L.take i).map (ixOf (addsZ F L))).map (fun i : Nat => PyData.int (i : Int)) ++ [.int ((ixOf (addsZ F L) x : Nat) : Int)] := by
        rw [take_at ex, List.map_append, List.map_cons, List.map_nil, nats_app]
      have eix : ixOf (addsZ F L) x = ixOf (addZ (addsZ F (L.take i)) x) x := by
        have e : addsZ F L = addsZ (addZ (addsZ F (L.take i)) x) (L.drop (i + 1)) := by
          rw [← enx, ← adds_app, List.take_append_drop]
        rw [e]
        exact ix_adds (add_in _ _)
      rw [enx, erow, eix] at hN2
      have rl : (((L.take i).map (ixOf (addsZ F L))).map fun i : Nat => PyData.int (i : Int)).length ≤ 6 := by
        rw [List.length_map, List.length_map, List.length_take]
        omega
      generalize ((L.take i).map (ixOf (addsZ F L))).map (fun i : Nat => PyData.int (i : Int)) = row at *
      generalize eG : addsZ F (L.take i) = G at *
      have ekx : nkOf (sD x) = some (keyZ x) := nk_z _ _ _ _
      wtm_at "go"
      refine k_behind S n5 hso ed (by rw [eL]; exact ex) ?_
      wtm_at "bk"
      wtm_at "go"
      refine x_varS rfl ?_
      refine x_inNK (kvs := kvsFrom 0 G) rfl ekx ?_
      rw [get_some]
      by_cases cx : x ∈ G
      · have eA : addZ G x = G := if_pos cx
        rw [eA] at hN2
        rw [decide_eq_true cx]
        wtm_at "go"
        refine x_varS rfl ?_
        wtm_at "go"
        refine x_getNK (kvs := kvsFrom 0 G) rfl ekx (get_in cx) ?_
        wtm_at "go"
        refine x_append (by omega) ?_
        wtm_at "go"
        exact hN2 _ _
      · have eA : addZ G x = G ++ [x] := if_neg cx
        rw [eA] at hN2
        rw [decide_eq_false cx]
        wtm_at "go"
        unfold mNPut
        wtm_at "go"
        refine ⟨trivial, ?_⟩
        wtm_at "go"
        rw [ekx]
        dsimp only
        refine ⟨by rw [kvs_len]; omega, ?_⟩
        rw [List.length_map, put_new cx]
        have gl : (G.map sD).length ≤ 2240 := by rw [List.length_map]; exact flp
        have ga : G.map sD ++ [sD x] = (G ++ [x]).map sD := by rw [List.map_append]; rfl
        wtm_at "go"
        refine x_append (by omega) ?_
        rw [ga]
        wtm_at "go"
        refine x_varS rfl ?_
        wtm_at "go"
        refine x_getNK (kvs := kvsFrom 0 (G ++ [x])) rfl ekx (get_in (by simp)) ?_
        wtm_at "go"
        refine x_append (by omega) ?_
        wtm_at "go"
        exact hN2 _ _
    · rintro s2 ⟨i, u8, u9, er, hi, rfl⟩
      have hd := congrArg List.length er
      rw [List.length_drop, sigs_len, List.length_nil] at hd
      have ei : L.take i = L := List.take_of_length_le (by omega)
      rw [ei]
      have ew : (Rw ++ [L.map (ixOf (addsZ F L))]).map rowD = Rw.map rowD ++ [rowD (L.map (ixOf (addsZ F L)))] := by rw [List.map_append]; rfl
      have fl2 : (Rw.map rowD).length ≤ 2240 := by rw [List.length_map, hr]; omega
      wtm_at "go"
      refine x_append (by omega) ?_
      wtm_at "go"
      refine hN (2241 - (k + 1)) _ (by omega) ⟨k + 1, some (.dat (rowD (L.map (ixOf (addsZ F L))))), u8, u9, rfl, fun j hj => ?_, ?_, ?_, ?_⟩
      · by_cases ej : j < k
        · exact hb j ej
        · obtain rfl : j = k := by omega
          rw [eF]
          exact c
      · rw [wn]
        obtain ⟨m, e⟩ := adds_pre L F
        rw [e, List.length_append]
        omega
      · rw [wn, List.length_append, hr]
        rfl
      · rw [wn, ew]
        rfl
  · rw [if_neg (by rw [decide_eq_true_eq]; omega)]
    wtm_at "go"
    exact h k ⟨by omega, hb⟩
end
end K48

/-! part L8 -/
namespace K48
open PySem PySem.Spec PyProof.Rows L2 Evl Lk LamX Mk
/-! ### the law's walk -/
theorem x_dictN {ds : List PyData} {ps : List (NestedKey × PyData)} {q : O → Prop} (e : pairsN ds = some ps) (h : q (.dn (storeN [] ps))) : fDictN (.list ds) q := by
  unfold fDictN
  dsimp only
  rw [e]
  exact h
section
variable {K : PySem.W.Frag} {n : Nat} {Q : O → List O → Nat → Prop} {X : Exn → List O → Nat → Prop}
set_option maxHeartbeats 4000000 in
theorem k__law_lift_walk {N stay : Nat} {ws : List Str} (S : SheetOk ws) (n1 : 1 ≤ N) (n5 : N ≤ 5) (s1 : 1 ≤ stay) (s6 : stay ≤ 6)
    (h : ∀ k, EndAt N stay ws k → Q (.dat (.tuple [.list ((walkZ N stay ws k).1.map sD), .list ((walkZ N stay ws k).2.map rowD)])) [.dat (.int (N : Nat)), .dat (.int (stay : Nat)), .dat (sheetD ws)] n) :
    d__law_lift_walk K [.dat (.int (N : Nat)), .dat (.int (stay : Nat)), .dat (sheetD ws)] n Q X := by
  unfold d__law_lift_walk b__law_lift_walk
  wtm_at "in"
  wtm_at "go"
  have en0 : pairsN [.tuple [.tuple [.int 0, .int 0, .int 0, .tuple []], .int 0]] = some [(keyZ ⟨0, 0, 0, []⟩, .int 0)] := by
    have e : nkOf (.tuple [.int 0, .int 0, .int 0, .tuple []]) = some (keyZ ⟨0, 0, 0, []⟩) := nk_z 0 0 0 []
    unfold pairsN
    rw [e]
    rfl
  refine x_dictN en0 ?_
  refine x_movN ?_
  wtm_at "go"
  unfold Mk.intsFrom
  refine x_forI (fun r s => ∃ (k : Nat) (u6 u7 u8 u9 : Option O), r = ((List.range 16385).map fun i : Nat => PyData.int (0 + (i : Int))).drop k ∧ (∀ j, j < k → j < (walkZ N stay ws j).1.length) ∧ k ≤ (walkZ N stay ws k).1.length ∧ (walkZ N stay ws k).2.length = k ∧ s = ⟨[some (.dat (.int N)), some (.dat (.int stay)), some (.dat (sheetD ws)), some (.lst ((walkZ N stay ws k).1.map sD)), some (.lst ((walkZ N stay ws k).2.map rowD)), some (.dn (kvsFrom 0 (walkZ N stay ws k).1)), u6, u7, u8, u9], n, []⟩) ?_ ?_ ⟨0, none, none, none, none, rfl, fun j z => by omega, Nat.zero_le _, rfl, rfl⟩
  · rintro d r s M ⟨k, u6, u7, u8, u9, er, hb, hk, hr, rfl⟩ hN
    obtain ⟨ed, er2⟩ := drop_cons er.symm
    have ok := walk_ok (ws := ws) n1 (show (1 : Int) ≤ stay by omega) k
    have fl := fok_len ok n5 s6
    rw [List.getElem?_map, List.getElem?_range (by omega)] at ed
    cases ed
    have hN2 := fun u6 u7 u8 u9 z1 z2 z3 => hN _ ⟨k + 1, u6, u7, u8, u9, er2.symm, z1, z2, z3, rfl⟩
    have eb : (((0 : Int) + (k : Int)) = ((((walkZ N stay ws k).1.map sD).length : Nat) : Int)) ↔ k = (walkZ N stay ws k).1.length := by rw [List.length_map]; omega
    wtm_at "go"
    by_cases c : k = (walkZ N stay ws k).1.length
    · rw [decide_eq_true (eb.mpr c)]
      wtm_at "go"
      exact h k ⟨c.symm, hb⟩
    rw [decide_eq_false fun z => c (eb.mp z)]
    replace c : k < (walkZ N stay ws k).1.length := by omega
    wtm_at "go"
    clear hN eb
    generalize eF : (walkZ N stay ws k).1 = F at *
    generalize eR : (walkZ N stay ws k).2 = Rw at *
    obtain ⟨s, es⟩ : ∃ s, F[k]? = some s := ⟨F[k], List.getElem?_eq_getElem c⟩
    have hso := ok.ok s (List.mem_of_getElem? es)
    have ll := lit_len hso n5
    have wn := walk_next (n := N) (stay := stay) (ws := ws) (k := k) (s := s) (by rw [eF]; exact es)
    rw [eF, eR] at wn
    have lok := later_ok (ws := ws) hso (show (1 : Int) ≤ stay by omega)
    have ea2 : atI (F.map sD) (0 + (k : Int)) = some (sD s) := by rw [Int.zero_add]; exact atI_nat (by rw [List.getElem?_map, es]; rfl)
    unfold Mk.intsFrom
    refine x_lcA (l := List.range N) (fun i : Nat => PyData.int (0 + (i : Int))) (fun i : Nat => sD (callZ s (0 + (i : Int)))) (by rw [List.length_range]; omega) (fun i hi A hA => ?_) ?_
    · wtm_at "go"
      refine k__law_called hso.up (by omega) ?_
      wtm_at "go"
      exact hA
    wtm_at "go"
    refine k__law_tick S hso (by omega) ?_
    wtm_at "bk"
    wtm_at "go"
    refine ⟨by rw [List.length_map, List.length_range]; show N + 1 ≤ 100000; omega, ?_⟩
    have eL2 : ((List.range N).map fun i : Nat => sD (callZ s (0 + (i : Int)))) ++ [sD (tickZ N stay ws s)] = (latersZ N stay ws s).map sD := by
      unfold latersZ
      rw [List.map_append, List.map_map]
      congr 1
      refine List.map_congr_left fun i _ => ?_
      rw [Int.zero_add]
      rfl
    have eL3 : ((List.range N).map fun i : Nat => sD (callZ s (0 + (i : Int)))) ++ [sD (tickZ N stay ws ⟨s.f, s.w, s.l, s.lit⟩)] = (latersZ N stay ws s).map sD := eL2
    rw [eL3]
    have hL : (latersZ N stay ws s).length = N + 1 := lats_len
    clear eL2 eL3
    generalize latersZ N stay ws s = L at *
    wtm_at "go"
    refine x_forI (fun r s2 => ∃ (i : Nat) (u8 u9 : Option O), r = (L.map sD).drop i ∧ i ≤ L.length ∧ s2 = ⟨[some (.dat (.int N)), some (.dat (.int stay)), some (.dat (sheetD ws)), some (.lst ((addsZ F (L.take i)).map sD)), some (.lst (Rw.map rowD)), some (.dn (kvsFrom 0 (addsZ F (L.take i)))), some (.dat (.int (0 + (k : Nat)))), some (.dat (.list (L.map sD))), u8, u9], n, []⟩) ?_ ?_ ⟨0, none, u9, rfl, by omega, rfl⟩
    · rintro d r s2 N' ⟨i, u8, u9, er, hi, rfl⟩ hN'
      obtain ⟨ed, er2⟩ := drop_cons er.symm
      have hi2 : i < L.length := by
        have := (List.getElem?_eq_some_iff.mp ed).1
        rw [List.length_map] at this
        exact this
      obtain ⟨x, ex⟩ : ∃ x, L[i]? = some x := ⟨L[i], List.getElem?_eq_getElem hi2⟩
      rw [List.getElem?_map, ex] at ed
      cases ed
      have hN2 := fun u8 u9 => hN' _ ⟨i + 1, u8, u9, er2.symm, hi2, rfl⟩
      have okp : FOk N stay (addsZ F (L.take i)) := adds_ok ok fun y hy => lok y (List.mem_of_mem_take hy)
      have flp := fok_len okp n5 s6
      have enx : addsZ F (L.take (i + 1)) = addZ (addsZ F (L.take i)) x := by
        rw [take_at ex, adds_app]
        rfl
      rw [enx] at hN2
      generalize eG : addsZ F (L.take i) = G at *
      have ekx : nkOf (sD x) = some (keyZ x) := nk_z _ _ _ _
      wtm_at "go"
      refine x_varS rfl ?_
      refine x_inNK (kvs := kvsFrom 0 G) rfl ekx ?_
      rw [get_some]
      by_cases cx : x ∈ G
      · have eA : addZ G x = G := if_pos cx
        rw [eA] at hN2
        rw [decide_eq_true cx]
        wtm_at "go"
        exact hN2 _ _
      · have eA : addZ G x = G ++ [x] := if_neg cx
        rw [eA] at hN2
        rw [decide_eq_false cx]
        wtm_at "go"
        unfold mNPut
        wtm_at "go"
        refine ⟨trivial, ?_⟩
        wtm_at "go"
        rw [ekx]
        dsimp only
        refine ⟨by rw [kvs_len]; omega, ?_⟩
        rw [List.length_map, put_new cx]
        have gl : (G.map sD).length ≤ 2240 := by rw [List.length_map]; exact flp
        have ga : G.map sD ++ [sD x] = (G ++ [x]).map sD := by rw [List.map_append]; rfl
        wtm_at "go"
        refine x_append (by omega) ?_
        rw [ga]
        wtm_at "go"
        exact hN2 _ _
    · rintro s2 ⟨i, u8, u9, er, hi, rfl⟩
      have hd := congrArg List.length er
      rw [List.length_drop, List.length_map, List.length_nil] at hd
      have ei : L.take i = L := List.take_of_length_le (by omega)
      rw [ei]
      have ew : (Rw ++ [L.map (ixOf (addsZ F L))]).map rowD = Rw.map rowD ++ [rowD (L.map (ixOf (addsZ F L)))] := by rw [List.map_append]; rfl
      have fl2 : (Rw.map rowD).length ≤ 2240 := by rw [List.length_map, hr]; omega
      wtm_at "go"
      refine x_lcA (l := L) sD (fun x => PyData.int ((ixOf (addsZ F L) x : Nat) : Int)) (by omega) (fun x hx A hA => ?_) ?_
      · have ekx : nkOf (sD x) = some (keyZ x) := nk_z _ _ _ _
        wtm_at "go"
        refine x_varS rfl ?_
        wtm_at "go"
        refine x_getNK (kvs := kvsFrom 0 (addsZ F L)) rfl ekx (get_in (adds_in hx)) ?_
        wtm_at "go"
        exact hA
      have er3 : L.map (fun x => PyData.int ((ixOf (addsZ F L) x : Nat) : Int)) = (L.map (ixOf (addsZ F L))).map fun i : Nat => PyData.int (i : Int) := by rw [List.map_map]; rfl
      rw [er3]
      wtm_at "go"
      refine x_append (by omega) ?_
      wtm_at "go"
      have fin := hN2 (some (.dat (.int (0 + (k : Nat))))) (some (.dat (.list (L.map sD)))) u8 none (fun j hj => ?_) ?_ ?_
      · rw [wn, ew] at fin
        exact fin
      · by_cases ej : j < k
        · exact hb j ej
        · obtain rfl : j = k := by omega
          rw [eF]
          exact c
      · rw [wn]
        obtain ⟨m, e⟩ := adds_pre L F
        rw [e, List.length_append]
        omega
      · rw [wn, List.length_append, hr]
        rfl
  · rintro s ⟨k, u6, u7, u8, u9, er, hb, hk, hr, rfl⟩
    have ok := walk_ok (ws := ws) n1 (show (1 : Int) ≤ stay by omega) k
    have fl := fok_len ok n5 s6
    have := congrArg List.length er
    rw [List.length_drop, List.length_map, List.length_range, List.length_nil] at this
    omega
end
end K48

/-! part L9 -/
namespace K48
open PySem PySem.Spec PyProof.Rows L2 Evl Lk LamX Mk
/-! ### webs -/
abbrev movD (d : PyData) (i : Nat) : PyData := .tuple [d, .none, .none, .int (i : Int)]
def rowT (N : Nat) (r : List Nat) : PyData := .tuple (List.zipWith movD (sigsD N) r)
def webZ (N : Nat) (R : List (List Nat)) : PyData := .tuple [.str "web", .tuple [.int 0], .tuple (R.map (rowT N))]
structure RowsOk (N : Nat) (m : Nat) (R : List (List Nat)) : Prop where
  len : ∀ r ∈ R, r.length = N + 1
  lt : ∀ r ∈ R, ∀ i ∈ r, i < m
theorem rows_ok {N : Nat} {stay : Int} {ws : List Str} : ∀ k, RowsOk N (walkZ N stay ws k).1.length (walkZ N stay ws k).2
  | 0 => ⟨(fun _ z => by cases z), (fun _ z => by cases z)⟩
  | k + 1 => by
    have ih := rows_ok (N := N) (stay := stay) (ws := ws) k
    rw [walkZ]
    split
    · exact ih
    · rename_i s e
      obtain ⟨m, em⟩ := adds_pre (latersZ N stay ws s) (walkZ N stay ws k).1
      refine ⟨fun r hr => ?_, fun r hr i hi => ?_⟩
      · rcases List.mem_append.mp hr with hr | hr
        · exact ih.len r hr
        · rw [List.mem_singleton.mp hr, List.length_map, lats_len]
      · rcases List.mem_append.mp hr with hr | hr
        · have := ih.lt r hr i hi
          dsimp only
          rw [em, List.length_append]
          omega
        · rw [List.mem_singleton.mp hr] at hi
          obtain ⟨x, hx, rfl⟩ := List.mem_map.mp hi
          exact List.idxOf_lt_length_of_mem (adds_in hx)
theorem rows_len {N : Nat} {stay : Int} {ws : List Str} : ∀ k, (∀ j, j < k → j < (walkZ N stay ws j).1.length) → (walkZ N stay ws k).2.length = k
  | 0, _ => rfl
  | k + 1, h => by
    have ih := rows_len (N := N) (stay := stay) (ws := ws) k fun j hj => h j (by omega)
    have c := h k (by omega)
    rw [walk_next (List.getElem?_eq_getElem c), List.length_append, ih]
    rfl
def movV : PyData → PyData
  | .tuple [a, b] => .tuple [a, .none, .none, b]
  | _ => .none
theorem movs_map : ∀ {ds : List PyData} {r : List Nat}, (zipD ds (r.map fun i : Nat => PyData.int (i : Int))).map movV = List.zipWith movD ds r
  | [], r => by rw [List.zipWith_nil_left]; cases r <;> rfl
  | d :: ds, [] => rfl
  | d :: ds, i :: r => by
    have ih := movs_map (ds := ds) (r := r)
    rw [List.map_cons, zipD, List.map_cons, ih, List.zipWith_cons_cons]
    rfl
theorem zip_mem {ds es : List PyData} {p : PyData} (h : p ∈ zipD ds es) : ∃ x y, x ∈ ds ∧ y ∈ es ∧ p = .tuple [x, y] := by
  obtain ⟨i, hi⟩ := List.getElem?_of_mem h
  obtain ⟨x, y, hx, hy, e⟩ := zipD_at hi
  exact ⟨x, y, List.mem_of_getElem? hx, List.mem_of_getElem? hy, e⟩
section
variable {K : PySem.W.Frag} {n : Nat} {Q : O → List O → Nat → Prop} {X : Exn → List O → Nat → Prop}
theorem k_web_walked {N : Nat} {R : List (List Nat)} (n5 : N ≤ 5) (hR : R.length ≤ 2240) (h : Q (.dat (webZ N R)) [.dat (.int (N : Nat)), .dat (.list (R.map rowD))] n) : d_web_walked K [.dat (.int (N : Nat)), .dat (.list (R.map rowD))] n Q X := by
  have sl : (sigsD N).length ≤ 6 := by rw [sigs_len]; omega
  unfold d_web_walked b_web_walked
  wtm_at "in"
  wtm_at "go"
  refine k_lift_signals (by omega) ?_
  wtm_at "bk"
  wtm_at "go"
  refine x_forI (fun r s => ∃ (i : Nat) (u2 : O) (u4 : Option O), r = (R.map rowD).drop i ∧ i ≤ R.length ∧ (u2 = .lst (sigsD N) ∨ u2 = .dat (.list (sigsD N))) ∧ s = ⟨[some (.dat (.int N)), some (.dat (.list (R.map rowD))), some u2, some (.lst ((R.take i).map (rowT N))), u4, none, none], n, []⟩) ?_ ?_ ⟨0, .lst (sigsD N), none, rfl, by omega, .inl rfl, rfl⟩
  · rintro d r s M ⟨i, u2, u4, er, hi, hu, rfl⟩ hN
    obtain ⟨ed, er2⟩ := drop_cons er.symm
    have hi2 : i < R.length := by
      have := (List.getElem?_eq_some_iff.mp ed).1
      rw [List.length_map] at this
      exact this
    obtain ⟨x, ex⟩ : ∃ x, R[i]? = some x := ⟨R[i], List.getElem?_eq_getElem hi2⟩
    rw [List.getElem?_map, ex] at ed
    cases ed
    have hN2 := fun u4 => hN _ ⟨i + 1, .dat (.list (sigsD N)), u4, er2.symm, hi2, .inr rfl, rfl⟩
    have et : (R.take (i + 1)).map (rowT N) = (R.take i).map (rowT N) ++ [rowT N x] := by rw [take_at ex, List.map_append]; rfl
    have er3 : rowT N x = .tuple (List.zipWith movD (sigsD N) x) := rfl
    rw [et, er3] at hN2
    have tl : ((R.take i).map (rowT N)).length ≤ 2240 := by rw [List.length_map, List.length_take]; omega
    rcases hu with rfl | rfl
    · wtm_at "go"
      refine x_lcD movV (by rw [zipD_len]; omega) (fun p hp A hA => ?_) ?_
      · obtain ⟨a, b, _, _, rfl⟩ := zip_mem hp
        wtm_at "go"
        exact hA
      rw [movs_map]
      wtm_at "go"
      refine x_append (by omega) ?_
      wtm_at "go"
      exact hN2 _
    · wtm_at "go"
      refine x_lcD movV (by rw [zipD_len]; omega) (fun p hp A hA => ?_) ?_
      · obtain ⟨a, b, _, _, rfl⟩ := zip_mem hp
        wtm_at "go"
        exact hA
      rw [movs_map]
      wtm_at "go"
      refine x_append (by omega) ?_
      wtm_at "go"
      exact hN2 _
  · rintro s ⟨i, u2, u4, er, hi, hu, rfl⟩
    have hd := congrArg List.length er
    rw [List.length_drop, List.length_map, List.length_nil] at hd
    have ei : R.take i = R := List.take_of_length_le (by omega)
    rw [ei]
    wtm_at "go"
    exact h
theorem k__law_lift_web {N : Nat} {R : List (List Nat)} (n5 : N ≤ 5) (hR : R.length ≤ 2240) (h : Q (.dat (webZ N R)) [.dat (.int (N : Nat)), .dat (.list (R.map rowD))] n) : d__law_lift_web K [.dat (.int (N : Nat)), .dat (.list (R.map rowD))] n Q X := by
  have sl : (sigsD N).length ≤ 6 := by rw [sigs_len]; omega
  have es : sigsD N = ((List.range N).map fun i : Nat => callD (0 + (i : Int))) ++ [tickD] := by
    unfold sigsD
    congr 1
    refine List.map_congr_left fun i _ => ?_
    rw [Int.zero_add]
  unfold d__law_lift_web b__law_lift_web
  wtm_at "in"
  wtm_at "go"
  unfold Mk.intsFrom
  refine x_lcA (l := List.range N) (fun i : Nat => PyData.int (0 + (i : Int))) (fun i : Nat => callD (0 + (i : Int))) (by rw [List.length_range]; omega) (fun i hi A hA => ?_) ?_
  · wtm_at "go"
    exact hA
  wtm_at "go"
  refine ⟨by rw [List.length_map, List.length_range]; show N + 1 ≤ 100000; omega, ?_⟩
  rw [← es]
  wtm_at "go"
  refine x_lcI (fun r acc s => ∃ (i : Nat) (u2 : O), r = (R.map rowD).drop i ∧ i ≤ R.length ∧ acc = (R.take i).map (rowT N) ∧ (u2 = .lst (sigsD N) ∨ u2 = .dat (.list (sigsD N))) ∧ s = ⟨[some (.dat (.int N)), some (.dat (.list (R.map rowD))), some u2, none, none, none, none], n, []⟩) ?_ ?_ ⟨0, .lst (sigsD N), rfl, by omega, rfl, .inl rfl, rfl⟩
  · rintro d r acc s A B ⟨i, u2, er, hi, rfl, hu, rfl⟩ hA hB
    obtain ⟨ed, er2⟩ := drop_cons er.symm
    have hi2 : i < R.length := by
      have := (List.getElem?_eq_some_iff.mp ed).1
      rw [List.length_map] at this
      exact this
    obtain ⟨x, ex⟩ : ∃ x, R[i]? = some x := ⟨R[i], List.getElem?_eq_getElem hi2⟩
    rw [List.getElem?_map, ex] at ed
    cases ed
    have et : (R.take (i + 1)).map (rowT N) = (R.take i).map (rowT N) ++ [rowT N x] := by rw [take_at ex, List.map_append]; rfl
    have tl : ((R.take i).map (rowT N)).length < 100000 := by rw [List.length_map, List.length_take]; omega
    have hA2 := hA (rowT N x) _ tl ⟨i + 1, .dat (.list (sigsD N)), er2.symm, hi2, et.symm, .inr rfl, rfl⟩
    have er3 : rowT N x = .tuple (List.zipWith movD (sigsD N) x) := rfl
    rw [er3] at hA2
    rcases hu with rfl | rfl
    · wtm_at "go"
      refine x_lcD movV (by rw [zipD_len]; omega) (fun p hp A2 hA3 => ?_) ?_
      · obtain ⟨a, b, _, _, rfl⟩ := zip_mem hp
        wtm_at "go"
        exact hA3
      rw [movs_map]
      wtm_at "go"
      exact hA2
    · wtm_at "go"
      refine x_lcD movV (by rw [zipD_len]; omega) (fun p hp A2 hA3 => ?_) ?_
      · obtain ⟨a, b, _, _, rfl⟩ := zip_mem hp
        wtm_at "go"
        exact hA3
      rw [movs_map]
      wtm_at "go"
      exact hA2
  rintro acc s ⟨i, u2, er, hi, rfl, hu, rfl⟩
  have hd := congrArg List.length er
  rw [List.length_drop, List.length_map, List.length_nil] at hd
  have ei : R.take i = R := List.take_of_length_le (by omega)
  rw [ei]
  wtm_at "go"
  exact h
end
end K48

/-! part L10 -/
namespace K48
open PySem PySem.Spec PyProof.Rows L2 Evl Lk LamX Mk
/-! ### the web is one -/
def sigK (N : Nat) : List NestedKey := ((List.range N).map fun j : Nat => .tup [.text "call", .num (j : Int)]) ++ [.tup [.text "tick"]]
def movK4 (k : NestedKey) (i : Nat) : NestedKey := .tup [k, .none, .none, .num (i : Int)]
theorem sigK_data {N : Nat} : (sigK N).map NestedKey.data = sigsD N := by
  unfold sigK sigsD
  rw [List.map_append, List.map_map]
  rfl
theorem sigK_nodup {N : Nat} : (sigK N).Nodup := by
  unfold sigK
  refine List.nodup_append.mpr ⟨?_, by simp, fun a ha b hb e => ?_⟩
  · refine List.pairwise_map.mpr ((List.nodup_range (n := N)).imp fun {a b} q e => q ?_)
    have e2 := (List.cons.inj (List.cons.inj (NestedKey.tup.inj e)).2).1
    exact Int.ofNat.inj (NestedKey.num.inj e2)
  · rw [List.mem_singleton] at hb
    obtain ⟨j, _, rfl⟩ := List.mem_map.mp ha
    subst hb
    cases e
theorem movK_data : ∀ {ks : List NestedKey} {r : List Nat}, (List.zipWith movK4 ks r).map NestedKey.data = List.zipWith movD (ks.map NestedKey.data) r
  | [], r => by rw [List.zipWith_nil_left, List.map_nil, List.zipWith_nil_left]
  | k :: ks, [] => rfl
  | k :: ks, i :: r => by
    have ih := movK_data (ks := ks) (r := r)
    rw [List.zipWith_cons_cons, List.map_cons, ih, List.map_cons, List.zipWith_cons_cons]
    rfl
theorem movK_in : ∀ {ks : List NestedKey} {r : List Nat} {x : NestedKey}, x ∈ List.zipWith movK4 ks r → ∃ k ∈ ks, ∃ i, x = movK4 k i
  | [], r, x, h => by rw [List.zipWith_nil_left] at h; cases h
  | k :: ks, [], x, h => by cases h
  | k :: ks, i :: r, x, h => by
    rw [List.zipWith_cons_cons] at h
    rcases List.mem_cons.mp h with rfl | h
    · exact ⟨k, List.mem_cons_self, i, rfl⟩
    · obtain ⟨k', hk, i', e⟩ := movK_in h
      exact ⟨k', List.mem_cons_of_mem _ hk, i', e⟩
theorem movK_nodup : ∀ {ks : List NestedKey} {r : List Nat}, ks.Nodup → (List.zipWith movK4 ks r).Nodup
  | [], r, _ => by rw [List.zipWith_nil_left]; exact .nil
  | k :: ks, [], _ => .nil
  | k :: ks, i :: r, h => by
    rw [List.nodup_cons] at h
    rw [List.zipWith_cons_cons, List.nodup_cons]
    refine ⟨fun z => ?_, movK_nodup h.2⟩
    obtain ⟨k', hk, i', e⟩ := movK_in z
    have e1 := (List.cons.inj (NestedKey.tup.inj e)).1
    rw [e1] at h
    exact h.1 hk
theorem sig_in {N : Nat} {d : PyData} (h : d ∈ sigsD N) : d = tickD ∨ ∃ j : Nat, j < N ∧ d = callD (j : Int) := by
  unfold sigsD at h
  rcases List.mem_append.mp h with h | h
  · obtain ⟨j, hj, rfl⟩ := List.mem_map.mp h
    exact .inr ⟨j, List.mem_range.mp hj, rfl⟩
  · exact .inl (List.mem_singleton.mp h)
theorem zw_in : ∀ {ds : List PyData} {r : List Nat} {x : PyData}, x ∈ List.zipWith movD ds r → ∃ d ∈ ds, ∃ i ∈ r, x = movD d i
  | [], r, x, h => by rw [List.zipWith_nil_left] at h; cases h
  | k :: ks, [], x, h => by cases h
  | k :: ks, i :: r, x, h => by
    rw [List.zipWith_cons_cons] at h
    rcases List.mem_cons.mp h with rfl | h
    · exact ⟨k, List.mem_cons_self, i, List.mem_cons_self, rfl⟩
    · obtain ⟨k', hk, i', hi, e⟩ := zw_in h
      exact ⟨k', List.mem_cons_of_mem _ hk, i', List.mem_cons_of_mem _ hi, e⟩
theorem movK_mode {N : Nat} {r : List Nat} {x : NestedKey} (h : x ∈ List.zipWith movK4 (sigK N) r) : keyMode true x := by
  obtain ⟨k, hk, i, rfl⟩ := movK_in h
  unfold sigK at hk
  rcases List.mem_append.mp hk with hk | hk
  · obtain ⟨j, _, rfl⟩ := List.mem_map.mp hk
    exact ⟨⟨_, rfl⟩, by simp [movK4, NestedKey.depth, NestedKey.depthAll]⟩
  · rw [List.mem_singleton.mp hk]
    exact ⟨⟨_, rfl⟩, by simp [movK4, NestedKey.depth, NestedKey.depthAll]⟩
section
variable {K : PySem.W.Frag} {n : Nat} {Q : O → List O → Nat → Prop} {X : Exn → List O → Nat → Prop}
theorem k_label_call {j : Int} (h : Q (.dat (.bool true)) [.dat (callD j)] n) : d_is_label K [.dat (callD j)] n Q X := by
  unfold d_is_label b_is_label
  wtm_at "in"
  wtm_at "go"
  refine x_lcD (fun _ => .bool true) (by simp) (fun d hd A hA => ?_) ?_
  · simp only [List.mem_cons, List.not_mem_nil, or_false] at hd
    rcases hd with rfl | rfl
    · wtm_at "go"
      exact hA
    · wtm_at "go"
      exact hA
  wtm_at "go"
  exact h
theorem k_label_tick (h : Q (.dat (.bool true)) [.dat tickD] n) : d_is_label K [.dat tickD] n Q X := by
  unfold d_is_label b_is_label
  wtm_at "in"
  wtm_at "go"
  refine x_lcD (fun _ => .bool true) (by simp) (fun d hd A hA => ?_) ?_
  · simp only [List.mem_cons, List.not_mem_nil, or_false] at hd
    rcases hd with rfl
    wtm_at "go"
    exact hA
  wtm_at "go"
  exact h
theorem k_is_move {N i m : Nat} {d : PyData} (hd : d ∈ sigsD N) (hi : i < m) (h : Q (.dat (.bool true)) [.dat (movD d i), .dat (.int (m : Nat))] n) : d_is_move K [.dat (movD d i), .dat (.int (m : Nat))] n Q X := by
  have hl : ∀ {n' : Nat} {Q' : O → List O → Nat → Prop} {X' : Exn → List O → Nat → Prop}, Q' (.dat (.bool true)) [.dat d] n' → d_is_label K [.dat d] n' Q' X' := fun {n' Q' X'} q => by
    rcases sig_in hd with rfl | ⟨j, _, rfl⟩
    · exact k_label_tick q
    · exact k_label_call q
  have hw : isWhole (.int (i : Int)) 0 ((m : Int) - 1) = true := by
    show (decide ((0 : Int) ≤ (i : Int)) && decide ((i : Int) ≤ (m : Int) - 1)) = true
    rw [decide_eq_true (by omega), decide_eq_true (by omega)]
    rfl
  unfold d_is_move b_is_move
  wtm_at "in"
  wtm_at "go"
  refine hl ?_
  wtm_at "bk"
  wtm_at "go"
  refine k_is_whole ?_
  rw [hw]
  wtm_at "go"
  exact h
set_option maxHeartbeats 4000000 in
theorem k_is_web {N : Nat} {R : List (List Nat)} (n5 : N ≤ 5) (r1 : 1 ≤ R.length) (hR : R.length ≤ 2240) (ok : RowsOk N R.length R) (h : Q (.dat (.bool true)) [.dat (webZ N R)] n) : d_is_web K [.dat (webZ N R)] n Q X := by
  have sl : (sigsD N).length ≤ 6 := by rw [sigs_len]; omega
  unfold webZ at h ⊢
  have hw : isWhole (.int 0) 0 ((R.length : Int) - 1) = true := by
    show (decide ((0 : Int) ≤ (0 : Int)) && decide ((0 : Int) ≤ (R.length : Int) - 1)) = true
    rw [decide_eq_true (by omega), decide_eq_true (by omega)]
    rfl
  have ml : (R.map (rowT N)).length = R.length := List.length_map _
  unfold d_is_web b_is_web
  wtm_at "in"
  wtm_at "go"
  rw [ml, decide_eq_true (show (1 : Int) ≤ (R.length : Int) by omega)]
  wtm_at "go"
  rw [decide_eq_true (show (R.length : Int) ≤ 20000 by omega)]
  wtm_at "go"
  refine x_lcD (fun _ => .bool true) (by simp) (fun d hd A hA => ?_) ?_
  · rw [List.mem_singleton.mp hd]
    wtm_at "go"
    rw [ml]
    refine k_is_whole ?_
    rw [hw]
    wtm_at "go"
    exact hA
  wtm_at "go"
  have ez : zipD [PyData.int 0] (Mk.cutD [PyData.int 0] (some 1) none) = [] := rfl
  rw [ez]
  refine x_lcD (fun d => d) (by simp) (fun d hd => by cases hd) ?_
  wtm_at "go"
  refine x_forI (fun r s => ∃ (i : Nat) (u6 : Option O), r = (R.map (rowT N)).drop i ∧ i ≤ R.length ∧ s = ⟨[some (.dat (.tuple [.str "web", .tuple [.int 0], .tuple (R.map (rowT N))])), some (.dat (.str "web")), some (.dat (.tuple [.int 0])), some (.dat (.tuple (R.map (rowT N)))), none, none, u6], n, []⟩) ?_ ?_ ⟨0, none, rfl, by omega, rfl⟩
  · rintro d r s M ⟨i, u6, er, hi, rfl⟩ hN
    obtain ⟨ed, er2⟩ := drop_cons er.symm
    have hi2 : i < R.length := by
      have := (List.getElem?_eq_some_iff.mp ed).1
      rw [List.length_map] at this
      exact this
    obtain ⟨x, ex⟩ : ∃ x, R[i]? = some x := ⟨R[i], List.getElem?_eq_getElem hi2⟩
    rw [List.getElem?_map, ex] at ed
    cases ed
    have hx := List.mem_of_getElem? ex
    have lx := ok.len x hx
    have zl : (List.zipWith movD (sigsD N) x).length = N + 1 := by rw [List.length_zipWith, sigs_len, lx]; omega
    have kl : (List.zipWith movK4 (sigK N) x).length = N + 1 := by
      have e := congrArg List.length (movK_data (ks := sigK N) (r := x))
      rw [sigK_data, List.length_map, zl] at e
      exact e
    have ekd : (List.zipWith movK4 (sigK N) x).map NestedKey.data = List.zipWith movD (sigsD N) x := by rw [movK_data, sigK_data]
    have er3 : rowT N x = .tuple (List.zipWith movD (sigsD N) x) := rfl
    rw [er3]
    wtm_at "go"
    refine x_lcD (fun _ => .bool true) (by omega) (fun d hd A hA => ?_) ?_
    · obtain ⟨e, he, j, hj, rfl⟩ := zw_in hd
      have hjl := ok.lt x hx j hj
      wtm_at "go"
      rw [ml]
      refine k_is_move he hjl ?_
      wtm_at "go"
      exact hA
    wtm_at "go"
    have ea : ((List.zipWith movD (sigsD N) x).map fun _ => true).all id = true := by
      rw [all_map']
      exact List.all_eq_true.mpr fun _ _ => rfl
    rw [ea]
    wtm_at "go"
    refine x_fLenK (m := true) (d := .tuple (List.zipWith movD (sigsD N) x)) (keys := List.zipWith movK4 (sigK N) x) (by rw [ekd]; rfl) (fun k hk => movK_mode hk) (by rw [kl]; show N + 1 < 64; omega) fun j hj => ?_
    have ej := hj.mpr (movK_nodup sigK_nodup)
    wtm_at "go"
    rw [decide_eq_false (show ¬ ((j : Int) < ((List.zipWith movD (sigsD N) x).length : Int)) by omega)]
    wtm_at "go"
    exact hN _ ⟨i + 1, _, er2.symm, hi2, rfl⟩
  · rintro s ⟨i, u6, er, hi, rfl⟩
    wtm_at "go"
    exact h
end
end K48

/-! part L11 -/
namespace K48
open PySem PySem.Spec PyProof.Rows L2 Evl Lk LamX Mk
/-! ### rules, what is needed; whole runs of the program -/
def wordB : PyData → Bool
  | .str x => decide (x = "go") || decide (x = "open") || decide (x = "rest") || decide (x = "turn")
  | _ => false
def ruleB : PyData → Bool
  | .tuple ds => decide (ds.length = 16) && ds.all wordB
  | _ => false
abbrev wordsD : List PyData := [.str "go", .str "open", .str "rest", .str "turn"]
theorem words_sh : ∀ d ∈ wordsD, Sh d := fun d hd => by
  simp only [List.mem_cons, List.not_mem_nil, or_false] at hd
  rcases hd with rfl | rfl | rfl | rfl <;> exact .str (m := 9) ⟨by decide +kernel, by decide +kernel⟩
theorem has_words {d : PyData} (x : Str) (e : d = .str x) : hasD wordsD d = wordB d := by
  subst e
  have c : ∀ y : Str, PyData.eqv (.str y) (.str x) = decide (x = y) := fun y => by
    have e : PyData.eqv (.str y) (.str x) = decide (y = x) := by
      simp only [PyData.eqv]
      rw [Bool.eq_iff_iff, decide_eq_true_eq, beq_iff_eq]
    rw [e, Bool.eq_iff_iff, decide_eq_true_eq, decide_eq_true_eq]
    exact ⟨Eq.symm, Eq.symm⟩
  unfold hasD wordB
  simp only [List.any_cons, List.any_nil, Bool.or_false, c, Bool.or_assoc]
theorem isStr_is {d : PyData} (h : Lk.isStr d = true) : ∃ x, d = .str x := by
  cases d with
  | str x => exact ⟨x, rfl⟩
  | _ => cases h
theorem sheet_rule {ws : List Str} (S : SheetOk ws) : ruleB (sheetD ws) = true := by
  show (decide ((ws.map PyData.str).length = 16) && (ws.map PyData.str).all wordB) = true
  rw [List.length_map, decide_eq_true S.len, Bool.true_and, List.all_eq_true]
  intro d hd
  obtain ⟨x, hx, rfl⟩ := List.mem_map.mp hd
  rcases S.word x hx with rfl | rfl | rfl | rfl <;> rfl
section
variable {K : PySem.W.Frag} {n : Nat} {Q : O → List O → Nat → Prop} {X : Exn → List O → Nat → Prop}
theorem k_is_rule {d : PyData} (h : Q (.dat (.bool (ruleB d))) [.dat d] n) : d_is_rule K [.dat d] n Q X := by
  unfold d_is_rule b_is_rule
  cases d with
  | tuple ds =>
    have e : ruleB (.tuple ds) = (decide (ds.length = 16) && ds.all wordB) := rfl
    rw [e] at h
    wtm_at "in"
    wtm_at "go"
    by_cases c : ds.length = 16
    · rw [decide_eq_true c, Bool.true_and] at h
      rw [decide_eq_true (show (ds.length : Int) = 16 by omega)]
      wtm_at "go"
      refine x_lcD (fun d => .bool (wordB d)) (by omega) (fun d hd A hA => ?_) ?_
      · wtm_at "go"
        cases c1 : Lk.isStr d with
        | false =>
          have ew : wordB d = false := by cases d <;> first | rfl | cases c1
          rw [ew] at hA
          wtm_at "go"
          exact hA
        | true =>
          obtain ⟨x, rfl⟩ := isStr_is c1
          wtm_at "go"
          refine x_fIn (inT words_sh) ?_
          rw [has_words x rfl]
          wtm_at "go"
          exact hA
      wtm_at "go"
      rw [all_map']
      exact h
    · rw [decide_eq_false c, Bool.false_and] at h
      rw [decide_eq_false (show ¬ (ds.length : Int) = 16 by omega)]
      wtm_at "go"
      exact h
  | _ =>
    wtm_at "in"
    wtm_at "go"
    exact h
theorem k_need_lift {f p r : PyData} (h : isWhole f 2 8 = true → isWhole p 1 6 = true → ruleB r = true → Q (.dat .none) [.dat f, .dat p, .dat r] n)
    (h1 : isWhole f 2 8 = false → X (He.ga K "BadFloors", []) [.dat f, .dat p, .dat r] n)
    (h2 : isWhole f 2 8 = true → isWhole p 1 6 = false → X (He.ga K "BadStay", []) [.dat f, .dat p, .dat r] n)
    (h3 : isWhole f 2 8 = true → isWhole p 1 6 = true → ruleB r = false → X (He.ga K "BadRule", []) [.dat f, .dat p, .dat r] n) : d_need_lift K [.dat f, .dat p, .dat r] n Q X := by
  unfold d_need_lift b_need_lift
  wtm_at "in"
  wtm_at "go"
  refine k_is_whole ?_
  cases c1 : isWhole f 2 8 with
  | false =>
    wtm_at "go"
    exact h1 c1
  | true =>
    wtm_at "go"
    refine k_is_whole ?_
    cases c2 : isWhole p 1 6 with
    | false =>
      wtm_at "go"
      exact h2 c1 c2
    | true =>
      wtm_at "go"
      refine k_is_rule ?_
      cases c3 : ruleB r with
      | false =>
        wtm_at "go"
        exact h3 c1 c2 c3
      | true =>
        wtm_at "go"
        exact h c1 c2 c3
theorem k_need_ok {N stay : Nat} {ws : List Str} (S : SheetOk ws) (n2 : 2 ≤ N) (n5 : N ≤ 5) (s1 : 1 ≤ stay) (s6 : stay ≤ 6) (h : Q (.dat .none) [.dat (.int (N : Nat)), .dat (.int (stay : Nat)), .dat (sheetD ws)] n) : d_need_lift K [.dat (.int (N : Nat)), .dat (.int (stay : Nat)), .dat (sheetD ws)] n Q X := by
  have e1 : isWhole (.int (N : Int)) 2 8 = true := by
    show (decide ((2 : Int) ≤ (N : Int)) && decide ((N : Int) ≤ 8)) = true
    rw [decide_eq_true (by omega), decide_eq_true (by omega)]
    rfl
  have e2 : isWhole (.int (stay : Int)) 1 6 = true := by
    show (decide ((1 : Int) ≤ (stay : Int)) && decide ((stay : Int) ≤ 6)) = true
    rw [decide_eq_true (by omega), decide_eq_true (by omega)]
    rfl
  have e3 := sheet_rule S
  exact k_need_lift (fun _ _ _ => h) (fun z => by rw [e1] at z; cases z) (fun _ z => by rw [e2] at z; cases z) (fun _ _ z => by rw [e3] at z; cases z)
theorem k_lift_standings {N stay : Nat} {ws : List Str} (S : SheetOk ws) (n2 : 2 ≤ N) (n5 : N ≤ 5) (s1 : 1 ≤ stay) (s6 : stay ≤ 6)
    (h : ∀ k, EndAt N stay ws k → Q (.dat (.list ((walkZ N stay ws k).1.map sD))) [.dat (.int (N : Nat)), .dat (.int (stay : Nat)), .dat (sheetD ws)] n) :
    d_lift_standings K [.dat (.int (N : Nat)), .dat (.int (stay : Nat)), .dat (sheetD ws)] n Q X := by
  unfold d_lift_standings b_lift_standings
  wtm_at "in"
  wtm_at "go"
  refine k_need_ok S n2 n5 s1 s6 ?_
  wtm_at "go"
  refine k_walked S (by omega) n5 s1 s6 fun k hk => ?_
  wtm_at "go"
  exact h k hk
theorem k_lift_web {N stay : Nat} {ws : List Str} (S : SheetOk ws) (n2 : 2 ≤ N) (n5 : N ≤ 5) (s1 : 1 ≤ stay) (s6 : stay ≤ 6)
    (h : ∀ k, EndAt N stay ws k → Q (.dat (webZ N (walkZ N stay ws k).2)) [.dat (.int (N : Nat)), .dat (.int (stay : Nat)), .dat (sheetD ws)] n) :
    d_lift_web K [.dat (.int (N : Nat)), .dat (.int (stay : Nat)), .dat (sheetD ws)] n Q X := by
  unfold d_lift_web b_lift_web
  wtm_at "in"
  wtm_at "go"
  refine k_need_ok S n2 n5 s1 s6 ?_
  wtm_at "go"
  refine k_walked S (by omega) n5 s1 s6 fun k hk => ?_
  wtm_at "go"
  have ok := walk_ok (n := N) (stay := stay) (ws := ws) (by omega) (show (1 : Int) ≤ stay by omega) k
  have fl := fok_len ok n5 s6
  refine k_web_walked n5 (by rw [rows_len k hk.b]; have := hk.e; omega) ?_
  wtm_at "go"
  exact h k hk
theorem k_lift_web_bad {f p r : PyData} (h1 : isWhole f 2 8 = true) (h2 : isWhole p 1 6 = false) (h : X (He.ga K "BadStay", []) [.dat f, .dat p, .dat r] n) : d_lift_web K [.dat f, .dat p, .dat r] n Q X := by
  unfold d_lift_web b_lift_web
  wtm_at "in"
  wtm_at "go"
  refine k_need_lift (fun _ z => ?_) (fun z => ?_) (fun _ _ => ?_) (fun _ z => ?_)
  · rw [h2] at z; cases z
  · rw [h1] at z; cases z
  · wtm_at "go"
    exact h
  · rw [h2] at z; cases z
theorem k_lift_standings_bad {f p r : PyData} (h1 : isWhole f 2 8 = true) (h2 : isWhole p 1 6 = true) (h3 : ruleB r = false) (h : X (He.ga K "BadRule", []) [.dat f, .dat p, .dat r] n) : d_lift_standings K [.dat f, .dat p, .dat r] n Q X := by
  unfold d_lift_standings b_lift_standings
  wtm_at "in"
  wtm_at "go"
  refine k_need_lift (fun _ _ z => ?_) (fun z => ?_) (fun _ z => ?_) (fun _ _ _ => ?_)
  · rw [h3] at z; cases z
  · rw [h1] at z; cases z
  · rw [h2] at z; cases z
  · wtm_at "go"
    exact h
end
end K48

/-! part L12 -/
namespace K48
open PySem PySem.Spec PyProof.Rows L2 Evl Lk LamX Mk
/-! ### standings judged -/
def ltI : PyData → Bool
  | .tuple [.int a, .int b] => decide (a < b)
  | _ => false
def stB4 (n stay : Int) (a b c : PyData) : PyData → Bool
  | .tuple ls => isWhole a 0 (n - 1) && isWhole b 0 1 && isWhole c 0 stay && (ls.all fun x => isWhole x 0 (n - 1)) && (zipD ls (ls.drop 1)).all ltI
  | _ => false
def stB (n stay : Int) : PyData → Bool
  | .tuple [a, b, c, e] => stB4 n stay a b c e
  | _ => false
theorem cut_one {ds : List PyData} : Mk.cutD ds (some 1) none = ds.drop 1 := by
  cases ds with
  | nil => rfl
  | cons d ds =>
    unfold Mk.cutD
    have e1 : HT.sIx (d :: ds).length 0 (some ((1 : Nat) : Int)) = min 1 (d :: ds).length := HT.sIx_nat ..
    have e3 : HT.sIx (d :: ds).length 0 (some 1) = 1 := by
      rw [show (1 : Int) = ((1 : Nat) : Int) from rfl, e1, List.length_cons]
      omega
    rw [e3, HT.sIx_none]
    refine List.take_of_length_le ?_
    rw [List.length_drop]
    exact Nat.le_refl _
theorem zip_up : ∀ {xs : List Int}, xs.Pairwise (· < ·) → (zipD (xs.map PyData.int) ((xs.map PyData.int).drop 1)).all ltI = true
  | [], _ => by simp [zipD]
  | [x], _ => by simp [zipD]
  | x :: y :: r, h => by
    obtain ⟨h1, h2⟩ := List.pairwise_cons.mp h
    have ih := zip_up h2
    have e : zipD ((x :: y :: r).map PyData.int) (((x :: y :: r).map PyData.int).drop 1) = .tuple [.int x, .int y] :: zipD ((y :: r).map PyData.int) (((y :: r).map PyData.int).drop 1) := rfl
    have e2 : ltI (.tuple [.int x, .int y]) = decide (x < y) := rfl
    rw [e, List.all_cons, Bool.and_eq_true, ih, e2, decide_eq_true_eq]
    exact ⟨h1 y List.mem_cons_self, rfl⟩
theorem whole_of {x lo hi : Int} (h0 : lo ≤ x) (h1 : x ≤ hi) : isWhole (.int x) lo hi = true := by
  show (decide (lo ≤ x) && decide (x ≤ hi)) = true
  rw [decide_eq_true h0, decide_eq_true h1]
  rfl
theorem st_good {n stay : Int} {s : Sd} (h : StOk n stay s) : stB n stay (sD s) = true := by
  have w := h.w
  have f1 := h.f1
  show (isWhole (.int s.f) 0 (n - 1) && isWhole (.int s.w) 0 1 && isWhole (.int s.l) 0 stay && ((s.lit.map PyData.int).all fun x => isWhole x 0 (n - 1)) && (zipD (s.lit.map PyData.int) ((s.lit.map PyData.int).drop 1)).all ltI) = true
  rw [whole_of h.f0 (by omega), whole_of (by omega) (by omega), whole_of h.l0 h.l1, zip_up h.up, Bool.and_true, Bool.true_and, Bool.true_and, Bool.true_and, List.all_eq_true]
  intro d hd
  obtain ⟨x, hx, rfl⟩ := List.mem_map.mp hd
  have q := h.li x hx
  exact whole_of q.1 (by omega)
section
variable {K : PySem.W.Frag} {n : Nat} {Q : O → List O → Nat → Prop} {X : Exn → List O → Nat → Prop}
theorem k_is_lift_standing {f stay : Int} {d : PyData} (hb : ∀ a b c ls, d = .tuple [a, b, c, .tuple ls] → ls.length ≤ 100) (h : Q (.dat (.bool (stB f stay d))) [.dat (.int f), .dat (.int stay), .dat d] n) : d_is_lift_standing K [.dat (.int f), .dat (.int stay), .dat d] n Q X := by
  unfold d_is_lift_standing b_is_lift_standing
  cases d with
  | tuple ds =>
    by_cases c : ds.length = 4
    · match ds, c, hb, h with
      | [a, b, c, e], _, hb, h =>
        cases e with
        | tuple ls =>
          have hl := hb a b c ls rfl
          have es : stB f stay (.tuple [a, b, c, .tuple ls]) = (isWhole a 0 (f - 1) && isWhole b 0 1 && isWhole c 0 stay && (ls.all fun x => isWhole x 0 (f - 1)) && (zipD ls (ls.drop 1)).all ltI) := rfl
          rw [es] at h
          wtm_at "in"
          wtm_at "go"
          refine k_is_whole ?_
          cases c1 : isWhole a 0 (f - 1) with
          | false =>
            wtm_at "go"
            exact x_fin h (by rw [c1]; rfl)
          | true =>
            wtm_at "go"
            refine k_is_whole ?_
            cases c2 : isWhole b 0 1 with
            | false =>
              wtm_at "go"
              exact x_fin h (by rw [c1, c2]; rfl)
            | true =>
              wtm_at "go"
              refine k_is_whole ?_
              cases c3 : isWhole c 0 stay with
              | false =>
                wtm_at "go"
                exact x_fin h (by rw [c1, c2, c3]; rfl)
              | true =>
                rw [c1, c2, c3, Bool.true_and, Bool.true_and, Bool.true_and] at h
                wtm_at "go"
                refine x_lcD (fun d => .bool (isWhole d 0 (f - 1))) (by omega) (fun d hd A hA => ?_) ?_
                · wtm_at "go"
                  refine k_is_whole ?_
                  wtm_at "go"
                  exact hA
                wtm_at "go"
                rw [all_map']
                cases c4 : ls.all fun x => isWhole x 0 (f - 1) with
                | false =>
                  wtm_at "go"
                  exact x_fin h (by rw [c4]; rfl)
                | true =>
                  have hw := List.all_eq_true.mp c4
                  rw [c4, Bool.true_and] at h
                  wtm_at "go"
                  rw [cut_one]
                  refine x_lcD (fun d => .bool (ltI d)) (by rw [zipD_len]; omega) (fun d hd A hA => ?_) ?_
                  · obtain ⟨x, y, hx, hy, rfl⟩ := zip_mem hd
                    obtain ⟨i, rfl, _⟩ := isWhole_int (hw x hx)
                    obtain ⟨j, rfl, _⟩ := isWhole_int (hw y (List.mem_of_mem_drop hy))
                    wtm_at "go"
                    exact hA
                  wtm_at "go"
                  rw [all_map']
                  exact h
        | _ =>
          wtm_at "in"
          wtm_at "go"
          exact h
    · have es : stB f stay (.tuple ds) = false := by
        match ds, c with
        | [], _ => rfl
        | [_], _ => rfl
        | [_, _], _ => rfl
        | [_, _, _], _ => rfl
        | [_, _, _, _], c => exact absurd rfl c
        | _ :: _ :: _ :: _ :: _ :: _, _ => rfl
      rw [es] at h
      wtm_at "in"
      wtm_at "go"
      rw [decide_eq_false (show ¬ (ds.length : Int) = 4 by omega)]
      wtm_at "go"
      exact h
  | _ =>
    wtm_at "in"
    wtm_at "go"
    exact h
theorem k_sig_tick {f : Int} (h : Q (.dat (.bool true)) [.dat (.int f), .dat tickD] n) : d_is_lift_signal K [.dat (.int f), .dat tickD] n Q X := by
  unfold d_is_lift_signal b_is_lift_signal
  wtm_at "in"
  wtm_at "go"
  exact h
theorem k_sig_call {f j : Int} (h0 : 0 ≤ j) (h1 : j < f) (h : Q (.dat (.bool true)) [.dat (.int f), .dat (callD j)] n) : d_is_lift_signal K [.dat (.int f), .dat (callD j)] n Q X := by
  unfold d_is_lift_signal b_is_lift_signal
  wtm_at "in"
  wtm_at "go"
  refine x_fEq call_sh tick_sh ?_
  rw [eq_ct]
  wtm_at "go"
  refine k_is_whole ?_
  rw [whole_of h0 (by omega)]
  wtm_at "go"
  exact h
def BadSig (f : Int) (d : PyData) : Prop := d = .none ∨ d = .tuple [] ∨ d = .tuple [.str "call"] ∨ d = callD f ∨ d = callD (-1) ∨ d = .tuple [.str "call", .bool true] ∨ d = .tuple [.str "tick", .int 0] ∨ d = .str "tick" ∨ d = .tuple [.str "button", .int 0] ∨ d = .list [.str "tick"]
theorem k_sig_bad {f : Int} {d : PyData} (hd : BadSig f d) (h : Q (.dat (.bool false)) [.dat (.int f), .dat d] n) : d_is_lift_signal K [.dat (.int f), .dat d] n Q X := by
  unfold d_is_lift_signal b_is_lift_signal
  rcases hd with rfl | rfl | rfl | rfl | rfl | rfl | rfl | rfl | rfl | rfl
  · wtm_at "in"
    wtm_at "go"
    exact h
  · wtm_at "in"
    wtm_at "go"
    exact h
  · wtm_at "in"
    wtm_at "go"
    exact h
  · have e : isWhole (.int f) 0 (f - 1) = false := by
      show (decide ((0 : Int) ≤ f) && decide (f ≤ f - 1)) = false
      rw [decide_eq_false (show ¬ f ≤ f - 1 by omega), Bool.and_false]
    wtm_at "in"
    wtm_at "go"
    refine x_fEq call_sh tick_sh ?_
    rw [eq_ct]
    wtm_at "go"
    refine k_is_whole ?_
    rw [e]
    wtm_at "go"
    exact h
  · wtm_at "in"
    wtm_at "go"
    refine k_is_whole ?_
    wtm_at "go"
    exact h
  · wtm_at "in"
    wtm_at "go"
    refine k_is_whole ?_
    wtm_at "go"
    exact h
  · wtm_at "in"
    wtm_at "go"
    exact h
  · wtm_at "in"
    wtm_at "go"
    exact h
  · wtm_at "in"
    wtm_at "go"
    exact h
  · wtm_at "in"
    wtm_at "go"
    exact h
end
end K48

/-! part L13 -/
namespace K48
open PySem PySem.Spec PyProof.Rows L2 Evl Lk LamX Mk
/-! ### one step -/
section
variable {K : PySem.W.Frag} {n : Nat} {Q : O → List O → Nat → Prop} {X : Exn → List O → Nat → Prop}
theorem k_lift_step {N stay i : Nat} {ws : List Str} {s x : Sd} {d : PyData} (S : SheetOk ws) (n2 : 2 ≤ N) (n5 : N ≤ 5) (s1 : 1 ≤ stay) (s6 : stay ≤ 6) (hs : StOk N stay s) (e1 : (sigsD N)[i]? = some d) (e2 : (latersZ N stay ws s)[i]? = some x) (h : Q (.dat (sD x)) [.dat (.int N), .dat (.int stay), .dat (sheetD ws), .dat (sD s), .dat d] n) :
    d_lift_step K [.dat (.int N), .dat (.int stay), .dat (sheetD ws), .dat (sD s), .dat d] n Q X := by
  have ll := lit_len hs n5
  have hi : i < N + 1 := by
    have := (List.getElem?_eq_some_iff.mp e1).1
    rw [sigs_len] at this
    exact this
  have hsig : ∀ {n' : Nat} {Q' : O → List O → Nat → Prop} {X' : Exn → List O → Nat → Prop}, Q' (.dat (.bool true)) [.dat (.int N), .dat d] n' → d_is_lift_signal K [.dat (.int N), .dat d] n' Q' X' := fun {n' Q' X'} q => by
    by_cases c : i < N
    · rw [sig_at c] at e1
      cases e1
      exact k_sig_call (by omega) (by omega) q
    · obtain rfl : i = N := by omega
      rw [sig_end] at e1
      cases e1
      exact k_sig_tick q
  have eg := st_good hs
  unfold d_lift_step b_lift_step
  wtm_at "in"
  wtm_at "go"
  refine k_need_ok S n2 n5 s1 s6 ?_
  wtm_at "go"
  refine k_is_lift_standing (fun a b c ls e => ?_) ?_
  · have e3 := (List.cons.inj (List.cons.inj (List.cons.inj (List.cons.inj (PyData.tuple.inj e)).2).2).2).1
    rw [← PyData.tuple.inj e3, List.length_map]
    omega
  rw [eg]
  wtm_at "go"
  refine hsig ?_
  wtm_at "go"
  refine k_behind S n5 hs e1 e2 ?_
  wtm_at "go"
  exact h
theorem k_lift_step_floors {f p r a b : PyData} (h1 : isWhole f 2 8 = false) (h : X (He.ga K "BadFloors", []) [.dat f, .dat p, .dat r, .dat a, .dat b] n) : d_lift_step K [.dat f, .dat p, .dat r, .dat a, .dat b] n Q X := by
  unfold d_lift_step b_lift_step
  wtm_at "in"
  wtm_at "go"
  refine k_need_lift (fun z => ?_) (fun _ => ?_) (fun z => ?_) (fun z => ?_)
  · rw [h1] at z; cases z
  · wtm_at "go"
    exact h
  · rw [h1] at z; cases z
  · rw [h1] at z; cases z
theorem k_lift_step_standing {N stay : Nat} {ws : List Str} {d b : PyData} (S : SheetOk ws) (n2 : 2 ≤ N) (n5 : N ≤ 5) (s1 : 1 ≤ stay) (s6 : stay ≤ 6) (hb : ∀ a b c ls, d = .tuple [a, b, c, .tuple ls] → ls.length ≤ 100) (hd : stB N stay d = false) (h : X (He.ga K "BadStanding", []) [.dat (.int N), .dat (.int stay), .dat (sheetD ws), .dat d, .dat b] n) :
    d_lift_step K [.dat (.int N), .dat (.int stay), .dat (sheetD ws), .dat d, .dat b] n Q X := by
  unfold d_lift_step b_lift_step
  wtm_at "in"
  wtm_at "go"
  refine k_need_ok S n2 n5 s1 s6 ?_
  wtm_at "go"
  refine k_is_lift_standing hb ?_
  rw [hd]
  wtm_at "go"
  exact h
theorem k_lift_step_signal {N stay : Nat} {ws : List Str} {s : Sd} {d : PyData} (S : SheetOk ws) (n2 : 2 ≤ N) (n5 : N ≤ 5) (s1 : 1 ≤ stay) (s6 : stay ≤ 6) (hs : StOk N stay s) (hd : BadSig N d) (h : X (He.ga K "BadSignal", []) [.dat (.int N), .dat (.int stay), .dat (sheetD ws), .dat (sD s), .dat d] n) :
    d_lift_step K [.dat (.int N), .dat (.int stay), .dat (sheetD ws), .dat (sD s), .dat d] n Q X := by
  have ll := lit_len hs n5
  have eg := st_good hs
  unfold d_lift_step b_lift_step
  wtm_at "in"
  wtm_at "go"
  refine k_need_ok S n2 n5 s1 s6 ?_
  wtm_at "go"
  refine k_is_lift_standing (fun a b c ls e => ?_) ?_
  · have e3 := (List.cons.inj (List.cons.inj (List.cons.inj (List.cons.inj (PyData.tuple.inj e)).2).2).2).1
    rw [← PyData.tuple.inj e3, List.length_map]
    omega
  rw [eg]
  wtm_at "go"
  refine k_sig_bad hd ?_
  wtm_at "go"
  exact h
end
/-! what is compared -/
theorem st_sh {s : Sd} : Sh (sD s) := by
  have h1 : Sh (litD s.lit) := ⟨by rw [PyData.canLay0]; exact lay_all fun d hd => (ints_sh d hd).1, by
    have h : PyData.depthAll (s.lit.map PyData.int) ≤ 1 := dep_all fun d hd => by
      obtain ⟨x, _, rfl⟩ := List.mem_map.mp hd
      simp only [PyData.depth]
      omega
    simp only [PyData.depth]
    omega⟩
  have h2 : (litD s.lit).depth ≤ 3 := by
    have h : PyData.depthAll (s.lit.map PyData.int) ≤ 1 := dep_all fun d hd => by
      obtain ⟨x, _, rfl⟩ := List.mem_map.mp hd
      simp only [PyData.depth]
      omega
    simp only [PyData.depth]
    omega
  refine ⟨by
    rw [PyData.canLay0]
    refine lay_all fun d hd => ?_
    simp only [List.mem_cons, List.not_mem_nil, or_false] at hd
    rcases hd with rfl | rfl | rfl | rfl
    · rfl
    · rfl
    · rfl
    · exact h1.1, ?_⟩
  have h : PyData.depthAll [.int s.f, .int s.w, .int s.l, litD s.lit] ≤ 3 := dep_all fun d hd => by
    simp only [List.mem_cons, List.not_mem_nil, or_false] at hd
    rcases hd with rfl | rfl | rfl | rfl
    · simp only [PyData.depth]; omega
    · simp only [PyData.depth]; omega
    · simp only [PyData.depth]; omega
    · exact h2
  have e : (sD s).depth = PyData.depthAll [.int s.f, .int s.w, .int s.l, litD s.lit] + 1 := by simp only [PyData.depth]
  omega
theorem eqd_rf {d : PyData} (h : SeqAt.shaped d = true) : eqd d d = true := by
  have h' : d.canLay0 = true := by
    unfold SeqAt.shaped at h
    rw [Bool.and_eq_true] at h
    exact h.1
  exact SeqAt.eqv_refl d h'
end K48

/-! part L14 -/
namespace K48
open PySem PySem.Spec PyProof.Rows L2 Evl Lk LamX Mk
/-! ### a row of signals along the web -/
section
variable {N : Nat} {stay : Int} {ws : List Str}
theorem rows_at : ∀ k, (∀ j, j < k → j < (walkZ N stay ws j).1.length) → ∀ i, i < k → ∃ s, (walkZ N stay ws k).1[i]? = some s ∧ (∀ x ∈ latersZ N stay ws s, x ∈ (walkZ N stay ws k).1) ∧ (walkZ N stay ws k).2[i]? = some ((latersZ N stay ws s).map (ixOf (walkZ N stay ws k).1))
  | 0, _, i, hi => by omega
  | k + 1, h, i, hi => by
    have c := h k (by omega)
    have rl := rows_len k fun j hj => h j (by omega)
    have wn := walk_next (List.getElem?_eq_getElem c)
    rw [wn]
    dsimp only
    obtain ⟨m, em⟩ := adds_pre (latersZ N stay ws (walkZ N stay ws k).1[k]) (walkZ N stay ws k).1
    by_cases ik : i < k
    · obtain ⟨s, e1, e2, e3⟩ := rows_at k (fun j hj => h j (by omega)) i ik
      have il := (List.getElem?_eq_some_iff.mp e1).1
      refine ⟨s, ?_, fun x hx => ?_, ?_⟩
      · rw [em, List.getElem?_append_left il]
        exact e1
      · rw [em]
        exact List.mem_append_left _ (e2 x hx)
      · rw [List.getElem?_append_left (by omega), e3]
        congr 1
        refine List.map_congr_left fun x hx => ?_
        rw [em, ix_pre (e2 x hx)]
    · obtain rfl : i = k := by omega
      refine ⟨(walkZ N stay ws i).1[i], ?_, fun x hx => adds_in hx, ?_⟩
      · rw [em, List.getElem?_append_left c]
        exact List.getElem?_eq_getElem c
      · rw [List.getElem?_append_right (by omega), rl, Nat.sub_self]
        rfl
end
theorem ix_at : ∀ {F : List Sd} {x : Sd}, x ∈ F → F[ixOf F x]? = some x
  | s :: F, x, h => by
    unfold ixOf
    rw [List.idxOf_cons]
    by_cases e : s = x
    · rw [beq_iff_eq.mpr e, e]
      rfl
    · rw [beq_false_of_ne e]
      have m : x ∈ F := (List.mem_cons.mp h).elim (fun z => absurd z.symm e) id
      exact ix_at m
def keepM (d : PyData) : PyData → Bool
  | .tuple [l, _, _, _] => eqd l d
  | _ => false
def goalM : PyData → PyData
  | .tuple [_, _, _, v] => v
  | _ => .none
theorem pick_none {d : PyData} : ∀ {ds : List PyData} {r : List Nat}, (∀ e ∈ ds, eqd e d = false) → (List.zipWith movD ds r).filter (keepM d) = []
  | [], r, _ => by rw [List.zipWith_nil_left]; rfl
  | e :: ds, [], _ => rfl
  | e :: ds, i :: r, h => by
    have k : keepM d (movD e i) = false := h e List.mem_cons_self
    rw [List.zipWith_cons_cons, List.filter_cons_of_neg (by rw [k]; exact Bool.false_ne_true)]
    exact pick_none fun z hz => h z (List.mem_cons_of_mem _ hz)
theorem pick_one {d : PyData} : ∀ {ds : List PyData} {r : List Nat} {q z : Nat}, (∀ j e, ds[j]? = some e → eqd e d = decide (j = q)) → r[q]? = some z → q < ds.length → ((List.zipWith movD ds r).filter (keepM d)).map goalM = [.int (z : Int)]
  | [], r, q, z, _, _, hq => absurd hq (Nat.not_lt_zero _)
  | e :: ds, [], q, z, _, hr, _ => by cases hr
  | e :: ds, i :: r, 0, z, h, hr, _ => by
    have k : keepM d (movD e i) = true := h 0 e rfl
    cases hr
    rw [List.zipWith_cons_cons, List.filter_cons_of_pos k, pick_none fun y hy => by
      obtain ⟨j, hj⟩ := List.getElem?_of_mem hy
      exact h (j + 1) y hj]
    rfl
  | e :: ds, i :: r, q + 1, z, h, hr, hq => by
    have k : keepM d (movD e i) = false := h 0 e rfl
    rw [List.zipWith_cons_cons, List.filter_cons_of_neg (by rw [k]; exact Bool.false_ne_true)]
    refine pick_one (fun j y hy => ?_) hr (Nat.lt_of_succ_lt_succ hq)
    rw [h (j + 1) y hy]
    exact decide_eq_decide.mpr Nat.succ_inj
theorem eq_cc {i j : Int} : eqd (callD i) (callD j) = decide (i = j) := by
  have e : eqd (callD i) (callD j) = (true && ((i == j) && true)) := rfl
  rw [e, Bool.true_and, Bool.and_true, Bool.eq_iff_iff, decide_eq_true_eq, beq_iff_eq]
theorem sig_eq {N j q : Nat} {e d : PyData} (h1 : (sigsD N)[j]? = some e) (h2 : (sigsD N)[q]? = some d) : eqd e d = decide (j = q) := by
  have l1 := (List.getElem?_eq_some_iff.mp h1).1
  have l2 := (List.getElem?_eq_some_iff.mp h2).1
  rw [sigs_len] at l1 l2
  by_cases c1 : j < N
  · rw [sig_at c1] at h1
    cases h1
    by_cases c2 : q < N
    · rw [sig_at c2] at h2
      cases h2
      rw [eq_cc]
      exact decide_eq_decide.mpr ⟨fun z => by omega, fun z => by omega⟩
    · obtain rfl : q = N := by omega
      rw [sig_end] at h2
      cases h2
      rw [eq_ct, decide_eq_false (by omega)]
  · obtain rfl : j = N := by omega
    rw [sig_end] at h1
    cases h1
    by_cases c2 : q < j
    · rw [sig_at c2] at h2
      cases h2
      rw [eq_tc, decide_eq_false (by omega)]
    · obtain rfl : q = j := by omega
      rw [sig_end] at h2
      cases h2
      rw [eq_tt, decide_eq_true rfl]
theorem sig_sh {N : Nat} {d : PyData} (h : d ∈ sigsD N) : SeqAt.shaped d = true := by
  rcases sig_in h with rfl | ⟨j, _, rfl⟩
  · exact tick_sh
  · exact call_sh
section
variable {K : PySem.W.Frag} {n : Nat} {Q : O → List O → Nat → Prop} {X : Exn → List O → Nat → Prop}
set_option maxHeartbeats 4000000 in
theorem k__law_row_right {N stay k : Nat} {ws : List Str} (S : SheetOk ws) (n2 : 2 ≤ N) (n5 : N ≤ 5) (s1 : 1 ≤ stay) (s6 : stay ≤ 6) (E : EndAt N stay ws k) (hn : n < 100000000) (h : ∀ m, m ≤ n + 80 → Q (.dat (.bool true)) [.st, .dat (.int N), .dat (.int stay), .dat (sheetD ws), .dat (webZ N (walkZ N stay ws k).2)] m) :
    d__law_row_right K [.st, .dat (.int N), .dat (.int stay), .dat (sheetD ws), .dat (webZ N (walkZ N stay ws k).2)] n Q X := by
  have ok := walk_ok (n := N) (stay := stay) (ws := ws) (by omega) (show (1 : Int) ≤ stay by omega) k
  have fl := fok_len ok n5 s6
  have rat := rows_at k E.b
  have el := E.e
  have f0 : (walkZ N stay ws k).1[0]? = some ⟨0, 0, 0, []⟩ := by
    have : ∀ k, (walkZ N stay ws k).1[0]? = some ⟨0, 0, 0, []⟩ := fun k => by
      induction k with
      | zero => rfl
      | succ k ih =>
        rw [walkZ]
        split
        · exact ih
        · rename_i s e
          obtain ⟨m, em⟩ := adds_pre (latersZ N stay ws s) (walkZ N stay ws k).1
          dsimp only
          rw [em, List.getElem?_append_left (List.getElem?_eq_some_iff.mp ih).1]
          exact ih
    exact this k
  unfold d__law_row_right b__law_row_right
  wtm_at "in"
  wtm_at "go"
  refine k_lift_standings S n2 n5 s1 s6 fun k' hk' => ?_
  obtain rfl := end_one hk' E
  generalize eF : (walkZ N stay ws k').1 = F at *
  generalize eR : (walkZ N stay ws k').2 = R at *
  unfold webZ at h ⊢
  wtm_at "go"
  refine x_forI (fun r s => ∃ (m i : Nat) (sz : Sd) (u8 u9 : Option O), s = ⟨[some .st, some (.dat (.int N)), some (.dat (.int stay)), some (.dat (sheetD ws)), some (.dat (.tuple [.str "web", .tuple [.int 0], .tuple (R.map (rowT N))])), some (.dat (.list (F.map sD))), some (.dat (sD sz)), some (.dat (.int (i : Nat))), u8, u9, none], m, [0]⟩ ∧ F[i]? = some sz ∧ m + 2 * r.length ≤ n + 80) ?_ ?_ ⟨n, 0, ⟨0, 0, 0, []⟩, none, none, rfl, f0, by simp [Mk.intsFrom]⟩
  · rintro d r s M ⟨m, i, sz, u8, u9, rfl, es, hm⟩ hN
    rw [List.length_cons] at hm
    have il := (List.getElem?_eq_some_iff.mp es).1
    obtain ⟨s', e1, e2, e3⟩ := rat i (by omega)
    rw [es] at e1
    obtain rfl := Option.some.inj e1
    have hso := ok.ok sz (List.mem_of_getElem? es)
    have ea : atI (R.map (rowT N)) (i : Int) = some (rowT N ((latersZ N stay ws sz).map (ixOf F))) := atI_nat (by rw [List.getElem?_map, e3]; rfl)
    have e3j : ∀ q x, (latersZ N stay ws sz)[q]? = some x → ((latersZ N stay ws sz).map (ixOf F))[q]? = some (ixOf F x) := fun q x hx => by rw [List.getElem?_map, hx]; rfl
    unfold rowT at ea
    wtm_at "go"
    refine k_draw (by omega) (by decide +kernel) (show m < far by unfold far; omega) fun i0 i00 i01 => ?_
    wtm_at "bk"
    cases c0 : decide (i0 = 0) with
    | true =>
      wtm_at "go"
      have eq1 : (sigsD N)[N]? = some tickD := sig_end
      have eq2 : (latersZ N stay ws sz)[N]? = some (tickZ N stay ws sz) := lat_end
      refine k_lift_step S n2 n5 s1 s6 hso eq1 eq2 ?_
      wtm_at "go"
      have hj := e3j N _ eq2
      wtm_at "go"
      refine x_lcDM (keepM tickD) goalM (by rw [List.length_zipWith, sigs_len]; omega) (fun p hp A B hA hB => ?_) ?_
      · obtain ⟨e, he, j, hj, rfl⟩ := zw_in hp
        have ek : keepM tickD (movD e j) = eqd e tickD := rfl
        rw [ek] at hA hB
        wtm_at "go"
        refine x_fEq (sig_sh he) (sig_sh (List.mem_of_getElem? eq1)) ?_
        cases c : eqd e tickD with
        | true =>
          wtm_at "go"
          exact hA c
        | false =>
          wtm_at "go"
          exact hB c
      rw [pick_one (fun j e he => sig_eq he eq1) hj (by rw [sigs_len]; omega)]
      wtm_at "go"
      have hx := e2 _ (List.mem_of_getElem? eq2)
      have ef : F[ixOf F (tickZ N stay ws sz)]? = some (tickZ N stay ws sz) := by
        exact ix_at hx
      have ea2 : atI (F.map sD) ((ixOf F (tickZ N stay ws sz) : Nat) : Int) = some (sD (tickZ N stay ws sz)) := atI_nat (by rw [List.getElem?_map, ef]; rfl)
      wtm_at "go"
      refine x_fNe st_sh.sh st_sh.sh ?_
      rw [eqd_rf st_sh.sh]
      wtm_at "go"
      exact hN _ ⟨_, ixOf F (tickZ N stay ws sz), (tickZ N stay ws sz), _, _, rfl, ef, by omega⟩
    | false =>
      wtm_at "go"
      refine k_draw (by omega) (log2_int (by omega) (by omega)) (show m + 1 < far by unfold far; omega) fun j0 j00 j01 => ?_
      wtm_at "bk"
      obtain ⟨jn, rfl⟩ : ∃ j : Nat, j0 = (j : Int) := ⟨j0.toNat, by omega⟩
      wtm_at "go"
      have eq1 : (sigsD N)[jn]? = some (callD (jn : Int)) := sig_at (by omega)
      have eq2 : (latersZ N stay ws sz)[jn]? = some (callZ sz (jn : Int)) := lat_at (by omega)
      refine k_lift_step S n2 n5 s1 s6 hso eq1 eq2 ?_
      wtm_at "go"
      have hj := e3j jn _ eq2
      wtm_at "go"
      refine x_lcDM (keepM (callD (jn : Int))) goalM (by rw [List.length_zipWith, sigs_len]; omega) (fun p hp A B hA hB => ?_) ?_
      · obtain ⟨e, he, j, hj, rfl⟩ := zw_in hp
        have ek : keepM (callD (jn : Int)) (movD e j) = eqd e (callD (jn : Int)) := rfl
        rw [ek] at hA hB
        wtm_at "go"
        refine x_fEq (sig_sh he) (sig_sh (List.mem_of_getElem? eq1)) ?_
        cases c : eqd e (callD (jn : Int)) with
        | true =>
          wtm_at "go"
          exact hA c
        | false =>
          wtm_at "go"
          exact hB c
      rw [pick_one (fun j e he => sig_eq he eq1) hj (by rw [sigs_len]; omega)]
      wtm_at "go"
      have hx := e2 _ (List.mem_of_getElem? eq2)
      have ef : F[ixOf F (callZ sz (jn : Int))]? = some (callZ sz (jn : Int)) := by
        exact ix_at hx
      have ea2 : atI (F.map sD) ((ixOf F (callZ sz (jn : Int)) : Nat) : Int) = some (sD (callZ sz (jn : Int))) := atI_nat (by rw [List.getElem?_map, ef]; rfl)
      wtm_at "go"
      refine x_fNe st_sh.sh st_sh.sh ?_
      rw [eqd_rf st_sh.sh]
      wtm_at "go"
      exact hN _ ⟨_, ixOf F (callZ sz (jn : Int)), (callZ sz (jn : Int)), _, _, rfl, ef, by omega⟩
  · rintro s ⟨m, i, sz, u8, u9, rfl, es, hm⟩
    wtm_at "go"
    exact h _ (by simpa using hm)
end
end K48

/-! part L15 -/
namespace K48
open PySem PySem.Spec PyProof.Rows L2 Evl Lk LamX Mk
/-! ### what is refused -/
section
variable {K : PySem.W.Frag}
theorem wh_floors (x : Xf K) : whichM K (He.ga K "BadFloors") "floors" (hsR K) := ⟨true, x.h_BadFloors_BadFloors, fun _ => rfl, fun z => by cases z⟩
theorem wh_stay (x : Xf K) : whichM K (He.ga K "BadStay") "stay" (hsR K) := ⟨false, x.h_BadStay_BadFloors, (fun z => by cases z), fun _ => ⟨true, x.h_BadStay_BadStay, fun _ => rfl, fun z => by cases z⟩⟩
theorem wh_rule (x : Xf K) : whichM K (He.ga K "BadRule") "rule" (hsR K) := ⟨false, x.h_BadRule_BadFloors, (fun z => by cases z), fun _ => ⟨false, x.h_BadRule_BadStay, (fun z => by cases z), fun _ => ⟨true, x.h_BadRule_BadRule, fun _ => rfl, fun z => by cases z⟩⟩⟩
theorem wh_standing (x : Xf K) : whichM K (He.ga K "BadStanding") "standing" (hsR K) := ⟨false, x.h_BadStanding_BadFloors, (fun z => by cases z), fun _ => ⟨false, x.h_BadStanding_BadStay, (fun z => by cases z), fun _ => ⟨false, x.h_BadStanding_BadRule, (fun z => by cases z), fun _ => ⟨true, x.h_BadStanding_BadStanding, fun _ => rfl, fun z => by cases z⟩⟩⟩⟩
theorem wh_signal (x : Xf K) : whichM K (He.ga K "BadSignal") "signal" (hsR K) := ⟨false, x.h_BadSignal_BadFloors, (fun z => by cases z), fun _ => ⟨false, x.h_BadSignal_BadStay, (fun z => by cases z), fun _ => ⟨false, x.h_BadSignal_BadRule, (fun z => by cases z), fun _ => ⟨false, x.h_BadSignal_BadStanding, (fun z => by cases z), fun _ => ⟨true, x.h_BadSignal_BadSignal, fun _ => rfl, fun z => by cases z⟩⟩⟩⟩⟩
end
section
variable {K : PySem.W.Frag} {n : Nat} {Q : O → List O → Nat → Prop} {X : Exn → List O → Nat → Prop}
set_option maxHeartbeats 4000000 in
theorem k__law_refusals_right (x : Xf K) {N stay : Nat} {ws : List Str} {s : Sd} (S : SheetOk ws) (n2 : 2 ≤ N) (n5 : N ≤ 5) (s1 : 1 ≤ stay) (s6 : stay ≤ 6) (hs : StOk N stay s) (hn : n < 100000000) (h : Q (.dat (.bool true)) [.st, .dat (.int N), .dat (.int stay), .dat (sheetD ws), .dat (sD s)] (n + 5)) :
    d__law_refusals_right K [.st, .dat (.int N), .dat (.int stay), .dat (sheetD ws), .dat (sD s)] n Q X := by
  have hf : n + 5 < far := by unfold far; omega
  have wl : (ws.map PyData.str).length = 16 := by rw [List.length_map]; exact S.len
  have ll := lit_len hs n5
  unfold d__law_refusals_right b__law_refusals_right
  wtm_at "in"
  wtm_at "go"
  refine k_pick_l (by simp) (by simp) (by omega) fun om hom => ?_
  have em : isWhole om 2 8 = false := by
    simp only [List.mem_cons, List.not_mem_nil, or_false] at hom
    rcases hom with rfl | rfl | rfl | rfl | rfl <;> rfl
  wtm_at "bk"
  wtm_at "go"
  refine k_pick_l (by simp) (by simp) (by omega) fun op hop => ?_
  have ep : isWhole op 1 6 = false := by
    simp only [List.mem_cons, List.not_mem_nil, or_false] at hop
    rcases hop with rfl | rfl | rfl | rfl <;> rfl
  wtm_at "bk"
  wtm_at "go"
  have ec15 : Mk.cutD (ws.map PyData.str) none (some 15) = (ws.map PyData.str).take 15 := cut_take (k := 15) (by omega)
  have ec1 : Mk.cutD (ws.map PyData.str) (some 1) none = (ws.map PyData.str).drop 1 := cut_one
  rw [ec15, ec1]
  have l15 : ((ws.map PyData.str).take 15).length = 15 := by rw [List.length_take, wl]; rfl
  refine ⟨by rw [l15]; decide, ?_⟩
  wtm_at "go"
  rw [ec15]
  refine ⟨by rw [l15]; decide, ?_⟩
  wtm_at "go"
  refine ⟨by rw [wl]; decide, ?_⟩
  wtm_at "go"
  refine k_pick_l (by simp) (by simp) (by omega) fun os hos => ?_
  have es : ruleB os = false := by
    simp only [List.mem_cons, List.not_mem_nil, or_false] at hos
    rcases hos with rfl | rfl | rfl | rfl | rfl | rfl
    · rfl
    · show (decide (((ws.map PyData.str).drop 1).length = 16) && _) = false
      rw [List.length_drop, wl]
      rfl
    · rfl
    · show (_ && ((ws.map PyData.str).take 15 ++ [PyData.str "stay"]).all wordB) = false
      rw [List.all_append]
      have e : [PyData.str "stay"].all wordB = false := by decide +kernel
      rw [e, Bool.and_false, Bool.and_false]
    · show (_ && ((ws.map PyData.str).take 15 ++ [PyData.int 0]).all wordB) = false
      rw [List.all_append]
      have e : [PyData.int 0].all wordB = false := rfl
      rw [e, Bool.and_false, Bool.and_false]
    · show (decide ((ws.map PyData.str ++ [PyData.str "go"]).length = 16) && _) = false
      rw [List.length_append, wl]
      rfl
  clear hos
  wtm_at "bk"
  wtm_at "go"
  refine ⟨Nat.le_of_ble_eq_true rfl, ?_⟩
  wtm_at "go"
  refine ⟨Nat.le_of_ble_eq_true rfl, ?_⟩
  wtm_at "go"
  refine ⟨Nat.le_of_ble_eq_true rfl, ?_⟩
  wtm_at "go"
  refine ⟨Nat.le_of_ble_eq_true rfl, ?_⟩
  wtm_at "go"
  refine ⟨Nat.le_of_ble_eq_true rfl, ?_⟩
  wtm_at "go"
  refine ⟨Nat.le_of_ble_eq_true rfl, ?_⟩
  wtm_at "go"
  refine ⟨Nat.le_of_ble_eq_true rfl, ?_⟩
  wtm_at "go"
  refine ⟨Nat.le_of_ble_eq_true rfl, ?_⟩
  wtm_at "go"
  refine ⟨Nat.le_of_ble_eq_true rfl, ?_⟩
  wtm_at "go"
  refine ⟨Nat.le_of_ble_eq_true rfl, ?_⟩
  wtm_at "go"
  refine ⟨Nat.le_of_ble_eq_true rfl, ?_⟩
  wtm_at "go"
  refine k_pick_l (by simp) (by simp) (by omega) fun on hon => ?_
  have k1 : Mk.cutD [PyData.int s.f, .int s.w, .int s.l, litD s.lit] (some 1) none = [.int s.w, .int s.l, litD s.lit] := rfl
  have k2 : Mk.cutD [PyData.int s.f, .int s.w, .int s.l, litD s.lit] (some 2) none = [.int s.l, litD s.lit] := rfl
  have k3 : Mk.cutD [PyData.int s.f, .int s.w, .int s.l, litD s.lit] (some 3) none = [litD s.lit] := rfl
  have m1 : Mk.cutD [PyData.int s.f, .int s.w, .int s.l, litD s.lit] none (some 1) = [.int s.f] := rfl
  have m2 : Mk.cutD [PyData.int s.f, .int s.w, .int s.l, litD s.lit] none (some 2) = [.int s.f, .int s.w] := rfl
  have m3 : Mk.cutD [PyData.int s.f, .int s.w, .int s.l, litD s.lit] none (some 3) = [.int s.f, .int s.w, .int s.l] := rfl
  rw [k1, k2, k3, m1, m2, m3] at hon
  simp only [List.cons_append, List.nil_append, List.mem_cons, List.not_mem_nil, or_false] at hon
  have eb : (∀ a b c ls, on = .tuple [a, b, c, .tuple ls] → ls.length ≤ 100) ∧ stB N stay on = false := by
    have lit0 : ∀ a b c ls, PyData.tuple [a, b, c, litD s.lit] = .tuple [a, b, c, .tuple ls] → ls.length ≤ 100 := fun a b c ls e => by
      have e3 := (List.cons.inj (List.cons.inj (List.cons.inj (List.cons.inj (PyData.tuple.inj e)).2).2).2).1
      rw [← PyData.tuple.inj e3, List.length_map]
      omega
    have lit1 : ∀ {a b c a' b' c' : PyData} {ls : List PyData}, PyData.tuple [a', b', c', litD s.lit] = .tuple [a, b, c, .tuple ls] → ls.length ≤ 100 := fun {a b c a' b' c' ls} e => by
      have e3 := (List.cons.inj (List.cons.inj (List.cons.inj (List.cons.inj (PyData.tuple.inj e)).2).2).2).1
      rw [← PyData.tuple.inj e3, List.length_map]
      omega
    have lit2 : ∀ {a b c a' b' c' x : PyData} {ls : List PyData}, PyData.tuple [a', b', c', x] = .tuple [a, b, c, .tuple ls] → x = .tuple ls := fun {a b c a' b' c' x ls} e =>
      (List.cons.inj (List.cons.inj (List.cons.inj (List.cons.inj (PyData.tuple.inj e)).2).2).2).1
    have wf : ∀ {i lo hi : Int}, (i < lo ∨ hi < i) → isWhole (.int i) lo hi = false := fun {i lo hi} z => by
      show (decide (lo ≤ i) && decide (i ≤ hi)) = false
      rcases z with z | z
      · rw [decide_eq_false (show ¬ lo ≤ i by omega)]; rfl
      · rw [decide_eq_false (show ¬ i ≤ hi by omega), Bool.and_false]
    have b1 : ∀ {a b c : PyData} {ls : List PyData}, isWhole a 0 ((N : Int) - 1) = false → stB N stay (.tuple [a, b, c, .tuple ls]) = false := fun {a b c ls} z => by
      show (isWhole a 0 ((N : Int) - 1) && isWhole b 0 1 && isWhole c 0 stay && (ls.all fun x => isWhole x 0 ((N : Int) - 1)) && _) = false
      rw [z]; rfl
    have b2 : ∀ {a b c : PyData} {ls : List PyData}, isWhole b 0 1 = false → stB N stay (.tuple [a, b, c, .tuple ls]) = false := fun {a b c ls} z => by
      show (isWhole a 0 ((N : Int) - 1) && isWhole b 0 1 && isWhole c 0 stay && (ls.all fun x => isWhole x 0 ((N : Int) - 1)) && _) = false
      rw [z, Bool.and_false]; rfl
    have b3 : ∀ {a b c : PyData} {ls : List PyData}, isWhole c 0 stay = false → stB N stay (.tuple [a, b, c, .tuple ls]) = false := fun {a b c ls} z => by
      show (isWhole a 0 ((N : Int) - 1) && isWhole b 0 1 && isWhole c 0 stay && (ls.all fun x => isWhole x 0 ((N : Int) - 1)) && _) = false
      rw [z, Bool.and_false]; rfl
    have b4 : ∀ {a b c : PyData} {ls : List PyData}, (ls.all fun x => isWhole x 0 ((N : Int) - 1)) = false → stB N stay (.tuple [a, b, c, .tuple ls]) = false := fun {a b c ls} z => by
      show (isWhole a 0 ((N : Int) - 1) && isWhole b 0 1 && isWhole c 0 stay && (ls.all fun x => isWhole x 0 ((N : Int) - 1)) && _) = false
      rw [z, Bool.and_false]; rfl
    have b5 : ∀ {a b c : PyData} {ls : List PyData}, (zipD ls (ls.drop 1)).all ltI = false → stB N stay (.tuple [a, b, c, .tuple ls]) = false := fun {a b c ls} z => by
      show (isWhole a 0 ((N : Int) - 1) && isWhole b 0 1 && isWhole c 0 stay && (ls.all fun x => isWhole x 0 ((N : Int) - 1)) && (zipD ls (ls.drop 1)).all ltI) = false
      rw [z, Bool.and_false]
    rcases hon with rfl | rfl | rfl | rfl | rfl | rfl | rfl | rfl | rfl | rfl | rfl | rfl
    · exact ⟨(fun _ _ _ _ e => by cases e), rfl⟩
    · exact ⟨(fun _ _ _ _ e => by cases e), rfl⟩
    · exact ⟨(fun _ _ _ _ e => by cases e), rfl⟩
    · exact ⟨(fun _ _ _ _ e => lit1 e), b1 (wf (.inr (by omega)))⟩
    · exact ⟨(fun _ _ _ _ e => lit1 e), b1 (wf (.inl (by omega)))⟩
    · exact ⟨(fun _ _ _ _ e => lit1 e), b2 (wf (.inr (by omega)))⟩
    · exact ⟨(fun _ _ _ _ e => lit1 e), b1 rfl⟩
    · exact ⟨(fun _ _ _ _ e => lit1 e), b3 (wf (.inr (by omega)))⟩
    · exact ⟨(fun _ _ _ _ e => by cases lit2 e), rfl⟩
    · exact ⟨(fun _ _ _ _ e => by cases lit2 e; decide), b5 (by decide +kernel)⟩
    · refine ⟨(fun _ _ _ _ e => by cases lit2 e; exact Nat.le_of_ble_eq_true rfl), b4 ?_⟩
      show (isWhole (.int (N : Int)) 0 ((N : Int) - 1) && true) = false
      rw [wf (.inr (by omega))]
      rfl
    · exact ⟨(fun _ _ _ _ e => by cases lit2 e; decide), b5 (by decide +kernel)⟩
  obtain ⟨eb1, eb2⟩ := eb
  clear hon hom hop
  wtm_at "bk"
  wtm_at "go"
  refine k_pick_l (by simp) (by simp) (by omega) fun og hog => ?_
  have eg : BadSig N og := by
    simp only [List.mem_cons, List.not_mem_nil, or_false] at hog
    exact hog
  clear hog
  wtm_at "bk"
  wtm_at "go"
  have nb : ∀ v ∈ [11], v ∉ [0] := by decide
  have eN : isWhole (.int (N : Int)) 2 8 = true := whole_of (by omega) (by omega)
  have eS : isWhole (.int (stay : Int)) 1 6 = true := whole_of (by omega) (by omega)
  unfold B__law_refusals_right_4 mWorks
  refine ⟨(by decide : 10 ∉ [0]), Nat.le_of_ble_eq_true rfl, Nat.le_of_ble_eq_true rfl, ?_⟩
  change mSeq _ _ (Mk.S.mk [some .st, some (.dat (.int N)), some (.dat (.int stay)), some (.dat (sheetD ws)), some (.dat (sD s)), some (.dat om), some (.dat op), some (.dat os), some (.dat on), some (.dat og), none, none] (n + 1 + 1 + 1 + 1 + 1) [0]) _
  wtm_at "go"
  unfold mWks
  refine ⟨nb, ?_⟩
  change mRf K _ _ _ _ (Mk.S.mk [some .st, some (.dat (.int N)), some (.dat (.int stay)), some (.dat (sheetD ws)), some (.dat (sD s)), some (.dat om), some (.dat op), some (.dat os), some (.dat on), some (.dat og), none, none] (n + 1 + 1 + 1 + 1 + 1) [0]) _
  unfold B__law_refusals_right_2
  unfold mRf
  wtm_at "go"
  refine k_lift_step_floors em ⟨"floors", wh_floors x, ?_⟩
  change mRf K _ _ _ _ (Mk.S.mk [some .st, some (.dat (.int N)), some (.dat (.int stay)), some (.dat (sheetD ws)), some (.dat (sD s)), some (.dat om), some (.dat op), some (.dat os), some (.dat on), some (.dat og), none, none] (n + 1 + 1 + 1 + 1 + 1) [0]) _
  unfold mRf
  wtm_at "go"
  refine k_lift_web_bad eN ep ⟨"stay", wh_stay x, ?_⟩
  change mRf K _ _ _ _ (Mk.S.mk [some .st, some (.dat (.int N)), some (.dat (.int stay)), some (.dat (sheetD ws)), some (.dat (sD s)), some (.dat om), some (.dat op), some (.dat os), some (.dat on), some (.dat og), none, none] (n + 1 + 1 + 1 + 1 + 1) [0]) _
  unfold mRf
  wtm_at "go"
  refine k_lift_standings_bad eN eS es ⟨"rule", wh_rule x, ?_⟩
  change mRf K _ _ _ _ (Mk.S.mk [some .st, some (.dat (.int N)), some (.dat (.int stay)), some (.dat (sheetD ws)), some (.dat (sD s)), some (.dat om), some (.dat op), some (.dat os), some (.dat on), some (.dat og), none, none] (n + 1 + 1 + 1 + 1 + 1) [0]) _
  unfold mRf
  wtm_at "go"
  refine k_lift_step_standing S n2 n5 s1 s6 eb1 eb2 ⟨"standing", wh_standing x, ?_⟩
  change mRf K _ _ _ _ (Mk.S.mk [some .st, some (.dat (.int N)), some (.dat (.int stay)), some (.dat (sheetD ws)), some (.dat (sD s)), some (.dat om), some (.dat op), some (.dat os), some (.dat on), some (.dat og), none, none] (n + 1 + 1 + 1 + 1 + 1) [0]) _
  unfold mRf
  wtm_at "go"
  refine k_lift_step_signal S n2 n5 s1 s6 hs eg ⟨"signal", wh_signal x, ?_⟩
  change mRf K _ _ _ _ (Mk.S.mk [some .st, some (.dat (.int N)), some (.dat (.int stay)), some (.dat (sheetD ws)), some (.dat (sD s)), some (.dat om), some (.dat op), some (.dat os), some (.dat on), some (.dat og), none, none] (n + 1 + 1 + 1 + 1 + 1) [0]) _
  unfold mRf
  wtm_at "go"
  have er := sheet_rule S
  refine k_is_rule ?_
  rw [es]
  wtm_at "go"
  refine k_is_rule ?_
  rw [er]
  wtm_at "go"
  refine k_is_rule ?_
  rw [er]
  wtm_at "go"
  exact h
end
end K48

/-! part L16 -/
namespace K48
open PySem PySem.Spec PyProof.Rows L2 Evl Lk LamX Mk
/-! ### what is drawn -/
section
variable {K : PySem.W.Frag} {n : Nat} {Q : O → List O → Nat → Prop} {X : Exn → List O → Nat → Prop}
def wOk (ds : List PyData) : Prop := ds.length = 16 ∧ ∀ d ∈ ds, wordB d = true
theorem sheet_of {ds : List PyData} (h : wOk ds) : ∃ ws, SheetOk ws ∧ ds = ws.map PyData.str := by
  have key : ∀ {ds : List PyData}, (∀ d ∈ ds, wordB d = true) → ∃ ws : List Str, (∀ x ∈ ws, x = "go" ∨ x = "open" ∨ x = "rest" ∨ x = "turn") ∧ ds = ws.map PyData.str := fun {ds} => by
    induction ds with
    | nil => exact fun _ => ⟨[], (fun _ z => by cases z), rfl⟩
    | cons d ds ih =>
      intro h
      obtain ⟨ws, h1, h2⟩ := ih fun e he => h e (List.mem_cons_of_mem _ he)
      have hd := h d List.mem_cons_self
      obtain ⟨x, rfl⟩ : ∃ x, d = .str x := by
        cases d with
        | str x => exact ⟨x, rfl⟩
        | _ => cases hd
      have hx : (decide (x = "go") || decide (x = "open") || decide (x = "rest") || decide (x = "turn")) = true := hd
      rw [Bool.or_eq_true, Bool.or_eq_true, Bool.or_eq_true, decide_eq_true_eq, decide_eq_true_eq, decide_eq_true_eq, decide_eq_true_eq] at hx
      refine ⟨x :: ws, fun y hy => ?_, by rw [h2]; rfl⟩
      rcases List.mem_cons.mp hy with rfl | hy
      · rcases hx with ((e | e) | e) | e
        · exact .inl e
        · exact .inr (.inl e)
        · exact .inr (.inr (.inl e))
        · exact .inr (.inr (.inr e))
      · exact h1 y hy
  obtain ⟨ws, h1, h2⟩ := key h.2
  have hl := h.1
  rw [h2, List.length_map] at hl
  exact ⟨ws, ⟨hl, h1⟩, h2⟩
theorem ixN_nat {n i : Nat} (h : i < n) : ixN n (i : Int) = some i := by
  unfold ixN
  simp
  omega
theorem half_ok : ∀ d ∈ [PyData.str "rest", .str "turn", .str "go", .str "go", .str "open", .str "open", .str "open", .str "open"], wordB d = true := by decide +kernel
theorem k__law_sheet (hn : n < 100000000) (h : ∀ ws m, SheetOk ws → m ≤ n + 40 → Q (.dat (sheetD ws)) [.st] m) : d__law_sheet K [.st] n Q X := by
  have hf : n + 40 < far := by unfold far; omega
  unfold d__law_sheet b__law_sheet
  wtm_at "in"
  wtm_at "go"
  refine k_pick_l (by simp) (by simp) (by omega) fun d hd => ?_
  obtain ⟨ls, rfl, hl⟩ : ∃ ls, d = .list ls ∧ ls.length = 8 ∧ ∀ d ∈ ls, wordB d = true := by
    simp only [List.mem_cons, List.not_mem_nil, or_false] at hd
    rcases hd with rfl | rfl
    · exact ⟨_, rfl, rfl, by decide +kernel⟩
    · exact ⟨_, rfl, rfl, by decide +kernel⟩
  clear hd
  wtm_at "bk"
  wtm_at "go"
  refine ⟨by rw [hl.1]; decide, ?_⟩
  have h0 : wOk ([PyData.str "rest", .str "turn", .str "go", .str "go", .str "open", .str "open", .str "open", .str "open"] ++ ls) := ⟨by rw [List.length_append, hl.1]; rfl, fun d hd => by
    rcases List.mem_append.mp hd with hd | hd
    · exact half_ok d hd
    · exact hl.2 d hd⟩
  wtm_at "go"
  refine k_pick_l (by simp) (by simp) (by omega) fun d hd => ?_
  obtain ⟨t, rfl, ht⟩ : ∃ t : Nat, d = .int (t : Int) ∧ t ≤ 16 := by
    simp only [List.mem_cons, List.not_mem_nil, or_false] at hd
    rcases hd with rfl | rfl | rfl | rfl | rfl
    · exact ⟨0, rfl, by omega⟩
    · exact ⟨1, rfl, by omega⟩
    · exact ⟨2, rfl, by omega⟩
    · exact ⟨5, rfl, by omega⟩
    · exact ⟨16, rfl, by omega⟩
  clear hd
  wtm_at "bk"
  wtm_at "go"
  generalize [PyData.str "rest", .str "turn", .str "go", .str "go", .str "open", .str "open", .str "open", .str "open"] = half at *
  refine x_forI (fun r s => ∃ (ds : List PyData) (m : Nat) (u4 : Option O), s = ⟨[some .st, some (.dat (.list half)), some (.dat (.list ls)), some (.lst ds), u4], m, [0]⟩ ∧ wOk ds ∧ m + 2 * r.length ≤ n + 38) ?_ ?_ ⟨half ++ ls, n + 1 + 1, none, rfl, h0, by simp [Mk.intsFrom]; omega⟩
  · rintro d r s M ⟨ds, m, u4, rfl, hds, hm⟩ hN
    rw [List.length_cons] at hm
    wtm_at "go"
    refine k_pick_l (by simp) (by simp) (by omega) fun wd hwd => ?_
    have hw : wordB wd = true := by
      simp only [List.mem_cons, List.not_mem_nil, or_false] at hwd
      rcases hwd with rfl | rfl | rfl | rfl <;> decide +kernel
    clear hwd
    wtm_at "bk"
    wtm_at "go"
    refine k_draw (by omega) (by decide +kernel) (by omega) fun j0 j00 j01 => ?_
    wtm_at "bk"
    obtain ⟨j, rfl⟩ : ∃ j : Nat, j0 = (j : Int) := ⟨j0.toNat, by omega⟩
    wtm_at "go"
    have hl2 := hds.1
    refine x_lputK rfl (ixN_nat (by omega)) ?_
    simp only [List.set_cons_zero, List.set_cons_succ]
    wtm_at "go"
    refine hN _ ⟨ds.set j wd, _, _, rfl, ⟨by rw [List.length_set]; exact hl2, fun y hy => ?_⟩, by omega⟩
    rcases List.mem_or_eq_of_mem_set hy with hy | rfl
    · exact hds.2 y hy
    · exact hw
  · rintro s ⟨ds, m, u4, rfl, hds, hm⟩
    obtain ⟨ws, S, rfl⟩ := sheet_of hds
    wtm_at "go"
    exact h ws m S (by simp at hm; omega)
theorem k__law_any_now {N stay : Nat} (n2 : 2 ≤ N) (n5 : N ≤ 5) (s1 : 1 ≤ stay) (s6 : stay ≤ 6) (hn : n < 100000000) (h : ∀ s m, StOk N stay s → m ≤ n + 10 → Q (.dat (sD s)) [.st, .dat (.int (N : Nat)), .dat (.int (stay : Nat))] m) : d__law_any_now K [.st, .dat (.int (N : Nat)), .dat (.int (stay : Nat))] n Q X := by
  have hf : n + 40 < far := by unfold far; omega
  unfold d__law_any_now b__law_any_now
  wtm_at "in"
  wtm_at "go"
  unfold Mk.intsFrom
  refine x_lcI (fun r acc s => ∃ (m i : Nat) (lit : List Int), s = ⟨[some .st, some (.dat (.int N)), some (.dat (.int stay)), none, none], m, [0]⟩ ∧ r = ((List.range N).map fun i : Nat => PyData.int (0 + (i : Int))).drop i ∧ i ≤ N ∧ acc = lit.map PyData.int ∧ lit.Pairwise (· < ·) ∧ (∀ x ∈ lit, 0 ≤ x ∧ x < (i : Int)) ∧ lit.length ≤ i ∧ m ≤ n + i) ?_ ?_ ⟨n, 0, [], rfl, rfl, by omega, rfl, .nil, (fun _ z => by cases z), by simp, by omega⟩
  · rintro d r acc s A B ⟨m, i, lit, rfl, er, hi, rfl, hp, hlt, hll, hm⟩ hA hB
    obtain ⟨ed, er2⟩ := drop_cons er.symm
    have hi2 : i < N := by
      have := (List.getElem?_eq_some_iff.mp ed).1
      rw [List.length_map, List.length_range] at this
      exact this
    rw [List.getElem?_map, List.getElem?_range hi2] at ed
    cases ed
    wtm_at "go"
    refine k_draw (by omega) (by decide +kernel) (by omega) fun i0 i00 i01 => ?_
    wtm_at "bk"
    cases c0 : decide (i0 = 0) with
    | true =>
      wtm_at "go"
      refine hA _ _ (by rw [List.length_map]; omega) ⟨m + 1, i + 1, lit ++ [0 + (i : Int)], rfl, er2.symm, hi2, by rw [List.map_append]; rfl, List.pairwise_append.mpr ⟨hp, List.pairwise_singleton _ _, fun a ha b hb => ?_⟩, fun x hx => ?_, by rw [List.length_append, List.length_singleton]; omega, by omega⟩
      · have := hlt a ha
        rw [List.mem_singleton.mp hb]
        omega
      · rcases List.mem_append.mp hx with hx | hx
        · have := hlt x hx
          omega
        · rw [List.mem_singleton.mp hx]
          omega
    | false =>
      wtm_at "go"
      exact hB _ ⟨m + 1, i + 1, lit, rfl, er2.symm, hi2, rfl, hp, (fun x hx => by have := hlt x hx; omega), by omega, by omega⟩
  rintro acc s ⟨m, i, lit, rfl, er, hi, rfl, hp, hlt, hll, hm⟩
  wtm_at "go"
  refine k_draw (by omega) (log2_int (by omega) (by omega)) (by omega) fun a a0 a1 => ?_
  wtm_at "bk"
  wtm_at "go"
  refine k_draw (by omega) (by decide +kernel) (by omega) fun b b0 b1 => ?_
  wtm_at "bk"
  wtm_at "go"
  refine k_draw (by omega) (log2_int (by omega) (by omega)) (by omega) fun c c0 c1 => ?_
  wtm_at "bk"
  wtm_at "go"
  refine h ⟨a, b, c, lit⟩ _ ⟨a0, a1, by show b = 0 ∨ b = 1; omega, c0, by show c ≤ stay; omega, hp, fun x hx => ?_⟩ (by omega)
  have := hlt x hx
  exact ⟨this.1, by omega⟩
end
end K48

/-! part Pl -/
namespace K48
open PySem PySem.Spec PyProof.Rows L2 Evl Lk LamX Mk
abbrev halfD : List PyData := [.str "rest", .str "turn", .str "go", .str "go", .str "open", .str "open", .str "open", .str "open"]
abbrev otherD : List PyData := [.str "rest", .str "turn", .str "go", .str "go", .str "turn", .str "turn", .str "go", .str "go"]
section
variable {K : PySem.W.Frag} {n : Nat} {Q : O → List O → Nat → Prop} {X : Exn → List O → Nat → Prop}
theorem k_collective (h : Q (.dat (.tuple (halfD ++ halfD))) [] n) : d_collective K [] n Q X := by
  unfold d_collective b_collective
  wtm_at "in"
  wtm_at "go"
  exact h
theorem k_one_way (h : Q (.dat (.tuple (halfD ++ otherD))) [] n) : d_one_way K [] n Q X := by
  unfold d_one_way b_one_way
  wtm_at "in"
  wtm_at "go"
  refine k_collective ?_
  wtm_at "go"
  exact h
end
theorem sh_tup {k : Nat} {ds : List PyData} (h : ∀ d ∈ ds, d.canLay0 = true ∧ d.depth ≤ k) : (PyData.tuple ds).canLay0 = true ∧ (PyData.tuple ds).depth ≤ k + 1 := by
  refine ⟨by rw [PyData.canLay0]; exact lay_all fun d hd => (h d hd).1, ?_⟩
  have h := dep_all fun d hd => (h d hd).2
  simp only [PyData.depth]
  omega
theorem sig_lay {N : Nat} {d : PyData} (h : d ∈ sigsD N) : d.canLay0 = true ∧ d.depth ≤ 3 := by
  rcases sig_in h with rfl | ⟨j, _, rfl⟩
  · exact ⟨by decide +kernel, by decide +kernel⟩
  · refine sh_tup (k := 2) fun d hd => ?_
    simp only [List.mem_cons, List.not_mem_nil, or_false] at hd
    rcases hd with rfl | rfl
    · exact ⟨by decide +kernel, by decide +kernel⟩
    · exact ⟨rfl, by simp only [PyData.depth]; omega⟩
theorem row_lay {N : Nat} {r : List Nat} : (rowT N r).canLay0 = true ∧ (rowT N r).depth ≤ 5 := by
  refine sh_tup (k := 4) fun m hm => ?_
  obtain ⟨d, hd, i, _, rfl⟩ := zw_in hm
  refine sh_tup (k := 3) fun e he => ?_
  simp only [List.mem_cons, List.not_mem_nil, or_false] at he
  rcases he with rfl | rfl | rfl | rfl
  · exact sig_lay hd
  · exact ⟨rfl, by simp only [PyData.depth]; omega⟩
  · exact ⟨rfl, by simp only [PyData.depth]; omega⟩
  · exact ⟨rfl, by simp only [PyData.depth]; omega⟩
theorem web_sh {N : Nat} {R : List (List Nat)} : SeqAt.shaped (webZ N R) = true := by
  have h : (webZ N R).canLay0 = true ∧ (webZ N R).depth ≤ 7 := sh_tup (k := 6) fun d hd => by
    simp only [List.mem_cons, List.not_mem_nil, or_false] at hd
    rcases hd with rfl | rfl | rfl
    · exact ⟨by decide +kernel, by decide +kernel⟩
    · exact ⟨by decide +kernel, by decide +kernel⟩
    · refine sh_tup (k := 5) fun e he => ?_
      obtain ⟨r, _, rfl⟩ := List.mem_map.mp he
      exact row_lay
  unfold SeqAt.shaped
  rw [h.1, decide_eq_true (by have := h.2; omega)]
  rfl
theorem law_ok {K : PySem.W.Frag} (x : Xf K) (ns : List Int) (hl : ns.length ≤ 63) : d_law K [.dat (.list (ns.map PyData.int))] 0 (fun o _ _ => o = .dat (.bool true)) (fun _ _ _ => False) := by
  have fl : far = 1000000000000 := rfl
  have rl : ∀ k : Nat, (Mk.intsFrom 0 k).length = k := fun k => by simp [Mk.intsFrom]
  unfold d_law b_law
  wtm_at "in"
  wtm_at "go"
  refine x_begun (by omega) ?_
  wtm_at "go"
  refine k_collective ?_
  wtm_at "go"
  refine ⟨Nat.le_of_ble_eq_true rfl, ?_⟩
  wtm_at "go"
  refine k_one_way ?_
  wtm_at "go"
  refine ⟨Nat.le_of_ble_eq_true rfl, ?_⟩
  wtm_at "go"
  refine x_forI (fun r s => ∃ u3 u4 u5 u6 u7 u8 u9 u10 u11 u12 u13 u14 k, s = ⟨[some (.dat (.list (ns.map PyData.int))), some .st, some (.dat (.tuple halfD)), u3, u4, u5, u6, u7, u8, u9, u10, u11, u12, u13, u14], k, []⟩ ∧ k + 1000 * r.length ≤ 5000) ?_ ?_ ⟨none, none, none, none, none, none, none, none, none, none, none, none, 0, rfl, ?_⟩
  · rintro d r s M ⟨u3, u4, u5, u6, u7, u8, u9, u10, u11, u12, u13, u14, k, rfl, hk⟩ hN
    rw [List.length_cons] at hk
    wtm_at "go"
    refine k_pick_l (by simp) (by simp) (by omega) fun wd hwd => ?_
    obtain ⟨N', rfl, hN'⟩ : ∃ i : Nat, wd = .int (i : Int) ∧ i ≤ 3 := by
      simp only [List.mem_cons, List.not_mem_nil, or_false] at hwd
      rcases hwd with rfl | rfl | rfl | rfl | rfl | rfl
      · exact ⟨0, rfl, by omega⟩
      · exact ⟨1, rfl, by omega⟩
      · exact ⟨1, rfl, by omega⟩
      · exact ⟨2, rfl, by omega⟩
      · exact ⟨0, rfl, by omega⟩
      · exact ⟨3, rfl, by omega⟩
    clear hwd
    wtm_at "bk"
    wtm_at "go"
    refine k_draw (by omega) (by decide +kernel) (by omega) fun p0 p00 p01 => ?_
    wtm_at "bk"
    obtain ⟨p, rfl⟩ : ∃ p : Nat, p0 = (p : Int) := ⟨p0.toNat, by omega⟩
    wtm_at "go"
    refine k__law_sheet (by omega) fun ws m1 S hm1 => ?_
    wtm_at "bk"
    obtain ⟨N, eN⟩ : ∃ N : Nat, N = 2 + N' := ⟨_, rfl⟩
    obtain ⟨stay, eS⟩ : ∃ stay : Nat, stay = 1 + p := ⟨_, rfl⟩
    have cN : (2 : Int) + (N' : Int) = (N : Int) := by omega
    have cS : (1 : Int) + (p : Int) = (stay : Int) := by omega
    rw [cN, cS]
    have n2 : 2 ≤ N := by omega
    have n5 : N ≤ 5 := by omega
    have s1 : 1 ≤ stay := by omega
    have s6 : stay ≤ 6 := by omega
    clear cN cS eN eS
    wtm_at "go"
    refine k__law_lift_walk S (by omega) n5 s1 s6 fun kk E => ?_
    wtm_at "go"
    refine k_lift_web S n2 n5 s1 s6 fun kk2 E2 => ?_
    obtain rfl := end_one E2 E
    wtm_at "go"
    have ok := walk_ok (n := N) (stay := stay) (ws := ws) (by omega) (show (1 : Int) ≤ stay by omega) kk2
    have fl2 := fok_len ok n5 s6
    have Fsh : SeqAt.shaped (.list ((walkZ N stay ws kk2).1.map sD)) = true := shL fun d hd => by
      obtain ⟨s, _, rfl⟩ := List.mem_map.mp hd
      exact st_sh
    refine ⟨rfl, ?_⟩
    refine k_lift_standings S n2 n5 s1 s6 fun kk3 E3 => ?_
    obtain rfl := end_one E3 E
    refine ⟨rfl, ?_⟩
    simp only [permL, List.map, List.getD_cons_zero, List.getD_cons_succ]
    wtm_at "go"
    rw [eqd_rf Fsh]
    wtm_at "go"
    refine k__law_lift_web n5 (by rw [rows_len _ E.b]; have := E.e; omega) ?_
    wtm_at "go"
    refine x_fNe web_sh web_sh ?_
    rw [eqd_rf web_sh]
    wtm_at "go"
    refine ⟨rfl, ?_⟩
    refine k_lift_web S n2 n5 s1 s6 fun kk4 E4 => ?_
    obtain rfl := end_one E4 E
    refine ⟨rfl, ?_⟩
    simp only [permL, List.map, List.getD_cons_zero, List.getD_cons_succ]
    wtm_at "go"
    have rok := rows_ok (N := N) (stay := stay) (ws := ws) kk4
    have rle := rows_len _ E.b
    have k1 : 1 ≤ kk4 := by
      rcases Nat.eq_zero_or_pos kk4 with rfl | z
      · have := E.e
        cases this
      · exact z
    refine k_is_web n5 (by omega) (by have := E.e; omega) (by rw [rle]; rw [E.e] at rok; exact rok) ?_
    wtm_at "go"
    refine k__law_row_right S n2 n5 s1 s6 E (by omega) fun m2 hm2 => ?_
    wtm_at "bk"
    wtm_at "go"
    refine x_forI (fun r2 s2 => ∃ u10 u11 u12 u13 u14 m, s2 = ⟨[some (.dat (.list (ns.map PyData.int))), some .st, some (.dat (.tuple halfD)), some (.dat d), some (.dat (.int N)), some (.dat (.int stay)), some (.dat (sheetD ws)), some (.dat (.list ((walkZ N stay ws kk4).1.map sD))), some (.dat (.list ((walkZ N stay ws kk4).2.map rowD))), some (.dat (webZ N (walkZ N stay ws kk4).2)), u10, u11, u12, u13, u14], m, []⟩ ∧ m + 20 * r2.length ≤ k + 600) ?_ ?_ ⟨u10, u11, u12, u13, u14, m2, rfl, by rw [rl]; show m2 + 20 * 20 ≤ k + 600; omega⟩
    · rintro d2 r2 s2 M2 ⟨u10, u11, u12, u13, u14, m, rfl, hm⟩ hN2
      rw [List.length_cons] at hm
      wtm_at "go"
      refine k__law_any_now n2 n5 s1 s6 (by omega) fun sz m3 hsz hm3 => ?_
      wtm_at "bk"
      have ll := lit_len hsz n5
      wtm_at "go"
      refine k_draw (by omega) (log2_int (by omega) (by omega)) (by omega) fun j0 j00 j01 => ?_
      wtm_at "bk"
      obtain ⟨j, rfl⟩ : ∃ j : Nat, j0 = (j : Int) := ⟨j0.toNat, by omega⟩
      wtm_at "go"
      refine k__law_tick S hsz (by omega) ?_
      wtm_at "go"
      refine k__law_called hsz.up (by omega) ?_
      wtm_at "go"
      refine k_lift_step S n2 n5 s1 s6 hsz sig_end lat_end ?_
      wtm_at "go"
      refine ⟨rfl, ?_⟩
      refine k_lift_step S n2 n5 s1 s6 hsz (sig_at (i := j) (by omega)) (lat_at (by omega)) ?_
      refine ⟨rfl, ?_⟩
      simp only [permL, List.map, List.getD_cons_zero, List.getD_cons_succ]
      wtm_at "go"
      have tsh : SeqAt.shaped (.list [sD (tickZ N stay ws sz), sD (callZ sz j)]) = true := shL fun d hd => by
        simp only [List.mem_cons, List.not_mem_nil, or_false] at hd
        rcases hd with rfl | rfl
        · exact st_sh
        · exact st_sh
      change fNe (.list [sD (tickZ N stay ws sz), sD (callZ sz j)]) (.list [sD (tickZ N stay ws sz), sD (callZ sz j)]) _
      refine x_fNe tsh tsh ?_
      rw [eqd_rf tsh]
      wtm_at "go"
      exact hN2 _ ⟨_, _, _, _, _, _, rfl, by omega⟩
    · rintro s2 ⟨u10, u11, u12, u13, u14, m, rfl, hm⟩
      rw [List.length_nil] at hm
      wtm_at "go"
      refine k__law_any_now n2 n5 s1 s6 (by omega) fun sz m3 hsz hm3 => ?_
      wtm_at "bk"
      wtm_at "go"
      refine k__law_refusals_right x S n2 n5 s1 s6 hsz (by omega) ?_
      wtm_at "bk"
      wtm_at "go"
      exact hN _ ⟨_, _, _, _, _, _, _, _, _, _, _, _, _, rfl, by omega⟩
  · rintro s ⟨u3, u4, u5, u6, u7, u8, u9, u10, u11, u12, u13, u14, k, rfl, hk⟩
    wtm_at "go"
    rfl
  · rw [rl]
    split <;> omega
end K48

end

section
/-! the walk's small tactics: Ev, EvT, EvD, EvDA by the reading's head -/
local macro_rules | `(tactic| wtm_at "dp") => `(tactic| first
  | assumption
  | exact Lk.Dq.int _
  | exact Lk.Dq.bl _
  | exact Lk.Dq.str _
  | exact Lk.Dq.non
  | fail "dp stops")
local macro_rules | `(tactic| wtm_at "rvc") => `(tactic| first
  | trivial
  | (show (0 : Int) < _; first | decide | omega)
  | exact ⟨by decide, by decide⟩
  | exact ⟨by decide, by decide, by decide⟩
  | exact Or.inl ⟨by decide, by decide⟩
  | exact Or.inr ⟨by decide, by decide⟩
  | exact Or.inl ⟨by omega, by omega⟩
  | exact Or.inr ⟨by omega, by omega⟩
  | assumption
  | fail "rvc stops")
local macro_rules | `(tactic| wtm_at "rv") => `(tactic| first
  | with_reducible exact Evl.rv_I0
  | ((with_reducible refine' Evl.rv_I ?c); (case c => wtm_at "rvc"))
  | ((with_reducible refine' Evl.rv_eq ?c); (case c => rfl))
  | ((with_reducible refine' Evl.rv_ne ?c); (case c => rfl))
  | fail "rv stops")
local macro_rules | `(tactic| wtm_at "rel") => `(tactic| first
  | exact ⟨_, rfl, rfl⟩
  | exact ⟨_, _, rfl, rfl⟩
  | exact ⟨_, _, _, rfl, rfl⟩
  | exact ⟨_, _, _, _, rfl, rfl⟩
  | exact ⟨_, rfl, by omega, rfl⟩
  | exact ⟨_, _, rfl, by omega, by omega, rfl⟩
  | exact ⟨_, _, _, rfl, by omega, by omega, rfl⟩
  | assumption
  | fail "rel stops")
local macro_rules | `(tactic| wtm_at "eda") => `(tactic| first
  | with_reducible exact Lk.eda_nil
  | ((with_reducible refine' Lk.eda_cons ?a ?b); (case a => wtm_at "ed"); (case b => wtm_at "eda"))
  | ((with_reducible refine' Lk.eda_star ?a ?b ?k); (case a => wtm_at "ed"); (case b => wtm_at "eda"); (case k => rfl))
  | fail "eda stops")
local macro_rules | `(tactic| wtm_at "ed") => `(tactic| first
  | ((with_reducible refine' Lk.ed_var ?a ?b); (case a => exact rfl); (case b => wtm_at "dp"))
  | with_reducible exact Lk.ed_cI
  | with_reducible exact Lk.ed_cS
  | with_reducible exact Lk.ed_cN
  | with_reducible exact Lk.ed_cB
  | ((with_reducible refine' Lk.ed_tup ?a ?b); (case a => wtm_at "eda"); (case b => first | decide | exact Nat.le_of_ble_eq_true rfl))
  | ((with_reducible refine' Lk.ed_lst ?a ?b); (case a => wtm_at "eda"); (case b => first | decide | exact Nat.le_of_ble_eq_true rfl))
  | ((with_reducible refine' Lk.ed_call ?a ?b); (case a => wtm_at "eda"); (case b => wtm_at "rel"))
  | ((with_reducible refine' Lk.ed_callK ?a ?b); (case a => wtm_at "eda"); (case b => wtm_at "rel"))
  | ((with_reducible refine' Lk.ed_ixT ?a ?b ?c ?k); (case a => wtm_at "ed"); (case b => wtm_at "ev"); (case c => rfl); (case k => rfl))
  | ((with_reducible refine' Lk.ed_ixL ?a ?b ?c ?k); (case a => wtm_at "ed"); (case b => wtm_at "ev"); (case c => rfl); (case k => rfl))
  | (refine' Lk.ed_ev (v := L2.V.int _) ?a ?b; (case a => wtm_at "ev"); (case b => exact Lk.Dq.int _))
  | (refine' Lk.ed_ev (v := L2.V.bl _) ?a ?b; (case a => wtm_at "ev"); (case b => exact Lk.Dq.bl _))
  | (refine' Lk.ed_ev (v := L2.V.str _) ?a ?b; (case a => wtm_at "ev"); (case b => exact Lk.Dq.str _))
  | fail "ed stops")
local macro_rules | `(tactic| wtm_at "ev") => `(tactic| first
  | with_reducible exact Evl.ev_c
  | ((with_reducible refine' Evl.ev_var ?a); (case a => exact rfl))
  | ((with_reducible refine' Lk.ev_eqD ?a ?b ?c ?d); (case a => wtm_at "ed"); (case b => wtm_at "ed"); (case c => wtm_at "sh"); (case d => wtm_at "sh"))
  | ((with_reducible refine' Lk.ev_neD ?a ?b ?c ?d); (case a => wtm_at "ed"); (case b => wtm_at "ed"); (case c => wtm_at "sh"); (case d => wtm_at "sh"))
  | ((with_reducible refine' Evl.ev_op ?a ?b ?c); (case a => wtm_at "ev"); (case b => wtm_at "ev"); (case c => wtm_at "rv"))
  | ((with_reducible refine' Evl.ev_un ?a ?c); (case a => wtm_at "ev"); (case c => with_reducible exact Evl.ru_neg))
  | ((with_reducible refine' Evl.ev_andV ?a ?b); (case a => wtm_at "ev"); (case b => (intro hb; first | exact (Bool.false_ne_true hb).elim | exact (Bool.false_ne_true hb.symm).elim | wtm_at "ev")); (all_goals try exact false))
  | ((with_reducible refine' Evl.ev_orV ?a ?b); (case a => wtm_at "ev"); (case b => (intro hb; first | exact (Bool.false_ne_true hb).elim | exact (Bool.false_ne_true hb.symm).elim | wtm_at "ev")); (all_goals try exact false))
  | ((with_reducible refine' Lk.ev_chain ?a ?b ?c ?d ?e); (case a => wtm_at "ev"); (case b => wtm_at "ev"); (case c => wtm_at "rv"); (case d => (intro hb; wtm_at "ev")); (case e => (intro hb; wtm_at "rv")))
  | ((with_reducible refine' Evl.ev_notV ?a); (case a => wtm_at "ev"))
  | ((with_reducible refine' Lk.ev_edI (Lk.ed_call ?a ?b)); (case a => wtm_at "eda"); (case b => wtm_at "rel"))
  | ((with_reducible refine' Lk.ev_edB (Lk.ed_call ?a ?b)); (case a => wtm_at "eda"); (case b => wtm_at "rel"))
  | ((with_reducible refine' Lk.ev_edS (Lk.ed_call ?a ?b)); (case a => wtm_at "eda"); (case b => wtm_at "rel"))
  | ((with_reducible refine' Lk.ev_edI (Lk.ed_callK ?a ?b)); (case a => wtm_at "eda"); (case b => wtm_at "rel"))
  | ((with_reducible refine' Lk.ev_edI (Lk.ed_ixT ?a ?b ?c ?k)); (case a => wtm_at "ed"); (case b => wtm_at "ev"); (case c => rfl); (case k => rfl))
  | ((with_reducible refine' Lk.ev_edI (Lk.ed_ixL ?a ?b ?c ?k)); (case a => wtm_at "ed"); (case b => wtm_at "ev"); (case c => rfl); (case k => rfl))
  | ((with_reducible refine' Lk.ev_intI ?a); (case a => wtm_at "ev"))
  | ((with_reducible refine' Lk.ev_abs ?a); (case a => wtm_at "ev"))
  | ((with_reducible refine' Lk.ev_min ?a ?b); (case a => wtm_at "ev"); (case b => wtm_at "ev"))
  | ((with_reducible refine' Lk.ev_lenT ?a); (case a => wtm_at "ed"))
  | ((with_reducible refine' Lk.ev_lenL ?a); (case a => wtm_at "ed"))
  | ((with_reducible refine' Lk.ev_isiD ?a ?b); (case a => wtm_at "ed"); (case b => first
      | with_reducible exact Lk.kit_int _
      | with_reducible exact Lk.kit_bool _
      | with_reducible exact Lk.kit_tup _
      | with_reducible exact Lk.kit_lst _
      | with_reducible exact Lk.kit_str _
      | with_reducible exact Lk.kit_dct _))
  | fail "ev stops")
local macro_rules | `(tactic| wtm_at "ea") => `(tactic| first
  | with_reducible exact Evl.ea_nil
  | ((with_reducible refine' Evl.ea_cons ?a ?b); (case a => wtm_at "ev"); (case b => wtm_at "ea"))
  | fail "ea stops")
local macro_rules | `(tactic| wtm_at "sh") => `(tactic| first
  | rfl
  | assumption
  | decide
  | fail "sh stops")
local macro_rules | `(tactic| wtm_at "et") => `(tactic| first
  | ((with_reducible refine' Evl.et_test ?a); (case a => wtm_at "ev"))
  | ((with_reducible refine' Evl.et_B ?a); (case a => wtm_at "ev"))
  | ((with_reducible refine' Evl.et_and ?a ?b); (case a => wtm_at "et"); (case b => (intro hb; first | exact (Bool.false_ne_true hb).elim | exact (Bool.false_ne_true hb.symm).elim | wtm_at "et")); (all_goals try exact false))
  | ((with_reducible refine' Evl.et_or ?a ?b); (case a => wtm_at "et"); (case b => (intro hb; first | exact (Bool.false_ne_true hb).elim | exact (Bool.false_ne_true hb.symm).elim | wtm_at "et")); (all_goals try exact false))
  | ((with_reducible refine' Evl.et_not ?a); (case a => wtm_at "et"))
  | fail "et stops")

/-! part Pc -/
namespace K48
open PySem PySem.Spec PyProof.Rows L2 Evl Lk LamX Mk
theorem facts {w : World} {K : PySem.W.Frag} {h : Heap} {mg : Str → Option Value} {f : Addr} (X : K.In h) (G : h.Ns mainGlobals mg) (hfa : mg ("law" : Str) = some (.ref f)) (c : He.SaysX faL fnL [] tfL exL w h K) : LawAtS Lw w K (L2.CX Lw.prog w) 9 63 "script" mg f h := by
  have cd : He.SaysD faL fnL K := c.t.d
  have mo := c.more
  unfold exL at mo
  simp only [Bool.and_eq_true] at mo
  obtain ⟨x0, x1, x2, x3, x4, x5, x6, x7, x8, x9, x10, x11, x12, x13, x14, x15, x16, x17, x18, x19, x20, x21, x22, x23, x24, x25, x26, x27, x28, x29, x30, x31, x32⟩ := mo
  obtain ⟨fd__law_begun, F__law_begun⟩ := cd.def_ 0 (d := dd "_law_begun" s__law_begun) rfl
  have g__law_begun := He.glo_ok X G (cd.fact 0 (f := .glo "_law_begun") rfl)
  obtain ⟨fd__law_called, F__law_called⟩ := cd.def_ 1 (d := dd "_law_called" s__law_called) rfl
  have g__law_called := He.glo_ok X G (cd.fact 1 (f := .glo "_law_called") rfl)
  obtain ⟨fd__law_word, F__law_word⟩ := cd.def_ 2 (d := dd "_law_word" s__law_word) rfl
  have g__law_word := He.glo_ok X G (cd.fact 2 (f := .glo "_law_word") rfl)
  obtain ⟨fd__law_tick, F__law_tick⟩ := cd.def_ 3 (d := dd "_law_tick" s__law_tick) rfl
  have g__law_tick := He.glo_ok X G (cd.fact 3 (f := .glo "_law_tick") rfl)
  obtain ⟨fd__law_lift_walk, F__law_lift_walk⟩ := cd.def_ 4 (d := dd "_law_lift_walk" s__law_lift_walk) rfl
  have g__law_lift_walk := He.glo_ok X G (cd.fact 4 (f := .glo "_law_lift_walk") rfl)
  obtain ⟨fd_is_whole, F_is_whole⟩ := cd.def_ 5 (d := dd "is_whole" s_is_whole) rfl
  have g_is_whole := He.glo_ok X G (cd.fact 5 (f := .glo "is_whole") rfl)
  obtain ⟨fd_is_rule, F_is_rule⟩ := cd.def_ 6 (d := dd "is_rule" s_is_rule) rfl
  have g_is_rule := He.glo_ok X G (cd.fact 6 (f := .glo "is_rule") rfl)
  obtain ⟨fd_need_lift, F_need_lift⟩ := cd.def_ 7 (d := dd "need_lift" s_need_lift) rfl
  have g_need_lift := He.glo_ok X G (cd.fact 7 (f := .glo "need_lift") rfl)
  obtain ⟨fd_lift_signals, F_lift_signals⟩ := cd.def_ 8 (d := dd "lift_signals" s_lift_signals) rfl
  have g_lift_signals := He.glo_ok X G (cd.fact 8 (f := .glo "lift_signals") rfl)
  obtain ⟨fd_web_walked, F_web_walked⟩ := cd.def_ 9 (d := dd "web_walked" s_web_walked) rfl
  have g_web_walked := He.glo_ok X G (cd.fact 9 (f := .glo "web_walked") rfl)
  obtain ⟨fd_with_call, F_with_call⟩ := cd.def_ 10 (d := dd "with_call" s_with_call) rfl
  have g_with_call := He.glo_ok X G (cd.fact 10 (f := .glo "with_call") rfl)
  obtain ⟨fd_word_for, F_word_for⟩ := cd.def_ 11 (d := dd "word_for" s_word_for) rfl
  have g_word_for := He.glo_ok X G (cd.fact 11 (f := .glo "word_for") rfl)
  obtain ⟨fd_worked_off, F_worked_off⟩ := cd.def_ 12 (d := dd "worked_off" s_worked_off) rfl
  have g_worked_off := He.glo_ok X G (cd.fact 12 (f := .glo "worked_off") rfl)
  obtain ⟨fd_behind_signal, F_behind_signal⟩ := cd.def_ 13 (d := dd "behind_signal" s_behind_signal) rfl
  have g_behind_signal := He.glo_ok X G (cd.fact 13 (f := .glo "behind_signal") rfl)
  obtain ⟨fd_walked, F_walked⟩ := cd.def_ 14 (d := dd "walked" s_walked) rfl
  have g_walked := He.glo_ok X G (cd.fact 14 (f := .glo "walked") rfl)
  obtain ⟨fd_lift_web, F_lift_web⟩ := cd.def_ 15 (d := dd "lift_web" s_lift_web) rfl
  have g_lift_web := He.glo_ok X G (cd.fact 15 (f := .glo "lift_web") rfl)
  obtain ⟨fd_collective, F_collective⟩ := cd.def_ 16 (d := dd "collective" s_collective) rfl
  have g_collective := He.glo_ok X G (cd.fact 16 (f := .glo "collective") rfl)
  obtain ⟨fd_one_way, F_one_way⟩ := cd.def_ 17 (d := dd "one_way" s_one_way) rfl
  have g_one_way := He.glo_ok X G (cd.fact 17 (f := .glo "one_way") rfl)
  obtain ⟨fd__law_mixed, F__law_mixed⟩ := cd.def_ 18 (d := dd "_law_mixed" s__law_mixed) rfl
  have g__law_mixed := He.glo_ok X G (cd.fact 18 (f := .glo "_law_mixed") rfl)
  obtain ⟨fd__law_draw, F__law_draw⟩ := cd.def_ 19 (d := dd "_law_draw" s__law_draw) rfl
  have g__law_draw := He.glo_ok X G (cd.fact 19 (f := .glo "_law_draw") rfl)
  obtain ⟨fd__law_pick, F__law_pick⟩ := cd.def_ 20 (d := dd "_law_pick" s__law_pick) rfl
  have g__law_pick := He.glo_ok X G (cd.fact 20 (f := .glo "_law_pick") rfl)
  obtain ⟨fd__law_sheet, F__law_sheet⟩ := cd.def_ 21 (d := dd "_law_sheet" s__law_sheet) rfl
  have g__law_sheet := He.glo_ok X G (cd.fact 21 (f := .glo "_law_sheet") rfl)
  obtain ⟨fd__law_any_now, F__law_any_now⟩ := cd.def_ 22 (d := dd "_law_any_now" s__law_any_now) rfl
  have g__law_any_now := He.glo_ok X G (cd.fact 22 (f := .glo "_law_any_now") rfl)
  obtain ⟨fd_is_lift_standing, F_is_lift_standing⟩ := cd.def_ 23 (d := dd "is_lift_standing" s_is_lift_standing) rfl
  have g_is_lift_standing := He.glo_ok X G (cd.fact 23 (f := .glo "is_lift_standing") rfl)
  obtain ⟨fd_is_lift_signal, F_is_lift_signal⟩ := cd.def_ 24 (d := dd "is_lift_signal" s_is_lift_signal) rfl
  have g_is_lift_signal := He.glo_ok X G (cd.fact 24 (f := .glo "is_lift_signal") rfl)
  obtain ⟨fd_lift_step, F_lift_step⟩ := cd.def_ 25 (d := dd "lift_step" s_lift_step) rfl
  have g_lift_step := He.glo_ok X G (cd.fact 25 (f := .glo "lift_step") rfl)
  obtain ⟨fd_lift_standings, F_lift_standings⟩ := cd.def_ 26 (d := dd "lift_standings" s_lift_standings) rfl
  have g_lift_standings := He.glo_ok X G (cd.fact 26 (f := .glo "lift_standings") rfl)
  obtain ⟨fd__law_refusal, F__law_refusal⟩ := cd.def_ 27 (d := dd "_law_refusal" s__law_refusal) rfl
  have g__law_refusal := He.glo_ok X G (cd.fact 27 (f := .glo "_law_refusal") rfl)
  obtain ⟨fd__law_refusals_right, F__law_refusals_right⟩ := cd.def_ 28 (d := dd "_law_refusals_right" s__law_refusals_right) rfl
  have g__law_refusals_right := He.glo_ok X G (cd.fact 28 (f := .glo "_law_refusals_right") rfl)
  obtain ⟨fd__law_lift_web, F__law_lift_web⟩ := cd.def_ 29 (d := dd "_law_lift_web" s__law_lift_web) rfl
  have g__law_lift_web := He.glo_ok X G (cd.fact 29 (f := .glo "_law_lift_web") rfl)
  obtain ⟨fd_is_name, F_is_name⟩ := cd.def_ 30 (d := dd "is_name" s_is_name) rfl
  have g_is_name := He.glo_ok X G (cd.fact 30 (f := .glo "is_name") rfl)
  obtain ⟨fd_is_post, F_is_post⟩ := cd.def_ 31 (d := dd "is_post" s_is_post) rfl
  have g_is_post := He.glo_ok X G (cd.fact 31 (f := .glo "is_post") rfl)
  obtain ⟨fd_is_label, F_is_label⟩ := cd.def_ 32 (d := dd "is_label" s_is_label) rfl
  have g_is_label := He.glo_ok X G (cd.fact 32 (f := .glo "is_label") rfl)
  obtain ⟨fd_is_move, F_is_move⟩ := cd.def_ 33 (d := dd "is_move" s_is_move) rfl
  have g_is_move := He.glo_ok X G (cd.fact 33 (f := .glo "is_move") rfl)
  obtain ⟨fd_is_web, F_is_web⟩ := cd.def_ 34 (d := dd "is_web" s_is_web) rfl
  have g_is_web := He.glo_ok X G (cd.fact 34 (f := .glo "is_web") rfl)
  obtain ⟨fd__law_row_right, F__law_row_right⟩ := cd.def_ 35 (d := dd "_law_row_right" s__law_row_right) rfl
  have g__law_row_right := He.glo_ok X G (cd.fact 35 (f := .glo "_law_row_right") rfl)
  obtain ⟨fd_law, F_law⟩ := cd.def_ 36 (d := dd "law" s_law) rfl
  have g_law := He.glo_ok X G (cd.fact 36 (f := .glo "law") rfl)
  have g_KeptError := He.glo_ok X G (cd.fact 37 (f := .glo "KeptError") rfl)
  have g_BadFloors := He.glo_ok X G (cd.fact 38 (f := .glo "BadFloors") rfl)
  have g_BadRule := He.glo_ok X G (cd.fact 39 (f := .glo "BadRule") rfl)
  have g_BadSignal := He.glo_ok X G (cd.fact 40 (f := .glo "BadSignal") rfl)
  have g_BadStanding := He.glo_ok X G (cd.fact 41 (f := .glo "BadStanding") rfl)
  have g_BadStay := He.glo_ok X G (cd.fact 42 (f := .glo "BadStay") rfl)
  have T : Txt K mg := {
    n_abs := He.free_ok X G (cd.fact 49 (f := .free "abs") rfl)
    n_all := He.free_ok X G (cd.fact 50 (f := .free "all") rfl)
    n_any := He.free_ok X G (cd.fact 51 (f := .free "any") rfl)
    n_bool := He.free_ok X G (cd.fact 52 (f := .free "bool") rfl)
    n_dict := He.free_ok X G (cd.fact 53 (f := .free "dict") rfl)
    n_int := He.free_ok X G (cd.fact 54 (f := .free "int") rfl)
    n_isinstance := He.free_ok X G (cd.fact 55 (f := .free "isinstance") rfl)
    n_len := He.free_ok X G (cd.fact 56 (f := .free "len") rfl)
    n_list := He.free_ok X G (cd.fact 57 (f := .free "list") rfl)
    n_max := He.free_ok X G (cd.fact 58 (f := .free "max") rfl)
    n_min := He.free_ok X G (cd.fact 59 (f := .free "min") rfl)
    n_range := He.free_ok X G (cd.fact 60 (f := .free "range") rfl)
    n_set := He.free_ok X G (cd.fact 61 (f := .free "set") rfl)
    n_sorted := He.free_ok X G (cd.fact 62 (f := .free "sorted") rfl)
    n_str := He.free_ok X G (cd.fact 63 (f := .free "str") rfl)
    n_tuple := He.free_ok X G (cd.fact 64 (f := .free "tuple") rfl)
    n_zip := He.free_ok X G (cd.fact 65 (f := .free "zip") rfl)
    v_LETTERS := ⟨by
      obtain ⟨t, e⟩ := He.str_ok X G (cd.fact 43 (f := .str "LETTERS" "abcdefghijklmnopqrstuvwxyz") rfl)
      exact ⟨_, e, t, rfl⟩, fun _ => .str _⟩
    v_MOST_FLOORS := ⟨by
      obtain ⟨t, e⟩ := He.int_ok X G (cd.fact 44 (f := .int "MOST_FLOORS" 8) rfl)
      exact ⟨_, e, t, rfl⟩, fun _ => .int _⟩
    v_MOST_PLACES := ⟨by
      obtain ⟨t, e⟩ := He.int_ok X G (cd.fact 45 (f := .int "MOST_PLACES" 20000) rfl)
      exact ⟨_, e, t, rfl⟩, fun _ => .int _⟩
    v_MOST_STAY := ⟨by
      obtain ⟨t, e⟩ := He.int_ok X G (cd.fact 46 (f := .int "MOST_STAY" 6) rfl)
      exact ⟨_, e, t, rfl⟩, fun _ => .int _⟩
    v_TICK := ⟨⟨_, He.glo_ok X G (cd.fact 47 (f := .glo "TICK") rfl), rfl⟩, datB_ok 9 x30⟩
    v_WORDS := ⟨⟨_, He.glo_ok X G (cd.fact 48 (f := .glo "WORDS") rfl), rfl⟩, datB_ok 9 x31⟩
    x_BadFloors := by
      obtain ⟨y1, y2, y3, y4⟩ := He.exc_ok (cd.fact 66 (f := .exc "BadFloors") rfl)
      exact ⟨y1, g_BadFloors, y2, y3, y4⟩
    x_BadRule := by
      obtain ⟨y1, y2, y3, y4⟩ := He.exc_ok (cd.fact 67 (f := .exc "BadRule") rfl)
      exact ⟨y1, g_BadRule, y2, y3, y4⟩
    x_BadSignal := by
      obtain ⟨y1, y2, y3, y4⟩ := He.exc_ok (cd.fact 68 (f := .exc "BadSignal") rfl)
      exact ⟨y1, g_BadSignal, y2, y3, y4⟩
    x_BadStanding := by
      obtain ⟨y1, y2, y3, y4⟩ := He.exc_ok (cd.fact 69 (f := .exc "BadStanding") rfl)
      exact ⟨y1, g_BadStanding, y2, y3, y4⟩
    x_BadStay := by
      obtain ⟨y1, y2, y3, y4⟩ := He.exc_ok (cd.fact 70 (f := .exc "BadStay") rfl)
      exact ⟨y1, g_BadStay, y2, y3, y4⟩ }
  have Xk : Xf K := ⟨of_decide_eq_true x0, of_decide_eq_true x1, of_decide_eq_true x2, of_decide_eq_true x3, of_decide_eq_true x4, of_decide_eq_true x5, of_decide_eq_true x6, of_decide_eq_true x7, of_decide_eq_true x8, of_decide_eq_true x9, of_decide_eq_true x10, of_decide_eq_true x11, of_decide_eq_true x12, of_decide_eq_true x13, of_decide_eq_true x14, of_decide_eq_true x15, of_decide_eq_true x16, of_decide_eq_true x17, of_decide_eq_true x18, of_decide_eq_true x19, of_decide_eq_true x20, of_decide_eq_true x21, of_decide_eq_true x22, of_decide_eq_true x23, of_decide_eq_true x24, of_decide_eq_true x25, of_decide_eq_true x26, of_decide_eq_true x27, of_decide_eq_true x28, of_decide_eq_true x29⟩
  have Rc : Rg K mg := ⟨⟨_, fd__law_refusal, F__law_refusal, g__law_refusal⟩, g_BadFloors, g_BadStay, g_BadRule, g_BadStanding, g_BadSignal, g_KeptError⟩
  have e0 := hfa.symm.trans g_law
  cases e0
  refine ⟨fd_law, tfL.map (He.cT K), spM K (tT K) (d_law K), ?_, ?_, ?_, fun s u => FunD.bindsA (ps := ["script"]) F_law (fun _ _ _ _ _ _ us hl => match us, hl with | [_], _ => rfl) s [u] rfl, ?_, ?_⟩
  · intro p hp
    obtain ⟨q, hq, rfl⟩ := List.mem_map.mp hp
    exact c.empty q hq
  · intro p hp
    obtain ⟨q, hq, rfl⟩ := List.mem_map.mp hp
    exact c.out q hq
  · intro p hp
    obtain ⟨q, hq, rfl⟩ := List.mem_map.mp hp
    exact PySem.W.codeHd_of_K X (c.hd q hq)
  · intro H a ns hl hb hT hS
    refine sp_law (fun p hp => ?_) hS (law_ok Xk ns hl)
    unfold tT at hp
    simp only [List.mem_cons, List.not_mem_nil, or_false] at hp
    rcases hp with hp
    · subst hp
      exact TabS.nil (hT _ (List.mem_map.mpr ⟨("_law_refusals_right", none), by simp [tfL], rfl⟩))
  intro base KB GB TB
  have L__law_refusals_right : LamD K mg base (tT K) "_law_refusals_right" "_law_refusals_right.<locals>.<lambda>" := ⟨TB _ (List.mem_map.mpr ⟨("_law_refusals_right", none), by simp [tfL], rfl⟩), by simp [tT], lam_one (of_decide_eq_true x32) (by simp [tT])⟩
  have o__law_begun := ok__law_begun (P := Lw.prog) (w := w) (base := base) T F__law_begun
  have c__law_begun : Cd Lw.prog w K mg base (tT K) 1 "_law_begun" dBegun := cd_mk ((fnok_cx o__law_begun).imp fun _ _ _ _ q => sp_begun q) g__law_begun F__law_begun.kp (F__law_begun.bindsN fun _ _ _ _ _ _ us hl => match us, hl with | [_], _ => rfl)
  have o__law_mixed := ok__law_mixed (P := Lw.prog) (w := w) (base := base) T F__law_mixed
  have m__law_mixed : C__law_mixed Lw.prog w K mg base := ⟨_, _, _, o__law_mixed, g__law_mixed, F__law_mixed.kp, (F__law_mixed.bindsN fun _ _ _ _ _ _ us hl => match us, hl with | [_], _ => rfl)⟩
  have o__law_draw := ok__law_draw (P := Lw.prog) (w := w) (base := base) T m__law_mixed F__law_draw
  have c__law_draw : Cd Lw.prog w K mg base (tT K) 2 "_law_draw" dDraw := cd_mk ((fnok_cx o__law_draw).imp fun _ _ _ _ q => sp_draw q) g__law_draw F__law_draw.kp (F__law_draw.bindsN fun _ _ _ _ _ _ us hl => match us, hl with | [_, _], _ => rfl)
  have o__law_called := ok__law_called (P := Lw.prog) (w := w) (base := base) (TT := tT K) T F__law_called
  have c__law_called : Cd Lw.prog w K mg base (tT K) 1 "_law_called" (d__law_called K) := cd_mk o__law_called g__law_called F__law_called.kp (F__law_called.bindsN fun _ _ _ _ _ _ us hl => match us, hl with | [_, _], _ => rfl)
  have o__law_word := ok__law_word (P := Lw.prog) (w := w) (base := base) (TT := tT K) T F__law_word
  have c__law_word : Cd Lw.prog w K mg base (tT K) 1 "_law_word" (d__law_word K) := cd_mk o__law_word g__law_word F__law_word.kp (F__law_word.bindsN fun _ _ _ _ _ _ us hl => match us, hl with | [_, _, _, _], _ => rfl)
  have o__law_tick := ok__law_tick (P := Lw.prog) (w := w) (base := base) (TT := tT K) T c__law_word F__law_tick
  have c__law_tick : Cd Lw.prog w K mg base (tT K) 2 "_law_tick" (d__law_tick K) := cd_mk o__law_tick g__law_tick F__law_tick.kp (F__law_tick.bindsN fun _ _ _ _ _ _ us hl => match us, hl with | [_, _, _, _], _ => rfl)
  have o__law_lift_walk := ok__law_lift_walk (P := Lw.prog) (w := w) (base := base) (TT := tT K) T c__law_called c__law_tick F__law_lift_walk
  have c__law_lift_walk : Cd Lw.prog w K mg base (tT K) 3 "_law_lift_walk" (d__law_lift_walk K) := cd_mk o__law_lift_walk g__law_lift_walk F__law_lift_walk.kp (F__law_lift_walk.bindsN fun _ _ _ _ _ _ us hl => match us, hl with | [_, _, _], _ => rfl)
  have o_is_whole := ok_is_whole (P := Lw.prog) (w := w) (base := base) (TT := tT K) T F_is_whole
  have c_is_whole : Cd Lw.prog w K mg base (tT K) 1 "is_whole" (d_is_whole K) := cd_mk o_is_whole g_is_whole F_is_whole.kp (F_is_whole.bindsN fun _ _ _ _ _ _ us hl => match us, hl with | [_, _, _], _ => rfl)
  have o_is_rule := ok_is_rule (P := Lw.prog) (w := w) (base := base) (TT := tT K) T F_is_rule
  have c_is_rule : Cd Lw.prog w K mg base (tT K) 1 "is_rule" (d_is_rule K) := cd_mk o_is_rule g_is_rule F_is_rule.kp (F_is_rule.bindsN fun _ _ _ _ _ _ us hl => match us, hl with | [_], _ => rfl)
  have w_is_rule := cdk_mk (x := "is_rule") o_is_rule g_is_rule F_is_rule.kp (kbinds1 F_is_rule (p := "value") (fun _ _ _ _ _ _ _ => rfl) fun _ _ _ _ _ _ _ => rfl)
  have o_need_lift := ok_need_lift (P := Lw.prog) (w := w) (base := base) (TT := tT K) T c_is_whole c_is_rule F_need_lift
  have c_need_lift : Cd Lw.prog w K mg base (tT K) 2 "need_lift" (d_need_lift K) := cd_mk o_need_lift g_need_lift F_need_lift.kp (F_need_lift.bindsN fun _ _ _ _ _ _ us hl => match us, hl with | [_, _, _], _ => rfl)
  have o_lift_signals := ok_lift_signals (P := Lw.prog) (w := w) (base := base) (TT := tT K) T F_lift_signals
  have c_lift_signals : Cd Lw.prog w K mg base (tT K) 1 "lift_signals" (d_lift_signals K) := cd_mk o_lift_signals g_lift_signals F_lift_signals.kp (F_lift_signals.bindsN fun _ _ _ _ _ _ us hl => match us, hl with | [_], _ => rfl)
  have o_web_walked := ok_web_walked (P := Lw.prog) (w := w) (base := base) (TT := tT K) T c_lift_signals F_web_walked
  have c_web_walked : Cd Lw.prog w K mg base (tT K) 2 "web_walked" (d_web_walked K) := cd_mk o_web_walked g_web_walked F_web_walked.kp (F_web_walked.bindsN fun _ _ _ _ _ _ us hl => match us, hl with | [_, _], _ => rfl)
  have o_with_call := ok_with_call (P := Lw.prog) (w := w) (base := base) (TT := tT K) T F_with_call
  have c_with_call : Cd Lw.prog w K mg base (tT K) 1 "with_call" (d_with_call K) := cd_mk o_with_call g_with_call F_with_call.kp (F_with_call.bindsN fun _ _ _ _ _ _ us hl => match us, hl with | [_, _], _ => rfl)
  have o_word_for := ok_word_for (P := Lw.prog) (w := w) (base := base) (TT := tT K) T F_word_for
  have c_word_for : Cd Lw.prog w K mg base (tT K) 1 "word_for" (d_word_for K) := cd_mk o_word_for g_word_for F_word_for.kp (F_word_for.bindsN fun _ _ _ _ _ _ us hl => match us, hl with | [_, _, _, _], _ => rfl)
  have o_worked_off := ok_worked_off (P := Lw.prog) (w := w) (base := base) (TT := tT K) T c_word_for F_worked_off
  have c_worked_off : Cd Lw.prog w K mg base (tT K) 2 "worked_off" (d_worked_off K) := cd_mk o_worked_off g_worked_off F_worked_off.kp (F_worked_off.bindsN fun _ _ _ _ _ _ us hl => match us, hl with | [_, _, _, _], _ => rfl)
  have o_behind_signal := ok_behind_signal (P := Lw.prog) (w := w) (base := base) (TT := tT K) T c_worked_off c_with_call F_behind_signal
  have c_behind_signal : Cd Lw.prog w K mg base (tT K) 3 "behind_signal" (d_behind_signal K) := cd_mk o_behind_signal g_behind_signal F_behind_signal.kp (F_behind_signal.bindsN fun _ _ _ _ _ _ us hl => match us, hl with | [_, _, _, _, _], _ => rfl)
  have o_walked := ok_walked (P := Lw.prog) (w := w) (base := base) (TT := tT K) T c_lift_signals c_behind_signal F_walked
  have c_walked : Cd Lw.prog w K mg base (tT K) 4 "walked" (d_walked K) := cd_mk o_walked g_walked F_walked.kp (F_walked.bindsN fun _ _ _ _ _ _ us hl => match us, hl with | [_, _, _], _ => rfl)
  have o_lift_web := ok_lift_web (P := Lw.prog) (w := w) (base := base) (TT := tT K) T c_need_lift c_web_walked c_walked F_lift_web
  have c_lift_web : Cd Lw.prog w K mg base (tT K) 5 "lift_web" (d_lift_web K) := cd_mk o_lift_web g_lift_web F_lift_web.kp (F_lift_web.bindsN fun _ _ _ _ _ _ us hl => match us, hl with | [_, _, _], _ => rfl)
  have u_lift_web_012 := cdp_mk (x := "lift_web") (p := [0, 1, 2]) ⟨by decide, by decide⟩ o_lift_web g_lift_web F_lift_web.kp (kbindsP (ks := ["floors", "stay", "rule"]) F_lift_web ⟨by decide, by decide⟩ rfl (by decide) (fun _ _ _ _ _ _ ws hl => match ws, hl with | [a0, a1, a2], _ => rfl))
  have o_collective := ok_collective (P := Lw.prog) (w := w) (base := base) (TT := tT K) T F_collective
  have c_collective : Cd Lw.prog w K mg base (tT K) 1 "collective" (d_collective K) := cd_mk o_collective g_collective F_collective.kp (F_collective.bindsN fun _ _ _ _ _ _ us hl => match us, hl with | [], _ => rfl)
  have o_one_way := ok_one_way (P := Lw.prog) (w := w) (base := base) (TT := tT K) T c_collective F_one_way
  have c_one_way : Cd Lw.prog w K mg base (tT K) 2 "one_way" (d_one_way K) := cd_mk o_one_way g_one_way F_one_way.kp (F_one_way.bindsN fun _ _ _ _ _ _ us hl => match us, hl with | [], _ => rfl)
  have o__law_pick := ok__law_pick (P := Lw.prog) (w := w) (base := base) (TT := tT K) T c__law_draw F__law_pick
  have c__law_pick : Cd Lw.prog w K mg base (tT K) 3 "_law_pick" (d__law_pick K) := cd_mk o__law_pick g__law_pick F__law_pick.kp (F__law_pick.bindsN fun _ _ _ _ _ _ us hl => match us, hl with | [_, _], _ => rfl)
  have o__law_sheet := ok__law_sheet (P := Lw.prog) (w := w) (base := base) (TT := tT K) T c__law_pick c__law_draw F__law_sheet
  have c__law_sheet : Cd Lw.prog w K mg base (tT K) 4 "_law_sheet" (d__law_sheet K) := cd_mk o__law_sheet g__law_sheet F__law_sheet.kp (F__law_sheet.bindsN fun _ _ _ _ _ _ us hl => match us, hl with | [_], _ => rfl)
  have o__law_any_now := ok__law_any_now (P := Lw.prog) (w := w) (base := base) (TT := tT K) T c__law_draw F__law_any_now
  have c__law_any_now : Cd Lw.prog w K mg base (tT K) 3 "_law_any_now" (d__law_any_now K) := cd_mk o__law_any_now g__law_any_now F__law_any_now.kp (F__law_any_now.bindsN fun _ _ _ _ _ _ us hl => match us, hl with | [_, _, _], _ => rfl)
  have o_is_lift_standing := ok_is_lift_standing (P := Lw.prog) (w := w) (base := base) (TT := tT K) T c_is_whole F_is_lift_standing
  have c_is_lift_standing : Cd Lw.prog w K mg base (tT K) 2 "is_lift_standing" (d_is_lift_standing K) := cd_mk o_is_lift_standing g_is_lift_standing F_is_lift_standing.kp (F_is_lift_standing.bindsN fun _ _ _ _ _ _ us hl => match us, hl with | [_, _, _], _ => rfl)
  have o_is_lift_signal := ok_is_lift_signal (P := Lw.prog) (w := w) (base := base) (TT := tT K) T c_is_whole F_is_lift_signal
  have c_is_lift_signal : Cd Lw.prog w K mg base (tT K) 2 "is_lift_signal" (d_is_lift_signal K) := cd_mk o_is_lift_signal g_is_lift_signal F_is_lift_signal.kp (F_is_lift_signal.bindsN fun _ _ _ _ _ _ us hl => match us, hl with | [_, _], _ => rfl)
  have o_lift_step := ok_lift_step (P := Lw.prog) (w := w) (base := base) (TT := tT K) T c_need_lift c_is_lift_standing c_is_lift_signal c_behind_signal F_lift_step
  have c_lift_step : Cd Lw.prog w K mg base (tT K) 4 "lift_step" (d_lift_step K) := cd_mk o_lift_step g_lift_step F_lift_step.kp (F_lift_step.bindsN fun _ _ _ _ _ _ us hl => match us, hl with | [_, _, _, _, _], _ => rfl)
  have u_lift_step_43210 := cdp_mk (x := "lift_step") (p := [4, 3, 2, 1, 0]) ⟨by decide, by decide⟩ o_lift_step g_lift_step F_lift_step.kp (kbindsP (ks := ["signal", "standing", "rule", "stay", "floors"]) F_lift_step ⟨by decide, by decide⟩ rfl (by decide) (fun _ _ _ _ _ _ ws hl => match ws, hl with | [a0, a1, a2, a3, a4], _ => rfl))
  have o_lift_standings := ok_lift_standings (P := Lw.prog) (w := w) (base := base) (TT := tT K) T c_need_lift c_walked F_lift_standings
  have c_lift_standings : Cd Lw.prog w K mg base (tT K) 5 "lift_standings" (d_lift_standings K) := cd_mk o_lift_standings g_lift_standings F_lift_standings.kp (F_lift_standings.bindsN fun _ _ _ _ _ _ us hl => match us, hl with | [_, _, _], _ => rfl)
  have u_lift_standings_012 := cdp_mk (x := "lift_standings") (p := [0, 1, 2]) ⟨by decide, by decide⟩ o_lift_standings g_lift_standings F_lift_standings.kp (kbindsP (ks := ["floors", "stay", "rule"]) F_lift_standings ⟨by decide, by decide⟩ rfl (by decide) (fun _ _ _ _ _ _ ws hl => match ws, hl with | [a0, a1, a2], _ => rfl))
  have o__law_refusals_right := ok__law_refusals_right (P := Lw.prog) (w := w) (base := base) (TT := tT K) T Rc L__law_refusals_right c__law_pick c_lift_step c_lift_standings c_lift_web c_is_rule w_is_rule F__law_refusals_right rfl
  have c__law_refusals_right : Cd Lw.prog w K mg base (tT K) 8 "_law_refusals_right" (d__law_refusals_right K) := cd_mk o__law_refusals_right g__law_refusals_right F__law_refusals_right.kp (F__law_refusals_right.bindsN fun _ _ _ _ _ _ us hl => match us, hl with | [_, _, _, _, _], _ => rfl)
  have o__law_lift_web := ok__law_lift_web (P := Lw.prog) (w := w) (base := base) (TT := tT K) T F__law_lift_web
  have c__law_lift_web : Cd Lw.prog w K mg base (tT K) 1 "_law_lift_web" (d__law_lift_web K) := cd_mk o__law_lift_web g__law_lift_web F__law_lift_web.kp (F__law_lift_web.bindsN fun _ _ _ _ _ _ us hl => match us, hl with | [_, _], _ => rfl)
  have o_is_name := ok_is_name (P := Lw.prog) (w := w) (base := base) (TT := tT K) T F_is_name
  have c_is_name : Cd Lw.prog w K mg base (tT K) 1 "is_name" (d_is_name K) := cd_mk o_is_name g_is_name F_is_name.kp (F_is_name.bindsN fun _ _ _ _ _ _ us hl => match us, hl with | [_], _ => rfl)
  have o_is_post := ok_is_post (P := Lw.prog) (w := w) (base := base) (TT := tT K) T c_is_name F_is_post
  have c_is_post : Cd Lw.prog w K mg base (tT K) 2 "is_post" (d_is_post K) := cd_mk o_is_post g_is_post F_is_post.kp (F_is_post.bindsN fun _ _ _ _ _ _ us hl => match us, hl with | [_], _ => rfl)
  have o_is_label := ok_is_label (P := Lw.prog) (w := w) (base := base) (TT := tT K) T F_is_label
  have c_is_label : Cd Lw.prog w K mg base (tT K) 1 "is_label" (d_is_label K) := cd_mk o_is_label g_is_label F_is_label.kp (F_is_label.bindsN fun _ _ _ _ _ _ us hl => match us, hl with | [_], _ => rfl)
  have o_is_move := ok_is_move (P := Lw.prog) (w := w) (base := base) (TT := tT K) T c_is_whole c_is_label c_is_post F_is_move
  have c_is_move : Cd Lw.prog w K mg base (tT K) 3 "is_move" (d_is_move K) := cd_mk o_is_move g_is_move F_is_move.kp (F_is_move.bindsN fun _ _ _ _ _ _ us hl => match us, hl with | [_, _], _ => rfl)
  have o_is_web := ok_is_web (P := Lw.prog) (w := w) (base := base) (TT := tT K) T c_is_whole c_is_move F_is_web
  have c_is_web : Cd Lw.prog w K mg base (tT K) 4 "is_web" (d_is_web K) := cd_mk o_is_web g_is_web F_is_web.kp (F_is_web.bindsN fun _ _ _ _ _ _ us hl => match us, hl with | [_], _ => rfl)
  have o__law_row_right := ok__law_row_right (P := Lw.prog) (w := w) (base := base) (TT := tT K) T c_lift_standings c__law_draw c_lift_step F__law_row_right
  have c__law_row_right : Cd Lw.prog w K mg base (tT K) 6 "_law_row_right" (d__law_row_right K) := cd_mk o__law_row_right g__law_row_right F__law_row_right.kp (F__law_row_right.bindsN fun _ _ _ _ _ _ us hl => match us, hl with | [_, _, _, _, _], _ => rfl)
  exact ok_law (P := Lw.prog) (w := w) (base := base) (TT := tT K) T c__law_begun c_one_way c_collective c__law_sheet c__law_draw c__law_pick c__law_lift_walk c_lift_web u_lift_web_012 c__law_lift_web u_lift_standings_012 c__law_row_right c_is_web c__law_any_now c__law_called c__law_tick c_lift_step u_lift_step_43210 c__law_refusals_right F_law
end K48

/-! part Po -/
namespace K48
open PySem PySem.Spec PyProof.Rows L2
end K48
open PySem PySem.W PySem.Calls PyProof.Rows
theorem PySem.Challenge.cw_housekept_k48_lifts_step_by_step_holds : PySem.Challenge.rw_housekept_k48_lifts_step_by_step.Holds := by
  w_on; o_law
  refine HandSHeadRun.head_any (r := K48.Rw) (q := view K48.Rw.prog [53]) (H := K48.hkL) (ob := K48.obL) (M := 4000) (loose := K48.looseL) (d := HandSHeadRun.topDef K48.Rw.prog 53) (kwd := []) K48.obL_eq
    (by kernel_rfl) (fun s => by kernel_rfl) K48.run (by kernel_rfl) (by kernel_rfl) (by kernel_rfl) (by rfl) (by first | assumption | decide +kernel) (by decide +kernel) ⟨rfl, rfl, rfl, rfl, rfl, by decide +kernel⟩ ?hw ?hc
  case hw => w_witness2
  case hc =>
    refine LamX.walk_ofTsE (l := K48.Lw) (n := 63) (k := 9) (x := "script") (CX := fun w => L2.CX K48.Lw.prog w) rfl (by decide) (by kernel_rfl) ⟨rfl, by decide, by decide⟩ ?F (fun _ _ _ _ _ z => by
      obtain ⟨_, _, _, _, _, _, _, _, _, _, _, _, z⟩ := z
      exact z)
    intro w mg fa h Y G hmg0
    obtain ⟨K, KX, c⟩ := Y
    have hmg : mg ("law" : PySem.Str) = some (.ref fa) := by
      have e : (HandSHeadRun.topDef K48.Rw.prog 53).name = ("law" : PySem.Str) := by kernel_rfl
      rw [← e]
      exact hmg0
    exact ⟨K, KX, K48.facts KX G hmg c⟩

end
