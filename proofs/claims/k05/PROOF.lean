import PyProof.Rows.All
import PySem.Challenge.RW_hawserweb_k05_webs_refused
import Wide.All
import OpenK.AllK
import Wide.FinOn
import HandS.ForMost
import HandS.Wide
import HandS.Exc
import HandS.ExcOwn
import HandS.ExcInit
import HandS.Head0
import HandS.Head1
import HandS.Head2
import HandS.HeadEnd
import HandS.HeadHook1
import HandS.HeadHook2
import KE.KNestM
import KE.KTryMore
import HandS.ExcField
import KE.KExcInit
import HandS.HeadHook3
import HandS.TryOnly
import HandS.TryMany
import HandS.WordsExc
import HandS.CallSlots
import HandS.TupAny
import HandS.IsInst
import HandS.Flow
import HandS.Lambda
import HandS.Style
import HandS.FStr
import HandS.RaiseMore
import HandS.Dict
import KE.KUnpackStar
import HandS.Iter
import KE.GoesEnumKw
import HandS.Defaults
import HandS.OwnEq
import KE.GoesMore
import KE.GoesEnum
import HandS.Deep
import HandS.HeadWalk
import KE.KExcStr
import HandS.Small
import HandS.List
import HandS.DictEq
import HandS.DeepEq
import PyProof.P3Eq
import HandS.WrittenGet
import HandS.TupMul
import HandS.More
set_option Elab.async false
set_option linter.all false
set_option maxRecDepth 100000
set_option maxHeartbeats 4000000
set_option autoImplicit false
/-! what the head decides: ahead of all else, for its run wants room -/
namespace Dv
open PySem PySem.Spec PyProof.Rows L2
abbrev tys : List String := ["NoneType", "bool", "int", "str", "tuple", "list", "dict"]
abbrev clss : List String := ["bool", "int", "str", "tuple", "list", "dict"]
/-- the classes' addresses by name -/
abbrev CL := List (String × Addr)
def clsB (K : PySem.W.Frag) (L : CL) : Bool := L.all fun p => tys.all (fun t => PySem.W.kitOne K (.type t) (.ref p.2) == some false) && clss.all (fun t => PySem.W.kitOne K (.ref p.2) (.type t) == some false) &&
  L.all fun q => PySem.W.kitOne K (.ref p.2) (.ref q.2) == some (p.1 == q.1)
abbrev bmVE : List Value := [.type "ValueError", .type "Exception", .type "BaseException", .type "object"]
abbrev bmLE : List Value := [.type "LookupError", .type "Exception", .type "BaseException", .type "object"]
abbrev bmIE : List Value := [.type "IndexError", .type "LookupError", .type "Exception", .type "BaseException", .type "object"]
def oexGB (K : PySem.W.Frag) (C : Addr) : Bool := match K.lookup C with
  | some ⟨.type "type", _, .cls cd, sl⟩ => (match cd.mro, sl.toList with
    | .ref C' :: bm, [_, _, _, _, some (.builtin n), _] => C' == C && !cd.hasDel && cd.hasDict && ((n == "ValueError.__new__" && PySem.W.excTail bmVE bm) || (n == "LookupError.__new__" && PySem.W.excTail bmLE bm) || (n == "IndexError.__new__" && PySem.W.excTail bmIE bm))
    | _, _ => false)
  | _ => false
abbrev Test : Type := PySem.W.Frag → Bool
def obsL (fs : List Test) (fn : List He.DefD) (K : PySem.W.Frag) : He.AlD := ((fs.all fun f => f K) && fn.all fun d => d.ok K, fn.map fun d => He.fnW K d.at_)
def SaysL (fs : List Test) (fn : List He.DefD) (K : PySem.W.Frag) : Prop := obsL fs fn K = He.valD fn
/-! ### tables of code objects: left out of K -/
def isTab : Option Obj → Bool
  | some ⟨.none, none, .fields vs, sl⟩ => vs.toList.isEmpty && sl.toList.isEmpty
  | _ => false
theorem isTab_ok {o : Option Obj} (h : isTab o = true) : o = some { cls := .none, data := .fields #[] } := by
  unfold isTab at h
  split at h
  · rename_i vs sl
    rw [Bool.and_eq_true, List.isEmpty_iff, List.isEmpty_iff] at h
    obtain ⟨h1, h2⟩ := h
    obtain ⟨l1⟩ := vs
    obtain ⟨l2⟩ := sl
    cases (show l1 = [] from h1)
    cases (show l2 = [] from h2)
    rfl
  · cases h
/-- a def's code object and its table -/
def tabAt (K : PySem.W.Frag) (n : Str × Option Str) : Addr × Addr := match K.lookup (He.fAd K n) with
  | some ⟨_, _, .func fd, _⟩ => (match fd.code with
    | .ref c => (match K.lookup c with
      | some ⟨_, _, .fields vs, _⟩ => (match (vs[11]? : Option Value) with
        | some (.ref P) => (c, P)
        | _ => (0, 0))
      | _ => (0, 0))
    | _ => (0, 0))
  | _ => (0, 0)
theorem tabAt_code {K : PySem.W.Frag} {n : Str × Option Str} {oc : Value} {od : Option Addr} {fd : FuncData} {sl : Array (Option Value)} (hl : K.lookup (He.fAd K n) = some ⟨oc, od, .func fd, sl⟩) (h : PySem.W.codeHdIn K (tabAt K n).1 (tabAt K n).2 = true) : fd.code = .ref (tabAt K n).1 := by
  have bad : PySem.W.codeHdIn K 0 0 ≠ true := by
    unfold PySem.W.codeHdIn
    split
    · simp
    · simp
  unfold tabAt at h ⊢
  rw [hl] at h ⊢
  dsimp only at h ⊢
  split at h
  · rename_i c ec
    split at h
    · rename_i e1
      split at h
      · rename_i P e2
        rw [ec]
      · exact absurd h bad
    · exact absurd h bad
  · exact absurd h bad
def frT (g : Addr → Option Obj) (as : List Addr) : PySem.W.Frag := He.frG g (as.filter fun a => !isTab (g a))
def tabT (g : Addr → Option Obj) (K : PySem.W.Frag) (n : Str × Option Str) : Bool := PySem.W.codeHdIn K (tabAt K n).1 (tabAt K n).2 && (isTab (g (tabAt K n).2) && (K.lookup (tabAt K n).2).isNone)
def SaysT (ns : List (Str × Option Str)) (K : PySem.W.Frag) (h : Heap) : Prop := ∀ n ∈ ns, PySem.W.codeHdIn K (tabAt K n).1 (tabAt K n).2 = true ∧ h.get? (tabAt K n).2 = some { cls := .none, data := .fields #[] } ∧ K.lookup (tabAt K n).2 = none
def obsTK (fs : List Test) (fn : List He.DefD) (ns : List (Str × Option Str)) (g : Addr → Option Obj) (K : PySem.W.Frag) : He.AlD × Bool := (obsL fs fn K, ns.all fun n => tabT g K n)
def obsTG (as : List Addr) (fs : List Test) (fn : List He.DefD) (ns : List (Str × Option Str)) (g : Addr → Option Obj) : He.AlD × Bool := obsTK fs fn ns g (frT g as)
def hookT (as : List Addr) (fs : List Test) (fn : List He.DefD) (ns : List (Str × Option Str)) : PySem.W.Hook where
  α := He.AlD × Bool
  obs := fun s => obsTG as fs fn ns s.heap.get?
  val := fun _ => (He.valD fn, true)
  says := fun _ h => ∃ K : PySem.W.Frag, K.In h ∧ SaysL fs fn K ∧ SaysT ns K h
  of := fun _ _ e => ⟨_, He.frG_in, congrArg Prod.fst e, fun n hn => by
    have z := List.all_eq_true.mp (congrArg Prod.snd e) n hn
    unfold tabT at z
    rw [Bool.and_eq_true, Bool.and_eq_true, Option.isNone_iff_eq_none] at z
    exact ⟨z.1, isTab_ok z.2.1, z.2.2⟩⟩
  keeps := fun _ _ _ ⟨K, hK, c, d⟩ k => ⟨K, PySem.W.Frag.In.keeps hK k, c, fun n hn => ⟨(d n hn).1, k _ _ (d n hn).2.1, (d n hn).2.2⟩⟩
theorem obsTG_eq {as : List Addr} {fs : List Test} {fn : List He.DefD} {ns : List (Str × Option Str)} {g : Addr → Option Obj} {s : Shared} (h : ∀ a, g a = s.heap.get? a) : obsTG as fs fn ns g = (hookT as fs fn ns).obs s := by
  have e : g = s.heap.get? := funext h
  rw [e] <;> rfl
/-! ### a world whose answer to one question is told -/
def w1 (w : World) (b : Bool) : World := { w with params := { w.params with followText := fun s => match decide (s = "special-get-raises") with
  | true => b
  | false => w.params.followText s } }
/-! ### tables of the top with text keys -/
abbrev TabD : Type := (PySem.W.Frag → Addr) × List Str
def SaysW (ts : List TabD) (w : World) (K : PySem.W.Frag) : Prop := (ts.map fun t => He.dicW K (t.1 K)) = ts.map fun t => some (He.keysIn w.params t.2)
theorem SaysW.tab {ts : List TabD} {w : World} {K : PySem.W.Frag} (c : SaysW ts w K) (i : Nat) {t : TabD} (h : ts[i]? = some t := by rfl) : He.dicW K (t.1 K) = some (He.keysIn w.params t.2) := by
  have e2 : (ts.map fun t => He.dicW K (t.1 K))[i]? = (ts.map fun t => some (He.keysIn w.params t.2))[i]? := by rw [show (ts.map fun t => He.dicW K (t.1 K)) = _ from c]
  rw [List.getElem?_map, List.getElem?_map, h] at e2
  exact Option.some.inj e2
/-- the clauses: classes, and the field that is told -/
abbrev FCl := List (List Addr × Option Str)
/-- the first clause that takes C -/
def fldB (K : PySem.W.Frag) (C : Addr) : FCl → Option (Option Str)
  | [] => none
  | (cs, f) :: l => match PySem.W.exmAny K (.ref C) (cs.map Value.ref) with
    | some true => some f
    | some false => fldB K C l
    | none => none
def tuB (T : List (Addr × Str)) : Bool := T.all fun p => T.all fun q => decide (p.1 ≠ q.1) || decide (p.2 = q.2)
theorem tuB_ok {T : List (Addr × Str)} (h : tuB T = true) : ∀ p ∈ T, ∀ q ∈ T, p.1 = q.1 → p.2 = q.2 := fun p hp q hq e => by
  have z := List.all_eq_true.mp (List.all_eq_true.mp h p hp) q hq
  rw [Bool.or_eq_true, decide_eq_true_eq, decide_eq_true_eq] at z
  exact z.resolve_left fun n => n e
end Dv
set_option Elab.async false
set_option linter.all false
set_option maxRecDepth 100000
set_option maxHeartbeats 4000000
set_option autoImplicit false
namespace Lw
open PySem PySem.Spec PyProof.Rows L2 Dv
def topS (i : Nat) : Stmt := PySem.Challenge.pw_hawserweb_k05_webs_refused.main.body.getD i (.Pass ⟨0, 0, 0, 0⟩)
abbrev s_law_field : Stmt := topS 42
theorem sc_law_field : FnScope ["_law_ask", "_law_found", "e"] ["_law_ask"] (defScope s_law_field) := ⟨rfl, rfl, rfl, by decide +kernel, rfl, by decide +kernel, by decide +kernel⟩
abbrev s_Web_dinit : Stmt := inClass (topS 32) 0
theorem sc_Web_dinit : FnScope ["self"] ["self"] (defScope s_Web_dinit) := ⟨rfl, rfl, rfl, by decide +kernel, rfl, by decide +kernel, by decide +kernel⟩
abbrev s_Web_dlen : Stmt := inClass (topS 32) 2
theorem sc_Web_dlen : FnScope ["self"] ["self"] (defScope s_Web_dlen) := ⟨rfl, rfl, rfl, by decide +kernel, rfl, by decide +kernel, by decide +kernel⟩
abbrev s_is_name : Stmt := topS 30
theorem sc_is_name : FnScope ["text", "sign"] ["text"] (defScope s_is_name) := ⟨rfl, rfl, rfl, by decide +kernel, rfl, by decide +kernel, by decide +kernel⟩
abbrev s_Web_need_new : Stmt := inClass (topS 32) 5
theorem sc_Web_need_new : FnScope ["self", "name", "road"] ["self", "name"] (defScope s_Web_need_new) := ⟨rfl, rfl, rfl, by decide +kernel, rfl, by decide +kernel, by decide +kernel⟩
abbrev s_Web_need_yard : Stmt := inClass (topS 32) 6
theorem sc_Web_need_yard : FnScope ["self", "name"] ["self", "name"] (defScope s_Web_need_yard) := ⟨rfl, rfl, rfl, by decide +kernel, rfl, by decide +kernel, by decide +kernel⟩
abbrev s_Web_turned : Stmt := inClass (topS 32) 4
theorem sc_Web_turned : FnScope ["self", "places", "roads", "made"] ["self", "places", "roads"] (defScope s_Web_turned) := ⟨rfl, rfl, rfl, by decide +kernel, rfl, by decide +kernel, by decide +kernel⟩
abbrev s_is_whole : Stmt := topS 26
theorem sc_is_whole : FnScope ["thing", "low", "high"] ["thing", "low", "high"] (defScope s_is_whole) := ⟨rfl, rfl, rfl, by decide +kernel, rfl, by decide +kernel, by decide +kernel⟩
abbrev s_need_turns : Stmt := topS 31
theorem sc_need_turns : FnScope ["number"] ["number"] (defScope s_need_turns) := ⟨rfl, rfl, rfl, by decide +kernel, rfl, by decide +kernel, by decide +kernel⟩
abbrev s_Web_with_passage : Stmt := inClass (topS 32) 8
theorem sc_Web_with_passage : FnScope ["self", "name", "begin", "end", "here", "there", "yard", "number"] ["self", "name", "begin", "end", "here", "there"] (defScope s_Web_with_passage) := ⟨rfl, rfl, rfl, by decide +kernel, rfl, by decide +kernel, by decide +kernel⟩
abbrev s_Web_with_yard : Stmt := inClass (topS 32) 7
theorem sc_Web_with_yard : FnScope ["self", "name"] ["self", "name"] (defScope s_Web_with_yard) := ⟨rfl, rfl, rfl, by decide +kernel, rfl, by decide +kernel, by decide +kernel⟩
abbrev s_law_draw : Stmt := topS 35
theorem sc_law_draw : FnScope ["_law_flow_here", "_law_size", "_law_found", "_law_cell", "_law_base"] ["_law_flow_here", "_law_size"] (defScope s_law_draw) := ⟨rfl, rfl, rfl, by decide +kernel, rfl, by decide +kernel, by decide +kernel⟩
abbrev s_law_flow : Stmt := topS 34
theorem sc_law_flow : FnScope ["_law_script"] ["_law_script"] (defScope s_law_flow) := ⟨rfl, rfl, rfl, by decide +kernel, rfl, by decide +kernel, by decide +kernel⟩
abbrev s_law_new_due : Stmt := topS 45
theorem sc_law_new_due : FnScope ["_law_m", "_law_name", "_law_sign", "_law_road_here"] ["_law_m", "_law_name"] (defScope s_law_new_due) := ⟨rfl, rfl, rfl, by decide +kernel, rfl, by decide +kernel, by decide +kernel⟩
abbrev s_law_pick : Stmt := topS 36
theorem sc_law_pick : FnScope ["_law_flow_here", "_law_lot"] ["_law_flow_here", "_law_lot"] (defScope s_law_pick) := ⟨rfl, rfl, rfl, by decide +kernel, rfl, by decide +kernel, by decide +kernel⟩
abbrev s_law_odd_name : Stmt := topS 44
theorem sc_law_odd_name : FnScope ["_law_flow_here"] ["_law_flow_here"] (defScope s_law_odd_name) := ⟨rfl, rfl, rfl, by decide +kernel, rfl, by decide +kernel, by decide +kernel⟩
abbrev s_law_new_name : Stmt := topS 47
theorem sc_law_new_name : FnScope ["_law_flow_here", "_law_m", "_law_some", "_law_road_here"] ["_law_flow_here", "_law_m"] (defScope s_law_new_name) := ⟨rfl, rfl, rfl, by decide +kernel, rfl, by decide +kernel, by decide +kernel⟩
abbrev s_law_road_due : Stmt := topS 46
theorem sc_law_road_due : FnScope ["_law_m", "_law_name", "_law_begin", "_law_end", "_law_near", "_law_beyond", "_law_due", "_law_yard", "_law_number"] ["_law_m", "_law_name", "_law_begin", "_law_end", "_law_near", "_law_beyond"] (defScope s_law_road_due) := ⟨rfl, rfl, rfl, by decide +kernel, rfl, by decide +kernel, by decide +kernel⟩
abbrev s_law_same : Stmt := topS 37
theorem sc_law_same : FnScope ["_law_found", "_law_due", "_law_k"] ["_law_found", "_law_due"] (defScope s_law_same) := ⟨rfl, rfl, rfl, by decide +kernel, rfl, by decide +kernel, by decide +kernel⟩
abbrev s_Web_drepr : Stmt := inClass (topS 32) 3
theorem sc_Web_drepr : FnScope ["self"] ["self"] (defScope s_Web_drepr) := ⟨rfl, rfl, rfl, by decide +kernel, rfl, by decide +kernel, by decide +kernel⟩
abbrev s_Web_road_of : Stmt := inClass (topS 32) 13
theorem sc_Web_road_of : FnScope ["self", "name", "road"] ["self", "name"] (defScope s_Web_road_of) := ⟨rfl, rfl, rfl, by decide +kernel, rfl, by decide +kernel, by decide +kernel⟩
abbrev s_Web_turned_so : Stmt := inClass (topS 32) 16
theorem sc_Web_turned_so : FnScope ["self", "step", "at", "name", "way", "road"] ["self", "step", "at"] (defScope s_Web_turned_so) := ⟨rfl, rfl, rfl, by decide +kernel, rfl, by decide +kernel, by decide +kernel⟩
abbrev s_Web_ends : Stmt := inClass (topS 32) 14
theorem sc_Web_ends : FnScope ["self", "step"] ["self", "step"] (defScope s_Web_ends) := ⟨rfl, rfl, rfl, by decide +kernel, rfl, by decide +kernel, by decide +kernel⟩
abbrev s_Web_passages : Stmt := inClass (topS 32) 11
theorem sc_Web_passages : FnScope ["self"] ["self"] (defScope s_Web_passages) := ⟨rfl, rfl, rfl, by decide +kernel, rfl, by decide +kernel, by decide +kernel⟩
abbrev s_Web_rule : Stmt := inClass (topS 32) 15
theorem sc_Web_rule : FnScope ["self", "step"] ["self", "step"] (defScope s_Web_rule) := ⟨rfl, rfl, rfl, by decide +kernel, rfl, by decide +kernel, by decide +kernel⟩
abbrev s_Web_steps_from : Stmt := inClass (topS 32) 12
theorem sc_Web_steps_from : FnScope ["self", "yard", "found", "name", "begin", "end", "rest"] ["self", "yard"] (defScope s_Web_steps_from) := ⟨rfl, rfl, rfl, by decide +kernel, rfl, by decide +kernel, by decide +kernel⟩
abbrev s_Web_yards : Stmt := inClass (topS 32) 10
theorem sc_Web_yards : FnScope ["self"] ["self"] (defScope s_Web_yards) := ⟨rfl, rfl, rfl, by decide +kernel, rfl, by decide +kernel, by decide +kernel⟩
abbrev s_law_road : Stmt := topS 38
theorem sc_law_road : FnScope ["_law_m", "_law_name", "_law_road_here"] ["_law_m", "_law_name"] (defScope s_law_road) := ⟨rfl, rfl, rfl, by decide +kernel, rfl, by decide +kernel, by decide +kernel⟩
abbrev s_law_ends : Stmt := topS 39
theorem sc_law_ends : FnScope ["_law_m", "_law_step", "_law_road_here"] ["_law_m", "_law_step"] (defScope s_law_ends) := ⟨rfl, rfl, rfl, by decide +kernel, rfl, by decide +kernel, by decide +kernel⟩
abbrev s_law_rule : Stmt := topS 40
theorem sc_law_rule : FnScope ["_law_m", "_law_step", "_law_road_here"] ["_law_m", "_law_step"] (defScope s_law_rule) := ⟨rfl, rfl, rfl, by decide +kernel, rfl, by decide +kernel, by decide +kernel⟩
abbrev s_law_steps_from : Stmt := topS 41
theorem sc_law_steps_from : FnScope ["_law_m", "_law_yard", "_law_found", "_law_name", "_law_begin", "_law_end", "_law_near", "_law_beyond"] ["_law_m", "_law_yard"] (defScope s_law_steps_from) := ⟨rfl, rfl, rfl, by decide +kernel, rfl, by decide +kernel, by decide +kernel⟩
abbrev s_law_webs_stand : Stmt := topS 43
theorem sc_law_webs_stand : FnScope ["_law_web", "_law_m", "_law_shown", "_law_found", "_law_yard", "_law_road_here", "_law_side", "_law_step"] ["_law_web", "_law_m"] (defScope s_law_webs_stand) := ⟨rfl, rfl, rfl, by decide +kernel, rfl, by decide +kernel, by decide +kernel⟩
abbrev s_law : Stmt := topS 48
theorem sc_law : FnScope ["_law_script", "_law_flow_here", "_law_m", "_law_web", "_law_turn", "_law_name", "_law_begin", "_law_end", "_law_near", "_law_beyond", "_law_due", "_law_ask", "_law_found", "_law_more"] ["_law_script"] (defScope s_law) := ⟨rfl, rfl, rfl, by decide +kernel, rfl, by decide +kernel, by decide +kernel⟩
abbrev s_Full_init : Stmt := inClass (topS 5) 0
theorem sc_Full_init : FnScope ["self", "many"] ["self", "many"] (defScope s_Full_init) := ⟨rfl, rfl, rfl, by decide +kernel, rfl, by decide +kernel, by decide +kernel⟩
abbrev s_BadName_init : Stmt := inClass (topS 3) 0
theorem sc_BadName_init : FnScope ["self", "name"] ["self", "name"] (defScope s_BadName_init) := ⟨rfl, rfl, rfl, by decide +kernel, rfl, by decide +kernel, by decide +kernel⟩
abbrev s_Taken_init : Stmt := inClass (topS 4) 0
theorem sc_Taken_init : FnScope ["self", "name"] ["self", "name"] (defScope s_Taken_init) := ⟨rfl, rfl, rfl, by decide +kernel, rfl, by decide +kernel, by decide +kernel⟩
abbrev s_NoYard_init : Stmt := inClass (topS 18) 0
theorem sc_NoYard_init : FnScope ["self", "name"] ["self", "name"] (defScope s_NoYard_init) := ⟨rfl, rfl, rfl, by decide +kernel, rfl, by decide +kernel, by decide +kernel⟩
abbrev s_BadTurns_init : Stmt := inClass (topS 6) 0
theorem sc_BadTurns_init : FnScope ["self", "number"] ["self", "number"] (defScope s_BadTurns_init) := ⟨rfl, rfl, rfl, by decide +kernel, rfl, by decide +kernel, by decide +kernel⟩
end Lw
set_option Elab.async false
set_option linter.all false
set_option maxRecDepth 100000
set_option maxHeartbeats 0
set_option autoImplicit false
namespace Lw
open PySem PySem.Spec PyProof.Rows L2 Dv
/-! the head by one run: printed by our gen.py -/
def hTests : List Test := [
  fun K => He.eqO (PySem.W.nsIn K mainGlobals "_law_field") (some (some (.ref (He.fAd K ("_law_field", none))))),
  fun K => He.eqO (PySem.W.findIn K (.ref (He.ga K "Web")) "__init__") (some (some (.ref (He.fAd K ("Web", some "__init__"))))),
  fun K => PySem.W.isFn K (.ref (He.fAd K ("Web", some "__init__"))),
  fun K => He.eqO (PySem.W.findIn K (.ref (He.ga K "Web")) "__len__") (some (some (.ref (He.fAd K ("Web", some "__len__"))))),
  fun K => PySem.W.isFn K (.ref (He.fAd K ("Web", some "__len__"))),
  fun K => He.eqO (PySem.W.nsIn K mainGlobals "is_name") (some (some (.ref (He.fAd K ("is_name", none))))),
  fun K => He.eqO (PySem.W.findIn K (.ref (He.ga K "Web")) "need_new") (some (some (.ref (He.fAd K ("Web", some "need_new"))))),
  fun K => PySem.W.isFn K (.ref (He.fAd K ("Web", some "need_new"))),
  fun K => He.eqO (PySem.W.findIn K (.ref (He.ga K "Web")) "need_yard") (some (some (.ref (He.fAd K ("Web", some "need_yard"))))),
  fun K => PySem.W.isFn K (.ref (He.fAd K ("Web", some "need_yard"))),
  fun K => He.eqO (PySem.W.findIn K (.ref (He.ga K "Web")) "turned") (some (some (.ref (He.fAd K ("Web", some "turned"))))),
  fun K => PySem.W.isFn K (.ref (He.fAd K ("Web", some "turned"))),
  fun K => He.eqO (PySem.W.nsIn K mainGlobals "is_whole") (some (some (.ref (He.fAd K ("is_whole", none))))),
  fun K => He.eqO (PySem.W.nsIn K mainGlobals "need_turns") (some (some (.ref (He.fAd K ("need_turns", none))))),
  fun K => He.eqO (PySem.W.findIn K (.ref (He.ga K "Web")) "with_passage") (some (some (.ref (He.fAd K ("Web", some "with_passage"))))),
  fun K => PySem.W.isFn K (.ref (He.fAd K ("Web", some "with_passage"))),
  fun K => He.eqO (PySem.W.findIn K (.ref (He.ga K "Web")) "with_yard") (some (some (.ref (He.fAd K ("Web", some "with_yard"))))),
  fun K => PySem.W.isFn K (.ref (He.fAd K ("Web", some "with_yard"))),
  fun K => He.eqO (PySem.W.nsIn K mainGlobals "_law_draw") (some (some (.ref (He.fAd K ("_law_draw", none))))),
  fun K => He.eqO (PySem.W.nsIn K mainGlobals "_law_flow") (some (some (.ref (He.fAd K ("_law_flow", none))))),
  fun K => He.eqO (PySem.W.nsIn K mainGlobals "_law_new_due") (some (some (.ref (He.fAd K ("_law_new_due", none))))),
  fun K => He.eqO (PySem.W.nsIn K mainGlobals "_law_pick") (some (some (.ref (He.fAd K ("_law_pick", none))))),
  fun K => He.eqO (PySem.W.nsIn K mainGlobals "_law_odd_name") (some (some (.ref (He.fAd K ("_law_odd_name", none))))),
  fun K => He.eqO (PySem.W.nsIn K mainGlobals "_law_new_name") (some (some (.ref (He.fAd K ("_law_new_name", none))))),
  fun K => He.eqO (PySem.W.nsIn K mainGlobals "_law_road_due") (some (some (.ref (He.fAd K ("_law_road_due", none))))),
  fun K => He.eqO (PySem.W.nsIn K mainGlobals "_law_same") (some (some (.ref (He.fAd K ("_law_same", none))))),
  fun K => He.eqO (PySem.W.findIn K (.ref (He.ga K "Web")) "__repr__") (some (some (.ref (He.fAd K ("Web", some "__repr__"))))),
  fun K => PySem.W.isFn K (.ref (He.fAd K ("Web", some "__repr__"))),
  fun K => He.eqO (PySem.W.findIn K (.ref (He.ga K "Web")) "road_of") (some (some (.ref (He.fAd K ("Web", some "road_of"))))),
  fun K => PySem.W.isFn K (.ref (He.fAd K ("Web", some "road_of"))),
  fun K => He.eqO (PySem.W.findIn K (.ref (He.ga K "Web")) "turned_so") (some (some (.ref (He.fAd K ("Web", some "turned_so"))))),
  fun K => PySem.W.isFn K (.ref (He.fAd K ("Web", some "turned_so"))),
  fun K => He.eqO (PySem.W.findIn K (.ref (He.ga K "Web")) "ends") (some (some (.ref (He.fAd K ("Web", some "ends"))))),
  fun K => PySem.W.isFn K (.ref (He.fAd K ("Web", some "ends"))),
  fun K => He.eqO (PySem.W.findIn K (.ref (He.ga K "Web")) "passages") (some (some (.ref (He.fAd K ("Web", some "passages"))))),
  fun K => PySem.W.isFn K (.ref (He.fAd K ("Web", some "passages"))),
  fun K => He.eqO (PySem.W.findIn K (.ref (He.ga K "Web")) "rule") (some (some (.ref (He.fAd K ("Web", some "rule"))))),
  fun K => PySem.W.isFn K (.ref (He.fAd K ("Web", some "rule"))),
  fun K => He.eqO (PySem.W.findIn K (.ref (He.ga K "Web")) "steps_from") (some (some (.ref (He.fAd K ("Web", some "steps_from"))))),
  fun K => PySem.W.isFn K (.ref (He.fAd K ("Web", some "steps_from"))),
  fun K => He.eqO (PySem.W.findIn K (.ref (He.ga K "Web")) "yards") (some (some (.ref (He.fAd K ("Web", some "yards"))))),
  fun K => PySem.W.isFn K (.ref (He.fAd K ("Web", some "yards"))),
  fun K => He.eqO (PySem.W.nsIn K mainGlobals "_law_road") (some (some (.ref (He.fAd K ("_law_road", none))))),
  fun K => He.eqO (PySem.W.nsIn K mainGlobals "_law_ends") (some (some (.ref (He.fAd K ("_law_ends", none))))),
  fun K => He.eqO (PySem.W.nsIn K mainGlobals "_law_rule") (some (some (.ref (He.fAd K ("_law_rule", none))))),
  fun K => He.eqO (PySem.W.nsIn K mainGlobals "_law_steps_from") (some (some (.ref (He.fAd K ("_law_steps_from", none))))),
  fun K => He.eqO (PySem.W.nsIn K mainGlobals "_law_webs_stand") (some (some (.ref (He.fAd K ("_law_webs_stand", none))))),
  fun K => He.eqO (PySem.W.nsIn K mainGlobals "law") (some (some (.ref (He.fAd K ("law", none))))),
  fun K => He.eqO (PySem.W.nsIn K mainGlobals "Web") (some (some (.ref (He.ga K "Web")))),
  fun K => PySem.W.plainGet K (He.ga K "Web") Str.empty,
  fun K => PySem.W.hasDictIn K (He.ga K "Web"),
  fun K => PySem.W.plainOver K (He.ga K "Web"),
  fun K => He.eqO (PySem.W.findIn K (.ref (He.ga K "Web")) "__setattr__") (some (some (.builtin "object.__setattr__"))),
  fun K => He.eqO (PySem.W.findIn K (.ref (He.ga K "Web")) "__class__") (some (some (.builtin "object.__class__"))),
  fun K => decide (PySem.W.mroIn K (He.ga K "Web") (.type "object") = some true),
  fun K => PySem.W.makesIn K (He.ga K "Web"),
  fun K => PySem.W.keepIn K (.ref (He.ga K "Web")),
  fun K => He.eqO (PySem.W.findIn K (.ref (He.ga K "Web")) "__bool__") (some none),
  fun K => He.eqO (PySem.W.findIn K (.ref (He.ga K "Web")) "places") (some none),
  fun K => He.eqO (PySem.W.findIn K (.ref (He.ga K "Web")) "roads") (some none),
  fun K => He.eqO (PySem.W.specialIn K (.builtin "object.__class__") "__get__") (some (some (.builtin "getset_descriptor.__get__"))),
  fun K => decide (PySem.W.takesIn K (.builtin "object.__class__") = some true),
  fun K => clsB K [("Web", (He.ga K "Web"))],
  fun K => He.eqO (PySem.W.nsIn K mainGlobals "Full") (some (some (.ref (He.ga K "Full")))),
  fun K => oexGB K (He.ga K "Full"),
  fun K => He.eqO (PySem.W.findIn K (.ref (He.ga K "Full")) "__setattr__") (some (some (.builtin "object.__setattr__"))),
  fun K => decide (PySem.W.subIn K (.ref (He.ga K "Full")) (.type "BaseException") = some true),
  fun K => decide (PySem.W.typeIn K (.ref (He.ga K "Full")) = some (.type "type")),
  fun K => PySem.W.keepIn K (.ref (He.ga K "Full")),
  fun K => He.eqO (PySem.W.findIn K (.ref (He.ga K "Full")) "__init__") (some (some (.ref (He.ma K (He.ga K "Full") "__init__")))),
  fun K => decide (PySem.W.typeIn K (.ref (He.ma K (He.ga K "Full") "__init__")) = some (.type "function")),
  fun K => He.eqO (PySem.W.findIn K (.ref (He.ga K "Full")) "word") (some none),
  fun K => He.eqO (PySem.W.findIn K (.ref (He.ga K "Full")) "many") (some none),
  fun K => He.eqO (PySem.W.nsIn K mainGlobals "BadName") (some (some (.ref (He.ga K "BadName")))),
  fun K => oexGB K (He.ga K "BadName"),
  fun K => He.eqO (PySem.W.findIn K (.ref (He.ga K "BadName")) "__setattr__") (some (some (.builtin "object.__setattr__"))),
  fun K => decide (PySem.W.subIn K (.ref (He.ga K "BadName")) (.type "BaseException") = some true),
  fun K => decide (PySem.W.typeIn K (.ref (He.ga K "BadName")) = some (.type "type")),
  fun K => PySem.W.keepIn K (.ref (He.ga K "BadName")),
  fun K => He.eqO (PySem.W.findIn K (.ref (He.ga K "BadName")) "__init__") (some (some (.ref (He.ma K (He.ga K "BadName") "__init__")))),
  fun K => decide (PySem.W.typeIn K (.ref (He.ma K (He.ga K "BadName") "__init__")) = some (.type "function")),
  fun K => He.eqO (PySem.W.findIn K (.ref (He.ga K "BadName")) "word") (some none),
  fun K => He.eqO (PySem.W.findIn K (.ref (He.ga K "BadName")) "name") (some none),
  fun K => He.eqO (PySem.W.nsIn K mainGlobals "Taken") (some (some (.ref (He.ga K "Taken")))),
  fun K => oexGB K (He.ga K "Taken"),
  fun K => He.eqO (PySem.W.findIn K (.ref (He.ga K "Taken")) "__setattr__") (some (some (.builtin "object.__setattr__"))),
  fun K => decide (PySem.W.subIn K (.ref (He.ga K "Taken")) (.type "BaseException") = some true),
  fun K => decide (PySem.W.typeIn K (.ref (He.ga K "Taken")) = some (.type "type")),
  fun K => PySem.W.keepIn K (.ref (He.ga K "Taken")),
  fun K => He.eqO (PySem.W.findIn K (.ref (He.ga K "Taken")) "__init__") (some (some (.ref (He.ma K (He.ga K "Taken") "__init__")))),
  fun K => decide (PySem.W.typeIn K (.ref (He.ma K (He.ga K "Taken") "__init__")) = some (.type "function")),
  fun K => He.eqO (PySem.W.findIn K (.ref (He.ga K "Taken")) "word") (some none),
  fun K => He.eqO (PySem.W.findIn K (.ref (He.ga K "Taken")) "name") (some none),
  fun K => He.eqO (PySem.W.nsIn K mainGlobals "NoYard") (some (some (.ref (He.ga K "NoYard")))),
  fun K => oexGB K (He.ga K "NoYard"),
  fun K => He.eqO (PySem.W.findIn K (.ref (He.ga K "NoYard")) "__setattr__") (some (some (.builtin "object.__setattr__"))),
  fun K => decide (PySem.W.subIn K (.ref (He.ga K "NoYard")) (.type "BaseException") = some true),
  fun K => decide (PySem.W.typeIn K (.ref (He.ga K "NoYard")) = some (.type "type")),
  fun K => PySem.W.keepIn K (.ref (He.ga K "NoYard")),
  fun K => He.eqO (PySem.W.findIn K (.ref (He.ga K "NoYard")) "__init__") (some (some (.ref (He.ma K (He.ga K "NoYard") "__init__")))),
  fun K => decide (PySem.W.typeIn K (.ref (He.ma K (He.ga K "NoYard") "__init__")) = some (.type "function")),
  fun K => He.eqO (PySem.W.findIn K (.ref (He.ga K "NoYard")) "word") (some none),
  fun K => He.eqO (PySem.W.findIn K (.ref (He.ga K "NoYard")) "name") (some none),
  fun K => He.eqO (PySem.W.nsIn K mainGlobals "BadTurns") (some (some (.ref (He.ga K "BadTurns")))),
  fun K => oexGB K (He.ga K "BadTurns"),
  fun K => He.eqO (PySem.W.findIn K (.ref (He.ga K "BadTurns")) "__setattr__") (some (some (.builtin "object.__setattr__"))),
  fun K => decide (PySem.W.subIn K (.ref (He.ga K "BadTurns")) (.type "BaseException") = some true),
  fun K => decide (PySem.W.typeIn K (.ref (He.ga K "BadTurns")) = some (.type "type")),
  fun K => PySem.W.keepIn K (.ref (He.ga K "BadTurns")),
  fun K => He.eqO (PySem.W.findIn K (.ref (He.ga K "BadTurns")) "__init__") (some (some (.ref (He.ma K (He.ga K "BadTurns") "__init__")))),
  fun K => decide (PySem.W.typeIn K (.ref (He.ma K (He.ga K "BadTurns") "__init__")) = some (.type "function")),
  fun K => He.eqO (PySem.W.findIn K (.ref (He.ga K "BadTurns")) "word") (some none),
  fun K => He.eqO (PySem.W.findIn K (.ref (He.ga K "BadTurns")) "number") (some none),
  fun K => He.eqO (PySem.W.nsIn K mainGlobals "BadName") (some (some (.ref (He.ga K "BadName")))),
  fun K => He.eqO (PySem.W.nsIn K mainGlobals "Taken") (some (some (.ref (He.ga K "Taken")))),
  fun K => He.eqO (PySem.W.nsIn K mainGlobals "Tied") (some (some (.ref (He.ga K "Tied")))),
  fun K => He.eqO (PySem.W.nsIn K mainGlobals "InUse") (some (some (.ref (He.ga K "InUse")))),
  fun K => He.eqO (PySem.W.nsIn K mainGlobals "Breaks") (some (some (.ref (He.ga K "Breaks")))),
  fun K => He.eqO (PySem.W.nsIn K mainGlobals "NoName") (some (some (.ref (He.ga K "NoName")))),
  fun K => He.eqO (PySem.W.nsIn K mainGlobals "NoYard") (some (some (.ref (He.ga K "NoYard")))),
  fun K => He.eqO (PySem.W.nsIn K mainGlobals "NoPassage") (some (some (.ref (He.ga K "NoPassage")))),
  fun K => He.eqO (PySem.W.nsIn K mainGlobals "NoWalk") (some (some (.ref (He.ga K "NoWalk")))),
  fun K => He.eqO (PySem.W.nsIn K mainGlobals "BadRow") (some (some (.ref (He.ga K "BadRow")))),
  fun K => He.eqO (PySem.W.nsIn K mainGlobals "Astray") (some (some (.ref (He.ga K "Astray")))),
  fun K => He.eqO (PySem.W.nsIn K mainGlobals "BadExchange") (some (some (.ref (He.ga K "BadExchange")))),
  fun K => He.eqO (PySem.W.nsIn K mainGlobals "BadText") (some (some (.ref (He.ga K "BadText")))),
  fun K => He.eqO (PySem.W.nsIn K mainGlobals "BadDeed") (some (some (.ref (He.ga K "BadDeed")))),
  fun K => He.eqO (PySem.W.nsIn K mainGlobals "Full") (some (some (.ref (He.ga K "Full")))),
  fun K => He.eqO (PySem.W.nsIn K mainGlobals "BadTurns") (some (some (.ref (He.ga K "BadTurns")))),
  fun K => He.eqO (PySem.W.nsIn K mainGlobals "HawserError") (some (some (.ref (He.ga K "HawserError")))),
  fun K => He.eqO (PySem.W.nsIn K mainGlobals "NothingLeft") (some (some (.ref (He.ga K "NothingLeft")))),
  fun K => xfB K (He.ga K "Full"),
  fun K => (fldB K (He.ga K "Full") [([(He.ga K "BadName"), (He.ga K "Taken"), (He.ga K "Tied"), (He.ga K "InUse"), (He.ga K "Breaks"), (He.ga K "NoName"), (He.ga K "NoYard"), (He.ga K "NoPassage"), (He.ga K "NoWalk")], (some ("name" : Str))), ([(He.ga K "BadRow"), (He.ga K "Astray"), (He.ga K "BadExchange"), (He.ga K "BadText"), (He.ga K "BadDeed")], (some ("at" : Str))), ([(He.ga K "Full")], (some ("many" : Str))), ([(He.ga K "BadTurns")], (some ("number" : Str))), ([(He.ga K "HawserError"), (He.ga K "NothingLeft")], none)] == some (some ("many" : Str))),
  fun K => xfB K (He.ga K "BadName"),
  fun K => (fldB K (He.ga K "BadName") [([(He.ga K "BadName"), (He.ga K "Taken"), (He.ga K "Tied"), (He.ga K "InUse"), (He.ga K "Breaks"), (He.ga K "NoName"), (He.ga K "NoYard"), (He.ga K "NoPassage"), (He.ga K "NoWalk")], (some ("name" : Str))), ([(He.ga K "BadRow"), (He.ga K "Astray"), (He.ga K "BadExchange"), (He.ga K "BadText"), (He.ga K "BadDeed")], (some ("at" : Str))), ([(He.ga K "Full")], (some ("many" : Str))), ([(He.ga K "BadTurns")], (some ("number" : Str))), ([(He.ga K "HawserError"), (He.ga K "NothingLeft")], none)] == some (some ("name" : Str))),
  fun K => xfB K (He.ga K "Taken"),
  fun K => (fldB K (He.ga K "Taken") [([(He.ga K "BadName"), (He.ga K "Taken"), (He.ga K "Tied"), (He.ga K "InUse"), (He.ga K "Breaks"), (He.ga K "NoName"), (He.ga K "NoYard"), (He.ga K "NoPassage"), (He.ga K "NoWalk")], (some ("name" : Str))), ([(He.ga K "BadRow"), (He.ga K "Astray"), (He.ga K "BadExchange"), (He.ga K "BadText"), (He.ga K "BadDeed")], (some ("at" : Str))), ([(He.ga K "Full")], (some ("many" : Str))), ([(He.ga K "BadTurns")], (some ("number" : Str))), ([(He.ga K "HawserError"), (He.ga K "NothingLeft")], none)] == some (some ("name" : Str))),
  fun K => xfB K (He.ga K "NoYard"),
  fun K => (fldB K (He.ga K "NoYard") [([(He.ga K "BadName"), (He.ga K "Taken"), (He.ga K "Tied"), (He.ga K "InUse"), (He.ga K "Breaks"), (He.ga K "NoName"), (He.ga K "NoYard"), (He.ga K "NoPassage"), (He.ga K "NoWalk")], (some ("name" : Str))), ([(He.ga K "BadRow"), (He.ga K "Astray"), (He.ga K "BadExchange"), (He.ga K "BadText"), (He.ga K "BadDeed")], (some ("at" : Str))), ([(He.ga K "Full")], (some ("many" : Str))), ([(He.ga K "BadTurns")], (some ("number" : Str))), ([(He.ga K "HawserError"), (He.ga K "NothingLeft")], none)] == some (some ("name" : Str))),
  fun K => xfB K (He.ga K "BadTurns"),
  fun K => (fldB K (He.ga K "BadTurns") [([(He.ga K "BadName"), (He.ga K "Taken"), (He.ga K "Tied"), (He.ga K "InUse"), (He.ga K "Breaks"), (He.ga K "NoName"), (He.ga K "NoYard"), (He.ga K "NoPassage"), (He.ga K "NoWalk")], (some ("name" : Str))), ([(He.ga K "BadRow"), (He.ga K "Astray"), (He.ga K "BadExchange"), (He.ga K "BadText"), (He.ga K "BadDeed")], (some ("at" : Str))), ([(He.ga K "Full")], (some ("many" : Str))), ([(He.ga K "BadTurns")], (some ("number" : Str))), ([(He.ga K "HawserError"), (He.ga K "NothingLeft")], none)] == some (some ("number" : Str))),
  fun K => tuB [((tabAt K ("law", none)).2, "law.<locals>.<lambda>")],
  fun K => He.eqO (PySem.W.nsIn K mainGlobals "range") (some none),
  fun K => He.eqO (PySem.W.nsIn K mainGlobals "len") (some none),
  fun K => He.eqO (PySem.W.nsIn K mainGlobals "dict") (some none),
  fun K => He.eqO (PySem.W.nsIn K mainGlobals "all") (some none),
  fun K => He.eqO (PySem.W.nsIn K mainGlobals "tuple") (some none),
  fun K => He.eqO (PySem.W.nsIn K mainGlobals "isinstance") (some none),
  fun K => He.eqO (PySem.W.nsIn K mainGlobals "bool") (some none),
  fun K => He.eqO (PySem.W.nsIn K mainGlobals "int") (some none),
  fun K => He.eqO (PySem.W.nsIn K mainGlobals "abs") (some none),
  fun K => He.eqO (PySem.W.nsIn K mainGlobals "list") (some none),
  fun K => He.eqO (PySem.W.nsIn K mainGlobals "str") (some none),
  fun K => He.eqO (PySem.W.nsIn K mainGlobals "repr") (some none),
  fun K => (He.Fa.int "MOST_PASSAGES" 8).ok K,
  fun K => (He.Fa.str "LETTERS" "abcdefghijklmnopqrstuvwxyz").ok K,
  fun K => (He.Fa.int "LONGEST_NAME" 8).ok K,
  fun K => (He.Fa.int "MOST_TURNS" 99).ok K,
  fun K => (He.Fa.int "MOST_YARDS" 6).ok K]
def hDefs : List He.DefD := [
  ⟨("_law_field", none), "_law_field", "_law_field", defArgs s_law_field, defBody s_law_field, defScope s_law_field, [], []⟩,
  ⟨("Web", some "__init__"), "__init__", "Web.__init__", defArgs s_Web_dinit, defBody s_Web_dinit, defScope s_Web_dinit, [], []⟩,
  ⟨("Web", some "__len__"), "__len__", "Web.__len__", defArgs s_Web_dlen, defBody s_Web_dlen, defScope s_Web_dlen, [], []⟩,
  ⟨("is_name", none), "is_name", "is_name", defArgs s_is_name, defBody s_is_name, defScope s_is_name, [], []⟩,
  ⟨("Web", some "need_new"), "need_new", "Web.need_new", defArgs s_Web_need_new, defBody s_Web_need_new, defScope s_Web_need_new, [], []⟩,
  ⟨("Web", some "need_yard"), "need_yard", "Web.need_yard", defArgs s_Web_need_yard, defBody s_Web_need_yard, defScope s_Web_need_yard, [], []⟩,
  ⟨("Web", some "turned"), "turned", "Web.turned", defArgs s_Web_turned, defBody s_Web_turned, defScope s_Web_turned, [], []⟩,
  ⟨("is_whole", none), "is_whole", "is_whole", defArgs s_is_whole, defBody s_is_whole, defScope s_is_whole, [], []⟩,
  ⟨("need_turns", none), "need_turns", "need_turns", defArgs s_need_turns, defBody s_need_turns, defScope s_need_turns, [], []⟩,
  ⟨("Web", some "with_passage"), "with_passage", "Web.with_passage", defArgs s_Web_with_passage, defBody s_Web_with_passage, defScope s_Web_with_passage, [], []⟩,
  ⟨("Web", some "with_yard"), "with_yard", "Web.with_yard", defArgs s_Web_with_yard, defBody s_Web_with_yard, defScope s_Web_with_yard, [], []⟩,
  ⟨("_law_draw", none), "_law_draw", "_law_draw", defArgs s_law_draw, defBody s_law_draw, defScope s_law_draw, [], []⟩,
  ⟨("_law_flow", none), "_law_flow", "_law_flow", defArgs s_law_flow, defBody s_law_flow, defScope s_law_flow, [], []⟩,
  ⟨("_law_new_due", none), "_law_new_due", "_law_new_due", defArgs s_law_new_due, defBody s_law_new_due, defScope s_law_new_due, [], []⟩,
  ⟨("_law_pick", none), "_law_pick", "_law_pick", defArgs s_law_pick, defBody s_law_pick, defScope s_law_pick, [], []⟩,
  ⟨("_law_odd_name", none), "_law_odd_name", "_law_odd_name", defArgs s_law_odd_name, defBody s_law_odd_name, defScope s_law_odd_name, [], []⟩,
  ⟨("_law_new_name", none), "_law_new_name", "_law_new_name", defArgs s_law_new_name, defBody s_law_new_name, defScope s_law_new_name, [], []⟩,
  ⟨("_law_road_due", none), "_law_road_due", "_law_road_due", defArgs s_law_road_due, defBody s_law_road_due, defScope s_law_road_due, [], []⟩,
  ⟨("_law_same", none), "_law_same", "_law_same", defArgs s_law_same, defBody s_law_same, defScope s_law_same, [], []⟩,
  ⟨("Web", some "__repr__"), "__repr__", "Web.__repr__", defArgs s_Web_drepr, defBody s_Web_drepr, defScope s_Web_drepr, [], []⟩,
  ⟨("Web", some "road_of"), "road_of", "Web.road_of", defArgs s_Web_road_of, defBody s_Web_road_of, defScope s_Web_road_of, [], []⟩,
  ⟨("Web", some "turned_so"), "turned_so", "Web.turned_so", defArgs s_Web_turned_so, defBody s_Web_turned_so, defScope s_Web_turned_so, [], []⟩,
  ⟨("Web", some "ends"), "ends", "Web.ends", defArgs s_Web_ends, defBody s_Web_ends, defScope s_Web_ends, [], []⟩,
  ⟨("Web", some "passages"), "passages", "Web.passages", defArgs s_Web_passages, defBody s_Web_passages, defScope s_Web_passages, [], []⟩,
  ⟨("Web", some "rule"), "rule", "Web.rule", defArgs s_Web_rule, defBody s_Web_rule, defScope s_Web_rule, [], []⟩,
  ⟨("Web", some "steps_from"), "steps_from", "Web.steps_from", defArgs s_Web_steps_from, defBody s_Web_steps_from, defScope s_Web_steps_from, [], []⟩,
  ⟨("Web", some "yards"), "yards", "Web.yards", defArgs s_Web_yards, defBody s_Web_yards, defScope s_Web_yards, [], []⟩,
  ⟨("_law_road", none), "_law_road", "_law_road", defArgs s_law_road, defBody s_law_road, defScope s_law_road, [], []⟩,
  ⟨("_law_ends", none), "_law_ends", "_law_ends", defArgs s_law_ends, defBody s_law_ends, defScope s_law_ends, [], []⟩,
  ⟨("_law_rule", none), "_law_rule", "_law_rule", defArgs s_law_rule, defBody s_law_rule, defScope s_law_rule, [], []⟩,
  ⟨("_law_steps_from", none), "_law_steps_from", "_law_steps_from", defArgs s_law_steps_from, defBody s_law_steps_from, defScope s_law_steps_from, [], []⟩,
  ⟨("_law_webs_stand", none), "_law_webs_stand", "_law_webs_stand", defArgs s_law_webs_stand, defBody s_law_webs_stand, defScope s_law_webs_stand, [], []⟩,
  ⟨("law", none), "law", "law", defArgs s_law, defBody s_law, defScope s_law, [], []⟩,
  ⟨("Full", some "__init__"), "__init__", "Full.__init__", defArgs s_Full_init, defBody s_Full_init, defScope s_Full_init, [], []⟩,
  ⟨("BadName", some "__init__"), "__init__", "BadName.__init__", defArgs s_BadName_init, defBody s_BadName_init, defScope s_BadName_init, [], []⟩,
  ⟨("Taken", some "__init__"), "__init__", "Taken.__init__", defArgs s_Taken_init, defBody s_Taken_init, defScope s_Taken_init, [], []⟩,
  ⟨("NoYard", some "__init__"), "__init__", "NoYard.__init__", defArgs s_NoYard_init, defBody s_NoYard_init, defScope s_NoYard_init, [], []⟩,
  ⟨("BadTurns", some "__init__"), "__init__", "BadTurns.__init__", defArgs s_BadTurns_init, defBody s_BadTurns_init, defScope s_BadTurns_init, [], []⟩]
def hAs : List Nat := (List.range 1500).reverse
def hNames0 : List Str := ["_wall", "HawserError", "BadName", "Taken", "Full", "BadTurns", "Tied", "BadWay", "BadRow", "Astray", "BadExchange", "BadText", "InUse", "Breaks", "BadDeed", "Missing", "NoName", "NoYard", "NoPassage", "NoWalk", "NothingLeft", "MOST_YARDS", "MOST_PASSAGES", "MOST_TURNS", "is_whole", "LETTERS", "LONGEST_NAME", "is_name", "need_turns", "Web"]
def hNames1 : List Str := ["_law_flow", "_law_draw", "_law_pick", "_law_same", "_law_road", "_law_ends", "_law_rule", "_law_steps_from", "_law_field", "_law_webs_stand", "_law_odd_name", "_law_new_due", "_law_road_due", "_law_new_name"]
def hNames : List Str := hNames0 ++ hNames1
def hTabs : List (Str × Option Str) := [("law", none)]
abbrev hk : PySem.W.Hook := hookT hAs hTests hDefs hTabs
def hOb (s : PySem.W.SharedT) : He.AlD × Bool := obsTG hAs hTests hDefs hTabs (HandSHeadRun.getT s)
theorem hOb_eq (s : PySem.W.SharedT) : hOb s = hk.obs s.abs := obsTG_eq (HandSHeadRun.getT_eq s)
abbrev hRow : PySem.W.OpenRow := PySem.W.OpenLaw.row PySem.Challenge.rw_hawserweb_k05_webs_refused
theorem hRun (w : World) : HandSHeadRun.RunEq hRow (PySem.W.view hRow.prog [48]) hk hOb 60000 hNames w := by
  intro os
  kernel_rfl
end Lw
set_option Elab.async false
set_option linter.all false
set_option maxRecDepth 100000
set_option maxHeartbeats 4000000
set_option autoImplicit false
namespace Dv
open PySem PySem.Spec PyProof.Rows L2
/-! ### values as data; mutable objects stand in a store -/
/-- what is known of a function object and of its code -/
abbrev Pd := Addr → Addr → HO → HO → Prop
inductive Dt where
  | non | bl (b : Bool) | int (i : Int) | str (s : Str) | ty (n : String) | cls (c : String)
  | tup (ds : List Dt) | lst (ds : List Dt) | fz (ds : List Dt) | ins (c : String) (ns : List Str) (ds : List Dt) | dct (ks : List Key) (ds : List Dt) | ref (i : Nat) | lam (n : Nat) (p : Pd)
inductive Ob where
  | lst (ds : List Dt) | ins (c : String) (ns : List Str) (ds : List Dt) | dct (ks : List Key) (ds : List Dt)
abbrev Store := List Ob
abbrev Env := List (Option Dt)
/-- an exception of a class of the text -/
structure Ex where
  c : String
  ns : List Str
  ds : List Dt
inductive R (α : Type) where
  | ok (a : α) (S : Store) | err (x : Ex) (S : Store) | stuck
@[reducible] def R.bind {α β : Type} (r : R α) (f : α → Store → R β) : R β := match r with
  | .ok a S => f a S
  | .err x S => .err x S
  | .stuck => .stuck
inductive Fl where
  | nx | bk | ct | rt (d : Dt)
inductive RS where
  | ok (f : Fl) (σ : Env) (S : Store) | err (x : Ex) (σ : Env) (S : Store) | stuck
/-- what the names of classes mean -/
structure Gv where
  K : PySem.W.Frag
  cl : String → Option Addr
  /-- the exceptions of the text -/
  xl : String → Option Addr
  /-- the tables of code objects that lambdas are noted in -/
  T : List (Addr × Str)
/-- no table -/
def NoTb (o : HO) : Prop := ∀ ps, o ≠ .tbl ps
/-- neither a table nor told by a law of its own -/
def NoTx (o : HO) : Prop := NoTb o ∧ ∀ φ, o ≠ .ext φ
/-- the addresses of the store; further ones that change meanwhile -/
structure Io where
  l : List Addr
  h : List Addr
instance : Membership Addr Io := ⟨fun io a => a ∈ io.l ∨ a ∈ io.h⟩
theorem Io.mem {a : Addr} {io : Io} : a ∈ io ↔ a ∈ io.l ∨ a ∈ io.h := Iff.rfl
abbrev Io.push (io : Io) (p : Addr) : Io := ⟨io.l ++ [p], io.h⟩
abbrev Io.take (io : Io) (n : Nat) : Io := ⟨io.l.take n, io.h⟩
def KTup (K : PySem.W.Frag) (a : Addr) (xs : List V) : Prop := ∃ (o : Obj) (its : Array Value) (n : Nat), K.lookup a = some o ∧ o.cls = .type "tuple" ∧ o.data = .seq its n ∧ its.size ≤ sizeLine ∧ Vals xs its.toList
def KLst (K : PySem.W.Frag) (a : Addr) (xs : List V) : Prop := ∃ (o : Obj) (its : Array Value) (n : Nat), K.lookup a = some o ∧ o.cls = .type "list" ∧ o.dict = none ∧ o.data = .seq its n ∧ its.size ≤ sizeLine ∧ Vals xs its.toList
mutual
inductive RelD (G : Gv) (io : Io) (H : Hp) : Dt → V → Prop
  | non : RelD G io H .non .non
  | bl (b : Bool) : RelD G io H (.bl b) (.bl b)
  | int (i : Int) : RelD G io H (.int i) (.int i)
  | str (s : Str) : RelD G io H (.str s) (.str s)
  | ty (n : String) : RelD G io H (.ty n) (.ty n)
  | cls {c : String} {C : Addr} : G.cl c = some C → RelD G io H (.cls c) (.ref C)
  | tup {a : Addr} {ds : List Dt} {vs : List V} : (H a = some (.tup vs) ∧ a ∉ io) ∨ KTup G.K a vs → RelDs G io H ds vs → RelD G io H (.tup ds) (.ref a)
  | lst {a : Addr} {ds : List Dt} {vs : List V} : H a = some (.lst vs) → a ∉ io → RelDs G io H ds vs → RelD G io H (.lst ds) (.ref a)
  | fz {a : Addr} {ds : List Dt} {vs : List V} : (Rd H a (.lst vs) ∧ a ∉ io) ∨ KLst G.K a vs → RelDs G io H ds vs → RelD G io H (.fz ds) (.ref a)
  | ins {a C dx : Addr} {c : String} {ns : List Str} {ds : List Dt} {vs : List V} : H a = some (.ins C dx (ns.zip vs)) → a ∉ io → G.cl c = some C → ns.length = ds.length → RelDs G io H ds vs → RelD G io H (.ins c ns ds) (.ref a)
  | dct {a : Addr} {ks : List Key} {ds : List Dt} {vs : List V} : H a = some (.dK (ks.zip vs)) → a ∉ io → ks.length = ds.length → RelDs G io H ds vs → RelD G io H (.dct ks ds) (.ref a)
  | ref {a : Addr} {i : Nat} : io.l[i]? = some a → RelD G io H (.ref i) (.ref a)
  | lam {f c : Addr} {u w : HO} {n : Nat} {p : Pd} : p f c u w → (H f = some u ∧ f ∉ io ∧ NoTb u) → (H c = some w ∧ c ∉ io ∧ NoTb w) → RelD G io H (.lam n p) (.ref f)
inductive RelDs (G : Gv) (io : Io) (H : Hp) : List Dt → List V → Prop
  | nil : RelDs G io H [] []
  | cons {d : Dt} {v : V} {ds : List Dt} {vs : List V} : RelD G io H d v → RelDs G io H ds vs → RelDs G io H (d :: ds) (v :: vs)
end
structure Grow (io : Io) (H : Hp) (io' : Io) (H' : Hp) : Prop where
  pre : ∃ t, io' = ⟨io.l ++ t, io.h⟩
  keep : ∀ b o, H b = some o → b ∉ io.l → (nt : NoTb o := by first | assumption | (intro _ e; cases e)) → H' b = some o
  new : ∀ a, a ∈ io'.l → a ∉ io.l → ∀ o, H a = some o → ¬ NoTb o
theorem Grow.refl {io : Io} {H : Hp} : Grow io H io H := ⟨⟨[], by simp⟩, fun _ _ h _ _ => h, fun a h n => absurd h n⟩
theorem Grow.trans {io i1 i2 : Io} {H H1 H2 : Hp} (a : Grow io H i1 H1) (b : Grow i1 H1 i2 H2) : Grow io H i2 H2 := by
  obtain ⟨t, rfl⟩ := a.pre
  obtain ⟨u, rfl⟩ := b.pre
  refine ⟨⟨t ++ u, by simp⟩, fun c o h n nt => ?_, fun c h n => ?_⟩
  · exact b.keep c o (a.keep c o h n nt) (fun hm => a.new c hm n o h nt) nt
  · by_cases hm : c ∈ io.l ++ t
    · exact a.new c hm n
    · exact fun o q nt => b.new c h hm o (a.keep c o q n nt) nt
theorem Grow.notin {io i1 : Io} {H H1 : Hp} (g : Grow io H i1 H1) {a : Addr} {o : HO} (h : H a = some o) (n : a ∉ io) (nt : NoTb o := by first | assumption | (intro _ e; cases e)) : a ∉ i1 := fun hm => by
  rcases hm with hm | hm
  · exact g.new a hm (fun q => n (.inl q)) o h nt
  · obtain ⟨t, rfl⟩ := g.pre
    exact n (.inr hm)
theorem Grow.at {io i1 : Io} {H H1 : Hp} (g : Grow io H i1 H1) {i : Nat} {a : Addr} (h : io.l[i]? = some a) : i1.l[i]? = some a := by
  obtain ⟨t, rfl⟩ := g.pre
  rw [List.getElem?_append_left (List.getElem?_eq_some_iff.mp h).1]
  exact h
theorem Grow.kp {io i1 : Io} {H H1 : Hp} (g : Grow io H i1 H1) {b : Addr} {o : HO} (h : H b = some o) (n : b ∉ io) (nt : NoTb o := by first | assumption | (intro _ e; cases e)) : H1 b = some o := g.keep b o h (fun q => n (.inl q)) nt
/-- what data leans on -/
structure Base (io : Io) (H : Hp) (io' : Io) (H' : Hp) : Prop where
  at_ : ∀ (i : Nat) (a : Addr), io.l[i]? = some a → io'.l[i]? = some a
  keep : ∀ b o, H b = some o → b ∉ io → (nt : NoTb o := by first | assumption | (intro _ e; cases e)) → H' b = some o ∧ b ∉ io'
theorem Grow.base {io i1 : Io} {H H1 : Hp} (g : Grow io H i1 H1) : Base io H i1 H1 := ⟨fun _ _ h => g.at h, fun _ _ h n nt => ⟨g.kp h n nt, g.notin h n nt⟩⟩
section
variable {G : Gv} {io i1 : Io} {H H1 : Hp}
theorem Base.rd (g : Base io H i1 H1) {a : Addr} {u : HO} (h : Rd H a u) (n : a ∉ io) (nt : NoTb u := by first | assumption | (intro _ e; cases e)) : Rd H1 a u ∧ a ∉ i1 := by
  rcases h with h | ⟨o, h⟩
  · exact ⟨.inl (g.keep _ _ h n).1, (g.keep _ _ h n).2⟩
  · exact ⟨.inr ⟨o, (g.keep _ _ h n).1⟩, (g.keep _ _ h n).2⟩
mutual
theorem RelD.monoB (g : Base io H i1 H1) : ∀ {d : Dt} {v : V}, RelD G io H d v → RelD G i1 H1 d v
  | _, _, .non => .non
  | _, _, .bl b => .bl b
  | _, _, .int i => .int i
  | _, _, .str s => .str s
  | _, _, .ty n => .ty n
  | _, _, .cls h => .cls h
  | _, _, .tup h r => .tup (h.imp (fun z => g.keep _ _ z.1 z.2) id) (RelDs.monoB g r)
  | _, _, .lst h n r => .lst (g.keep _ _ h n).1 (g.keep _ _ h n).2 (RelDs.monoB g r)
  | _, _, .fz h r => .fz (h.imp (fun z => g.rd z.1 z.2) id) (RelDs.monoB g r)
  | _, _, .ins h n c l r => .ins (g.keep _ _ h n).1 (g.keep _ _ h n).2 c l (RelDs.monoB g r)
  | _, _, .dct h n l r => .dct (g.keep _ _ h n).1 (g.keep _ _ h n).2 l (RelDs.monoB g r)
  | _, _, .ref h => .ref (g.at_ _ _ h)
  | _, _, .lam h a b => .lam h ⟨(g.keep _ _ a.1 a.2.1 a.2.2).1, (g.keep _ _ a.1 a.2.1 a.2.2).2, a.2.2⟩ ⟨(g.keep _ _ b.1 b.2.1 b.2.2).1, (g.keep _ _ b.1 b.2.1 b.2.2).2, b.2.2⟩
theorem RelDs.monoB (g : Base io H i1 H1) : ∀ {ds : List Dt} {vs : List V}, RelDs G io H ds vs → RelDs G i1 H1 ds vs
  | _, _, .nil => .nil
  | _, _, .cons h r => .cons (RelD.monoB g h) (RelDs.monoB g r)
end
theorem RelD.mono (g : Grow io H i1 H1) {d : Dt} {v : V} (r : RelD G io H d v) : RelD G i1 H1 d v := r.monoB g.base
theorem RelDs.mono (g : Grow io H i1 H1) {ds : List Dt} {vs : List V} (r : RelDs G io H ds vs) : RelDs G i1 H1 ds vs := r.monoB g.base
theorem RelDs.length : ∀ {ds : List Dt} {vs : List V}, RelDs G io H ds vs → ds.length = vs.length
  | _, _, .nil => rfl
  | _, _, .cons _ r => by rw [List.length_cons, List.length_cons, RelDs.length r]
theorem RelDs.append : ∀ {ds es : List Dt} {vs us : List V}, RelDs G io H ds vs → RelDs G io H es us → RelDs G io H (ds ++ es) (vs ++ us)
  | _, _, _, _, .nil, s => s
  | _, _, _, _, .cons h r, s => .cons h (RelDs.append r s)
theorem RelDs.get : ∀ {ds : List Dt} {vs : List V} {i : Nat} {d : Dt}, RelDs G io H ds vs → ds[i]? = some d → ∃ v, vs[i]? = some v ∧ RelD G io H d v
  | _, _, _, _, .nil, e => by simp at e
  | _, _, 0, _, .cons h _, e => by simp at e; subst e; exact ⟨_, rfl, h⟩
  | _, _, i + 1, d, .cons _ r, e => by
    obtain ⟨u, h1, h2⟩ := RelDs.get (i := i) (d := d) r (by simpa using e)
    exact ⟨u, by simpa using h1, h2⟩
theorem RelDs.set : ∀ {ds : List Dt} {vs : List V} {d : Dt} {v : V} (i : Nat), RelD G io H d v → RelDs G io H ds vs → RelDs G io H (ds.set i d) (vs.set i v)
  | _, _, _, _, _, _, .nil => .nil
  | _, _, _, _, 0, h, .cons _ r => .cons h r
  | _, _, _, _, i + 1, h, .cons k r => .cons k (RelDs.set i h r)
theorem RelDs.take : ∀ {ds : List Dt} {vs : List V} (n : Nat), RelDs G io H ds vs → RelDs G io H (ds.take n) (vs.take n)
  | _, _, 0, _ => .nil
  | _, _, _ + 1, .nil => .nil
  | _, _, n + 1, .cons h r => .cons h (RelDs.take n r)
theorem RelDs.drop : ∀ {ds : List Dt} {vs : List V} (n : Nat), RelDs G io H ds vs → RelDs G io H (ds.drop n) (vs.drop n)
  | _, _, 0, r => r
  | _, _, _ + 1, .nil => .nil
  | _, _, n + 1, .cons _ r => RelDs.drop n r
theorem RelDs.reverse : ∀ {ds : List Dt} {vs : List V}, RelDs G io H ds vs → RelDs G io H ds.reverse vs.reverse
  | _, _, .nil => .nil
  | _, _, .cons h r => by
    rw [List.reverse_cons, List.reverse_cons]
    exact RelDs.append (RelDs.reverse r) (.cons h .nil)
end
/-- a mutable object at its address -/
inductive RelO (G : Gv) (io : Io) (H : Hp) : Ob → Addr → Prop
  | lst {a : Addr} {ds : List Dt} {vs : List V} : H a = some (.lst vs) → RelDs G io H ds vs → RelO G io H (.lst ds) a
  | ins {a C dx : Addr} {c : String} {ns : List Str} {ds : List Dt} {vs : List V} : H a = some (.ins C dx (ns.zip vs)) → G.cl c = some C → ns.length = ds.length → RelDs G io H ds vs → RelO G io H (.ins c ns ds) a
  | dct {a : Addr} {ks : List Key} {ds : List Dt} {vs : List V} : H a = some (.dK (ks.zip vs)) → ks.length = ds.length → RelDs G io H ds vs → RelO G io H (.dct ks ds) a
structure StoreOk (G : Gv) (io : Io) (S : Store) (H : Hp) : Prop where
  nd : io.l.Nodup
  len : S.length = io.l.length
  dis : ∀ a ∈ io.l, a ∉ io.h
  hid : ∀ a ∈ io.h, ∃ u, H a = some u ∧ NoTx u
  ob : ∀ (i : Nat) (o : Ob) (a : Addr), S[i]? = some o → io.l[i]? = some a → RelO G io H o a
  tab : LamX.Tabs G.T H
structure RelEnv (G : Gv) (io : Io) (H : Hp) (e : Env) (σ : L2.St) : Prop where
  len : e.length = σ.length
  at_ : ∀ (i : Nat) (d : Dt), e[i]? = some (some d) → ∃ v, σ[i]? = some (some v) ∧ RelD G io H d v
theorem RelEnv.mono {G : Gv} {io i1 : Io} {H H1 : Hp} {e : Env} {σ : L2.St} (g : Grow io H i1 H1) (r : RelEnv G io H e σ) : RelEnv G i1 H1 e σ :=
  ⟨r.len, fun i d h => let ⟨v, h1, h2⟩ := r.at_ i d h; ⟨v, h1, h2.mono g⟩⟩
theorem RelEnv.set {G : Gv} {io : Io} {H : Hp} {e : Env} {σ : L2.St} {i : Nat} {d : Dt} {v : V} (r : RelEnv G io H e σ) (h : RelD G io H d v) : RelEnv G io H (e.set i (some d)) (σ.set i (some v)) := by
  refine ⟨by simpa using r.len, fun j x hj => ?_⟩
  by_cases hij : i = j
  · subst hij
    have hl : i < e.length := by
      by_cases q : i < e.length
      · exact q
      · rw [List.getElem?_eq_none (by simpa using q)] at hj
        cases hj
    rw [List.getElem?_set_self hl] at hj
    cases hj
    exact ⟨v, List.getElem?_set_self (by rw [← r.len]; exact hl), h⟩
  · rw [List.getElem?_set_ne hij] at hj ⊢
    exact r.at_ j x hj
/-- an exception of the text's classes -/
def RelX (G : Gv) (io : Io) (H : Hp) (x : Ex) (cls : Value) (dx : Option Addr) : Prop :=
  ∃ (C a : Addr) (vs : List V), cls = .ref C ∧ G.xl x.c = some C ∧ dx = some a ∧ H a = some (.xd (x.ns.zip vs)) ∧ a ∉ io ∧ x.ns.length = x.ds.length ∧ RelDs G io H x.ds vs
theorem RelX.mono {G : Gv} {io i1 : Io} {H H1 : Hp} (g : Grow io H i1 H1) {x : Ex} {cls : Value} {dx : Option Addr} (r : RelX G io H x cls dx) : RelX G i1 H1 x cls dx := by
  obtain ⟨C, a, vs, h1, h2, h3, h4, h5, h6, h7⟩ := r
  exact ⟨C, a, vs, h1, h2, h3, g.kp h4 h5, g.notin h4 h5, h6, h7.mono g⟩
/-! ### ends -/
def Out (G : Gv) (io : Io) (H : Hp) {α : Type} (wx : Ex → Io → Hp → Prop) (post : α → Store → Io → Hp → Prop) : R α → Prop
  | .ok a S => ∀ io' H', Grow io H io' H' → StoreOk G io' S H' → post a S io' H'
  | .err x S => ∀ io' H', Grow io H io' H' → StoreOk G io' S H' → wx x io' H'
  | .stuck => False
theorem Out.from {G : Gv} {io i1 : Io} {H H1 : Hp} {α : Type} {wx : Ex → Io → Hp → Prop} {post : α → Store → Io → Hp → Prop} {r : R α} (g : Grow io H i1 H1) (h : Out G io H wx post r) : Out G i1 H1 wx post r := by
  cases r with
  | ok a S => exact fun io' H' g' s => h io' H' (g.trans g') s
  | err x S => exact fun io' H' g' s => h io' H' (g.trans g') s
  | stuck => exact h
theorem Out.bind {G : Gv} {io : Io} {H : Hp} {α β : Type} {wx : Ex → Io → Hp → Prop} {post : β → Store → Io → Hp → Prop} {r : R α} {f : α → Store → R β} (h : Out G io H wx post (r.bind f)) :
    Out G io H wx (fun a S io' H' => Out G io' H' wx post (f a S)) r := by
  cases r with
  | ok a S => exact fun io' H' g s => Out.from g h
  | err x S => exact h
  | stuck => exact h
theorem Out.imp {G : Gv} {io : Io} {H : Hp} {α : Type} {wx wx' : Ex → Io → Hp → Prop} {post post' : α → Store → Io → Hp → Prop} {r : R α} (h : Out G io H wx post r)
    (hx : ∀ x io' H', Grow io H io' H' → wx x io' H' → wx' x io' H') (hp : ∀ a S io' H', Grow io H io' H' → StoreOk G io' S H' → post a S io' H' → post' a S io' H') : Out G io H wx' post' r := by
  cases r with
  | ok a S => exact fun io' H' g s => hp _ _ _ _ g s (h io' H' g s)
  | err x S => exact fun io' H' g s => hx _ _ _ g (h io' H' g s)
  | stuck => exact h
def OutS (G : Gv) (io : Io) (H : Hp) (wx : Ex → Env → Io → Hp → Prop) (post : Fl → Env → Store → Io → Hp → Prop) : RS → Prop
  | .ok f e S => ∀ io' H', Grow io H io' H' → StoreOk G io' S H' → post f e S io' H'
  | .err x e S => ∀ io' H', Grow io H io' H' → StoreOk G io' S H' → wx x e io' H'
  | .stuck => False
theorem OutS.from {G : Gv} {io i1 : Io} {H H1 : Hp} {wx : Ex → Env → Io → Hp → Prop} {post : Fl → Env → Store → Io → Hp → Prop} {r : RS} (g : Grow io H i1 H1) (h : OutS G io H wx post r) : OutS G i1 H1 wx post r := by
  cases r with
  | ok a e S => exact fun io' H' g' s => h io' H' (g.trans g') s
  | err x e S => exact fun io' H' g' s => h io' H' (g.trans g') s
  | stuck => exact h
/-- the wish for an exception at the slots σ -/
abbrev wxE (G : Gv) (W : WX) (σ : L2.St) : Ex → Io → Hp → Prop := fun x io' H' => ∀ cls dx, RelX G io' H' x cls dx → W cls dx σ H'
abbrev poE (G : Gv) (Q : VK) : Dt → Store → Io → Hp → Prop := fun d _ io' H' => ∀ v, RelD G io' H' d v → Q v H'
abbrev poA (G : Gv) (Q : List V → Hp → Prop) : List Dt → Store → Io → Hp → Prop := fun ds _ io' H' => ∀ vs, RelDs G io' H' ds vs → Q vs H'
abbrev poT (Q : Bool → Hp → Prop) : Bool → Store → Io → Hp → Prop := fun b _ _ H' => Q b H'
def SimE (G : Gv) (W : WX) (t : TE) (m : Env → Store → R Dt) : Prop := ∀ io H S e σ Q, StoreOk G io S H → RelEnv G io H e σ → Out G io H (wxE G W σ) (poE G Q) (m e S) → t σ H Q
def SimA (G : Gv) (W : WX) (t : TA) (m : Env → Store → R (List Dt)) : Prop := ∀ io H S e σ Q, StoreOk G io S H → RelEnv G io H e σ → Out G io H (wxE G W σ) (poA G Q) (m e S) → t σ H Q
def SimT (G : Gv) (W : WX) (t : TT) (m : Env → Store → R Bool) : Prop := ∀ io H S e σ Q, StoreOk G io S H → RelEnv G io H e σ → Out G io H (wxE G W σ) (poT Q) (m e S) → t σ H Q
abbrev wxS (G : Gv) (W : WX) : Ex → Env → Io → Hp → Prop := fun x e io' H' => ∀ σ cls dx, RelEnv G io' H' e σ → RelX G io' H' x cls dx → W cls dx σ H'
def poF (G : Gv) (D : Ends) : Fl → Env → Store → Io → Hp → Prop
  | .nx, e, _, io, H => ∀ σ, RelEnv G io H e σ → D.nx σ H
  | .bk, e, _, io, H => ∀ σ, RelEnv G io H e σ → D.bk σ H
  | .ct, e, _, io, H => ∀ σ, RelEnv G io H e σ → D.ct σ H
  | .rt d, _, _, io, H => ∀ v, RelD G io H d v → D.rt v H
def SimS (G : Gv) (W : WX) (t : TS) (m : Env → Store → RS) : Prop := ∀ io H S e σ D, StoreOk G io S H → RelEnv G io H e σ → OutS G io H (wxS G W) (poF G D) (m e S) → t D σ H
/-! ### judgements -/
def DE (G : Gv) (X : Cx) (W : WX) (e : Expr) (m : Env → Store → R Dt) : Prop := ∃ t, PE X e t ∧ SimE G W t m
def DA (G : Gv) (X : Cx) (W : WX) (e : List Expr) (m : Env → Store → R (List Dt)) : Prop := ∃ t, PA X e t ∧ SimA G W t m
def DT (G : Gv) (X : Cx) (W : WX) (e : Expr) (m : Env → Store → R Bool) : Prop := ∃ t, PT X e t ∧ SimT G W t m
def DW (G : Gv) (X : Cx) (W : WX) (e : Expr) (m : Env → Store → R Bool) : Prop := ∃ t, PW X e t ∧ SimT G W t m
def DS (G : Gv) (X : Cx) (W : WX) (s : Stmt) (m : Env → Store → RS) : Prop := ∃ t, PS X s t ∧ SimS G W t m
def DB (G : Gv) (X : Cx) (W : WX) (s : List Stmt) (m : Env → Store → RS) : Prop := ∃ t, PSs X s t ∧ SimS G W t m
/-! ### names and constants -/
@[reducible] def mVar (i : Nat) : Env → Store → R Dt := fun e S => match e[i]? with
  | some (some d) => .ok d S
  | _ => .stuck
@[reducible] def mC (d : Dt) : Env → Store → R Dt := fun _ S => .ok d S
section
variable {G : Gv} {X : Cx} {W : WX}
theorem simE_var (i : Nat) : SimE G W (tVar i) (mVar i) := by
  intro io H S e σ Q so re h
  unfold mVar at h
  split at h
  · rename_i d hd
    obtain ⟨v, h1, h2⟩ := re.at_ i d hd
    exact ⟨v, h1, h io H Grow.refl so v h2⟩
  · exact h.elim
theorem simE_c {d : Dt} {v : V} (hr : ∀ io H, RelD G io H d v) : SimE G W (tC v) (mC d) := by
  intro io H S e σ Q so re h
  exact h io H Grow.refl so v (hr io H)
theorem de_var (i : Nat) {x : Str} {pos : Pos} (hN : X.N[i]? = some x := by rfl) (hv : Vis X.env.scope x := by first | exact Or.inl rfl | exact Or.inr (Or.inl rfl) | exact Or.inr (Or.inr rfl)) (hd : (x == ("__debug__" : Str)) = false := by decide)
    (hcd : (x == ("__classdict__" : Str)) = false := by decide) : DE G X W (.Name x pos) (mVar i) := ⟨_, pe_var hN hv hd hcd, simE_var i⟩
theorem de_int {i : Int} {j pos} : DE G X W (.Constant (.int i) j pos) (mC (.int i)) := ⟨_, pe_int, simE_c fun _ _ => .int i⟩
theorem de_bl {b j pos} : DE G X W (.Constant (.bool b) j pos) (mC (.bl b)) := ⟨_, pe_bl, simE_c fun _ _ => .bl b⟩
theorem de_non {j pos} : DE G X W (.Constant .none j pos) (mC .non) := ⟨_, pe_non, simE_c fun _ _ => .non⟩
theorem de_str {x j pos} : DE G X W (.Constant (.str x) j pos) (mC (.str x)) := ⟨_, pe_str, simE_c fun _ _ => .str x⟩
theorem de_gint {x : Str} {i : Int} {t : Tok} {pos : Pos} (hg : Gl X x) (hm : X.mg x = some (.int i t)) (hd : (x == ("__debug__" : Str)) = false := by decide) : DE G X W (.Name x pos) (mC (.int i)) :=
  ⟨_, pe_glob (v := .int i) hg hm ⟨t, rfl⟩ hd, simE_c fun _ _ => .int i⟩
theorem de_gstr {x : Str} {i : Str} {t : Tok} {pos : Pos} (hg : Gl X x) (hm : X.mg x = some (.str i t)) (hd : (x == ("__debug__" : Str)) = false := by decide) : DE G X W (.Name x pos) (mC (.str i)) :=
  ⟨_, pe_glob (v := .str i) hg hm ⟨t, rfl⟩ hd, simE_c fun _ _ => .str i⟩
theorem de_cls {x : Str} {c : String} {C : Addr} {pos : Pos} (hc : G.cl c = some C) (hg : Gl X x) (hm : X.mg x = some (.ref C)) (hd : (x == ("__debug__" : Str)) = false := by decide) : DE G X W (.Name x pos) (mC (.cls c)) :=
  ⟨_, pe_glob (v := .ref C) hg hm rfl hd, simE_c fun _ _ => .cls hc⟩
theorem de_ty {x : Str} {n : String} {pos : Pos} (hg : Gl X x) (hm : X.mg x = none) (hv : bootBuiltins x = some (.type n)) (hn : x ≠ "__name__" := by decide) (hd : (x == ("__debug__" : Str)) = false := by decide) : DE G X W (.Name x pos) (mC (.ty n)) :=
  ⟨_, pe_bltn (v := .ty n) hg hm hv rfl hn hd, simE_c fun _ _ => .ty n⟩
end
/-! ### argument lists -/
@[reducible] def mNil : Env → Store → R (List Dt) := fun _ S => .ok [] S
@[reducible] def mCons (ma : Env → Store → R Dt) (mr : Env → Store → R (List Dt)) : Env → Store → R (List Dt) := fun e S => (ma e S).bind fun d S1 => (mr e S1).bind fun ds S2 => .ok (d :: ds) S2
section
variable {G : Gv} {X : Cx} {W : WX} {e : Expr} {es : List Expr} {m : Env → Store → R Dt} {ms : Env → Store → R (List Dt)}
theorem da_nil : DA G X W [] mNil := ⟨_, pa_nil, fun io H S e σ Q so re h => h io H Grow.refl so [] .nil⟩
theorem da_cons (ha : DE G X W e m) (hr : DA G X W es ms) (hs : starEach (e :: es) X.env = (false, eval e X.env) :: starEach es X.env := by rfl) : DA G X W (e :: es) (mCons m ms) := by
  obtain ⟨t, p, q⟩ := ha
  obtain ⟨u, p', q'⟩ := hr
  refine ⟨_, pa_cons p p' hs, fun io H S e σ Q so re h => ?_⟩
  refine q io H S e σ _ so re (h.bind.imp (fun _ _ _ _ z => z) fun d S1 i1 H1 g1 s1 k1 v r => ?_)
  refine q' i1 H1 S1 e σ _ s1 (re.mono g1) (k1.bind.imp (fun _ _ _ _ z => z) fun ds S2 i2 H2 g2 s2 k2 vs rs => ?_)
  exact k2 i2 H2 Grow.refl s2 _ (.cons (r.mono g2) rs)
end
/-! ### operations on values -/
/-- a two-place operation -/
def SimO (G : Gv) (r : R2) (m : Dt → Dt → Store → R Dt) : Prop := ∀ io H S x y dx dy Q, StoreOk G io S H → RelD G io H dx x → RelD G io H dy y → Out G io H (fun _ _ _ => False) (poE G Q) (m dx dy S) → r x y H Q
@[reducible] def mOp (m : Dt → Dt → Store → R Dt) (ma mb : Env → Store → R Dt) : Env → Store → R Dt := fun e S => (ma e S).bind fun x S1 => (mb e S1).bind fun y S2 => m x y S2
def NoErr {α : Type} : R α → Prop
  | .err _ _ => False
  | _ => True
theorem Out.noErr {G : Gv} {io : Io} {H : Hp} {α : Type} {wx wx' : Ex → Io → Hp → Prop} {post : α → Store → Io → Hp → Prop} {r : R α} (n : NoErr r) (h : Out G io H wx post r) : Out G io H wx' post r := by
  cases r with
  | ok a S => exact h
  | err x S => exact n.elim
  | stuck => exact h
def DO (G : Gv) (X : Cx) (f : Value → Value → Sem Value) (m : Dt → Dt → Store → R Dt) : Prop := ∃ r, OpR X f r ∧ SimO G r m ∧ ∀ x y S, NoErr (m x y S)
section
variable {G : Gv} {X : Cx} {W : WX} {a b : Expr} {ma mb : Env → Store → R Dt}
theorem simE_op {r : R2} {ta tb : TE} {m : Dt → Dt → Store → R Dt} (ho : SimO G r m) (hn : ∀ x y S, NoErr (m x y S)) (ha : SimE G W ta ma) (hb : SimE G W tb mb) : SimE G W (tOp r ta tb) (mOp m ma mb) := by
  intro io H S e σ Q so re h
  refine ha io H S e σ _ so re (h.bind.imp (fun _ _ _ _ z => z) fun d S1 i1 H1 g1 s1 k1 v r1 => ?_)
  refine hb i1 H1 S1 e σ _ s1 (re.mono g1) (k1.bind.imp (fun _ _ _ _ z => z) fun d' S2 i2 H2 g2 s2 k2 v' r2 => ?_)
  exact ho i2 H2 S2 v v' d d' Q s2 (r1.mono g2) r2 (k2.noErr (hn _ _ _))
theorem de_op {op : Operator} {pos : Pos} {m : Dt → Dt → Store → R Dt} (ho : DO G X (binaryOp op) m) (ha : DE G X W a ma) (hb : DE G X W b mb) : DE G X W (.BinOp a op b pos) (mOp m ma mb) := by
  obtain ⟨r, p, q, n⟩ := ho
  obtain ⟨ta, pa, qa⟩ := ha
  obtain ⟨tb, pb, qb⟩ := hb
  exact ⟨_, pe_op p pa pb, simE_op q n qa qb⟩
theorem de_cmp {op : CmpOp} {pos : Pos} {m : Dt → Dt → Store → R Dt} (ho : DO G X (compareOp op) m) (ha : DE G X W a ma) (hb : DE G X W b mb) (hm : behindInMarks op b = false := by first | exact nomark _ | rfl) : DE G X W (.Compare a [op] [b] pos) (mOp m ma mb) := by
  obtain ⟨r, p, q, n⟩ := ho
  obtain ⟨ta, pa, qa⟩ := ha
  obtain ⟨tb, pb, qb⟩ := hb
  exact ⟨_, pe_cmpR p pa pb hm, simE_op q n qa qb⟩
/-- the truth of an answer that is a bool -/
@[reducible] def mB (m : Env → Store → R Dt) : Env → Store → R Bool := fun e S => (m e S).bind fun d S1 => match d with
  | .bl b => .ok b S1
  | _ => .stuck
theorem simT_b {t : TE} {m : Env → Store → R Dt} (h : SimE G W t m) : SimT G W (fun σ H Q => t σ H fun x H1 => ∃ c, x = .bl c ∧ Q c H1) (mB m) := by
  intro io H S e σ Q so re k
  refine h io H S e σ _ so re (k.bind.imp (fun _ _ _ _ z => z) fun d S1 i1 H1 g1 s1 k1 v r => ?_)
  cases r with
  | bl b => exact ⟨b, rfl, k1 i1 H1 Grow.refl s1⟩
  | _ => exact k1.elim
theorem dt_cmp {op : CmpOp} {pos : Pos} {m : Dt → Dt → Store → R Dt} (ho : DO G X (compareOp op) m) (ha : DE G X W a ma) (hb : DE G X W b mb) (hm : behindInMarks op b = false := by first | exact nomark _ | rfl) : DT G X W (.Compare a [op] [b] pos) (mB (mOp m ma mb)) := by
  obtain ⟨r, p, q, n⟩ := ho
  obtain ⟨ta, pa, qa⟩ := ha
  obtain ⟨tb, pb, qb⟩ := hb
  exact ⟨_, pt_cmpR p pa pb hm, simT_b (simE_op q n qa qb)⟩
end
end Dv
set_option Elab.async false
set_option linter.all false
set_option maxRecDepth 100000
set_option maxHeartbeats 4000000
set_option autoImplicit false
namespace Dv
open PySem PySem.Spec PyProof.Rows L2
/-! ### the store under extension -/
def ExtH (H H' : Hp) : Prop := ∀ b o, H b = some o → H' b = some o
theorem ExtH.new {H : Hp} {p : Addr} {o : HO} (h : H p = none) : ExtH H (upd H p o) := fun a u e => by
  rw [upd_ne (ne_of_none e h)]
  exact e
theorem ExtH.grow {io : Io} {H H' : Hp} (e : ExtH H H') : Grow io H io H' := ⟨⟨[], by simp⟩, fun b o h _ _ => e b o h, fun a h n => absurd h n⟩
/-- neither a table nor a code object -/
def PlainO (o : HO) : Prop := NoTb o ∧ ∀ f, o ≠ .ext f
theorem tabs_upd {T : List (Addr × Str)} {H : Hp} {p : Addr} {u : HO} (t : LamX.Tabs T H) (hp : ∀ o, H p = some o → PlainO o) : LamX.Tabs T (upd H p u) := fun x hx => by
  obtain ⟨ps, h1, h2, h3⟩ := t x hx
  have n1 : x.1 ≠ p := fun e => (hp _ (e ▸ h1)).1 ps rfl
  refine ⟨ps, by rw [upd_ne n1]; exact h1, h2, fun pos cv hc => ?_⟩
  obtain ⟨c, e1, e2⟩ := h3 pos cv hc
  have n2 : c ≠ p := fun e => (hp _ (e ▸ e2)).2 _ rfl
  exact ⟨c, e1, by rw [upd_ne n2]; exact e2⟩
theorem pl_none {H : Hp} {p : Addr} (h : H p = none) : ∀ o, H p = some o → PlainO o := fun o e => by
  rw [h] at e
  cases e
theorem pl_some {H : Hp} {p : Addr} {u : HO} (h : H p = some u) (hu : PlainO u := by exact ⟨(fun _ e => by cases e), (fun _ e => by cases e)⟩) : ∀ o, H p = some o → PlainO o := fun o e => by
  rw [h] at e
  cases e
  exact hu
section
variable {G : Gv} {io : Io} {H H' : Hp} {S : Store}
theorem RelO.there {o : Ob} {a : Addr} (r : RelO G io H o a) : ∃ u, H a = some u := by
  cases r with
  | lst h _ => exact ⟨_, h⟩
  | ins h _ _ _ => exact ⟨_, h⟩
  | dct h _ _ => exact ⟨_, h⟩
theorem RelO.pl {o : Ob} {a : Addr} (r : RelO G io H o a) : ∀ u, H a = some u → PlainO u := by
  cases r with
  | lst h _ => exact pl_some h
  | ins h _ _ _ => exact pl_some h
  | dct h _ _ => exact pl_some h
theorem RelO.ext (e : ExtH H H') {o : Ob} {a : Addr} (r : RelO G io H o a) : RelO G io H' o a := by
  cases r with
  | lst h k => exact .lst (e _ _ h) (k.mono e.grow)
  | ins h c l k => exact .ins (e _ _ h) c l (k.mono e.grow)
  | dct h l k => exact .dct (e _ _ h) l (k.mono e.grow)
theorem StoreOk.ext (e : ExtH H H') (so : StoreOk G io S H) : StoreOk G io S H' := ⟨so.nd, so.len, so.dis, fun a h => let ⟨u, z, nt⟩ := so.hid a h; ⟨u, e _ _ z, nt⟩, fun i o a h1 h2 => (so.ob i o a h1 h2).ext e, so.tab.ext e⟩
theorem StoreOk.at_ (so : StoreOk G io S H) {i : Nat} {o : Ob} (h : S[i]? = some o) : ∃ a, io.l[i]? = some a ∧ RelO G io H o a := by
  have hl : i < io.l.length := by
    rw [← so.len]
    exact (List.getElem?_eq_some_iff.mp h).1
  exact ⟨io.l[i], by simp [hl], so.ob i o _ h (by simp [hl])⟩
theorem StoreOk.there (so : StoreOk G io S H) {a : Addr} (h : a ∈ io) : ∃ u, H a = some u := by
  rcases h with h | h
  · obtain ⟨i, hl, e⟩ := List.getElem_of_mem h
    have hs : i < S.length := by rw [so.len]; exact hl
    exact (so.ob i S[i] a (by simp [hs]) (by simp [hl, e])).there
  · obtain ⟨u, e, _⟩ := so.hid a h
    exact ⟨u, e⟩
theorem StoreOk.fresh (so : StoreOk G io S H) {p : Addr} (h : H p = none) : p ∉ io := fun hm => by
  obtain ⟨u, e⟩ := so.there hm
  rw [h] at e
  cases e
theorem push_grow {p : Addr} {u : HO} (h : H p = none) : Grow io H (io.push p) (upd H p u) := by
  refine ⟨⟨[p], rfl⟩, fun b o h' _ _ => ExtH.new h b o h', fun a ha n => ?_⟩
  rcases List.mem_append.mp ha with z | z
  · exact absurd z n
  · rw [List.mem_singleton] at z
    rw [z]
    exact fun o e => by rw [h] at e; cases e
/-- a new object of the store -/
theorem StoreOk.push (so : StoreOk G io S H) {p : Addr} {o : Ob} {u : HO} (h : H p = none) (r : RelO G (io.push p) (upd H p u) o p) :
    Grow io H (io.push p) (upd H p u) ∧ StoreOk G (io.push p) (S ++ [o]) (upd H p u) := by
  have g : Grow io H (io.push p) (upd H p u) := push_grow h
  refine ⟨g, ?_, by simp [so.len], fun a ha => ?_, fun a ha => ?_, fun i ob a h1 h2 => ?_, tabs_upd so.tab (pl_none h)⟩
  · rw [List.nodup_append]
    refine ⟨so.nd, by simp, fun a ha b hb => ?_⟩
    rw [List.mem_singleton] at hb
    rw [hb]
    intro z
    rw [z] at ha
    exact so.fresh h (.inl ha)
  · rcases List.mem_append.mp ha with z | z
    · exact so.dis a z
    · rw [List.mem_singleton] at z
      rw [z]
      exact fun q => so.fresh h (.inr q)
  · obtain ⟨v, z, nt⟩ := so.hid a ha
    exact ⟨v, ExtH.new h _ _ z, nt⟩
  · by_cases hi : i < S.length
    · rw [List.getElem?_append_left hi] at h1
      rw [List.getElem?_append_left (by rw [← so.len]; exact hi)] at h2
      have q := so.ob i ob a h1 h2
      have e := ExtH.new (o := u) h
      cases q with
      | lst h k => exact .lst (e _ _ h) (k.mono g)
      | ins h c l k => exact .ins (e _ _ h) c l (k.mono g)
      | dct h l k => exact .dct (e _ _ h) l (k.mono g)
    · have hs : i = S.length := by
        have := (List.getElem?_eq_some_iff.mp h1).1
        rw [List.length_append, List.length_singleton] at this
        omega
      subst hs
      rw [List.getElem?_append_right (Nat.le_refl _)] at h1
      rw [so.len, List.getElem?_append_right (Nat.le_refl _)] at h2
      simp at h1 h2
      subst h1 h2
      exact r
/-- an object of the store is written -/
theorem StoreOk.write (so : StoreOk G io S H) {i : Nat} {p : Addr} {o : Ob} {u : HO} (hp : io.l[i]? = some p) (r : RelO G io (upd H p u) o p) : Grow io H io (upd H p u) ∧ StoreOk G io (S.set i o) (upd H p u) := by
  have hm : p ∈ io.l := List.mem_of_getElem? hp
  have hpl : ∀ o, H p = some o → PlainO o := by
    obtain ⟨hl, e⟩ := List.getElem?_eq_some_iff.mp hp
    have hs : i < S.length := by rw [so.len]; exact hl
    exact (so.ob i S[i] p (by simp [hs]) hp).pl
  have g : Grow io H io (upd H p u) := ⟨⟨[], by simp⟩, fun b o h n _ => by
    rw [upd_ne (fun z => n (by rw [z]; exact hm))]
    exact h, fun a h n => absurd h n⟩
  refine ⟨g, so.nd, by simp [so.len], so.dis, fun a ha => ?_, fun j ob a h1 h2 => ?_, tabs_upd so.tab hpl⟩
  · by_cases hb : a = p
    · exact absurd (hb ▸ ha) (so.dis p hm)
    · rw [upd_ne hb]
      exact so.hid a ha
  by_cases hj : i = j
  · subst hj
    have hl := (List.getElem?_eq_some_iff.mp hp).1
    rw [List.getElem?_set_self (by rw [so.len]; exact hl)] at h1
    rw [hp] at h2
    cases h1
    cases h2
    exact r
  · rw [List.getElem?_set_ne hj] at h1
    have ne : a ≠ p := fun z => by
      obtain ⟨l1, e1⟩ := List.getElem?_eq_some_iff.mp h2
      obtain ⟨l2, e2⟩ := List.getElem?_eq_some_iff.mp hp
      exact hj ((List.getElem_inj so.nd).mp (e2.trans (z.symm.trans e1.symm)))
    have q := so.ob j ob a h1 h2
    cases q with
    | lst h k => exact .lst (by rw [upd_ne ne]; exact h) (k.mono g)
    | ins h c l k => exact .ins (by rw [upd_ne ne]; exact h) c l (k.mono g)
    | dct h l k => exact .dct (by rw [upd_ne ne]; exact h) l (k.mono g)
end
/-! ### lists and tuples that are read -/
@[reducible] def asL (S : Store) : Dt → Option (List Dt)
  | .lst ds => some ds
  | .fz ds => some ds
  | .ref i => match S[i]? with
    | some (.lst ds) => some ds
    | _ => none
  | _ => none
@[reducible] def asP (S : Store) : Dt → Option (List Dt)
  | .lst ds => some ds
  | .ref i => match S[i]? with
    | some (.lst ds) => some ds
    | _ => none
  | _ => none
@[reducible] def asT : Dt → Option (List Dt)
  | .tup ds => some ds
  | _ => none
section
variable {G : Gv} {io : Io} {H H' : Hp} {S : Store} {d : Dt} {ds : List Dt} {v : V}
theorem asP_ok (so : StoreOk G io S H) (r : RelD G io H d v) (h : asP S d = some ds) : ∃ a vs, v = .ref a ∧ H a = some (.lst vs) ∧ RelDs G io H ds vs := by
  cases r with
  | lst e n k => cases h; exact ⟨_, _, rfl, e, k⟩
  | @ref a i e =>
    simp only [asP] at h
    split at h
    · rename_i xs hs
      cases h
      obtain ⟨a', h1, h2⟩ := so.at_ hs
      rw [e] at h1
      cases h1
      cases h2 with
      | lst h3 h4 => exact ⟨_, _, rfl, h3, h4⟩
    · cases h
  | _ => cases h
theorem asL_ok (so : StoreOk G io S H) (r : RelD G io H d v) (h : asL S d = some ds) : ∃ a vs, v = .ref a ∧ SqL G.K H a vs ∧ RelDs G io H ds vs := by
  cases r with
  | lst e n k => cases h; exact ⟨_, _, rfl, .inl (.inl e), k⟩
  | fz e k =>
    cases h
    refine ⟨_, _, rfl, ?_, k⟩
    rcases e with ⟨e, _⟩ | e
    · exact .inl e
    · exact .inr e
  | @ref a i e =>
    obtain ⟨a', vs, h1, h2, h3⟩ := asP_ok (d := .ref i) (ds := ds) so (.ref e) (by simpa only [asP, asL] using h)
    exact ⟨a', vs, h1, .inl (.inl h2), h3⟩
  | _ => cases h
theorem asT_ok (r : RelD G io H d v) (h : asT d = some ds) : ∃ a vs, v = .ref a ∧ SqT G.K H a vs ∧ RelDs G io H ds vs := by
  cases r with
  | tup e k =>
    cases h
    refine ⟨_, _, rfl, ?_, k⟩
    rcases e with ⟨e, _⟩ | e
    · exact .inl (.inl e)
    · exact .inr e
  | _ => cases h
/-- a new tuple, a new list by value -/
theorem new_tup (so : StoreOk G io S H) {ds : List Dt} {vs : List V} (r : RelDs G io H ds vs) {p : Addr} (h : H p = none) :
    Grow io H io (upd H p (.tup vs)) ∧ StoreOk G io S (upd H p (.tup vs)) ∧ RelD G io (upd H p (.tup vs)) (.tup ds) (.ref p) :=
  ⟨(ExtH.new h).grow, so.ext (ExtH.new h), .tup (.inl ⟨upd_same, so.fresh h⟩) (r.mono (ExtH.new h).grow)⟩
theorem new_lst (so : StoreOk G io S H) {ds : List Dt} {vs : List V} (r : RelDs G io H ds vs) {p : Addr} (h : H p = none) :
    Grow io H io (upd H p (.lst vs)) ∧ StoreOk G io S (upd H p (.lst vs)) ∧ RelD G io (upd H p (.lst vs)) (.lst ds) (.ref p) :=
  ⟨(ExtH.new h).grow, so.ext (ExtH.new h), .lst upd_same (so.fresh h) (r.mono (ExtH.new h).grow)⟩
theorem out_tup {wx : Ex → Io → Hp → Prop} {Q : VK} (so : StoreOk G io S H) {ds : List Dt} {vs : List V} (r : RelDs G io H ds vs) (h : Out G io H wx (poE G Q) (.ok (.tup ds) S)) {p : Addr} (hp : H p = none) : Q (.ref p) (upd H p (.tup vs)) := by
  obtain ⟨a, b, c⟩ := new_tup so r hp
  exact h io _ a b _ c
theorem out_lst {wx : Ex → Io → Hp → Prop} {Q : VK} (so : StoreOk G io S H) {ds : List Dt} {vs : List V} (r : RelDs G io H ds vs) (h : Out G io H wx (poE G Q) (.ok (.lst ds) S)) {p : Addr} (hp : H p = none) : Q (.ref p) (upd H p (.lst vs)) := by
  obtain ⟨a, b, c⟩ := new_lst so r hp
  exact h io _ a b _ c
theorem out_ref {wx : Ex → Io → Hp → Prop} {Q : VK} (so : StoreOk G io S H) {ds : List Dt} {vs : List V} (r : RelDs G io H ds vs) (h : Out G io H wx (poE G Q) (.ok (.ref S.length) (S ++ [.lst ds]))) {p : Addr} (hp : H p = none) : Q (.ref p) (upd H p (.lst vs)) := by
  obtain ⟨a, b⟩ := so.push (o := .lst ds) (u := .lst vs) hp (.lst upd_same (r.mono (push_grow hp)))
  exact h _ _ a b _ (.ref (by rw [so.len]; simp))
end
end Dv
set_option Elab.async false
set_option linter.all false
set_option maxRecDepth 100000
set_option maxHeartbeats 4000000
set_option autoImplicit false
namespace Dv
open PySem PySem.Spec PyProof.Rows L2
def mAdd (x y : Dt) (S : Store) : R Dt := match x, y with
  | .int i, .int j => .ok (.int (i + j)) S
  | .str a, .str b => if a.length + b.length ≤ 100000 then .ok (.str (a ++ b)) S else .stuck
  | .tup xs, .tup ys => if xs.length + ys.length ≤ 1000000 then .ok (.tup (xs ++ ys)) S else .stuck
  | x, y => match asP S x, asP S y with
    | some xs, some ys => if xs.length + ys.length ≤ 1000000 then .ok (.lst (xs ++ ys)) S else .stuck
    | _, _ => .stuck
def mSub (x y : Dt) (S : Store) : R Dt := match x, y with
  | .int i, .int j => .ok (.int (i - j)) S
  | _, _ => .stuck
/-- small enough for * -/
def mulOk (i j : Int) : Bool := decide (i.natAbs < 2 ^ 64) || decide (j.natAbs < 2 ^ 64) || decide (i.natAbs.log2 + j.natAbs.log2 < 1000000)
def mMul (x y : Dt) (S : Store) : R Dt := match x, y with
  | .int i, .int j => if mulOk i j = true then .ok (.int (i * j)) S else .stuck
  | x, .int k => match asP S x with
    | some xs => if -100000 ≤ k ∧ k ≤ 100000 ∧ xs.length ≤ 100 then .ok (.lst (List.replicate k.toNat xs).flatten) S else .stuck
    | none => .stuck
  | _, _ => .stuck
def divOk (j : Int) : Bool := decide (j ≠ 0) && decide (j.natAbs.log2 < 9000)
def mDiv (x y : Dt) (S : Store) : R Dt := match x, y with
  | .int i, .int j => if divOk j = true then .ok (.int (i.fdiv j)) S else .stuck
  | _, _ => .stuck
def mMod (x y : Dt) (S : Store) : R Dt := match x, y with
  | .int i, .int j => if j ≠ 0 then .ok (.int (i.fmod j)) S else .stuck
  | _, _ => .stuck
def powOk (i j : Int) : Bool := decide (0 ≤ j ∧ j ≤ 1000000 ∧ i.natAbs < 2 ^ 64)
def mPow (x y : Dt) (S : Store) : R Dt := match x, y with
  | .int i, .int j => if powOk i j = true then .ok (.int (i ^ j.toNat)) S else .stuck
  | _, _ => .stuck
def mCmpI (p : Int → Int → Bool) (x y : Dt) (S : Store) : R Dt := match x, y with
  | .int i, .int j => .ok (.bl (p i j)) S
  | _, _ => .stuck
def mLt : Dt → Dt → Store → R Dt := mCmpI fun i j => decide (i < j)
def mLe : Dt → Dt → Store → R Dt := mCmpI fun i j => decide (i ≤ j)
def mGt : Dt → Dt → Store → R Dt := mCmpI fun i j => decide (j < i)
def mGe : Dt → Dt → Store → R Dt := mCmpI fun i j => decide (j ≤ i)
/-- is, is not: None and bools -/
def mIs (neg : Bool) (x y : Dt) (S : Store) : R Dt := match x, y with
  | .non, .non => .ok (.bl (!neg)) S
  | .ref _, .non => .ok (.bl neg) S
  | .bl _, .non => .ok (.bl neg) S
  | .int _, .non => .ok (.bl neg) S
  | .str _, .non => .ok (.bl neg) S
  | .tup _, .non => .ok (.bl neg) S
  | .lst _, .non => .ok (.bl neg) S
  | .ins _ _ _, .non => .ok (.bl neg) S
  | .dct _ _, .non => .ok (.bl neg) S
  | .bl a, .bl b => .ok (.bl (if neg then !decide (a = b) else decide (a = b))) S
  | _, _ => .stuck
section
variable {G : Gv} {X : Cx}
theorem small6 {n : Nat} (h : n ≤ 1000000) : n ≤ sizeLine := Nat.le_trans h (by decide)
theorem rel_bl {G : Gv} {io : Io} {H : Hp} {i : Bool} {v : V} (r : RelD G io H (.bl i) v) : v = .bl i := by cases r; rfl
theorem nil_iff {G : Gv} {io : Io} {H : Hp} {ds : List Dt} {vs : List V} (r : RelDs G io H ds vs) : vs = [] ↔ ds = [] := by
  cases r with
  | nil => simp
  | cons _ _ => simp
/-- a rule on two ints -/
theorem sim_int {C : Int → Int → Prop} {c : Int → Int → Bool} {g : Int → Int → V} {gd : Int → Int → Dt} (hc : ∀ i j, c i j = true → C i j) (hg : ∀ G io H i j, RelD G io H (gd i j) (g i j)) :
    SimO G (rI C g) (fun x y S => match x, y with | .int i, .int j => if c i j = true then .ok (gd i j) S else .stuck | _, _ => .stuck) := by
  intro io H S x y dx dy Q so rx ry h
  dsimp only at h
  split at h
  · rename_i i j
    cases rx
    cases ry
    by_cases hcc : c i j = true
    · rw [if_pos hcc] at h
      exact ⟨_, _, rfl, rfl, hc _ _ hcc, h io H Grow.refl so _ (hg _ _ _ _ _)⟩
    · rw [if_neg hcc] at h
      exact h.elim
  · exact h.elim
theorem do_add (hK : X.K = G.K := by rfl) : DO G X (binaryOp .Add) mAdd := by
  refine ⟨_, (((op_add (X := X)).or op_add_str).or op_catA).or op_cat, ?_, ?_⟩
  · intro io H S x y dx dy Q so rx ry h
    unfold mAdd at h
    split at h
    · cases rx
      cases ry
      exact .inl (.inl (.inl ⟨_, _, rfl, rfl, h io H Grow.refl so _ (.int _)⟩))
    · rename_i a b
      cases rx
      cases ry
      by_cases hl : a.length + b.length ≤ 100000
      · rw [if_pos hl] at h
        exact .inl (.inl (.inr ⟨_, _, rfl, rfl, small6 (by omega), h io H Grow.refl so _ (.str _)⟩))
      · rw [if_neg hl] at h
        exact h.elim
    · rename_i xs ys
      by_cases hl : xs.length + ys.length ≤ 1000000
      · rw [if_pos hl] at h
        obtain ⟨a, vs, rfl, hs, rs⟩ := asT_ok rx rfl
        obtain ⟨b, us, rfl, ht, rt⟩ := asT_ok ry rfl
        have l1 := rs.length
        have l2 := rt.length
        refine .inl (.inr ⟨a, b, vs, us, rfl, rfl, by rw [hK]; exact hs, by rw [hK]; exact ht, small6 (by omega), fun e => ?_, fun e1 e2 => ?_, fun e1 e2 p hp => ?_⟩)
        · have e' := (nil_iff rs).mp e
          subst e'
          rw [List.nil_append] at h
          exact h io H Grow.refl so _ ry
        · have e' := (nil_iff rt).mp e2
          subst e'
          rw [List.append_nil] at h
          exact h io H Grow.refl so _ rx
        · exact out_tup so (rs.append rt) h hp
      · rw [if_neg hl] at h
        exact h.elim
    · split at h
      · rename_i xs ys e1 e2
        by_cases hl : xs.length + ys.length ≤ 1000000
        · rw [if_pos hl] at h
          obtain ⟨a, vs, rfl, hs, rs⟩ := asP_ok so rx e1
          obtain ⟨b, us, rfl, ht, rt⟩ := asP_ok so ry e2
          have l1 := rs.length
          have l2 := rt.length
          exact .inr ⟨a, b, vs, us, rfl, rfl, hs, ht, small6 (by omega), fun p hp => out_lst so (rs.append rt) h hp⟩
        · rw [if_neg hl] at h
          exact h.elim
      · exact h.elim
  · intro x y S
    unfold mAdd
    repeat' split
    all_goals trivial
theorem do_sub : DO G X (binaryOp .Sub) mSub := by
  refine ⟨_, op_sub, ?_, ?_⟩
  · intro io H S x y dx dy Q so rx ry h
    unfold mSub at h
    split at h
    · cases rx
      cases ry
      exact ⟨_, _, rfl, rfl, h io H Grow.refl so _ (.int _)⟩
    · exact h.elim
  · intro x y S
    unfold mSub
    split <;> trivial
theorem do_mul : DO G X (binaryOp .Mult) mMul := by
  refine ⟨_, ((op_mulW (X := X)).or op_mul).or op_rep, ?_, ?_⟩
  · intro io H S x y dx dy Q so rx ry h
    unfold mMul at h
    split at h
    · rename_i i j
      cases rx
      cases ry
      by_cases hc : mulOk i j = true
      · rw [if_pos hc] at h
        unfold mulOk at hc
        rw [Bool.or_eq_true, Bool.or_eq_true] at hc
        rcases hc with (hc | hc) | hc
        · have z := of_decide_eq_true hc
          exact .inl (.inr ⟨_, _, rfl, rfl, .inl (by omega), h io H Grow.refl so _ (.int _)⟩)
        · have z := of_decide_eq_true hc
          exact .inl (.inr ⟨_, _, rfl, rfl, .inr (by omega), h io H Grow.refl so _ (.int _)⟩)
        · exact .inl (.inl ⟨_, _, rfl, rfl, (of_decide_eq_true (p := i.natAbs.log2 + j.natAbs.log2 < 1000000) hc : CMulW i j), h io H Grow.refl so _ (.int _)⟩)
      · rw [if_neg hc] at h
        exact h.elim
    · rename_i k hne
      cases ry
      split at h
      · rename_i xs e1
        by_cases hl : -100000 ≤ k ∧ k ≤ 100000 ∧ xs.length ≤ 100
        · rw [if_pos hl] at h
          obtain ⟨a, vs, rfl, hs, rs⟩ := asP_ok so rx e1
          have l1 := rs.length
          refine .inr ⟨a, k, vs, rfl, rfl, hs, by omega, by omega, ?_, fun p hp => ?_⟩
          · have e : vs.length * k.toNat ≤ 100 * 100000 := Nat.mul_le_mul (by omega) (by omega)
            exact Nat.le_trans e (by decide)
          · have rr : ∀ n : Nat, RelDs G io H (List.replicate n xs).flatten (List.replicate n vs).flatten := fun n => by
              induction n with
              | zero => exact .nil
              | succ n ih =>
                rw [List.replicate_succ, List.replicate_succ, List.flatten_cons, List.flatten_cons]
                exact rs.append ih
            exact out_lst so (rr _) h hp
        · rw [if_neg hl] at h
          exact h.elim
      · exact h.elim
    · exact h.elim
  · intro x y S
    unfold mMul
    repeat' split
    all_goals trivial
theorem op_fdivA : OpR X (binaryOp .FloorDiv) (rI (fun _ j => j ≠ 0 ∧ j.natAbs.log2 < 9000) fun i j => .int (i.fdiv j)) := opI fun _ _ _ _ _ _ _ hc q =>
  floordiv_int hc.1 q (.inl (PyProof.noPylong_of_log2 hc.2))
theorem noErr_int {c : Int → Int → Bool} {gd : Int → Int → Dt} (x y : Dt) (S : Store) : NoErr (match x, y with | .int i, .int j => if c i j = true then R.ok (gd i j) S else .stuck | _, _ => .stuck) := by
  repeat' split
  all_goals trivial
theorem do_div : DO G X (binaryOp .FloorDiv) mDiv :=
  ⟨_, op_fdivA, sim_int (c := fun _ j => divOk j) (gd := fun i j => .int (i.fdiv j)) (fun i j h => by
    unfold divOk at h
    rw [Bool.and_eq_true] at h
    exact ⟨of_decide_eq_true h.1, of_decide_eq_true h.2⟩) (fun _ _ _ _ _ => .int _), fun x y S => noErr_int (c := fun _ j => divOk j) (gd := fun i j => .int (i.fdiv j)) x y S⟩
theorem do_mod : DO G X (binaryOp .Mod) mMod := by
  refine ⟨_, op_modN, ?_, ?_⟩
  · intro io H S x y dx dy Q so rx ry h
    unfold mMod at h
    split at h
    · rename_i i j
      cases rx
      cases ry
      by_cases hc : j ≠ 0
      · rw [if_pos hc] at h
        exact ⟨_, _, rfl, rfl, hc, h io H Grow.refl so _ (.int _)⟩
      · rw [if_neg hc] at h
        exact h.elim
    · exact h.elim
  · intro x y S
    unfold mMod
    repeat' split
    all_goals trivial
theorem do_pow : DO G X (binaryOp .Pow) mPow :=
  ⟨_, op_pow, sim_int (c := powOk) (gd := fun i j => .int (i ^ j.toNat)) (fun i j h => (of_decide_eq_true (p := 0 ≤ j ∧ j ≤ 1000000 ∧ i.natAbs < 2 ^ 64) h : CPow i j)) (fun _ _ _ _ _ => .int _), fun x y S => noErr_int (c := powOk) (gd := fun i j => .int (i ^ j.toNat)) x y S⟩
theorem do_cmpI {op : CmpOp} {p : Int → Int → Bool} (ho : OpR X (compareOp op) (rI0 fun i j => .bl (p i j))) : DO G X (compareOp op) (mCmpI p) := by
  refine ⟨_, ho, ?_, ?_⟩
  · intro io H S x y dx dy Q so rx ry h
    unfold mCmpI at h
    split at h
    · cases rx
      cases ry
      exact ⟨_, _, rfl, rfl, h io H Grow.refl so _ (.bl _)⟩
    · exact h.elim
  · intro x y S
    unfold mCmpI
    split <;> trivial
theorem do_lt : DO G X (compareOp .Lt) mLt := do_cmpI op_lt
theorem do_le : DO G X (compareOp .LtE) mLe := do_cmpI op_le
theorem do_gt : DO G X (compareOp .Gt) mGt := do_cmpI op_gt
theorem do_ge : DO G X (compareOp .GtE) mGe := do_cmpI op_ge
theorem do_is : DO G X (compareOp .Is) (mIs false) := by
  refine ⟨_, (op_isN (X := X)).or op_isBl, ?_, ?_⟩
  · intro io H S x y dx dy Q so rx ry h
    unfold mIs at h
    split at h
    case h_11 => exact h.elim
    case h_10 =>
      cases rx
      cases ry
      exact .inr ⟨_, _, rfl, rfl, h io H Grow.refl so _ (.bl _)⟩
    all_goals
      cases ry
      refine .inl ⟨rfl, ?_⟩
      cases rx
      exact h io H Grow.refl so _ (.bl _)
  · intro x y S
    unfold mIs
    split <;> trivial
theorem do_isNot : DO G X (compareOp .IsNot) (mIs true) := by
  refine ⟨_, (op_notN (X := X)).or op_notBl, ?_, ?_⟩
  · intro io H S x y dx dy Q so rx ry h
    unfold mIs at h
    split at h
    case h_11 => exact h.elim
    case h_10 =>
      cases rx
      cases ry
      exact .inr ⟨_, _, rfl, rfl, h io H Grow.refl so _ (.bl _)⟩
    all_goals
      cases ry
      refine .inl ⟨rfl, ?_⟩
      cases rx
      exact h io H Grow.refl so _ (.bl _)
  · intro x y S
    unfold mIs
    split <;> trivial
end
/-! ### == of plain data -/
mutual
def eqD : Dt → Dt → Bool
  | .non, .non => true
  | .bl a, .bl b => a == b
  | .bl a, .int j => (if a then 1 else 0) == j
  | .int i, .bl b => i == (if b then 1 else 0)
  | .int i, .int j => i == j
  | .str a, .str b => a == b
  | .tup xs, .tup ys => eqDs xs ys
  | .lst xs, .lst ys => eqDs xs ys
  | _, _ => false
def eqDs : List Dt → List Dt → Bool
  | [], [] => true
  | x :: xs, y :: ys => eqD x y && eqDs xs ys
  | _, _ => false
end
/-- plain data, so deep at most -/
def okD : Nat → Dt → Bool
  | _, .non => true
  | _, .bl _ => true
  | _, .int _ => true
  | _, .str s => PyData.strOk s
  | k + 1, .tup ds => ds.all (okD k)
  | k + 1, .lst ds => ds.all (okD k)
  | _, _ => false
mutual
def toPy : Dt → PyData
  | .bl b => .bool b
  | .int i => .int i
  | .str s => .str s
  | .tup ds => .tuple (toPys ds)
  | .lst ds => .list (toPys ds)
  | _ => .none
def toPys : List Dt → List PyData
  | [] => []
  | d :: ds => toPy d :: toPys ds
end
section
variable {G : Gv} {io : Io} {H : Hp}
theorem all_cons {k : Nat} {d : Dt} {ds : List Dt} (h : (d :: ds).all (okD k) = true) : okD k d = true ∧ ds.all (okD k) = true := by
  rw [List.all_cons, Bool.and_eq_true] at h
  exact h
theorem dp_of : ∀ (k : Nat) {d : Dt} {v : V}, RelD G io H d v → okD k d = true → Dp G.K H v (toPy d) ∧ (toPy d).canLay0 = true ∧ (toPy d).depth ≤ k := by
  intro k
  induction k with
  | zero =>
    intro d v r h
    cases r with
    | non => exact ⟨.non, rfl, Nat.le_refl _⟩
    | bl b => exact ⟨.bl b, rfl, Nat.le_refl _⟩
    | int i => exact ⟨.int i, rfl, Nat.le_refl _⟩
    | str s => exact ⟨.str s, by simpa [okD, toPy, PyData.canLay0] using h, by simp [toPy, PyData.depth]⟩
    | _ => simp [okD] at h
  | succ k ih =>
    have all : ∀ {ds : List Dt} {vs : List V}, RelDs G io H ds vs → ds.all (okD k) = true → DpAll G.K H vs (toPys ds) ∧ PyData.canLayAll0 (toPys ds) = true ∧ PyData.depthAll (toPys ds) ≤ k := by
      intro ds
      induction ds with
      | nil =>
        intro vs r _
        cases r
        exact ⟨.nil, rfl, Nat.zero_le _⟩
      | cons d ds ih2 =>
        intro vs r h
        cases r with
        | cons r1 r2 =>
          obtain ⟨h1, h2⟩ := all_cons h
          obtain ⟨a1, a2, a3⟩ := ih r1 h1
          obtain ⟨b1, b2, b3⟩ := ih2 r2 h2
          refine ⟨.cons a1 b1, ?_, ?_⟩
          · show ((toPy d).canLay0 && PyData.canLayAll0 (toPys ds)) = true
            rw [a2, b2]
            rfl
          · show PyData.depthAll (toPy d :: toPys ds) ≤ k
            simp only [PyData.depthAll]
            omega
    intro d v r h
    cases r with
    | non => exact ⟨.non, rfl, by simp [toPy, PyData.depth]⟩
    | bl b => exact ⟨.bl b, rfl, by simp [toPy, PyData.depth]⟩
    | int i => exact ⟨.int i, rfl, by simp [toPy, PyData.depth]⟩
    | str s => exact ⟨.str s, by simpa [okD, toPy, PyData.canLay0] using h, by simp [toPy, PyData.depth]⟩
    | tup e rs =>
      obtain ⟨a1, a2, a3⟩ := all rs (by simpa [okD] using h)
      refine ⟨.tup ?_ a1, a2, ?_⟩
      · rcases e with ⟨e, _⟩ | e
        · exact .inl (.inl e)
        · exact .inr e
      · simp only [toPy, PyData.depth]
        omega
    | lst e n rs =>
      obtain ⟨a1, a2, a3⟩ := all rs (by simpa [okD] using h)
      refine ⟨.lst (.inl (.inl e)) a1, a2, ?_⟩
      simp only [toPy, PyData.depth]
      omega
    | _ => simp [okD] at h
theorem shaped_of {k : Nat} {d : Dt} {v : V} (hk : k ≤ 60) (r : RelD G io H d v) (h : okD k d = true) : SeqAt.shaped (toPy d) = true := by
  obtain ⟨_, a, b⟩ := dp_of k r h
  unfold SeqAt.shaped
  rw [a, Bool.true_and]
  exact decide_eq_true (by omega)
theorem eqv_of : ∀ (k : Nat) (d e : Dt), okD k d = true → okD k e = true → PyData.eqv (toPy d) (toPy e) = eqD d e := by
  intro k
  induction k with
  | zero =>
    intro d e h1 h2
    cases d <;> cases e <;> first
      | rfl
      | (simp [okD] at h1; done)
      | (simp [okD] at h2; done)
  | succ k ih =>
    have all : ∀ ds es : List Dt, ds.all (okD k) = true → es.all (okD k) = true → PyData.eqvAll (toPys ds) (toPys es) = eqDs ds es := by
      intro ds
      induction ds with
      | nil =>
        intro es _ _
        cases es <;> rfl
      | cons d ds ih2 =>
        intro es h1 h2
        cases es with
        | nil => rfl
        | cons e es =>
          obtain ⟨a1, a2⟩ := all_cons h1
          obtain ⟨b1, b2⟩ := all_cons h2
          show (PyData.eqv (toPy d) (toPy e) && PyData.eqvAll (toPys ds) (toPys es)) = (eqD d e && eqDs ds es)
          rw [ih d e a1 b1, ih2 es a2 b2]
    intro d e h1 h2
    cases d <;> cases e <;> first
      | rfl
      | (simp [okD] at h1; done)
      | (simp [okD] at h2; done)
      | exact all _ _ (by simpa [okD] using h1) (by simpa [okD] using h2)
end
/-- a list of the store, as it stands -/
def res (S : Store) (d : Dt) : Dt := match d with
  | .ref i => match S[i]? with
    | some (.lst ds) => .lst ds
    | _ => .ref i
  | d => d
theorem res_ok {G : Gv} {io : Io} {H : Hp} {S : Store} {d : Dt} {v : V} {k : Nat} (so : StoreOk G io S H) (r : RelD G io H d v) (h : okD k (res S d) = true) : Dp G.K H v (toPy (res S d)) ∧ (k ≤ 60 → SeqAt.shaped (toPy (res S d)) = true) := by
  cases d with
  | ref i =>
    unfold res at h ⊢
    dsimp only at h ⊢
    split at h
    · rename_i ds hs
      obtain ⟨a, vs, rfl, e, rs⟩ := asP_ok (d := .ref i) (ds := ds) so r (by simp [asP, hs])
      cases k with
      | zero => simp [okD] at h
      | succ k =>
        have z : ∀ (ds : List Dt) (vs : List V), RelDs G io H ds vs → ds.all (okD k) = true → DpAll G.K H vs (toPys ds) ∧ PyData.canLayAll0 (toPys ds) = true ∧ PyData.depthAll (toPys ds) ≤ k := by
          intro ds
          induction ds with
          | nil =>
            intro vs r _
            cases r
            exact ⟨.nil, rfl, Nat.zero_le _⟩
          | cons d ds ih2 =>
            intro vs r h
            cases r with
            | cons r1 r2 =>
              obtain ⟨h1, h2⟩ := all_cons h
              obtain ⟨a1, a2, a3⟩ := dp_of k r1 h1
              obtain ⟨b1, b2, b3⟩ := ih2 _ r2 h2
              refine ⟨.cons a1 b1, ?_, ?_⟩
              · show ((toPy d).canLay0 && PyData.canLayAll0 (toPys ds)) = true
                rw [a2, b2]
                rfl
              · show PyData.depthAll (toPy d :: toPys ds) ≤ k
                simp only [PyData.depthAll]
                omega
        obtain ⟨a1, a2, a3⟩ := z ds vs rs (by simpa [okD] using h)
        refine ⟨.lst (.inl (.inl e)) a1, fun hk => ?_⟩
        unfold SeqAt.shaped
        rw [show (toPy (Dt.lst ds)).canLay0 = true from a2, Bool.true_and]
        refine decide_eq_true ?_
        simp only [toPy, PyData.depth]
        omega
    · cases k <;> simp [okD] at h
  | _ => exact ⟨(dp_of k r h).1, fun hk => shaped_of hk r h⟩
def deep : Nat := 12
def mEq (x y : Dt) (S : Store) : R Dt := if okD deep (res S x) = true ∧ okD deep (res S y) = true then .ok (.bl (eqD (res S x) (res S y))) S else .stuck
def mNe (x y : Dt) (S : Store) : R Dt := if okD deep (res S x) = true ∧ okD deep (res S y) = true then .ok (.bl (!eqD (res S x) (res S y))) S else .stuck
section
variable {G : Gv} {X : Cx}
theorem do_eq (hu : X.A.units + 64 < cLine) (hK : X.K = G.K := by rfl) : DO G X (compareOp .Eq) mEq := by
  refine ⟨_, op_eqD hu, ?_, ?_⟩
  · intro io H S x y dx dy Q so rx ry h
    unfold mEq at h
    split at h
    · rename_i hc
      obtain ⟨p1, q1⟩ := res_ok so rx hc.1
      obtain ⟨p2, q2⟩ := res_ok so ry hc.2
      refine ⟨_, _, by rw [hK]; exact p1, by rw [hK]; exact p2, q1 (by decide), q2 (by decide), ?_⟩
      rw [eqv_of deep _ _ hc.1 hc.2]
      exact h io H Grow.refl so _ (.bl _)
    · exact h.elim
  · intro x y S
    unfold mEq
    split <;> trivial
theorem do_ne (hu : X.A.units + 64 < cLine) (hK : X.K = G.K := by rfl) : DO G X (compareOp .NotEq) mNe := by
  refine ⟨_, op_neD hu, ?_, ?_⟩
  · intro io H S x y dx dy Q so rx ry h
    unfold mNe at h
    split at h
    · rename_i hc
      obtain ⟨p1, q1⟩ := res_ok so rx hc.1
      obtain ⟨p2, q2⟩ := res_ok so ry hc.2
      refine ⟨_, _, by rw [hK]; exact p1, by rw [hK]; exact p2, q1 (by decide), q2 (by decide), ?_⟩
      rw [eqv_of deep _ _ hc.1 hc.2]
      exact h io H Grow.refl so _ (.bl _)
    · exact h.elim
  · intro x y S
    unfold mNe
    split <;> trivial
end
end Dv
set_option Elab.async false
set_option linter.all false
set_option maxRecDepth 100000
set_option maxHeartbeats 4000000
set_option autoImplicit false
namespace Dv
open PySem PySem.Spec PyProof.Rows L2
/-! ### truth -/
def tru (S : Store) (d : Dt) : Option Bool := match d with
  | .non => some false
  | .bl b => some b
  | .int i => some (i != 0)
  | .str s => if s.length ≤ 100000 then some ((s.length : Int) != 0) else none
  | .tup ds => some (!ds.isEmpty)
  | .dct ks _ => some (!ks.isEmpty)
  | d => match asL S d with
    | some ds => some (!ds.isEmpty)
    | none => none
def mTruth (m : Env → Store → R Dt) : Env → Store → R Bool := fun e S => (m e S).bind fun d S1 => match tru S1 d with
  | some b => .ok b S1
  | none => .stuck
section
variable {G : Gv} {X : Cx} {W : WX}
theorem isEmpty_rel {G : Gv} {io : Io} {H : Hp} {ds : List Dt} {vs : List V} (r : RelDs G io H ds vs) : ds.isEmpty = vs.isEmpty := by cases r <;> rfl
theorem tru_of {io : Io} {H : Hp} {S : Store} {d : Dt} {v : V} {b : Bool} (so : StoreOk G io S H) (r : RelD G io H d v) (h : tru S d = some b) : TruV G.K v H b := by
  have ls : ∀ {d : Dt}, RelD G io H d v → (match asL S d with | some ds => some (!ds.isEmpty) | none => none) = some b → TruV G.K v H b := fun {d} r h => by
    split at h
    · rename_i ds e
      obtain ⟨a, vs, rfl, h1, h2⟩ := asL_ok so r e
      cases h
      exact .inl ⟨vs, h1, by rw [isEmpty_rel h2]⟩
    · cases h
  unfold tru at h
  split at h
  · cases r; cases h; rfl
  · cases r; cases h; rfl
  · cases r; cases h; rfl
  · cases r
    split at h
    · cases h
      exact ⟨Nat.le_trans (by assumption) (by decide), rfl⟩
    · cases h
  · cases h
    obtain ⟨a, vs, rfl, h1, h2⟩ := asT_ok r rfl
    exact .inr (.inl ⟨vs, h1, by rw [isEmpty_rel h2]⟩)
  · rename_i ks ds
    cases h
    cases r with
    | @dct a _ _ vs e n l k =>
      refine .inr (.inr ⟨_, e, ?_⟩)
      have l2 := k.length
      cases ks with
      | nil => rfl
      | cons x xs =>
        cases vs with
        | nil =>
          rw [List.length_cons] at l
          rw [List.length_nil] at l2
          omega
        | cons _ _ => rfl
  · exact ls r h
theorem simT_truth {t : TE} {m : Env → Store → R Dt} (hK : X.K = G.K) (h : SimE G W t m) : SimT G W (fun σ H Q => t σ H fun x H' => ∃ k, TruV X.K x H' k ∧ Q k H') (mTruth m) := by
  intro io H S e σ Q so re k
  refine h io H S e σ _ so re (k.bind.imp (fun _ _ _ _ z => z) fun d S1 i1 H1 g1 s1 k1 v r => ?_)
  split at k1
  · rename_i b hb
    exact ⟨b, by rw [hK]; exact tru_of s1 r hb, k1 i1 H1 Grow.refl s1⟩
  · exact k1.elim
theorem dt_truth {a : Expr} {m : Env → Store → R Dt} (ha : DE G X W a m) (hK : X.K = G.K := by rfl) (he : ∀ whole, isTrue a X.env whole = (do let v ← whole; standAt a.pos; holding [v] (truthy v)) := by intro _; rfl) : DT G X W a (mTruth m) := by
  obtain ⟨t, p, q⟩ := ha
  exact ⟨_, pt_truth p he, simT_truth hK q⟩
/-! ### and, or, not as tests -/
def mAndT (a b : Env → Store → R Bool) : Env → Store → R Bool := fun e S => (a e S).bind fun c S1 => if c = true then b e S1 else .ok false S1
def mOrT (a b : Env → Store → R Bool) : Env → Store → R Bool := fun e S => (a e S).bind fun c S1 => if c = true then .ok true S1 else b e S1
def mNotT (a : Env → Store → R Bool) : Env → Store → R Bool := fun e S => (a e S).bind fun c S1 => .ok (!c) S1
variable {a b : Expr} {rest : List Expr} {pos : Pos} {ma mb : Env → Store → R Bool}
theorem dw_or1 (h : DT G X W a ma) : DW G X W (.BoolOp .Or [a] pos) ma := let ⟨_, p, q⟩ := h; ⟨_, pw_or1 p, q⟩
theorem dw_or (h : DT G X W a ma) (k : DW G X W (.BoolOp .Or (b :: rest) pos) mb) : DW G X W (.BoolOp .Or (a :: b :: rest) pos) (mOrT ma mb) := by
  obtain ⟨t, p, q⟩ := h
  obtain ⟨u, p', q'⟩ := k
  refine ⟨_, pw_or p p', fun io H S e σ Q so re h => ?_⟩
  refine q io H S e σ _ so re (h.bind.imp (fun _ _ _ _ z => z) fun c S1 i1 H1 g1 s1 k1 => ?_)
  cases c with
  | false => exact q' i1 H1 S1 e σ Q s1 (re.mono g1) k1
  | true => exact k1 i1 H1 Grow.refl s1
theorem dt_w {e : Expr} {m : Env → Store → R Bool} (h : DW G X W e m) : DT G X W e m := let ⟨_, p, q⟩ := h; ⟨_, p.pt, q⟩
theorem dt_not (h : DT G X W a ma) : DT G X W (.UnaryOp .Not a pos) (mNotT ma) := by
  obtain ⟨t, p, q⟩ := h
  refine ⟨_, pt_not p, fun io H S e σ Q so re h => ?_⟩
  exact q io H S e σ _ so re (h.bind.imp (fun _ _ _ _ z => z) fun c S1 i1 H1 g1 s1 k1 => k1 i1 H1 Grow.refl s1)
/-! ### a < b < c -/
def mChain (m m' : Dt → Dt → Store → R Dt) (ma mb mc : Env → Store → R Dt) : Env → Store → R Dt := fun e S => (ma e S).bind fun x S1 => (mb e S1).bind fun y S2 => (m x y S2).bind fun z S3 => match z with
  | .bl true => (mc e S3).bind fun w S4 => m' y w S4
  | .bl false => .ok (.bl false) S3
  | _ => .stuck
theorem simE_chain {r r' : R2} {ta tb tc : TE} {m m' : Dt → Dt → Store → R Dt} {ma mb mc : Env → Store → R Dt} (ho : SimO G r m) (hn : ∀ x y S, NoErr (m x y S)) (ho' : SimO G r' m') (hn' : ∀ x y S, NoErr (m' x y S))
    (ha : SimE G W ta ma) (hb : SimE G W tb mb) (hc : SimE G W tc mc) : SimE G W (tChain r r' ta tb tc) (mChain m m' ma mb mc) := by
  intro io H S e σ Q so re h
  refine ha io H S e σ _ so re (h.bind.imp (fun _ _ _ _ z => z) fun d S1 i1 H1 g1 s1 k1 v r1 => ?_)
  refine hb i1 H1 S1 e σ _ s1 (re.mono g1) (k1.bind.imp (fun _ _ _ _ z => z) fun d' S2 i2 H2 g2 s2 k2 v' r2 => ?_)
  refine ho i2 H2 S2 v v' d d' _ s2 (r1.mono g2) r2 ((k2.bind.noErr (hn _ _ _)).imp (fun _ _ _ _ z => z) fun z S3 i3 H3 g3 s3 k3 vz rz => ?_)
  split at k3
  · refine ⟨true, rel_bl rz, ?_⟩
    rw [if_pos rfl]
    refine hc i3 H3 S3 e σ _ s3 ((re.mono (g1.trans g2)).mono g3) (k3.bind.imp (fun _ _ _ _ z => z) fun w S4 i4 H4 g4 s4 k4 vw rw' => ?_)
    exact ho' i4 H4 S4 v' vw d' w Q s4 ((r2.mono g3).mono g4) rw' (k4.noErr (hn' _ _ _))
  · refine ⟨false, rel_bl rz, ?_⟩
    rw [if_neg Bool.false_ne_true]
    exact k3 i3 H3 Grow.refl s3 _ (.bl _)
  · exact k3.elim
theorem de_chain {op op' : CmpOp} {m m' : Dt → Dt → Store → R Dt} {ma mb mc : Env → Store → R Dt} {c : Expr} (ho : DO G X (compareOp op) m) (ho' : DO G X (compareOp op') m') (ha : DE G X W a ma) (hb : DE G X W b mb) (hc : DE G X W c mc)
    (hm : lastMarks [op, op'] [b, c] = false := by with_unfolding_all rfl) : DE G X W (.Compare a [op, op'] [b, c] pos) (mChain m m' ma mb mc) := by
  obtain ⟨r, p, q, n⟩ := ho
  obtain ⟨r', p', q', n'⟩ := ho'
  obtain ⟨ta, pa, qa⟩ := ha
  obtain ⟨tb, pb, qb⟩ := hb
  obtain ⟨tc, pc, qc⟩ := hc
  exact ⟨_, pe_chain p p' pa pb pc hm, simE_chain q n q' n' qa qb qc⟩
theorem dt_chain {op op' : CmpOp} {m m' : Dt → Dt → Store → R Dt} {ma mb mc : Env → Store → R Dt} {c : Expr} (ho : DO G X (compareOp op) m) (ho' : DO G X (compareOp op') m') (ha : DE G X W a ma) (hb : DE G X W b mb) (hc : DE G X W c mc)
    (hm : lastMarks [op, op'] [b, c] = false := by with_unfolding_all rfl) : DT G X W (.Compare a [op, op'] [b, c] pos) (mB (mChain m m' ma mb mc)) := by
  obtain ⟨r, p, q, n⟩ := ho
  obtain ⟨r', p', q', n'⟩ := ho'
  obtain ⟨ta, pa, qa⟩ := ha
  obtain ⟨tb, pb, qb⟩ := hb
  obtain ⟨tc, pc, qc⟩ := hc
  exact ⟨_, pt_chain p p' pa pb pc hm, simT_b (simE_chain q n q' n' qa qb qc)⟩
end
/-! ### and, or, not, if as values -/
section
variable {G : Gv} {X : Cx} {W : WX} {a b : Expr} {rest : List Expr} {pos : Pos} {ma mb : Env → Store → R Dt}
def mAndV (a b : Env → Store → R Dt) : Env → Store → R Dt := fun e S => (a e S).bind fun d S1 => match tru S1 d with
  | some true => b e S1
  | some false => .ok d S1
  | none => .stuck
def mOrV (a b : Env → Store → R Dt) : Env → Store → R Dt := fun e S => (a e S).bind fun d S1 => match tru S1 d with
  | some true => .ok d S1
  | some false => b e S1
  | none => .stuck
def mNotV (a : Env → Store → R Dt) : Env → Store → R Dt := fun e S => (a e S).bind fun d S1 => match tru S1 d with
  | some b => .ok (.bl (!b)) S1
  | none => .stuck
theorem de_one {op} (h : DE G X W a ma) : DE G X W (.BoolOp op [a] pos) ma := let ⟨_, p, q⟩ := h; ⟨_, pe_one p, q⟩
theorem de_and (h : DE G X W a ma) (k : DE G X W (.BoolOp .And (b :: rest) pos) mb) (hK : X.K = G.K := by rfl) : DE G X W (.BoolOp .And (a :: b :: rest) pos) (mAndV ma mb) := by
  obtain ⟨t, p, q⟩ := h
  obtain ⟨u, p', q'⟩ := k
  refine ⟨_, pe_andT p p', fun io H S e σ Q so re h => ?_⟩
  refine q io H S e σ _ so re (h.bind.imp (fun _ _ _ _ z => z) fun d S1 i1 H1 g1 s1 k1 v r => ?_)
  split at k1
  · rename_i hb
    refine ⟨true, by rw [hK]; exact tru_of s1 r hb, ?_⟩
    rw [if_pos rfl]
    exact q' i1 H1 S1 e σ Q s1 (re.mono g1) k1
  · rename_i hb
    refine ⟨false, by rw [hK]; exact tru_of s1 r hb, ?_⟩
    rw [if_neg Bool.false_ne_true]
    exact k1 i1 H1 Grow.refl s1 _ r
  · exact k1.elim
theorem de_or (h : DE G X W a ma) (k : DE G X W (.BoolOp .Or (b :: rest) pos) mb) (hK : X.K = G.K := by rfl) : DE G X W (.BoolOp .Or (a :: b :: rest) pos) (mOrV ma mb) := by
  obtain ⟨t, p, q⟩ := h
  obtain ⟨u, p', q'⟩ := k
  refine ⟨_, pe_orT p p', fun io H S e σ Q so re h => ?_⟩
  refine q io H S e σ _ so re (h.bind.imp (fun _ _ _ _ z => z) fun d S1 i1 H1 g1 s1 k1 v r => ?_)
  split at k1
  · rename_i hb
    refine ⟨true, by rw [hK]; exact tru_of s1 r hb, ?_⟩
    rw [if_pos rfl]
    exact k1 i1 H1 Grow.refl s1 _ r
  · rename_i hb
    refine ⟨false, by rw [hK]; exact tru_of s1 r hb, ?_⟩
    rw [if_neg Bool.false_ne_true]
    exact q' i1 H1 S1 e σ Q s1 (re.mono g1) k1
  · exact k1.elim
theorem de_not (h : DE G X W a ma) (hK : X.K = G.K := by rfl) : DE G X W (.UnaryOp .Not a pos) (mNotV ma) := by
  obtain ⟨t, p, q⟩ := h
  refine ⟨_, pe_notT p, fun io H S e σ Q so re h => ?_⟩
  refine q io H S e σ _ so re (h.bind.imp (fun _ _ _ _ z => z) fun d S1 i1 H1 g1 s1 k1 v r => ?_)
  split at k1
  · rename_i c hb
    exact ⟨c, by rw [hK]; exact tru_of s1 r hb, k1 i1 H1 Grow.refl s1 _ (.bl _)⟩
  · exact k1.elim
def mIf (c : Env → Store → R Bool) (a b : Env → Store → R Dt) : Env → Store → R Dt := fun e S => (c e S).bind fun k S1 => if k = true then a e S1 else b e S1
theorem de_if {c : Expr} {mc : Env → Store → R Bool} (hc : DT G X W c mc) (ha : DE G X W a ma) (hb : DE G X W b mb) : DE G X W (.IfExp c a b pos) (mIf mc ma mb) := by
  obtain ⟨t, p, q⟩ := hc
  obtain ⟨ta, pa, qa⟩ := ha
  obtain ⟨tb, pb, qb⟩ := hb
  refine ⟨_, pe_ifExp p pa pb, fun io H S e σ Q so re h => ?_⟩
  refine q io H S e σ _ so re (h.bind.imp (fun _ _ _ _ z => z) fun c S1 i1 H1 g1 s1 k1 => ?_)
  cases c with
  | true => exact qa i1 H1 S1 e σ Q s1 (re.mono g1) k1
  | false => exact qb i1 H1 S1 e σ Q s1 (re.mono g1) k1
/-- -a -/
def mNeg (a : Env → Store → R Dt) : Env → Store → R Dt := fun e S => (a e S).bind fun d S1 => match d with
  | .int i => .ok (.int (-i)) S1
  | _ => .stuck
theorem de_neg (h : DE G X W a ma) : DE G X W (.UnaryOp .USub a pos) (mNeg ma) := by
  obtain ⟨t, p, q⟩ := h
  refine ⟨_, pe_un un_neg p, fun io H S e σ Q so re h => ?_⟩
  refine q io H S e σ _ so re (h.bind.imp (fun _ _ _ _ z => z) fun d S1 i1 H1 g1 s1 k1 v r => ?_)
  cases r with
  | int i => exact ⟨i, rfl, k1 i1 H1 Grow.refl s1 _ (.int _)⟩
  | _ => exact k1.elim
end
/-! ### displays -/
section
variable {G : Gv} {X : Cx} {W : WX} {es : List Expr} {pos : Pos} {ms : Env → Store → R (List Dt)}
def mTup (m : Env → Store → R (List Dt)) : Env → Store → R Dt := fun e S => (m e S).bind fun ds S1 => if ds.length ≤ 1000 then .ok (.tup ds) S1 else .stuck
def mLst (m : Env → Store → R (List Dt)) : Env → Store → R Dt := fun e S => (m e S).bind fun ds S1 => if ds.length ≤ 1000 then .ok (.lst ds) S1 else .stuck
/-- a list that will change: an object of the store -/
def mLstR (m : Env → Store → R (List Dt)) : Env → Store → R Dt := fun e S => (m e S).bind fun ds S1 => if ds.length ≤ 1000 then .ok (.ref S1.length) (S1 ++ [.lst ds]) else .stuck
theorem de_tup {x1} (h : DA G X W es ms) : DE G X W (.Tuple es x1 pos) (mTup ms) := by
  obtain ⟨t, p, q⟩ := h
  refine ⟨_, pe_tup p, fun io H S e σ Q so re h => ?_⟩
  refine q io H S e σ _ so re (h.bind.imp (fun _ _ _ _ z => z) fun ds S1 i1 H1 g1 s1 k1 vs r => ?_)
  split at k1
  · rename_i hl
    exact ⟨by rw [← r.length]; exact Nat.le_trans hl (by decide), fun p hp => out_tup s1 r k1 hp⟩
  · exact k1.elim
theorem de_lst (h : DA G X W es ms) : DE G X W (.List es pos) (mLst ms) := by
  obtain ⟨t, p, q⟩ := h
  refine ⟨_, pe_lst p, fun io H S e σ Q so re h => ?_⟩
  refine q io H S e σ _ so re (h.bind.imp (fun _ _ _ _ z => z) fun ds S1 i1 H1 g1 s1 k1 vs r => ?_)
  split at k1
  · rename_i hl
    exact ⟨by rw [← r.length]; exact Nat.le_trans hl (by decide), fun p hp => out_lst s1 r k1 hp⟩
  · exact k1.elim
theorem de_lstR (h : DA G X W es ms) : DE G X W (.List es pos) (mLstR ms) := by
  obtain ⟨t, p, q⟩ := h
  refine ⟨_, pe_lst p, fun io H S e σ Q so re h => ?_⟩
  refine q io H S e σ _ so re (h.bind.imp (fun _ _ _ _ z => z) fun ds S1 i1 H1 g1 s1 k1 vs r => ?_)
  split at k1
  · rename_i hl
    exact ⟨by rw [← r.length]; exact Nat.le_trans hl (by decide), fun p hp => out_ref s1 r k1 hp⟩
  · exact k1.elim
end
/-! ### subscripts -/
theorem rel_at {G : Gv} {io : Io} {H : Hp} {ds : List Dt} {vs : List V} {i : Int} {d : Dt} (r : RelDs G io H ds vs) (h : atI ds i = some d) : ∃ v, atI vs i = some v ∧ RelD G io H d v := by
  unfold atI at h ⊢
  rw [← r.length]
  cases e : ixN ds.length i with
  | none => rw [e] at h; cases h
  | some j =>
    rw [e] at h
    exact r.get h
def ixD (S : Store) (x : Dt) (i : Int) : Option Dt := match x with
  | .tup ds => atI ds i
  | .str s => if s.length ≤ 100000 then (atI s.cps.toList i).map fun c => .str ⟨#[c]⟩ else none
  | x => (asL S x).bind fun ds => atI ds i
def mIx (x y : Dt) (S : Store) : R Dt := match y with
  | .int i => match ixD S x i with
    | some d => .ok d S
    | none => .stuck
  | _ => .stuck
section
variable {G : Gv} {X : Cx} {W : WX} {a b : Expr} {pos : Pos} {ma mb : Env → Store → R Dt}
theorem sim_ix (hK : X.K = G.K) : SimO G (rIx X.K) mIx := by
  intro io H S x y dx dy Q so rx ry h
  unfold mIx at h
  split at h
  · rename_i i
    split at h
    · rename_i d hd
      cases ry
      have ls : ∀ {dx : Dt}, RelD G io H dx x → (asL S dx).bind (fun ds => atI ds i) = some d → rIx X.K x (.int i) H Q := fun {dx} r h' => by
        cases e : asL S dx with
        | none => rw [e] at h'; cases h'
        | some ds =>
          rw [e] at h'
          obtain ⟨p, vs, rfl, h1, h2⟩ := asL_ok so r e
          obtain ⟨v, e1, e2⟩ := rel_at h2 h'
          exact .inl ⟨p, vs, i, v, rfl, rfl, by rw [hK]; exact h1, e1, h io H Grow.refl so v e2⟩
      unfold ixD at hd
      split at hd
      · obtain ⟨p, vs, rfl, h1, h2⟩ := asT_ok rx rfl
        obtain ⟨v, e1, e2⟩ := rel_at h2 hd
        exact .inr (.inl ⟨p, vs, i, v, rfl, rfl, by rw [hK]; exact h1, e1, h io H Grow.refl so v e2⟩)
      · split at hd
        · rename_i s hl
          cases rx
          cases e : atI s.cps.toList i with
          | none => rw [e] at hd; cases hd
          | some c =>
            rw [e] at hd
            cases hd
            exact .inr (.inr ⟨s, i, c, rfl, rfl, Nat.le_trans hl (by decide), e, h io H Grow.refl so _ (.str _)⟩)
        · cases hd
      · exact ls rx hd
    · exact h.elim
  · exact h.elim
theorem noErr_ix (x y : Dt) (S : Store) : NoErr (mIx x y S) := by
  unfold mIx
  repeat' split
  all_goals trivial
theorem de_ix (ha : DE G X W a ma) (hb : DE G X W b mb) (hK : X.K = G.K := by rfl) (hs : PlainIx b := by exact fun _ _ => rfl) : DE G X W (.Subscript a b pos) (mOp mIx ma mb) := by
  obtain ⟨ta, pa, qa⟩ := ha
  obtain ⟨tb, pb, qb⟩ := hb
  exact ⟨_, pe_ix ix_seq pa pb hs, simE_op (sim_ix hK) noErr_ix qa qb⟩
/-- a slice's parts -/
def DP (G : Gv) (X : Cx) (W : WX) (e : Option Expr) (m : Env → Store → R (Option Int)) : Prop := ∃ t, PO X e t ∧ ∀ io H S e σ Q, StoreOk G io S H → RelEnv G io H e σ → Out G io H (wxE G W σ) (fun o _ _ H' => Q o H') (m e S) → t σ H Q
def mNoPart : Env → Store → R (Option Int) := fun _ S => .ok none S
def mPart (m : Env → Store → R Dt) : Env → Store → R (Option Int) := fun e S => (m e S).bind fun d S1 => match d with
  | .int i => .ok (some i) S1
  | _ => .stuck
theorem dp_none : DP G X W none mNoPart := ⟨_, po_none, fun io H S e σ Q so re h => h io H Grow.refl so⟩
theorem dp_some (ha : DE G X W a ma) : DP G X W (some a) (mPart ma) := by
  obtain ⟨t, p, q⟩ := ha
  refine ⟨_, po_some p, fun io H S e σ Q so re h => ?_⟩
  refine q io H S e σ _ so re (h.bind.imp (fun _ _ _ _ z => z) fun d S1 i1 H1 g1 s1 k1 v r => ?_)
  cases r with
  | int i => exact ⟨i, rfl, k1 i1 H1 Grow.refl s1⟩
  | _ => exact k1.elim
/-- the items of xs[lo:hi] -/
def cutA {α : Type} (xs : List α) (lo hi : Option Int) : List α := (xs.drop (HT.sIx xs.length 0 lo)).take (HT.sIx xs.length xs.length hi - HT.sIx xs.length 0 lo)
theorem rel_cut {G : Gv} {io : Io} {H : Hp} {ds : List Dt} {vs : List V} {lo hi : Option Int} (r : RelDs G io H ds vs) : RelDs G io H (cutA ds lo hi) (cutV vs lo hi) := by
  unfold cutA cutV
  rw [← r.length]
  exact (r.drop _).take _
def slD (S : Store) (x : Dt) (lo hi : Option Int) : Option Dt := match x with
  | .tup ds => some (.tup (cutA ds lo hi))
  | x => (asL S x).map fun ds => .lst (cutA ds lo hi)
def mSl (m : Env → Store → R Dt) (ml mh : Env → Store → R (Option Int)) : Env → Store → R Dt := fun e S => (m e S).bind fun x S1 => (ml e S1).bind fun l S2 => (mh e S2).bind fun h S3 => match slD S3 x l h with
  | some d => .ok d S3
  | none => .stuck
theorem cut_whole {α : Type} {xs : List α} {lo hi : Option Int} (h : HT.sIx xs.length 0 lo = 0 ∧ HT.sIx xs.length xs.length hi = xs.length) : cutA xs lo hi = xs := by
  unfold cutA
  rw [h.1, h.2]
  simp
theorem de_sl {lo hi : Option Expr} {p2 : Pos} {ml mh : Env → Store → R (Option Int)} (ha : DE G X W a ma) (hl : DP G X W lo ml) (hh : DP G X W hi mh) (hK : X.K = G.K := by rfl) : DE G X W (.Subscript a (.Slice lo hi none p2) pos) (mSl ma ml mh) := by
  obtain ⟨ta, pa, qa⟩ := ha
  obtain ⟨tl, pl, ql⟩ := hl
  obtain ⟨th, ph, qh⟩ := hh
  refine ⟨_, pe_slice (sl_list.or sl_tupA) pa pl ph, fun io H S e σ Q so re h => ?_⟩
  refine qa io H S e σ _ so re (h.bind.imp (fun _ _ _ _ z => z) fun x S1 i1 H1 g1 s1 k1 v rx => ?_)
  refine ql i1 H1 S1 e σ _ s1 (re.mono g1) (k1.bind.imp (fun _ _ _ _ z => z) fun l S2 i2 H2 g2 s2 k2 => ?_)
  refine qh i2 H2 S2 e σ _ s2 ((re.mono g1).mono g2) (k2.bind.imp (fun _ _ _ _ z => z) fun u S3 i3 H3 g3 s3 k3 => ?_)
  have rx3 := (rx.mono g2).mono g3
  split at k3
  · rename_i d hd
    unfold slD at hd
    split at hd
    · rename_i ds
      cases hd
      obtain ⟨p, vs, rfl, h1, h2⟩ := asT_ok rx3 rfl
      refine .inr ⟨p, vs, rfl, by rw [hK]; exact h1, fun hw => ?_, fun _ q hq => out_tup s3 (rel_cut h2) k3 hq⟩
      rw [← h2.length] at hw
      rw [cut_whole hw] at k3
      exact k3 i3 H3 Grow.refl s3 _ rx3
    · rename_i x' hne
      cases el : asL S3 x with
      | none => rw [el] at hd; cases hd
      | some ds =>
        rw [el] at hd
        cases hd
        obtain ⟨p, vs, rfl, h1, h2⟩ := asL_ok s3 rx3 el
        exact .inl ⟨p, vs, rfl, by rw [hK]; exact h1, fun q hq => out_lst s3 (rel_cut h2) k3 hq⟩
  · exact k3.elim
end
/-! ### built-in functions -/
def SimC (G : Gv) (r : List V → Hp → VK → Prop) (m : List Dt → Store → R Dt) : Prop := ∀ io H S ds vs Q, StoreOk G io S H → RelDs G io H ds vs → Out G io H (fun _ _ _ => False) (poE G Q) (m ds S) → r vs H Q
def DC (G : Gv) (X : Cx) (f : Value) (m : List Dt → Store → R Dt) : Prop := ∃ r, CallR X f r ∧ SimC G r m ∧ ∀ ds S, NoErr (m ds S)
def mCB (m : List Dt → Store → R Dt) (ma : Env → Store → R (List Dt)) : Env → Store → R Dt := fun e S => (ma e S).bind m
section
variable {G : Gv} {X : Cx} {W : WX} {e : Expr} {es : List Expr} {x : Str} {p pos : Pos} {ms : Env → Store → R (List Dt)} {id T : String} {m : List Dt → Store → R Dt}
theorem de_callB (hc : DC G X (.builtin id) m) (hg : Gl X x) (hm : X.mg x = none) (hv : bootBuiltins x = some (.builtin id)) (ha : DA G X W (e :: es) ms) (hn : x ≠ "__name__" := by decide) (hdb : (x == ("__debug__" : Str)) = false := by decide)
    (he : starEach (e :: es) X.env = (false, eval e X.env) :: starEach es X.env := by rfl) (hpl : (backTo pos (starEach es X.env)).any (·.1) = false := by rfl) : DE G X W (.Call (.Name x p) (e :: es) [] pos) (mCB m ms) := by
  obtain ⟨r, p1, q1, n1⟩ := hc
  obtain ⟨t, p2, q2⟩ := ha
  refine ⟨_, pe_callB p1 hg hm hv p2 hn hdb he hpl, fun io H S e σ Q so re h => ?_⟩
  exact q2 io H S e σ _ so re (h.bind.imp (fun _ _ _ _ z => z) fun ds S1 i1 H1 g1 s1 k1 vs r => q1 i1 H1 S1 ds vs Q s1 r (k1.noErr (n1 _ _)))
theorem de_callTy (hc : DC G X (.type T) m) (hg : Gl X x) (hm : X.mg x = none) (hv : bootBuiltins x = some (.type T)) (ha : DA G X W (e :: es) ms) (hn : x ≠ "__name__" := by decide) (hdb : (x == ("__debug__" : Str)) = false := by decide)
    (he : starEach (e :: es) X.env = (false, eval e X.env) :: starEach es X.env := by rfl) (hpl : (backTo pos (starEach es X.env)).any (·.1) = false := by rfl) : DE G X W (.Call (.Name x p) (e :: es) [] pos) (mCB m ms) := by
  obtain ⟨r, p1, q1, n1⟩ := hc
  obtain ⟨t, p2, q2⟩ := ha
  refine ⟨_, pe_callTy p1 hg hm hv p2 hn hdb he hpl, fun io H S e σ Q so re h => ?_⟩
  exact q2 io H S e σ _ so re (h.bind.imp (fun _ _ _ _ z => z) fun ds S1 i1 H1 g1 s1 k1 vs r => q1 i1 H1 S1 ds vs Q s1 r (k1.noErr (n1 _ _)))
def mAbs (ds : List Dt) (S : Store) : R Dt := match ds with
  | [.int i] => .ok (.int (if i < 0 then -i else i)) S
  | _ => .stuck
theorem dc_abs : DC G X (.builtin "abs") mAbs := by
  refine ⟨_, call_abs, ?_, ?_⟩
  · intro io H S ds vs Q so r h
    unfold mAbs at h
    split at h
    · cases r with
      | cons r1 r2 =>
        cases r1
        cases r2
        exact ⟨_, rfl, h io H Grow.refl so _ (.int _)⟩
    · exact h.elim
  · intro ds S
    unfold mAbs
    split <;> trivial
def lenD (S : Store) (d : Dt) : Option Nat := match d with
  | .tup ds => some ds.length
  | .str s => if s.length ≤ 100000 then some s.length else none
  | d => (asL S d).map List.length
def mLen (ds : List Dt) (S : Store) : R Dt := match ds with
  | [d] => match lenD S d with
    | some n => .ok (.int n) S
    | none => .stuck
  | _ => .stuck
theorem dc_len (hK : X.K = G.K := by rfl) : DC G X (.builtin "len") mLen := by
  refine ⟨_, (call_len_seq (X := X)).or call_len_str, ?_, ?_⟩
  · intro io H S ds vs Q so r h
    unfold mLen at h
    split at h
    · rename_i d
      cases r with
      | cons r1 r2 =>
        cases r2
        split at h
        · rename_i n hn
          unfold lenD at hn
          split at hn
          · cases hn
            obtain ⟨p, us, rfl, h1, h2⟩ := asT_ok r1 rfl
            refine .inl ⟨p, us, rfl, .inr (by rw [hK]; exact h1), ?_⟩
            rw [← h2.length]
            exact h io H Grow.refl so _ (.int _)
          · split at hn
            · rename_i hl
              cases hn
              cases r1
              exact .inr ⟨_, rfl, Nat.le_trans hl (by decide), h io H Grow.refl so _ (.int _)⟩
            · cases hn
          · cases el : asL S d with
            | none => rw [el] at hn; cases hn
            | some ds =>
              rw [el] at hn
              cases hn
              obtain ⟨p, us, rfl, h1, h2⟩ := asL_ok so r1 el
              refine .inl ⟨p, us, rfl, .inl (by rw [hK]; exact h1), ?_⟩
              rw [← h2.length]
              exact h io H Grow.refl so _ (.int _)
        · exact h.elim
    · exact h.elim
  · intro ds S
    unfold mLen
    repeat' split
    all_goals trivial
def asS (S : Store) (d : Dt) : Option (List Dt) := match d with
  | .tup ds => some ds
  | d => asL S d
theorem asS_ok {io : Io} {H : Hp} {S : Store} {d : Dt} {ds : List Dt} {v : V} (so : StoreOk G io S H) (r : RelD G io H d v) (h : asS S d = some ds) : ∃ a vs, v = .ref a ∧ (SqL G.K H a vs ∨ SqT G.K H a vs) ∧ RelDs G io H ds vs := by
  unfold asS at h
  split at h
  · obtain ⟨a, vs, h1, h2, h3⟩ := asT_ok r h
    exact ⟨a, vs, h1, .inr h2, h3⟩
  · obtain ⟨a, vs, h1, h2, h3⟩ := asL_ok so r h
    exact ⟨a, vs, h1, .inl h2, h3⟩
/-- list(xs): by value; an object of the store -/
def mList (ds : List Dt) (S : Store) : R Dt := match ds with
  | [d] => match asS S d with
    | some ds => .ok (.lst ds) S
    | none => .stuck
  | _ => .stuck
def mListR (ds : List Dt) (S : Store) : R Dt := match ds with
  | [d] => match asS S d with
    | some ds => .ok (.ref S.length) (S ++ [.lst ds])
    | none => .stuck
  | _ => .stuck
theorem dc_list (hK : X.K = G.K := by rfl) : DC G X (.type "list") mList := by
  refine ⟨_, call_list_of, ?_, ?_⟩
  · intro io H S ds vs Q so r h
    unfold mList at h
    split at h
    · cases r with
      | cons r1 r2 =>
        cases r2
        split at h
        · rename_i es he
          obtain ⟨a, us, rfl, h1, h2⟩ := asS_ok so r1 he
          exact ⟨a, us, rfl, by rw [hK]; exact h1, fun l hl => out_lst so h2 h hl⟩
        · exact h.elim
    · exact h.elim
  · intro ds S
    unfold mList
    repeat' split
    all_goals trivial
def mTuple (ds : List Dt) (S : Store) : R Dt := match ds with
  | [d] => match asS S d with
    | some ds => .ok (.tup ds) S
    | none => .stuck
  | _ => .stuck
theorem dc_tuple (hK : X.K = G.K := by rfl) : DC G X (.type "tuple") mTuple := by
  refine ⟨_, call_tuple_of, ?_, ?_⟩
  · intro io H S ds vs Q so r h
    unfold mTuple at h
    split at h
    · rename_i d
      cases r with
      | cons r1 r2 =>
        cases r2
        split at h
        · rename_i es he
          unfold asS at he
          split at he
          · cases he
            obtain ⟨a, us, rfl, h1, h2⟩ := asT_ok r1 rfl
            exact ⟨a, us, rfl, .inr ⟨by rw [hK]; exact h1, h io H Grow.refl so _ r1⟩⟩
          · obtain ⟨a, us, rfl, h1, h2⟩ := asL_ok so r1 he
            exact ⟨a, us, rfl, .inl ⟨by rw [hK]; exact h1, fun l hl => out_tup so h2 h hl⟩⟩
        · exact h.elim
    · exact h.elim
  · intro ds S
    unfold mTuple
    repeat' split
    all_goals trivial
/-- all, any, sum of a list -/
def bools : List Dt → Option (List Bool)
  | [] => some []
  | .bl b :: r => (bools r).map (b :: ·)
  | _ => none
theorem bools_ok {io : Io} {H : Hp} : ∀ {ds : List Dt} {vs : List V} {bs : List Bool}, RelDs G io H ds vs → bools ds = some bs → vs = bs.map V.bl
  | [], _, _, r, h => by cases r; cases h; rfl
  | d :: ds, _, bs, r, h => by
    cases r with
    | cons r1 r2 =>
      cases r1 with
      | bl b =>
        simp only [bools] at h
        cases e : bools ds with
        | none => rw [e] at h; cases h
        | some cs =>
          rw [e] at h
          cases h
          rw [bools_ok r2 e]
          rfl
      | _ => cases h
def mAll (ds : List Dt) (S : Store) : R Dt := match ds with
  | [d] => match (asL S d).bind bools with
    | some bs => .ok (.bl (bs.all fun b => b)) S
    | none => .stuck
  | _ => .stuck
theorem dc_all (hc : X.calm = true := by rfl) (hK : X.K = G.K := by rfl) : DC G X (.builtin "all") mAll := by
  refine ⟨_, cr_all hc, ?_, ?_⟩
  · intro io H S ds vs Q so r h
    unfold mAll at h
    split at h
    · rename_i d
      cases r with
      | cons r1 r2 =>
        cases r2
        split at h
        · rename_i bs hb
          cases el : asL S d with
          | none => rw [el] at hb; cases hb
          | some es =>
            rw [el] at hb
            obtain ⟨a, us, rfl, h1, h2⟩ := asL_ok so r1 el
            have e := bools_ok h2 hb
            subst e
            refine ⟨a, bs, rfl, by rw [hK]; exact h1, ?_⟩
            have e2 : bs.all (fun b => b) = bs.all id := rfl
            rw [e2] at h
            exact h io H Grow.refl so _ (.bl _)
        · exact h.elim
    · exact h.elim
  · intro ds S
    unfold mAll
    repeat' split
    all_goals trivial
end
end Dv
set_option Elab.async false
set_option linter.all false
set_option maxRecDepth 100000
set_option maxHeartbeats 4000000
set_option autoImplicit false
namespace Dv
open PySem PySem.Spec PyProof.Rows L2
/-! ### isinstance -/
/-- what isinstance asks of the text's own classes -/
structure ClsOk (G : Gv) : Prop where
  cls : ∀ c C, G.cl c = some C → Cls G.K C
  ha : ∀ c C, G.cl c = some C → PySem.W.findIn G.K (.ref C) "__class__" = some (some (.builtin "object.__class__"))
  hn : PySem.W.specialIn G.K (.builtin "object.__class__") "__get__" = some (some (.builtin "getset_descriptor.__get__")) ∨ ∀ c, G.cl c = none
  htk : PySem.W.takesIn G.K (.builtin "object.__class__") = some true ∨ ∀ c, G.cl c = none
  hm : ∀ c C, G.cl c = some C → PySem.W.mroIn G.K C (.type "object") = some true
  tyOwn : ∀ c C, G.cl c = some C → ∀ t ∈ tys, PySem.W.kitOne G.K (.type t) (.ref C) = some false
  ownTy : ∀ c C, G.cl c = some C → ∀ t ∈ clss, PySem.W.kitOne G.K (.ref C) (.type t) = some false
  ownOwn : ∀ c C d D, G.cl c = some C → G.cl d = some D → PySem.W.kitOne G.K (.ref C) (.ref D) = some (c == d)
theorem ClsOk.none {G : Gv} (h : ∀ c, G.cl c = none) : ClsOk G := by
  have z : ∀ {P : Prop} {c : String} {C : Addr}, G.cl c = some C → P := fun {P c C} e => by
    rw [h] at e
    cases e
  exact ⟨fun _ _ e => z e, fun _ _ e => z e, .inr h, .inr h, fun _ _ e => z e, fun _ _ e => z e, fun _ _ e => z e, fun _ _ _ _ e => z e⟩
theorem ClsOk.tyOf {G : Gv} (o : ClsOk G) {H : Hp} {a C dx : Addr} {fs : List (Str × V)} {c : String} (h : G.cl c = some C) (e : H a = some (.ins C dx fs)) : TyOf G.K H (.ref a) (.ref C) := by
  have n1 := o.hn.resolve_right fun z => by rw [z] at h; cases h
  have n2 := o.htk.resolve_right fun z => by rw [z] at h; cases h
  exact .ins e (o.cls c C h) (o.ha c C h) n1 n2 (o.hm c C h)
/-- the type of a value: a built-in one, or an own class -/
def tyS (S : Store) (d : Dt) : Option (String ⊕ String) := match d with
  | .non => some (.inl "NoneType")
  | .bl _ => some (.inl "bool")
  | .int _ => some (.inl "int")
  | .str _ => some (.inl "str")
  | .tup _ => some (.inl "tuple")
  | .lst _ => some (.inl "list")
  | .dct _ _ => some (.inl "dict")
  | .ins c _ _ => some (.inr c)
  | .ref i => match S[i]? with
    | some (.lst _) => some (.inl "list")
    | some (.dct _ _) => some (.inl "dict")
    | some (.ins c _ _) => some (.inr c)
    | none => none
  | _ => none
def isiB (t c : String) : Bool := t == c || t == "bool" && c == "int"
theorem kit_isiB {K : PySem.W.Frag} {t c : String} (ht : t ∈ tys) (hc : c ∈ clss) : PySem.W.kitOne K (.type t) (.type c) = some (isiB t c) := by
  have all : (tys.all fun t => clss.all fun c => decide (kitB t c = some (isiB t c))) = true := by decide +kernel
  rw [List.all_eq_true] at all
  have z := List.all_eq_true.mp (all t ht) c hc
  exact kit_ty (of_decide_eq_true z)
def isiT (t : String ⊕ String) (c : Dt) : Option Bool := match t, c with
  | .inl t, .ty n => if n ∈ clss then some (isiB t n) else none
  | .inl _, .cls _ => some false
  | .inr _, .ty n => if n ∈ clss then some false else none
  | .inr c, .cls d => some (c == d)
  | _, _ => none
def isiAny (t : String ⊕ String) : List Dt → Option Bool
  | [] => some false
  | c :: r => match isiT t c with
    | some true => (isiAny t r).map fun _ => true
    | some false => isiAny t r
    | none => none
def mIsi (ds : List Dt) (S : Store) : R Dt := match ds with
  | [x, .tup cs] => match (tyS S x).bind fun t => isiAny t cs with
    | some b => .ok (.bl b) S
    | none => .stuck
  | [x, c] => match (tyS S x).bind fun t => isiT t c with
    | some b => .ok (.bl b) S
    | none => .stuck
  | _ => .stuck
/-- a type as a value of the model -/
inductive TyV (G : Gv) : String ⊕ String → Value → Prop
  | b {t : String} : t ∈ tys → TyV G (.inl t) (.type t)
  | own {c : String} {C : Addr} : G.cl c = some C → TyV G (.inr c) (.ref C)
section
variable {G : Gv} {X : Cx} {W : WX} {io : Io} {H : Hp} {S : Store}
theorem tyS_ok (o : ClsOk G) {d : Dt} {v : V} {t : String ⊕ String} (so : StoreOk G io S H) (r : RelD G io H d v) (h : tyS S d = some t) : ∃ u, TyV G t u ∧ TyX G.K H v u := by
  cases r with
  | non => cases h; exact ⟨_, .b (by decide), .base .non⟩
  | bl b => cases h; exact ⟨_, .b (by decide), .base (.bl b)⟩
  | int i => cases h; exact ⟨_, .b (by decide), .base (.int i)⟩
  | str s => cases h; exact ⟨_, .b (by decide), .base (.str s)⟩
  | tup e _ =>
    cases h
    rcases e with ⟨e, _⟩ | ⟨o, its, n, h1, h2, _⟩
    · exact ⟨_, .b (by decide), .base (.tup e)⟩
    · exact ⟨_, .b (by decide), .kTuple h1 h2⟩
  | lst e _ _ => cases h; exact ⟨_, .b (by decide), .base (.lst e)⟩
  | dct e _ _ _ => cases h; exact ⟨_, .b (by decide), .base (.dK e)⟩
  | ins e n c l k => cases h; exact ⟨_, .own c, .base (o.tyOf c e)⟩
  | @ref a i e =>
    unfold tyS at h
    dsimp only at h
    split at h
    · rename_i hs
      obtain ⟨a', h1, h2⟩ := so.at_ hs
      rw [e] at h1
      cases h1
      cases h
      cases h2 with
      | lst e1 _ => exact ⟨_, .b (by decide), .base (.lst e1)⟩
    · rename_i hs
      obtain ⟨a', h1, h2⟩ := so.at_ hs
      rw [e] at h1
      cases h1
      cases h
      cases h2 with
      | dct e1 _ _ => exact ⟨_, .b (by decide), .base (.dK e1)⟩
    · rename_i hs
      obtain ⟨a', h1, h2⟩ := so.at_ hs
      rw [e] at h1
      cases h1
      cases h
      cases h2 with
      | ins e1 c _ _ => exact ⟨_, .own c, .base (o.tyOf c e1)⟩
    · cases h
  | _ => cases h
theorem isiT_ok (o : ClsOk G) {t : String ⊕ String} {u : Value} {c : Dt} {vc : V} {b : Bool} (ht : TyV G t u) (r : RelD G io H c vc) (h : isiT t c = some b) : ∃ uc, ClsV vc uc ∧ PySem.W.kitOne G.K u uc = some b := by
  cases r with
  | ty n =>
    refine ⟨_, .ty n, ?_⟩
    cases ht with
    | b ht =>
      unfold isiT at h
      dsimp only at h
      split at h
      · rename_i hc
        cases h
        exact kit_isiB ht hc
      · cases h
    | own hc =>
      unfold isiT at h
      dsimp only at h
      split at h
      · rename_i hn
        cases h
        exact o.ownTy _ _ hc _ hn
      · cases h
  | @cls c C hC =>
    refine ⟨_, .own C, ?_⟩
    cases ht with
    | b ht =>
      cases h
      exact o.tyOwn _ _ hC _ ht
    | own hc =>
      cases h
      exact o.ownOwn _ _ _ _ hc hC
  | _ => cases ht <;> cases h
theorem isiAny_ok (o : ClsOk G) {t : String ⊕ String} {u : Value} (ht : TyV G t u) : ∀ {cs : List Dt} {vs : List V} {b : Bool}, RelDs G io H cs vs → isiAny t cs = some b → ∃ us, Paired ClsV vs us ∧ PySem.W.kitAny G.K u us = some b
  | [], _, b, r, h => by
    cases r
    cases h
    exact ⟨[], .nil, rfl⟩
  | c :: cs, _, b, r, h => by
    cases r with
    | cons r1 r2 =>
      unfold isiAny at h
      split at h
      · rename_i e1
        cases e : isiAny t cs with
        | none => rw [e] at h; cases h
        | some b' =>
          rw [e] at h
          cases h
          obtain ⟨uc, h1, h2⟩ := isiT_ok o ht r1 e1
          obtain ⟨us, h3, _⟩ := isiAny_ok o ht r2 e
          exact ⟨uc :: us, .cons h1 h3, kitAny_cons h2 (fun z => by cases z) fun _ => rfl⟩
      · rename_i e1
        obtain ⟨uc, h1, h2⟩ := isiT_ok o ht r1 e1
        obtain ⟨us, h3, h4⟩ := isiAny_ok o ht r2 h
        exact ⟨uc :: us, .cons h1 h3, kitAny_cons h2 (fun _ => h4) fun z => by cases z⟩
      · cases h
theorem dc_isi (o : ClsOk G) (hK : X.K = G.K := by rfl) : DC G X (.builtin "isinstance") mIsi := by
  refine ⟨_, ((call_isi (X := X)).or call_isiT).or call_isiK, ?_, ?_⟩
  · intro io H S ds vs Q so r h
    rw [hK]
    unfold mIsi at h
    split at h
    · rename_i x cs
      cases r with
      | cons r1 r2 =>
        cases r2 with
        | cons r2 r3 =>
          cases r3
          split at h
          · rename_i b hb
            cases et : tyS S x with
            | none => rw [et] at hb; cases hb
            | some t =>
              rw [et] at hb
              obtain ⟨u, h1, h2⟩ := tyS_ok o so r1 et
              cases r2 with
              | @tup a _ us e rs =>
                obtain ⟨ws, h3, h4⟩ := isiAny_ok o h1 rs hb
                have q := h io H Grow.refl so _ (.bl b)
                rcases e with ⟨e, _⟩ | ⟨ob, its, n, k1, k2, k3, k4, k5⟩
                · exact .inl (.inr ⟨_, _, _, _, _, b, rfl, e, h3, h2, h4, q⟩)
                · obtain ⟨oc, od, dt, sl⟩ := ob
                  simp only at k2 k3
                  subst k2 k3
                  have e3 := ClsV.all h3 k5
                  subst e3
                  exact .inr ⟨_, _, od, its.toList, n, sl, _, b, rfl, by simpa using k1, h2, h4, q⟩
          · exact h.elim
    · rename_i x c hne
      cases r with
      | cons r1 r2 =>
        cases r2 with
        | cons r2 r3 =>
          cases r3
          split at h
          · rename_i b hb
            cases et : tyS S x with
            | none => rw [et] at hb; cases hb
            | some t =>
              rw [et] at hb
              obtain ⟨u, h1, h2⟩ := tyS_ok o so r1 et
              obtain ⟨uc, h3, h4⟩ := isiT_ok o h1 r2 hb
              exact .inl (.inl ⟨_, _, _, _, b, rfl, h3, h2, h4, h io H Grow.refl so _ (.bl b)⟩)
          · exact h.elim
    · exact h.elim
  · intro ds S
    unfold mIsi
    repeat' split
    all_goals trivial
end
/-! ### statements -/
def R.toS {α : Type} (r : R α) (e : Env) (f : α → Store → RS) : RS := match r with
  | .ok a S => f a S
  | .err x S => .err x e S
  | .stuck => .stuck
theorem OutS.bind {G : Gv} {io : Io} {H : Hp} {α : Type} {wx : Ex → Env → Io → Hp → Prop} {post : Fl → Env → Store → Io → Hp → Prop} {r : R α} {e : Env} {f : α → Store → RS} (h : OutS G io H wx post (r.toS e f)) :
    Out G io H (fun x io' H' => wx x e io' H') (fun a S io' H' => OutS G io' H' wx post (f a S)) r := by
  cases r with
  | ok a S => exact fun io' H' g s => OutS.from g h
  | err x S => exact h
  | stuck => exact h
section
variable {G : Gv} {X : Cx} {W : WX} {e : Expr} {me : Env → Store → R Dt} {pos : Pos}
/-- a wish at the statement's slots -/
theorem wx_of {io : Io} {H : Hp} {en : Env} {σ : L2.St} (re : RelEnv G io H en σ) : ∀ x io' H', Grow io H io' H' → wxS G W x en io' H' → wxE G W σ x io' H' := fun x io' H' g z cls dx rx => z σ cls dx (re.mono g) rx
/-- targets -/
def DG (G : Gv) (X : Cx) (tg : Expr) (m : Dt → Env → Store → Option (Env × Store)) : Prop := ∃ g, PG X tg g ∧ ∀ io H S en σ d v (Q : L2.St → Hp → Prop), StoreOk G io S H → RelEnv G io H en σ → RelD G io H d v →
  (match m d en S with
    | some (e', S') => ∀ io' H', Grow io H io' H' → StoreOk G io' S' H' → ∀ σ', RelEnv G io' H' e' σ' → Q σ' H'
    | none => False) → g v σ H Q
def gNm (i : Nat) : Dt → Env → Store → Option (Env × Store) := fun d e S => some (e.set i (some d), S)
theorem dg_name {i : Nat} {x : Str} (hN : X.N.Nodup) (hi : X.N[i]? = some x) (hx : Loc X.env.scope x) (hf : X.fn x = true ∨ X.env.scope.names.lookup x = some .local := by first | exact .inl rfl | exact .inr rfl | assumption) : DG G X (.Name x pos) (gNm i) :=
  ⟨_, pg_name hN hi hx hf, fun io H S en σ d v Q so re r h => h io H Grow.refl so _ (re.set r)⟩
def DGs (G : Gv) (X : Cx) (tgs : List Expr) (m : List Dt → Env → Store → Option (Env × Store)) : Prop := ∃ g, PGs X tgs g ∧ ∀ io H S en σ ds vs (Q : L2.St → Hp → Prop), StoreOk G io S H → RelEnv G io H en σ → RelDs G io H ds vs →
  (match m ds en S with
    | some (e', S') => ∀ io' H', Grow io H io' H' → StoreOk G io' S' H' → ∀ σ', RelEnv G io' H' e' σ' → Q σ' H'
    | none => False) → g vs σ H Q
def gNil' : List Dt → Env → Store → Option (Env × Store) := fun ds e S => match ds with
  | [] => some (e, S)
  | _ => none
def gCons' (m : Dt → Env → Store → Option (Env × Store)) (ms : List Dt → Env → Store → Option (Env × Store)) : List Dt → Env → Store → Option (Env × Store) := fun ds e S => match ds with
  | d :: r => match m d e S with
    | some (e1, S1) => ms r e1 S1
    | none => none
  | [] => none
theorem dgs_nil : DGs G X [] gNil' := ⟨_, pgs_nil, fun io H S en σ ds vs Q so re r h => by
  cases r with
  | nil => exact ⟨rfl, h io H Grow.refl so _ re⟩
  | cons _ _ => exact h.elim⟩
theorem dgs_cons {tg : Expr} {tgs : List Expr} {m : Dt → Env → Store → Option (Env × Store)} {ms : List Dt → Env → Store → Option (Env × Store)} (h1 : DG G X tg m) (h2 : DGs G X tgs ms)
    (hs : (assignEach (tg :: tgs) X.env).map (·.2) = assign tg X.env :: (assignEach tgs X.env).map (·.2) := by rfl) : DGs G X (tg :: tgs) (gCons' m ms) := by
  obtain ⟨g, p, q⟩ := h1
  obtain ⟨g', p', q'⟩ := h2
  refine ⟨_, pgs_cons p p' hs, fun io H S en σ ds vs Q so re r h => ?_⟩
  cases r with
  | nil => exact h.elim
  | cons r1 r2 =>
    refine ⟨_, _, rfl, q io H S en σ _ _ _ so re r1 ?_⟩
    unfold gCons' at h
    dsimp only at h
    split
    · rename_i e1 S1 em
      rw [em] at h
      intro i1 H1 g1 s1 σ1 re1
      refine q' i1 H1 S1 e1 σ1 _ _ Q s1 re1 (r2.mono g1) ?_
      dsimp only at h
      split
      · rename_i e2 S2 em2
        rw [em2] at h
        exact fun i2 H2 g2 s2 σ2 re2 => h i2 H2 (g1.trans g2) s2 σ2 re2
      · rename_i em2
        rw [em2] at h
        exact h
    · rename_i em
      rw [em] at h
      exact h
def gTp (n : Nat) (m : List Dt → Env → Store → Option (Env × Store)) : Dt → Env → Store → Option (Env × Store) := fun d e S => match d with
  | .tup ds => if ds.length = n then m ds e S else none
  | _ => none
theorem dg_tup {es : List Expr} {k n : Nat} {m : List Dt → Env → Store → Option (Env × Store)} (h : DGs G X es m) (hc : X.calm = true := by rfl) (hn : (assignEach es X.env).length = n := by rfl) (hst : (assignEach es X.env).findIdx? (·.1) = none := by rfl)
    (hK : X.K = G.K := by rfl) : DG G X (.Tuple es k pos) (gTp n m) := by
  obtain ⟨g, p, q⟩ := h
  refine ⟨_, pg_tup hc p hn hst, fun io H S en σ d v Q so re r h => ?_⟩
  unfold gTp at h
  split at h
  · rename_i e' S' em
    split at em
    · rename_i ds
      split at em
      · rename_i hl
        obtain ⟨a, vs, rfl, h1, h2⟩ := asT_ok r rfl
        refine ⟨a, vs, rfl, by rw [hK]; exact h1, by rw [← h2.length]; exact hl, q io H S en σ _ _ Q so re h2 ?_⟩
        rw [em]
        exact h
      · cases em
    · cases em
  · exact h.elim
def mSet (i : Nat) (m : Env → Store → R Dt) : Env → Store → RS := fun en S => (m en S).toS en fun d S1 => .ok .nx (en.set i (some d)) S1
theorem ds_set {i : Nat} {x : Str} {pos' : Pos} (hN : X.N.Nodup) (he : DE G X W e me) (hi : X.N[i]? = some x := by rfl) (hx : Loc X.env.scope x := by first | exact Or.inl rfl | exact Or.inr rfl) (hs : swapsWith e (some (.Name x pos')) pos.line X.env = pure false := by rfl) (hf : X.fn x = true ∨ X.env.scope.names.lookup x = some .local := by first | exact .inl rfl | exact .inr rfl | assumption) :
    DS G X W (.Assign [.Name x pos'] e pos) (mSet i me) := by
  obtain ⟨t, p, q⟩ := he
  refine ⟨_, ps_set hN hi hx p hs hf, fun io H S en σ D so re h => ?_⟩
  refine q io H S en σ _ so re (h.bind.imp (wx_of re) fun d S1 i1 H1 g1 s1 k1 v r => ?_)
  exact k1 i1 H1 Grow.refl s1 _ ((re.mono g1).set r)
/-- target = value -/
def mAsg (g : Dt → Env → Store → Option (Env × Store)) (m : Env → Store → R Dt) : Env → Store → RS := fun en S => (m en S).toS en fun d S1 => match g d en S1 with
  | some (e', S') => .ok .nx e' S'
  | none => .stuck
theorem ds_asg {tg : Expr} {g : Dt → Env → Store → Option (Env × Store)} (he : DE G X W e me) (hg : DG G X tg g) (hs : swapsWithSole [tg] e pos.line X.env = pure false := by rfl) (hw : swappedStores [tg] e X.env = pure none := by rfl)
    (h1 : (assignEach [tg] X.env).map (·.2) = [assign tg X.env] := by rfl) : DS G X W (.Assign [tg] e pos) (mAsg g me) := by
  obtain ⟨t, p, q⟩ := he
  obtain ⟨g', p', q'⟩ := hg
  refine ⟨_, ps_asg p p' hs hw h1, fun io H S en σ D so re h => ?_⟩
  refine q io H S en σ _ so re (h.bind.imp (wx_of re) fun d S1 i1 H1 g1 s1 k1 v r => ?_)
  refine q' i1 H1 S1 en σ d v _ s1 (re.mono g1) r ?_
  split
  · rename_i e' S' em
    rw [em] at k1
    exact fun io' H' g s σ' re' => k1 io' H' g s σ' re'
  · rename_i em
    rw [em] at k1
    exact k1.elim
/-- a, b = x, y: plain names -/
def mPar (i j : Nat) (m : Env → Store → R (List Dt)) : Env → Store → RS := fun en S => (m en S).toS en fun ds S1 => match ds with
  | [d, d'] => .ok .nx ((en.set i (some d)).set j (some d')) S1
  | _ => .stuck
/-- an expression alone -/
def mDrop (m : Env → Store → R Dt) : Env → Store → RS := fun en S => (m en S).toS en fun _ S1 => .ok .nx en S1
theorem ds_expr (he : DE G X W e me) (hs : swapsWith e none pos.line X.env = pure false := by rfl) : DS G X W (.Expr e pos) (mDrop me) := by
  obtain ⟨t, p, q⟩ := he
  refine ⟨_, ps_expr p hs, fun io H S en σ D so re h => ?_⟩
  exact q io H S en σ _ so re (h.bind.imp (wx_of re) fun d S1 i1 H1 g1 s1 k1 v r => k1 i1 H1 Grow.refl s1 _ (re.mono g1))
def mRet (m : Env → Store → R Dt) : Env → Store → RS := fun en S => (m en S).toS en fun d S1 => .ok (.rt d) en S1
theorem ds_ret (he : DE G X W e me) : DS G X W (.Return (some e) pos) (mRet me) := by
  obtain ⟨t, p, q⟩ := he
  refine ⟨_, ps_ret p, fun io H S en σ D so re h => ?_⟩
  exact q io H S en σ _ so re (h.bind.imp (wx_of re) fun d S1 i1 H1 g1 s1 k1 v r => k1 i1 H1 Grow.refl s1 _ r)
def mRetN : Env → Store → RS := fun en S => .ok (.rt .non) en S
def mNx : Env → Store → RS := fun en S => .ok .nx en S
def mBk : Env → Store → RS := fun en S => .ok .bk en S
def mCt : Env → Store → RS := fun en S => .ok .ct en S
/-- blocks -/
def mSeq (m k : Env → Store → RS) : Env → Store → RS := fun en S => match m en S with
  | .ok .nx e1 S1 => k e1 S1
  | r => r
variable {st : Stmt} {sts : List Stmt} {m k : Env → Store → RS}
theorem db_nil : DB G X W [] mNx := ⟨_, pss_nil, fun io H S en σ D so re h => h io H Grow.refl so _ re⟩
theorem db_one (h : DS G X W st m) : DB G X W [st] m := let ⟨_, p, q⟩ := h; ⟨_, pss_one p, q⟩
theorem db_cons (h : DS G X W st m) (h2 : DB G X W sts k) : DB G X W (st :: sts) (mSeq m k) := by
  obtain ⟨t, p, q⟩ := h
  obtain ⟨u, p', q'⟩ := h2
  refine ⟨_, pss_cons p p', fun io H S en σ D so re h => ?_⟩
  refine q io H S en σ _ so re ?_
  unfold mSeq at h
  cases em : m en S with
  | stuck => rw [em] at h; exact h
  | err x e1 S1 => rw [em] at h; exact h
  | ok f e1 S1 =>
    rw [em] at h
    cases f with
    | nx => exact fun i1 H1 g1 s1 σ1 re1 => q' i1 H1 S1 e1 σ1 D s1 re1 (OutS.from g1 h)
    | bk => exact h
    | ct => exact h
    | rt d => exact h
def mIfS (c : Env → Store → R Bool) (a b : Env → Store → RS) : Env → Store → RS := fun en S => (c en S).toS en fun t S1 => if t = true then a en S1 else b en S1
theorem ds_if {c : Expr} {a b : List Stmt} {mc : Env → Store → R Bool} {ma mb : Env → Store → RS} (hc : DT G X W c mc) (ha : DB G X W a ma) (hb : DB G X W b mb) : DS G X W (.If c a b pos) (mIfS mc ma mb) := by
  obtain ⟨t, p, q⟩ := hc
  obtain ⟨ta, pa, qa⟩ := ha
  obtain ⟨tb, pb, qb⟩ := hb
  refine ⟨_, ps_if p pa pb, fun io H S en σ D so re h => ?_⟩
  refine q io H S en σ _ so re (h.bind.imp (wx_of re) fun c S1 i1 H1 g1 s1 k1 => ?_)
  cases c with
  | true => exact qa i1 H1 S1 en σ D s1 (re.mono g1) k1
  | false => exact qb i1 H1 S1 en σ D s1 (re.mono g1) k1
/-! ### while -/
/-! ### for -/
/-- an iterator over these items -/
structure JOk (G : Gv) (io0 : Io) (H0 : Hp) (J : It) (items : List Dt) : Prop where
  go : ∀ i io H, Base io0 H0 io H → i < items.length → J.go i H
  stop : ∀ i io H, Base io0 H0 io H → items.length ≤ i → J.stop i H
  yld : ∀ i io H x H', Base io0 H0 io H → (∀ a, H a = none → a ∉ io) → i < items.length → J.yld i H x H' → ExtH H H' ∧ ∃ d, items[i]? = some d ∧ RelD G io H' d x
def DI (G : Gv) (X : Cx) (W : WX) (tg it : Expr) (m : Env → Store → R (List Dt)) : Prop := ∃ wi, PI X tg it wi ∧ ∀ io H S en σ (Q : It → Hp → Prop), StoreOk G io S H → RelEnv G io H en σ →
  Out G io H (wxE G W σ) (fun items _ io' H' => ∀ J, JOk G io' H' J items → Q J H') (m en S) → wi σ H Q
def fLoop (tg : Dt → Env → Store → Option (Env × Store)) (b : Env → Store → RS) : List Dt → Env → Store → RS
  | [], en, S => .ok .nx en S
  | d :: ds, en, S => match tg d en S with
    | none => .stuck
    | some (e1, S1) => match b e1 S1 with
      | .ok .nx e2 S2 => fLoop tg b ds e2 S2
      | .ok .ct e2 S2 => fLoop tg b ds e2 S2
      | .ok .bk e2 S2 => .ok .nx e2 S2
      | r => r
def mFor (mi : Env → Store → R (List Dt)) (tg : Dt → Env → Store → Option (Env × Store)) (b : Env → Store → RS) : Env → Store → RS := fun en S => (mi en S).toS en fun items S1 => fLoop tg b items en S1
theorem ds_for {tg it : Expr} {body : List Stmt} {mi : Env → Store → R (List Dt)} {g : Dt → Env → Store → Option (Env × Store)} {mb : Env → Store → RS} (hp : PassesOwn (model X.prog X.w) X.A X.env X.xe) (hi : DI G X W tg it mi) (hg : DG G X tg g) (hb : DB G X W body mb)
    (hc : X.calm = true := by rfl) (hs : ∀ x, foldedSetIterable it X.env x = pure x := by intro _; rfl) : DS G X W (.For tg it body [] pos) (mFor mi g mb) := by
  obtain ⟨wi, pi, qi⟩ := hi
  obtain ⟨g', pg, qg⟩ := hg
  obtain ⟨tb, pb, qb⟩ := hb
  refine ⟨_, ps_for hp hc pi pg pb hs, fun io H S en σ D so re h => ?_⟩
  refine qi io H S en σ _ so re (h.bind.imp (wx_of re) fun items S1 i1 H1 g1 s1 k1 J jo => ?_)
  refine ⟨fun i m σ H => m = items.length - i ∧ i ≤ items.length ∧ ∃ io en S, Grow i1 H1 io H ∧ StoreOk G io S H ∧ RelEnv G io H en σ ∧ OutS G io H (wxS G W) (poF G D) (fLoop g mb (items.drop i) en S),
    ⟨_, rfl, Nat.zero_le _, i1, en, S1, Grow.refl, s1, re.mono g1, by simpa using k1⟩, ?_⟩
  rintro i m σ2 H2 ⟨rfl, hle, i2, e2, S2, g2, s2, re2, h2⟩
  by_cases hlt : i < items.length
  · refine .inr ⟨jo.go i i2 H2 g2.base hlt, fun σ' H' => ∃ m', m' < items.length - i ∧ m' = items.length - (i + 1) ∧ i + 1 ≤ items.length ∧ ∃ io en S, Grow i1 H1 io H' ∧ StoreOk G io S H' ∧ RelEnv G io H' en σ' ∧ OutS G io H' (wxS G W) (poF G D) (fLoop g mb (items.drop (i + 1)) en S),
      fun σ' H' z => z, fun x H3 hy => ?_⟩
    obtain ⟨ex, d, hd, rd⟩ := jo.yld i i2 H2 x H3 g2.base (fun _ z => s2.fresh z) hlt hy
    have g3 : Grow i2 H2 i2 H3 := ex.grow
    have s3 := s2.ext ex
    have edr : items.drop i = d :: items.drop (i + 1) := by
      rw [List.drop_eq_getElem_cons hlt]
      have := (List.getElem?_eq_some_iff.mp hd).2
      rw [this]
    rw [edr] at h2
    unfold fLoop at h2
    refine qg i2 H3 S2 e2 σ2 d x _ s3 (re2.mono g3) rd ?_
    split
    · rename_i e4 S4 em
      rw [em] at h2
      dsimp only at h2
      intro i4 H4 g4 s4 σ4 re4
      refine qb i4 H4 S4 e4 σ4 _ s4 re4 ?_
      have h4 := OutS.from (g3.trans g4) h2
      have gg := g2.trans (g3.trans g4)
      cases eb : mb e4 S4 with
      | stuck => rw [eb] at h4; exact h4
      | err x e2 S2 => rw [eb] at h4; exact h4
      | ok fl e5 S5 =>
        rw [eb] at h4
        cases fl with
        | nx => exact fun i5 H5 g5 s5 σ5 re5 => ⟨_, by omega, rfl, hlt, i5, e5, S5, gg.trans g5, s5, re5, OutS.from g5 h4⟩
        | ct => exact fun i5 H5 g5 s5 σ5 re5 => ⟨_, by omega, rfl, hlt, i5, e5, S5, gg.trans g5, s5, re5, OutS.from g5 h4⟩
        | bk => exact h4
        | rt d => exact h4
    · rename_i em
      rw [em] at h2
      exact h2.elim
  · have e : i = items.length := by omega
    subst e
    rw [List.drop_length] at h2
    exact .inl ⟨jo.stop _ i2 H2 g2.base (Nat.le_refl _), h2 i2 H2 Grow.refl s2 _ re2⟩
end
end Dv
set_option Elab.async false
set_option linter.all false
set_option maxRecDepth 100000
set_option maxHeartbeats 4000000
set_option autoImplicit false
namespace Dv
open PySem PySem.Spec PyProof.Rows L2
/-! ### leaving a def: what it made is by value from there on -/
def noRef : Nat → Dt → Bool
  | _, .non => true
  | _, .bl _ => true
  | _, .int _ => true
  | _, .str _ => true
  | _, .ty _ => true
  | _, .cls _ => true
  | k + 1, .tup ds => ds.all (noRef k)
  | k + 1, .lst ds => ds.all (noRef k)
  | k + 1, .fz ds => ds.all (noRef k)
  | k + 1, .ins _ _ ds => ds.all (noRef k)
  | k + 1, .dct _ ds => ds.all (noRef k)
  | _, .lam _ _ => true
  | _, _ => false
def mapO {α β : Type} (f : α → Option β) : List α → Option (List β)
  | [] => some []
  | d :: ds => match f d with
    | some x => (mapO f ds).map (x :: ·)
    | none => none
/-- the first n objects of the store stay; the others become values -/
def frz (n : Nat) (S : Store) : Nat → Dt → Option Dt
  | 0, d => if noRef 0 d = true then some d else none
  | k + 1, d => if noRef (k + 1) d = true then some d else match d with
    | .ref i => if i < n then some (.ref i) else match S[i]? with
      | some (.lst ds) => (mapO (frz n S k) ds).map .lst
      | some (.ins c ns ds) => (mapO (frz n S k) ds).map (.ins c ns)
      | some (.dct ks ds) => (mapO (frz n S k) ds).map (.dct ks)
      | none => none
    | .tup ds => (mapO (frz n S k) ds).map .tup
    | .lst ds => (mapO (frz n S k) ds).map .lst
    | .ins c ns ds => (mapO (frz n S k) ds).map (.ins c ns)
    | .dct ks ds => (mapO (frz n S k) ds).map (.dct ks)
    | _ => none
theorem frz_pure {n : Nat} {S : Store} {k : Nat} {d : Dt} (h : noRef k d = true) : frz n S k d = some d := by
  cases k with
  | zero => exact if_pos h
  | succ k => exact if_pos h
def frzO (n : Nat) (S : Store) (k : Nat) : Ob → Option Ob
  | .lst ds => (mapO (frz n S k) ds).map .lst
  | .ins c ns ds => (mapO (frz n S k) ds).map (.ins c ns)
  | .dct ks ds => (mapO (frz n S k) ds).map (.dct ks)
section
variable {G : Gv} {io : Io} {H : Hp} {S : Store}
theorem notin_take {n : Nat} {a : Addr} (h : a ∉ io) : a ∉ io.take n := fun z => h (z.imp List.mem_of_mem_take id)
theorem mapO_len {α β : Type} {f : α → Option β} : ∀ {ds : List α} {es : List β}, mapO f ds = some es → ds.length = es.length
  | [], _, h => by cases h; rfl
  | d :: ds, es, h => by
    unfold mapO at h
    split at h
    · cases e : mapO f ds with
      | none => rw [e] at h; cases h
      | some l =>
        rw [e] at h
        cases h
        rw [List.length_cons, List.length_cons, mapO_len e]
    · cases h
theorem noRef_rel {n : Nat} : ∀ (k : Nat) {d : Dt} {v : V}, noRef k d = true → RelD G io H d v → RelD G (io.take n) H d v := by
  intro k
  induction k with
  | zero =>
    intro d v h r
    cases r with
    | non => exact .non
    | bl b => exact .bl b
    | int i => exact .int i
    | str s => exact .str s
    | ty n => exact .ty n
    | cls hc => exact .cls hc
    | lam e a b => exact .lam e ⟨a.1, notin_take a.2.1, a.2.2⟩ ⟨b.1, notin_take b.2.1, b.2.2⟩
    | _ => simp [noRef] at h
  | succ k ih =>
    have all : ∀ {ds : List Dt} {vs : List V}, ds.all (noRef k) = true → RelDs G io H ds vs → RelDs G (io.take n) H ds vs := by
      intro ds
      induction ds with
      | nil =>
        intro vs _ r
        cases r
        exact .nil
      | cons d ds ih2 =>
        intro vs h r
        rw [List.all_cons, Bool.and_eq_true] at h
        cases r with
        | cons r1 r2 => exact .cons (ih h.1 r1) (ih2 h.2 r2)
    intro d v h r
    cases r with
    | non => exact .non
    | bl b => exact .bl b
    | int i => exact .int i
    | str s => exact .str s
    | ty n => exact .ty n
    | cls hc => exact .cls hc
    | tup e rs => exact .tup (e.imp (fun z => ⟨z.1, notin_take z.2⟩) id) (all (by simpa [noRef] using h) rs)
    | lst e n rs => exact .lst e (notin_take n) (all (by simpa [noRef] using h) rs)
    | fz e rs => exact .fz (e.imp (fun z => ⟨z.1, notin_take z.2⟩) id) (all (by simpa [noRef] using h) rs)
    | ins e n c l rs => exact .ins e (notin_take n) c l (all (by simpa [noRef] using h) rs)
    | dct e n l rs => exact .dct e (notin_take n) l (all (by simpa [noRef] using h) rs)
    | ref e => simp [noRef] at h
    | lam e a b => exact .lam e ⟨a.1, notin_take a.2.1, a.2.2⟩ ⟨b.1, notin_take b.2.1, b.2.2⟩
theorem mapO_rel {n : Nat} {f : Dt → Option Dt} (hf : ∀ {d d' : Dt} {v : V}, f d = some d' → RelD G io H d v → RelD G (io.take n) H d' v) : ∀ {ds es : List Dt} {vs : List V}, mapO f ds = some es → RelDs G io H ds vs → RelDs G (io.take n) H es vs
  | [], _, _, h, r => by
    cases h
    cases r
    exact .nil
  | d :: ds, es, _, h, r => by
    unfold mapO at h
    cases r with
    | cons r1 r2 =>
      split at h
      · rename_i x ex
        cases e : mapO f ds with
        | none => rw [e] at h; cases h
        | some l =>
          rw [e] at h
          cases h
          exact .cons (hf ex r1) (mapO_rel hf e r2)
      · cases h
theorem take_at {n i : Nat} {a : Addr} (h : io.l[i]? = some a) (hi : i < n) : (io.take n).l[i]? = some a := by
  show (io.l.take n)[i]? = some a
  rw [List.getElem?_take_of_lt hi]
  exact h
theorem take_not {n i : Nat} {a : Addr} (so : StoreOk G io S H) (h : io.l[i]? = some a) (hi : ¬ i < n) : a ∉ io.take n := fun z => by
  rcases z with z | z
  · obtain ⟨j, hj, e⟩ := List.getElem_of_mem z
    rw [List.length_take] at hj
    rw [List.getElem_take] at e
    obtain ⟨l1, e1⟩ := List.getElem?_eq_some_iff.mp h
    have := (List.getElem_inj so.nd).mp (e.trans e1.symm)
    omega
  · exact so.dis a (List.mem_of_getElem? h) z
theorem map_some {α β : Type} {f : α → β} {o : Option α} {b : β} (h : o.map f = some b) : ∃ a, o = some a ∧ b = f a := by
  cases o with
  | none => cases h
  | some a => cases h; exact ⟨a, rfl, rfl⟩
theorem frz_rel {n : Nat} (so : StoreOk G io S H) : ∀ (k : Nat) {d d' : Dt} {v : V}, frz n S k d = some d' → RelD G io H d v → RelD G (io.take n) H d' v := by
  intro k
  induction k with
  | zero =>
    intro d d' v h r
    unfold frz at h
    split at h
    · rename_i hn
      cases h
      exact noRef_rel 0 hn r
    · cases h
  | succ k ih =>
    intro d d' v h r
    unfold frz at h
    split at h
    · rename_i hn
      cases h
      exact noRef_rel (k + 1) hn r
    · split at h
      · cases r with
        | @ref a i e =>
          split at h
          · rename_i hi
            cases h
            exact .ref (take_at e hi)
          · rename_i hi
            have na := take_not so e hi
            split at h
            · rename_i ds hs
              obtain ⟨es, e1, rfl⟩ := map_some h
              have q := so.ob _ _ _ hs e
              cases q with
              | lst h1 h2 => exact .lst h1 na (mapO_rel ih e1 h2)
            · rename_i c ns ds hs
              obtain ⟨es, e1, rfl⟩ := map_some h
              have q := so.ob _ _ _ hs e
              cases q with
              | ins h1 h2 h3 h4 => exact .ins h1 na h2 (by rw [h3, mapO_len e1]) (mapO_rel ih e1 h4)
            · rename_i ks ds hs
              obtain ⟨es, e1, rfl⟩ := map_some h
              have q := so.ob _ _ _ hs e
              cases q with
              | dct h1 h2 h3 => exact .dct h1 na (by rw [h2, mapO_len e1]) (mapO_rel ih e1 h3)
            · cases h
      · obtain ⟨es, e1, rfl⟩ := map_some h
        cases r with
        | tup e rs => exact .tup (e.imp (fun z => ⟨z.1, notin_take z.2⟩) id) (mapO_rel ih e1 rs)
      · obtain ⟨es, e1, rfl⟩ := map_some h
        cases r with
        | lst e n rs => exact .lst e (notin_take n) (mapO_rel ih e1 rs)
      · obtain ⟨es, e1, rfl⟩ := map_some h
        cases r with
        | ins e n c l rs => exact .ins e (notin_take n) c (by rw [l, mapO_len e1]) (mapO_rel ih e1 rs)
      · obtain ⟨es, e1, rfl⟩ := map_some h
        cases r with
        | dct e n l rs => exact .dct e (notin_take n) (by rw [l, mapO_len e1]) (mapO_rel ih e1 rs)
      · cases h
theorem mapOb_at {f : Ob → Option Ob} : ∀ {S S' : Store} {i : Nat} {o : Ob}, mapO f S = some S' → S'[i]? = some o → ∃ o0, S[i]? = some o0 ∧ f o0 = some o
  | [], _, i, o, h, e => by
    cases h
    simp at e
  | x :: xs, S', i, o, h, e => by
    unfold mapO at h
    split at h
    · rename_i y ey
      cases em : mapO f xs with
      | none => rw [em] at h; cases h
      | some l =>
        rw [em] at h
        cases h
        cases i with
        | zero =>
          cases e
          exact ⟨x, rfl, ey⟩
        | succ i =>
          obtain ⟨o0, h1, h2⟩ := mapOb_at em (i := i) (by simpa using e)
          exact ⟨o0, by simpa using h1, h2⟩
    · cases h
def deepF : Nat := 12
def exitS (n : Nat) (S : Store) : Option Store := mapO (frzO n S deepF) (S.take n)
theorem exitS_ok {n : Nat} {S2 : Store} (so : StoreOk G io S H) (h : exitS n S = some S2) (hn : n ≤ S.length) : StoreOk G (io.take n) S2 H := by
  refine ⟨so.nd.sublist (List.take_sublist _ _), ?_, fun a ha => so.dis a (List.mem_of_mem_take ha), so.hid, fun i o a h1 h2 => ?_, so.tab⟩
  · rw [← mapO_len h, List.length_take, List.length_take, so.len]
  · obtain ⟨o0, e0, e1⟩ := mapOb_at h h1
    rw [List.getElem?_take] at e0 h2
    split at e0
    · rename_i hi
      rw [if_pos hi] at h2
      have q := so.ob i o0 a e0 h2
      cases o0 with
      | lst ds =>
        obtain ⟨es, m1, rfl⟩ := map_some e1
        cases q with
        | lst k1 k2 => exact .lst k1 (mapO_rel (frz_rel so deepF) m1 k2)
      | ins c ns ds =>
        obtain ⟨es, m1, rfl⟩ := map_some e1
        cases q with
        | ins k1 k2 k3 k4 => exact .ins k1 k2 (by rw [k3, mapO_len m1]) (mapO_rel (frz_rel so deepF) m1 k4)
      | dct ks ds =>
        obtain ⟨es, m1, rfl⟩ := map_some e1
        cases q with
        | dct k1 k2 k3 => exact .dct k1 (by rw [k2, mapO_len m1]) (mapO_rel (frz_rel so deepF) m1 k3)
    · cases e0
end
/-! ### defs -/
abbrev Fn := List Dt → Store → R Dt
def fin (keep : Bool) (n : Nat) (d : Dt) (S : Store) : R Dt := if keep = true ∨ S.length = n then .ok d S else match frz n S deepF d, exitS n S with
  | some d', some S' => .ok d' S'
  | _, _ => .stuck
def finX (keep : Bool) (n : Nat) (x : Ex) (S : Store) : R Dt := if keep = true ∨ S.length = n then .err x S else match mapO (frz n S deepF) x.ds, exitS n S with
  | some ds, some S' => .err ⟨x.c, x.ns, ds⟩ S'
  | _, _ => .stuck
/-- a def by its body: keep says that what it made stays an object -/
def fnRun (nl : Nat) (keep : Bool) (body : Env → Store → RS) : Fn := fun ds S => match body (ds.map some ++ List.replicate (nl - ds.length) none) S with
  | .ok (.rt d) _ S' => fin keep S.length d S'
  | .ok .nx _ S' => fin keep S.length .non S'
  | .ok _ _ _ => .stuck
  | .err x _ S' => finX keep S.length x S'
  | .stuck => .stuck
def spF (G : Gv) (np : Nat) (m : Fn) : Sp := fun vs H Q E => ∃ io S ds, StoreOk G io S H ∧ RelDs G io H ds vs ∧ ds.length = np ∧ Out G io H (fun x io' H' => ∀ cls dx, RelX G io' H' x cls dx → E cls dx H') (poE G Q) (m ds S)
theorem grow_take {io io' : Io} {H H' : Hp} (g : Grow io H io' H') : io'.take io.l.length = io ∧ Grow io H io H' := by
  obtain ⟨t, rfl⟩ := g.pre
  exact ⟨by cases io; simp [Io.take], ⟨⟨[], by simp⟩, fun b o h n nt => g.keep b o h n nt, fun a h n => absurd h n⟩⟩
theorem fin_ok {G : Gv} {io io' : Io} {H H' : Hp} {S S' : Store} {keep : Bool} {d : Dt} {v : V} {wx : Ex → Io → Hp → Prop} {Q : VK} (so : StoreOk G io S H) (g : Grow io H io' H') (so' : StoreOk G io' S' H') (r : RelD G io' H' d v)
    (h : Out G io H wx (poE G Q) (fin keep S.length d S')) : Q v H' := by
  unfold fin at h
  split at h
  · exact h io' H' g so' v r
  · split at h
    · rename_i d' S2 e1 e2
      obtain ⟨t1, t2⟩ := grow_take g
      have hn : S.length ≤ S'.length := by
        obtain ⟨t, rfl⟩ := g.pre
        rw [so.len, so'.len, List.length_append]
        omega
      have q1 := frz_rel so' deepF e1 r
      have q2 := exitS_ok so' e2 hn
      rw [so.len, t1] at q1 q2
      exact h io H' t2 q2 v q1
    · exact h.elim
theorem finX_ok {G : Gv} {io io' : Io} {H H' : Hp} {S S' : Store} {keep : Bool} {x : Ex} {cls : Value} {dx : Option Addr} {Q : VK} {E : XK} (so : StoreOk G io S H) (g : Grow io H io' H') (so' : StoreOk G io' S' H') (r : RelX G io' H' x cls dx)
    (h : Out G io H (fun x io' H' => ∀ cls dx, RelX G io' H' x cls dx → E cls dx H') (poE G Q) (finX keep S.length x S')) : E cls dx H' := by
  unfold finX at h
  split at h
  · exact h io' H' g so' cls dx r
  · split at h
    · rename_i ds S2 e1 e2
      obtain ⟨t1, t2⟩ := grow_take g
      have hn : S.length ≤ S'.length := by
        obtain ⟨t, rfl⟩ := g.pre
        rw [so.len, so'.len, List.length_append]
        omega
      have q2 := exitS_ok so' e2 hn
      rw [so.len, t1] at q2
      refine h io H' t2 q2 cls dx ?_
      obtain ⟨C, a, vs, h1, h2, h3, h4, h5, h6, h7⟩ := r
      refine ⟨C, a, vs, h1, h2, h3, h4, ?_, by rw [h6, mapO_len e1], ?_⟩
      · rw [← t1]
        exact notin_take h5
      · have q := mapO_rel (n := S.length) (frz_rel so' deepF) e1 h7
        rw [so.len, t1] at q
        exact q
    · exact h.elim
section
variable {P : Program} {w : World} {K : PySem.W.Frag} {mg : Str → Option Value} {base : Heap} {G : Gv}
theorem rel_start {io : Io} {H : Hp} {N : List Str} {ds : List Dt} {vs : List V} (r : RelDs G io H ds vs) (hl : vs.length ≤ N.length) : RelEnv G io H (ds.map some ++ List.replicate (N.length - ds.length) none) (L2.start N vs) := by
  have l := r.length
  refine ⟨by unfold L2.start; simp [l], fun i d h => ?_⟩
  unfold L2.start
  by_cases hi : i < ds.length
  · rw [List.getElem?_append_left (by simpa using hi), List.getElem?_map] at h
    cases e : ds[i]? with
    | none => rw [e] at h; cases h
    | some x =>
      rw [e] at h
      cases h
      obtain ⟨v, h1, h2⟩ := r.get e
      refine ⟨v, ?_, h2⟩
      rw [List.getElem?_append_left (by rw [List.length_map, ← l]; exact hi), List.getElem?_map, h1]
      rfl
  · rw [List.getElem?_append_right (by simpa using hi), List.getElem?_replicate] at h
    split at h <;> cases h
/-- THE RULE for a def -/
theorem fn_ok {x qual : Str} {st : Stmt} {f : Addr} {fd : FuncData} {N ps : List Str} {k : Nat} {m : Env → Store → RS} (keep : Bool) (F : Fun K x qual st f fd) (S : FnScope N ps (defScope st))
    (hbody : ∀ (cdv : Value) (A : Around) (outer : List PySem.Env) (s : Shared) (H : Hp) (E : XK), Room k (A.deeper (envOfC qual (defScope st) s.heap.objs.size f cdv)) →
      DB G (cxOf (L2.CX P w) P w K mg base N qual (defScope st) f cdv A outer s H E) (fun cls d _ H => E cls d H) (defBody st) m) : FnOk P w K mg base (L2.CX P w) (k + 1) f fd ps (spF G ps.length (fnRun N.length keep m)) := by
  refine F.okX S (fun vs H Q E h => ?_) (fun cdv A outer s H vs Q E hr h => ?_)
  · obtain ⟨io, St, ds, so, r, hl, _⟩ := h
    rw [← r.length]
    exact hl
  · obtain ⟨io, St, ds, so, r, hl, ho⟩ := h
    obtain ⟨t, p, q⟩ := hbody cdv A outer s H E hr
    refine ⟨t, p, ?_⟩
    have hpl : ps.length ≤ N.length := by have := congrArg List.length S.pre; rw [List.length_take] at this; omega
    have lv := r.length
    refine q io H St _ _ _ so (rel_start r (by omega)) ?_
    unfold fnRun at ho
    cases em : m (ds.map some ++ List.replicate (N.length - ds.length) none) St with
    | stuck => rw [em] at ho; exact ho
    | err x e1 S1 =>
      rw [em] at ho
      exact fun io' H' g so' σ cls dx re rx => finX_ok so g so' rx ho
    | ok fl e1 S1 =>
      rw [em] at ho
      cases fl with
      | nx => exact fun io' H' g so' σ re => fin_ok so g so' .non ho
      | bk => exact ho.elim
      | ct => exact ho.elim
      | rt d => exact fun io' H' g so' v r => fin_ok so g so' r ho
/-- no def is called deeper than its level -/
theorem fn_tk {qual : Str} {st : Stmt} {f : Addr} {N : List Str} {cdv : Value} {A : Around} {outer : List PySem.Env} {s : Shared} {H : Hp} {E : XK} : Takes (cxOf (L2.CX P w) P w K mg base N qual (defScope st) f cdv A outer s H E) (fun cls d _ H => E cls d H) := takes_of rfl rfl rfl rfl
theorem fn_po {qual : Str} {st : Stmt} {f : Addr} {N : List Str} {cdv : Value} {A : Around} {outer : List PySem.Env} {s : Shared} {H : Hp} {E : XK} : PassesOwn (model P w) (cxOf (L2.CX P w) P w K mg base N qual (defScope st) f cdv A outer s H E).A (cxOf (L2.CX P w) P w K mg base N qual (defScope st) f cdv A outer s H E).env (cxOf (L2.CX P w) P w K mg base N qual (defScope st) f cdv A outer s H E).xe := passes_of (X := cxOf (L2.CX P w) P w K mg base N qual (defScope st) f cdv A outer s H E) rfl
end
/-- f(e, ..) -/
def mCall (np : Nat) (m : Fn) (ma : Env → Store → R (List Dt)) : Env → Store → R Dt := fun en S => (ma en S).bind fun ds S1 => if ds.length = np then m ds S1 else .stuck
section
variable {G : Gv} {X : Cx} {W : WX} {k np : Nat} {f : Addr} {fd : FuncData} {ps : List Str} {x : Str} {p pos : Pos} {e : Expr} {es : List Expr} {ma : Env → Store → R (List Dt)} {m : Fn}
theorem de_call (F : FnOk X.prog X.w X.K X.mg X.base (L2.CX X.prog X.w) k f fd ps (spF G np m)) (hr : Room k X.A) (hm : X.mg x = some (.ref f)) (hk : PySem.W.keepIn X.K (.ref f) = true) (hb : Binds X.K fd ps []) (tk : Takes X W)
    (ha : DA G X W (e :: es) ma) (hg : Gl X x := by rfl) (hdb : (x == ("__debug__" : Str)) = false := by decide) (he : starEach (e :: es) X.env = (false, eval e X.env) :: starEach es X.env := by rfl) (hpl : (backTo pos (starEach es X.env)).any (·.1) = false := by rfl) :
    DE G X W (.Call (.Name x p) (e :: es) [] pos) (mCall np m ma) := by
  obtain ⟨t, pa, qa⟩ := ha
  refine ⟨_, pe_callS (E := WE W) F hr hg hm hk hb (fun σ => passAt tk σ) pa hdb he hpl, fun io H S en σ Q so re h => ?_⟩
  refine qa io H S en σ _ so re (h.bind.imp (fun _ _ _ _ z => z) fun ds S1 i1 H1 g1 s1 k1 vs r => ?_)
  split at k1
  · rename_i hl
    exact ⟨i1, S1, ds, s1, r, hl, k1⟩
  · exact k1.elim
end
end Dv
set_option Elab.async false
set_option linter.all false
set_option maxRecDepth 100000
set_option maxHeartbeats 4000000
set_option autoImplicit false
namespace Dv
open PySem PySem.Spec PyProof.Rows L2
/-! ### what is walked -/
theorem rel_sqL {G : Gv} {io i1 : Io} {H H1 : Hp} (g : Base io H i1 H1) {a : Addr} {vs : List V} (h : (Rd H a (.lst vs) ∧ a ∉ io) ∨ KLst G.K a vs) : SqL G.K H1 a vs := by
  rcases h with ⟨h, n⟩ | h
  · exact .inl (g.rd h n).1
  · exact .inr h
theorem jok_list {G : Gv} {io : Io} {H : Hp} {a : Addr} {ds : List Dt} {vs : List V} (h : (Rd H a (.lst vs) ∧ a ∉ io) ∨ KLst G.K a vs) (r : RelDs G io H ds vs) : JOk G io H (Itl G.K a) ds := by
  have l := r.length
  refine ⟨fun i i1 H1 g hi => ?_, fun i i1 H1 g hi => ?_, fun i i1 H1 x H' g _ hi hy => ?_⟩
  · exact ⟨vs, vs[i]'(by omega), rel_sqL g h, by simp [l ▸ hi]⟩
  · exact ⟨vs, rel_sqL g h, by omega⟩
  · obtain ⟨rfl, hx⟩ := hy
    have e := hx vs (rel_sqL g h)
    obtain ⟨v, e1, e2⟩ := r.get (i := i) (d := ds[i]'hi) (by simp [hi])
    rw [e] at e1
    cases e1
    exact ⟨fun _ _ z => z, _, by simp [hi], e2.monoB g⟩
theorem jok_tup {G : Gv} {io : Io} {H : Hp} {a : Addr} {ds : List Dt} {vs : List V} (h : (H a = some (.tup vs) ∧ a ∉ io) ∨ KTup G.K a vs) (r : RelDs G io H ds vs) : JOk G io H (Itt G.K a) ds := by
  have l := r.length
  have sq : ∀ {i1 : Io} {H1 : Hp}, Base io H i1 H1 → SqT G.K H1 a vs := fun g => by
    rcases h with ⟨h, n⟩ | h
    · exact .inl (.inl (g.keep _ _ h n).1)
    · exact .inr h
  refine ⟨fun i i1 H1 g hi => ?_, fun i i1 H1 g hi => ?_, fun i i1 H1 x H' g _ hi hy => ?_⟩
  · exact ⟨vs, vs[i]'(by omega), sq g, by simp [l ▸ hi]⟩
  · exact ⟨vs, sq g, by omega⟩
  · obtain ⟨rfl, hx⟩ := hy
    have e := hx vs (sq g)
    obtain ⟨v, e1, e2⟩ := r.get (i := i) (d := ds[i]'hi) (by simp [hi])
    rw [e] at e1
    cases e1
    exact ⟨fun _ _ z => z, _, by simp [hi], e2.monoB g⟩
theorem pi_or {X : Cx} {tg it : Expr} {w1 w2 : TI} (h1 : PI X tg it w1) (h2 : PI X tg it w2) : PI X tg it (fun σ H R => w1 σ H R ∨ w2 σ H R) :=
  ⟨fun pins s σ H R I h => h.elim (h1.run pins s σ H R I) (h2.run pins s σ H R I)⟩
def strs1 (s : Str) : List Dt := s.cps.toList.map fun c => .str ⟨#[c]⟩
/-- the items of a value that is walked -/
def itemsD (d : Dt) : Option (List Dt) := match d with
  | .lst ds => some ds
  | .fz ds => some ds
  | .tup ds => some ds
  | _ => none
def mIt (m : Env → Store → R Dt) : Env → Store → R (List Dt) := fun en S => (m en S).bind fun d S1 => match itemsD d with
  | some ds => .ok ds S1
  | none => .stuck
section
variable {G : Gv} {X : Cx} {W : WX} {tg e : Expr} {m : Env → Store → R Dt}
theorem di_seq (he : DE G X W e m) (hK : X.K = G.K := by rfl) : DI G X W tg e (mIt m) := by
  obtain ⟨t, p, q⟩ := he
  refine ⟨_, pi_or (pi_list p) (pi_tup p), fun io H S en σ Q so re h => ?_⟩
  cases em : m en S with
  | stuck =>
    unfold mIt at h
    rw [em] at h
    exact h.elim
  | err x S1 =>
    unfold mIt at h
    rw [em] at h
    exact .inl (q io H S en σ _ so re (by rw [em]; exact h))
  | ok d S1 =>
    unfold mIt at h
    rw [em] at h
    dsimp only [R.bind] at h
    split at h
    · rename_i ds hd
      unfold itemsD at hd
      split at hd
      · cases hd
        refine .inl (q io H S en σ _ so re ?_)
        rw [em]
        intro i1 H1 g1 s1 v r
        cases r with
        | lst e n rs =>
          refine ⟨_, rfl, ⟨_, .inl (.inl e)⟩, ?_⟩
          rw [hK]
          exact h i1 H1 g1 s1 _ (jok_list (.inl ⟨.inl e, n⟩) rs)
      · cases hd
        refine .inl (q io H S en σ _ so re ?_)
        rw [em]
        intro i1 H1 g1 s1 v r
        cases r with
        | fz e rs =>
          refine ⟨_, rfl, ⟨_, by rw [hK]; exact rel_sqL Grow.refl.base e⟩, ?_⟩
          rw [hK]
          exact h i1 H1 g1 s1 _ (jok_list e rs)
      · cases hd
        refine .inr (q io H S en σ _ so re ?_)
        rw [em]
        intro i1 H1 g1 s1 v r
        cases r with
        | @tup a _ vs e rs =>
          refine ⟨_, rfl, ⟨vs, ?_⟩, ?_⟩
          · rw [hK]
            rcases e with ⟨e, _⟩ | e
            · exact .inl (.inl e)
            · exact .inr e
          · rw [hK]
            exact h i1 H1 g1 s1 _ (jok_tup e rs)
      · cases hd
    · exact h.elim
/-- the signs of a text -/
def mItS (m : Env → Store → R Dt) : Env → Store → R (List Dt) := fun en S => (m en S).bind fun d S1 => match d with
  | .str s => .ok (strs1 s) S1
  | _ => .stuck
theorem di_str (he : DE G X W e m) : DI G X W tg e (mItS m) := by
  obtain ⟨t, p, q⟩ := he
  refine ⟨_, pi_str p, fun io H S en σ Q so re h => ?_⟩
  refine q io H S en σ _ so re (h.bind.imp (fun _ _ _ _ z => z) fun d S1 i1 H1 g1 s1 k1 v r => ?_)
  cases r with
  | str s =>
    refine ⟨s, rfl, k1 i1 H1 Grow.refl s1 _ ⟨fun i io H g hi => ?_, fun i io H g hi => ?_, fun i io H x H' g _ hi hy => ?_⟩⟩
    · simpa [Its, strs1] using hi
    · simpa [Its, strs1] using hi
    · obtain ⟨rfl, c, hc, rfl⟩ := hy
      refine ⟨fun _ _ z => z, .str ⟨#[c]⟩, ?_, .str _⟩
      unfold strs1
      rw [List.getElem?_map, Array.getElem?_toList, hc]
      rfl
  | _ => exact k1.elim
@[irreducible] def rngOk (i : Int) : Bool := decide (-(2 ^ 62) ≤ i ∧ i < 2 ^ 62)
theorem rng_iff {i : Int} : rngOk i = true ↔ -(2 ^ 62) ≤ i ∧ i < 2 ^ 62 := by
  unfold rngOk
  exact decide_eq_true_iff
theorem rng_ok {i : Int} (h0 : -4611686018427387904 ≤ i) (h1 : i < 4611686018427387904) : rngOk i = true := rng_iff.mpr ⟨by omega, by omega⟩
def rangeD (lo : Int) (n : Nat) : List Dt := (List.range n).map fun (k : Nat) => Dt.int (lo + (k : Int))
theorem jok_range {io : Io} {H : Hp} {lo : Int} {n : Nat} : JOk G io H (Itr lo n) (rangeD lo n) := by
  refine ⟨fun i io H g hi => ?_, fun i io H g hi => ?_, fun i io H x H' g _ hi hy => ?_⟩
  · simpa [Itr, rangeD] using hi
  · simpa [Itr, rangeD] using hi
  · obtain ⟨rfl, rfl⟩ := hy
    have hi' : i < n := by simpa [rangeD] using hi
    exact ⟨fun _ _ z => z, .int (lo + i), by simp [rangeD, hi'], .int _⟩
def mRng1 (m : Env → Store → R (List Dt)) : Env → Store → R (List Dt) := fun en S => (m en S).bind fun ds S1 => match ds with
  | [.int j] => if rngOk j = true then .ok (rangeD 0 j.toNat) S1 else .stuck
  | _ => .stuck
def mRng2 (m : Env → Store → R (List Dt)) : Env → Store → R (List Dt) := fun en S => (m en S).bind fun ds S1 => match ds with
  | [.int i, .int j] => if rngOk i = true ∧ rngOk j = true then .ok (rangeD i (j - i).toNat) S1 else .stuck
  | _ => .stuck
variable {a b : Expr} {ma : Env → Store → R (List Dt)} {p pos : Pos}
theorem di_range1 (hm : X.mg "range" = none) (ha : DA G X W [a] ma) (hg : Gl X "range" := by rfl) (hs : starEach [a] X.env = [(false, eval a X.env)] := by rfl) : DI G X W tg (.Call (.Name "range" p) [a] [] pos) (mRng1 ma) := by
  obtain ⟨t, pa, qa⟩ := ha
  refine ⟨_, pi_range1 hg hm pa hs, fun io H S en σ Q so re h => ?_⟩
  refine qa io H S en σ _ so re (h.bind.imp (fun _ _ _ _ z => z) fun ds S1 i1 H1 g1 s1 k1 vs r => ?_)
  split at k1
  · rename_i j
    split at k1
    · rename_i hj
      obtain ⟨h1, h2⟩ := rng_iff.mp hj
      cases r with
      | cons r1 r2 =>
        cases r1
        cases r2
        exact ⟨j, rfl, h1, h2, k1 i1 H1 Grow.refl s1 _ jok_range⟩
    · exact k1.elim
  · exact k1.elim
end
/-! ### comprehensions -/
def wipeE (e : Env) : List Nat → Env
  | [] => e
  | v :: vs => (wipeE e vs).set v none
theorem wipe_get (σ : L2.St) (vs : List Nat) (j : Nat) : (wipe σ vs)[j]? = if j ∈ vs then (if j < σ.length then some none else none) else σ[j]? := by
  induction vs with
  | nil => simp [wipe]
  | cons v vs ih =>
    unfold wipe
    by_cases hv : v = j
    · subst hv
      rw [if_pos (List.mem_cons_self)]
      by_cases hl : v < σ.length
      · rw [List.getElem?_set_self (by rw [wipe_length]; exact hl), if_pos hl]
      · rw [if_neg hl]
        apply List.getElem?_eq_none
        rw [List.length_set, wipe_length]
        omega
    · rw [List.getElem?_set_ne hv, ih]
      have : (j ∈ v :: vs) ↔ j ∈ vs := by
        rw [List.mem_cons]
        exact ⟨fun z => z.resolve_left (fun q => hv q.symm), .inr⟩
      simp only [this]
theorem wipeE_get (σ : Env) (vs : List Nat) (j : Nat) : (wipeE σ vs)[j]? = if j ∈ vs then (if j < σ.length then some none else none) else σ[j]? := by
  have len : ∀ vs : List Nat, (wipeE σ vs).length = σ.length := fun vs => by
    induction vs with
    | nil => rfl
    | cons v vs ih =>
      unfold wipeE
      rw [List.length_set, ih]
  induction vs with
  | nil => simp [wipeE]
  | cons v vs ih =>
    unfold wipeE
    by_cases hv : v = j
    · subst hv
      rw [if_pos (List.mem_cons_self)]
      by_cases hl : v < σ.length
      · rw [List.getElem?_set_self (by rw [len]; exact hl), if_pos hl]
      · rw [if_neg hl]
        apply List.getElem?_eq_none
        rw [List.length_set, len]
        omega
    · rw [List.getElem?_set_ne hv, ih]
      have : (j ∈ v :: vs) ↔ j ∈ vs := by
        rw [List.mem_cons]
        exact ⟨fun z => z.resolve_left (fun q => hv q.symm), .inr⟩
      simp only [this]
theorem rel_wipe {G : Gv} {io : Io} {H : Hp} {e : Env} {σ : L2.St} (r : RelEnv G io H e σ) (vs : List Nat) : RelEnv G io H (wipeE e vs) (wipe σ vs) := by
  have len : ∀ vs : List Nat, (wipeE e vs).length = e.length := fun vs => by
    induction vs with
    | nil => rfl
    | cons v vs ih =>
      unfold wipeE
      rw [List.length_set, ih]
  refine ⟨by rw [len, wipe_length]; exact r.len, fun i d h => ?_⟩
  rw [wipeE_get] at h
  rw [wipe_get]
  split at h
  · split at h <;> cases h
  · rename_i hi
    rw [if_neg hi]
    exact r.at_ i d h
/-- a target of names alone that sets these slots -/
def DGw (G : Gv) (X : Cx) (tg : Expr) (sl : List Nat) (m : Dt → Env → Option Env) : Prop := ∃ g, PG X tg g ∧ ∀ io H en σ d v (Q : L2.St → Hp → Prop), RelEnv G io H en σ → RelD G io H d v →
  (match m d en with
    | some e' => ∀ σ', RelEnv G io H e' σ' → σ'.length = σ.length → (∀ j : Nat, j ∉ sl → σ'[j]? = σ[j]?) → Q σ' H
    | none => False) → g v σ H Q
def wNm (i : Nat) : Dt → Env → Option Env := fun d e => some (e.set i (some d))
section
variable {G : Gv} {X : Cx} {pos : Pos}
theorem dgw_name {i : Nat} {x : Str} (hN : X.N.Nodup) (hi : X.N[i]? = some x) (hx : Loc X.env.scope x) (hf : X.fn x = true ∨ X.env.scope.names.lookup x = some .local := by first | exact .inl rfl | exact .inr rfl | assumption) : DGw G X (.Name x pos) [i] (wNm i) :=
  ⟨_, pg_name hN hi hx hf, fun io H en σ d v Q re r h => h _ (re.set r) (by simp) fun j hj => List.getElem?_set_ne (by simpa [eq_comm] using hj)⟩
end
/-- no error leaves a comprehension -/
def R.nx {α : Type} (r : R α) : R α := match r with
  | .ok a S => .ok a S
  | _ => .stuck
abbrev W0 : WX := fun _ _ _ _ => False
def cLoop (tg : Dt → Env → Option Env) (t : Env → Store → R Bool) (m : Env → Store → R Dt) (en : Env) : List Dt → List Dt → Store → R (List Dt)
  | [], acc, S => .ok acc S
  | d :: ds, acc, S => match tg d en with
    | none => .stuck
    | some e1 => (t e1 S).nx.bind fun b S1 => if b = true then (m e1 S1).nx.bind fun x S2 => if acc.length < 1000000 then cLoop tg t m en ds (acc ++ [x]) S2 else .stuck else cLoop tg t m en ds acc S1
def mYes : Env → Store → R Bool := fun _ S => .ok true S
/-- tests of a comprehension -/
def DTs (G : Gv) (X : Cx) (W : WX) (ts : List Expr) (m : Env → Store → R Bool) : Prop := ∃ t, PTs X ts t ∧ SimT G W t m
def mLc (sl : List Nat) (mi : Env → Store → R (List Dt)) (tg : Dt → Env → Option Env) (t : Env → Store → R Bool) (m : Env → Store → R Dt) : Env → Store → R Dt := fun en S => (mi en S).bind fun items S1 => (cLoop tg t m (wipeE en sl) items [] S1).bind fun ds S2 => .ok (.lst ds) S2
section
variable {G : Gv} {X : Cx} {W : WX}
theorem dts_nil : DTs G X W [] mYes := ⟨_, pts_nil, fun io H S e σ Q so re h => h io H Grow.refl so⟩
theorem dts_one {c : Expr} {m : Env → Store → R Bool} (h : DT G X W c m) : DTs G X W [c] m := let ⟨_, p, q⟩ := h; ⟨_, pts_one p, q⟩
theorem Out.nx {io : Io} {H : Hp} {α : Type} {wx wx' : Ex → Io → Hp → Prop} {post : α → Store → Io → Hp → Prop} {r : R α} (h : Out G io H wx post r.nx) : Out G io H wx' post r := by
  cases r with
  | ok a S => exact h
  | err x S => exact h.elim
  | stuck => exact h
/-- the base stays -/
theorem Out.bind0 {io : Io} {H : Hp} {α β : Type} {wx : Ex → Io → Hp → Prop} {post : β → Store → Io → Hp → Prop} {r : R α} {f : α → Store → R β} (h : Out G io H wx post (r.bind f)) :
    Out G io H wx (fun a S _ _ => Out G io H wx post (f a S)) r := by
  cases r with
  | ok a S => exact fun io' H' g s => h
  | err x S => exact h
  | stuck => exact h
theorem wipe_eq {σ σ' : L2.St} {sl own : List Nat} (hs : ∀ j ∈ sl, j ∈ own) (l : σ'.length = (wipe σ own).length) (u : ∀ j : Nat, j ∉ sl → σ'[j]? = (wipe σ own)[j]?) : wipe σ' own = wipe σ own := by
  apply List.ext_getElem?
  intro j
  rw [wipe_get, wipe_get]
  rw [wipe_length] at l
  by_cases hj : j ∈ own
  · rw [if_pos hj, if_pos hj, l]
  · rw [if_neg hj, if_neg hj, u j fun z => hj (hs j z), wipe_get, if_neg hj]
/-- one address more is let change -/
abbrev Io.hide (io : Io) (D : Addr) : Io := ⟨io.l, D :: io.h⟩
section
variable {io i1 : Io} {H H1 : Hp} {D : Addr}
theorem hide_mem {a : Addr} : a ∈ io.hide D ↔ a = D ∨ a ∈ io := by
  constructor
  · rintro (h | h)
    · exact .inr (.inl h)
    · rcases List.mem_cons.mp h with h | h
      · exact .inl h
      · exact .inr (.inr h)
  · rintro (h | h)
    · exact .inr (List.mem_cons.mpr (.inl h))
    · rcases h with h | h
      · exact .inl h
      · exact .inr (List.mem_cons.mpr (.inr h))
mutual
theorem RelD.unhide : ∀ {d : Dt} {v : V}, RelD G (io.hide D) H d v → RelD G io H d v
  | _, _, .non => .non
  | _, _, .bl b => .bl b
  | _, _, .int i => .int i
  | _, _, .str s => .str s
  | _, _, .ty n => .ty n
  | _, _, .cls h => .cls h
  | _, _, .tup h r => .tup (h.imp (fun z => ⟨z.1, fun q => z.2 (hide_mem.mpr (.inr q))⟩) id) (RelDs.unhide r)
  | _, _, .lst h n r => .lst h (fun q => n (hide_mem.mpr (.inr q))) (RelDs.unhide r)
  | _, _, .fz h r => .fz (h.imp (fun z => ⟨z.1, fun q => z.2 (hide_mem.mpr (.inr q))⟩) id) (RelDs.unhide r)
  | _, _, .ins h n c l r => .ins h (fun q => n (hide_mem.mpr (.inr q))) c l (RelDs.unhide r)
  | _, _, .dct h n l r => .dct h (fun q => n (hide_mem.mpr (.inr q))) l (RelDs.unhide r)
  | _, _, .ref h => .ref h
  | _, _, .lam h a b => .lam h ⟨a.1, fun q => a.2.1 (hide_mem.mpr (.inr q)), a.2.2⟩ ⟨b.1, fun q => b.2.1 (hide_mem.mpr (.inr q)), b.2.2⟩
theorem RelDs.unhide : ∀ {ds : List Dt} {vs : List V}, RelDs G (io.hide D) H ds vs → RelDs G io H ds vs
  | _, _, .nil => .nil
  | _, _, .cons h r => .cons (RelD.unhide h) (RelDs.unhide r)
end
theorem base_hid {o : HO} : Base (io.hide D) H (io.hide D) (upd H D o) := by
  refine ⟨fun _ _ h => h, fun b u h n _ => ⟨?_, n⟩⟩
  rw [upd_ne fun z => n (hide_mem.mpr (.inl z))]
  exact h
mutual
theorem RelD.hide (hD : H D = none) : ∀ {d : Dt} {v : V}, RelD G io H d v → RelD G (io.hide D) H d v
  | _, _, .non => .non
  | _, _, .bl b => .bl b
  | _, _, .int i => .int i
  | _, _, .str s => .str s
  | _, _, .ty n => .ty n
  | _, _, .cls h => .cls h
  | _, _, .tup h r => .tup (h.imp (fun z => ⟨z.1, fun q => (hide_mem.mp q).elim (fun e => ne_of_none z.1 hD e) z.2⟩) id) (RelDs.hide hD r)
  | _, _, .lst h n r => .lst h (fun q => (hide_mem.mp q).elim (fun e => ne_of_none h hD e) n) (RelDs.hide hD r)
  | _, _, .fz h r => .fz (h.imp (fun z => ⟨z.1, fun q => (hide_mem.mp q).elim (fun e => z.1.elim (fun k => ne_of_none k hD e) fun ⟨_, k⟩ => ne_of_none k hD e) z.2⟩) id) (RelDs.hide hD r)
  | _, _, .ins h n c l r => .ins h (fun q => (hide_mem.mp q).elim (fun e => ne_of_none h hD e) n) c l (RelDs.hide hD r)
  | _, _, .dct h n l r => .dct h (fun q => (hide_mem.mp q).elim (fun e => ne_of_none h hD e) n) l (RelDs.hide hD r)
  | _, _, .ref h => .ref h
  | _, _, .lam h a b => .lam h ⟨a.1, fun q => (hide_mem.mp q).elim (fun e => ne_of_none a.1 hD e) a.2.1, a.2.2⟩ ⟨b.1, fun q => (hide_mem.mp q).elim (fun e => ne_of_none b.1 hD e) b.2.1, b.2.2⟩
theorem RelDs.hide (hD : H D = none) : ∀ {ds : List Dt} {vs : List V}, RelDs G io H ds vs → RelDs G (io.hide D) H ds vs
  | _, _, .nil => .nil
  | _, _, .cons h r => .cons (RelD.hide hD h) (RelDs.hide hD r)
end
theorem RelO.hide (hD : H D = none) {o : Ob} {a : Addr} (r : RelO G io H o a) : RelO G (io.hide D) H o a := by
  cases r with
  | lst h k => exact .lst h (k.hide hD)
  | ins h c l k => exact .ins h c l (k.hide hD)
  | dct h l k => exact .dct h l (k.hide hD)
theorem RelO.unhide {o : Ob} {a : Addr} (r : RelO G (io.hide D) H o a) : RelO G io H o a := by
  cases r with
  | lst h k => exact .lst h k.unhide
  | ins h c l k => exact .ins h c l k.unhide
  | dct h l k => exact .dct h l k.unhide
/-- a new list that is being made -/
theorem so_hide {S : Store} (so : StoreOk G io S H) (hD : H D = none) {o : HO} (nt : NoTx o := by exact ⟨(fun _ e => by cases e), (fun _ e => by cases e)⟩) : StoreOk G (io.hide D) S (upd H D o) := by
  have e := ExtH.new (o := o) hD
  refine ⟨so.nd, so.len, fun a ha hh => ?_, fun a ha => ?_, fun i ob a h1 h2 => ((so.ob i ob a h1 h2).hide hD).ext e, tabs_upd so.tab (pl_none hD)⟩
  · rcases List.mem_cons.mp hh with z | z
    · rw [z] at ha
      exact so.fresh hD (.inl ha)
    · exact so.dis a ha z
  · rcases List.mem_cons.mp ha with z | z
    · rw [z]
      exact ⟨o, upd_same, nt⟩
    · obtain ⟨u, q, nt⟩ := so.hid a z
      exact ⟨u, e _ _ q, nt⟩
theorem so_unhide {S : Store} (so : StoreOk G (io.hide D) S H) : StoreOk G io S H :=
  ⟨so.nd, so.len, fun a ha hh => so.dis a ha (List.mem_cons_of_mem _ hh), fun a ha => so.hid a (List.mem_cons_of_mem _ ha), fun i ob a h1 h2 => (so.ob i ob a h1 h2).unhide, so.tab⟩
/-- the hidden list grows -/
theorem so_hid {S : Store} (so : StoreOk G (io.hide D) S H) {o : HO} (hp : ∀ o, H D = some o → PlainO o := by exact pl_some (by assumption)) (nt : NoTx o := by exact ⟨(fun _ e => by cases e), (fun _ e => by cases e)⟩) : StoreOk G (io.hide D) S (upd H D o) := by
  refine ⟨so.nd, so.len, so.dis, fun a ha => ?_, fun i ob a h1 h2 => ?_, tabs_upd so.tab hp⟩
  · by_cases z : a = D
    · rw [z]
      exact ⟨o, upd_same, nt⟩
    · rw [upd_ne z]
      exact so.hid a ha
  · have na : a ≠ D := fun z => so.dis a (List.mem_of_getElem? h2) (by rw [z]; exact List.mem_cons_self)
    have q := so.ob i ob a h1 h2
    cases q with
    | lst k1 k2 => exact .lst (by rw [upd_ne na]; exact k1) (k2.monoB base_hid)
    | ins k1 c l k2 => exact .ins (by rw [upd_ne na]; exact k1) c l (k2.monoB base_hid)
    | dct k1 l k2 => exact .dct (by rw [upd_ne na]; exact k1) l (k2.monoB base_hid)
theorem grow_un (g : Grow (io.hide D) H (i1.hide D) H1) : Grow io H i1 H1 := by
  obtain ⟨t, e⟩ := g.pre
  have e1 : i1.l = io.l ++ t := congrArg Io.l e
  have e2 : i1.h = io.h := (List.cons.inj (congrArg Io.h e)).2
  exact ⟨⟨t, by cases i1; simp only at e1 e2; subst e1 e2; rfl⟩, fun b o h n nt => g.keep b o h n nt, g.new⟩
end
/-- a state with a hidden list D is one of io.hide D: how the two ends fit -/
theorem io_hide {io i1 : Io} {H H1 : Hp} {D : Addr} (g : Grow (io.hide D) H i1 H1) : ∃ i2 : Io, i1 = i2.hide D := by
  obtain ⟨t, e⟩ := g.pre
  exact ⟨⟨io.l ++ t, io.h⟩, e⟩
/-- the reading of a comprehension, from the iterator on -/
theorem lc_sim {J : It} {g : TG} {tt : TT} {te : TE} {own sl : List Nat} {io : Io} {H : Hp} {S : Store} {en : Env} {σ : L2.St} {items : List Dt} {mg : Dt → Env → Option Env} {mt : Env → Store → R Bool} {m : Env → Store → R Dt} {wx : Ex → Io → Hp → Prop} {post : List Dt → Store → Io → Hp → Prop} {D : Addr}
    (hs : ∀ j ∈ sl, j ∈ own) (jo : JOk G io H J items) (so : StoreOk G io S H) (re : RelEnv G io H en σ)
    (hg : ∀ io H en σ d v (Q : L2.St → Hp → Prop), RelEnv G io H en σ → RelD G io H d v → (match mg d en with
      | some e' => ∀ σ', RelEnv G io H e' σ' → σ'.length = σ.length → (∀ j : Nat, j ∉ sl → σ'[j]? = σ[j]?) → Q σ' H
      | none => False) → g v σ H Q) (ht : SimT G W0 tt mt) (hm : SimE G W0 te m) (hD : H D = none)
    (h : Out G io H wx post (cLoop mg mt m (wipeE en own) items [] S)) (Rf : V → Hp → Prop)
    (hq : ∀ ds acc S' (io' : Io) H', Grow io H io' H' → StoreOk G (io'.hide D) S' H' → H' D = some (.lst acc) → RelDs G (io'.hide D) H' ds acc → post ds S' io' H' → Rf (.ref D) H') :
    ∃ W : Nat → Nat → Hp → Prop, (∃ m, W 0 m (upd H D (.lst []))) ∧ ∀ i m H, W i m H →
      (J.stop i H ∧ Rf (.ref D) H) ∨ (J.go i H ∧ ∃ Nx : Hp → Prop, (∀ H', Nx H' → ∃ m', m' < m ∧ W (i + 1) m' H') ∧ ∀ x H', J.yld i H x H' → g x (wipe σ own) H' fun σ2 H2 => wipe σ2 own = wipe σ own ∧ tt σ2 H2 fun b H3 =>
        if b = true then te σ2 H3 fun y H4 => ∃ acc, H4 D = some (.lst acc) ∧ acc.length < sizeLine ∧ Nx (upd H4 D (.lst (acc ++ [y]))) else Nx H3) := by
  let Wp : Nat → Nat → Hp → Prop := fun i n H' => n = items.length - i ∧ i ≤ items.length ∧ ∃ (io' : Io) (S' : Store) (dacc : List Dt) (acc : List V), Grow io H io' H' ∧ StoreOk G (io'.hide D) S' H' ∧ H' D = some (.lst acc) ∧ RelDs G (io'.hide D) H' dacc acc ∧ Out G io H wx post (cLoop mg mt m (wipeE en own) (items.drop i) dacc S')
  have gup : ∀ {i1 : Io} {H1 : Hp} {o : HO}, Grow io H i1 H1 → Grow io H i1 (upd H1 D o) := fun {i1 H1 o} g => ⟨g.pre, fun b u hb nb nt => by
    rw [upd_ne (ne_of_none hb hD)]
    exact g.keep b u hb nb nt, g.new⟩
  have base : ∀ {i1 : Io} {H1 : Hp}, Grow io H i1 H1 → Base io H (i1.hide D) H1 := fun {i1 H1} g => ⟨fun j a e => g.at e, fun b o hb nb nt => ⟨g.kp hb nb nt, fun z => (hide_mem.mp z).elim (ne_of_none hb hD) (g.notin hb nb nt)⟩⟩
  refine ⟨Wp, ⟨items.length, rfl, Nat.zero_le _, io, S, [], [], gup Grow.refl, so_hide so hD, upd_same, .nil, by simpa using h⟩, ?_⟩
  rintro i n H2 ⟨rfl, hle, i2, S2, dacc, acc, gu, s2, hD2, ra, h2⟩
  by_cases hlt : i < items.length
  · refine .inr ⟨jo.go i _ H2 (base gu) hlt, fun H' => Wp (i + 1) (items.length - (i + 1)) H', fun H' z => ⟨_, by omega, z⟩, fun x H3 hy => ?_⟩
    obtain ⟨ex, d, hd, rd⟩ := jo.yld i _ H2 x H3 (base gu) (fun _ z => s2.fresh z) hlt hy
    have g3 : Grow (i2.hide D) H2 (i2.hide D) H3 := ex.grow
    have s3 := s2.ext ex
    have edr : items.drop i = d :: items.drop (i + 1) := by
      rw [List.drop_eq_getElem_cons hlt]
      have := (List.getElem?_eq_some_iff.mp hd).2
      rw [this]
    rw [edr] at h2
    unfold cLoop at h2
    have gu3 : Grow io H i2 H3 := gu.trans (grow_un g3)
    have re3 : RelEnv G (i2.hide D) H3 en σ := ⟨re.len, fun j d e => let ⟨v, h1, h2⟩ := re.at_ j d e; ⟨v, h1, h2.monoB (base gu3)⟩⟩
    refine hg _ H3 (wipeE en own) (wipe σ own) d x _ (rel_wipe re3 own) rd ?_
    cases em : mg d (wipeE en own) with
    | none =>
      rw [em] at h2
      exact h2
    | some e1 =>
      rw [em] at h2
      intro σ2 rσ l2 u2
      refine ⟨wipe_eq hs l2 u2, ?_⟩
      -- an end wished at the base, asked with D hidden
      have lift : ∀ {α : Type} {wx : Ex → Io → Hp → Prop} {post : α → Store → Io → Hp → Prop} {r : R α} {i4 : Io} {H4 : Hp}, Grow io H i4 H4 → Out G io H wx post r.nx → Out G (i4.hide D) H4 (fun _ _ _ => False) (fun a S i5' H5 => ∀ i5 : Io, i5' = i5.hide D → Grow i4 H4 i5 H5 → post a S i5 H5) r := by
        intro α wx post r i4 H4 g4 h
        cases r with
        | ok a S =>
          intro i5' H5 g5 s5 i5 e g5'
          subst e
          exact h i5 H5 (g4.trans g5') (so_unhide s5)
        | err x S => exact h.elim
        | stuck => exact h
      refine ht _ H3 S2 e1 σ2 _ s3 rσ ((lift gu3 h2.bind0).imp (fun _ _ _ _ z => z.elim) fun b S4 i4' H4 g4 s4 k4 => ?_)
      obtain ⟨i4, rfl⟩ := io_hide g4
      have g4' := grow_un g4
      have k4 := k4 i4 rfl g4'
      have hD4 : H4 D = some (.lst acc) := g4.keep _ _ (ex _ _ hD2) fun z => s2.dis D z List.mem_cons_self
      cases b with
      | false => exact ⟨rfl, hlt, i4, S4, dacc, acc, gu3.trans g4', s4, hD4, (ra.mono g3).mono g4, k4⟩
      | true =>
        rw [if_pos rfl] at k4
        refine iteT (B := Wp (i + 1) (items.length - (i + 1)) H4) ?_
        refine hm _ H4 S4 e1 σ2 _ s4 (rσ.mono g4) ((lift (gu3.trans g4') k4.bind0).imp (fun _ _ _ _ z => z.elim) fun y S5 i5' H5 g5 s5 k5 v rv => ?_)
        obtain ⟨i5, rfl⟩ := io_hide g5
        have g5' := grow_un g5
        have k5 := k5 i5 rfl g5'
        have hD5 : H5 D = some (.lst acc) := g5.keep _ _ hD4 fun z => s4.dis D z List.mem_cons_self
        have ra5 := ((ra.mono g3).mono g4).mono g5
        split at k5
        · rename_i hl
          have la := ra.length
          exact ⟨acc, hD5, Nat.lt_of_lt_of_le (by rw [← la]; exact hl) (by decide), rfl, hlt, i5, S5, dacc ++ [y], acc ++ [v], gup ((gu3.trans g4').trans g5'), so_hid s5, upd_same, (ra5.append (.cons rv .nil)).monoB base_hid, k5⟩
        · exact k5.elim
  · have e : i = items.length := by omega
    subst e
    rw [List.drop_length] at h2
    exact .inl ⟨jo.stop _ _ H2 (base gu) (Nat.le_refl _), hq dacc acc S2 i2 H2 gu s2 hD2 ra (h2 i2 H2 gu (so_unhide s2))⟩
variable {elt tg iter : Expr} {ifs : List Expr} {scope : Scope} {own : List (Str × Nat)} {sl : List Nat} {pos : Pos} {mi : Env → Store → R (List Dt)} {mg : Dt → Env → Option Env} {mt : Env → Store → R Bool} {m : Env → Store → R Dt}
/-! the readings that a function's result gives -/
def cE (G : Gv) (W : WX) (m : Env → Store → R Dt) : TE := fun σ H Q => ∃ io S en, StoreOk G io S H ∧ RelEnv G io H en σ ∧ Out G io H (wxE G W σ) (poE G Q) (m en S)
def cT (G : Gv) (W : WX) (m : Env → Store → R Bool) : TT := fun σ H Q => ∃ io S en, StoreOk G io S H ∧ RelEnv G io H en σ ∧ Out G io H (wxE G W σ) (poT Q) (m en S)
def cGw (G : Gv) (sl : List Nat) (m : Dt → Env → Option Env) : TG := fun v σ H Q => ∃ io en d, RelEnv G io H en σ ∧ RelD G io H d v ∧ (match m d en with
    | some e' => ∀ σ', RelEnv G io H e' σ' → σ'.length = σ.length → (∀ j : Nat, j ∉ sl → σ'[j]? = σ[j]?) → Q σ' H
    | none => False)
theorem can_e {e : Expr} (h : DE G X W e m) : PE X e (cE G W m) := by
  obtain ⟨t, p, q⟩ := h
  exact ⟨fun pins s σ H Q I ⟨io, S, en, so, re, h⟩ => p.run pins s σ H Q I (q io H S en σ Q so re h)⟩
theorem can_t {ts : List Expr} (h : DTs G X W ts mt) : PTs X ts (cT G W mt) := by
  obtain ⟨t, p, q⟩ := h
  exact ⟨fun pins s σ H Q I ⟨io, S, en, so, re, h⟩ => p.run pins s σ H Q I (q io H S en σ Q so re h)⟩
theorem can_g (h : DGw G X tg sl mg) : PG X tg (cGw G sl mg) := by
  obtain ⟨t, p, q⟩ := h
  exact ⟨fun pins s σ H v u Q I r ⟨io, en, d, re, rd, h⟩ => p.run pins s σ H v u Q I r (q io H en σ d v Q re rd h)⟩
/-- [e for x in xs if t], by value -/
theorem de_lc (own : List (Str × Nat)) (hN : X.N.Nodup) (hi : DI G X W tg iter mi) (ok : BlkOk X.N X.env.scope scope own)
    (hg : ∀ (s : Shared) (H : Hp) (C : Addr) (cl : List (Str × Addr)) (fp : List Addr), DGw G (X.blk s H scope (compEnvC scope cl C X.env) fp) tg sl mg)
    (ht : ∀ (s : Shared) (H : Hp) (C : Addr) (cl : List (Str × Addr)) (fp : List Addr), DTs G (X.blk s H scope (compEnvC scope cl C X.env) fp) W0 ifs mt)
    (he : ∀ (s : Shared) (H : Hp) (C : Addr) (cl : List (Str × Addr)) (fp : List Addr), DE G (X.blk s H scope (compEnvC scope cl C X.env) fp) W0 elt m)
    (hsl : ∀ j ∈ sl, j ∈ own.map (·.2) := by decide) (hc : X.calm = true := by rfl) (hs : ∀ x, foldedSetIterable iter X.env x = pure x := by intro _; rfl) :
    DE G X W (.ListComp elt [⟨tg, iter, ifs, 0⟩] scope pos) (mLc (own.map (·.2)) mi mg mt m) := by
  obtain ⟨wi, pi, qi⟩ := hi
  refine ⟨_, pe_lc hc hN pi ok (fun s H C cl fp => can_g (hg s H C cl fp)) (fun s H C cl fp => can_t (ht s H C cl fp)) (fun s H C cl fp => can_e (he s H C cl fp)) hs, fun io H S en σ Q so re h => ?_⟩
  refine qi io H S en σ _ so re (h.bind.imp (fun _ _ _ _ z => z) fun items S1 i1 H1 g1 s1 k1 J jo => ?_)
  intro D hD
  refine lc_sim hsl jo s1 (re.mono g1) (fun io H en σ d v Q re rd h => ⟨io, en, d, re, rd, h⟩) (fun io H S e σ Q so re h => ⟨io, S, e, so, re, h⟩) (fun io H S e σ Q so re h => ⟨io, S, e, so, re, h⟩) hD k1.bind (fun v H => Q v H) ?_
  intro ds acc S' io' H' g' s' hD' rs post
  refine post io' H' Grow.refl (so_unhide s') (.ref D) (.lst hD' (fun z => ?_) rs.unhide)
  rcases z with z | z
  · exact s'.dis D z List.mem_cons_self
  · obtain ⟨t, rfl⟩ := g'.pre
    obtain ⟨u, e, _⟩ := s1.hid D z
    rw [hD] at e
    cases e
end
end Dv
set_option Elab.async false
set_option linter.all false
set_option maxRecDepth 100000
set_option maxHeartbeats 4000000
set_option autoImplicit false
namespace Dv
open PySem PySem.Spec PyProof.Rows L2
/-! ### o[i] = v of a list of the store -/
def setIx (S : Store) (x y v : Dt) : Option Store := match x, y with
  | .ref k, .int j => match S[k]? with
    | some (.lst ds) => (ixN ds.length j).map fun n => S.set k (.lst (ds.set n v))
    | _ => none
  | _, _ => none
def gSubD (mo mi : Env → Store → R Dt) : Dt → Env → Store → Option (Env × Store) := fun d en S => match mo en S with
  | .ok x S1 => match mi en S1 with
    | .ok y S2 => (setIx S2 x y d).map fun S3 => (en, S3)
    | _ => none
  | _ => none
section
variable {G : Gv} {X : Cx} {W : WX}
theorem setIx_ok {io : Io} {H : Hp} {S S' : Store} {x y d : Dt} {vx vy v : V} (so : StoreOk G io S H) (rx : RelD G io H x vx) (ry : RelD G io H y vy) (rd : RelD G io H d v) (h : setIx S x y d = some S') :
    ∃ p xs k j, vx = .ref p ∧ vy = .int k ∧ H p = some (.lst xs) ∧ ixN xs.length k = some j ∧ Grow io H io (upd H p (.lst (xs.set j v))) ∧ StoreOk G io S' (upd H p (.lst (xs.set j v))) := by
  unfold setIx at h
  split at h
  · rename_i k j
    split at h
    · rename_i ds hs
      obtain ⟨n, hn, rfl⟩ := map_some h
      cases rx with
      | ref e =>
        cases ry
        obtain ⟨a, h1, h2⟩ := so.at_ hs
        rw [e] at h1
        cases h1
        cases h2 with
        | lst h3 h4 =>
          have l := h4.length
          have g0 := (so.write (u := .lst (List.set _ n v)) e (.lst upd_same ((RelDs.set n rd h4).monoB ⟨fun _ _ z => z, fun b o hb nb _ => ⟨by
            rw [upd_ne fun z => nb (by rw [z]; exact .inl (List.mem_of_getElem? e))]
            exact hb, nb⟩⟩)))
          exact ⟨_, _, j, n, rfl, rfl, h3, by rw [← l]; exact hn, g0.1, g0.2⟩
    · cases h
  · cases h
theorem dg_sub {o i : Expr} {mo mi : Env → Store → R Dt} {pos : Pos} (ho : DE G X W0 o mo) (hi : DE G X W0 i mi)
    (ha : ∀ v, assign (.Subscript o i pos) X.env v = (do
      let ov ← holding [v] (eval o X.env)
      let iv ← holding [v, ov] (eval i X.env)
      standAt pos
      holding [v, ov, iv] (setItem ov iv v)
      release [v, ov, iv] []) := by intro _; rfl) : DG G X (.Subscript o i pos) (gSubD mo mi) := by
  obtain ⟨t, p, q⟩ := ho
  obtain ⟨t', p', q'⟩ := hi
  refine ⟨_, pg_sub p p' set_list ha, fun io H S en σ d v Q so re r h => ?_⟩
  unfold gSubD at h
  refine q io H S en σ _ so re ?_
  cases eo : mo en S with
  | stuck => simp [eo] at h
  | err x S1 => simp [eo] at h
  | ok x S1 =>
    simp only [eo] at h
    intro i1 H1 g1 s1 vx rx
    refine q' i1 H1 S1 en σ _ s1 (re.mono g1) ?_
    cases ei : mi en S1 with
    | stuck => simp [ei] at h
    | err x S1 => simp [ei] at h
    | ok y S2 =>
      simp only [ei] at h
      intro i2 H2 g2 s2 vy ry
      cases es : setIx S2 x y d with
      | none => simp [es] at h
      | some S3 =>
        simp only [es, Option.map_some] at h
        obtain ⟨p, xs, k, j, h1, h2, h3, h4, g3, s3⟩ := setIx_ok s2 (rx.mono g2) ry (r.mono (g1.trans g2)) es
        exact ⟨p, xs, k, j, h1, h2, h3, h4, h i2 _ ((g1.trans g2).trans g3) s3 σ (re.mono ((g1.trans g2).trans g3))⟩
/-! ### methods of a list of the store -/
def mApp (S : Store) (x d : Dt) : R Dt := match x with
  | .ref k => match S[k]? with
    | some (.lst ds) => if ds.length < 1000000 then .ok .non (S.set k (.lst (ds ++ [d]))) else .stuck
    | _ => .stuck
  | _ => .stuck
def isLstR (S : Store) (x : Dt) : Bool := match x with
  | .ref k => match S[k]? with
    | some (.lst _) => true
    | _ => false
  | _ => false
def mApp1 (mo me : Env → Store → R Dt) : Env → Store → R Dt := fun en S => (mo en S).bind fun x S1 => if isLstR S1 x = true then (me en S1).bind fun d S2 => mApp S2 x d else .stuck
variable {o e : Expr} {mo me : Env → Store → R Dt} {apos cpos : Pos}
theorem isLstR_ok {io : Io} {H : Hp} {S : Store} {x : Dt} {v : V} (so : StoreOk G io S H) (r : RelD G io H x v) (h : isLstR S x = true) : ∃ k ds p xs, x = .ref k ∧ S[k]? = some (.lst ds) ∧ io.l[k]? = some p ∧ v = .ref p ∧ H p = some (.lst xs) ∧ RelDs G io H ds xs := by
  unfold isLstR at h
  split at h
  · rename_i k
    split at h
    · rename_i ds hs
      cases r with
      | ref e =>
        obtain ⟨a, h1, h2⟩ := so.at_ hs
        rw [e] at h1
        cases h1
        cases h2 with
        | lst h3 h4 => exact ⟨k, ds, _, _, rfl, hs, e, rfl, h3, h4⟩
    · cases h
  · cases h
theorem so_wr {io : Io} {H : Hp} {S : Store} {k : Nat} {p : Addr} {ds : List Dt} {xs : List V} (so : StoreOk G io S H) (hp : io.l[k]? = some p) (r : RelDs G io H ds xs) :
    Grow io H io (upd H p (.lst xs)) ∧ StoreOk G io (S.set k (.lst ds)) (upd H p (.lst xs)) :=
  so.write (u := .lst xs) hp (.lst upd_same (r.monoB ⟨fun _ _ z => z, fun b o hb nb _ => ⟨by
    rw [upd_ne fun z => nb (by rw [z]; exact .inl (List.mem_of_getElem? hp))]
    exact hb, nb⟩⟩))
/-- xs.append(e); the receiver is looked at ahead of the argument -/
theorem de_append (ho : DE G X W o mo) (he : DE G X W e me) (hK : X.K = G.K := by rfl)
    (hbase : attributeBase o "append" X.env (eval o X.env) = eval o X.env := by rfl)
    (hfew : ((backTo cpos (starEach [e] X.env)).all (fun x => !x.1) && (backToKw cpos (keywordEach [] X.env)).all (fun x => x.1.isSome)
      && decide ([e].length + ([] : List Keyword).length + (if ([] : List Keyword).isEmpty then 0 else 1) < 30)) = true := by rfl)
    (hline : (apos.endLine == cpos.line) = true := by rfl) (hs : starEach [e] X.env = (false, eval e X.env) :: starEach [] X.env := by rfl) :
    DE G X W (.Call (.Attribute o "append" apos) [e] [] cpos) (mApp1 mo me) := by
  obtain ⟨t, p, q⟩ := ho
  obtain ⟨t', p', q'⟩ := he
  refine ⟨_, pe_bm PySem.F.plainAttrs_list PySem.F.slot_list_append PySem.F.type_list_append mt_append p (pa_cons p' pa_nil hs) hbase hfew hline hs rfl, fun io H S en σ Q so re h => ?_⟩
  refine q io H S en σ _ so re (h.bind.imp (fun _ _ _ _ z => z) fun x S1 i1 H1 g1 s1 k1 v r => ?_)
  split at k1
  · rename_i hl
    obtain ⟨k, ds, a, xs, rfl, hS, ha, rfl, hH, rs⟩ := isLstR_ok s1 r hl
    refine ⟨.inl ⟨rfl, xs, .inl (.inl hH)⟩, ?_⟩
    refine q' i1 H1 S1 en σ _ s1 (re.mono g1) (k1.bind.imp (fun _ _ _ _ z => z) fun d S2 i2 H2 g2 s2 k2 vd rd => ?_)
    unfold mApp at k2
    dsimp only at k2
    split at k2
    · rename_i ds2 hS2
      split at k2
      · rename_i hlen
        have e2 := g2.at ha
        obtain ⟨a', h1, h2⟩ := s2.at_ hS2
        rw [e2] at h1
        cases h1
        cases h2 with
        | lst h3 h4 =>
          have l := h4.length
          obtain ⟨g3, s3⟩ := so_wr (ds := ds2 ++ [d]) s2 e2 (h4.append (.cons rd .nil))
          exact ⟨a, _, vd, rfl, rfl, h3, Nat.lt_of_lt_of_le (by rw [← l]; exact hlen) (by decide), k2 i2 _ g3 s3 _ .non⟩
      · exact k2.elim
    · exact k2.elim
  · exact k1.elim
/-- x += e, x -= e: ints, texts -/
def mAug (i : Nat) (m : Dt → Dt → Store → R Dt) (me : Env → Store → R Dt) : Env → Store → RS := fun en S => match en[i]? with
  | some (some x) => (me en S).toS en fun y S1 => (m x y S1).toS en fun z S2 => .ok .nx (en.set i (some z)) S2
  | _ => .stuck
def mIAdd (x y : Dt) (S : Store) : R Dt := match x, y with
  | .int i, .int j => .ok (.int (i + j)) S
  | .str a, .str b => if a.length + b.length ≤ 100000 then .ok (.str (a ++ b)) S else .stuck
  | _, _ => .stuck
end
end Dv
set_option Elab.async false
set_option linter.all false
set_option maxRecDepth 100000
set_option maxHeartbeats 4000000
set_option autoImplicit false
namespace Dv
open PySem PySem.Spec PyProof.Rows L2
section
variable {G : Gv} {X : Cx} {W : WX}
theorem de_gintE {x : Str} {i : Int} {pos : Pos} (hg : Gl X x) (hm : ∃ t, X.mg x = some (.int i t)) (hd : (x == ("__debug__" : Str)) = false := by decide) : DE G X W (.Name x pos) (mC (.int i)) := by
  obtain ⟨t, hm⟩ := hm
  exact de_gint hg hm hd
theorem de_gstrE {x : Str} {i : Str} {pos : Pos} (hg : Gl X x) (hm : ∃ t, X.mg x = some (.str i t)) (hd : (x == ("__debug__" : Str)) = false := by decide) : DE G X W (.Name x pos) (mC (.str i)) := by
  obtain ⟨t, hm⟩ := hm
  exact de_gstr hg hm hd
end
section
variable {P : Program} {w : World} {K : PySem.W.Frag} {mg : Str → Option Value} {base : Heap} {G : Gv}
theorem fn_stuck {k np : Nat} {f : Addr} {fd : FuncData} {ps : List Str} : FnOk P w K mg base (L2.CX P w) k f fd ps (spF G np fun _ _ => .stuck) :=
  ⟨fun vs H Q E ⟨_, _, _, _, _, _, h⟩ => h.elim, fun A outer s H args us vs Q E hr e0 hb rv ⟨_, _, _, _, _, _, h⟩ => h.elim⟩
def spLaw (K : PySem.W.Frag) (T : List (Addr × Str)) : Sp := fun vs H Q _ => ∃ (a : Addr) (ns : List Int), vs = [.ref a] ∧ SqL K H a (ns.map V.int) ∧ ns.length ≤ 63 ∧ LamX.Tabs T H ∧ ∀ H', Q (.bl true) H'
theorem rel_ints {io : Io} {H : Hp} : ∀ ns : List Int, RelDs G io H (ns.map Dt.int) (ns.map V.int)
  | [] => .nil
  | n :: ns => .cons (.int n) (rel_ints ns)
/-- the law's promise from what its function gives -/
theorem law_sp {k : Nat} {f : Addr} {fd : FuncData} {ps : List Str} {m : Fn} (hG : G.K = K) (F : FnOk P w K mg base (L2.CX P w) k f fd ps (spF G 1 m)) (h : ∀ ns : List Int, ns.length ≤ 63 → ∃ S, m [.fz (ns.map Dt.int)] [] = .ok (.bl true) S) :
    FnOk P w K mg base (L2.CX P w) k f fd ps (spLaw K G.T) := F.imp fun vs H Q E ⟨a, ns, e, hS, hl, hT, q⟩ => by
  subst e
  obtain ⟨S, hm⟩ := h ns hl
  refine ⟨⟨[], []⟩, [], [.fz (ns.map Dt.int)], ⟨List.nodup_nil, rfl, (fun _ h => by cases h), (fun _ h => by cases h), (fun i o a h => by simp at h), hT⟩, .cons (.fz ?_ (rel_ints ns)) .nil, rfl, ?_⟩
  · rw [hG]
    rcases hS with h | h
    · exact .inl ⟨h, fun z => by rcases z with z | z <;> cases z⟩
    · exact .inr h
  · rw [hm]
    intro io' H' g s v r
    cases r
    exact q H'
end
/-- a body -/
abbrev Bd := Env → Store → RS
end Dv
set_option Elab.async false
set_option linter.all false
set_option maxRecDepth 100000
set_option maxHeartbeats 4000000
set_option autoImplicit false
/-! what a function comes to, step by step: Q of a value and a store, X of an error -/
namespace Dv
open PySem L2
def Pe {α : Type} (r : R α) (Q : α → Store → Prop) (X : Ex → Store → Prop) : Prop := match r with
  | .ok a S => Q a S
  | .err x S => X x S
  | .stuck => False
def Ps (r : RS) (Q : Fl → Env → Store → Prop) (X : Ex → Env → Store → Prop) : Prop := match r with
  | .ok f e S => Q f e S
  | .err x e S => X x e S
  | .stuck => False
abbrev X0 : Ex → Store → Prop := fun _ _ => False
theorem Pe.eq {α : Type} {r : R α} {a : α} {S : Store} (h : Pe r (fun b T => b = a ∧ T = S) X0) : r = .ok a S := by
  cases r with
  | ok b T => obtain ⟨rfl, rfl⟩ := h; rfl
  | err x T => exact h.elim
  | stuck => exact h.elim
theorem Pe.of {α : Type} {r : R α} {a : α} {S : Store} {Q : α → Store → Prop} {X : Ex → Store → Prop} (e : r = .ok a S) (h : Q a S) : Pe r Q X := by
  rw [e]
  exact h
theorem Pe.imp {α : Type} {r : R α} {Q Q' : α → Store → Prop} {X X' : Ex → Store → Prop} (h : Pe r Q X) (hq : ∀ a S, Q a S → Q' a S) (hx : ∀ x S, X x S → X' x S) : Pe r Q' X' := by
  cases r with
  | ok b T => exact hq _ _ h
  | err x T => exact hx _ _ h
  | stuck => exact h.elim
theorem Pe.ex {α : Type} {r : R α} {Q : α → Store → Prop} (h : Pe r Q X0) : ∃ a S, r = .ok a S ∧ Q a S := by
  cases r with
  | ok b T => exact ⟨b, T, rfl, h⟩
  | err x T => exact h.elim
  | stuck => exact h.elim
theorem Pe.bind {α β : Type} {r : R α} {f : α → Store → R β} {Q : β → Store → Prop} {X : Ex → Store → Prop} (h : Pe r (fun a S => Pe (f a S) Q X) X) : Pe (r.bind f) Q X := by cases r <;> exact h
theorem Pe.toS {α : Type} {r : R α} {e : Env} {f : α → Store → RS} {Q : Fl → Env → Store → Prop} {X : Ex → Env → Store → Prop} (h : Pe r (fun a S => Ps (f a S) Q X) (fun x S => X x e S)) : Ps (r.toS e f) Q X := by cases r <;> exact h
theorem v_ok {α : Type} {a : α} {S : Store} {Q : α → Store → Prop} {X : Ex → Store → Prop} (h : Q a S) : Pe (.ok a S) Q X := h
theorem v_ifok {α : Type} {c : Prop} [Decidable c] {a : α} {S : Store} {Q : α → Store → Prop} {X : Ex → Store → Prop} (hc : c) (h : Q a S) : Pe (if c then R.ok a S else .stuck) Q X := by
  rw [if_pos hc]
  exact h
section
variable {en : Env} {S : Store} {Q : Dt → Store → Prop} {QA : List Dt → Store → Prop} {QB : Bool → Store → Prop} {X : Ex → Store → Prop} {QS : Fl → Env → Store → Prop} {XS : Ex → Env → Store → Prop} {ma mb mc me : Env → Store → R Dt} {ta tb : Env → Store → R Bool} {ms : Env → Store → R (List Dt)} {ba bb : Env → Store → RS}
theorem v_var {i : Nat} {d : Dt} (h : en[i]? = some (some d)) (q : Q d S) : Pe (mVar i en S) Q X := by
  unfold mVar
  rw [h]
  exact q
theorem v_c {d : Dt} (q : Q d S) : Pe (mC d en S) Q X := q
theorem v_nil (q : QA [] S) : Pe (mNil en S) QA X := q
theorem v_cons (h : Pe (ma en S) (fun d S1 => Pe (ms en S1) (fun ds S2 => QA (d :: ds) S2) X) X) : Pe (mCons ma ms en S) QA X := by
  refine Pe.bind (h.imp (fun d S1 k => ?_) fun _ _ z => z)
  exact Pe.bind k
theorem v_op {m : Dt → Dt → Store → R Dt} (h : Pe (ma en S) (fun x S1 => Pe (mb en S1) (fun y S2 => Pe (m x y S2) Q X) X) X) : Pe (mOp m ma mb en S) Q X :=
  Pe.bind (h.imp (fun _ _ k => Pe.bind k) fun _ _ z => z)
theorem v_B (h : Pe (ma en S) (fun d S1 => ∃ b, d = .bl b ∧ QB b S1) X) : Pe (mB ma en S) QB X := by
  refine Pe.bind (h.imp (fun d S1 ⟨b, e, k⟩ => ?_) fun _ _ z => z)
  subst e
  exact k
theorem v_truth (h : Pe (ma en S) (fun d S1 => ∃ b, tru S1 d = some b ∧ QB b S1) X) : Pe (mTruth ma en S) QB X := by
  refine Pe.bind (h.imp (fun d S1 ⟨b, e, k⟩ => ?_) fun _ _ z => z)
  rw [e]
  exact k
theorem v_andT (h : Pe (ta en S) (fun b S1 => if b = true then Pe (tb en S1) QB X else QB false S1) X) : Pe (mAndT ta tb en S) QB X := by
  refine Pe.bind (h.imp (fun b S1 k => ?_) fun _ _ z => z)
  cases b with
  | true => exact k
  | false => exact k
theorem v_orT (h : Pe (ta en S) (fun b S1 => if b = true then QB true S1 else Pe (tb en S1) QB X) X) : Pe (mOrT ta tb en S) QB X := by
  refine Pe.bind (h.imp (fun b S1 k => ?_) fun _ _ z => z)
  cases b with
  | true => exact k
  | false => exact k
theorem v_notT (h : Pe (ta en S) (fun b S1 => QB (!b) S1) X) : Pe (mNotT ta en S) QB X := Pe.bind h
theorem v_andV (h : Pe (ma en S) (fun d S1 => ∃ b, tru S1 d = some b ∧ if b = true then Pe (mb en S1) Q X else Q d S1) X) : Pe (mAndV ma mb en S) Q X := by
  refine Pe.bind (h.imp (fun d S1 ⟨b, e, k⟩ => ?_) fun _ _ z => z)
  cases b with
  | true => rw [e]; exact k
  | false => rw [e]; exact k
theorem v_orV (h : Pe (ma en S) (fun d S1 => ∃ b, tru S1 d = some b ∧ if b = true then Q d S1 else Pe (mb en S1) Q X) X) : Pe (mOrV ma mb en S) Q X := by
  refine Pe.bind (h.imp (fun d S1 ⟨b, e, k⟩ => ?_) fun _ _ z => z)
  cases b with
  | true => rw [e]; exact k
  | false => rw [e]; exact k
theorem v_notV (h : Pe (ma en S) (fun d S1 => ∃ b, tru S1 d = some b ∧ Q (.bl (!b)) S1) X) : Pe (mNotV ma en S) Q X := by
  refine Pe.bind (h.imp (fun d S1 ⟨b, e, k⟩ => ?_) fun _ _ z => z)
  rw [e]
  exact k
theorem v_if (h : Pe (ta en S) (fun b S1 => if b = true then Pe (ma en S1) Q X else Pe (mb en S1) Q X) X) : Pe (mIf ta ma mb en S) Q X := by
  refine Pe.bind (h.imp (fun b S1 k => ?_) fun _ _ z => z)
  cases b with
  | true => exact k
  | false => exact k
theorem v_neg (h : Pe (ma en S) (fun d S1 => ∃ i, d = .int i ∧ Q (.int (-i)) S1) X) : Pe (mNeg ma en S) Q X := by
  refine Pe.bind (h.imp (fun d S1 ⟨b, e, k⟩ => ?_) fun _ _ z => z)
  subst e
  exact k
theorem v_chain {m m' : Dt → Dt → Store → R Dt} (h : Pe (ma en S) (fun x S1 => Pe (mb en S1) (fun y S2 => Pe (m x y S2) (fun z S3 => ∃ b, z = .bl b ∧ if b = true then Pe (mc en S3) (fun w S4 => Pe (m' y w S4) Q X) X else Q (.bl false) S3) X) X) X) : Pe (mChain m m' ma mb mc en S) Q X := by
  refine Pe.bind (h.imp (fun d S1 k => Pe.bind (k.imp (fun d' S2 k => Pe.bind (k.imp (fun d2 S3 ⟨b, e, k⟩ => ?_) fun _ _ z => z)) fun _ _ z => z)) fun _ _ z => z)
  subst e
  cases b with
  | true => exact Pe.bind k
  | false => exact k
theorem v_tup (h : Pe (ms en S) (fun ds S1 => ds.length ≤ 1000 ∧ Q (.tup ds) S1) X) : Pe (mTup ms en S) Q X := by
  refine Pe.bind (h.imp (fun d S1 ⟨e, k⟩ => ?_) fun _ _ z => z)
  rw [if_pos e]
  exact k
theorem v_lst (h : Pe (ms en S) (fun ds S1 => ds.length ≤ 1000 ∧ Q (.lst ds) S1) X) : Pe (mLst ms en S) Q X := by
  refine Pe.bind (h.imp (fun d S1 ⟨e, k⟩ => ?_) fun _ _ z => z)
  rw [if_pos e]
  exact k
theorem v_lstR (h : Pe (ms en S) (fun ds S1 => ds.length ≤ 1000 ∧ Q (.ref S1.length) (S1 ++ [.lst ds])) X) : Pe (mLstR ms en S) Q X := by
  refine Pe.bind (h.imp (fun d S1 ⟨e, k⟩ => ?_) fun _ _ z => z)
  rw [if_pos e]
  exact k
theorem v_ix {x d : Dt} {i : Int} (e : ixD S x i = some d) (q : Q d S) : Pe (mIx x (.int i) S) Q X := by
  unfold mIx
  dsimp only
  rw [e]
  exact q
theorem v_noPart {QO : Option Int → Store → Prop} (q : QO none S) : Pe (mNoPart en S) QO X := q
theorem v_part {QO : Option Int → Store → Prop} (h : Pe (ma en S) (fun d S1 => ∃ i, d = .int i ∧ QO (some i) S1) X) : Pe (mPart ma en S) QO X := by
  refine Pe.bind (h.imp (fun d S1 ⟨b, e, k⟩ => ?_) fun _ _ z => z)
  subst e
  exact k
theorem v_sl {ml mh : Env → Store → R (Option Int)} (h : Pe (ma en S) (fun x S1 => Pe (ml en S1) (fun l S2 => Pe (mh en S2) (fun u S3 => ∃ d, slD S3 x l u = some d ∧ Q d S3) X) X) X) : Pe (mSl ma ml mh en S) Q X := by
  refine Pe.bind (h.imp (fun d S1 k => Pe.bind (k.imp (fun d' S2 k => Pe.bind (k.imp (fun d2 S3 ⟨b, e, k⟩ => ?_) fun _ _ z => z)) fun _ _ z => z)) fun _ _ z => z)
  rw [e]
  exact k
theorem v_CB {m : List Dt → Store → R Dt} (h : Pe (ms en S) (fun ds S1 => Pe (m ds S1) Q X) X) : Pe (mCB m ms en S) Q X := Pe.bind h
theorem v_call {np : Nat} {m : Fn} (h : Pe (ms en S) (fun ds S1 => ds.length = np ∧ Pe (m ds S1) Q X) X) : Pe (mCall np m ms en S) Q X := by
  refine Pe.bind (h.imp (fun d S1 ⟨e, k⟩ => ?_) fun _ _ z => z)
  rw [if_pos e]
  exact k
theorem v_abs {i : Int} (q : Q (.int (if i < 0 then -i else i)) S) : Pe (mAbs [.int i] S) Q X := q
theorem v_len {d : Dt} {n : Nat} (e : lenD S d = some n) (q : Q (.int n) S) : Pe (mLen [d] S) Q X := by
  unfold mLen
  dsimp only
  rw [e]
  exact q
theorem v_list {d : Dt} {ds : List Dt} (e : asS S d = some ds) (q : Q (.lst ds) S) : Pe (mList [d] S) Q X := by
  unfold mList
  dsimp only
  rw [e]
  exact q
theorem v_listR {d : Dt} {ds : List Dt} (e : asS S d = some ds) (q : Q (.ref S.length) (S ++ [.lst ds])) : Pe (mListR [d] S) Q X := by
  unfold mListR
  dsimp only
  rw [e]
  exact q
theorem v_tuple {d : Dt} {ds : List Dt} (e : asS S d = some ds) (q : Q (.tup ds) S) : Pe (mTuple [d] S) Q X := by
  unfold mTuple
  dsimp only
  rw [e]
  exact q
/-! statements -/
theorem v_seq (h : Ps (ba en S) (fun f e1 S1 => match f with | .nx => Ps (bb e1 S1) QS XS | f => QS f e1 S1) XS) : Ps (mSeq ba bb en S) QS XS := by
  unfold mSeq
  cases e : ba en S with
  | ok f e1 S1 =>
    rw [e] at h
    cases f <;> exact h
  | err x e1 S1 => rw [e] at h; exact h
  | stuck => rw [e] at h; exact h
theorem v_set {i : Nat} (h : Pe (me en S) (fun d S1 => QS .nx (en.set i (some d)) S1) (fun x S1 => XS x en S1)) : Ps (mSet i me en S) QS XS := Pe.toS h
theorem v_asg {g : Dt → Env → Store → Option (Env × Store)} (h : Pe (me en S) (fun d S1 => ∃ e' S', g d en S1 = some (e', S') ∧ QS .nx e' S') (fun x S1 => XS x en S1)) : Ps (mAsg g me en S) QS XS := by
  refine Pe.toS (h.imp (fun d S1 ⟨e', S', e, k⟩ => ?_) fun _ _ z => z)
  rw [e]
  exact k
theorem v_par {i j : Nat} (h : Pe (ms en S) (fun ds S1 => ∃ d d', ds = [d, d'] ∧ QS .nx ((en.set i (some d)).set j (some d')) S1) (fun x S1 => XS x en S1)) : Ps (mPar i j ms en S) QS XS := by
  refine Pe.toS (h.imp (fun d S1 ⟨e', S', e, k⟩ => ?_) fun _ _ z => z)
  subst e
  exact k
theorem v_drop (h : Pe (me en S) (fun _ S1 => QS .nx en S1) (fun x S1 => XS x en S1)) : Ps (mDrop me en S) QS XS := Pe.toS h
theorem v_ret (h : Pe (me en S) (fun d S1 => QS (.rt d) en S1) (fun x S1 => XS x en S1)) : Ps (mRet me en S) QS XS := Pe.toS h
theorem v_ifS (h : Pe (ta en S) (fun t S1 => if t = true then Ps (ba en S1) QS XS else Ps (bb en S1) QS XS) (fun x S1 => XS x en S1)) : Ps (mIfS ta ba bb en S) QS XS := by
  refine Pe.toS (h.imp (fun t S1 k => ?_) fun _ _ z => z)
  cases t with
  | true => exact k
  | false => exact k
theorem v_nx (q : QS .nx en S) : Ps (mNx en S) QS XS := q
theorem v_bk (q : QS .bk en S) : Ps (mBk en S) QS XS := q
theorem v_ct (q : QS .ct en S) : Ps (mCt en S) QS XS := q
theorem v_retN (q : QS (.rt .non) en S) : Ps (mRetN en S) QS XS := q
theorem v_for {mi : Env → Store → R (List Dt)} {g : Dt → Env → Store → Option (Env × Store)} (h : Pe (mi en S) (fun items S1 => Ps (fLoop g ba items en S1) QS XS) (fun x S1 => XS x en S1)) : Ps (mFor mi g ba en S) QS XS := Pe.toS h
/-- a for by its invariant over what is left -/
theorem v_loop {g : Dt → Env → Store → Option (Env × Store)} {items : List Dt} (I : List Dt → Env → Store → Prop) (h0 : I items en S)
    (hs : ∀ d ds en S, I (d :: ds) en S → ∃ e1 S1, g d en S = some (e1, S1) ∧ Ps (ba e1 S1) (fun f e2 S2 => match f with | .nx => I ds e2 S2 | .ct => I ds e2 S2 | .bk => QS .nx e2 S2 | .rt d => QS (.rt d) e2 S2) XS)
    (hd : ∀ en S, I [] en S → QS .nx en S) : Ps (fLoop g ba items en S) QS XS := by
  induction items generalizing en S with
  | nil => exact hd en S h0
  | cons d ds ih =>
    obtain ⟨e1, S1, e, k⟩ := hs d ds en S h0
    unfold fLoop
    rw [e]
    dsimp only
    cases eb : ba e1 S1 with
    | stuck => rw [eb] at k; exact k
    | err x e2 S2 => rw [eb] at k; exact k
    | ok f e2 S2 =>
      rw [eb] at k
      cases f with
      | nx => exact ih k
      | ct => exact ih k
      | bk => exact k
      | rt d => exact k
/-- a def -/
theorem v_fn {nl : Nat} {keep : Bool} {ds : List Dt} (h : Ps (ba (ds.map some ++ List.replicate (nl - ds.length) none) S) (fun f _ S' => match f with
    | .rt d => Pe (fin keep S.length d S') Q X
    | .nx => Pe (fin keep S.length .non S') Q X
    | _ => False) (fun x _ S' => Pe (finX keep S.length x S') Q X)) : Pe (fnRun nl keep ba ds S) Q X := by
  unfold fnRun
  cases e : ba (ds.map some ++ List.replicate (nl - ds.length) none) S with
  | stuck => rw [e] at h; exact h
  | err x e1 S1 => rw [e] at h; exact h
  | ok f e1 S1 =>
    rw [e] at h
    cases f with
    | nx => exact h
    | rt d => exact h
    | bk => exact h
    | ct => exact h
theorem v_fin {keep : Bool} {n : Nat} {d : Dt} (hc : keep = true ∨ S.length = n) (q : Q d S) : Pe (fin keep n d S) Q X := by
  unfold fin
  rw [if_pos hc]
  exact q
/-! comprehensions -/
theorem v_lc {sl : List Nat} {mi : Env → Store → R (List Dt)} {g : Dt → Env → Option Env} (h : Pe (mi en S) (fun items S1 => Pe (cLoop g ta me (wipeE en sl) items [] S1) (fun ds S2 => Q (.lst ds) S2) X) X) : Pe (mLc sl mi g ta me en S) Q X :=
  Pe.bind (h.imp (fun _ _ k => Pe.bind (k.imp (fun _ _ q => q) fun _ _ z => z)) fun _ _ z => z)
theorem Pe.nx {α : Type} {r : R α} {Q : α → Store → Prop} (h : Pe r Q X0) : Pe r.nx Q X := by
  cases r with
  | ok a S => exact h
  | err x S => exact h.elim
  | stuck => exact h.elim
/-- a comprehension that keeps the store: each item gives its value, or is left out -/
theorem v_cloop {g : Dt → Env → Option Env} {items : List Dt} {acc : List Dt} (f : Dt → Option Dt)
    (hs : ∀ d ∈ items, ∃ e1, g d en = some e1 ∧ Pe (ta e1 S) (fun b S1 => S1 = S ∧ if b = true then Pe (me e1 S) (fun x S2 => S2 = S ∧ f d = some x) X0 else f d = none) X0)
    (hl : acc.length + items.length ≤ 1000000) (q : QA (acc ++ items.filterMap f) S) : Pe (cLoop g ta me en items acc S) QA X := by
  induction items generalizing acc with
  | nil =>
    rw [List.filterMap_nil, List.append_nil] at q
    exact q
  | cons d ds ih =>
    obtain ⟨e1, e, p⟩ := hs d List.mem_cons_self
    unfold cLoop
    rw [e]
    dsimp only
    rw [List.length_cons] at hl
    refine Pe.bind (Pe.nx (p.imp (fun b S1 ⟨eS, k⟩ => ?_) fun _ _ z => z))
    subst eS
    cases b with
    | false =>
      rw [if_neg Bool.false_ne_true] at k ⊢
      rw [List.filterMap_cons, k] at q
      exact ih (fun x hx => hs x (List.mem_cons_of_mem _ hx)) (by omega) q
    | true =>
      rw [if_pos rfl] at k ⊢
      refine Pe.bind (Pe.nx (k.imp (fun x S2 ⟨eS2, k2⟩ => ?_) fun _ _ z => z))
      subst eS2
      rw [if_pos (by omega)]
      rw [List.filterMap_cons, k2] at q
      refine ih (fun x hx => hs x (List.mem_cons_of_mem _ hx)) (by rw [List.length_append, List.length_singleton]; omega) ?_
      rw [List.append_assoc]
      exact q
theorem v_yes (q : QB true S) : Pe (mYes en S) QB X := q
theorem v_it {d : Dt} {ds : List Dt} (h : Pe (me en S) (fun d S1 => ∃ ds, itemsD d = some ds ∧ QA ds S1) X) : Pe (mIt me en S) QA X := by
  refine Pe.bind (h.imp (fun d S1 ⟨b, e, k⟩ => ?_) fun _ _ z => z)
  rw [e]
  exact k
theorem v_rng1 (h : Pe (ms en S) (fun ds S1 => ∃ j, ds = [.int j] ∧ rngOk j = true ∧ QA (rangeD 0 j.toNat) S1) X) : Pe (mRng1 ms en S) QA X := by
  refine Pe.bind (h.imp (fun d S1 ⟨b, e, r, k⟩ => ?_) fun _ _ z => z)
  subst e
  dsimp only
  rw [if_pos r]
  exact k
theorem v_rng2 (h : Pe (ms en S) (fun ds S1 => ∃ i j, ds = [.int i, .int j] ∧ (rngOk i = true ∧ rngOk j = true) ∧ QA (rangeD i (j - i).toNat) S1) X) : Pe (mRng2 ms en S) QA X := by
  refine Pe.bind (h.imp (fun d S1 ⟨b, b', e, r, k⟩ => ?_) fun _ _ z => z)
  subst e
  dsimp only
  rw [if_pos r]
  exact k
/-! the ways of a test -/
theorem v_dec {p A B : Prop} [Decidable p] (h1 : p → A) (h2 : ¬p → B) : if decide p = true then A else B := by
  by_cases h : p
  · rw [decide_eq_true h, if_pos rfl]
    exact h1 h
  · rw [decide_eq_false h, if_neg Bool.false_ne_true]
    exact h2 h
theorem v_ndec {p A B : Prop} [Decidable p] (h1 : ¬p → A) (h2 : p → B) : if (!decide p) = true then A else B := by
  by_cases h : p
  · rw [decide_eq_true h, if_neg (by simp)]
    exact h2 h
  · rw [decide_eq_false h, if_pos (by simp)]
    exact h1 h
theorem v_bool {b : Bool} {A B : Prop} (h1 : b = true → A) (h2 : b = false → B) : if b = true then A else B := by
  cases b with
  | true => exact h1 rfl
  | false => exact h2 rfl
theorem v_T {A B : Prop} (h : A) : if true = true then A else B := h
theorem v_F {A B : Prop} (h : B) : if false = true then A else B := h
end
section
variable {en : Env} {S : Store} {Q : Dt → Store → Prop} {X : Ex → Store → Prop}
theorem v_div {i j : Int} (h0 : j ≠ 0) (hl : j.natAbs.log2 < 9000) (q : Q (.int (i.fdiv j)) S) : Pe (mDiv (.int i) (.int j) S) Q X := by
  refine v_ifok ?_ q
  unfold divOk
  rw [Bool.and_eq_true]
  exact ⟨decide_eq_true h0, decide_eq_true hl⟩
theorem v_mod {i j : Int} (h0 : j ≠ 0) (q : Q (.int (i.fmod j)) S) : Pe (mMod (.int i) (.int j) S) Q X := v_ifok h0 q
theorem v_mulL {i j : Int} (h : i.natAbs < 2 ^ 64) (q : Q (.int (i * j)) S) : Pe (mMul (.int i) (.int j) S) Q X := by
  refine v_ifok ?_ q
  unfold mulOk
  rw [decide_eq_true h]
  rfl
theorem v_mulR {i j : Int} (h : j.natAbs < 2 ^ 64) (q : Q (.int (i * j)) S) : Pe (mMul (.int i) (.int j) S) Q X := by
  refine v_ifok ?_ q
  unfold mulOk
  rw [decide_eq_true h, Bool.or_true]
  rfl
theorem v_pow {i j : Int} (h : 0 ≤ j ∧ j ≤ 1000000 ∧ i.natAbs < 2 ^ 64) (q : Q (.int (i ^ j.toNat)) S) : Pe (mPow (.int i) (.int j) S) Q X := v_ifok (decide_eq_true h) q
theorem ixD_ref {S : Store} {k : Nat} {ds : List Dt} {i : Int} {d : Dt} (hS : S[k]? = some (.lst ds)) (h : L2.atI ds i = some d) : ixD S (.ref k) i = some d := by
  unfold ixD
  simp [asL, hS, h]
theorem lenD_ref {S : Store} {k : Nat} {ds : List Dt} (hS : S[k]? = some (.lst ds)) : lenD S (.ref k) = some ds.length := by
  unfold lenD
  simp [asL, hS]
theorem gSub_ref {mo mi : Env → Store → R Dt} {d : Dt} {k n : Nat} {j : Int} {ds : List Dt} (ho : mo en S = .ok (.ref k) S) (hi : mi en S = .ok (.int j) S) (hS : S[k]? = some (.lst ds)) (hj : ixN ds.length j = some n) :
    gSubD mo mi d en S = some (en, S.set k (.lst (ds.set n d))) := by
  unfold gSubD
  simp only [ho, hi]
  unfold setIx
  simp only [hS, hj, Option.map_some]
theorem set_same {S : Store} {k : Nat} {o o' : Ob} (h : S[k]? = some o) : (S.set k o')[k]? = some o' := List.getElem?_set_self (List.getElem?_eq_some_iff.mp h).1
/-- a store into a list: the new store by a letter -/
theorem v_gsub {mo mi : Env → Store → R Dt} {d : Dt} {k n : Nat} {j : Int} {ds : List Dt} {A : Env → Store → Prop} (ho : mo en S = .ok (.ref k) S) (hi : mi en S = .ok (.int j) S) (hS : S[k]? = some (.lst ds)) (hj : ixN ds.length j = some n)
    (q : ∀ S', S' = S.set k (.lst (ds.set n d)) → S'[k]? = some (.lst (ds.set n d)) → A en S') : ∃ e' S', gSubD mo mi d en S = some (e', S') ∧ A e' S' :=
  ⟨en, _, gSub_ref ho hi hS hj, q _ rfl (set_same hS)⟩
theorem atI_in {α : Type} {xs : List α} {j : Nat} {x : α} (h : xs[j]? = some x) : L2.atI xs (j : Int) = some x := L2.atI_nat h
end
section
variable {en : Env} {S : Store} {Q : Dt → Store → Prop} {X : Ex → Store → Prop} {QS : Fl → Env → Store → Prop} {XS : Ex → Env → Store → Prop} {i j : Int}
theorem v_add (q : Q (.int (i + j)) S) : Pe (mAdd (.int i) (.int j) S) Q X := q
theorem v_sub (q : Q (.int (i - j)) S) : Pe (mSub (.int i) (.int j) S) Q X := q
theorem v_iadd (q : Q (.int (i + j)) S) : Pe (mIAdd (.int i) (.int j) S) Q X := q
theorem v_lt (q : Q (.bl (decide (i < j))) S) : Pe (mLt (.int i) (.int j) S) Q X := q
theorem v_le (q : Q (.bl (decide (i ≤ j))) S) : Pe (mLe (.int i) (.int j) S) Q X := q
theorem v_gt (q : Q (.bl (decide (j < i))) S) : Pe (mGt (.int i) (.int j) S) Q X := q
theorem v_ge (q : Q (.bl (decide (j ≤ i))) S) : Pe (mGe (.int i) (.int j) S) Q X := q
theorem v_eqI (q : Q (.bl (decide (i = j))) S) : Pe (mEq (.int i) (.int j) S) Q X := by
  have e : (i == j) = decide (i = j) := rfl
  show Q (.bl (i == j)) S
  rw [e]
  exact q
theorem v_neI (q : Q (.bl (!decide (i = j))) S) : Pe (mNe (.int i) (.int j) S) Q X := by
  have e : (i == j) = decide (i = j) := rfl
  show Q (.bl (!(i == j))) S
  rw [e]
  exact q
theorem v_eqB {a b : Bool} (q : Q (.bl (a == b)) S) : Pe (mEq (.bl a) (.bl b) S) Q X := q
theorem v_neB {a b : Bool} (q : Q (.bl (!(a == b))) S) : Pe (mNe (.bl a) (.bl b) S) Q X := q
theorem v_aug {k : Nat} {m : Dt → Dt → Store → R Dt} {me : Env → Store → R Dt} {x : Dt} (h : en[k]? = some (some x)) (q : Pe (me en S) (fun y S1 => Pe (m x y S1) (fun z S2 => QS .nx (en.set k (some z)) S2) (fun x S => XS x en S)) (fun x S => XS x en S)) : Ps (mAug k m me en S) QS XS := by
  unfold mAug
  rw [h]
  exact Pe.toS (q.imp (fun _ _ k => Pe.toS k) fun _ _ z => z)
theorem v_isi1 {x c : Dt} {b : Bool} (hc : ∀ cs, c ≠ .tup cs) (e : ((tyS S x).bind fun t => isiT t c) = some b) (q : Q (.bl b) S) : Pe (mIsi [x, c] S) Q X := by
  unfold mIsi
  cases c with
  | tup cs => exact absurd rfl (hc cs)
  | _ =>
    dsimp only
    rw [e]
    exact q
theorem v_isiT {x : Dt} {cs : List Dt} {b : Bool} (e : ((tyS S x).bind fun t => isiAny t cs) = some b) (q : Q (.bl b) S) : Pe (mIsi [x, .tup cs] S) Q X := by
  unfold mIsi
  dsimp only
  rw [e]
  exact q
theorem v_isiTy {x : Dt} {n : String} {t : String ⊕ String} {b : Bool} (ht : tyS S x = some t) (e : isiT t (.ty n) = some b) (q : Q (.bl b) S) : Pe (mIsi [x, .ty n] S) Q X :=
  v_isi1 (fun _ z => nomatch z) (by rw [ht]; exact e) q
end
theorem v_isd {S : Store} {Q : Dt → Store → Prop} {X : Ex → Store → Prop} {n : Bool} {x y d : Dt} (e : mIs n x y S = .ok d S) (q : Q d S) : Pe (mIs n x y S) Q X := by
  rw [e]
  exact q
theorem v_bT {b : Bool} {A B : Prop} (h : b = true) (q : A) : if b = true then A else B := by
  rw [if_pos h]
  exact q
theorem v_bF {b : Bool} {A B : Prop} (h : b = false) (q : B) : if b = true then A else B := by
  rw [if_neg (by rw [h]; exact Bool.false_ne_true)]
  exact q
end Dv
set_option Elab.async false
set_option linter.all false
set_option maxRecDepth 100000
set_option maxHeartbeats 4000000
set_option autoImplicit false
namespace Dv
open PySem PySem.Spec PyProof.Rows L2
/-! instances: fields, methods, new ones -/
/-- an instance: its class, its fields -/
def insD (S : Store) (d : Dt) : Option (String × List Str × List Dt) := match d with
  | .ins c ns ds => some (c, ns, ds)
  | .ref i => match S[i]? with
    | some (.ins c ns ds) => some (c, ns, ds)
    | _ => none
  | _ => none
section
variable {G : Gv} {io : Io} {H : Hp} {S : Store}
theorem insD_ok {d : Dt} {v : V} {c : String} {ns : List Str} {ds : List Dt} (so : StoreOk G io S H) (r : RelD G io H d v) (h : insD S d = some (c, ns, ds)) :
    ∃ a C dx vs, v = .ref a ∧ H a = some (.ins C dx (ns.zip vs)) ∧ G.cl c = some C ∧ ns.length = ds.length ∧ RelDs G io H ds vs := by
  cases r with
  | ins h1 h2 h3 h4 h5 =>
    cases h
    exact ⟨_, _, _, _, rfl, h1, h3, h4, h5⟩
  | @ref a i hi =>
    unfold insD at h
    dsimp only at h
    split at h
    · rename_i c' ns' ds' hS
      cases h
      have q := so.ob i _ a hS hi
      cases q with
      | ins h1 h2 h3 h4 => exact ⟨_, _, _, _, rfl, h1, h2, h3, h4⟩
    · cases h
  | _ => cases h
theorem look_rel {f : Str} : ∀ {ns : List Str} {ds : List Dt} {vs : List V} {d : Dt}, RelDs G io H ds vs → (ns.zip ds).lookup f = some d → ∃ v, (ns.zip vs).lookup f = some v ∧ RelD G io H d v
  | [], _, _, _, _, h => by cases h
  | _ :: _, _, _, _, .nil, h => by cases h
  | n :: ns, _, _, d, .cons r rs, h => by
    rw [List.zip_cons_cons, List.lookup_cons] at h ⊢
    split at h
    · cases h
      exact ⟨_, rfl, r⟩
    · exact look_rel rs h
theorem look_none {f : Str} {α : Type} : ∀ {ns : List Str} {vs : List α}, f ∉ ns → (ns.zip vs).lookup f = none
  | [], _, _ => rfl
  | _ :: _, [], _ => rfl
  | n :: ns, v :: vs, h => by
    rw [List.zip_cons_cons, List.lookup_cons]
    have hn : (f == n) = false := by
      rw [beq_eq_false_iff_ne]
      exact fun z => h (by rw [z]; exact List.mem_cons_self)
    rw [hn]
    exact look_none fun z => h (List.mem_cons_of_mem _ z)
end
/-- o.f -/
def mFld (cs : List String) (f : Str) (m : Env → Store → R Dt) : Env → Store → R Dt := fun en S => (m en S).bind fun d S1 => match insD S1 d with
  | some (c, ns, ds) => if c ∈ cs then (match (ns.zip ds).lookup f with
    | some x => .ok x S1
    | none => .stuck) else .stuck
  | none => .stuck
section
variable {G : Gv} {X : Cx} {W : WX} {e o : Expr} {es : List Expr} {m mo me : Env → Store → R Dt} {ma : Env → Store → R (List Dt)} {f : Str} {pos apos p : Pos}
theorem de_fld (cs : List String) (ok : ClsOk G) (he : DE G X W e m) (hno : ∀ c ∈ cs, ∀ C, G.cl c = some C → NoAttr G.K C f) (hb : attributeBase e f X.env (eval e X.env) = eval e X.env := by rfl) (hK : X.K = G.K := by rfl) :
    DE G X W (.Attribute e f pos) (mFld cs f m) := by
  obtain ⟨t, pe, q⟩ := he
  refine ⟨_, pe_fld pe hb, fun io H S en σ Q so re h => ?_⟩
  refine q io H S en σ _ so re (h.bind.imp (fun _ _ _ _ z => z) fun d S1 i1 H1 g1 s1 k1 v r => ?_)
  split at k1
  · rename_i c ns ds hi
    obtain ⟨a, C, dx, vs, rfl, h1, h2, h3, h4⟩ := insD_ok s1 r hi
    split at k1
    · rename_i hc
      split at k1
      · rename_i x hx
        obtain ⟨u, hu, ru⟩ := look_rel h4 hx
        refine ⟨a, C, dx, _, u, rfl, h1, ?_, ?_, hu, ?_⟩
        · rw [hK]
          exact ok.cls c C h2
        · rw [hK]
          exact hno c hc C h2
        · exact k1 i1 H1 Grow.refl s1 u ru
      · exact k1.elim
    · exact k1.elim
  · exact k1.elim
/-! ### o.m(..) -/
def mMeth (c : String) (m : Str) (np : Nat) (fn : Fn) (mo : Env → Store → R Dt) (ma : Env → Store → R (List Dt)) : Env → Store → R Dt := fun en S => (mo en S).bind fun d S1 => match insD S1 d with
  | some (c', ns, _) => if c' = c ∧ m ∉ ns then (ma en S1).bind fun ds S2 => if ds.length + 1 = np then fn (d :: ds) S2 else .stuck else .stuck
  | none => .stuck
def tMethW (C : Addr) (m : Str) (sp : Sp) (E : L2.St → XK) (ta : TE) (t : TA) : TE := fun σ H Q => ta σ H fun x H1 => ∃ a dx fs, x = .ref a ∧ H1 a = some (.ins C dx fs) ∧ fs.lookup m = none ∧ t σ H1 fun vs H2 => sp (x :: vs) H2 Q (E σ)
variable {C fa : Addr} {k np : Nat} {fd : FuncData} {ps : List Str} {sp : Sp} {E : L2.St → XK} {ta : TE} {t : TA} {CX : CXT} {n : Str}
theorem pe_methW {pl : Sem Bool} (he : PE X o ta) (c : Cls X.K C) (hm : Meth X.K C n fa) (F : FnOk X.prog X.w X.K X.mg X.base CX k fa fd ps sp) (hr : Room k X.A) (hb : Binds X.K fd ps []) (hx : ∀ σ, PassesAt CX X σ (E σ)) (ha : PA X (e :: es) t)
    (hst : starEach (e :: es) X.env = (false, eval e X.env) :: starEach es X.env) (hpl : (backTo pos (starEach es X.env)).any (·.1) = false)
    (ht : eval (.Call (.Attribute o n apos) (e :: es) [] pos) X.env = (do
      let ov ← eval o X.env
      standAt apos.atName
      let (f, first) ← holding [ov] (getMethod ov n pl)
      callWith pos f first (backTo pos (starEach (e :: es) X.env)) (backToKw pos (keywordEach [] X.env)))) :
    PE X (.Call (.Attribute o n apos) (e :: es) [] pos) (tMethW C n sp E ta t) := by
  refine ⟨fun pins s σ H Q I h => ?_⟩
  refine PySem.W.methodCall_KW (pl := pl) (thn (he.run pins s σ H _ I h) fun u s1 ⟨x, H1, I1, rx, a, dx, fs, ex, ea, l, q⟩ => ?_) ht
  subst ex
  obtain rfl : u = Value.ref a := rx
  refine getmeth_ok I1 ea c hm l ?_
  refine PySem.W.callWith_K (first := [.ref a]) (h₀ := X.base) I.ok.mod.kin hm.kp (thn (ha.run pos pins s1 σ H1 _ I1 q) fun us s2 ⟨vs, H2, I2, r, q2⟩ => ⟨I2.kIn, ?_⟩) hst hpl
  exact run_fnS (us := .ref a :: us) (vs := .ref a :: vs) F hr hb (hx σ) I2 (.cons rfl r) q2
theorem pe_methW0 {pl : Sem Bool} (he : PE X o ta) (c : Cls X.K C) (hm : Meth X.K C n fa) (F : FnOk X.prog X.w X.K X.mg X.base CX k fa fd ps sp) (hr : Room k X.A) (hb : Binds X.K fd ps []) (hx : ∀ σ, PassesAt CX X σ (E σ))
    (ht : eval (.Call (.Attribute o n apos) [] [] pos) X.env = (do
      let ov ← eval o X.env
      standAt apos.atName
      let (f, first) ← holding [ov] (getMethod ov n pl)
      callWith pos f first (backTo pos (starEach [] X.env)) (backToKw pos (keywordEach [] X.env)))) :
    PE X (.Call (.Attribute o n apos) [] [] pos) (tMethW C n sp E ta tNil) := by
  refine ⟨fun pins s σ H Q I h => ?_⟩
  refine PySem.W.methodCall_KW (pl := pl) (thn (he.run pins s σ H _ I h) fun u s1 ⟨x, H1, I1, rx, a, dx, fs, ex, ea, l, q⟩ => ?_) ht
  subst ex
  obtain rfl : u = Value.ref a := rx
  refine getmeth_ok I1 ea c hm l ?_
  exact PySem.W.callWith_K0 (first := [.ref a]) I1.kIn hm.kp (run_fnS (us := [.ref a]) (vs := [.ref a]) F hr hb (hx σ) I1 (.cons rfl .nil) q)
/-- what the function of a method gives answers the promise of its def -/
theorem sim_meth {c : String} {fn : Fn} {to : TE} (ok : ClsOk G) (hC : G.cl c = some C) (qo : SimE G W to mo) (qa : SimA G W t ma) : SimE G W (tMethW C n (spF G np fn) (WE W) to t) (mMeth c n np fn mo ma) := by
  intro io H S en σ Q so re h
  refine qo io H S en σ _ so re (h.bind.imp (fun _ _ _ _ z => z) fun d S1 i1 H1 g1 s1 k1 v r => ?_)
  split at k1
  · rename_i c' ns ds hi
    obtain ⟨a, C', dx, vs, rfl, h1, h2, h3, h4⟩ := insD_ok s1 r hi
    split at k1
    · rename_i hc
      obtain ⟨rfl, hn⟩ := hc
      rw [hC] at h2
      cases h2
      refine ⟨a, dx, _, rfl, h1, look_none hn, ?_⟩
      refine qa i1 H1 S1 en σ _ s1 (re.mono g1) (k1.bind.imp (fun _ _ _ _ z => z) fun ws S2 i2 H2 g2 s2 k2 us rs => ?_)
      split at k2
      · rename_i hl
        exact ⟨i2, S2, d :: ws, s2, .cons (r.mono g2) rs, hl, k2⟩
      · exact k2.elim
    · exact k1.elim
  · exact k1.elim
theorem de_meth {pl : Sem Bool} {c : String} {fn : Fn} (ok : ClsOk G) (hC : G.cl c = some C) (ho : DE G X W o mo) (ha : DA G X W (e :: es) ma) (hm : Meth G.K C n fa) (F : FnOk X.prog X.w X.K X.mg X.base (L2.CX X.prog X.w) k fa fd ps (spF G np fn)) (hr : Room k X.A) (hb : Binds X.K fd ps []) (tk : Takes X W)
    (hst : starEach (e :: es) X.env = (false, eval e X.env) :: starEach es X.env := by rfl) (hpl : (backTo pos (starEach es X.env)).any (·.1) = false := by rfl)
    (ht : eval (.Call (.Attribute o n apos) (e :: es) [] pos) X.env = (do
      let ov ← eval o X.env
      standAt apos.atName
      let (f, first) ← holding [ov] (getMethod ov n pl)
      callWith pos f first (backTo pos (starEach (e :: es) X.env)) (backToKw pos (keywordEach [] X.env))) := by rfl) (hK : X.K = G.K := by rfl) :
    DE G X W (.Call (.Attribute o n apos) (e :: es) [] pos) (mMeth c n np fn mo ma) := by
  obtain ⟨to, po, qo⟩ := ho
  obtain ⟨t, pa, qa⟩ := ha
  exact ⟨_, pe_methW (E := WE W) po (by rw [hK]; exact ok.cls c C hC) (by rw [hK]; exact hm) F hr hb (fun σ => passAt tk σ) pa hst hpl ht, sim_meth ok hC qo qa⟩
theorem de_meth0 {pl : Sem Bool} {c : String} {fn : Fn} (ok : ClsOk G) (hC : G.cl c = some C) (ho : DE G X W o mo) (hm : Meth G.K C n fa) (F : FnOk X.prog X.w X.K X.mg X.base (L2.CX X.prog X.w) k fa fd ps (spF G np fn)) (hr : Room k X.A) (hb : Binds X.K fd ps []) (tk : Takes X W)
    (ht : eval (.Call (.Attribute o n apos) [] [] pos) X.env = (do
      let ov ← eval o X.env
      standAt apos.atName
      let (f, first) ← holding [ov] (getMethod ov n pl)
      callWith pos f first (backTo pos (starEach [] X.env)) (backToKw pos (keywordEach [] X.env))) := by rfl) (hK : X.K = G.K := by rfl) :
    DE G X W (.Call (.Attribute o n apos) [] [] pos) (mMeth c n np fn mo mNil) := by
  obtain ⟨to, po, qo⟩ := ho
  obtain ⟨t, pa, qa⟩ := (da_nil : DA G X W [] mNil)
  refine ⟨_, pe_methW0 (E := WE W) po (by rw [hK]; exact ok.cls c C hC) (by rw [hK]; exact hm) F hr hb (fun σ => passAt tk σ) ht, sim_meth ok hC qo fun io H S en σ Q so re h => ?_⟩
  exact h io H Grow.refl so [] .nil
/-! ### C(..) -/
def mMake (c : String) (np : Nat) (fn : Fn) (ma : Env → Store → R (List Dt)) : Env → Store → R Dt := fun en S => (ma en S).bind fun ds S1 => if ds.length + 1 = np then (fn (.ref S1.length :: ds) (S1 ++ [.ins c [] []])).bind fun r S2 => match r with
  | .non => .ok (.ref S1.length) S2
  | _ => .stuck else .stuck
def tMakeW (C : Addr) (sp : Sp) (E : L2.St → XK) (t : TA) : TE := fun σ H Q => t σ H fun vs H1 => ∀ x dx, H1 x = none → H1 dx = none → dx ≠ x →
  sp (.ref x :: vs) (upd (upd H1 dx (.own x)) x (.ins C dx [])) (fun v H2 => v = .non ∧ Q (.ref x) H2) (E σ)
theorem run_makeW {pins : List (Addr × Obj)} {σ : L2.St} {H : Hp} {s : Shared} {Q : VK} {us : List Value} {vs : List V} (M : Mk X.K C fa) (F : FnOk X.prog X.w X.K X.mg X.base CX k fa fd ps sp) (hr : Room (k + 1) X.A) (hb : Binds X.K fd ps [])
    (hx : PassesAt CX X σ (E σ)) (I : Inv X pins σ H s) (r : Vals vs us)
    (h : ∀ x dx, H x = none → H dx = none → dx ≠ x → sp (.ref x :: vs) (upd (upd H dx (.own x)) x (.ins C dx [])) (fun v H2 => v = .non ∧ Q (.ref x) H2) (E σ)) :
    wpAny (model X.prog X.w) X.A (call (.ref C) us) (EP X pins σ Q) X.xe s := by
  have hq := h (s.heap.objs.size + 1) s.heap.objs.size (I.hok.fresh (Nat.le_succ _)) (I.hok.fresh (Nat.le_refl _)) (Nat.ne_of_lt (Nat.lt_succ_self _))
  have I2 := Inv.made (C := C) I
  have r2 : Vals (V.ref (s.heap.objs.size + 1) :: vs) (Value.ref (s.heap.objs.size + 1) :: us) := .cons rfl r
  have hl : (Value.ref (s.heap.objs.size + 1) :: us).length = ps.length := by
    have e := r2.length
    rw [F.len _ _ _ _ hq] at e
    exact e.symm
  have bb := hb _ (Value.ref (s.heap.objs.size + 1) :: us) I2.kIn (by rw [List.append_nil]; exact hl)
  rw [List.append_nil] at bb
  refine wpAny_call (make_map (f := fa) I.kIn M.makes M.init (beq_iff_eq.mp M.fn) (codeAny_mono (F.run _ X.stack _ _ ⟨Value.ref (s.heap.objs.size + 1) :: us, []⟩ (Value.ref (s.heap.objs.size + 1) :: us) _ _ (E σ) (hr.make C us [])
    (I2.env0.make C us []) bb r2 hq) fun r s' hq' => ?_))
  cases r with
  | error e => exact hx pins _ _ e s' I2 hq'
  | ok fl =>
    cases fl with
    | ret u =>
      obtain ⟨v, H', I3, rv, ev, q3⟩ := I2.after hq'
      subst ev
      exact ⟨rv, ⟨V.ref (s.heap.objs.size + 1), H', I3, rfl, q3⟩⟩
    | next => exact False.elim hq'
    | brk => exact False.elim hq'
    | cont => exact False.elim hq'
variable {x : Str}
theorem pe_makeW0 (M : Mk X.K C fa) (F : FnOk X.prog X.w X.K X.mg X.base CX k fa fd ps sp) (hr : Room (k + 1) X.A) (hg : Gl X x) (hm : X.mg x = some (.ref C)) (hb : Binds X.K fd ps []) (hx : ∀ σ, PassesAt CX X σ (E σ))
    (hdb : (x == ("__debug__" : Str)) = false) : PE X (.Call (.Name x p) [] [] pos) (tMakeW C sp E tNil) := by
  refine ⟨fun pins s σ H Q I h => ?_⟩
  refine wpAny_Call_Name_kw (ld_glob I hg hm ?_ hdb)
  exact PySem.W.callWith_K0 I.kIn M.kp (run_makeW (us := []) M F hr hb (hx σ) I .nil h)
theorem sim_make {c : String} {fn : Fn} (hC : G.cl c = some C) (qa : SimA G W t ma) : SimE G W (tMakeW C (spF G np fn) (WE W) t) (mMake c np fn ma) := by
  intro io H S en σ Q so re h
  refine qa io H S en σ _ so re (h.bind.imp (fun _ _ _ _ z => z) fun ds S1 i1 H1 g1 s1 k1 vs r => ?_)
  split at k1
  · rename_i hl
    intro y dy hy hdy hne
    have e0 : ExtH H1 (upd H1 dy (.own y)) := ExtH.new hdy
    have hy2 : upd H1 dy (.own y) y = none := by rw [upd_ne (Ne.symm hne)]; exact hy
    have s2 := s1.ext e0
    obtain ⟨g3, s3⟩ := s2.push (o := .ins c [] []) (u := .ins C dy []) hy2 (.ins upd_same hC rfl .nil)
    have g4 : Grow i1 H1 (i1.push y) (upd (upd H1 dy (.own y)) y (.ins C dy [])) := e0.grow.trans g3
    have hy4 : (i1.push y).l[S1.length]? = some y := by
      rw [s1.len]
      simp
    refine ⟨i1.push y, S1 ++ [.ins c [] []], .ref S1.length :: ds, s3, .cons (.ref hy4) (r.mono g4), hl, ?_⟩
    refine (Out.from g4 k1).bind.imp (fun _ _ _ _ z => z) fun rr S5 i5 H5 g5 s5 k5 v rv => ?_
    split at k5
    · cases rv
      exact ⟨rfl, k5 i5 H5 Grow.refl s5 _ (.ref (g5.at hy4))⟩
    · exact k5.elim
  · exact k1.elim
theorem de_make0 {c : String} {fn : Fn} (hC : G.cl c = some C) (M : Mk G.K C fa) (F : FnOk X.prog X.w X.K X.mg X.base (L2.CX X.prog X.w) k fa fd ps (spF G np fn)) (hr : Room (k + 1) X.A) (hb : Binds X.K fd ps []) (tk : Takes X W)
    (hm : X.mg x = some (.ref C)) (hg : Gl X x := by rfl) (hdb : (x == ("__debug__" : Str)) = false := by decide) (hK : X.K = G.K := by rfl) :
    DE G X W (.Call (.Name x p) [] [] pos) (mMake c np fn mNil) := by
  refine ⟨_, pe_makeW0 (E := WE W) (by rw [hK]; exact M) F hr hg hm hb (fun σ => passAt tk σ) hdb, sim_make hC fun io H S en σ Q so re h => ?_⟩
  exact h io H Grow.refl so [] .nil
/-! ### o.f = v -/
def putN (f : Str) : List Str → List Str
  | [] => [f]
  | g :: r => if g = f then g :: r else g :: putN f r
def putW {α : Type} (f : Str) (y : α) : List Str → List α → List α
  | [], _ => [y]
  | _ :: _, [] => []
  | g :: r, v :: vs => if g = f then y :: vs else v :: putW f y r vs
theorem put_zip {f : Str} {y : V} : ∀ {ns : List Str} {vs : List V}, ns.length = vs.length → putF f y (ns.zip vs) = (putN f ns).zip (putW f y ns vs)
  | [], [], _ => rfl
  | n :: ns, v :: vs, h => by
    show putF f y ((n, v) :: ns.zip vs) = _
    unfold putF putN putW
    by_cases hn : n = f
    · rw [if_pos hn, if_pos hn, if_pos hn]
      rfl
    · rw [if_neg hn, if_neg hn, if_neg hn, put_zip (by simpa using h)]
      rfl
theorem put_len {α : Type} {f : Str} {y : α} : ∀ {ns : List Str} {vs : List α}, ns.length = vs.length → (putN f ns).length = (putW f y ns vs).length
  | [], [], _ => rfl
  | n :: ns, v :: vs, h => by
    unfold putN putW
    by_cases hn : n = f
    · rw [if_pos hn, if_pos hn]
      simpa using h
    · rw [if_neg hn, if_neg hn, List.length_cons, List.length_cons, put_len (by simpa using h)]
theorem put_rel {io : Io} {H : Hp} {f : Str} {d : Dt} {y : V} (ry : RelD G io H d y) : ∀ {ns : List Str} {ds : List Dt} {vs : List V}, RelDs G io H ds vs → RelDs G io H (putW f d ns ds) (putW f y ns vs)
  | [], _, _, _ => .cons ry .nil
  | _ :: _, _, _, .nil => .nil
  | n :: ns, _, _, .cons r rs => by
    unfold putW
    by_cases hn : n = f
    · rw [if_pos hn, if_pos hn]
      exact .cons ry rs
    · rw [if_neg hn, if_neg hn]
      exact .cons r (put_rel ry rs)
/-- a field of an object of the store is written -/
def setFld (cs : List String) (f : Str) (S : Store) (x d : Dt) : Option Store := match x with
  | .ref k => match S[k]? with
    | some (.ins c ns ds) => if c ∈ cs ∧ ns.length < 1000 then some (S.set k (.ins c (putN f ns) (putW f d ns ds))) else none
    | _ => none
  | _ => none
def mFldS (cs : List String) (f : Str) (mo me : Env → Store → R Dt) : Env → Store → RS := fun en S => (me en S).toS en fun d S1 => (mo en S1).toS en fun x S2 => match setFld cs f S2 x d with
  | some S3 => .ok .nx en S3
  | none => .stuck
theorem setFld_ok {io : Io} {H : Hp} {S S' : Store} {cs : List String} {x d : Dt} {vx v : V} (so : StoreOk G io S H) (rx : RelD G io H x vx) (rd : RelD G io H d v) (h : setFld cs f S x d = some S') :
    ∃ a C dx fs c, vx = .ref a ∧ H a = some (.ins C dx fs) ∧ G.cl c = some C ∧ c ∈ cs ∧ fs.length < 1000 ∧ Grow io H io (upd H a (.ins C dx (putF f v fs))) ∧ StoreOk G io S' (upd H a (.ins C dx (putF f v fs))) := by
  unfold setFld at h
  split at h
  · rename_i k
    split at h
    · rename_i c ns ds hS
      split at h
      · rename_i hc
        cases h
        cases rx with
        | @ref a _ hi =>
          have q := so.ob k _ a hS hi
          cases q with
          | @ins _ C dx _ _ _ vs h1 h2 h3 h4 =>
            have hl : ns.length = vs.length := h3.trans h4.length
            have hm : a ∈ io.l := List.mem_of_getElem? hi
            have g : ∀ u, Grow io H io (upd H a u) := fun u => ⟨⟨[], by simp⟩, fun b o h n _ => by
              rw [upd_ne (fun z => n (by rw [z]; exact hm))]
              exact h, fun a h n => absurd h n⟩
            obtain ⟨g2, s2⟩ := so.write (o := .ins c (putN f ns) (putW f d ns ds)) (u := .ins C dx (putF f v (ns.zip vs))) hi (by
              refine RelO.ins (dx := dx) (vs := putW f v ns vs) ?_ h2 (put_len h3) ((put_rel rd h4).mono (g _))
              rw [upd_same, put_zip hl])
            refine ⟨a, C, dx, _, c, rfl, h1, h2, hc.1, ?_, g2, s2⟩
            have := hc.2
            rw [List.length_zip, ← hl, Nat.min_self]
            exact this
      · cases h
    · cases h
  · cases h
/-- o.f as a target -/
def gFldT (K : PySem.W.Frag) (to : TE) (f : Str) : TG := fun v σ H Q => to σ H fun x H1 => ∃ a C dx fs, x = .ref a ∧ H1 a = some (.ins C dx fs) ∧ Cls K C ∧ NoAttr K C f ∧ fs.length < 1000 ∧ Q σ (upd H1 a (.ins C dx (putF f v fs)))
theorem pg_fld {to : TE} (ho : PE X o to) : PG X (.Attribute o f pos) (gFldT X.K to f) := by
  refine ⟨fun pins s σ H v u Q I r h => ?_⟩
  refine PySem.W.kas_attr (thn (ho.run pins s σ H _ I h) fun ov s1 ⟨x, H1, I1, r1, a, C, dx, fs, ex, ea, c, n, l, q⟩ => ?_)
  subst ex
  obtain rfl : ov = Value.ref a := r1
  exact setattr_ok I1 ea c n l r fun s2 I2 => ⟨σ, _, I2, q⟩
def gFldD (cs : List String) (f : Str) (mo : Env → Store → R Dt) : Dt → Env → Store → Option (Env × Store) := fun d en S => match mo en S with
  | .ok x S1 => (setFld cs f S1 x d).map fun S2 => (en, S2)
  | _ => none
theorem dg_fld (cs : List String) (ok : ClsOk G) (ho : DE G X W0 o mo) (hno : ∀ c ∈ cs, ∀ C, G.cl c = some C → NoAttr G.K C f) (hK : X.K = G.K := by rfl) : DG G X (.Attribute o f pos) (gFldD cs f mo) := by
  obtain ⟨t, p, q⟩ := ho
  refine ⟨_, pg_fld p, fun io H S en σ d v Q so re r h => ?_⟩
  unfold gFldD at h
  refine q io H S en σ _ so re ?_
  cases eo : mo en S with
  | stuck => simp [eo] at h
  | err x S1 => simp [eo] at h
  | ok x S1 =>
    simp only [eo] at h
    intro i1 H1 g1 s1 vx rx
    cases es : setFld cs f S1 x d with
    | none => simp [es] at h
    | some S3 =>
      simp only [es, Option.map_some] at h
      obtain ⟨a, C, dx, fs, c, h1, h2, h3, h4, h5, g3, s3⟩ := setFld_ok s1 rx (r.mono g1) es
      refine ⟨a, C, dx, fs, h1, h2, ?_, ?_, h5, h i1 _ (g1.trans g3) s3 σ (re.mono (g1.trans g3))⟩
      · rw [hK]
        exact ok.cls c C h3
      · rw [hK]
        exact hno c h4 C h3
theorem ds_fld {pos' : Pos} (cs : List String) (ok : ClsOk G) (ho : DE G X W o mo) (he : DE G X W e me) (hno : ∀ c ∈ cs, ∀ C, G.cl c = some C → NoAttr G.K C f) (hs : swapsWith e (some (.Attribute o f pos')) pos.line X.env = pure false := by rfl) (hK : X.K = G.K := by rfl) :
    DS G X W (.Assign [.Attribute o f pos'] e pos) (mFldS cs f mo me) := by
  obtain ⟨t, p, q⟩ := he
  obtain ⟨to, po, qo⟩ := ho
  refine ⟨_, ps_fld po p hs, fun io H S en σ D so re h => ?_⟩
  refine q io H S en σ _ so re (h.bind.imp (wx_of re) fun d S1 i1 H1 g1 s1 k1 v r => ?_)
  refine qo i1 H1 S1 en σ _ s1 (re.mono g1) (k1.bind.imp (wx_of (re.mono g1)) fun x S2 i2 H2 g2 s2 k2 vx rx => ?_)
  split at k2
  · rename_i S3 es
    obtain ⟨a, C, dx, fs, c, h1, h2, h3, h4, h5, g3, s3⟩ := setFld_ok s2 rx (r.mono g2) es
    refine ⟨a, C, dx, fs, h1, h2, ?_, ?_, h5, k2 i2 _ g3 s3 σ ((re.mono (g1.trans g2)).mono g3)⟩
    · rw [hK]
      exact ok.cls c C h3
    · rw [hK]
      exact hno c h4 C h3
  · exact k2.elim
end
end Dv
set_option Elab.async false
set_option linter.all false
set_option maxRecDepth 100000
set_option maxHeartbeats 4000000
set_option autoImplicit false
namespace Dv
open PySem PySem.Spec PyProof.Rows L2
/-! exceptions of the text: an __init__ that stores a word, and at most one of its arguments -/
/-- self.word = w, self.f = y -/
def spX2 (K : PySem.W.Frag) (C : Addr) (w f : Str) : Sp := fun vs H Q _ => ∃ a y, vs = [.ref a, y] ∧ H a = some (exo a C none) ∧ ∀ dx, H dx = none → dx ≠ a → Q .non (upd (upd (upd H dx (exd dx [("word", .str w)])) a (exo a C (some dx))) dx (exd dx [(f, y), ("word", .str w)]))
section
/-! ### raise -/
end
section
variable {G : Gv} {X : Cx} {W : WX} {e : Expr} {me : Env → Store → R Dt} {x : Str} {C fI : Addr} {k : Nat} {fd : FuncData} {wd fl pn : Str} {c : String} {p pos pos' : Pos}
/-- raise C(e) -/
def mRaise1 (c : String) (wd f : Str) (me : Env → Store → R Dt) : Env → Store → RS := fun en S => (me en S).toS en fun d S1 => .err ⟨c, [f, "word"], [d, .str wd]⟩ en S1
theorem raise_end {io : Io} {H H2 : Hp} {S : Store} {en : Env} {σ : L2.St} {a dx : Addr} {ns : List Str} {ds : List Dt} {vs : List V} (so : StoreOk G io S H) (re : RelEnv G io H en σ) (hc : G.xl c = some C) (ha : H a = none) (hd : H dx = none) (hne : dx ≠ a)
    (k2 : ∀ b, b ≠ a → b ≠ dx → H2 b = H b) (hl : ns.length = ds.length) (r : RelDs G io H ds vs)
    (h : ∀ io' H', Grow io H io' H' → StoreOk G io' S H' → wxS G W ⟨c, ns, ds⟩ en io' H') : W (.ref C) (some dx) σ (upd (del H2 a) dx (.xd (ns.zip vs))) := by
  have ex : ExtH H (upd (del H2 a) dx (.xd (ns.zip vs))) := fun b o hb => by
    have h1 : b ≠ dx := fun z => by rw [z, hd] at hb; cases hb
    have h2 : b ≠ a := fun z => by rw [z, ha] at hb; cases hb
    rw [upd_ne h1, del_ne h2, k2 b h2 h1]
    exact hb
  exact h io _ ex.grow (so.ext ex) σ _ _ (re.mono ex.grow) ⟨C, dx, vs, rfl, hc, rfl, upd_same, so.fresh hd, hl, r.mono ex.grow⟩
end
end Dv
set_option Elab.async false
set_option linter.all false
set_option maxRecDepth 100000
set_option maxHeartbeats 4000000
set_option autoImplicit false
namespace Dv
open PySem PySem.Spec PyProof.Rows L2
/-! x in xs -/
def flatD : Dt → Bool
  | .non => true
  | .bl _ => true
  | .int _ => true
  | .str _ => true
  | _ => false
section
variable {G : Gv} {io : Io} {H : Hp} {S : Store}
theorem flat_rel {d : Dt} {v : V} (r : RelD G io H d v) (h : flatD d = true) : flatV v = true := by
  cases r with
  | non => rfl
  | bl _ => rfl
  | int _ => rfl
  | str _ => rfl
  | _ => exact absurd h (by simp [flatD])
theorem flat_all {ds : List Dt} : ∀ {vs : List V}, RelDs G io H ds vs → ds.all flatD = true → vs.all flatV = true := by
  induction ds with
  | nil =>
    intro vs r _
    cases r
    rfl
  | cons d ds ih =>
    intro vs r h
    cases r with
    | cons r1 r2 =>
      rw [List.all_cons, Bool.and_eq_true] at h ⊢
      exact ⟨flat_rel r1 h.1, ih r2 h.2⟩
theorem eq_flat {d e : Dt} {v u : V} (r : RelD G io H d v) (t : RelD G io H e u) (h : flatD d = true) (k : flatD e = true) : eqV v u = eqD d e := by
  cases r with
  | non => cases t <;> first | rfl | exact absurd k (by simp [flatD])
  | bl a => cases t <;> first | rfl | (cases a <;> rfl) | exact absurd k (by simp [flatD])
  | int a => cases t <;> first | rfl | exact absurd k (by simp [flatD])
  | str a => cases t <;> first | rfl | exact absurd k (by simp [flatD])
  | _ => exact absurd h (by simp [flatD])
theorem any_flat {d : Dt} {v : V} (r : RelD G io H d v) (h : flatD d = true) {ds : List Dt} : ∀ {vs : List V}, RelDs G io H ds vs → ds.all flatD = true → inV v vs = ds.any fun y => eqD y d := by
  induction ds with
  | nil =>
    intro vs t _
    cases t
    rfl
  | cons e ds ih =>
    intro vs t k
    cases t with
    | cons t1 t2 =>
      rw [List.all_cons, Bool.and_eq_true] at k
      have q := ih t2 k.2
      unfold inV at q ⊢
      rw [List.any_cons, List.any_cons, eq_flat t1 r k.1 h, q]
end
/-- x in y: flat items of a list or tuple; a sign of a text -/
def mIn (neg : Bool) (x y : Dt) (S : Store) : R Dt := match y with
  | .str b => match x with
    | .str a => match a.cps.toList with
      | [c] => .ok (.bl (if neg then !decide (c ∈ b.cps.toList) else decide (c ∈ b.cps.toList))) S
      | _ => .stuck
    | _ => .stuck
  | y => match asS S y with
    | some ds => if flatD x = true ∧ ds.all flatD = true then .ok (.bl (if neg then !(ds.any fun z => eqD z x) else (ds.any fun z => eqD z x))) S else .stuck
    | none => .stuck
theorem str_one {a : Str} {c : Nat} (h : a.cps.toList = [c]) : a = ⟨#[c]⟩ := by
  cases a with
  | mk cps =>
    have e : cps = #[c] := by
      apply Array.toList_inj.mp
      simpa using h
    rw [e]
section
variable {G : Gv} {X : Cx}
theorem in_seq_ok {io : Io} {H : Hp} {S : Store} {x y : Dt} {vx vy : V} {ds : List Dt} {Q : VK} {neg : Bool} (so : StoreOk G io S H) (rx : RelD G io H x vx) (ry : RelD G io H y vy) (ha : asS S y = some ds) (h1 : flatD x = true) (h2 : ds.all flatD = true)
    (h : Out G io H (fun _ _ _ => False) (poE G Q) (.ok (.bl (if neg then !(ds.any fun z => eqD z x) else (ds.any fun z => eqD z x))) S)) : rIn G.K neg vx vy H Q := by
  obtain ⟨a, vs, rfl, hs, rs⟩ := asS_ok so ry ha
  refine ⟨a, vs, rfl, hs, flat_rel rx h1, flat_all rs h2, ?_⟩
  rw [any_flat rx h1 rs h2]
  exact h io H Grow.refl so _ (.bl _)
theorem sim_in {neg : Bool} : SimO G (fun x y H Q => (∃ (c : Nat) (z : Str), x = .str ⟨#[c]⟩ ∧ y = .str z ∧ Q (.bl (if neg then !decide (c ∈ z.cps.toList) else decide (c ∈ z.cps.toList))) H) ∨ rIn G.K neg x y H Q) (mIn neg) := by
  intro io H S vx vy x y Q so rx ry h
  unfold mIn at h
  split at h
  · rename_i b
    split at h
    · rename_i a
      split at h
      · rename_i c hc
        cases rx
        cases ry
        rw [str_one hc]
        exact .inl ⟨c, b, rfl, rfl, h io H Grow.refl so _ (.bl _)⟩
      · exact h.elim
    · exact h.elim
  · split at h
    · rename_i ds ha
      split at h
      · rename_i hf
        exact .inr (in_seq_ok so rx ry ha hf.1 hf.2 h)
      · exact h.elim
    · exact h.elim
theorem in_noErr {neg : Bool} (x y : Dt) (S : Store) : NoErr (mIn neg x y S) := by
  unfold mIn
  split
  · split
    · split <;> trivial
    · trivial
  · split
    · split <;> trivial
    · trivial
theorem do_in (hK : X.K = G.K := by rfl) : DO G X (compareOp .In) (mIn false) := by
  refine ⟨_, (op_in_sign (X := X)).or op_in_seq, ?_, in_noErr⟩
  rw [hK]
  exact sim_in (neg := false)
theorem do_notIn (hK : X.K = G.K := by rfl) : DO G X (compareOp .NotIn) (mIn true) := by
  refine ⟨_, (op_notIn_sign (X := X)).or op_notIn_seq, ?_, in_noErr⟩
  rw [hK]
  exact sim_in (neg := true)
end
end Dv
set_option Elab.async false
set_option linter.all false
set_option maxRecDepth 100000
set_option maxHeartbeats 4000000
set_option autoImplicit false
namespace Dv
open PySem PySem.Spec PyProof.Rows L2
/-! texts -/
/-- str(x) -/
def mStr (ds : List Dt) (S : Store) : R Dt := match ds with
  | [.int i] => if i.natAbs.log2 < 1920 then .ok (.str (toString i)) S else .stuck
  | [.str s] => .ok (.str s) S
  | _ => .stuck
theorem callR_or {X : Cx} {f : Value} {r r' : List V → Hp → VK → Prop} (h : CallR X f r) (h' : CallR X f r') : CallR X f (fun xs H Q => r xs H Q ∨ r' xs H Q) := by
  intro pins s σ H xs us Q I rs q
  rcases q with q | q
  · exact h pins s σ H xs us Q I rs q
  · exact h' pins s σ H xs us Q I rs q
section
variable {G : Gv} {X : Cx} {W : WX}
theorem dc_str : DC G X (.type "str") mStr := by
  refine ⟨_, callR_or call_str_int SkE.call_str_str, ?_, ?_⟩
  · intro io H S ds vs Q so r h
    unfold mStr at h
    split at h
    · split at h
      · rename_i hl
        cases r with
        | cons r1 r2 =>
          cases r1
          cases r2
          exact .inl ⟨_, rfl, hl, h io H Grow.refl so _ (.str _)⟩
      · exact h.elim
    · cases r with
      | cons r1 r2 =>
        cases r1
        cases r2
        exact .inr ⟨_, rfl, h io H Grow.refl so _ (.str _)⟩
    · exact h.elim
  · intro ds S
    unfold mStr
    split
    · split <;> trivial
    · trivial
    · trivial
variable {o e : Expr} {mo me : Env → Store → R Dt} {apos pos : Pos}
/-- {x} of an f-string -/
def mFmt (m : Env → Store → R Dt) : Env → Store → R Dt := fun en S => (m en S).bind fun x S1 => match x with
  | .str y => if y.length ≤ 100000 then .ok (.str y) S1 else .stuck
  | .int i => if i.natAbs.log2 < 1920 then .ok (.str (toString i)) S1 else .stuck
  | _ => .stuck
theorem de_fmt (he : DE G X W e me) : DE G X W (.FormattedValue e (-1) none pos) (mFmt me) := by
  obtain ⟨te, pe, qe⟩ := he
  refine ⟨_, pe_fmt pe, fun io H S en σ Q so re h => ?_⟩
  refine qe io H S en σ _ so re (h.bind.imp (fun _ _ _ _ z => z) fun x S1 i1 H1 g1 s1 k1 v r => ?_)
  split at k1
  · split at k1
    · rename_i hl
      cases r
      exact .inl ⟨_, rfl, small6 (by omega), k1 i1 H1 Grow.refl s1 _ (.str _)⟩
    · exact k1.elim
  · split at k1
    · rename_i hl
      cases r
      exact .inr ⟨_, rfl, hl, k1 i1 H1 Grow.refl s1 _ (.str _)⟩
    · exact k1.elim
  · exact k1.elim
/-- the parts of an f-string -/
def mJs : List (Env → Store → R Dt) → Str → Env → Store → R Dt
  | [], acc => fun _ S => .ok (.str acc) S
  | m :: ms, acc => fun en S => (m en S).bind fun x S1 => match x with
    | .str y => if (acc ++ y).length ≤ 100000 then mJs ms (acc ++ y) en S1 else .stuck
    | _ => .stuck
def DJ (G : Gv) (X : Cx) (W : WX) (es : List Expr) (ms : List (Env → Store → R Dt)) : Prop := ∃ ts, PJ X es ts ∧ ∀ acc io H S en σ (Q : VK), StoreOk G io S H → RelEnv G io H en σ → Out G io H (wxE G W σ) (poE G Q) (mJs ms acc en S) → tJs ts acc σ H fun out H1 => Q (.str out) H1
theorem dj_nil : DJ G X W [] [] := ⟨[], .nil, fun acc io H S en σ Q so re h => h io H Grow.refl so _ (.str _)⟩
theorem dj_cons {es : List Expr} {ms : List (Env → Store → R Dt)} (he : DE G X W e me) (hr : DJ G X W es ms) : DJ G X W (e :: es) (me :: ms) := by
  obtain ⟨te, pe, qe⟩ := he
  obtain ⟨ts, pj, qj⟩ := hr
  refine ⟨te :: ts, .cons pe pj, fun acc io H S en σ Q so re h => ?_⟩
  refine qe io H S en σ _ so re (h.bind.imp (fun _ _ _ _ z => z) fun x S1 i1 H1 g1 s1 k1 v r => ?_)
  split at k1
  · split at k1
    · rename_i y hl
      cases r
      exact ⟨_, rfl, small6 (by omega), qj _ i1 H1 S1 en σ Q s1 (re.mono g1) k1⟩
    · exact k1.elim
  · exact k1.elim
theorem de_joined {v1 v2 : Expr} {rest : List Expr} {ms : List (Env → Store → R Dt)} (h : DJ G X W (v1 :: v2 :: rest) ms) : DE G X W (.JoinedStr (v1 :: v2 :: rest) pos) (mJs ms Str.empty) := by
  obtain ⟨ts, pj, qj⟩ := h
  exact ⟨_, pe_joined pj, fun io H S en σ Q so re h => qj _ io H S en σ Q so re h⟩
end
end Dv
set_option Elab.async false
set_option linter.all false
set_option maxRecDepth 100000
set_option maxHeartbeats 4000000
set_option autoImplicit false
namespace Dv
open PySem PySem.Spec PyProof.Rows L2
/-! lists of the store: pop(i), clear() -/
section
end
end Dv
set_option Elab.async false
set_option linter.all false
set_option maxRecDepth 100000
set_option maxHeartbeats 4000000
set_option autoImplicit false
namespace Dv
open PySem PySem.Spec PyProof.Rows L2
/-! dicts with text keys: the display, reading -/
def mPs : List (Env → Store → R Dt) → Env → Store → R (List Dt)
  | [] => fun _ S => .ok [] S
  | m :: ms => fun en S => (m en S).bind fun d S1 => (mPs ms en S1).bind fun ds S2 => .ok (d :: ds) S2
/-- keys and values, from the left -/
inductive DPs (G : Gv) (X : Cx) (W : WX) : List Str → List Expr → List (TE × TE) → List (Env → Store → R Dt) → Prop
  | nil : DPs G X W [] [] [] []
  | cons {k : Str} {e : Expr} {ks : List Str} {es : List Expr} {te : TE} {ts : List (TE × TE)} {m : Env → Store → R Dt} {ms : List (Env → Store → R Dt)} (pe : PE X e te) (q : SimE G W te m) (r : DPs G X W ks es ts ms) :
    DPs G X W (k :: ks) (e :: es) ((tC (.str k), te) :: ts) (m :: ms)
section
variable {G : Gv} {X : Cx} {W : WX}
theorem dps_sim {ks : List Str} {es : List Expr} {ts : List (TE × TE)} {ms : List (Env → Store → R Dt)} (h : DPs G X W ks es ts ms) : ∀ io H S en σ (Q : List (V × V) → Hp → Prop), StoreOk G io S H → RelEnv G io H en σ →
    Out G io H (wxE G W σ) (fun ds _ io' H' => ∀ vs, RelDs G io' H' ds vs → Q ((ks.map V.str).zip vs) H') (mPs ms en S) → tPairs ts σ H Q := by
  induction h with
  | nil => exact fun io H S en σ Q so re k => k io H Grow.refl so [] .nil
  | @cons k e ks es te ts m ms pe q r ih =>
    intro io H S en σ Q so re hh
    show tPairs ((tC (V.str k), te) :: ts) σ H Q
    refine q io H S en σ _ so re (hh.bind.imp (fun _ _ _ _ z => z) fun d S1 i1 H1 g1 s1 k1 v rd => ?_)
    refine ih i1 H1 S1 en σ _ s1 (re.mono g1) (k1.bind.imp (fun _ _ _ _ z => z) fun ds S2 i2 H2 g2 s2 k2 vs rs => ?_)
    exact k2 i2 H2 Grow.refl s2 (v :: vs) (.cons (rd.mono g2) rs)
theorem dps_len {ks : List Str} {es : List Expr} {ts : List (TE × TE)} {ms : List (Env → Store → R Dt)} (h : DPs G X W ks es ts ms) : ∀ en S ds S', mPs ms en S = .ok ds S' → ds.length = ks.length := by
  induction h with
  | nil => intro en S ds S' e; cases e; rfl
  | @cons k e ks es te ts m ms pe q r ih =>
    intro en S ds S' hh
    unfold mPs at hh
    cases e1 : m en S with
    | stuck => rw [e1] at hh; cases hh
    | err x S1 => rw [e1] at hh; cases hh
    | ok d S1 =>
      rw [e1] at hh
      dsimp only [R.bind] at hh
      cases e2 : mPs ms en S1 with
      | stuck => rw [e2] at hh; cases hh
      | err x S1 => rw [e2] at hh; cases hh
      | ok es2 S2 =>
        rw [e2] at hh
        cases hh
        rw [List.length_cons, List.length_cons, ih _ _ _ _ e2]
theorem merge_new : ∀ {ks : List Key} {vs : List V} {acc : List (Key × V)}, ks.Nodup → (∀ k ∈ ks, ∀ p ∈ acc, p.1 ≠ k) → (ks.zip vs).foldl (fun acc kv => putK acc kv.1 kv.2) acc = acc ++ ks.zip vs
  | [], _, _, _, _ => by simp
  | _ :: _, [], _, _, _ => by simp
  | k :: ks, v :: vs, acc, nd, hn => by
    rw [List.zip_cons_cons, List.foldl_cons]
    have hp : putK acc k v = acc ++ [(k, v)] := by
      unfold putK
      rw [if_neg]
      intro z
      obtain ⟨p, hp, e⟩ := List.any_eq_true.mp z
      exact hn k List.mem_cons_self p hp (of_decide_eq_true e)
    rw [hp, merge_new (List.nodup_cons.mp nd).2 fun k' hk p hp => ?_]
    · simp
    · rcases List.mem_append.mp hp with z | z
      · exact hn k' (List.mem_cons_of_mem _ hk) p z
      · rw [List.mem_singleton] at z
        rw [z]
        exact fun e => (List.nodup_cons.mp nd).1 (by rw [show k = k' from e]; exact hk)
/-- {k: e, ..} with text keys -/
def mDict (ks : List Str) (ms : List (Env → Store → R Dt)) : Env → Store → R Dt := fun en S => (mPs ms en S).bind fun ds S1 => if ds.length = ks.length then .ok (.dct (ks.map Sum.inr) ds) S1 else .stuck
theorem env_hide {io : Io} {H : Hp} {p : Addr} {o : HO} {en : Env} {σ : L2.St} (hp : H p = none) (re : RelEnv G io H en σ) : RelEnv G (io.hide p) (upd H p o) en σ :=
  ⟨re.len, fun i d h => let ⟨v, h1, h2⟩ := re.at_ i d h; ⟨v, h1, (h2.hide hp).mono (ExtH.new hp).grow⟩⟩
theorem nodup_inr {ks : List Str} (h : ks.Nodup) : (ks.map (Sum.inr : Str → Key)).Nodup := by
  induction ks with
  | nil => exact List.nodup_nil
  | cons k ks ih =>
    obtain ⟨h1, h2⟩ := List.nodup_cons.mp h
    refine List.nodup_cons.mpr ⟨fun z => ?_, ih h2⟩
    obtain ⟨k', hk, e⟩ := List.mem_map.mp z
    exact h1 (by rw [← Sum.inr.inj e]; exact hk)
theorem zip_keys : ∀ (ks : List Str) (vs : List V), (ks.map V.str).zip vs = ((ks.map (Sum.inr : Str → Key)).zip vs).map fun kv => (kV kv.1, kv.2)
  | [], _ => rfl
  | _ :: _, [] => rfl
  | k :: ks, v :: vs => by
    rw [List.map_cons, List.map_cons, List.zip_cons_cons, List.zip_cons_cons, List.map_cons, zip_keys ks vs]
    rfl
theorem de_dict {pos : Pos} {keys : List (Option Expr)} {es : List Expr} {ks : List Str} {ts : List (TE × TE)} {ms : List (Env → Store → R Dt)} (h : DPs G X W ks es ts ms) (pp : PPs X pos keys es ts) (hall : keys.all (·.isSome) = true) (hl : keys.length = es.length) (h0 : keys ≠ []) (h15 : keys.length ≤ 15) (hk : ks.length ≤ 15) (nd : ks.Nodup) :
    DE G X W (.Dict keys es pos) (mDict ks ms) := by
  refine ⟨_, pe_disp pp hall hl h0 h15, fun io H S en σ Q so re hh => ?_⟩
  intro p hp
  have ex : ExtH H (upd H p (.dK [])) := ExtH.new hp
  refine dps_sim h (io.hide p) _ S en σ _ (so_hide so hp) (env_hide hp re) ?_
  have hb := hh.bind
  cases er : mPs ms en S with
  | stuck => rw [er] at hb; exact hb
  | err x S1 =>
    rw [er] at hb
    intro io' H' g s cls dx rx
    obtain ⟨i2, rfl⟩ := io_hide g
    have g2 := ex.grow.trans (grow_un g)
    obtain ⟨C, a, vs, h1, h2, h3, h4, h5, h6, h7⟩ := rx
    exact hb i2 H' g2 (so_unhide s) cls dx ⟨C, a, vs, h1, h2, h3, h4, fun z => h5 (hide_mem.mpr (.inr z)), h6, h7.unhide⟩
  | ok ds S1 =>
    rw [er] at hb
    intro io' H' g s vs rs
    obtain ⟨i2, rfl⟩ := io_hide g
    have gu := grow_un g
    have g2 := ex.grow.trans gu
    have hp2 : p ∉ io.l := fun z => so.fresh hp (.inl z)
    have h3 : H' p = some (.dK []) := gu.keep p _ upd_same hp2
    have pl : p ∉ i2.l := fun z => s.dis p z List.mem_cons_self
    have ph : p ∉ i2.h := by
      obtain ⟨t, e⟩ := g2.pre
      rw [e]
      exact fun z => so.fresh hp (.inr z)
    have len := dps_len h _ _ _ _ er
    have lv := rs.length
    refine ⟨h3, (ks.map (Sum.inr : Str → Key)).zip vs, zip_keys ks vs, ?_, ?_⟩
    · rw [List.length_zip, List.length_map]
      omega
    · have em : mergeK [] ((ks.map (Sum.inr : Str → Key)).zip vs) = (ks.map (Sum.inr : Str → Key)).zip vs := by
        unfold mergeK
        rw [merge_new (nodup_inr nd) fun _ _ p hp => by cases hp]
        rfl
      rw [em]
      have s3 := so_unhide (so_hid (o := .dK ((ks.map (Sum.inr : Str → Key)).zip vs)) s)
      have r3 := (rs.monoB (base_hid (o := .dK ((ks.map (Sum.inr : Str → Key)).zip vs)))).unhide
      have g3 : Grow io H i2 (upd H' p (.dK ((ks.map (Sum.inr : Str → Key)).zip vs))) := by
        refine ⟨g2.pre, fun b o hb nb nt => ?_, g2.new⟩
        rw [upd_ne fun z => by rw [z, hp] at hb; cases hb]
        exact g2.keep b o hb nb nt
      have k := hb i2 _ g3 s3
      dsimp only at k
      rw [if_pos len] at k
      exact k i2 _ Grow.refl s3 _ (.dct upd_same (fun z => z.elim pl ph) (by rw [List.length_map]; omega) r3)
/-! reading by a text -/
def lookK : List Key → List Dt → Key → Option Dt
  | k :: ks, d :: ds, x => if k = x then some d else lookK ks ds x
  | _, _, _ => none
theorem lookK_rel {io : Io} {H : Hp} {x : Key} : ∀ {ks : List Key} {ds : List Dt} {vs : List V} {d : Dt}, RelDs G io H ds vs → lookK ks ds x = some d → ∃ v, valV (ks.zip vs) x = some v ∧ RelD G io H d v
  | [], _, _, _, _, h => by cases h
  | _ :: _, _, _, _, .nil, h => by cases h
  | k :: ks, _, _, d, .cons r rs, h => by
    unfold lookK at h
    split at h
    · rename_i e
      cases h
      exact ⟨_, valV_pos (p := (k, _)) e, r⟩
    · rename_i e
      obtain ⟨v, h1, h2⟩ := lookK_rel rs h
      exact ⟨v, (valV_neg (p := (k, _)) e).trans h1, h2⟩
def dctD (S : Store) (d : Dt) : Option (List Key × List Dt) := match d with
  | .dct ks ds => some (ks, ds)
  | .ref i => match S[i]? with
    | some (.dct ks ds) => some (ks, ds)
    | _ => none
  | _ => none
theorem dctD_ok {io : Io} {H : Hp} {S : Store} {d : Dt} {v : V} {ks : List Key} {ds : List Dt} (so : StoreOk G io S H) (r : RelD G io H d v) (h : dctD S d = some (ks, ds)) :
    ∃ a vs, v = .ref a ∧ H a = some (.dK (ks.zip vs)) ∧ ks.length = ds.length ∧ RelDs G io H ds vs := by
  cases r with
  | dct h1 h2 h3 h4 =>
    cases h
    exact ⟨_, _, rfl, h1, h3, h4⟩
  | @ref a i hi =>
    unfold dctD at h
    dsimp only at h
    split at h
    · rename_i ks' ds' hS
      cases h
      have q := so.ob i _ a hS hi
      cases q with
      | dct h1 h2 h3 => exact ⟨_, _, rfl, h1, h2, h3⟩
    · cases h
  | _ => cases h
/-- o["k"] -/
def mGetS (k : Str) (mo : Env → Store → R Dt) : Env → Store → R Dt := fun en S => (mo en S).bind fun x S1 => match dctD S1 x with
  | some (ks, ds) => match lookK ks ds (.inr k) with
    | some d => .ok d S1
    | none => .stuck
  | none => .stuck
theorem de_getS {o : Expr} {mo : Env → Store → R Dt} {k : Str} {j : Nat} {cp pos : Pos} (hu : X.A.units + 64 < cLine) (ho : DE G X W o mo) (hs : NoSl (.Constant (.str k) j cp)) : DE G X W (.Subscript o (.Constant (.str k) j cp) pos) (mGetS k mo) := by
  obtain ⟨t, p, q⟩ := ho
  refine ⟨_, pe_dget (by omega) p pe_str hs, fun io H S en σ Q so re h => ?_⟩
  refine q io H S en σ _ so re (h.bind.imp (fun _ _ _ _ z => z) fun x S1 i1 H1 g1 s1 k1 v r => ?_)
  split at k1
  · rename_i ks ds hd
    obtain ⟨a, vs, rfl, h1, h2, h3⟩ := dctD_ok s1 r hd
    split at k1
    · rename_i d hl
      obtain ⟨u, h4, h5⟩ := lookK_rel h3 hl
      refine ⟨a, u, rfl, ?_, k1 i1 H1 Grow.refl s1 u h5⟩
      rw [← h4]
      exact DGet.k (k := .inr k) h1
    · exact k1.elim
  · exact k1.elim
/-- a display's parts, as one judgement -/
def DD (G : Gv) (X : Cx) (W : WX) (pos : Pos) (keys : List (Option Expr)) (es : List Expr) (ks : List Str) (ms : List (Env → Store → R Dt)) : Prop := ∃ ts, DPs G X W ks es ts ms ∧ PPs X pos keys es ts
theorem dd_nil {pos : Pos} : DD G X W pos [] [] [] [] := ⟨[], .nil, pps_nil⟩
theorem dd_cons {pos kp : Pos} {k : Str} {j : Nat} {e : Expr} {m : Env → Store → R Dt} {keys : List (Option Expr)} {es : List Expr} {ks : List Str} {ms : List (Env → Store → R Dt)} (he : DE G X W e m) (r : DD G X W pos keys es ks ms) :
    DD G X W pos (some (.Constant (.str k) j kp) :: keys) (e :: es) (k :: ks) (m :: ms) := by
  obtain ⟨te, pe, q⟩ := he
  obtain ⟨ts, d, p⟩ := r
  exact ⟨_, .cons pe q d, pps_cons pe_str pe p⟩
theorem de_dd {pos : Pos} {keys : List (Option Expr)} {es : List Expr} {ks : List Str} {ms : List (Env → Store → R Dt)} (h : DD G X W pos keys es ks ms) (hall : keys.all (·.isSome) = true := by rfl) (hl : keys.length = es.length := by rfl) (h0 : keys ≠ [] := by exact List.cons_ne_nil _ _) (h15 : keys.length ≤ 15 := by exact Nat.le_of_ble_eq_true rfl) (hk : ks.length ≤ 15 := by exact Nat.le_of_ble_eq_true rfl) (nd : ks.Nodup := by decide +kernel) :
    DE G X W (.Dict keys es pos) (mDict ks ms) := by
  obtain ⟨ts, d, p⟩ := h
  exact de_dict d p hall hl h0 h15 hk nd
end
end Dv
set_option Elab.async false
set_option linter.all false
set_option maxRecDepth 100000
set_option maxHeartbeats 4000000
set_option autoImplicit false
/-! targets with a star: a, b, *c = a tuple -/
namespace PySem.W
open PySem PySem.Spec PySem.Calls PyProof.Rows
section
variable {prog : Program} {w : World} {A : Around} {E : Value → Shared → Prop} {s : Shared} {env : Env} {elts : List Expr} {k : Nat} {pos : Pos}
theorem dv_starT {l : Addr} {items : Array Value} {n i : Nat} {Q : List Value → Shared → Prop} (hl : IsTup s.heap l items) (hh : A.handled = none) (hi : i < n) (hn : n ≤ items.size + 1) (hz : items.size ≤ 16384)
    (h : ∀ (h2 : Heap) (tk : Nat), (∀ b o, s.heap.get? b = some o → h2.get? b = some o) → Q (items.toList.take i ++ [.ref h2.objs.size] ++ (items.toList.drop i).drop (items.size + 1 - n)) { s with heap := h2.push { cls := .type "list", data := .seq ((items.toList.drop i).take (items.size + 1 - n)).toArray }, toks := tk }) :
    wpAny (model prog w) A (unpackItems (.ref l) n (some i)) Q E s := by
  have hlt : l ≠ s.heap.objs.size := by obtain ⟨o, ho, _⟩ := hl; exact Nat.ne_of_lt (Heap.lt_size ho)
  have hll : l < s.heap.objs.size := by obtain ⟨o, ho, _⟩ := hl; exact Heap.lt_size ho
  unfold unpackItems
  refine wpAny_bind ?_
  unfold notIterableAtAll
  refine wpAny_bind (wpAny_specialOf hl.typeIs slot_tuple_iter.lookup ?_)
  refine wpAny_pure ?_
  simp only [Bool.false_eq_true, if_false]
  refine wpAny_bind (wpAny_holding (iter_tuple hl ?_))
  refine wpAny_bind (wpAny_holding (draw_tuple hlt i 0 _ _ ⟨_, Heap.get?_push_size _ rfl, rfl, rfl⟩ (hl.push _) (by omega) fun h₁ hit₁ hs₁ => ?_))
  have hl₁ : IsTup h₁ l items := (hl.push _).extBut hs₁.extBut hlt
  rw [Nat.zero_add] at hit₁
  have hit₁' := hit₁
  obtain ⟨oi, hoi, _⟩ := hit₁'
  have hl₁' := hl₁
  obtain ⟨ol, hol, _⟩ := hl₁'
  rw [List.drop_zero]
  have hfl : (items.toList.take i).length = i := by rw [List.length_take, Array.length_toList]; omega
  rw [if_neg (show ¬ ((items.toList.take i).length < i) by rw [hfl]; omega)]
  refine wpAny_bind (wpAny_holding (kun_collect (s := { s with heap := h₁ }) (T := "tuple_iterator") (.inr (.inr (.inr rfl))) (Walks.tuple (A := A.in1) hh s.heap.objs.size l hlt items) (fun j u st => st.1.typeIs) (k := i) (by omega) ⟨hit₁, hl₁⟩ (Heap.lt_size hoi) (Heap.lt_size hol) (fun h₂ tk hk => ?_) (by rw [sizeLine_eq]; omega)))
  have hrl : (items.toList.drop i).length = items.size - i := by rw [List.length_drop, Array.length_toList]
  have hmid : (items.toList.drop i).length - (n - 1 - i) = items.size + 1 - n := by rw [hrl]; omega
  show wpAny _ _ (if (items.toList.drop i).length < n - 1 - i then _ else _) _ _ _
  rw [if_neg (by rw [hrl]; omega)]
  show wpAny _ _ (newList ((items.toList.drop i).take ((items.toList.drop i).length - (n - 1 - i))) >>= fun d => pure (items.toList.take i ++ [d] ++ (items.toList.drop i).drop ((items.toList.drop i).length - (n - 1 - i)))) _ _ _
  rw [hmid]
  have he : Heap.ExtBut s.heap.objs.size s.heap h₂ := fun b o hb e => hk b o hb (hs₁.extBut b o hb (Heap.get?_push_of_some _ e))
  exact wpAny_bind (wpAny_newList (s := { s with heap := h₂, toks := tk }) (wpAny_pure (h h₂ tk fun b o e => he b o (Nat.ne_of_lt (Heap.lt_size e)) e)))
theorem dv_assignT {l : Addr} {items : Array Value} {n i : Nat} {Q : Unit → Shared → Prop} (hl : IsTup s.heap l items) (hh : A.handled = none) (hlen : (assignEach elts env).length = n) (hstar : (assignEach elts env).findIdx? (·.1) = some i)
    (hi : i < n) (hn : n ≤ items.size + 1) (hz : items.size ≤ 16384)
    (h : ∀ (h2 : Heap) (tk : Nat), (∀ b o, s.heap.get? b = some o → h2.get? b = some o) → wpAny (model prog w) A (assignInOrder ((assignEach elts env).map (·.2)) (items.toList.take i ++ [.ref h2.objs.size] ++ (items.toList.drop i).drop (items.size + 1 - n))) Q E
      { s with heap := h2.push { cls := .type "list", data := .seq ((items.toList.drop i).take (items.size + 1 - n)).toArray }, toks := tk }) :
    wpAny (model prog w) A (assign (.Tuple elts k pos) env (.ref l)) Q E s := by
  rw [assign_Tuple]
  refine wpAny_bind (wpAny_standAt ?_)
  unfold unpack
  rw [hlen, hstar]
  exact wpAny_bind (wpAny_holding (dv_starT hl hh hi hn hz h))
end
end PySem.W
namespace Dv
open PySem PySem.Spec PyProof.Rows L2
def gStar (K : PySem.W.Frag) (n i : Nat) (t : TGs) : TG := fun v σ H Q => ∃ a xs, v = .ref a ∧ SqT K H a xs ∧ n ≤ xs.length + 1 ∧ xs.length ≤ 16384 ∧ ∀ p, H p = none → t (xs.take i ++ [.ref p] ++ (xs.drop i).drop (xs.length + 1 - n)) σ (upd H p (.lst ((xs.drop i).take (xs.length + 1 - n)))) Q
theorem vals_take {xs : List V} {us : List Value} (k : Nat) (r : Vals xs us) : Vals (xs.take k) (us.take k) := by
  induction r generalizing k with
  | nil => simpa using Paired.nil
  | cons a b ih =>
    cases k with
    | zero => exact .nil
    | succ k => exact .cons a (ih k)
theorem vals_drop {xs : List V} {us : List Value} (k : Nat) (r : Vals xs us) : Vals (xs.drop k) (us.drop k) := by
  induction r generalizing k with
  | nil => simpa using Paired.nil
  | cons a b ih =>
    cases k with
    | zero => exact .cons a b
    | succ k => exact ih k
theorem pg_star {X : Cx} {es : List Expr} {k : Nat} {t : TGs} {n i : Nat} {pos : Pos} (hc : X.calm = true) (h : PGs X es t) (hi : i < n)
    (hn : (assignEach es X.env).length = n := by rfl) (hst : (assignEach es X.env).findIdx? (·.1) = some i := by rfl) : PG X (.Tuple es k pos) (gStar X.K n i t) := by
  refine ⟨fun pins s σ H v u Q I r hw => ?_⟩
  obtain ⟨a, xs, e1, hq, hl, hz2, hw⟩ := hw
  subst e1
  cases r
  obtain ⟨its, rv, ht, hz⟩ := I.tuple hq
  have lv : xs.length = its.length := rv.length
  have ls : its.toArray.size = xs.length := by rw [List.size_toArray, lv]
  refine PySem.W.dv_assignT ht (I.ok.hd hc) hn hst hi (by omega) (by omega) fun h2 tk hx => ?_
  have I1 : Inv X pins σ H { s with heap := h2 } := I.kept (t' := s.toks) fun b o e => hx b o e
  have hf : H h2.objs.size = none := I1.hok.fresh (Nat.le_refl _)
  rw [ls]
  have I2 : Inv X pins σ (upd H h2.objs.size (.lst ((xs.drop i).take (xs.length + 1 - n)))) { s with heap := h2.push { cls := .type "list", data := .seq ((its.drop i).take (xs.length + 1 - n)).toArray }, toks := tk } := by
    refine I1.laid (t' := tk) (fun b u e => Heap.get?_push_of_some _ e) (Nat.le_refl _) ?_
    refine ⟨?_, _, 0, vals_take _ (vals_drop i rv), Heap.get?_push_size _ rfl⟩
    rw [List.length_take, List.length_drop, sizeLine_eq]
    omega
  refine h.run pins _ σ _ _ _ Q I2 ?_ (hw _ hf)
  have r1 : Vals [V.ref h2.objs.size] [Value.ref h2.objs.size] := .cons rfl .nil
  exact ((vals_take i rv).append r1).append (vals_drop _ (vals_drop i rv))
section
variable {G : Gv} {X : Cx}
theorem dgs_star {tg : Expr} {tgs : List Expr} {p : Pos} {m : Dt → Env → Store → Option (Env × Store)} {ms : List Dt → Env → Store → Option (Env × Store)} (h1 : DG G X tg m) (h2 : DGs G X tgs ms)
    (hs : (assignEach (.Starred tg p :: tgs) X.env).map (·.2) = assign tg X.env :: (assignEach tgs X.env).map (·.2) := by rfl) (hs2 : (assignEach (tg :: tgs) X.env).map (·.2) = assign tg X.env :: (assignEach tgs X.env).map (·.2) := by rfl) : DGs G X (.Starred tg p :: tgs) (gCons' m ms) := by
  obtain ⟨g', p', q'⟩ := dgs_cons h1 h2 hs2
  refine ⟨g', ⟨fun pins s σ H vs us Q I r h => ?_⟩, q'⟩
  have k := p'.run pins s σ H vs us Q I r h
  rw [hs2] at k
  rw [hs]
  exact k
def gSt (n i : Nat) (m : List Dt → Env → Store → Option (Env × Store)) : Dt → Env → Store → Option (Env × Store) := fun d e S => match d with
  | .tup ds => if n ≤ ds.length + 1 ∧ ds.length ≤ 10000 then m (ds.take i ++ [.lst ((ds.drop i).take (ds.length + 1 - n))] ++ (ds.drop i).drop (ds.length + 1 - n)) e S else none
  | _ => none
theorem dg_star {es : List Expr} {k n i : Nat} {pos : Pos} {m : List Dt → Env → Store → Option (Env × Store)} (h : DGs G X es m) (hi : i < n := by exact Nat.le_of_ble_eq_true rfl) (hc : X.calm = true := by rfl) (hn : (assignEach es X.env).length = n := by rfl) (hst : (assignEach es X.env).findIdx? (·.1) = some i := by rfl)
    (hK : X.K = G.K := by rfl) : DG G X (.Tuple es k pos) (gSt n i m) := by
  obtain ⟨g, p, q⟩ := h
  refine ⟨_, pg_star hc p hi hn hst, fun io H S en σ d v Q so re r h => ?_⟩
  unfold gSt at h
  split at h
  · rename_i e' S' em
    split at em
    · rename_i ds
      split at em
      · rename_i hl
        obtain ⟨a, vs, rfl, h1, h2⟩ := asT_ok r rfl
        have l := h2.length
        refine ⟨a, vs, rfl, by rw [hK]; exact h1, by rw [← l]; exact hl.1, by rw [← l]; omega, fun b hb => ?_⟩
        rw [← l]
        have ex : ExtH H (upd H b (.lst ((vs.drop i).take (ds.length + 1 - n)))) := ExtH.new hb
        have h3 := h2.mono ex.grow
        have mid : RelD G io (upd H b (.lst ((vs.drop i).take (ds.length + 1 - n)))) (.lst ((ds.drop i).take (ds.length + 1 - n))) (.ref b) := .lst upd_same (so.fresh hb) ((h3.drop i).take _)
        refine q io _ S en σ _ _ Q (so.ext ex) (re.mono ex.grow) (((h3.take i).append (.cons mid .nil)).append ((h3.drop i).drop _)) ?_
        rw [em]
        exact fun io' H' g s σ' re' => h io' H' (ex.grow.trans g) s σ' re'
      · cases em
    · cases em
  · exact h.elim
end
end Dv
set_option Elab.async false
set_option linter.all false
set_option maxRecDepth 100000
set_option maxHeartbeats 4000000
set_option autoImplicit false
namespace Dv
open PySem PySem.Spec PyProof.Rows L2
/-! what the head decides of an exception of the text -/
end Dv
set_option Elab.async false
set_option linter.all false
set_option maxRecDepth 100000
set_option maxHeartbeats 4000000
set_option autoImplicit false
/-! every second item from a place on; turned about -/
namespace Dv
/-- every second item -/
def evens {α : Type} : List α → List α
  | [] => []
  | [x] => [x]
  | x :: _ :: r => x :: evens r
open PySem PySem.Spec PyProof.Rows L2
section
end
def mEv (k : Nat) (m : Env → Store → R Dt) : Env → Store → R Dt := fun en S => (m en S).bind fun x S1 => match x with
  | .tup ds => .ok (.tup (evens (ds.drop k))) S1
  | x => match asL S1 x with
    | some ds => .ok (.lst (evens (ds.drop k))) S1
    | none => .stuck
/-- xs[::-1] -/
def mRev (m : Env → Store → R Dt) : Env → Store → R Dt := fun en S => (m en S).bind fun x S1 => match asL S1 x with
    | some ds => .ok (.lst ds.reverse) S1
    | none => .stuck
section
end
end Dv
set_option Elab.async false
set_option linter.all false
set_option maxRecDepth 100000
set_option maxHeartbeats 4000000
set_option autoImplicit false
/-! zip of two lists of like length (strict), enumerate of a list -/
namespace Dv
open PySem PySem.Spec PyProof.Rows L2
section
end
section
end
end Dv
set_option Elab.async false
set_option linter.all false
set_option maxRecDepth 100000
set_option maxHeartbeats 4000000
set_option autoImplicit false
/-! walks over zip and enumerate -/
namespace Dv
open PySem PySem.Spec PyProof.Rows L2
/-! the layer's words -/
def pairsD (ds es : List Dt) : List Dt := List.zipWith (fun x y => .tup [x, y]) ds es
def itemsL (d : Dt) : Option (List Dt) := match d with
  | .lst ds => some ds
  | .fz ds => some ds
  | _ => none
def mZs (m : Env → Store → R (List Dt)) : Env → Store → R (List Dt) := fun en S => (m en S).bind fun ds S1 => match ds with
  | [x, y] => match itemsL x, itemsL y with
    | some xs, some ys => if xs.length = ys.length then .ok (pairsD xs ys) S1 else .stuck
    | _, _ => .stuck
  | _ => .stuck
def numbered (k : Nat) : List Dt → List Dt
  | [] => []
  | d :: ds => .tup [.int k, d] :: numbered (k + 1) ds
def mEnum (m : Env → Store → R (List Dt)) : Env → Store → R (List Dt) := fun en S => (m en S).bind fun ds S1 => match ds with
  | [x] => match itemsL x with
    | some xs => .ok (numbered 0 xs) S1
    | _ => .stuck
  | _ => .stuck
section
end
end Dv
set_option Elab.async false
set_option linter.all false
set_option maxRecDepth 100000
set_option maxHeartbeats 4000000
set_option autoImplicit false
/-! keywords; defs with defaults -/
namespace Dv
open PySem PySem.Spec PyProof.Rows L2
def pickL {α : Type} (is : List Nat) (xs : List α) : List α := is.filterMap (xs[·]?)
theorem vals_pick {vs : List V} {us : List Value} (r : Vals vs us) : ∀ is : List Nat, Vals (pickL is vs) (pickL is us)
  | [] => .nil
  | i :: is => by
    have ih := vals_pick r is
    unfold pickL at ih ⊢
    rw [List.filterMap_cons, List.filterMap_cons]
    cases hv : vs[i]? with
    | none =>
      have hu : us[i]? = none := by
        rw [List.getElem?_eq_none_iff] at hv ⊢
        rw [← r.length]
        exact hv
      rw [hu]
      exact ih
    | some v =>
      obtain ⟨u, hu, ru⟩ := r.get hv
      rw [hu]
      exact .cons ru ih
theorem rel_pick {G : Gv} {io : Io} {H : Hp} {ds : List Dt} {vs : List V} (r : RelDs G io H ds vs) : ∀ is : List Nat, RelDs G io H (pickL is ds) (pickL is vs)
  | [] => .nil
  | i :: is => by
    have ih := rel_pick r is
    unfold pickL at ih ⊢
    rw [List.filterMap_cons, List.filterMap_cons]
    cases hv : ds[i]? with
    | none =>
      have hu : vs[i]? = none := by
        rw [List.getElem?_eq_none_iff] at hv ⊢
        rw [← r.length]
        exact hv
      rw [hu]
      exact ih
    | some v =>
      obtain ⟨u, hu, ru⟩ := r.get hv
      rw [hu]
      exact .cons ru ih
section
variable {K : PySem.W.Frag} {x qual : Str} {st : Stmt} {f : Addr} {fd : FuncData} {ps ks : List Str}
theorem fun_kbn (F : Fun K x qual st f fd) (n : Nat) (is : List Nat)
    (h : ∀ (kV doc pm : Value) (an : Option Addr) (cdv ct : Value) (us ws : List Value), us.length = n → ws.length = ks.length → bindArgs (PySem.W.fnOf x qual (defArgs st) (defBody st) (defScope st) .none kV doc pm an cdv ct) ⟨us, ks.zip ws⟩ = pure (ps.zip (us ++ pickL is ws))) :
    KBn K fd ps n ks (fun us ws => us ++ pickL is ws) (fun vs zs => vs ++ pickL is zs) := by
  obtain ⟨oc, od, kV, doc, pm, an, cdv, ct, osl, rfl, lk, hcd⟩ := F.ex
  exact ⟨fun s us ws _ l1 l2 => .of_eq (h kV doc pm an cdv ct us ws l1 l2), fun r1 r2 => r1.append (vals_pick r2 is)⟩
end
def DK (G : Gv) (X : Cx) (W : WX) (k : List Keyword) (m : Env → Store → R (List Dt)) : Prop := ∃ t, PK X k t ∧ SimA G W t m
section
variable {G : Gv} {X : Cx} {W : WX} {e o : Expr} {es : List Expr} {kws : List Keyword} {m mo : Env → Store → R Dt} {ms ma mk : Env → Store → R (List Dt)} {nm : Option Str} {kpos pos apos p : Pos}
theorem dk_nil : DK G X W [] mNil := ⟨_, pk_nil, fun io H S e σ Q so re h => h io H Grow.refl so [] .nil⟩
theorem dk_cons (ha : DE G X W e m) (hr : DK G X W kws ms) : DK G X W (⟨nm, e, kpos⟩ :: kws) (mCons m ms) := by
  obtain ⟨t, p, q⟩ := ha
  obtain ⟨u, p', q'⟩ := hr
  refine ⟨_, pk_cons p p', fun io H S e σ Q so re h => ?_⟩
  refine q io H S e σ _ so re (h.bind.imp (fun _ _ _ _ z => z) fun d S1 i1 H1 g1 s1 k1 v r => ?_)
  refine q' i1 H1 S1 e σ _ s1 (re.mono g1) (k1.bind.imp (fun _ _ _ _ z => z) fun ds S2 i2 H2 g2 s2 k2 vs rs => ?_)
  exact k2 i2 H2 Grow.refl s2 _ (.cons (r.mono g2) rs)
/-! o.m(.., k = v) -/
def tMethK (C : Addr) (n : Str) (na nk : Nat) (is : List Nat) (sp : Sp) (E : L2.St → XK) (ta : TE) (t tk : TA) : TE := fun σ H Q => ta σ H fun x H1 => ∃ a dx fs, x = .ref a ∧ H1 a = some (.ins C dx fs) ∧ fs.lookup n = none ∧
  t σ H1 fun vs H2 => tk σ H2 fun zs H3 => vs.length + 1 = na ∧ zs.length = nk ∧ sp ((x :: vs) ++ pickL is zs) H3 Q (E σ)
theorem run_fnNS {CX : CXT} {k n : Nat} {f : Addr} {fd : FuncData} {ps ks : List Str} {sp : Sp} {E : L2.St → XK} {g : List Value → List Value → List Value} {gV : List V → List V → List V} {pins : List (Addr × Obj)} {σ : L2.St} {H : Hp} {s : Shared} {Q : VK} {us ws : List Value} {vs zs : List V}
    (F : FnOk X.prog X.w X.K X.mg X.base CX k f fd ps sp) (hr : Room k X.A) (hb : KBn X.K fd ps n ks g gV) (hx : PassesAt CX X σ (E σ))
    (I : Inv X pins σ H s) (r : Vals vs us) (rz : Vals zs ws) (l1 : vs.length = n) (l2 : zs.length = ks.length) (h : sp (gV vs zs) H Q (E σ)) : wpAny (model X.prog X.w) X.A (call (.ref f) us (ks.zip ws)) (EP X pins σ Q) X.xe s := by
  have r2 := hb.rel r rz
  have bt := hb.to s us ws I.kIn (r.length.symm.trans l1) (rz.length.symm.trans l2)
  refine wpAny_call (codeAny_mono (F.run X.A X.stack s H ⟨us, ks.zip ws⟩ (g us ws) (gV vs zs) Q (E σ) hr I.env0 bt r2 h) fun r s' hq => ?_)
  cases r with
  | error e => exact hx pins H s e s' I hq
  | ok fl => cases fl with
    | ret u => exact I.after hq
    | next => exact False.elim hq
    | brk => exact False.elim hq
    | cont => exact False.elim hq
theorem de_methK {pl : Sem Bool} {c : String} {C fa : Addr} {n : Str} {k na : Nat} {is : List Nat} {fd : FuncData} {ps ks : List Str} {fn : Fn} {np : Nat} (ok : ClsOk G) (hC : G.cl c = some C) (ho : DE G X W o mo) (ha : DA G X W (e :: es) ma) (hkw : DK G X W kws mk) (hm : Meth G.K C n fa)
    (F : FnOk X.prog X.w X.K X.mg X.base (L2.CX X.prog X.w) k fa fd ps (spF G np fn)) (hr : Room k X.A) (hb : KBn X.K fd ps na ks (fun us ws => us ++ pickL is ws) (fun vs zs => vs ++ pickL is zs)) (tk : Takes X W)
    (hst : starEach (e :: es) X.env = (false, eval e X.env) :: starEach es X.env := by rfl) (hall : (backToKw pos (keywordEach kws X.env)).all (·.1.isSome) = true := by rfl) (hks : (backToKw pos (keywordEach kws X.env)).filterMap (·.1) = ks := by rfl)
    (hpl : ((backTo pos (starEach (e :: es) X.env)).any (·.1) || (backToKw pos (keywordEach kws X.env)).any (·.1.isNone)) = false := by rfl)
    (ht : eval (.Call (.Attribute o n apos) (e :: es) kws pos) X.env = (do
      let ov ← eval o X.env
      standAt apos.atName
      let (f, first) ← holding [ov] (getMethod ov n pl)
      callWith pos f first (backTo pos (starEach (e :: es) X.env)) (backToKw pos (keywordEach kws X.env))) := by rfl) (hK : X.K = G.K := by rfl) :
    DE G X W (.Call (.Attribute o n apos) (e :: es) kws pos) (fun en S => (mo en S).bind fun d S1 => match insD S1 d with
      | some (c', ns, _) => if c' = c ∧ n ∉ ns then (ma en S1).bind fun ds S2 => (mk en S2).bind fun zs S3 => if ds.length + 1 = na ∧ zs.length = ks.length ∧ (d :: ds ++ pickL is zs).length = np then fn (d :: ds ++ pickL is zs) S3 else .stuck else .stuck
      | none => .stuck) := by
  obtain ⟨to, po, qo⟩ := ho
  obtain ⟨t, pa, qa⟩ := ha
  obtain ⟨tk', pk, qk⟩ := hkw
  have cK : Cls X.K C := by rw [hK]; exact ok.cls c C hC
  have mK : Meth X.K C n fa := by rw [hK]; exact hm
  refine ⟨tMethK C n na ks.length is (spF G np fn) (WE W) to t tk', ⟨fun pins s σ H Q I h => ?_⟩, fun io H S en σ Q so re h => ?_⟩
  · refine PySem.W.methodCall_KW (pl := pl) (thn (po.run pins s σ H _ I h) fun u s1 ⟨x, H1, I1, rx, a, dx, fs, ex, ea, l, q⟩ => ?_) ht
    subst ex
    obtain rfl : u = Value.ref a := rx
    refine getmeth_ok I1 ea cK mK l ?_
    refine PySem.W.callWith_KW (first := [.ref a]) (h₀ := X.base) I.ok.mod.kin mK.kp hall (thn (pa.run pos pins s1 σ H1 _ I1 q) fun us s2 ⟨vs, H2, I2, r, q2⟩ => ?_) hpl hst
    refine thn (pk.run pos pins s2 σ H2 _ I2 q2) fun ws s3 ⟨zs, H3, I3, rz, l1, l2, q3⟩ => ⟨I3.kIn, ?_⟩
    rw [hks]
    exact run_fnNS (E := WE W) (us := .ref a :: us) (vs := .ref a :: vs) F hr hb (passAt tk σ) I3 (.cons rfl r) rz l1 l2 q3
  · refine qo io H S en σ _ so re (h.bind.imp (fun _ _ _ _ z => z) fun d S1 i1 H1 g1 s1 k1 v r => ?_)
    split at k1
    · rename_i c' ns ds hi
      obtain ⟨a, C', dx, vs, rfl, h1, h2, h3, h4⟩ := insD_ok s1 r hi
      split at k1
      · rename_i hc
        obtain ⟨rfl, hn⟩ := hc
        rw [hC] at h2
        cases h2
        refine ⟨a, dx, _, rfl, h1, look_none hn, ?_⟩
        refine qa i1 H1 S1 en σ _ s1 (re.mono g1) (k1.bind.imp (fun _ _ _ _ z => z) fun ws S2 i2 H2 g2 s2 k2 us rs => ?_)
        refine qk i2 H2 S2 en σ _ s2 ((re.mono g1).mono g2) (k2.bind.imp (fun _ _ _ _ z => z) fun zs S3 i3 H3 g3 s3 k3 xs rz => ?_)
        split at k3
        · rename_i hl
          refine ⟨by rw [← rs.length]; exact hl.1, by rw [← rz.length]; exact hl.2.1, i3, S3, _, s3, ?_, hl.2.2, k3⟩
          exact RelDs.append (.cons ((r.mono g2).mono g3) (rs.mono g3)) (rel_pick rz is)
        · exact k3.elim
      · exact k1.elim
    · exact k1.elim
end
@[reducible] def mMethK (c : String) (n : Str) (na nk np : Nat) (is : List Nat) (fn : Fn) (mo : Env → Store → R Dt) (ma mk : Env → Store → R (List Dt)) : Env → Store → R Dt := fun en S => (mo en S).bind fun d S1 => match insD S1 d with
      | some (c', ns, _) => if c' = c ∧ n ∉ ns then (ma en S1).bind fun ds S2 => (mk en S2).bind fun zs S3 => if ds.length + 1 = na ∧ zs.length = nk ∧ (d :: ds ++ pickL is zs).length = np then fn (d :: ds ++ pickL is zs) S3 else .stuck else .stuck
      | none => .stuck
/-! a def with defaults -/
section
end
end Dv
set_option Elab.async false
set_option linter.all false
set_option maxRecDepth 100000
set_option maxHeartbeats 4000000
set_option autoImplicit false
/-! what an expression made, by value -/
namespace Dv
open PySem PySem.Spec PyProof.Rows L2
def mFz (m : Env → Store → R Dt) : Env → Store → R Dt := fun en S => match m en S with
  | .ok d S' => fin false S.length d S'
  | .err x S' => finX false S.length x S'
  | .stuck => .stuck
section
variable {G : Gv} {X : Cx} {W : WX} {e : Expr} {m : Env → Store → R Dt}
theorem de_fz (he : DE G X W e m) : DE G X W e (mFz m) := by
  obtain ⟨t, p, q⟩ := he
  refine ⟨t, p, fun io H S en σ Q so re h => q io H S en σ Q so re ?_⟩
  unfold mFz at h
  cases em : m en S with
  | stuck => rw [em] at h; exact h
  | ok d S' =>
    rw [em] at h
    exact fun io' H' g so' v r => fin_ok so g so' r h
  | err x S' =>
    rw [em] at h
    refine fun io' H' g so' cls dx rx => finX_ok (keep := false) (E := fun cls dx H => W cls dx σ H) (Q := Q) so g so' rx ?_
    exact h
end
end Dv
set_option Elab.async false
set_option linter.all false
set_option maxRecDepth 100000
set_option maxHeartbeats 4000000
set_option autoImplicit false
/-! what is never come to; the text's classes from the head's facts -/
namespace Dv
open PySem PySem.Spec PyProof.Rows L2
def mStop : Env → Store → RS := fun _ _ => .stuck
section
variable {G : Gv} {X : Cx} {W : WX}
theorem ds_stop {s : Stmt} : DS G X W s mStop := ⟨fun _ _ _ => False, ⟨fun _ _ _ _ _ _ h => h.elim⟩, fun io H S en σ D so re h => h.elim⟩
end
structure ClsF (K : PySem.W.Frag) (C : Addr) : Prop where
  pg : PySem.W.plainGet K C Str.empty = true
  hd : PySem.W.hasDictIn K C = true
  po : PySem.W.plainOver K C = true
  sa : PySem.W.findIn K (.ref C) "__setattr__" = some (some (.builtin "object.__setattr__"))
  ha : PySem.W.findIn K (.ref C) "__class__" = some (some (.builtin "object.__class__"))
  hm : PySem.W.mroIn K C (.type "object") = some true
theorem look_mem {L : CL} : ∀ {c : String} {C : Addr}, L.lookup c = some C → (c, C) ∈ L := by
  induction L with
  | nil => intro c C h; cases h
  | cons p L ih =>
    intro c C h
    obtain ⟨d, D⟩ := p
    rw [List.lookup_cons] at h
    split at h
    · rename_i e
      cases h
      rw [eq_of_beq e]
      exact List.mem_cons_self
    · exact List.mem_cons_of_mem _ (ih h)
theorem cls_of {K : PySem.W.Frag} {L : CL} {xl : String → Option Addr} {T : List (Addr × Str)} (h : clsB K L = true) (hF : ∀ p ∈ L, ClsF K p.2) (hn : PySem.W.specialIn K (.builtin "object.__class__") "__get__" = some (some (.builtin "getset_descriptor.__get__")))
    (htk : PySem.W.takesIn K (.builtin "object.__class__") = some true) : ClsOk ⟨K, fun c => L.lookup c, xl, T⟩ := by
  have al : ∀ p ∈ L, (tys.all (fun t => PySem.W.kitOne K (.type t) (.ref p.2) == some false) = true ∧ clss.all (fun t => PySem.W.kitOne K (.ref p.2) (.type t) == some false) = true) ∧ ∀ q ∈ L, PySem.W.kitOne K (.ref p.2) (.ref q.2) = some (p.1 == q.1) := fun p hp => by
    have z := List.all_eq_true.mp h p hp
    rw [Bool.and_eq_true, Bool.and_eq_true] at z
    exact ⟨z.1, fun q hq => eq_of_beq (List.all_eq_true.mp z.2 q hq)⟩
  refine ⟨fun c C e => ?_, fun c C e => (hF _ (look_mem e)).ha, .inl hn, .inl htk, fun c C e => (hF _ (look_mem e)).hm, fun c C e t ht => ?_, fun c C e t ht => ?_, fun c C d D e1 e2 => ?_⟩
  · have f := hF _ (look_mem e)
    exact ⟨f.pg, f.hd, f.po, f.sa⟩
  · exact eq_of_beq (List.all_eq_true.mp (al _ (look_mem e)).1.1 t ht)
  · exact eq_of_beq (List.all_eq_true.mp (al _ (look_mem e)).1.2 t ht)
  · exact (al _ (look_mem e1)).2 _ (look_mem e2)
end Dv
set_option Elab.async false
set_option linter.all false
set_option maxRecDepth 100000
set_option maxHeartbeats 4000000
set_option autoImplicit false
/-! comprehensions with two clauses -/
namespace Dv
open PySem PySem.Spec PyProof.Rows L2
theorem Base.trans {io i1 i2 : Io} {H H1 H2 : Hp} (a : Base io H i1 H1) (b : Base i1 H1 i2 H2) : Base io H i2 H2 :=
  ⟨fun i x h => b.at_ i x (a.at_ i x h), fun x o h n nt => let ⟨h1, n1⟩ := a.keep x o h n nt; b.keep x o h1 n1 nt⟩
section
variable {G : Gv}
/-- for tg in items if t for tg1 in .. if t1 -/
def cLoop2 (tg : Dt → Env → Option Env) (t : Env → Store → R Bool) (mi1 : Env → Store → R (List Dt)) (own1 : List Nat) (tg1 : Dt → Env → Option Env) (t1 : Env → Store → R Bool) (m : Env → Store → R Dt) (en : Env) : List Dt → List Dt → Store → R (List Dt)
  | [], acc, S => .ok acc S
  | d :: ds, acc, S => match tg d en with
    | none => .stuck
    | some e1 => (t e1 S).nx.bind fun b S1 => if b = true then (mi1 e1 S1).nx.bind fun its S2 => (cLoop tg1 t1 m (wipeE e1 own1) its acc S2).bind fun acc2 S3 => cLoop2 tg t mi1 own1 tg1 t1 m en ds acc2 S3 else cLoop2 tg t mi1 own1 tg1 t1 m en ds acc S1
def mLc2 (sl : List Nat) (mi : Env → Store → R (List Dt)) (tg : Dt → Env → Option Env) (t : Env → Store → R Bool) (mi1 : Env → Store → R (List Dt)) (sl1 : List Nat) (tg1 : Dt → Env → Option Env) (t1 : Env → Store → R Bool) (m : Env → Store → R Dt) : Env → Store → R Dt :=
  fun en S => (mi en S).bind fun items S1 => (cLoop2 tg t mi1 sl1 tg1 t1 m (wipeE en sl) items [] S1).bind fun ds S2 => .ok (.lst ds) S2
variable {X : Cx} {W : WX} {elt tg iter tg1 iter1 : Expr} {ifs ifs1 : List Expr} {scope : Scope} {sl sl1 : List Nat} {pos : Pos} {mi mi1 : Env → Store → R (List Dt)} {mg mg1 : Dt → Env → Option Env} {mt mt1 : Env → Store → R Bool} {m : Env → Store → R Dt}
end
end Dv
set_option Elab.async false
set_option linter.all false
set_option maxRecDepth 100000
set_option maxHeartbeats 4000000
set_option autoImplicit false
/-! == and != of instances by their own __eq__; get of a dict; sum -/
namespace Dv
open PySem PySem.Spec PyProof.Rows L2
section
end
section
variable {G : Gv} {X : Cx} {W : WX} {C f : Addr} {c : String} {k : Nat} {fd : FuncData} {ps : List Str} {fn : Fn}
/-! d.get(k, x) -/
def hasK (x : Key) : List Key → Bool
  | [] => false
  | k :: ks => if k = x then true else hasK x ks
theorem hasK_no {x : Key} : ∀ {ks : List Key}, ¬ hasK x ks = true → x ∉ ks
  | [], _ => by simp
  | k :: ks, h => by
    unfold hasK at h
    split at h
    · exact absurd rfl h
    · rename_i e
      intro z
      rcases List.mem_cons.mp z with z | z
      · exact e z.symm
      · exact hasK_no h z
/-! sum of a list of numbers -/
end
end Dv
set_option Elab.async false
set_option linter.all false
set_option maxRecDepth 100000
set_option maxHeartbeats 4000000
set_option autoImplicit false
/-! two statements, what they made by value behind them -/
namespace Dv
open PySem PySem.Spec PyProof.Rows L2
def frzE (n : Nat) (S : Store) : Env → Option Env := mapO fun o => match o with
  | none => some none
  | some d => (frz n S deepF d).map some
theorem mapO_get {α β : Type} {f : α → Option β} : ∀ {ds : List α} {es : List β} {i : Nat} {e : β}, mapO f ds = some es → es[i]? = some e → ∃ d, ds[i]? = some d ∧ f d = some e
  | [], es, i, e, h, q => by
    cases h
    simp at q
  | d :: ds, es, i, e, h, q => by
    unfold mapO at h
    split at h
    · rename_i b hb
      cases em : mapO f ds with
      | none => rw [em] at h; cases h
      | some l =>
        rw [em] at h
        cases h
        cases i with
        | zero =>
          simp at q
          subst q
          exact ⟨d, rfl, hb⟩
        | succ i =>
          obtain ⟨x, h1, h2⟩ := mapO_get (i := i) em (by simpa using q)
          exact ⟨x, by simpa using h1, h2⟩
    · cases h
section
variable {G : Gv} {X : Cx} {W : WX} {s1 s2 : Stmt} {sts : List Stmt} {m1 m2 k : Env → Store → RS}
theorem frzE_rel {io : Io} {H : Hp} {S : Store} {n : Nat} {e e' : Env} {σ : L2.St} (so : StoreOk G io S H) (re : RelEnv G io H e σ) (h : frzE n S e = some e') : RelEnv G (io.take n) H e' σ := by
  refine ⟨by rw [← mapO_len h]; exact re.len, fun i d hi => ?_⟩
  obtain ⟨o, h1, h2⟩ := mapO_get h hi
  cases o with
  | none => cases h2
  | some x =>
    cases ef : frz n S deepF x with
    | none => simp [ef] at h2
    | some y =>
      simp [ef] at h2
      subst h2
      obtain ⟨v, h3, h4⟩ := re.at_ i x h1
      exact ⟨v, h3, frz_rel so deepF ef h4⟩
end
end Dv
set_option Elab.async false
set_option linter.all false
set_option maxRecDepth 100000
set_option maxHeartbeats 4000000
set_option autoImplicit false
/-! more words -/
namespace Dv
open PySem L2
section
variable {en : Env} {S : Store} {Q : Dt → Store → Prop} {QA : List Dt → Store → Prop} {QB : Bool → Store → Prop} {X : Ex → Store → Prop} {QS : Fl → Env → Store → Prop} {XS : Ex → Env → Store → Prop} {ma mb mc me mo : Env → Store → R Dt} {ta tb : Env → Store → R Bool} {ms mk : Env → Store → R (List Dt)} {ba bb : Env → Store → RS}
theorem v_fld {cs : List String} {f : Str} (h : Pe (me en S) (fun d S1 => ∃ c ns ds x, insD S1 d = some (c, ns, ds) ∧ c ∈ cs ∧ (ns.zip ds).lookup f = some x ∧ Q x S1) X) : Pe (mFld cs f me en S) Q X := by
  refine Pe.bind (h.imp (fun d S1 ⟨c, ns, ds, x, e, hc, hl, k⟩ => ?_) fun _ _ z => z)
  rw [e]
  dsimp only
  rw [if_pos hc, hl]
  exact k
theorem v_meth {c : String} {n : Str} {np : Nat} {fn : Fn} (h : Pe (mo en S) (fun d S1 => (∃ ns ds, insD S1 d = some (c, ns, ds) ∧ n ∉ ns) ∧ Pe (ms en S1) (fun ds S2 => ds.length + 1 = np ∧ Pe (fn (d :: ds) S2) Q X) X) X) : Pe (mMeth c n np fn mo ms en S) Q X := by
  refine Pe.bind (h.imp (fun d S1 ⟨⟨ns, ds, e, hn⟩, k⟩ => ?_) fun _ _ z => z)
  rw [e]
  dsimp only
  rw [if_pos ⟨rfl, hn⟩]
  refine Pe.bind (k.imp (fun ds S2 ⟨hl, k2⟩ => ?_) fun _ _ z => z)
  rw [if_pos hl]
  exact k2
theorem v_methK {c : String} {n : Str} {na nk np : Nat} {is : List Nat} {fn : Fn} (h : Pe (mo en S) (fun d S1 => (∃ ns ds, insD S1 d = some (c, ns, ds) ∧ n ∉ ns) ∧ Pe (ms en S1) (fun ds S2 => Pe (mk en S2) (fun zs S3 => (ds.length + 1 = na ∧ zs.length = nk ∧ (d :: ds ++ pickL is zs).length = np) ∧ Pe (fn (d :: ds ++ pickL is zs) S3) Q X) X) X) X) :
    Pe (mMethK c n na nk np is fn mo ms mk en S) Q X := by
  refine Pe.bind (h.imp (fun d S1 ⟨⟨ns, ds, e, hn⟩, k⟩ => ?_) fun _ _ z => z)
  rw [e]
  dsimp only
  rw [if_pos ⟨rfl, hn⟩]
  refine Pe.bind (k.imp (fun ds S2 k2 => Pe.bind (k2.imp (fun zs S3 ⟨hl, k3⟩ => ?_) fun _ _ z => z)) fun _ _ z => z)
  rw [if_pos hl]
  exact k3
theorem v_make {c : String} {np : Nat} {fn : Fn} (h : Pe (ms en S) (fun ds S1 => ds.length + 1 = np ∧ Pe (fn (.ref S1.length :: ds) (S1 ++ [.ins c [] []])) (fun r S2 => r = .non ∧ Q (.ref S1.length) S2) X) X) : Pe (mMake c np fn ms en S) Q X := by
  refine Pe.bind (h.imp (fun ds S1 ⟨hl, k⟩ => ?_) fun _ _ z => z)
  rw [if_pos hl]
  refine Pe.bind (k.imp (fun r S2 ⟨e, k2⟩ => ?_) fun _ _ z => z)
  subst e
  exact k2
theorem v_fz (h : Pe (me en S) (fun d S1 => Pe (fin false S.length d S1) Q X) (fun x S1 => Pe (finX false S.length x S1) Q X)) : Pe (mFz me en S) Q X := by
  unfold mFz
  cases e : me en S with
  | ok d S1 => rw [e] at h; exact h
  | err x S1 => rw [e] at h; exact h
  | stuck => rw [e] at h; exact h
theorem v_fldS {cs : List String} {f : Str} (h : Pe (me en S) (fun d S1 => Pe (mo en S1) (fun x S2 => ∃ S3, setFld cs f S2 x d = some S3 ∧ QS .nx en S3) (fun x S => XS x en S)) (fun x S => XS x en S)) : Ps (mFldS cs f mo me en S) QS XS := by
  refine Pe.toS (h.imp (fun d S1 k => Pe.toS (k.imp (fun x S2 ⟨S3, e, q⟩ => ?_) fun _ _ z => z)) fun _ _ z => z)
  rw [e]
  exact q
theorem v_getS {k : Str} (h : Pe (mo en S) (fun x S1 => ∃ ks ds d, dctD S1 x = some (ks, ds) ∧ lookK ks ds (.inr k) = some d ∧ Q d S1) X) : Pe (mGetS k mo en S) Q X := by
  refine Pe.bind (h.imp (fun x S1 ⟨ks, ds, d, e1, e2, q⟩ => ?_) fun _ _ z => z)
  rw [e1]
  dsimp only
  rw [e2]
  exact q
theorem v_ev {k : Nat} (h : Pe (me en S) (fun x S1 => (∃ ds, x = .tup ds ∧ Q (.tup (evens (ds.drop k))) S1) ∨ (∃ ds, (∀ t, x ≠ .tup t) ∧ asL S1 x = some ds ∧ Q (.lst (evens (ds.drop k))) S1)) X) : Pe (mEv k me en S) Q X := by
  refine Pe.bind (h.imp (fun x S1 z => ?_) fun _ _ z => z)
  rcases z with ⟨ds, rfl, q⟩ | ⟨ds, hn, e, q⟩
  · exact q
  · split
    · rename_i t
      exact absurd rfl (hn t)
    · rw [e]
      exact q
theorem v_rev (h : Pe (me en S) (fun x S1 => ∃ ds, asL S1 x = some ds ∧ Q (.lst ds.reverse) S1) X) : Pe (mRev me en S) Q X := by
  refine Pe.bind (h.imp (fun x S1 ⟨ds, e, q⟩ => ?_) fun _ _ z => z)
  rw [e]
  exact q
theorem v_zs (h : Pe (ms en S) (fun ds S1 => ∃ x y xs ys, ds = [x, y] ∧ itemsL x = some xs ∧ itemsL y = some ys ∧ xs.length = ys.length ∧ QA (pairsD xs ys) S1) X) : Pe (mZs ms en S) QA X := by
  refine Pe.bind (h.imp (fun ds S1 ⟨x, y, xs, ys, e, e1, e2, hl, q⟩ => ?_) fun _ _ z => z)
  subst e
  dsimp only
  rw [e1, e2]
  dsimp only
  rw [if_pos hl]
  exact q
theorem v_enum (h : Pe (ms en S) (fun ds S1 => ∃ x xs, ds = [x] ∧ itemsL x = some xs ∧ QA (numbered 0 xs) S1) X) : Pe (mEnum ms en S) QA X := by
  refine Pe.bind (h.imp (fun ds S1 ⟨x, xs, e, e1, q⟩ => ?_) fun _ _ z => z)
  subst e
  dsimp only
  rw [e1]
  exact q
theorem v_lc2 {sl sl1 : List Nat} {mi mi1 : Env → Store → R (List Dt)} {g g1 : Dt → Env → Option Env} (h : Pe (mi en S) (fun items S1 => Pe (cLoop2 g ta mi1 sl1 g1 tb me (wipeE en sl) items [] S1) (fun ds S2 => Q (.lst ds) S2) X) X) : Pe (mLc2 sl mi g ta mi1 sl1 g1 tb me en S) Q X :=
  Pe.bind (h.imp (fun _ _ k => Pe.bind (k.imp (fun _ _ q => q) fun _ _ z => z)) fun _ _ z => z)
theorem v_app {k : Nat} {ds : List Dt} {d : Dt} (hS : S[k]? = some (.lst ds)) (hl : ds.length < 1000000) (q : Q .non (S.set k (.lst (ds ++ [d])))) : Pe (mApp S (.ref k) d) Q X := by
  unfold mApp
  simp only [hS]
  first
  | (rw [if_pos hl]; exact q)
  | exact q
theorem v_app1K {k : Nat} {ds : List Dt} {me : Env → Store → R Dt} (ho : mo en S = .ok (.ref k) S) (hS : S[k]? = some (.lst ds)) (h : Pe (me en S) (fun d S1 => ∃ ds1, S1[k]? = some (.lst ds1) ∧ ds1.length < 1000000 ∧ Q .non (S1.set k (.lst (ds1 ++ [d])))) X) : Pe (mApp1 mo me en S) Q X := by
  unfold mApp1
  rw [ho]
  show Pe (if isLstR S (.ref k) = true then _ else _) Q X
  rw [if_pos (by unfold isLstR; simp only [hS])]
  refine Pe.bind (h.imp (fun d S1 ⟨ds1, h1, h2, q⟩ => v_app h1 h2 q) fun _ _ z => z)
theorem v_itX (h : Pe (me en S) (fun d S1 => ∃ ds, itemsD d = some ds ∧ QA ds S1) X) : Pe (mIt me en S) QA X := by
  refine Pe.bind (h.imp (fun d S1 ⟨b, e, k⟩ => ?_) fun _ _ z => z)
  rw [e]
  exact k
/-! the text's own classes, the laws' own webs -/
abbrev wF : List Str := ["places", "roads"]
abbrev kF : List Str := ["over", "line", "spots"]
abbrev mF : List Key := [.inr "yards", .inr "roads"]
abbrev webV (a b : Dt) : Dt := .ins "Web" wF [a, b]
abbrev modV (a b : Dt) : Dt := .dct mF [a, b]
theorem w_places (a b : Dt) : (wF.zip [a, b]).lookup ("places" : Str) = some a := rfl
theorem w_roads (a b : Dt) : (wF.zip [a, b]).lookup ("roads" : Str) = some b := by
  have e : (("roads" : Str) == ("places" : Str)) = false := by decide +kernel
  show List.lookup ("roads" : Str) [(("places" : Str), a), (("roads" : Str), b)] = some b
  rw [List.lookup_cons, e, List.lookup_cons, beq_self_eq_true]
theorem k_over (a b c : Dt) : (kF.zip [a, b, c]).lookup ("over" : Str) = some a := rfl
theorem k_line (a b c : Dt) : (kF.zip [a, b, c]).lookup ("line" : Str) = some b := by
  have e : (("line" : Str) == ("over" : Str)) = false := by decide +kernel
  show List.lookup ("line" : Str) [(("over" : Str), a), (("line" : Str), b), (("spots" : Str), c)] = some b
  rw [List.lookup_cons, e, List.lookup_cons, beq_self_eq_true]
theorem k_spots (a b c : Dt) : (kF.zip [a, b, c]).lookup ("spots" : Str) = some c := by
  have e : (("spots" : Str) == ("over" : Str)) = false := by decide +kernel
  have e2 : (("spots" : Str) == ("line" : Str)) = false := by decide +kernel
  show List.lookup ("spots" : Str) [(("over" : Str), a), (("line" : Str), b), (("spots" : Str), c)] = some c
  rw [List.lookup_cons, e, List.lookup_cons, e2, List.lookup_cons, beq_self_eq_true]
theorem m_yards (a b : Dt) : lookK mF [a, b] (.inr "yards") = some a := by
  unfold lookK
  rw [if_pos rfl]
theorem m_roads (a b : Dt) : lookK mF [a, b] (.inr "roads") = some b := by
  unfold lookK
  rw [if_neg (by decide +kernel)]
  unfold lookK
  rw [if_pos rfl]
theorem v_places (h : Pe (me en S) (fun d S1 => ∃ a b, insD S1 d = some ("Web", wF, [a, b]) ∧ Q a S1) X) : Pe (mFld ["Web"] "places" me en S) Q X :=
  v_fld (h.imp (fun d S1 ⟨a, b, e, q⟩ => ⟨_, _, _, _, e, List.mem_singleton.mpr rfl, w_places a b, q⟩) fun _ _ z => z)
theorem v_roads (h : Pe (me en S) (fun d S1 => ∃ a b, insD S1 d = some ("Web", wF, [a, b]) ∧ Q b S1) X) : Pe (mFld ["Web"] "roads" me en S) Q X :=
  v_fld (h.imp (fun d S1 ⟨a, b, e, q⟩ => ⟨_, _, _, _, e, List.mem_singleton.mpr rfl, w_roads a b, q⟩) fun _ _ z => z)
theorem v_over (h : Pe (me en S) (fun d S1 => ∃ a b c, insD S1 d = some ("Walk", kF, [a, b, c]) ∧ Q a S1) X) : Pe (mFld ["Walk"] "over" me en S) Q X :=
  v_fld (h.imp (fun d S1 ⟨a, b, c, e, q⟩ => ⟨_, _, _, _, e, List.mem_singleton.mpr rfl, k_over a b c, q⟩) fun _ _ z => z)
theorem v_line (h : Pe (me en S) (fun d S1 => ∃ a b c, insD S1 d = some ("Walk", kF, [a, b, c]) ∧ Q b S1) X) : Pe (mFld ["Walk"] "line" me en S) Q X :=
  v_fld (h.imp (fun d S1 ⟨a, b, c, e, q⟩ => ⟨_, _, _, _, e, List.mem_singleton.mpr rfl, k_line a b c, q⟩) fun _ _ z => z)
theorem v_spots (h : Pe (me en S) (fun d S1 => ∃ a b c, insD S1 d = some ("Walk", kF, [a, b, c]) ∧ Q c S1) X) : Pe (mFld ["Walk"] "spots" me en S) Q X :=
  v_fld (h.imp (fun d S1 ⟨a, b, c, e, q⟩ => ⟨_, _, _, _, e, List.mem_singleton.mpr rfl, k_spots a b c, q⟩) fun _ _ z => z)
theorem v_myards (h : Pe (mo en S) (fun x S1 => ∃ a b, dctD S1 x = some (mF, [a, b]) ∧ Q a S1) X) : Pe (mGetS "yards" mo en S) Q X :=
  v_getS (h.imp (fun x S1 ⟨a, b, e, q⟩ => ⟨_, _, _, e, m_yards a b, q⟩) fun _ _ z => z)
theorem v_mroads (h : Pe (mo en S) (fun x S1 => ∃ a b, dctD S1 x = some (mF, [a, b]) ∧ Q b S1) X) : Pe (mGetS "roads" mo en S) Q X :=
  v_getS (h.imp (fun x S1 ⟨a, b, e, q⟩ => ⟨_, _, _, e, m_roads a b, q⟩) fun _ _ z => z)
/-- a method of the two classes -/
theorem v_mW {n : Str} {np : Nat} {fn : Fn} (hn : n ∉ wF) (h : Pe (mo en S) (fun d S1 => (∃ a b, insD S1 d = some ("Web", wF, [a, b])) ∧ Pe (ms en S1) (fun ds S2 => ds.length + 1 = np ∧ Pe (fn (d :: ds) S2) Q X) X) X) : Pe (mMeth "Web" n np fn mo ms en S) Q X :=
  v_meth (h.imp (fun d S1 ⟨⟨a, b, e⟩, q⟩ => ⟨⟨_, _, e, hn⟩, q⟩) fun _ _ z => z)
theorem v_mK {n : Str} {np : Nat} {fn : Fn} (hn : n ∉ kF) (h : Pe (mo en S) (fun d S1 => (∃ a b c, insD S1 d = some ("Walk", kF, [a, b, c])) ∧ Pe (ms en S1) (fun ds S2 => ds.length + 1 = np ∧ Pe (fn (d :: ds) S2) Q X) X) X) : Pe (mMeth "Walk" n np fn mo ms en S) Q X :=
  v_meth (h.imp (fun d S1 ⟨⟨a, b, c, e⟩, q⟩ => ⟨⟨_, _, e, hn⟩, q⟩) fun _ _ z => z)
end
end Dv
set_option Elab.async false
set_option linter.all false
set_option maxRecDepth 100000
set_option maxHeartbeats 4000000
set_option autoImplicit false
/-! the head by one run: facts told by tests of our own -/
namespace Dv
open PySem PySem.Spec PyProof.Rows L2
section
variable {fs : List Test} {fn : List He.DefD} {K : PySem.W.Frag}
theorem SaysL.fact (c : SaysL fs fn K) (i : Nat) {f : Test} (h : fs[i]? = some f) : f K = true := by
  have c1 := (He.ba (show ((fs.all fun f => f K) && fn.all fun d => d.ok K) = true from congrArg (fun z : He.AlD => z.1) c)).1
  exact List.all_eq_true.mp c1 f (List.mem_of_getElem? h)
theorem SaysL.def_ (c : SaysL fs fn K) (i : Nat) {d : He.DefD} (h : fn[i]? = some d) : ∃ fd, FunD K d.name d.qual d.params d.body d.scope (d.dvs K) (d.kws K) (He.fAd K d.at_) fd := by
  have c2 := (He.ba (show ((fs.all fun f => f K) && fn.all fun d => d.ok K) = true from congrArg (fun z : He.AlD => z.1) c)).2
  have e : fn.map (fun d => He.fnW K d.at_) = fn.map He.DefD.val := congrArg (fun z : He.AlD => z.2) c
  have e2 : (fn.map fun d => He.fnW K d.at_)[i]? = (fn.map He.DefD.val)[i]? := by rw [e]
  rw [List.getElem?_map, List.getElem?_map, h] at e2
  exact He.DefD.funD (Option.some.inj e2) (List.all_eq_true.mp c2 d (List.mem_of_getElem? h))
end
theorem funOfD {K : PySem.W.Frag} {x qual : Str} {st : Stmt} {f : Addr} {fd : FuncData} (F : FunD K x qual (defArgs st) (defBody st) (defScope st) [] [] f fd) : Fun K x qual st f fd := by
  obtain ⟨c1, c2, v, k1, d1, p1, n1, e1, t1, sl, hf, hl, hc, hd, _⟩ := F.ex
  have hv : v = .none := by
    rcases hd with h | h
    · exact h.2
    · exact absurd rfl h.1
  subst hv
  exact ⟨⟨c1, c2, k1, d1, p1, n1, e1, t1, sl, hf, hl, hc⟩, F.kp⟩
end Dv
set_option Elab.async false
set_option linter.all false
set_option maxRecDepth 100000
set_option maxHeartbeats 4000000
set_option autoImplicit false
/-! range with a step -/
namespace Dv
open PySem PySem.Spec PyProof.Rows L2
def rangeC (lo c : Int) (n : Nat) : List Dt := (List.range n).map fun (k : Nat) => Dt.int (lo + (k : Int) * c)
def rngN (i j c : Int) : Nat := (Builtin.Range.rangeSize i j c).toNat
def rngC (i j c : Int) : Bool := decide (c ≠ 0) && (decide (c.natAbs < 1073741824) && (Builtin.Range.small i j c && decide (Builtin.Range.rangeSize i j c = (rngN i j c : Int))))
def mRng3 (m : Env → Store → R (List Dt)) : Env → Store → R (List Dt) := fun en S => (m en S).bind fun ds S1 => match ds with
  | [.int i, .int j, .int c] => if rngC i j c = true then .ok (rangeC i c (rngN i j c)) S1 else .stuck
  | _ => .stuck
section
variable {G : Gv} {X : Cx} {W : WX} {tg a b c : Expr} {ma : Env → Store → R (List Dt)} {p pos : Pos}
theorem v_rng3 {ms : Env → Store → R (List Dt)} {en : Env} {S : Store} {QA : List Dt → Store → Prop} {XE : Ex → Store → Prop} (h : Pe (ms en S) (fun ds S1 => ∃ i j k, ds = [.int i, .int j, .int k] ∧ rngC i j k = true ∧ QA (rangeC i k (rngN i j k)) S1) XE) : Pe (mRng3 ms en S) QA XE := by
  refine Pe.bind (h.imp (fun d S1 ⟨b, b', b'', e, r, k⟩ => ?_) fun _ _ z => z)
  subst e
  dsimp only
  rw [if_pos r]
  exact k
end
end Dv
set_option Elab.async false
set_option linter.all false
set_option maxRecDepth 100000
set_option maxHeartbeats 4000000
set_option autoImplicit false
/-! a try whose body lets nothing out; C(..) with defaults left out -/
namespace Dv
open PySem PySem.Spec PyProof.Rows L2
/-- try: the body, that lets nothing out -/
def mTryN (m : Env → Store → RS) : Env → Store → RS := fun en S => match m en S with
  | .ok f e S' => .ok f e S'
  | _ => .stuck
section
variable {G : Gv} {X : Cx} {W : WX}
theorem v_tryN {m : Env → Store → RS} {en : Env} {S : Store} {Q : Fl → Env → Store → Prop} {XE : Ex → Env → Store → Prop} (h : Ps (m en S) Q fun _ _ _ => False) : Ps (mTryN m en S) Q XE := by
  unfold mTryN
  cases e : m en S with
  | ok f e' S' => rw [e] at h; exact h
  | err x e' S' => rw [e] at h; exact h.elim
  | stuck => rw [e] at h; exact h.elim
end
/-! ### C(..), the last ones by default -/
def mMakeV (c : String) (np : Nat) (fn : Fn) (dfs : List Dt) (ma : Env → Store → R (List Dt)) : Env → Store → R Dt := fun en S => (ma en S).bind fun ds S1 => if (ds ++ dfs).length + 1 = np then (fn (.ref S1.length :: (ds ++ dfs)) (S1 ++ [.ins c [] []])).bind fun r S2 => match r with
  | .non => .ok (.ref S1.length) S2
  | _ => .stuck else .stuck
section
end
/-! words -/
section
variable {en : Env} {S : Store} {Q : Dt → Store → Prop} {XE : Ex → Store → Prop} {ms : Env → Store → R (List Dt)}
theorem v_makeV {c : String} {np : Nat} {fn : Fn} {dfs : List Dt} (h : Pe (ms en S) (fun ds S1 => (ds ++ dfs).length + 1 = np ∧ Pe (fn (.ref S1.length :: (ds ++ dfs)) (S1 ++ [.ins c [] []])) (fun r S2 => r = .non ∧ Q (.ref S1.length) S2) XE) XE) : Pe (mMakeV c np fn dfs ms en S) Q XE := by
  refine Pe.bind (h.imp (fun ds S1 ⟨hl, k⟩ => ?_) fun _ _ z => z)
  rw [if_pos hl]
  refine Pe.bind (k.imp (fun r S2 ⟨e, k2⟩ => ?_) fun _ _ z => z)
  subst e
  exact k2
end
end Dv
set_option Elab.async false
set_option linter.all false
set_option maxRecDepth 100000
set_option maxHeartbeats 4000000
set_option autoImplicit false
/-! len of an instance by its own __len__ -/
namespace Dv
open PySem PySem.Spec PyProof.Rows L2
structure LenC (K : PySem.W.Frag) (C f : Addr) : Prop where
  ln : PySem.W.findIn K (.ref C) "__len__" = some (some (.ref f))
  fn : PySem.W.isFn K (.ref f) = true
section
variable {K : PySem.W.Frag} {prog : Program} {w : World} {A : Around} {E : Value → Shared → Prop} {s : Shared}
theorem cspec_fn {M : Model} {Q : Option Value → Shared → Prop} {x C f : Addr} {ox : Obj} {od : Option Obj} {name : Str} (X : K.In s.heap) (I : PySem.W.InstAt s.heap x ox C od) (hs : PySem.W.findIn K (.ref C) name = some (some (.ref f))) (hf : PySem.W.isFn K (.ref f) = true)
    (h : wpAny M A (call (.ref f) [.ref x]) (fun v => Q (some v)) E s) : wpAny M A (callSpecial? (.ref x) name) Q E s := by
  have sp : PySem.W.Looks M s.heap (specialOf (.ref x) name) (some (.ref f)) := I.type.andThen (PySem.W.looks_findIn X hs)
  simp only [callSpecial?]
  refine wpAny_bind (sp.here ?_)
  refine wpAny_holding (wpAny_bind ((PySem.W.bind_fn X _ (beq_iff_eq.mp hf)).here ?_))
  exact wpAny_bind (wpAny_mono h (fun v s' z => wpAny_pure z) fun _ _ z => z)
theorem len_own {Q : Value → Shared → Prop} {x C f : Addr} {ox : Obj} {od : Option Obj} (X : K.In s.heap) (I : PySem.W.InstAt s.heap x ox C od) (L : LenC K C f)
    (h : wpAny (model prog w) A.in1 (call (.ref f) [.ref x]) (fun v s' => ∃ n t, v = .int n t ∧ 0 ≤ n ∧ n < 2 ^ 63 ∧ Q (.int n s'.toks) { s' with toks := s'.toks + 1 }) E s) : wpAny (model prog w) A (call (.builtin "len") [.ref x]) Q E s := by
  refine Calls.call_function_entry (by decide +kernel) (by decide +kernel) (by rfl) (by first | rfl | trivial | decide) ?_
  unfold Builtin.«len»
  refine wpAny_bind (m := oneArg "len" _) (wpAny_pure ?_)
  refine wpAny_bind (m := callSpecial? (.ref x) (PySem.Str.ofString "__len__")) (cspec_fn X I L.ln L.fn (wpAny_mono h (fun v s' z => ?_) fun _ _ z => z))
  obtain ⟨n, t, rfl, h0, h1, q⟩ := z
  refine wpAny_bind (wpAny_holding (wpAny_pure ?_))
  refine wpAny_bind (wpAny_letGo ?_)
  show wpAny _ _ (if n < 0 then _ else _) _ _ _
  rw [if_neg (by omega)]
  show wpAny _ _ (if n ≥ 2 ^ 63 then _ else _) _ _ _
  rw [if_neg (by omega)]
  exact wpAny_bind (wpAny_mkInt (wpAny_pure ⟨_, rfl, q⟩))
end
def mLenI (c : String) (fn : Fn) : List Dt → Store → R Dt := fun ds S => match ds with
  | [x] => match insD S x with
    | some (c1, _, _) => if c1 = c then (match fn [x] S with
      | .ok (.int n) S1 => if 0 ≤ n ∧ n < 2 ^ 63 then .ok (.int n) S1 else .stuck
      | _ => .stuck) else .stuck
    | none => .stuck
  | _ => .stuck
section
variable {G : Gv} {X : Cx} {W : WX} {C f : Addr} {c : String} {k : Nat} {fd : FuncData} {ps : List Str} {fn : Fn}
theorem run_one {A : Around} {pins : List (Addr × Obj)} {s : Shared} {σ : L2.St} {H : Hp} {sp : Sp} {a : Addr} {Q : VK} (sb : Sub X k A) (F : FnOk X.prog X.w X.K X.mg X.base (L2.CX X.prog X.w) k f fd ps sp) (hb : Binds X.K fd ps []) (I : Inv X pins σ H s)
    (hsp : sp [.ref a] H Q E0) : wpAny (model X.prog X.w) A (call (.ref f) [.ref a]) (EP X pins σ Q) X.xe s := by
  have e0 : Env0 X.prog X.w X.K X.mg X.base A X.stack s H := by
    have e := I.env0
    exact ⟨by rw [sb.fr]; exact e.frames, e.mod, e.bs, e.bsz, e.funs, e.frf, e.hok, e.bare⟩
  have hl := F.len _ _ _ _ hsp
  have r2 : Vals [V.ref a] [Value.ref a] := .cons rfl .nil
  have bt := hb s [.ref a] I.kIn (by simpa using hl)
  rw [List.append_nil] at bt
  refine wpAny_call (codeAny_mono (F.run A X.stack s H ⟨[.ref a], []⟩ [.ref a] [.ref a] _ E0 sb.room e0 bt r2 hsp) fun r s' hq => ?_)
  cases r with
  | error e => exact passL pins σ H s e s' I hq
  | ok fl => cases fl with
    | ret u => exact I.after hq
    | next => exact False.elim hq
    | brk => exact False.elim hq
    | cont => exact False.elim hq
def rLenI (C : Addr) (sp : Sp) : List V → Hp → VK → Prop := fun xs H Q => ∃ a dx fs, xs = [.ref a] ∧ H a = some (.ins C dx fs) ∧ sp [.ref a] H (fun v H' => ∃ n : Int, v = .int n ∧ 0 ≤ n ∧ n < 2 ^ 63 ∧ Q (.int n) H') E0
theorem call_lenI {sp : Sp} (L : LenC X.K C f) (F : FnOk X.prog X.w X.K X.mg X.base (L2.CX X.prog X.w) k f fd ps sp) (hr : Room (k + 1) X.A) (hb : Binds X.K fd ps []) : CallR X (.builtin "len") (rLenI C sp) := by
  intro pins s σ H xs us Q I r h
  obtain ⟨a, dx, fs, rfl, ha, hsp⟩ := h
  obtain ⟨u, rfl, ru⟩ := vals1 r
  obtain rfl : u = Value.ref a := ru
  obtain ⟨mA, J, _⟩ := ins_get I.hok ha
  obtain ⟨od, J, _⟩ := J.look
  have sb : Sub X (k + 1) X.A := ⟨hr, rfl⟩
  refine len_own I.kIn J L (wpAny_mono (run_one sb.in1 F hb I hsp) (fun v s' z => ?_) fun _ _ z => z)
  obtain ⟨v, H', I', rv, n, rfl, h0, h1, q⟩ := z
  obtain ⟨t, rfl⟩ := rv
  exact ⟨n, t, rfl, h0, h1, .int n, H', I'.tok _, ⟨_, rfl⟩, q⟩
theorem dc_lenI (L : LenC G.K C f) (hC : G.cl c = some C) (F : FnOk X.prog X.w X.K X.mg X.base (L2.CX X.prog X.w) k f fd ps (spF G 1 fn)) (hr : Room (k + 1) X.A) (hb : Binds X.K fd ps []) (hK : X.K = G.K := by rfl) : DC G X (.builtin "len") (mLenI c fn) := by
  refine ⟨_, call_lenI (by rw [hK]; exact L) F hr hb, ?_, ?_⟩
  · intro io H S ds vs Q so r h
    unfold mLenI at h
    split at h
    · rename_i x
      cases r with
      | cons r1 r2 =>
        cases r2
        split at h
        · rename_i c1 n1 d1 h1
          split at h
          · rename_i hc
            subst hc
            obtain ⟨a, C1, dx1, vs1, rfl, e1, e2, e3, e4⟩ := insD_ok so r1 h1
            rw [hC] at e2
            cases e2
            refine ⟨a, dx1, _, rfl, e1, io, S, [x], so, .cons r1 .nil, rfl, ?_⟩
            cases ef : fn [x] S with
            | stuck => rw [ef] at h; exact h.elim
            | err x S1 => rw [ef] at h; exact h.elim
            | ok d S1 =>
              rw [ef] at h
              intro io' H' g s' v rv
              cases rv with
              | int n =>
                dsimp only at h
                split at h
                · rename_i hn
                  exact ⟨n, rfl, hn.1, hn.2, h io' H' g s' _ (.int n)⟩
                · exact h.elim
              | _ => exact h.elim
          · exact h.elim
        · exact h.elim
    · exact h.elim
  · intro ds S
    unfold mLenI
    repeat' split
    all_goals trivial
end
section
variable {S : Store} {Q : Dt → Store → Prop} {XE : Ex → Store → Prop}
theorem v_lenI {c : String} {fn : Fn} {x : Dt} {n1 : List Str} {d1 : List Dt} (e : insD S x = some (c, n1, d1)) (h : Pe (fn [x] S) (fun d S1 => ∃ n : Int, d = .int n ∧ (0 ≤ n ∧ n < 2 ^ 63) ∧ Q (.int n) S1) X0) : Pe (mLenI c fn [x] S) Q XE := by
  unfold mLenI
  dsimp only
  rw [e]
  dsimp only
  rw [if_pos rfl]
  cases ef : fn [x] S with
  | ok d S1 =>
    rw [ef] at h
    obtain ⟨n, rfl, hn, q⟩ := h
    show Pe (if 0 ≤ n ∧ n < 2 ^ 63 then _ else _) Q XE
    rw [if_pos hn]
    exact q
  | err x S1 => rw [ef] at h; exact h.elim
  | stuck => rw [ef] at h; exact h.elim
end
end Dv
set_option Elab.async false
set_option linter.all false
set_option maxRecDepth 100000
set_option maxHeartbeats 4000000
set_option autoImplicit false
/-! enumerate(tuple) -/
namespace Dv
open PySem PySem.Spec PyProof.Rows L2
open PySem.Sem (wp)
open AutoSeq1 (wpAny_loadPart')
section
end
/-- the walk over enumerate(list or tuple) -/
def itemsX (d : Dt) : Option (List Dt) := match d with
  | .lst ds => some ds
  | .fz ds => some ds
  | .tup ds => some ds
  | _ => none
def mEnum2 (m : Env → Store → R (List Dt)) : Env → Store → R (List Dt) := fun en S => (m en S).bind fun ds S1 => match ds with
  | [x] => match itemsX x with
    | some xs => .ok (numbered 0 xs) S1
    | _ => .stuck
  | _ => .stuck
section
end
section
variable {en : Env} {S : Store} {QA : List Dt → Store → Prop} {XE : Ex → Store → Prop} {ms : Env → Store → R (List Dt)}
theorem v_enum2 (h : Pe (ms en S) (fun ds S1 => ∃ x xs, ds = [x] ∧ itemsX x = some xs ∧ QA (numbered 0 xs) S1) XE) : Pe (mEnum2 ms en S) QA XE := by
  refine Pe.bind (h.imp (fun ds S1 ⟨x, xs, e, e1, q⟩ => ?_) fun _ _ z => z)
  subst e
  dsimp only
  rw [e1]
  exact q
end
end Dv
set_option Elab.async false
set_option linter.all false
set_option maxRecDepth 100000
set_option maxHeartbeats 4000000
set_option autoImplicit false
/-! x in xs, the items plain data of any depth -/
namespace Dv
open PySem PySem.Spec PyProof.Rows L2
section
end
end Dv
set_option Elab.async false
set_option linter.all false
set_option maxRecDepth 100000
set_option maxHeartbeats 4000000
set_option autoImplicit false
/-! a, b, .. = a list -/
namespace Dv
open PySem PySem.Spec PyProof.Rows L2
end Dv
set_option Elab.async false
set_option linter.all false
set_option maxRecDepth 100000
set_option maxHeartbeats 4000000
set_option autoImplicit false
/-! try with several clauses `except (A, B, ..) as e` -/
namespace Dv
open PySem PySem.Spec PyProof.Rows L2
open PySem.W (exmOne exmAny Frag Looks)
section
variable {M : Model} {A : Around} {E : Value → Shared → Prop} {s : Shared} {α β : Type}
theorem wp_forIn_thru {f : α → β → Sem (ForInStep β)} {b : β} : ∀ {cs : List α} {Q : β → Shared → Prop}, (∀ c ∈ cs, ∀ Q : ForInStep β → Shared → Prop, Q (.yield b) s → wpAny M A (f c b) Q E s) → Q b s → wpAny M A (forIn cs b f) Q E s
  | [], _, _, q => by
    rw [List.forIn_nil]
    exact wpAny_pure q
  | c :: cs, Q, h, q => by
    rw [List.forIn_cons]
    refine wpAny_bind (h c List.mem_cons_self _ ?_)
    exact wp_forIn_thru (fun c hc => h c (List.mem_cons_of_mem _ hc)) q
theorem wp_forIn_any {f : α → β → Sem (ForInStep β)} {b b1 : β} {m : α → Bool} : ∀ {cs : List α} {Q : β → Shared → Prop}, (∀ c ∈ cs, ∀ Q : ForInStep β → Shared → Prop, Q (if m c then .done b1 else .yield b) s → wpAny M A (f c b) Q E s) → Q (if cs.any m then b1 else b) s → wpAny M A (forIn cs b f) Q E s
  | [], _, _, q => by
    rw [List.forIn_nil]
    exact wpAny_pure q
  | c :: cs, Q, h, q => by
    rw [List.forIn_cons]
    refine wpAny_bind (h c List.mem_cons_self _ ?_)
    rw [List.any_cons] at q
    cases e : m c with
    | true =>
      rw [e] at q
      exact wpAny_pure q
    | false =>
      rw [e] at q
      exact wp_forIn_any (fun c hc => h c (List.mem_cons_of_mem _ hc)) q
end
section
variable {M : Model} {K : Frag}
theorem exmAny_all {cls : Value} : ∀ {cs : List Value} {b : Bool}, exmAny K cls cs = some b → (∀ c ∈ cs, exmOne K cls c = some ((exmOne K cls c).getD false)) ∧ b = cs.any fun c => (exmOne K cls c).getD false
  | [], b, h => ⟨fun c hc => (List.not_mem_nil hc).elim, (Option.some.inj h).symm⟩
  | c :: cs, b, h => by
    obtain ⟨b1, d1, e1, e2, e3⟩ := PySem.W.exmAny_cons h
    obtain ⟨h1, h2⟩ := exmAny_all e2
    refine ⟨fun x hx => ?_, ?_⟩
    · rcases List.mem_cons.mp hx with rfl | hx
      · rw [e1]
        rfl
      · exact h1 x hx
    · rw [e3, h2, List.any_cons, e1]
      rfl
theorem exm_tupN {cs : List Value} {cls : Value} {tp e : Addr} {b : Bool} {h : Heap} (X : K.In h) (LT : Looks M h (typeOf (.ref e)) cls) (hp : h.get? tp = some { cls := .type "tuple", data := .seq cs.toArray }) (hx : exmAny K cls cs = some b) :
    Looks M h (excMatches (.ref e) (.ref tp)) b := by
  intro A Q E s k₀ q
  obtain ⟨hh, g, d, tk, os⟩ := s
  have k : ∀ b o, h.get? b = some o → hh.get? b = some o := k₀
  have LT0 : Looks M h (isInstance (.ref tp) (.type "tuple")) true := ((Looks.ld hp).andThen .now).andThen (Looks.of_pure isSubtype_tuple_tuple)
  obtain ⟨h1, rfl⟩ := exmAny_all hx
  have LT := LT.keeps k
  have LT0 := LT0.keeps k
  have hp' := k _ _ hp
  unfold excMatches
  refine wpAny_bind (LT0.at ?_)
  dsimp only
  rw [if_pos rfl]
  first
    | refine wpAny_bind (wpAny_seqItems hp' rfl ?_)
    | refine wpAny_bind (wpAny_bind (wpAny_seqItems hp' rfl (wpAny_pure ?_)))
  dsimp only [Option.getD_some, Option.getD]
  refine wpAny_bind (wpAny_pure ?_)
  refine wpAny_bind (wp_forIn_thru (fun c hc Q q => ?_) ?_)
  · obtain ⟨e1, S1⟩ := PySem.W.exm_cls (M := M) X (h1 c (by simpa using hc))
    refine wpAny_bind ((e1.keeps k).at ?_)
    simp only [Bool.not_true, Bool.false_eq_true, if_false]
    exact wpAny_pure q
  · refine wpAny_bind (LT.at ?_)
    refine wpAny_bind (wp_forIn_any (m := fun c => (exmOne K cls c).getD false) (b1 := ⟨some true, ()⟩) (fun c hc Q q => ?_) ?_)
    · obtain ⟨e1, S1⟩ := PySem.W.exm_cls (M := M) X (h1 c (by simpa using hc))
      refine wpAny_bind ((S1.keeps k).at ?_)
      split
      · rename_i hv
        rw [if_pos hv] at q
        exact wpAny_pure q
      · rename_i hv
        rw [if_neg hv] at q
        exact wpAny_pure q
    · cases e : cs.any fun c => (exmOne K cls c).getD false with
      | true =>
        rw [e] at q
        exact wpAny_pure q
      | false =>
        rw [e] at q
        exact wpAny_pure q
end
/-! ### the tests of the clauses -/
inductive NamesL (X : Cx) : List Expr → List Value → Prop
  | nil : NamesL X [] []
  | cons {x : Str} {c : Value} {np : Pos} {es : List Expr} {cs : List Value} (h : Names X x c) (hs : starEach (.Name x np :: es) X.env = (false, eval (.Name x np) X.env) :: starEach es X.env) (r : NamesL X es cs) : NamesL X (.Name x np :: es) (c :: cs)
inductive Tst (X : Cx) : Expr → List Value → Prop
  | one {x : Str} {c : Value} {np : Pos} (h : Names X x c) : Tst X (.Name x np) [c]
  | tup {es : List Expr} {cs : List Value} {k : Nat} {pos : Pos} (h : NamesL X es cs) (hl : cs.length ≤ 64) : Tst X (.Tuple es k pos) cs
section
variable {X : Cx} {A : Around} {E : Value → Shared → Prop} {σ : L2.St} {H : Hp} {s : Shared} {a : Addr} {pins pn : List (Addr × Obj)} {oe : Obj}
theorem ld_names {x : Str} {c : Value} {np : Pos} {Q : Value → Shared → Prop} (hc : Names X x c) (I : Inv (X.suite a pn) pins σ H s) (q : Q c s) : wpAny (model X.prog X.w) (X.A.mark (some (.ref a))) (eval (.Name x np) X.env) Q E s := by
  obtain ⟨hg, hdbg, hm | ⟨hm, hv, hnn⟩⟩ := hc
  · exact ld_glob (X := X.suite a pn) I hg hm q hdbg
  · exact ld_blt (X := X.suite a pn) I hg hm hv q hnn hdbg
theorem items_names {pos : Pos} {es : List Expr} {cs : List Value} (h : NamesL X es cs) (I : Inv (X.suite a pn) pins σ H s) : ∀ {Q : List Value → Shared → Prop}, Q cs s →
    wpAny (model X.prog X.w) (X.A.mark (some (.ref a))) (spliced (backTo pos (starEach es X.env))) Q E s := by
  induction h with
  | nil => exact fun q => wpAny_items_nil q
  | cons hc hs r ih => exact fun q => wpAny_items_cons (ld_names hc I (ih q)) hs
theorem tst_ok {te : Expr} {cs : List Value} {cls : Value} {b : Bool} {Q : Bool → Shared → Prop} (h : Tst X te cs) (I : Inv (X.suite a pn) pins σ H s) (LT : Looks (model X.prog X.w) s.heap (typeOf (.ref a)) cls) (hx : exmAny X.K cls cs = some b)
    (q : ∀ h', (∀ b o, s.heap.get? b = some o → h'.get? b = some o) → Q b { s with heap := h' }) :
    wpAny (model X.prog X.w) (X.A.mark (some (.ref a))) (eval te X.env) (fun c s1 => wpAny (model X.prog X.w) (X.A.mark (some (.ref a))) (excMatches (.ref a) c) Q E s1) E s := by
  cases h with
  | one hc =>
    obtain ⟨b1, d1, e1, e2, e3⟩ := PySem.W.exmAny_cons hx
    cases (show some false = some d1 from e2)
    rw [Bool.or_false] at e3
    subst e3
    exact ld_names hc I ((PySem.W.exm_one (M := model X.prog X.w) I.kIn LT e1).here (q s.heap fun _ _ z => z))
  | tup hc hl =>
    refine wpAny_Tuple (items_names hc I ⟨by rw [sizeLine_eq]; omega, ?_⟩)
    have kp : ∀ q o, s.heap.get? q = some o → (s.heap.push { cls := .type "tuple", data := .seq cs.toArray }).get? q = some o := fun _ _ z => Heap.get?_push_of_some _ z
    exact (exm_tupN (M := model X.prog X.w) (I.kIn.keeps kp) (LT.keeps kp) (Heap.get?_push_size s.heap rfl) hx).here (q _ kp)
end
theorem flyZ_keeps {base h h' : Heap} {l : List PySem.Env} {e : Addr} {Z : Obj → Prop} (x : HandSPX.FlyingZ base l e Z h) (k : ∀ b o, h.get? b = some o → h'.get? b = some o) : HandSPX.FlyingZ base l e Z h' := by
  obtain ⟨f1, f2, f3, oe, vs, T, oT, ts, he, hz, hd, h1, hb, hne, hT, hdT, h3⟩ := x
  exact ⟨fun b o q => k b o (f1 b o q), f2, f3.of_keeps fun b o q _ => ⟨o, k b o q, rfl⟩, oe, vs, T, oT, ts, k _ _ he, hz, hd, h1, hb, hne, k _ _ hT, hdT, h3⟩
/-! ### the statement -/
abbrev Cl := List Value × (Addr → Value → Option Addr → TS)
def wAsN (K : Frag) (i : Nat) (Wout : WX) (D : Ends) : List Cl → WX
  | [] => Wout
  | (cs, ts) :: r => fun cls d σ H => ∃ b, exmAny K cls cs = some b ∧
      (b = true → ∀ a, H a = none → ts a cls d { nx := fun σ' H' => D.nx (σ'.set i none) H', rt := D.rt, bk := fun σ' H' => D.bk (σ'.set i none) H', ct := fun σ' H' => D.ct (σ'.set i none) H' } (σ.set i (some (.ref a))) H) ∧
      (b = false → wAsN K i Wout D r cls d σ H)
inductive HdsN (X : Cx) (n : Str) : List ExceptHandler → List Cl → Prop
  | nil : HdsN X n [] []
  | cons {te : Expr} {cs : List Value} {ts : Addr → Value → Option Addr → TS} {b₀ : Stmt} {suite : List Stmt} {pos' : Pos} {hds : List ExceptHandler} {l : List Cl} (hc : Tst X te cs)
      (hsu : ∀ (a : Addr) (oe : Obj) (cls : Value) (d : Option Addr) (pn : List (Addr × Obj)), Zc cls d oe → (∃ vs, oe.data = .fields vs) → PSs (X.suite a ((a, oe) :: pn)) (b₀ :: suite) (ts a cls d)) (r : HdsN X n hds l) :
      HdsN X n (.ExceptHandler (some te) (some n) (b₀ :: suite) pos' :: hds) ((cs, ts) :: l)
section
variable {X : Cx} {n : Str} {i : Nat} {body : List Stmt} {h₀ : ExceptHandler} {hds : List ExceptHandler} {l : List Cl} {pos : Pos} {tb : WX → TS} {Wout : WX}
theorem ps_try_asN (hs : X.stack = X.env :: X.outer) (hf : X.env.frame = some X.env.locals) (hN : X.N.Nodup) (hi : X.N[i]? = some n) (hln : X.env.kindOf n = some .local) (tk : Takes X Wout)
    (hb : ∀ (W : WX) (pn : List (Addr × Obj)) (xe : Value → Shared → Prop), Takes (X.tr pn xe) W → PassesOwn (model X.prog X.w) X.A X.env xe → PSs (X.tr pn xe) body (tb W))
    (hh : HdsN X n (h₀ :: hds) l) : PS X (.Try body (h₀ :: hds) [] [] pos) (fun D σ H => tb (wAsN X.K i Wout D l) D σ H) := by
  refine ⟨fun pins s σ H D I h => ?_⟩
  have ok := I.ok
  have hfr : X.A.frames = some (X.env :: X.outer) := by rw [ok.frames, hs]
  have hloc : Loc X.env.scope n := .inl hln
  refine wpAny_Try_except ?_
  refine wpAny_mono ((hb (wAsN X.K i Wout D l) (X.pn ++ pins) (fun e s₁ => wpAny (model X.prog X.w) X.A (noteFrame e X.env) (fun _ s₂ => wpAny (model X.prog X.w) X.A (setFlight e none) (fun _ s₃ =>
    wpAny (model X.prog X.w) X.A (handleBy e X.env (h₀ :: hds)) (SP X pins D) X.xe s₃) X.xe s₂) X.xe s₁) (fun u s' xx => ?_) PassesOwn.looking).run [] s σ H D (I.toTry _) h) (fun f s1 hsp => ?_) (fun e s1 he => he)
  · -- the catch
    obtain ⟨a, B, sI, pins', σ', H', cls, d, rfl, J', nb, up, sky, na, os, ag, w⟩ := xx
    have J : Inv X pins σ' H' sI := J'.ofTry ok
    have sky' : Sky B (X.env :: X.outer) a (Zc cls d) X.env.locals s'.heap := by rw [← hs]; exact sky
    show wpAny (model X.prog X.w) X.A (noteFrame (.ref a) X.env) _ _ _
    refine Sky.land Zc.steady hfr hf sky' fun h3 fl3 up3 => ?_
    have notFr : ∀ {h : Heap} {o : Obj} {vs : Array Value}, h.FunFrames B (X.env :: X.outer) → h.get? a = some o → o.data = .fields vs → a ∉ frs (X.env :: X.outer) := fun {h o vs} ff e dd hm => by
      obtain ⟨_, o', e', hnf⟩ := ff.mem hm
      rw [e] at e'; cases e'
      exact hnf _ dd
    have go : ∀ {hds' : List ExceptHandler} {l' : List Cl}, HdsN X n hds' l' → wAsN X.K i Wout D l' cls d σ' H' → ∀ h3, HandSPX.FlyingZ B (X.env :: X.outer) a (Zc cls d) h3 → s'.heap.UpToSlots h3 →
        wpAny (model X.prog X.w) X.A (handleBy (.ref a) X.env hds') (SP X pins D) X.xe { s' with heap := h3 } := by
      intro hds' l' hk
      induction hk with
      | nil =>
        intro w h3 fl3 up3
        refine wpAny_handleBy_nil ?_
        obtain ⟨k1, k2, k3, oe, vs, T, oT, ts', he, hz, hd, h1, hr⟩ := id fl3
        unfold PySem.passOn
        refine wpAny_bind (wpAny_field he hd h1 ?_)
        rw [if_neg (show ¬ ((Value.ref T == Value.none) = true) from by simp)]
        have fin : wpAny (model X.prog X.w) X.A (setFlight (.ref a) X.env.frame) (fun _ s4 => wpAny (model X.prog X.w) X.A (throw (.ref a) : Sem Flow) (SP X pins D) X.xe s4) X.xe { s' with heap := h3 } := by
          rw [hf]
          refine HandSPX.setFlight_upZ fl3 fun h4 hh4 up4 => wpAny_throw (tk _ _ ?_)
          exact ⟨a, B, sI, pins, σ', H', cls, d, rfl, J, nb, (up.trans up3).trans up4, .inr (.inr (by rw [hs]; exact hh4)), na, os, ag, w⟩
        first
          | exact wpAny_bind (wpAny_pure (wpAny_bind fin))
          | exact wpAny_bind fin
      | @cons te cs ts b₀ suite pos' hds2 l2 hc hsu r ih =>
        intro w h3 fl3 up3
        have J3 : Inv X pins σ' H' { s' with heap := h3 } := J.landed nb fl3.1 (up.trans up3) os ag
        obtain ⟨oe3, vs3, he3, hz3, hd3⟩ := fl3.there
        have nfr := notFr fl3.2.2.1 he3 hd3
        have nL : a ≠ X.env.locals := fun z => nfr (List.mem_filterMap.mpr ⟨X.env, List.mem_cons_self, by rw [hf, z]⟩)
        have nF : a ∉ X.fs := fun hm => by
          obtain ⟨e, he, q⟩ := List.mem_filterMap.mp hm
          exact nfr (List.mem_filterMap.mpr ⟨e, List.mem_cons_of_mem _ he, q⟩)
        have S3 := J3.suite he3 hd3 na nL nF
        obtain ⟨b, hb1, hyes, hno⟩ := w
        refine wpAny_handleBy_cons (codeAny_handlers_test ?_) (by intro q; cases q)
        have LT : Looks (model X.prog X.w) h3 (typeOf (.ref a)) cls := fun A Q E s k q => wpAny_typeOf_ref (k _ _ he3) (by rw [hz3.1]; exact q)
        refine tst_ok hc S3 LT hb1 fun h5 kp => ?_
        have fl5 := flyZ_keeps fl3 kp
        have up5 := up3.trans (Heap.UpToSlots.of_keeps kp)
        cases b with
        | true =>
          refine codeAny_handlers_suite_as ?_
          refine HandSPX.lands_againZ fl5 fun h4 fl4 up4 => ?_
          have J4 : Inv X pins σ' H' { s' with heap := h4 } := J.landed nb fl4.1 ((up.trans up5).trans up4) os ag
          obtain ⟨oe4, vs4, he4, hz4, hd4⟩ := fl4.there
          have S4 := J4.suite he4 hd4 na nL nF
          refine store_ok (X := X.suite a ((a, oe4) :: (X.pn ++ pins))) (v := .ref a) S4 hN hi hloc rfl (fun s5 S5 => ?_) (.inr hln)
          refine wpAny_mono ((hsu a oe4 cls d (X.pn ++ pins) hz4 ⟨_, hd4⟩).run [] s5 _ H' _ S5 (hyes rfl a na)) (fun f s6 hsp => ?_) (fun _ _ z => False.elim z)
          have end_ : ∀ {σ6 : L2.St} {H6 : Hp} {Q : Shared → Prop}, Inv (X.suite a ((a, oe4) :: (X.pn ++ pins))) [] σ6 H6 s6 → (∀ s7, Inv X pins (σ6.set i none) H6 s7 → Q s7) →
              wpAny (model X.prog X.w) X.A (do bindName X.env n .none; unbindBehindTheSuite X.env n pos') (fun _ s7 => Q s7) X.xe s6 := fun {σ6 H6 Q} S6 hq => gone_ok (S6.unsuite ok) hN hi hln hq
          cases f with
          | next =>
            obtain ⟨σ6, H6, S6, q6⟩ := hsp
            exact end_ S6 fun s7 J7 => ⟨_, _, J7, q6⟩
          | brk =>
            obtain ⟨σ6, H6, S6, q6⟩ := hsp
            exact end_ S6 fun s7 J7 => ⟨_, _, J7, q6⟩
          | cont =>
            obtain ⟨σ6, H6, S6, q6⟩ := hsp
            exact end_ S6 fun s7 J7 => ⟨_, _, J7, q6⟩
          | ret u =>
            obtain ⟨v6, σ6, H6, S6, r6, q6⟩ := hsp
            exact end_ S6 fun s7 J7 => ⟨_, _, _, J7, r6, q6⟩
        | false =>
          show wpAny _ X.A (handleBy (.ref a) X.env hds2) _ _ _
          exact ih (hno rfl) h5 fl5 up5
    exact go hh w h3 fl3 up3
  · cases f with
    | next =>
      obtain ⟨σ', H', J', q⟩ := hsp
      exact wpAny_execs_nil ⟨σ', H', J'.ofTry ok, q⟩
    | brk =>
      obtain ⟨σ', H', J', q⟩ := hsp
      exact ⟨σ', H', J'.ofTry ok, q⟩
    | cont =>
      obtain ⟨σ', H', J', q⟩ := hsp
      exact ⟨σ', H', J'.ofTry ok, q⟩
    | ret u =>
      obtain ⟨v, σ', H', J', r, q⟩ := hsp
      exact ⟨v, σ', H', J'.ofTry ok, r, q⟩
end
end Dv
set_option Elab.async false
set_option linter.all false
set_option maxRecDepth 100000
set_option maxHeartbeats 4000000
set_option autoImplicit false
/-! x(lambda: ..), x a def that tries what it gets -/
namespace Dv
open PySem PySem.Spec PyProof.Rows L2
def GivesS (X : Cx) (Ng : List Str) (x : Str) (sg : Scope) (g : Addr) (cdg : Value) (bg : List Stmt) (a : Str) (q : Str) (TT : (XK → Hp → VK → Prop) → Hp → VK → Prop) : Prop :=
  ∀ (f c' : Addr) (s : Shared) (H : Hp) (Q : VK) (tl : XK → Hp → VK → Prop),
    (∀ (W : WX) (pn : List (Addr × Obj)) (xe : Value → Shared → Prop) (E : L2.St → XK) (p1 p2 : Pos), Takes ((cxOf C8.CX0 X.prog X.w X.K X.mg X.base Ng x sg g cdg X.A X.stack s H C8.E0).tr pn xe) W → (∀ cls d σ' H', E σ' cls d H' → W cls d σ' H') →
      PE ((cxOf C8.CX0 X.prog X.w X.K X.mg X.base Ng x sg g cdg X.A X.stack s H C8.E0).tr pn xe) (.Call (.Name a p1) [] [] p2) (fun σZ HZ Q => σZ[0]? = some (some (.ref f)) ∧ HZ c' = some (LamX.CodeO c' q) ∧ tl (E σZ) HZ Q)) →
    H c' = some (LamX.CodeO c' q) → TT tl H Q →
    ∃ t, PSs (cxOf C8.CX0 X.prog X.w X.K X.mg X.base Ng x sg g cdg X.A X.stack s H C8.E0).nox bg t ∧ t { nx := fun _ H' => Q .non H', rt := Q } (L2.start Ng [.ref f]) H
/-- what a data function makes of a state, as a reading -/
def tMe (G : Gv) (m : Env → Store → R Dt) (E : XK) : TE := fun σ H Q => ∃ io S en, StoreOk G io S H ∧ RelEnv G io H en σ ∧ Out G io H (wxE G (fun cls d _ H => E cls d H) σ) (poE G Q) (m en S)
theorem pe_of_de {G : Gv} {X : Cx} {E : XK} {e : Expr} {m : Env → Store → R Dt} (h : DE G X (fun cls d _ H => E cls d H) e m) : PE X e (tMe G m E) := by
  obtain ⟨t, p, q⟩ := h
  exact ⟨fun pins s σ H Q I ⟨io, S, en, so, re, o⟩ => p.run pins s σ H Q I (q io H S en σ Q so re o)⟩
/-- what the asker makes of an answer -/
def TAsk (G : Gv) (f : R Dt → R Dt) : (XK → Hp → VK → Prop) → Hp → VK → Prop := fun tl H Q => ∃ io S r, StoreOk G io S H ∧ (∀ E Q', Out G io H (fun x io' H' => ∀ cls dx, RelX G io' H' x cls dx → E cls dx H') (poE G Q') r → tl E H Q') ∧ Out G io H (fun _ _ _ => False) (poE G Q) (f r)
section
variable {G : Gv} {io : Io} {H H1 : Hp} {S : Store}
theorem grow_N (e : LamX.ExtN H H1) : Grow io H io H1 := ⟨⟨[], by simp⟩, fun b o h _ nt => e b o h nt, fun a h n => absurd h n⟩
theorem so_N (so : StoreOk G io S H) (e : LamX.ExtN H H1) (t : LamX.Tabs G.T H1) : StoreOk G io S H1 := by
  refine ⟨so.nd, so.len, so.dis, fun a h => ?_, fun i o a h1 h2 => ?_, t⟩
  · obtain ⟨u, z, nt⟩ := so.hid a h
    exact ⟨u, e _ _ z nt.1, nt⟩
  · have q := so.ob i o a h1 h2
    cases q with
    | lst h k => exact .lst (e _ _ h (fun _ z => by cases z)) (k.mono (grow_N e))
    | ins h c l k => exact .ins (e _ _ h (fun _ z => by cases z)) c l (k.mono (grow_N e))
    | dct h l k => exact .dct (e _ _ h (fun _ z => by cases z)) l (k.mono (grow_N e))
end
section
variable {X : Cx} {A : Around} {outer : List PySem.Env} {s : Shared} {H : Hp} {E : XK} {scope : Scope} {f c' : Addr}
theorem lam_tk : Takes (LamX.lamCx X A outer s H E scope f c') (fun cls d _ H => E cls d H) := takes_of rfl rfl rfl rfl
end
end Dv
set_option Elab.async false
set_option linter.all false
set_option maxRecDepth 100000
set_option maxHeartbeats 4000000
set_option autoImplicit false
/-! the two defs that try what they get -/
namespace Dv
open PySem PySem.Spec PyProof.Rows L2
open PySem.W (exmAny)
/-- e.f in an except suite, whatever e's class -/
def tXfA (K : PySem.W.Frag) (a : Addr) (cls : Value) (d : Option Addr) (f : Str) (te : TE) : TE := fun σ H Q => ∃ C, (XfC K C ∧ PySem.W.findIn K (.ref C) f = some none) ∧ tXf a cls d C f te σ H Q
theorem pe_xfA {X : Cx} {a : Addr} {oe : Obj} {cls : Value} {d : Option Addr} {pn : List (Addr × Obj)} {e : Expr} {te : TE} {pos : Pos} {n : Str} (hz : Zc cls d oe) (hf : ∃ vs, oe.data = .fields vs) (he : PE (X.suite a ((a, oe) :: pn)) e te)
    (hb : attributeBase e n X.env (eval e X.env) = eval e X.env := by rfl) : PE (X.suite a ((a, oe) :: pn)) (.Attribute e n pos) (tXfA X.K a cls d n te) :=
  ⟨fun pins s σ H Q I ⟨_, hC, h⟩ => (pe_xf hC.1 hC.2 hz hf he hb).run pins s σ H Q I h⟩
/-- a field of an exception -/
def fldX (x : Ex) (f : Str) : Option Dt := (x.ns.zip x.ds).lookup f
theorem fldX_rel {G : Gv} {io : Io} {H : Hp} {f : Str} {w : Dt} : ∀ {ns : List Str} {ds : List Dt} {vs : List V}, RelDs G io H ds vs → (ns.zip ds).lookup f = some w → ∃ v, (ns.zip vs).lookup f = some v ∧ RelD G io H w v
  | [], _, _, _, h => by cases h
  | _ :: _, [], _, _, h => by cases h
  | n :: ns, d :: ds, _, .cons (v := v) r rs, h => by
    rw [List.zip_cons_cons, List.lookup_cons] at h ⊢
    cases e : f == n with
    | true =>
      rw [e] at h
      cases h
      exact ⟨v, rfl, r⟩
    | false =>
      rw [e] at h
      exact fldX_rel rs h
end Dv
set_option Elab.async false
set_option linter.all false
set_option maxRecDepth 100000
set_option maxHeartbeats 4000000
set_option autoImplicit false
/-! a def that makes lambdas; the head's end with tables -/
namespace Dv
open PySem PySem.Spec PyProof.Rows L2
section
end
theorem walk_lawT {l : PySem.W.OpenLaw} {k : Nat} {q : Program} {loose : List Str} {XP : (Str → Option Value) → Heap → Prop} {YP : World → Heap → Prop} {d : DefRec} {x : Str}
    (hn : l.most = some 63) (hdf : d.params.defaults = []) (hr : Room k callerA)
    (F : ∀ (w : World) (mg : Str → Option Value) (fa : Addr) (h : Heap), YP w h → h.Ns mainGlobals mg → mg d.name = some (.ref fa) →
      ∃ (K : PySem.W.Frag) (fd : FuncData) (cs : List (Addr × Addr)) (T : List (Addr × Str)), K.In h ∧ (∀ p ∈ cs, h.get? p.2 = some { cls := .none, data := .fields #[] }) ∧ (∀ p ∈ cs, K.lookup p.2 = none) ∧ (∀ p ∈ cs, PySem.W.CodeHd h p.1 p.2) ∧ (∀ t ∈ T, ∃ p ∈ cs, p.2 = t.1) ∧
        (∀ (s : Shared) (u : Value), BindsTo s fd ⟨[u], []⟩ [(x, u)]) ∧ ∀ base : Heap, K.In base → base.Ns mainGlobals mg → (∀ p ∈ cs, LamX.TabB base mg p.1 p.2) → FnOk l.prog w K mg base (L2.CX l.prog w) k fa fd [x] (spLaw K T)) :
    PySem.W.WalkO q loose XP YP l.row.toRowW d [] (fun f vs => PySem.call f vs) := by
  refine LamX.walk_ofTsE (n := 63) (k := k) (CX := fun w => L2.CX l.prog w) (x := x) hn (by decide) hdf hr (fun w mg fa h Y G hm => ?_) fun w H s e s' z => ?_
  · obtain ⟨K, fd, cs, T, KX, hT, nT, C, hc, hb, hF⟩ := F w mg fa h Y G hm
    refine ⟨K, KX, fd, cs, spLaw K T, hT, nT, C, hb, fun H a ns hl _ hH hS => ⟨a, ns, rfl, hS, hl, fun t ht => ?_, fun _ => rfl⟩, hF⟩
    obtain ⟨p, hp, e⟩ := hc t ht
    exact LamX.TabS.nil (e ▸ hH p hp)
  · obtain ⟨_, _, _, _, _, _, _, _, _, _, _, _, z⟩ := z
    exact z.elim
theorem funD_code {K : PySem.W.Frag} {x qual : Str} {params : Arguments} {body : List Stmt} {scope : Scope} {dvs : List V} {kws : List (Str × V)} {n : Str × Option Str} {fd : FuncData} (F : FunD K x qual params body scope dvs kws (He.fAd K n) fd) (h : PySem.W.codeHdIn K (tabAt K n).1 (tabAt K n).2 = true) : fd.code = .ref (tabAt K n).1 := by
  obtain ⟨_, _, _, _, _, _, _, _, _, _, _, hl, _⟩ := F.ex
  exact tabAt_code hl h
theorem says_end {ns : List (Str × Option Str)} {K : PySem.W.Frag} {h : Heap} (X : K.In h) (d : SaysT ns K h) : (∀ p ∈ ns.map (tabAt K), h.get? p.2 = some { cls := .none, data := .fields #[] }) ∧ (∀ p ∈ ns.map (tabAt K), K.lookup p.2 = none) ∧ (∀ p ∈ ns.map (tabAt K), PySem.W.CodeHd h p.1 p.2) := by
  refine ⟨fun p hp => ?_, fun p hp => ?_, fun p hp => ?_⟩
  all_goals
    obtain ⟨n, hn, rfl⟩ := List.mem_map.mp hp
  · exact (d n hn).2.1
  · exact (d n hn).2.2
  · exact PySem.W.codeHd_of_K X (d n hn).1
end Dv
set_option Elab.async false
set_option linter.all false
set_option maxRecDepth 100000
set_option maxHeartbeats 4000000
set_option autoImplicit false
/-! bool and repr of an instance -/
namespace Dv
open PySem PySem.Spec PyProof.Rows L2
section
variable {K : PySem.W.Frag} {prog : Program} {w : World} {A : Around} {E : Value → Shared → Prop} {s : Shared}
theorem cspec_no {M : Model} {Q : Option Value → Shared → Prop} {x C : Addr} {ox : Obj} {od : Option Obj} {name : Str} {args : List Value} (X : K.In s.heap) (I : PySem.W.InstAt s.heap x ox C od) (hs : PySem.W.findIn K (.ref C) name = some none) (h : Q none s) : wpAny M A (callSpecial? (.ref x) name args) Q E s := by
  unfold callSpecial? specialOf
  exact wpAny_bind (wpAny_bind (I.type.here ((PySem.W.looks_findIn X hs).here (wpAny_pure h))))
theorem spec_fn {M : Model} {Q : Option Value → Shared → Prop} {x C : Addr} {ox : Obj} {od : Option Obj} {name : Str} {r : Option Value} (X : K.In s.heap) (I : PySem.W.InstAt s.heap x ox C od) (hs : PySem.W.findIn K (.ref C) name = some r) (h : Q r s) : wpAny M A (specialOf (.ref x) name) Q E s := by
  unfold specialOf
  exact wpAny_bind (I.type.here ((PySem.W.looks_findIn X hs).here h))
theorem truthy_len {Q : Bool → Shared → Prop} {x C f : Addr} {ox : Obj} {od : Option Obj} (X : K.In s.heap) (I : PySem.W.InstAt s.heap x ox C od) (nb : PySem.W.findIn K (.ref C) "__bool__" = some none) (L : LenC K C f)
    (h : wpAny (model prog w) A.in1 (call (.ref f) [.ref x]) (fun v s' => ∃ n t, v = .int n t ∧ 0 ≤ n ∧ n < 2 ^ 63 ∧ Q (n != 0) { s' with toks := s'.toks + 1 }) E s) : wpAny (model prog w) A (truthy (.ref x)) Q E s := by
  have key : wpAny (model prog w) A (runValue (.builtin "len" ⟨[.ref x], []⟩)) (fun r s' => ∃ n t, r = .int n t ∧ Q (n != 0) s') E s := by
    refine wpAny_runValue (codeAny_builtin PySem.entry_len ?_)
    rw [Around.under_plainId PySem.plain_len _]
    refine wpAny_mono (Q := fun fin s' => ∃ r, fin = .done (.ret r) ∧ ∃ n t, r = .int n t ∧ Q (n != 0) s') ?_ (fun fin s' h' => by obtain ⟨r, rfl, hq⟩ := h'; exact hq) fun _ _ e => e
    unfold Builtin.«len»
    refine wpAny_bind (m := oneArg "len" _) (wpAny_pure ?_)
    refine wpAny_bind (m := callSpecial? (.ref x) (PySem.Str.ofString "__len__")) (cspec_fn X I L.ln L.fn (wpAny_mono h (fun v s' z => ?_) fun _ _ z => z))
    obtain ⟨n, t, rfl, h0, h1, q⟩ := z
    refine wpAny_bind (wpAny_holding (wpAny_pure ?_))
    refine wpAny_bind (wpAny_letGo ?_)
    show wpAny _ _ (if n < 0 then _ else _) _ _ _
    rw [if_neg (by omega)]
    show wpAny _ _ (if n ≥ 2 ^ 63 then _ else _) _ _ _
    rw [if_neg (by omega)]
    exact wpAny_bind (wpAny_mkInt (wpAny_pure ⟨_, rfl, _, _, rfl, q⟩))
  have hsp : ∀ {Q' : Option Value → Shared → Prop}, Q' (some (.ref f)) s → wpAny (model prog w) A (specialOf (.ref x) "__len__") Q' E s := fun q => spec_fn X I L.ln q
  unfold truthy
  first
    | refine wpAny_bind (cspec_no (name := PySem.Str.ofString "__bool__") X I nb ?_)
    | refine wpAny_bind (wpAny_pure (wpAny_bind (cspec_no (name := PySem.Str.ofString "__bool__") X I nb ?_)))
  first
    | refine wpAny_bind (hsp ?_)
    | refine wpAny_bind (wpAny_pure (wpAny_bind (hsp ?_)))
  first
    | exact wpAny_bind (wpAny_mono key (fun r s' h' => by obtain ⟨n, t, rfl, hq⟩ := h'; exact wpAny_pure hq) fun _ _ e => e)
    | exact wpAny_bind (wpAny_pure (wpAny_bind (wpAny_mono key (fun r s' h' => by obtain ⟨n, t, rfl, hq⟩ := h'; exact wpAny_pure hq) fun _ _ e => e)))
theorem bool_own {Q : Value → Shared → Prop} {x C f : Addr} {ox : Obj} {od : Option Obj} (X : K.In s.heap) (I : PySem.W.InstAt s.heap x ox C od) (nb : PySem.W.findIn K (.ref C) "__bool__" = some none) (L : LenC K C f)
    (h : wpAny (model prog w) A.in1.in1.in1 (call (.ref f) [.ref x]) (fun v s' => ∃ n t, v = .int n t ∧ 0 ≤ n ∧ n < 2 ^ 63 ∧ Q (.bool (n != 0)) { s' with toks := s'.toks + 1 }) E s) : wpAny (model prog w) A (call (.type "bool") [.ref x]) Q E s := by
  refine callType_newIn (S := fun A R s => ∃ b, wpAny (model prog w) A.in1 (truthy (.ref x)) (fun c s' => R (.ok (.ret (.bool c))) s') (fun e s' => R (.error e) s') s ∧ b = true) F.called_bool F.newNe_bool (F.typeCall_bool_1 _) (F.newCall_bool_1 _) (fun obj => F.args_object_init_2 obj _) F.entry_bool_new (MeetsIn.of_wp fun A R s hs => ?_) ?_
  · obtain ⟨_, hs, _⟩ := hs
    have f1 := F.conv_sub_bool
    obtain ⟨hp, g, d, tk, os⟩ := s
    repeat (any_goals (first | assumption | (with_reducible refine wpAny_mono hs (fun b s' z => ?_) fun _ _ z => z) | wp_step))
    exact ⟨_, rfl, z⟩
  · refine ⟨true, truthy_len X I nb L ?_, rfl⟩
    refine wpAny_mono h (fun v s' z => ?_) fun _ _ z => z
    obtain ⟨n, t, e, h0, h1, q⟩ := z
    exact ⟨n, t, e, h0, h1, PySem.typeIs_bool _ _, q⟩
theorem repr_own {Q : Value → Shared → Prop} {x C f : Addr} {ox : Obj} {od : Option Obj} (X : K.In s.heap) (I : PySem.W.InstAt s.heap x ox C od) (hu : A.in1.units < cLine) (L1 : PySem.W.findIn K (.ref C) "__repr__" = some (some (.ref f))) (L2 : PySem.W.isFn K (.ref f) = true)
    (h : wpAny (model prog w) A.in1 (call (.ref f) [.ref x]) (fun v s' => ∃ a t, v = .str a t ∧ Q (.str a t) s') E s) : wpAny (model prog w) A (call (.builtin "repr") [.ref x]) Q E s := by
  refine Calls.call_function_entry F.kind_repr F.plain_repr F.entry_repr (F.args_repr1 _) ?_
  unfold Builtin.«repr»
  refine wpAny_bind (m := oneArg "repr" _) (wpAny_pure ?_)
  refine wpAny_bind (wpAny_cRoomFor hu ?_)
  refine wpAny_bind (spec_fn (name := PySem.Str.ofString "__repr__") X I L1 ?_)
  have sp : wpAny (model prog w) A.in1 (callSpecialIfBound? (.ref x) (PySem.Str.ofString "__repr__")) (fun r s' => ∃ a t, r = some (.str a t) ∧ Q (.str a t) s') E s := by
    simp only [callSpecialIfBound?, bindSpecialIfBound?]
    refine wpAny_holding (wpAny_bind (wpAny_bind (spec_fn X I L1 ?_)))
    refine wpAny_bind (wpAny_askSetting (wpAny_ite ?_))
    have fin : wpAny (model prog w) A.in1 (call (.ref f) ([.ref x] ++ []) >>= fun v => pure (some v)) (fun r s' => ∃ a t, r = some (.str a t) ∧ Q (.str a t) s') E s :=
      wpAny_bind (wpAny_mono h (fun v s' z => by obtain ⟨a, t, rfl, q⟩ := z; exact wpAny_pure ⟨a, t, rfl, q⟩) fun _ _ h' => h')
    split
    · exact wpAny_bind ((PySem.W.bind_fn X _ (beq_iff_eq.mp L2)).here (wpAny_pure fin))
    · exact wpAny_tryCatch (wpAny_bind ((PySem.W.bind_fn X _ (beq_iff_eq.mp L2)).here (wpAny_pure fin)))
  refine wpAny_bind (m := callSpecialIfBound? _ (PySem.Str.ofString "__repr__")) (wpAny_mono sp (fun r s' z => ?_) fun _ _ z => z)
  obtain ⟨a, t, rfl, q⟩ := z
  refine wpAny_bind (wpAny_isInstance (T := "str") (b := true) (typeIs_str _ _ _) isSubtype_str_str ?_)
  exact wpAny_pure ⟨_, rfl, q⟩
end
/-- bool(o) by o's own __len__ -/
def mBoolI (c : String) (fn : Fn) : List Dt → Store → R Dt := fun ds S => match ds with
  | [x] => match insD S x with
    | some (c1, _, _) => if c1 = c then (match fn [x] S with
      | .ok (.int n) S1 => if 0 ≤ n ∧ n < 2 ^ 63 then .ok (.bl (n != 0)) S1 else .stuck
      | _ => .stuck) else .stuck
    | none => .stuck
  | _ => .stuck
/-- repr(o) by o's own __repr__ -/
def mReprI (c : String) (fn : Fn) : List Dt → Store → R Dt := fun ds S => match ds with
  | [x] => match insD S x with
    | some (c1, _, _) => if c1 = c then (match fn [x] S with
      | .ok (.str a) S1 => .ok (.str a) S1
      | _ => .stuck) else .stuck
    | none => .stuck
  | _ => .stuck
structure ReprC (K : PySem.W.Frag) (C f : Addr) : Prop where
  rp : PySem.W.findIn K (.ref C) "__repr__" = some (some (.ref f))
  fn : PySem.W.isFn K (.ref f) = true
section
variable {G : Gv} {X : Cx} {W : WX} {C f : Addr} {c : String} {k : Nat} {fd : FuncData} {ps : List Str} {fn : Fn}
def rBoolI (C : Addr) (sp : Sp) : List V → Hp → VK → Prop := fun xs H Q => ∃ a dx fs, xs = [.ref a] ∧ H a = some (.ins C dx fs) ∧ sp [.ref a] H (fun v H' => ∃ n : Int, v = .int n ∧ 0 ≤ n ∧ n < 2 ^ 63 ∧ Q (.bl (n != 0)) H') E0
theorem call_boolI {sp : Sp} (nb : PySem.W.findIn X.K (.ref C) "__bool__" = some none) (L : LenC X.K C f) (F : FnOk X.prog X.w X.K X.mg X.base (L2.CX X.prog X.w) k f fd ps sp) (hr : Room (k + 3) X.A) (hb : Binds X.K fd ps []) : CallR X (.type "bool") (rBoolI C sp) := by
  intro pins s σ H xs us Q I r h
  obtain ⟨a, dx, fs, rfl, ha, hsp⟩ := h
  obtain ⟨u, rfl, ru⟩ := vals1 r
  obtain rfl : u = Value.ref a := ru
  obtain ⟨mA, J, _⟩ := ins_get I.hok ha
  obtain ⟨od, J, _⟩ := J.look
  have sb : Sub X (k + 3) X.A := ⟨hr, rfl⟩
  refine bool_own I.kIn J nb L (wpAny_mono (run_one sb.in1.in1.in1 F hb I hsp) (fun v s' z => ?_) fun _ _ z => z)
  obtain ⟨v, H', I', rv, n, rfl, h0, h1, q⟩ := z
  obtain ⟨t, rfl⟩ := rv
  exact ⟨n, t, rfl, h0, h1, .bl (n != 0), H', I'.tok _, rfl, q⟩
def rReprI (C : Addr) (sp : Sp) : List V → Hp → VK → Prop := fun xs H Q => ∃ a dx fs, xs = [.ref a] ∧ H a = some (.ins C dx fs) ∧ sp [.ref a] H (fun v H' => ∃ x : Str, v = .str x ∧ Q (.str x) H') E0
theorem call_reprI {sp : Sp} (L : ReprC X.K C f) (F : FnOk X.prog X.w X.K X.mg X.base (L2.CX X.prog X.w) k f fd ps sp) (hr : Room (k + 1) X.A) (hb : Binds X.K fd ps []) : CallR X (.builtin "repr") (rReprI C sp) := by
  intro pins s σ H xs us Q I r h
  obtain ⟨a, dx, fs, rfl, ha, hsp⟩ := h
  obtain ⟨u, rfl, ru⟩ := vals1 r
  obtain rfl : u = Value.ref a := ru
  obtain ⟨mA, J, _⟩ := ins_get I.hok ha
  obtain ⟨od, J, _⟩ := J.look
  have sb : Sub X (k + 1) X.A := ⟨hr, rfl⟩
  refine repr_own I.kIn J (by have := sb.in1.room.un; omega) L.rp L.fn (wpAny_mono (run_one sb.in1 F hb I hsp) (fun v s' z => ?_) fun _ _ z => z)
  obtain ⟨v, H', I', rv, x, rfl, q⟩ := z
  obtain ⟨t, rfl⟩ := rv
  exact ⟨x, t, rfl, .str x, H', I', ⟨t, rfl⟩, q⟩
theorem dc_boolI (nb : PySem.W.findIn G.K (.ref C) "__bool__" = some none) (L : LenC G.K C f) (hC : G.cl c = some C) (F : FnOk X.prog X.w X.K X.mg X.base (L2.CX X.prog X.w) k f fd ps (spF G 1 fn)) (hr : Room (k + 3) X.A) (hb : Binds X.K fd ps []) (hK : X.K = G.K := by rfl) : DC G X (.type "bool") (mBoolI c fn) := by
  refine ⟨_, call_boolI (by rw [hK]; exact nb) (by rw [hK]; exact L) F hr hb, ?_, ?_⟩
  · intro io H S ds vs Q so r h
    unfold mBoolI at h
    split at h
    · rename_i x
      cases r with
      | cons r1 r2 =>
        cases r2
        split at h
        · rename_i c1 n1 d1 h1
          split at h
          · rename_i hc
            subst hc
            obtain ⟨a, C1, dx1, vs1, rfl, e1, e2, e3, e4⟩ := insD_ok so r1 h1
            rw [hC] at e2
            cases e2
            refine ⟨a, dx1, _, rfl, e1, io, S, [x], so, .cons r1 .nil, rfl, ?_⟩
            cases ef : fn [x] S with
            | stuck => rw [ef] at h; exact h.elim
            | err x S1 => rw [ef] at h; exact h.elim
            | ok d S1 =>
              rw [ef] at h
              intro io' H' g s' v rv
              cases rv with
              | int n =>
                dsimp only at h
                split at h
                · rename_i hn
                  exact ⟨n, rfl, hn.1, hn.2, h io' H' g s' _ (.bl _)⟩
                · exact h.elim
              | _ => exact h.elim
          · exact h.elim
        · exact h.elim
    · exact h.elim
  · intro ds S
    unfold mBoolI
    repeat' split
    all_goals trivial
theorem dc_reprI (L : ReprC G.K C f) (hC : G.cl c = some C) (F : FnOk X.prog X.w X.K X.mg X.base (L2.CX X.prog X.w) k f fd ps (spF G 1 fn)) (hr : Room (k + 1) X.A) (hb : Binds X.K fd ps []) (hK : X.K = G.K := by rfl) : DC G X (.builtin "repr") (mReprI c fn) := by
  refine ⟨_, call_reprI (by rw [hK]; exact L) F hr hb, ?_, ?_⟩
  · intro io H S ds vs Q so r h
    unfold mReprI at h
    split at h
    · rename_i x
      cases r with
      | cons r1 r2 =>
        cases r2
        split at h
        · rename_i c1 n1 d1 h1
          split at h
          · rename_i hc
            subst hc
            obtain ⟨a, C1, dx1, vs1, rfl, e1, e2, e3, e4⟩ := insD_ok so r1 h1
            rw [hC] at e2
            cases e2
            refine ⟨a, dx1, _, rfl, e1, io, S, [x], so, .cons r1 .nil, rfl, ?_⟩
            cases ef : fn [x] S with
            | stuck => rw [ef] at h; exact h.elim
            | err x S1 => rw [ef] at h; exact h.elim
            | ok d S1 =>
              rw [ef] at h
              intro io' H' g s' v rv
              cases rv with
              | str x => exact ⟨x, rfl, h io' H' g s' _ (.str _)⟩
              | _ => exact h.elim
          · exact h.elim
        · exact h.elim
    · exact h.elim
  · intro ds S
    unfold mReprI
    repeat' split
    all_goals trivial
end
section
variable {S : Store} {Q : Dt → Store → Prop} {XE : Ex → Store → Prop}
theorem v_boolI {c : String} {fn : Fn} {x : Dt} {n1 : List Str} {d1 : List Dt} (e : insD S x = some (c, n1, d1)) (h : Pe (fn [x] S) (fun d S1 => ∃ n : Int, d = .int n ∧ (0 ≤ n ∧ n < 2 ^ 63) ∧ Q (.bl (n != 0)) S1) X0) : Pe (mBoolI c fn [x] S) Q XE := by
  unfold mBoolI
  dsimp only
  rw [e]
  dsimp only
  rw [if_pos rfl]
  cases ef : fn [x] S with
  | ok d S1 =>
    rw [ef] at h
    obtain ⟨n, rfl, hn, q⟩ := h
    show Pe (if 0 ≤ n ∧ n < 2 ^ 63 then _ else _) Q XE
    rw [if_pos hn]
    exact q
  | err x S1 => rw [ef] at h; exact h.elim
  | stuck => rw [ef] at h; exact h.elim
theorem v_reprI {c : String} {fn : Fn} {x : Dt} {n1 : List Str} {d1 : List Dt} (e : insD S x = some (c, n1, d1)) (h : Pe (fn [x] S) (fun d S1 => ∃ a, d = .str a ∧ Q (.str a) S1) X0) : Pe (mReprI c fn [x] S) Q XE := by
  unfold mReprI
  dsimp only
  rw [e]
  dsimp only
  rw [if_pos rfl]
  cases ef : fn [x] S with
  | ok d S1 =>
    rw [ef] at h
    obtain ⟨a, rfl, q⟩ := h
    exact q
  | err x S1 => rw [ef] at h; exact h.elim
  | stuck => rw [ef] at h; exact h.elim
end
end Dv
set_option Elab.async false
set_option linter.all false
set_option maxRecDepth 100000
set_option maxHeartbeats 4000000
set_option autoImplicit false
/-! == and != of an instance and a thing of a built-in class -/
namespace Dv
open PySem PySem.Spec PyProof.Rows L2
section
end
section
end
section
end
end Dv
set_option Elab.async false
set_option linter.all false
set_option maxRecDepth 100000
set_option maxHeartbeats 4000000
set_option autoImplicit false
/-! max of two numbers -/
namespace Dv
open PySem PySem.Spec PyProof.Rows L2
section
end
end Dv
set_option Elab.async false
set_option linter.all false
set_option maxRecDepth 100000
set_option maxHeartbeats 4000000
set_option autoImplicit false
/-! dicts of the store: a display, d[k] = v -/
namespace Dv
open PySem PySem.Spec PyProof.Rows L2
section
end
section
end
section
end
end Dv
set_option Elab.async false
set_option linter.all false
set_option maxRecDepth 100000
set_option maxHeartbeats 4000000
set_option autoImplicit false
/-! min of two numbers -/
namespace Dv
open PySem PySem.Spec PyProof.Rows L2
section
end
end Dv
set_option Elab.async false
set_option linter.all false
set_option maxRecDepth 100000
set_option maxHeartbeats 4000000
set_option autoImplicit false
/-! d[k] = v of a dict of the store, k a text that it has -/
namespace Dv
open PySem PySem.Spec PyProof.Rows L2
def putD : List Key → List Dt → Key → Dt → Option (List Dt)
  | k :: ks, d :: ds, x, v => if k = x then (if hasK x ks = true then none else some (v :: ds)) else (putD ks ds x v).map (d :: ·)
  | _, _, _, _ => none
def setKx (S : Store) (x : Dt) (k : Key) (v : Dt) : Option Store := match x with
  | .ref i => match S[i]? with
    | some (.dct ks ds) => if ks.length < 1000 then (putD ks ds k v).map fun ds' => S.set i (.dct ks ds') else none
    | _ => none
  | _ => none
def gKeyD (mo mi : Env → Store → R Dt) : Dt → Env → Store → Option (Env × Store) := fun d en S => match mo en S with
  | .ok x S1 => match mi en S1 with
    | .ok (.str k) S2 => (setKx S2 x (.inr k) d).map fun S3 => (en, S3)
    | _ => none
  | _ => none
theorem map_no {x : Key} {v : V} : ∀ {ks : List Key} {vs : List V}, x ∉ ks → (ks.zip vs).map (fun kv => if kv.1 = x then (kv.1, v) else kv) = ks.zip vs
  | [], _, _ => rfl
  | _ :: _, [], _ => rfl
  | k :: ks, w :: vs, h => by
    rw [List.zip_cons_cons, List.map_cons, map_no fun z => h (List.mem_cons_of_mem _ z), if_neg fun z => h (by rw [← z]; exact List.mem_cons_self)]
theorem putD_ok {G : Gv} {io : Io} {H : Hp} {x : Key} {v : Dt} {vv : V} (rv : RelD G io H v vv) : ∀ {ks : List Key} {ds ds' : List Dt} {vs : List V}, RelDs G io H ds vs → putD ks ds x v = some ds' →
    ∃ vs', ((ks.zip vs).any fun kv => decide (kv.1 = x)) = true ∧ (ks.zip vs).map (fun kv => if kv.1 = x then (kv.1, vv) else kv) = ks.zip vs' ∧ RelDs G io H ds' vs' ∧ ds'.length = ds.length
  | [], _, _, _, _, h => by cases h
  | _ :: _, _, _, _, .nil, h => by cases h
  | k :: ks, _, ds', _, .cons (v := w) (vs := vs) r rs, h => by
    unfold putD at h
    split at h
    · rename_i e
      split at h
      · cases h
      · rename_i nh
        cases h
        refine ⟨vv :: vs, ?_, ?_, .cons rv rs, rfl⟩
        · rw [List.zip_cons_cons, List.any_cons, Bool.or_eq_true]
          exact .inl (decide_eq_true e)
        · rw [List.zip_cons_cons, List.map_cons, if_pos e, map_no (hasK_no nh)]
          rfl
    · rename_i e
      obtain ⟨ds2, h2, rfl⟩ := map_some h
      obtain ⟨vs2, h3, h4, h5, h6⟩ := putD_ok rv rs h2
      refine ⟨w :: vs2, ?_, ?_, .cons r h5, by rw [List.length_cons, List.length_cons, h6]⟩
      · rw [List.zip_cons_cons, List.any_cons, h3, Bool.or_true]
      · rw [List.zip_cons_cons, List.map_cons, if_neg e, h4]
        rfl
section
variable {G : Gv} {X : Cx} {W : WX}
theorem setKx_ok {io : Io} {H : Hp} {S S' : Store} {x d : Dt} {k : Key} {vx v : V} (so : StoreOk G io S H) (rx : RelD G io H x vx) (rd : RelD G io H d v) (h : setKx S x k d = some S') :
    ∃ p H', vx = .ref p ∧ DPut H p (kV k) v H' ∧ Grow io H io H' ∧ StoreOk G io S' H' := by
  unfold setKx at h
  split at h
  · rename_i i
    split at h
    · rename_i ks ds hs
      split at h
      · rename_i hlt
        obtain ⟨ds', hp, rfl⟩ := map_some h
        cases rx with
        | ref e =>
          obtain ⟨a, h1, h2⟩ := so.at_ hs
          rw [e] at h1
          cases h1
          cases h2 with
          | dct h3 l h4 =>
            obtain ⟨vs', q1, q2, q3, q4⟩ := putD_ok rd h4 hp
            rename_i vs
            have ep : putK (ks.zip vs) k v = ks.zip vs' := by
              unfold putK
              rw [if_pos q1]
              exact q2
            have g0 := (so.write (u := .dK (ks.zip vs')) e (.dct upd_same (by rw [q4]; exact l) (q3.monoB ⟨fun _ _ z => z, fun b o hb nb _ => ⟨by
              rw [upd_ne fun z => nb (by rw [z]; exact .inl (List.mem_of_getElem? e))]
              exact hb, nb⟩⟩)))
            have hl : (ks.zip vs).length < sizeLine := by
              rw [sizeLine_eq, List.length_zip]
              omega
            have dp := DPut.k (v := v) (k := k) h3 hl
            rw [ep] at dp
            exact ⟨_, _, rfl, dp, g0.1, g0.2⟩
      · cases h
    · cases h
  · cases h
theorem dg_key {o i : Expr} {mo mi : Env → Store → R Dt} {pos : Pos} (hu : X.A.units + 64 < cLine) (ho : DE G X W0 o mo) (hi : DE G X W0 i mi)
    (ha : ∀ v, assign (.Subscript o i pos) X.env v = (do
      let ov ← holding [v] (eval o X.env)
      let iv ← holding [v, ov] (eval i X.env)
      standAt pos
      holding [v, ov, iv] (setItem ov iv v)
      release [v, ov, iv] []) := by intro _; rfl) : DG G X (.Subscript o i pos) (gKeyD mo mi) := by
  obtain ⟨t, p, q⟩ := ho
  obtain ⟨t', p', q'⟩ := hi
  refine ⟨_, pg_sub p p' (set_dict (by omega)) ha, fun io H S en σ d v Q so re r h => ?_⟩
  unfold gKeyD at h
  refine q io H S en σ _ so re ?_
  cases eo : mo en S with
  | stuck => simp [eo] at h
  | err x S1 => simp [eo] at h
  | ok x S1 =>
    simp only [eo] at h
    intro i1 H1 g1 s1 vx rx
    refine q' i1 H1 S1 en σ _ s1 (re.mono g1) ?_
    cases ei : mi en S1 with
    | stuck => simp [ei] at h
    | err x S1 => simp [ei] at h
    | ok y S2 =>
      rw [ei] at h
      intro i2 H2 g2 s2 vy ry
      cases y with
      | str k =>
        cases ry
        dsimp only at h
        cases es : setKx S2 x (.inr k) d with
        | none => simp [es] at h
        | some S3 =>
          simp only [es, Option.map_some] at h
          obtain ⟨p, H3, h1, h2, g3, s3⟩ := setKx_ok s2 (rx.mono g2) (r.mono (g1.trans g2)) es
          exact ⟨p, H3, h1, h2, h i2 _ ((g1.trans g2).trans g3) s3 σ (re.mono ((g1.trans g2).trans g3))⟩
      | _ => exact h.elim
end
end Dv
set_option Elab.async false
set_option linter.all false
set_option maxRecDepth 100000
set_option maxHeartbeats 4000000
set_option autoImplicit false
/-! targets with a star: a, *b = a list -/
namespace PySem.W
open PySem PySem.Spec PySem.Calls PyProof.Rows
section
end
end PySem.W
namespace Dv
open PySem PySem.Spec PyProof.Rows L2
section
end
end Dv
set_option Elab.async false
set_option linter.all false
set_option maxRecDepth 100000
set_option maxHeartbeats 4000000
set_option autoImplicit false
/-! a part of a block, what it made by value behind it -/
namespace Dv
open PySem PySem.Spec PyProof.Rows L2
section
variable {G : Gv} {X : Cx} {W : WX} {s : Stmt} {sts : List Stmt} {m k : Env → Store → RS}
/-- the ends, told of an earlier state with n objects at most -/
def SimF (G : Gv) (W : WX) (n : Nat) (t : TS) (m : Env → Store → RS) : Prop := ∀ io0 H0 io H S e σ D, io0.l.length ≤ n → Grow io0 H0 io H → StoreOk G io S H → RelEnv G io H e σ → OutS G io0 H0 (wxS G W) (poF G D) (m e S) → t D σ H
def DF (G : Gv) (X : Cx) (W : WX) (n : Nat) (s : List Stmt) (m : Env → Store → RS) : Prop := ∃ t, PSs X s t ∧ SimF G W n t m
def mBeg (n : Nat) (m : Env → Store → RS) : Env → Store → RS := fun en S => if S.length ≤ n then m en S else .stuck
def mFzB (n : Nat) (k : Env → Store → RS) : Env → Store → RS := fun en S => match frzE n S en, exitS n S with
  | some e3, some S3 => if n ≤ S.length then k e3 S3 else .stuck
  | _, _ => .stuck
theorem db_beg (n : Nat) (h : DF G X W n sts m) : DB G X W sts (mBeg n m) := by
  obtain ⟨t, p, q⟩ := h
  refine ⟨t, p, fun io H S en σ D so re h => ?_⟩
  unfold mBeg at h
  split at h
  · rename_i hn
    exact q io H io H S en σ D (by rw [← so.len]; exact hn) Grow.refl so re h
  · exact h.elim
theorem df_cons {n : Nat} (a : DS G X W s m) (b : DF G X W n sts k) : DF G X W n (s :: sts) (mSeq m k) := by
  obtain ⟨t, p, q⟩ := a
  obtain ⟨u, p', q'⟩ := b
  refine ⟨_, pss_cons p p', fun io0 H0 io H S en σ D hn g0 so re h => ?_⟩
  refine q io H S en σ _ so re ?_
  unfold mSeq at h
  cases em : m en S with
  | stuck => rw [em] at h; exact h
  | err x e1 S1 => rw [em] at h; exact OutS.from g0 h
  | ok f e1 S1 =>
    rw [em] at h
    cases f with
    | nx => exact fun i1 H1 g1 s1 σ1 re1 => q' io0 H0 i1 H1 S1 e1 σ1 D hn (g0.trans g1) s1 re1 h
    | bk => exact OutS.from g0 h
    | ct => exact OutS.from g0 h
    | rt d => exact OutS.from g0 h
theorem df_fz {n : Nat} (c : DB G X W sts k) : DF G X W n sts (mFzB n k) := by
  obtain ⟨t, p, q⟩ := c
  refine ⟨t, p, fun io0 H0 io H S en σ D hn g0 so re h => ?_⟩
  unfold mFzB at h
  split at h
  · rename_i e3 S3 h1 h2
    split at h
    · rename_i hl
      have so3 := exitS_ok so h2 hl
      have re3 := frzE_rel so re h1
      have g3 : Grow io0 H0 (io.take n) H := by
        refine ⟨?_, fun b o h n nt => g0.keep b o h n nt, fun a ha nb => g0.new a (List.mem_of_mem_take ha) nb⟩
        obtain ⟨t, rfl⟩ := g0.pre
        exact ⟨t.take (n - io0.l.length), by simp [Io.take, List.take_append, List.take_of_length_le hn]⟩
      exact q _ H S3 e3 σ D so3 re3 (OutS.from g3 h)
    · exact h.elim
  · exact h.elim
end
theorem v_fzB {n : Nat} {k : Env → Store → RS} {en e3 : Env} {S S3 : Store} {QS : Fl → Env → Store → Prop} {XS : Ex → Env → Store → Prop} (h1 : frzE n S en = some e3) (h2 : exitS n S = some S3) (hn : n ≤ S.length) (h : Ps (k e3 S3) QS XS) : Ps (mFzB n k en S) QS XS := by
  unfold mFzB
  rw [h1, h2]
  dsimp only
  rw [if_pos hn]
  exact h
end Dv
set_option Elab.async false
set_option linter.all false
set_option maxRecDepth 100000
set_option maxHeartbeats 4000000
set_option autoImplicit false
/-! a def of the text called with keywords; keyword-only parameters that are left out -/
namespace Dv
open PySem PySem.Spec PyProof.Rows L2
section
end
section
end
end Dv
set_option Elab.async false
set_option linter.all false
set_option maxRecDepth 100000
set_option maxHeartbeats 4000000
set_option autoImplicit false
/-! lists that change in place: += of two lists, an item += a number, a slice that is to be changed -/
namespace Dv
open PySem PySem.Spec PyProof.Rows L2
section
end
section
end
end Dv
set_option Elab.async false
set_option linter.all false
set_option maxRecDepth 100000
set_option maxHeartbeats 4000000
set_option autoImplicit false
/-! exceptions of the text over ValueError, LookupError or IndexError, whose __init__ stores -/
namespace Dv
open PySem PySem.Spec PyProof.Rows L2 Builtin Builtin.ObjectAttr
/-- a class of the text over one of the bases -/
structure OexG (K : PySem.W.Frag) (C : Addr) : Prop where
  cls : ∃ B bmB newId initId nm q N bs bm sn sub ab col dd k0 k1 k2 k3 k5, ExcBaseFacts B newId initId bmB ∧ StoreFacts B bmB "object.__setattr__" "object" ∧ K.lookup C = some (excClassObj nm q C N bs bm true sn sub ab col dd k0 k1 k2 k3 k5 newId) ∧ PySem.W.excTail bmB bm = true
  sa : PySem.W.findIn K (.ref C) "__setattr__" = some (some (.builtin "object.__setattr__"))
  exC : PySem.W.subIn K (.ref C) (.type "BaseException") = some true
  tyC : PySem.W.typeIn K (.ref C) = some (.type "type")
  kC : PySem.W.keepIn K (.ref C) = true
theorem upd_swap {H : Hp} {a b : Addr} {o u v : HO} (h : b ≠ a) : upd (upd (upd H b o) a u) b v = upd (upd H b v) a u := by
  funext c
  by_cases hb : c = b
  · subst hb
    rw [upd_same, upd_ne h, upd_same]
  · rw [upd_ne hb]
    by_cases ha : c = a
    · subst ha
      rw [upd_same, upd_same]
    · rw [upd_ne ha, upd_ne ha, upd_ne hb, upd_ne hb]
section
variable {X : Cx} {pins : List (Addr × Obj)} {σ : L2.St} {H : Hp} {s : Shared} {a C dx : Addr} {f : Str} {y : V} {u : Value} {fs : List (Str × V)} {Q : Unit → Shared → Prop} {E : Value → Shared → Prop} {A : Around}
/-- a further field -/
theorem sg_old (T : OexG X.K C) (I : Inv X pins σ H s) (e : H a = some (exo a C (some dx))) (ed : H dx = some (exd dx fs)) (hl : fs.length ≤ 900) (hno : PySem.W.findIn X.K (.ref C) f = some none) (ry : RelV y u)
    (h : ∀ s', Inv X pins σ (upd H dx (exd dx ((f, y) :: fs))) s' → Q () s') : wpAny (model X.prog X.w) A (setAttr (.ref a) f u) Q E s := by
  obtain ⟨B, bmB, newId, initId, nm, q, N, bs, bm, sn, sub, ab, col, dd, k0, k1, k2, k3, k5, FB, SF, hC, hbm⟩ := T.cls
  have hcl : PySem.W.clsIn X.K C = some { name := nm, bases := bs, mro := .ref C :: bm, ns := N, qualname := q, hasDict := true, slotNames := sn, subclasses := sub, abstract := ab, collection := col, hasDel := false } := by unfold PySem.W.clsIn; rw [hC] <;> rfl
  have ov : PySem.W.excOver X.K C bmB = true := by
    unfold PySem.W.excOver
    rw [hcl]
    show ((C == C) && _) = true
    rw [hbm, beq_self_eq_true]
    rfl
  have tk : PySem.W.takerIn X.K C f = some none := by
    unfold PySem.W.takerIn
    rw [hno]
    rfl
  obtain ⟨t1, ho⟩ := exo_at I.hok e
  obtain ⟨mA, hns, rel⟩ := exd_at I.hok ed
  have hw := within_of rel
  obtain ⟨hp, g, d, t, os⟩ := s
  obtain ⟨oD, _, _, hoD, _, _⟩ := hns.count hw
  refine PySem.W.set_plain I.kIn (ox := { cls := .ref C, dict := some dx, data := .fields #[.ref t1, .none, .none, .none, .bool false, .none] }) (od := some oD) ⟨ho, rfl, rfl, hoD⟩ T.sa ?_
  refine PySem.W.osa_openX (od := some oD) SF I.kIn ⟨ho, rfl, rfl, hoD⟩ ov tk fun b => ?_
  have hcls : PySem.W.Looks (model X.prog X.w) hp (classData C) _ := PySem.W.looks_clsIn I.kIn hcl
  have hz : (fs.map (·.1)).length ≤ 1000 := by rw [List.length_map]; omega
  show wpAny _ _ (storeInOwnDict (.ref a) (.ref C) (.str f t) f u b) _ _ _
  unfold storeInOwnDict ownDictForStores
  repeat (first | with_reducible refine PySem.OEX.store_in_old hns hw hz ?_ | with_reducible refine wpAny_loadPart_at ho ?_ | with_reducible refine hcls.at ?_ | wp_step)
  intro h' tk' hn sb
  have hd : ∃ o, h'.get? dx = some o := by
    obtain ⟨o, _, _, e', _⟩ := hn
    exact ⟨o, e'⟩
  exact h _ (I.write (t' := tk') (x := dx) (e := dx) (o := exd dx ((f, y) :: fs)) (by rw [ed]; exact True.intro) (.inl rfl) (fun b o hb q => (sb.2 b hb).trans q) hd (exd_ok hn (relO_put ry rel)))
/-- the first field: the dict is made -/
theorem sg_new (T : OexG X.K C) (I : Inv X pins σ H s) (e : H a = some (exo a C none)) (hno : PySem.W.findIn X.K (.ref C) f = some none) (ry : RelV y u)
    (h : ∀ dx s', H dx = none → dx ≠ a → Inv X pins σ (upd (upd H dx (exd dx [(f, y)])) a (exo a C (some dx))) s' → Q () s') : wpAny (model X.prog X.w) A (setAttr (.ref a) f u) Q E s := by
  obtain ⟨B, bmB, newId, initId, nm, q, N, bs, bm, sn, sub, ab, col, dd, k0, k1, k2, k3, k5, FB, SF, hC, hbm⟩ := T.cls
  have hcl : PySem.W.clsIn X.K C = some { name := nm, bases := bs, mro := .ref C :: bm, ns := N, qualname := q, hasDict := true, slotNames := sn, subclasses := sub, abstract := ab, collection := col, hasDel := false } := by unfold PySem.W.clsIn; rw [hC] <;> rfl
  have ov : PySem.W.excOver X.K C bmB = true := by
    unfold PySem.W.excOver
    rw [hcl]
    show ((C == C) && _) = true
    rw [hbm, beq_self_eq_true]
    rfl
  have tk : PySem.W.takerIn X.K C f = some none := by
    unfold PySem.W.takerIn
    rw [hno]
    rfl
  obtain ⟨t1, ho⟩ := exo_at I.hok e
  obtain ⟨hp, g, d, t, os⟩ := s
  have hne : a ≠ hp.objs.size := Nat.ne_of_lt (Heap.lt_size ho)
  have hnd : H hp.objs.size = none := I.hok.fresh (Nat.le_refl _)
  have I1 : Inv X pins σ (upd H hp.objs.size (exd hp.objs.size [])) ⟨hp.push { cls := .type "dict", data := .dict #[] }, g, d, t, os⟩ :=
    I.laid (t' := t) (fun b o q => Heap.get?_push_of_some _ q) (Nat.le_refl _) (exd_ok (mA := fun _ => none) ⟨_, #[], _, Heap.get?_push_at rfl rfl, rfl, fun e he => absurd he (by simp), List.Pairwise.nil, fun _ => rfl⟩ fun _ => True.intro)
  have e1 : upd H hp.objs.size (exd hp.objs.size []) a = some (exo a C none) := by rw [upd_ne hne]; exact e
  have ho1 := Heap.get?_push_of_some ({ cls := .type "dict", data := .dict #[] } : Obj) ho
  have hup : ((hp.push { cls := .type "dict", data := .dict #[] }).update a fun o => { o with dict := some hp.objs.size }).get? a = some ({ cls := .ref C, dict := some hp.objs.size, data := .fields #[.ref t1, .none, .none, .none, .bool false, .none] } : Obj) := Heap.get?_update_self _ ho1 rfl
  have I2 : Inv X pins σ (upd (upd H hp.objs.size (exd hp.objs.size [])) a (exo a C (some hp.objs.size))) ⟨(hp.push { cls := .type "dict", data := .dict #[] }).update a fun o => { o with dict := some hp.objs.size }, g, d, t, os⟩ :=
    I1.write (t' := t) (x := a) (e := a) (o := exo a C (some hp.objs.size)) (by rw [e1]; exact True.intro) (.inl rfl) (fun b o hb q => (Heap.get?_update_ne _ _ _ _ hb).trans q) ⟨_, hup⟩ (exo_ok hup)
  refine PySem.W.set_plain I.kIn (ox := { cls := .ref C, dict := none, data := .fields #[.ref t1, .none, .none, .none, .bool false, .none] }) (od := none) ⟨ho, rfl, rfl, trivial⟩ T.sa ?_
  refine PySem.W.osa_openX (od := none) SF I.kIn ⟨ho, rfl, rfl, trivial⟩ ov tk fun b => ?_
  have hcls : PySem.W.Looks (model X.prog X.w) hp (classData C) _ := PySem.W.looks_clsIn I.kIn hcl
  show wpAny _ _ (storeInOwnDict (.ref a) (.ref C) (.str f t) f u b) _ _ _
  unfold storeInOwnDict ownDictForStores
  repeat (first | with_reducible refine PySem.HandSPX.store_in_new ?_ ?_ | with_reducible refine wpAny_loadPart_at ho ?_ | with_reducible refine hcls.at ?_ | wp_step)
  · exact ⟨_, #[], _, (Heap.get?_update_ne _ _ _ _ (Ne.symm hne)).trans (Heap.get?_push_at rfl rfl), rfl, fun e he => absurd he (by simp), fun _ => rfl⟩
  · intro h' tk' hn sb
    have hd : ∃ o, h'.get? hp.objs.size = some o := by
      obtain ⟨o, _, _, e', _⟩ := hn
      exact ⟨o, e'⟩
    have e2 : upd (upd H hp.objs.size (exd hp.objs.size [])) a (exo a C (some hp.objs.size)) hp.objs.size = some (exd hp.objs.size []) := by rw [upd_ne (Ne.symm hne), upd_same]
    have I3 := I2.write (t' := tk') (h' := h') (x := hp.objs.size) (e := hp.objs.size) (o := exd hp.objs.size [(f, y)]) (by rw [e2]; exact True.intro) (.inl rfl) (fun b o hb q => (sb.2 b hb).trans q) hd (exd_ok hn (relO_put (fs := []) ry fun g => True.intro))
    rw [upd_swap (Ne.symm hne)] at I3
    exact h _ _ hnd (Ne.symm hne) I3
end
/-! ### the rules -/
/-- self.f = e of an exception -/
def tOsG (K : PySem.W.Frag) (f : Str) (to te : TE) : TS := fun D σ H => te σ H fun y H1 => to σ H1 fun x H2 => ∃ a C : Addr, x = .ref a ∧ OexG K C ∧ PySem.W.findIn K (.ref C) f = some none ∧
  ((H2 a = some (exo a C none) ∧ ∀ dx, H2 dx = none → dx ≠ a → D.nx σ (upd (upd H2 dx (exd dx [(f, y)])) a (exo a C (some dx)))) ∨
    ∃ (dx : Addr) (fs : List (Str × V)), H2 a = some (exo a C (some dx)) ∧ H2 dx = some (exd dx fs) ∧ fs.length ≤ 900 ∧ D.nx σ (upd H2 dx (exd dx ((f, y) :: fs))))
section
variable {X : Cx} {o e : Expr} {es : List Expr} {to te : TE} {ta : TA} {f : Str} {p p' p1 p2 pos : Pos}
theorem ps_osG (ho : PE X o to) (he : PE X e te) (hs : swapsWith e (some (.Attribute o f p')) pos.line X.env = pure false := by rfl) : PS X (.Assign [.Attribute o f p'] e pos) (tOsG X.K f to te) := by
  refine ⟨fun pins s σ H D I h => plainObj_wpAny_Assign_Attribute (thn (he.run pins s σ H _ I h) fun v s1 ⟨y, H1, I1, r1, q1⟩ => thn (ho.run pins s1 σ H1 _ I1 q1) fun u s2 ⟨x, H2, I2, r2, a, C, ex, T, hno, q⟩ => ?_) hs⟩
  subst ex
  cases (show u = Value.ref a from r2)
  cases q with
  | inl q => exact sg_new T I2 q.1 hno r1 fun dx s' n ne J => ⟨σ, _, J, q.2 dx n ne⟩
  | inr q =>
    obtain ⟨dx, fs, ea, ed, hl, q⟩ := q
    exact sg_old T I2 ea ed hl hno r1 fun s' J => ⟨σ, _, J, q⟩
/-- C(..), its arguments told -/
theorem call_g {CX : CXT} {C fI : Addr} {k : Nat} {fd : FuncData} {ps : List Str} {sp : Sp} {pins : List (Addr × Obj)} {σ : L2.St} {H : Hp} {Q : XK} {s : Shared} {vs : List V} {us : List Value} (T : OexG X.K C) (iC : PySem.W.findIn X.K (.ref C) "__init__" = some (some (.ref fI))) (tI : PySem.W.typeIn X.K (.ref fI) = some (.type "function"))
    (F1 : FnOk X.prog X.w X.K X.mg X.base CX k fI fd ps sp) (hr : Room (k + 1) X.A) (hb : Binds X.K fd ps []) (hx : Passes CX X (fun _ _ _ => False)) (I : Inv X pins σ H s) (r : Vals vs us) (h : tMkO C sp [] (fun _ H K => K vs H) σ H Q) :
    wpAny (model X.prog X.w) X.A (call (.ref C) us) (MkP X pins σ Q) X.xe s := by
  obtain ⟨hz, q1⟩ := h
  obtain ⟨B, bmB, newId, initId, nm, q, N, bs, bm, sn, sub, ab, col, dd, k0, k1, k2, k3, k5, FB, SF, hC, hbm⟩ := T.cls
  obtain ⟨hp, g, dr, tk, os⟩ := s
  have hsz : hp.objs.size ≤ hp.objs.size + 1 := Nat.le_succ _
  have hq := q1 (hp.objs.size + 1) (I.hok.fresh hsz)
  rw [List.append_nil] at hq
  have kk : ∀ b o, hp.get? b = some o → ((hp.push (PySem.W.kdv_tup us)).push (PySem.HandSPX.excO C hp.objs.size)).get? b = some o := fun b o e => Heap.get?_push_of_some _ (Heap.get?_push_of_some _ e)
  have I2 : Inv X pins σ (upd H (hp.objs.size + 1) (exo (hp.objs.size + 1) C none)) ⟨(hp.push (PySem.W.kdv_tup us)).push (PySem.HandSPX.excO C hp.objs.size), g, dr, tk, os⟩ :=
    I.laid (t' := tk) kk hsz (exo_ok (t1 := hp.objs.size) (by heap_get))
  have r2 : Vals (V.ref (hp.objs.size + 1) :: vs) (Value.ref (hp.objs.size + 1) :: us) := .cons rfl r
  have hl : (Value.ref (hp.objs.size + 1) :: us).length = ps.length := r2.length.symm.trans (F1.len _ _ _ _ hq)
  have bb := hb ⟨(hp.push (PySem.W.kdv_tup us)).push (PySem.HandSPX.excO C hp.objs.size), g, dr, tk, os⟩ (Value.ref (hp.objs.size + 1) :: us) I2.kIn (by rw [List.append_nil]; exact hl)
  rw [List.append_nil] at bb
  have hus : us.length ≤ sizeLine := by
    have := r.length
    rw [sizeLine_eq]
    omega
  refine wpAny_call (PySem.HandSPX.call_own FB (fun Y => PySem.W.excTail_contains Y bm hbm) (I.kIn _ _ hC) (PySem.W.looks_findIn I.kIn iC) (fun self => PySem.W.bind_fn I.kIn self tI) hus
    (codeAny_mono (F1.run _ X.stack _ _ ⟨Value.ref (hp.objs.size + 1) :: us, []⟩ (Value.ref (hp.objs.size + 1) :: us) _ _ (fun _ _ _ => False) (hr.make C us []) (I2.env0.make C us []) bb r2 hq) fun z s' hz' => ?_))
  match z, hz' with
  | .error er, hz' => exact hx pins σ _ _ er s' I2 hz'
  | .ok (.ret u), ⟨v, H2, os2, bare2, un2, hok2, rv, ev, d, fs, ea, ed, hd1, q2⟩ =>
    subst ev
    obtain ⟨h2, g2, d2, t2, os'⟩ := s'
    exact ⟨rv, mk_end (raises_own T.exC T.tyC) I hsz kk un2 hok2 os2 bare2 ea ed hd1 q2⟩
theorem pmk_g1 {CX : CXT} {x : Str} {C fI : Addr} {k : Nat} {fd : FuncData} {ps : List Str} {sp : Sp} (T : OexG X.K C) (iC : PySem.W.findIn X.K (.ref C) "__init__" = some (some (.ref fI))) (tI : PySem.W.typeIn X.K (.ref fI) = some (.type "function"))
    (F1 : FnOk X.prog X.w X.K X.mg X.base CX k fI fd ps sp) (hr : Room (k + 1) X.A) (hb : Binds X.K fd ps []) (hx : Passes CX X (fun _ _ _ => False)) (hg : Gl X x) (hm : X.mg x = some (.ref C)) (ha : PA X (e :: es) ta)
    (hdb : (x == ("__debug__" : Str)) = false := by decide) (he : starEach (e :: es) X.env = (false, eval e X.env) :: starEach es X.env := by rfl) (hpl : (backTo pos (starEach es X.env)).any (·.1) = false := by rfl) :
    PMk X (.Call (.Name x p) (e :: es) [] pos) (tMkO C sp [] ta) := by
  intro pins s σ H Q I h
  refine wpAny_Call_Name_kw (ld_glob I hg hm ?_ hdb)
  exact PySem.W.callWith_K (h₀ := X.base) I.ok.mod.kin T.kC (thn (ha.run pos pins s σ H _ I h) fun us s1 ⟨vs, H1, I1, r1, q⟩ => ⟨I1.kIn, call_g T iC tI F1 hr hb hx I1 r1 q⟩) he hpl
end
section
variable {P : Program} {w : World} {K : PySem.W.Frag} {mg : Str → Option Value} {base : Heap} {G : Gv} {x qual : Str} {st : Stmt} {fa C : Addr} {fd : FuncData} {k : Nat} {wd fl pn : Str} {p1 p2 p3 p4 q1 q2 q3 q4 : Pos} {j : Nat}
theorem fx2G (F : Fun K x qual st fa fd) (S : FnScope ["self", pn] ["self", pn] (defScope st)) (hb : defBody st = [.Assign [.Attribute (.Name "self" p1) "word" p2] (.Constant (.str wd) j p3) p4, .Assign [.Attribute (.Name "self" q1) fl q2] (.Name pn q3) q4]) (T : OexG K C) (hno : PySem.W.findIn K (.ref C) "word" = some none) (hnf : PySem.W.findIn K (.ref C) fl = some none)
    (hv : ∀ (f : Addr) (cdv : Value) (L : Nat), Vis (envOfC qual (defScope st) L fa cdv).scope "self") (hv2 : ∀ (f : Addr) (cdv : Value) (L : Nat), Vis (envOfC qual (defScope st) L fa cdv).scope pn) (hd1 : (pn == ("__debug__" : Str)) = false := by decide) (hd2 : (pn == ("__classdict__" : Str)) = false := by decide) :
    FnOk P w K mg base (L2.CX P w) (k + 1) fa fd ["self", pn] (spX2 K C wd fl) := by
  refine F.okX S (fun vs H Q E ⟨a, y, h, _⟩ => by rw [h]; rfl) (fun cdv A outer s H vs Q E hr ⟨a, y, h, ha, q⟩ => ?_)
  rw [hb]
  refine ⟨_, pss_cons (ps_osG (pe_var (i := 0) rfl (hv fa cdv _)) pe_str) (pss_one (ps_osG (pe_var (i := 0) rfl (hv fa cdv _)) (pe_var (i := 1) rfl (hv2 fa cdv _) hd1 hd2))), ?_⟩
  subst h
  refine ⟨_, rfl, a, C, rfl, T, hno, .inl ⟨ha, fun dx hd hne => ?_⟩⟩
  refine ⟨_, rfl, _, rfl, a, C, rfl, T, hnf, .inr ⟨dx, _, upd_same, ?_, Nat.le_of_ble_eq_true rfl, q dx hd hne⟩⟩
  rw [upd_ne hne, upd_same]
end
section
variable {G : Gv} {X : Cx} {W : WX} {e : Expr} {me : Env → Store → R Dt} {x : Str} {C fI : Addr} {k : Nat} {fd : FuncData} {wd fl pn : Str} {c : String} {p pos pos' : Pos}
theorem ds_raise1G (hX : G.xl c = some C) (hc : X.calm = true) (tk : Takes X W) (he : DE G X W e me) (T : OexG G.K C) (iC : PySem.W.findIn G.K (.ref C) "__init__" = some (some (.ref fI))) (tI : PySem.W.typeIn G.K (.ref fI) = some (.type "function"))
    (F1 : FnOk X.prog X.w X.K X.mg X.base (L2.CX X.prog X.w) k fI fd ["self", pn] (spX2 G.K C wd fl)) (hr : Room (k + 1) X.A) (hb : Binds X.K fd ["self", pn] []) (hm : X.mg x = some (.ref C)) (hg : Gl X x := by rfl)
    (hdb : (x == ("__debug__" : Str)) = false := by decide) (hst : starEach [e] X.env = (false, eval e X.env) :: starEach [] X.env := by rfl) (hpl : (backTo pos (starEach [] X.env)).any (·.1) = false := by rfl) (hK : X.K = G.K := by rfl) :
    DS G X W (.Raise (some (.Call (.Name x p) [e] [] pos)) none pos') (mRaise1 c wd fl me) := by
  obtain ⟨t, pe, q⟩ := he
  refine ⟨_, ps_raise hc tk (pmk_g1 (by rw [hK]; exact T) (by rw [hK]; exact iC) (by rw [hK]; exact tI) F1 hr hb (passes_call tk fun _ _ _ _ z => z.elim) hg hm (pa_cons pe pa_nil hst) hdb hst hpl), fun io H S en σ D so re h => ?_⟩
  refine q io H S en σ _ so re (h.bind.imp (wx_of re) fun d S1 i1 H1 g1 s1 k1 v r => ?_)
  refine ⟨Nat.le_of_ble_eq_true rfl, fun a ha => ⟨a, v, rfl, upd_same, fun dx hd hne => ⟨rfl, dx, [(fl, v), ("word", .str wd)], ?_, upd_same, ?_, ?_⟩⟩⟩
  · rw [upd_ne (Ne.symm hne), upd_same]
  · rw [upd_ne hne] at hd
    exact hd
  · rw [upd_ne hne] at hd
    refine raise_end (ns := [fl, "word"]) (vs := [v, .str wd]) s1 (re.mono g1) hX ha hd hne (fun b h1 h2 => ?_) rfl (.cons r (.cons (.str wd) .nil)) k1
    rw [upd_ne h2, upd_ne h1, upd_ne h2, upd_ne h1]
end
/-! what the head decides -/
theorem oexG_of {K : PySem.W.Frag} {C : Addr} (q : oexGB K C = true) (sa : PySem.W.findIn K (.ref C) "__setattr__" = some (some (.builtin "object.__setattr__"))) (exC : PySem.W.subIn K (.ref C) (.type "BaseException") = some true) (tyC : PySem.W.typeIn K (.ref C) = some (.type "type")) (kC : PySem.W.keepIn K (.ref C) = true) : OexG K C := by
  refine ⟨?_, sa, exC, tyC, kC⟩
  unfold oexGB at q
  split at q
  · rename_i dd cd sl ho
    split at q
    · rename_i C' bm k0 k1 k2 k3 n k5 hm hs
      simp only [Bool.and_eq_true, Bool.or_eq_true, beq_iff_eq, Bool.not_eq_true'] at q
      obtain ⟨⟨⟨rfl, hdel⟩, hdct⟩, hre⟩ := q
      obtain ⟨nm, bs, mro, ns, qn, hd, sn, sub, ab, col, del⟩ := cd
      dsimp only at hm hdel hdct
      subst hm hdel hdct
      have hsl : sl = #[k0, k1, k2, k3, some (.builtin n), k5] := by
        obtain ⟨l⟩ := sl
        simp only at hs
        rw [hs]
      subst hsl
      rcases hre with (⟨rfl, h⟩ | ⟨rfl, h⟩) | ⟨rfl, h⟩
      · exact ⟨_, _, _, _, nm, qn, ns, bs, bm, sn, sub, ab, col, dd, k0, k1, k2, k3, k5, F.excBase_ValueError, F.store_ValueError, ho, h⟩
      · exact ⟨_, _, _, _, nm, qn, ns, bs, bm, sn, sub, ab, col, dd, k0, k1, k2, k3, k5, F.excBase_LookupError, F.store_LookupError, ho, h⟩
      · exact ⟨_, _, _, _, nm, qn, ns, bs, bm, sn, sub, ab, col, dd, k0, k1, k2, k3, k5, F.excBase_IndexError, F.store_IndexError, ho, h⟩
    · cases q
  · cases q
end Dv
set_option Elab.async false
set_option linter.all false
set_option maxRecDepth 100000
set_option maxHeartbeats 4000000
set_option autoImplicit false
/-! the def that asks, and tells the word and the field of what it gets -/
namespace Dv
open PySem PySem.Spec PyProof.Rows L2
open PySem.W (exmAny)
def fieldR (fs : String → Option Str) : R Dt → R Dt
  | .ok _ S => .ok .non S
  | .err x S => match fldX x "word", fs x.c with
    | some w, none => .ok (.tup [w]) S
    | some w, some f => (match fldX x f with
      | some y => .ok (.tup [w, y]) S
      | none => .stuck)
    | none, _ => .stuck
  | .stuck => .stuck
theorem fieldR_ne (fs : String → Option Str) (r : R Dt) : NoErr (fieldR fs r) := by
  cases r with
  | ok d S => trivial
  | stuck => trivial
  | err x S =>
    unfold fieldR
    dsimp only
    split
    · trivial
    · split <;> trivial
    · trivial
/-- (e.word, e.f) or (e.word,), said of a suite -/
def tFld (K : PySem.W.Frag) (a : Addr) (cls : Value) (d : Option Addr) : Option Str → TE
  | none => tTup (tCons (tXfA K a cls d "word" (tVar 2)) tNil)
  | some f => tTup (tCons (tXfA K a cls d "word" (tVar 2)) (tCons (tXfA K a cls d f (tVar 2)) tNil))
def fClOf (K : PySem.W.Frag) (p : List Addr × Option Str) : Cl := (p.1.map Value.ref, fun a cls d => tAsg (tFld K a cls d p.2) (gName 1))
theorem wAsN_fld {K : PySem.W.Frag} {C : Addr} {i : Nat} {Wout : WX} {D : Ends} {dd : Option Addr} {σ : L2.St} {H : Hp} {f : Option Str} : ∀ {l : FCl}, fldB K C l = some f →
    (∀ a, H a = none → tAsg (tFld K a (.ref C) dd f) (gName 1) { nx := fun σ' H' => D.nx (σ'.set i none) H', rt := D.rt, bk := fun σ' H' => D.bk (σ'.set i none) H', ct := fun σ' H' => D.ct (σ'.set i none) H' } (σ.set i (some (.ref a))) H) →
    wAsN K i Wout D (l.map (fClOf K)) (.ref C) dd σ H
  | [], h, _ => by cases h
  | (cs, g) :: l, h, q => by
    unfold fldB at h
    split at h
    · rename_i e
      cases h
      exact ⟨true, e, fun _ a na => q a na, fun z => by cases z⟩
    · rename_i e
      exact ⟨false, e, (fun z => by cases z), fun _ => wAsN_fld h q⟩
    · cases h
/-! the clauses as they stand -/
inductive FNs (mg : Str → Option Value) (sg : Scope) : List Expr → List Addr → Prop
  | nil : FNs mg sg [] []
  | cons {x : Str} {C : Addr} {np : Pos} {es : List Expr} {cs : List Addr} (hm : mg x = some (.ref C)) (hg : sg.names.lookup x = some .globalImplicit) (hd : (x == ("__debug__" : Str)) = false) (r : FNs mg sg es cs) : FNs mg sg (.Name x np :: es) (C :: cs)
inductive FTst (mg : Str → Option Value) (sg : Scope) : Expr → List Addr → Prop
  | one {x : Str} {C : Addr} {np : Pos} (hm : mg x = some (.ref C)) (hg : sg.names.lookup x = some .globalImplicit) (hd : (x == ("__debug__" : Str)) = false) : FTst mg sg (.Name x np) [C]
  | tup {es : List Expr} {cs : List Addr} {k : Nat} {pos : Pos} (h : FNs mg sg es cs) (hl : cs.length ≤ 64) : FTst mg sg (.Tuple es k pos) cs
inductive FHds (mg : Str → Option Value) (sg : Scope) : List ExceptHandler → FCl → Prop
  | nil : FHds mg sg [] []
  | one {te : Expr} {cs : List Addr} {p1 p2 p3 p4 p5 p6 : Pos} {k : Nat} {hds : List ExceptHandler} {l : FCl} (h : FTst mg sg te cs) (r : FHds mg sg hds l) :
      FHds mg sg (.ExceptHandler (some te) (some "e") [.Assign [.Name "_law_found" p1] (.Tuple [.Attribute (.Name "e" p2) "word" p3] k p4) p5] p6 :: hds) ((cs, none) :: l)
  | two {te : Expr} {cs : List Addr} {f : Str} {p1 p2 p3 p4 p5 p6 p7 p8 : Pos} {k : Nat} {hds : List ExceptHandler} {l : FCl} (h : FTst mg sg te cs) (r : FHds mg sg hds l) :
      FHds mg sg (.ExceptHandler (some te) (some "e") [.Assign [.Name "_law_found" p1] (.Tuple [.Attribute (.Name "e" p2) "word" p3, .Attribute (.Name "e" p7) f p8] k p4) p5] p6 :: hds) ((cs, some f) :: l)
theorem fns_ok {Z : Cx} {sg : Scope} (hg : ∀ x, sg.names.lookup x = some .globalImplicit → Gl Z x) {es : List Expr} {cs : List Addr} (h : FNs Z.mg sg es cs) : NamesL Z es (cs.map Value.ref) := by
  induction h with
  | nil => exact .nil
  | cons hm h1 hd r ih => exact .cons ⟨hg _ h1, hd, .inl hm⟩ rfl ih
theorem ftst_ok {Z : Cx} {sg : Scope} (hg : ∀ x, sg.names.lookup x = some .globalImplicit → Gl Z x) {te : Expr} {cs : List Addr} (h : FTst Z.mg sg te cs) : Tst Z te (cs.map Value.ref) := by
  cases h with
  | one hm h1 hd => exact .one ⟨hg _ h1, hd, .inl hm⟩
  | tup h hl => exact .tup (fns_ok hg h) (by rw [List.length_map]; exact hl)
theorem fhds_ok {Z : Cx} {sg : Scope} (hg : ∀ x, sg.names.lookup x = some .globalImplicit → Gl Z x) (hN : Z.N = (["_law_ask", "_law_found", "e"] : List Str)) (nd : Z.N.Nodup) (v1 : Z.env.scope.names.lookup ("_law_found" : Str) = some .local) (v2 : Vis Z.env.scope "e") {hds : List ExceptHandler} {l : FCl} (h : FHds Z.mg sg hds l) :
    HdsN Z "e" hds (l.map (fClOf Z.K)) := by
  induction h with
  | nil => exact .nil
  | one h r ih =>
    refine .cons (ftst_ok hg h) (fun a oe cls d pn hz hf => ?_) ih
    have v := fun {p : Pos} => pe_var (X := Z.suite a ((a, oe) :: pn)) (i := 2) (x := "e") (pos := p) (by rw [show (Z.suite a ((a, oe) :: pn)).N = Z.N from rfl, hN]; rfl) v2
    exact pss_one (ps_set (X := Z.suite a ((a, oe) :: pn)) (i := 1) nd (by rw [show (Z.suite a ((a, oe) :: pn)).N = Z.N from rfl, hN]; rfl) (.inl v1) (pe_tup (pa_cons (pe_xfA hz hf v) pa_nil (by rfl))) rfl (.inr v1))
  | two h r ih =>
    refine .cons (ftst_ok hg h) (fun a oe cls d pn hz hf => ?_) ih
    have v := fun {p : Pos} => pe_var (X := Z.suite a ((a, oe) :: pn)) (i := 2) (x := "e") (pos := p) (by rw [show (Z.suite a ((a, oe) :: pn)).N = Z.N from rfl, hN]; rfl) v2
    exact pss_one (ps_set (X := Z.suite a ((a, oe) :: pn)) (i := 1) nd (by rw [show (Z.suite a ((a, oe) :: pn)).N = Z.N from rfl, hN]; rfl) (.inl v1) (pe_tup (pa_cons (pe_xfA hz hf v) (pa_cons (pe_xfA hz hf v) pa_nil (by rfl)) (by rfl))) rfl (.inr v1))
theorem field_gives {G : Gv} {X : Cx} {sg : Scope} {g : Addr} {cdg : Value} {bg : List Stmt} {q : Str} {x : Str} {p1 p2 p3 p4 p5 p6 p7 p8 p9 : Pos} {j1 : Nat} {hds : List ExceptHandler} {h₀ : ExceptHandler} {L : FCl} {fs : String → Option Str}
    (hb : bg = [.Assign [.Name "_law_found" p1] (.Constant .none j1 p2) p3, .Try [.Expr (.Call (.Name "_law_ask" p4) [] [] p5) p6] (h₀ :: hds) [] [] p7, .Return (some (.Name "_law_found" p8)) p9])
    (Sg : FnScope ["_law_ask", "_law_found", "e"] ["_law_ask"] sg)
    (l1 : sg.names.lookup ("_law_found" : Str) = some .local) (l3 : sg.names.lookup ("e" : Str) = some .local) (FH : FHds X.mg sg (h₀ :: hds) L)
    (xf : ∀ c C, G.xl c = some C → XfC G.K C ∧ PySem.W.findIn G.K (.ref C) "word" = some none) (hw : ∀ c C, G.xl c = some C → fldB G.K C L = some (fs c)) (hf : ∀ c C f, G.xl c = some C → fs c = some f → PySem.W.findIn G.K (.ref C) f = some none) (hK : X.K = G.K) :
    GivesS X ["_law_ask", "_law_found", "e"] x sg g cdg bg "_law_ask" q (TAsk G (fieldR fs)) := by
  subst hb
  intro f c' s H Q tl act hc h
  let Z : Cx := (cxOf C8.CX0 X.prog X.w X.K X.mg X.base ["_law_ask", "_law_found", "e"] x sg g cdg X.A X.stack s H C8.E0).nox
  have nd : Z.N.Nodup := Sg.nd
  have v1 : Vis Z.env.scope "_law_found" := .inl l1
  have v3 : Vis Z.env.scope "e" := .inl l3
  have hh : HdsN Z "e" (h₀ :: hds) (L.map (fClOf Z.K)) := fhds_ok (Z := Z) (sg := sg) (fun x h => h) rfl nd l1 v3 FH
  have tr : PS Z (.Try [.Expr (.Call (.Name "_law_ask" p4) [] [] p5) p6] (h₀ :: hds) [] [] p7) _ := ps_try_asN (X := Z) (n := "e") (i := 2) (pos := p7) (l := L.map (fClOf Z.K)) (Wout := fun _ _ _ _ => False) (body := [.Expr (.Call (.Name "_law_ask" p4) [] [] p5) p6])
    (tb := fun W D σ H => σ[0]? = some (some (.ref f)) ∧ H c' = some (LamX.CodeO c' q) ∧ tl (fun cls d H' => W cls d σ H') H fun v H' => D.nx σ H')
    rfl rfl nd rfl l3 LamX.takes0 (fun W pn xe tk _ => by
      have hp := act W pn xe (fun σ cls d H' => W cls d σ H') p4 p5 tk (fun _ _ _ _ h => h)
      have hq := pss_one (ps_expr (X := Z.tr pn xe) (pos := p6) hp)
      exact ⟨fun pins s' σ H' D I h => hq.run pins s' σ H' D I h⟩)
    hh
  refine ⟨_, pss_cons (ps_set (X := Z) (i := 1) nd rfl (.inl l1) pe_non rfl (.inr l1)) (pss_cons tr (pss_one (ps_ret (pe_var (i := 1) rfl v1)))), ?_⟩
  obtain ⟨io, S, r, so, ha, ho⟩ := h
  refine ⟨rfl, hc, ha _ _ ?_⟩
  cases r with
  | stuck => exact ho
  | ok d S1 =>
    intro io' H' g so' v rv
    exact ⟨.non, rfl, ho io' _ g so' _ .non⟩
  | err x S1 =>
    intro io' H' g so' cls dx rx
    obtain ⟨C, aX, vs, rfl, hC, rfl, hX, nX, lX, rX⟩ := rx
    have hfl : fldB Z.K C L = some (fs x.c) := by rw [show Z.K = G.K from hK]; exact hw _ _ hC
    have ef : fldX x "word" ≠ none := fun z => by
      unfold fieldR at ho
      dsimp only at ho
      rw [z] at ho
      exact ho
    obtain ⟨w, ew⟩ := Option.ne_none_iff_exists'.mp ef
    obtain ⟨vw, ev, rw_⟩ := fldX_rel rX ew
    unfold fieldR at ho
    dsimp only at ho
    rw [ew] at ho
    refine wAsN_fld hfl fun a na => ?_
    cases hfs : fs x.c with
    | none =>
      rw [hfs] at ho
      refine ⟨C, (hK ▸ xf _ _ hC), ?_⟩
      refine ⟨.ref a, rfl, rfl, rfl, aX, _, vw, rfl, hX, ev, ?_⟩
      refine ⟨by rw [sizeLine_eq]; exact (by decide : 1 ≤ 16777216), fun p hp => ?_⟩
      obtain ⟨g2, s2, r2⟩ := new_tup so' (.cons rw_ .nil) hp
      exact ⟨.ref p, rfl, ho io' _ (g.trans g2) s2 _ r2⟩
    | some f =>
      rw [hfs] at ho
      dsimp only at ho
      have ef2 : fldX x f ≠ none := fun z => by
        rw [z] at ho
        exact ho
      obtain ⟨y, ey⟩ := Option.ne_none_iff_exists'.mp ef2
      obtain ⟨vy, evy, ry⟩ := fldX_rel rX ey
      rw [ey] at ho
      refine ⟨C, (hK ▸ xf _ _ hC), ?_⟩
      refine ⟨.ref a, rfl, rfl, rfl, aX, _, vw, rfl, hX, ev, ?_⟩
      refine ⟨C, ⟨(hK ▸ (xf _ _ hC).1), (hK ▸ hf _ _ f hC hfs)⟩, ?_⟩
      refine ⟨.ref a, rfl, rfl, rfl, aX, _, vy, rfl, hX, evy, ?_⟩
      refine ⟨by rw [sizeLine_eq]; exact (by decide : 2 ≤ 16777216), fun p hp => ?_⟩
      obtain ⟨g2, s2, r2⟩ := new_tup so' (.cons rw_ (.cons ry .nil)) hp
      exact ⟨.ref p, rfl, ho io' _ (g.trans g2) s2 _ r2⟩
end Dv
set_option Elab.async false
set_option linter.all false
set_option maxRecDepth 100000
set_option maxHeartbeats 4000000
set_option autoImplicit false
/-! a method called without its keyword-only parameters -/
namespace Dv
open PySem PySem.Spec PyProof.Rows L2
section
end
end Dv
set_option Elab.async false
set_option linter.all false
set_option maxRecDepth 100000
set_option maxHeartbeats 4000000
set_option autoImplicit false
/-! o[a:b] = a list, o a list of the store -/
namespace Dv
open PySem PySem.Spec PyProof.Rows L2
section
end
end Dv
set_option Elab.async false
set_option linter.all false
set_option maxRecDepth 100000
set_option maxHeartbeats 4000000
set_option autoImplicit false
/-! del o[a:b], o a list of the store -/
namespace Dv
open PySem PySem.Spec PyProof.Rows L2
section
end
section
end
/-! words of the walks -/
section
end
end Dv
set_option Elab.async false
set_option linter.all false
set_option maxRecDepth 100000
set_option maxHeartbeats 4000000
set_option autoImplicit false
/-! == of two dicts of the same two text keys, whose values are lists -/
namespace Dv
open PySem PySem.Spec PyProof.Rows L2
section
end
section
end
section
end
end Dv
set_option Elab.async false
set_option linter.all false
set_option maxRecDepth 100000
set_option maxHeartbeats 4000000
set_option autoImplicit false
/-! TABLE.get(key, z): a dict of the module with text keys and whole numbers -/
namespace Dv
open PySem PySem.Spec PyProof.Rows L2
section
end
section
end
section
end
end Dv
set_option Elab.async false
set_option linter.all false
set_option maxRecDepth 100000
set_option maxHeartbeats 4000000
set_option autoImplicit false
/-! a, b, c = x, y, z: plain names -/
namespace Dv
open PySem PySem.Spec PyProof.Rows L2
section
end
section
end
end Dv
set_option Elab.async false
set_option linter.all false
set_option maxRecDepth 100000
set_option maxHeartbeats 4000000
set_option autoImplicit false
/-! xs.insert(i, y), xs a list of the store, i not below nought -/
namespace Dv
open PySem PySem.Spec PyProof.Rows L2
section
end
end Dv
set_option Elab.async false
set_option linter.all false
set_option maxRecDepth 100000
set_option maxHeartbeats 4000000
set_option autoImplicit false
/-! try: .. except (A, B, ..): .., nothing bound -/
namespace Dv
open PySem PySem.Spec PyProof.Rows L2
open PySem.W (exmOne exmAny Frag Looks)
section
end
section
end
end Dv
set_option Elab.async false
set_option linter.all false
set_option maxRecDepth 100000
set_option maxHeartbeats 4000000
set_option autoImplicit false
/-! a tuple so often -/
namespace Dv
open PySem PySem.Spec PyProof.Rows L2
section
end
end Dv
set_option Elab.async false
set_option linter.all false
set_option maxRecDepth 100000
set_option maxHeartbeats 4000000
set_option autoImplicit false
/-! a tuple so often, also once or never -/
namespace Dv
open PySem PySem.Spec PyProof.Rows L2
section
end
section
end
end Dv
set_option Elab.async false
set_option linter.all false
set_option maxRecDepth 100000
set_option maxHeartbeats 4000000
set_option autoImplicit false
/-! for at, thing in enumerate(row), the row an object of the store that stays as it is meanwhile -/
noncomputable section
namespace Dv
open PySem PySem.Spec PyProof.Rows L2
/-- an iterator over these items while c is true of the store -/
structure JOkS (G : Gv) (c : Store → Prop) (io0 : Io) (H0 : Hp) (J : It) (items : List Dt) : Prop where
  go : ∀ i io H S, Grow io0 H0 io H → StoreOk G io S H → c S → i < items.length → J.go i H
  stop : ∀ i io H S, Grow io0 H0 io H → StoreOk G io S H → c S → items.length ≤ i → J.stop i H
  yld : ∀ i io H S x H', Grow io0 H0 io H → StoreOk G io S H → c S → (∀ a, H a = none → a ∉ io) → i < items.length → J.yld i H x H' → ExtH H H' ∧ ∃ d, items[i]? = some d ∧ RelD G io H' d x
theorem JOkS.of {G : Gv} {c : Store → Prop} {io0 : Io} {H0 : Hp} {J : It} {items : List Dt} (j : JOk G io0 H0 J items) : JOkS G c io0 H0 J items :=
  ⟨fun i io H S g _ _ h => j.go i io H g.base h, fun i io H S g _ _ h => j.stop i io H g.base h, fun i io H S x H' g _ _ f h y => j.yld i io H x H' g.base f h y⟩
section
end
section
end
end Dv
end
set_option Elab.async false
set_option linter.all false
set_option maxRecDepth 100000
set_option maxHeartbeats 4000000
set_option autoImplicit false
/-! for and [..] over a list of the store that stays as it is meanwhile -/
noncomputable section
namespace Dv
open PySem PySem.Spec PyProof.Rows L2
/-- an iterator over these items while c is true of the store -/
structure JOkB (G : Gv) (c : Store → Prop) (io0 : Io) (H0 : Hp) (J : It) (items : List Dt) : Prop where
  go : ∀ i io H S, Base io0 H0 io H → StoreOk G io S H → c S → i < items.length → J.go i H
  stop : ∀ i io H S, Base io0 H0 io H → StoreOk G io S H → c S → items.length ≤ i → J.stop i H
  yld : ∀ i io H S x H', Base io0 H0 io H → StoreOk G io S H → c S → (∀ a, H a = none → a ∉ io) → i < items.length → J.yld i H x H' → ExtH H H' ∧ ∃ d, items[i]? = some d ∧ RelD G io H' d x
theorem JOkB.of {G : Gv} {c : Store → Prop} {io0 : Io} {H0 : Hp} {J : It} {items : List Dt} (j : JOk G io0 H0 J items) : JOkB G c io0 H0 J items :=
  ⟨fun i io H S g _ _ h => j.go i io H g h, fun i io H S g _ _ h => j.stop i io H g h, fun i io H S x H' g _ _ f h y => j.yld i io H x H' g f h y⟩
section
end
section
end
section
end
end Dv
end
set_option Elab.async false
set_option linter.all false
set_option maxRecDepth 100000
set_option maxHeartbeats 4000000
set_option autoImplicit false
/-! [..] that stays an object, over a list of the store -/
noncomputable section
namespace Dv
open PySem PySem.Spec PyProof.Rows L2
section
end
section
end
end Dv
end
set_option Elab.async false
set_option linter.all false
set_option maxRecDepth 100000
set_option maxHeartbeats 4000000
set_option autoImplicit false
/-! a tuple of texts that the module names -/
namespace Dv
open PySem PySem.Spec PyProof.Rows L2
/-! max of a list of numbers -/
section
end
end Dv
set_option Elab.async false
set_option linter.all false
set_option maxRecDepth 100000
set_option maxHeartbeats 4000000
set_option autoImplicit false
/-! a lambda that is kept in a variable and handed to a def later -/
namespace Dv
open PySem PySem.Spec PyProof.Rows L2
/-- a lambda's function object at f -/
def LamO (f : Addr) (q : Str) (ar : Arguments) (body : Expr) (sc : Scope) (cl : List (Str × Addr)) (c : Addr) : HO :=
  .ext fun h => ∃ pm ctv : Value, h.get? f = some (PySem.W.kla_obj "<lambda>" q ar body sc cl pm c ctv)
section
variable {f c : Addr} {q : Str} {ar : Arguments} {body : Expr} {sc : Scope} {cl : List (Str × Addr)}
theorem lamO_nt : NoTb (LamO f q ar body sc cl c) := fun ps e => by
  unfold LamO at e
  cases e
theorem codeO_nt : NoTb (LamX.CodeO c q) := fun ps e => LamX.codeO_ne ps e
theorem lamO_new {P : Program} {w : World} {H : Hp} {h : Heap} {pm ctv : Value} (e : h.get? f = some (PySem.W.kla_obj "<lambda>" q ar body sc cl pm c ctv)) : ObjOk P w H h f (LamO f q ar body sc cl c) :=
  ⟨⟨pm, ctv, e⟩, ⟨_, e⟩, fun h1 h2 z k => by
    obtain ⟨a, b, z⟩ := z
    exact ⟨a, b, k _ z⟩⟩
theorem lamO_at {P : Program} {w : World} {H : Hp} {h : Heap} (hok : HOk P w H h) (e : H f = some (LamO f q ar body sc cl c)) : ∃ pm ctv : Value, h.get? f = some (PySem.W.kla_obj "<lambda>" q ar body sc cl pm c ctv) := by
  obtain ⟨z, _, _⟩ := hok f _ e
  exact z
end
/-- what the making of a lambda leads to: its object is new -/
def tLamE (T : List (Addr × Str)) (q : Str) (ar : Arguments) (body : Expr) (sc : Scope) (cl : List (Str × Addr)) : TE := fun _ H Q =>
  LamX.Tabs T H ∧ ∀ (f c : Addr) (H1 : Hp), LamX.ExtN H H1 → LamX.Tabs T H1 → H f = none → (H c = none ∨ H c = some (LamX.CodeO c q)) → H1 f = some (LamO f q ar body sc cl c) → H1 c = some (LamX.CodeO c q) → Q (.ref f) H1
section
variable {X : Cx} {pins : List (Addr × Obj)} {σ : L2.St} {H : Hp} {s : Shared}
theorem pe_lamE {T : List (Addr × Str)} {c P : Addr} {ar : Arguments} {body : Expr} {sc : Scope} {pos : Pos} (TB : LamX.TabB X.base X.mg c P) (hcode : X.env.code = .ref c) (hm : (P, X.env.qual ++ "<lambda>") ∈ T)
    (hu : ∀ p ∈ T, p.1 = P → p.2 = X.env.qual ++ "<lambda>") (L : LamX.LamS X.env.scope sc) (hdef : defaultsOf ar X.env = ([], [])) :
    PE X (.Lambda ar body sc pos) (tLamE T (X.env.qual ++ "<lambda>") ar body sc (cloFrom X.env.cells sc.names [])) := by
  generalize hq : X.env.qual ++ "<lambda>" = q at hm hu
  refine ⟨fun pins s σ H Q I h => ?_⟩
  obtain ⟨tabs, fin⟩ := h
  obtain ⟨rows, atP, trip, codes⟩ := tabs _ hm
  refine PySem.W.kla_eval hdef ?_
  have clo := closure_ok (env := X.env) (L.has I.ok)
  have gl := I.mod.glob.keeps I.bk
  have cd := TB.code.keeps I.bk
  have bi := TB.bm.keeps I.bk
  have tabP : s.heap.get? P = some { cls := .none, data := .fields rows } := I.hok P _ atP
  cases found : codeAmong pos rows.toList with
  | some cv =>
    obtain ⟨c1, ec, hco⟩ := codes pos cv found
    subst ec
    refine PySem.W.kla_makeFunctionHit (mg := X.mg) (c := c) (P := P) (ps := rows) clo I.ok.glob gl hcode cd tabP trip found bi fun ctv g tk keep size => ?_
    have I0 : Inv X pins σ H { s with heap := g, toks := tk } := I.kept keep
    have free : H g.objs.size = none := I.hok.fresh size
    rw [hq]
    have I1 := I0.laid (t' := tk) (a := g.objs.size) (o := LamO g.objs.size q ar body sc (cloFrom X.env.cells sc.names []) c1)
      (h' := g.push (PySem.W.kla_obj "<lambda>" q ar body sc (cloFrom X.env.cells sc.names []) ((X.mg "__name__").getD .none) c1 ctv)) (fun b o e => Heap.get?_push_of_some _ e) (Nat.le_refl _) (lamO_new (Heap.get?_push_size _ rfl))
    have ext : ∀ b o, H b = some o → upd H g.objs.size (LamO g.objs.size q ar body sc (cloFrom X.env.cells sc.names []) c1) b = some o := fun b o e => by
      rw [upd_ne (ne_of_none e free)]
      exact e
    exact ⟨.ref g.objs.size, _, I1, rfl, fin _ c1 _ (LamX.ExtN.of ext) (tabs.ext ext) free (.inr hco) upd_same (ext _ _ hco)⟩
  | none =>
    refine PySem.W.kla_makeFunction (mg := X.mg) (c := c) (P := P) (ps := rows) clo I.ok.glob gl hcode cd tabP trip found TB.gP bi fun c1 ctv g tk ext ge lt rec tabN => ?_
    rw [hq] at rec
    rw [hq]
    obtain ⟨c2, oc, vs, t, e2, hoc, hd, hv⟩ := rec
    cases e2
    have size : s.heap.objs.size ≤ g.objs.size := Nat.le_trans ge (Nat.le_of_lt lt)
    have freeC : H c1 = none := I.hok.fresh ge
    have I0 := LamX.inv_table (t' := tk) (q := q) (more := #[rawInt pos.line, rawInt pos.col, .ref c1]) (h' := g) I atP (fun b o hb e => ext b o hb e) tabN ge ⟨oc, vs, t, hoc, hd, hv⟩
    generalize hH : upd (upd H P (.tbl (rows ++ #[rawInt pos.line, rawInt pos.col, .ref c1]))) c1 (LamX.CodeO c1 q) = H0 at I0
    have other : ∀ b o, H b = some o → (∀ ps, o ≠ .tbl ps) → H0 b = some o := fun b o e n => by
      rw [← hH, upd_ne (ne_of_none e freeC), upd_ne (fun z => n rows (Option.some.inj (e.symm.trans (by rw [z]; exact atP))))]
      exact e
    have nP : P ≠ c1 := ne_of_none atP freeC
    have codeH : H0 c1 = some (LamX.CodeO c1 q) := by
      rw [← hH]
      exact upd_same
    have free : H g.objs.size = none := I.hok.fresh size
    have free0 : H0 g.objs.size = none := by
      rw [← hH, upd_ne (Nat.ne_of_gt lt), upd_ne (Nat.ne_of_gt (Nat.lt_of_lt_of_le (Heap.lt_size tabP) size))]
      exact free
    have eL : (rows ++ #[rawInt pos.line, rawInt pos.col, .ref c1]).toList = rows.toList ++ [rawInt pos.line, rawInt pos.col, .ref c1] := by simp
    have tabs0 : LamX.Tabs T H0 := fun p hp => by
      by_cases hb : p.1 = P
      · rw [hu p hp hb, hb]
        refine ⟨_, by rw [← hH, upd_ne nP, upd_same], ?_, fun p' cv hcv => ?_⟩
        · rw [eL]
          exact PySem.TriplesOk_snoc _ _ _ _ trip
        · rw [eL] at hcv
          rcases LamX.among_app _ trip hcv with z | z
          · obtain ⟨c0, e1, e2⟩ := codes p' cv z
            exact ⟨c0, e1, other _ _ e2 LamX.codeO_ne⟩
          · exact ⟨c1, z, codeH⟩
      · obtain ⟨ps', a1, a2, a3⟩ := tabs p hp
        refine ⟨ps', ?_, a2, fun p' cv hcv => ?_⟩
        · rw [← hH, upd_ne (ne_of_none a1 freeC), upd_ne hb]
          exact a1
        · obtain ⟨c0, e1, e2⟩ := a3 p' cv hcv
          exact ⟨c0, e1, other _ _ e2 LamX.codeO_ne⟩
    have I1 := I0.laid (t' := tk) (a := g.objs.size) (o := LamO g.objs.size q ar body sc (cloFrom X.env.cells sc.names []) c1)
      (h' := g.push (PySem.W.kla_obj "<lambda>" q ar body sc (cloFrom X.env.cells sc.names []) ((X.mg "__name__").getD .none) c1 ctv)) (fun b o e => Heap.get?_push_of_some _ e) (Nat.le_refl _) (lamO_new (Heap.get?_push_size _ rfl))
    have ext1 : ∀ b o, H0 b = some o → upd H0 g.objs.size (LamO g.objs.size q ar body sc (cloFrom X.env.cells sc.names []) c1) b = some o := fun b o e => by
      rw [upd_ne (ne_of_none e free0)]
      exact e
    exact ⟨.ref g.objs.size, _, I1, rfl, fin _ c1 _ (fun b o e n => ext1 _ _ (other b o e n)) (tabs0.ext ext1) free (.inl freeC) upd_same (ext1 _ _ codeH)⟩
/-- x(), in the def that got the lambda; the lambda's object is known by what is told of the heap -/
theorem pe_actF {CXg : CXT} {Eg : XK} {Ng : List Str} {qg : Str} {sg : Scope} {g f c : Addr} {cdg : Value} {ar : Arguments} {body : Expr} {sc : Scope} {k i : Nat} {a q : Str} {pn : List (Addr × Obj)} {xe : Value → Shared → Prop} {W : WX} {E : L2.St → XK} {tb : XK → TE} {p1 p2 : Pos} (hq : X.env.qual ++ "<lambda>" = q)
    (I : Inv X pins σ H s) (L : LamX.LamS X.env.scope sc) (hbind : ∀ pm cv ctv : Value, bindArgs (PySem.W.kla_fn "<lambda>" q ar body sc (cloFrom X.env.cells sc.names []) pm cv ctv) ⟨[], []⟩ = pure [])
    (tk : Takes ((cxOf CXg X.prog X.w X.K X.mg X.base Ng qg sg g cdg X.A X.stack s H Eg).tr pn xe) W) (hW : ∀ cls d σ' H', E σ' cls d H' → W cls d σ' H') (hr : Room (k + 1) (X.A.deeper (envOfC qg sg s.heap.objs.size g cdg)))
    (hbody : ∀ (A : Around) (outer : List PySem.Env) (s : Shared) (H : Hp) (E : XK), Room k (A.deeper (LamX.lamEnv X sc s.heap.objs.size f c)) → PE (LamX.lamCx X A outer s H E sc f c) body (tb E))
    (hN : Ng[i]? = some a) (hv : Vis sg a) (hd : (a == ("__debug__" : Str)) = false := by decide) (hcd : (a == ("__classdict__" : Str)) = false := by decide) :
    PE ((cxOf CXg X.prog X.w X.K X.mg X.base Ng qg sg g cdg X.A X.stack s H Eg).tr pn xe) (.Call (.Name a p1) [] [] p2)
      (fun σZ HZ Q => σZ[i]? = some (some (.ref f)) ∧ HZ c = some (LamX.CodeO c q) ∧ HZ f = some (LamO f q ar body sc (cloFrom X.env.cells sc.names []) c) ∧ tb (E σZ) σ HZ Q) := by
  subst hq
  refine ⟨fun pinsZ sZ σZ HZ Q IZ h => ?_⟩
  obtain ⟨hs, hc, hf, ht⟩ := h
  refine wpAny_Call_Name_kw (thn ((pe_var (pos := p1) (i := i) hN hv hd hcd).run pinsZ sZ σZ HZ (fun v H1 => v = .ref f ∧ H1 = HZ) IZ ⟨.ref f, hs, rfl, rfl⟩) fun u s1 z => ?_)
  obtain ⟨v, H1, I1, r1, ev, eH⟩ := z
  subst ev
  rw [eH] at I1
  obtain rfl : u = Value.ref f := r1
  obtain ⟨pm, ctv, of1⟩ := lamO_at I1.hok hf
  refine PySem.W.callWith_F0 ⟨_, _, _, _, of1⟩ ?_
  have un : Un (frs X.stack) [] H HZ s.heap s1.heap := I1.base
  obtain ⟨⟨oc, vs, t, hoc, hdc, hvc⟩, _, _⟩ := I1.hok c _ hc
  have rc : codeAny (model X.prog X.w) (X.A.deeper (envOfC qg sg s.heap.objs.size g cdg)) (.call (.ref f) ⟨[], []⟩)
      (CR (L2.CX X.prog X.w) (envOfC qg sg s.heap.objs.size g cdg :: X.stack) X.prog X.w HZ s1 Q (E σZ)) s1 := by
    refine PySem.W.kla_callFunE hr.depth of1 rfl L.co L.gen rfl ⟨c, oc, vs, t, rfl, hoc, hdc, hvc⟩ ?_
    rw [hbind]
    refine wpAny_pure (wpAny_newFunctionEnv (fun y hy => (L.own y hy).2) (fun y hy => absurd hy (by simp)) (fun g1 hns hsb => ⟨I1.nolimit.fresh _ hsb, ?_⟩) L.kind)
    show codeAny _ _ (.expr body (LamX.lamEnv X sc s1.heap.objs.size f c)) _ _
    have kp : ∀ b o, s1.heap.get? b = some o → g1.get? b = some o := fun b o e => hsb.extBut b o (Nat.ne_of_lt (Heap.lt_size e)) (Heap.get?_push_of_some _ e)
    have J := LamX.lam_start2 (E := E σZ) (scope := sc) (f := f) (c' := c) (tk := s1.toks + ([] : List (Str × Value)).length) I L I1.env0 hr.hd un hns kp
    refine PySem.W.kla_codeExpr (wpAny_mono ((hbody _ _ s1 HZ (E σZ) (hr.deeper _)).run [] _ _ HZ Q J ht) (fun v s' z => ?_) fun e s' z => z)
    obtain ⟨w', H', J', rv, z⟩ := z
    exact ⟨w', H', J'.os, J'.bare, J'.base, J'.hok, rv, z⟩
  refine wpAny_call (codeAny_mono rc fun r s' z => ?_)
  cases r with
  | error e => exact tk e s' (XE.of_call I1 (fun cls d H' h => hW cls d σZ H' h) z)
  | ok fl =>
    cases fl with
    | ret u => exact I1.after z
    | next => exact False.elim z
    | brk => exact False.elim z
    | cont => exact False.elim z
end
/-- a lambda as it stands -/
structure LamE where
  ar : Arguments
  body : Expr
  sc : Scope
/-- what is known of the objects of the lambdas of a frame -/
def pLam (env : PySem.Env) (tbl : List LamE) (n : Nat) : Pd := fun f c u w => ∃ l, tbl[n]? = some l ∧
  u = LamO f (env.qual ++ "<lambda>") l.ar l.body l.sc (cloFrom env.cells l.sc.names []) c ∧ w = LamX.CodeO c (env.qual ++ "<lambda>")
structure LamK (X : Cx) (k : Nat) (l : LamE) (t : XK → TE) : Prop where
  ok : LamX.LamS X.env.scope l.sc
  bind : ∀ (q : Str) (cl : List (Str × Addr)) (pm cv ctv : Value), bindArgs (PySem.W.kla_fn "<lambda>" q l.ar l.body l.sc cl pm cv ctv) ⟨[], []⟩ = pure []
  body : ∀ (A : Around) (outer : List PySem.Env) (s : Shared) (H : Hp) (E : XK) (f c : Addr), Room k (A.deeper (LamX.lamEnv X l.sc s.heap.objs.size f c)) → PE (LamX.lamCx X A outer s H E l.sc f c) l.body (t E)
def tLamV (X : Cx) (k i : Nat) (TT : (XK → Hp → VK → Prop) → Hp → VK → Prop) : TE := fun σ H Q => ∃ (f c : Addr) (l : LamE) (t : XK → TE), σ[i]? = some (some (.ref f)) ∧
  H f = some (LamO f (X.env.qual ++ "<lambda>") l.ar l.body l.sc (cloFrom X.env.cells l.sc.names []) c) ∧ H c = some (LamX.CodeO c (X.env.qual ++ "<lambda>")) ∧ LamK X k l t ∧
  TT (fun E H' Q' => H' f = some (LamO f (X.env.qual ++ "<lambda>") l.ar l.body l.sc (cloFrom X.env.cells l.sc.names []) c) ∧ t E σ H' Q') H Q
/-- x(y), y a lambda's name -/
theorem pe_lamvar {X : Cx} {TT : (XK → Hp → VK → Prop) → Hp → VK → Prop} {x y a : Str} {g : Addr} {k i : Nat} {pg : Arguments} {bg : List Stmt} {sg : Scope} {dV kV doc pm cdv ct oc : Value} {an od : Option Addr} {osl : Array (Option Value)} {Ng : List Str}
    {p py pos : Pos} (hg : Gl X x) (hm : X.mg x = some (.ref g)) (hk : PySem.W.keepIn X.K (.ref g) = true)
    (lk : X.K.lookup g = some ⟨oc, od, .func (PySem.W.fnOf x x pg bg sg dV kV doc pm an cdv ct), osl⟩) (hcg : PySem.W.codeIn X.K cdv x = true) (hb : L2.Binds X.K (PySem.W.fnOf x x pg bg sg dV kV doc pm an cdv ct) [a] []) (Sg : FnScope Ng [a] sg) (hNg : Ng[0]? = some a) (hva : Vis sg a)
    (hG : GivesS X Ng x sg g cdv bg a (X.env.qual ++ "<lambda>") TT) (hr : Room (k + 2) X.A) (hy : X.N[i]? = some y) (vy : Vis X.env.scope y)
    (hdb : (x == ("__debug__" : Str)) = false := by decide) (hd : (a == ("__debug__" : Str)) = false := by decide) (hcd : (a == ("__classdict__" : Str)) = false := by decide) (hyd : (y == ("__debug__" : Str)) = false := by decide) (hyc : (y == ("__classdict__" : Str)) = false := by decide) :
    PE X (.Call (.Name x p) [.Name y py] [] pos) (tLamV X k i TT) := by
  refine ⟨fun pins s σ H Q I h => ?_⟩
  obtain ⟨f, c, l, t, hs, hf, hc, lk2, h⟩ := h
  refine wpAny_Call_Name_kw (ld_glob I hg hm ?_ hdb)
  refine PySem.W.callWith_K (h₀ := X.base) I.ok.mod.kin hk ?_ (by rfl) (by rfl)
  show wpAny _ _ (spliced ((false, eval (.Name y py) X.env) :: backTo pos (starEach [] X.env))) _ _ s
  refine Calls.spliced_cons (thn ((pe_var (pos := py) (i := i) hy vy hyd hyc).run pins s σ H (fun v H1 => v = .ref f ∧ H1 = H) I ⟨.ref f, hs, rfl, rfl⟩) fun u s1 z => ?_)
  obtain ⟨v, H1, I1, r1, ev, eH⟩ := z
  subst ev
  rw [eH] at I1
  obtain rfl : u = Value.ref f := r1
  refine Calls.spliced_nil ⟨I1.kIn, ?_⟩
  have rc : codeAny (model X.prog X.w) X.A (.call (.ref g) ⟨[.ref f], []⟩) (CR C8.CX0 X.stack X.prog X.w H s1 Q C8.E0) s1 := by
    refine LamX.run_ofS (N := Ng) (ps := [a]) (us := [.ref f]) (vs := [.ref f]) lk hcg Sg hr I1.env0 (hb s1 [.ref f] I1.kIn rfl) (.cons rfl .nil) rfl fun hr' => ?_
    obtain ⟨t', ht', hq'⟩ := hG f c s1 H Q (fun E H' Q' => H' f = some (LamO f (X.env.qual ++ "<lambda>") l.ar l.body l.sc (cloFrom X.env.cells l.sc.names []) c) ∧ t E σ H' Q')
      (fun W pn xe E p1 p2 tk hW => pe_actF (i := 0) rfl I1 lk2.ok (lk2.bind _ _) tk hW hr' (fun A outer s H E hr2 => lk2.body A outer s H E f c hr2) hNg hva hd hcd) hc h
    exact ⟨t', ht'.nox, hq'⟩
  refine wpAny_call (codeAny_mono rc fun r s2 z => ?_)
  cases r with
  | error e => exact (show False from z).elim
  | ok fl =>
    cases fl with
    | ret u => exact I1.after z
    | next => exact False.elim z
    | brk => exact False.elim z
    | cont => exact False.elim z
section
variable {G : Gv} {X : Cx} {W : WX}
theorem so_not {io : Io} {S : Store} {H : Hp} {a : Addr} (so : StoreOk G io S H) (h : H a = none) : a ∉ io := by
  rintro (z | z)
  · obtain ⟨i, hi, e⟩ := List.getElem_of_mem z
    have hl : i < S.length := by rw [so.len]; exact hi
    obtain ⟨u, e2⟩ := (so.ob i S[i] a (List.getElem?_eq_getElem hl) (by rw [List.getElem?_eq_getElem hi, e])).there
    rw [h] at e2
    cases e2
  · obtain ⟨u, e2, _⟩ := so.hid a z
    rw [h] at e2
    cases e2
theorem so_notC {io : Io} {S : Store} {H : Hp} {a : Addr} {q : Str} (so : StoreOk G io S H) (h : H a = some (LamX.CodeO a q)) : a ∉ io := by
  rintro (z | z)
  · obtain ⟨i, hi, e⟩ := List.getElem_of_mem z
    have hl : i < S.length := by rw [so.len]; exact hi
    have r := so.ob i S[i] a (List.getElem?_eq_getElem hl) (by rw [List.getElem?_eq_getElem hi, e])
    unfold LamX.CodeO at h
    generalize S[i] = o at r
    cases r with
    | lst e2 _ => rw [h] at e2; cases e2
    | ins e2 _ _ _ => rw [h] at e2; cases e2
    | dct e2 _ _ => rw [h] at e2; cases e2
  · obtain ⟨u, e2, nt⟩ := so.hid a z
    unfold LamX.CodeO at h
    rw [h] at e2
    exact nt.2 _ (Option.some.inj e2).symm
/-- lambda: e, as a value -/
theorem de_lam {c P : Addr} {n : Nat} {tbl : List LamE} {ar : Arguments} {body : Expr} {sc : Scope} {pos : Pos} (TB : LamX.TabB X.base X.mg c P) (hcode : X.env.code = .ref c) (hmT : (P, X.env.qual ++ "<lambda>") ∈ G.T) (hu : ∀ p ∈ G.T, ∀ q ∈ G.T, p.1 = q.1 → p.2 = q.2)
    (ht : tbl[n]? = some ⟨ar, body, sc⟩ := by rfl) (L : LamX.LamS X.env.scope sc := by exact LamX.lamS_by rfl) (hdef : defaultsOf ar X.env = ([], []) := by rfl) : DE G X W (.Lambda ar body sc pos) (mC (.lam n (pLam X.env tbl n))) := by
  refine ⟨_, pe_lamE TB hcode hmT (fun q hq e => hu q hq _ hmT e) L hdef, fun io H S en σ Q so re h => ?_⟩
  refine ⟨so.tab, fun f c1 H1 e t1 hf hc h1 h2 => ?_⟩
  have cn : c1 ∉ io := by
    rcases hc with hc | hc
    · exact so_not so hc
    · exact so_notC so hc
  exact h io H1 (grow_N e) (so_N so e t1) _ (.lam ⟨_, ht, rfl, rfl⟩ ⟨h1, so_not so hf, lamO_nt⟩ ⟨h2, cn, codeO_nt⟩)
open Classical in
/-- x(y), y a lambda's name: the lambda is asked now -/
noncomputable def mAskV (P : Nat → Pd) (fn : R Dt → R Dt) (ms : List (Env → Store → R Dt)) (i : Nat) : Env → Store → R Dt := fun en S => match en[i]? with
  | some (some (.lam n p)) => if p = P n then (match ms[n]? with
    | some m => fn (m en S)
    | none => .stuck) else .stuck
  | _ => .stuck
structure LamD (G : Gv) (X : Cx) (k : Nat) (l : LamE) (m : Env → Store → R Dt) : Prop where
  ok : LamX.LamS X.env.scope l.sc
  bind : ∀ (q : Str) (cl : List (Str × Addr)) (pm cv ctv : Value), bindArgs (PySem.W.kla_fn "<lambda>" q l.ar l.body l.sc cl pm cv ctv) ⟨[], []⟩ = pure []
  body : ∀ (A : Around) (outer : List PySem.Env) (s : Shared) (H : Hp) (E : XK) (f c : Addr), Room k (A.deeper (LamX.lamEnv X l.sc s.heap.objs.size f c)) → DE G (LamX.lamCx X A outer s H E l.sc f c) (fun cls d _ H => E cls d H) l.body m
inductive LamsD (G : Gv) (X : Cx) (k : Nat) : List LamE → List (Env → Store → R Dt) → Prop
  | nil : LamsD G X k [] []
  | cons {l : LamE} {m : Env → Store → R Dt} {ls : List LamE} {ms : List (Env → Store → R Dt)} : LamD G X k l m → LamsD G X k ls ms → LamsD G X k (l :: ls) (m :: ms)
theorem LamsD.at_ {k : Nat} {ls : List LamE} {ms : List (Env → Store → R Dt)} (h : LamsD G X k ls ms) : ∀ {n : Nat} {l : LamE} {m : Env → Store → R Dt}, ls[n]? = some l → ms[n]? = some m → LamD G X k l m := by
  induction h with
  | nil => intro n l m e; simp at e
  | cons h r ih =>
    intro n l m e1 e2
    cases n with
    | zero =>
      simp at e1 e2
      subst e1 e2
      exact h
    | succ n => exact ih (by simpa using e1) (by simpa using e2)
theorem de_askV {fn : R Dt → R Dt} {x y a : Str} {g : Addr} {k i : Nat} {st : Stmt} {fd : FuncData} {Ng : List Str} {tbl : List LamE} {ms : List (Env → Store → R Dt)} {p py pos : Pos}
    (hne : ∀ r, NoErr (fn r)) (hm : X.mg x = some (.ref g)) (F : Fun G.K x x st g fd) (Sg : FnScope Ng [a] (defScope st)) (hb : L2.Binds X.K fd [a] [])
    (hG : ∀ cdv, GivesS X Ng x (defScope st) g cdv (defBody st) a (X.env.qual ++ "<lambda>") (TAsk G fn)) (hr : Room (k + 2) X.A) (hl : LamsD G X k tbl ms)
    (hy : X.N[i]? = some y := by rfl) (vy : Vis X.env.scope y := by first | exact Or.inl rfl | exact Or.inr (Or.inl rfl) | exact Or.inr (Or.inr rfl))
    (hNg : Ng[0]? = some a := by rfl) (hva : Vis (defScope st) a := by first | exact Or.inl rfl | exact Or.inr (Or.inl rfl) | exact Or.inr (Or.inr rfl)) (hg : Gl X x := by rfl) (hdb : (x == ("__debug__" : Str)) = false := by decide) (hd : (a == ("__debug__" : Str)) = false := by decide) (hcd : (a == ("__classdict__" : Str)) = false := by decide)
    (hyd : (y == ("__debug__" : Str)) = false := by decide) (hyc : (y == ("__classdict__" : Str)) = false := by decide) (hK : X.K = G.K := by rfl) :
    DE G X W (.Call (.Name x p) [.Name y py] [] pos) (mAskV (pLam X.env tbl) fn ms i) := by
  obtain ⟨oc, od, kV, doc, pm, an, cdv, ct, osl, rfl, lk, hcg⟩ := F.ex
  refine ⟨_, pe_lamvar (TT := TAsk G fn) (k := k) (i := i) hg hm (by rw [hK]; exact F.kp) (by rw [hK]; exact lk) (by rw [hK]; exact hcg) hb Sg hNg hva (hG cdv) hr hy vy hdb hd hcd hyd hyc, fun io H S en σ Q so re h => ?_⟩
  unfold mAskV at h
  split at h
  · rename_i n pp he
    split at h
    · rename_i hp
      subst hp
      split at h
      · rename_i m hm2
        obtain ⟨v, hv, rv⟩ := re.at_ i _ he
        cases rv with
        | lam hpl hf hc =>
          obtain ⟨l, hl1, hu, hw⟩ := hpl
          subst hu hw
          have ld := hl.at_ hl1 hm2
          refine ⟨_, _, l, tMe G m, hv, hf.1, hc.1, ⟨ld.ok, ld.bind, fun A outer s H E f c hr => pe_of_de (ld.body A outer s H E f c hr)⟩, ?_⟩
          refine ⟨io, S, m en S, so, fun E Q' o => ⟨hf.1, io, S, en, so, re, o⟩, ?_⟩
          exact h.noErr (hne _)
      · exact h.elim
    · exact h.elim
  · exact h.elim
end
/-- what is the same whatever is known of the lambdas' objects -/
noncomputable def mAllP (F : (Nat → Pd) → Fn) : Fn := fun ds S => open Classical in if h : ∃ r, ∀ P, F P ds S = r then Classical.choose h else .stuck
theorem mAllP_of {F : (Nat → Pd) → Fn} {ds : List Dt} {S : Store} {r : R Dt} (h : ∀ P, F P ds S = r) : mAllP F ds S = r := by
  unfold mAllP
  have e : ∃ r, ∀ P, F P ds S = r := ⟨r, h⟩
  rw [dif_pos e]
  exact (Classical.choose_spec e fun _ _ _ _ _ => True).symm.trans (h _)
theorem mAllP_out {G : Gv} {io : Io} {H : Hp} {wx : Ex → Io → Hp → Prop} {post : Dt → Store → Io → Hp → Prop} {F : (Nat → Pd) → Fn} {ds : List Dt} {S : Store} (h : Out G io H wx post (mAllP F ds S)) (P : Nat → Pd) : Out G io H wx post (F P ds S) := by
  unfold mAllP at h
  split at h
  · rename_i e
    rw [← Classical.choose_spec e P] at h
    exact h
  · exact h.elim
section
variable {G : Gv} {P : Program} {w : World} {K : PySem.W.Frag} {mg : Str → Option Value} {base : Heap}
theorem fn_okP {x qual : Str} {st : Stmt} {f : Addr} {fd : FuncData} {N ps : List Str} {k : Nat} {m : (Nat → Pd) → Env → Store → RS} (tbl : List LamE) (keep : Bool) (F : Fun K x qual st f fd) (S : FnScope N ps (defScope st))
    (hbody : ∀ (cdv : Value) (A : Around) (outer : List PySem.Env) (s : Shared) (H : Hp) (E : XK), cdv = fd.code → Room k (A.deeper (envOfC qual (defScope st) s.heap.objs.size f cdv)) →
      DB G (cxOf (L2.CX P w) P w K mg base N qual (defScope st) f cdv A outer s H E) (fun cls d _ H => E cls d H) (defBody st) (m (pLam (cxOf (L2.CX P w) P w K mg base N qual (defScope st) f cdv A outer s H E).env tbl))) :
    FnOk P w K mg base (L2.CX P w) (k + 1) f fd ps (spF G ps.length (mAllP fun p => fnRun N.length keep (m p))) := by
  have F0 := F
  obtain ⟨oc, od, kV, doc, pm, an, cdv, ct, osl, rfl, lk, hcd⟩ := F.ex
  refine fn_of lk hcd S (fun vs H Q E h => ?_) (fun A outer s H vs Q E hr h => ?_)
  · obtain ⟨io, St, ds, so, r, hl, _⟩ := h
    rw [← r.length]
    exact hl
  · obtain ⟨io, St, ds, so, r, hl, ho⟩ := h
    obtain ⟨t, p, q⟩ := hbody cdv A outer s H E rfl hr
    refine ⟨t, p, ?_⟩
    have hpl : ps.length ≤ N.length := by have := congrArg List.length S.pre; rw [List.length_take] at this; omega
    have lv := r.length
    refine q io H St _ _ _ so (rel_start r (by omega)) ?_
    have ho := mAllP_out ho (pLam (cxOf (L2.CX P w) P w K mg base N qual (defScope st) f cdv A outer s H E).env tbl)
    unfold fnRun at ho
    generalize m (pLam (cxOf (L2.CX P w) P w K mg base N qual (defScope st) f cdv A outer s H E).env tbl) (ds.map some ++ List.replicate (N.length - ds.length) none) St = em at ho ⊢
    cases em with
    | stuck => exact ho
    | err x e1 S1 => exact fun io' H' g so' σ cls dx re rx => finX_ok so g so' rx ho
    | ok fl e1 S1 =>
      cases fl with
      | nx => exact fun io' H' g so' σ re => fin_ok so g so' .non ho
      | bk => exact ho.elim
      | ct => exact ho.elim
      | rt d => exact fun io' H' g so' v r => fin_ok so g so' r ho
end
end Dv
set_option Elab.async false
set_option linter.all false
set_option maxRecDepth 100000
set_option maxHeartbeats 4000000
set_option autoImplicit false
/-! a lambda that is kept in a variable, called by the def that made it -/
namespace Dv
open PySem PySem.Spec PyProof.Rows L2
def tCallV (X : Cx) (W : WX) (k i : Nat) : TE := fun σ H Q => ∃ (f c : Addr) (l : LamE) (t : XK → TE), σ[i]? = some (some (.ref f)) ∧
  H f = some (LamO f (X.env.qual ++ "<lambda>") l.ar l.body l.sc (cloFrom X.env.cells l.sc.names []) c) ∧ H c = some (LamX.CodeO c (X.env.qual ++ "<lambda>")) ∧ LamK X k l t ∧
  t (fun cls d H' => W cls d σ H') σ H Q
theorem pe_callV {X : Cx} {W : WX} {y : Str} {k i : Nat} {py pos : Pos} (tk : Takes X W) (hr : Room (k + 1) X.A) (hy : X.N[i]? = some y) (vy : Vis X.env.scope y) (hyd : (y == ("__debug__" : Str)) = false := by decide) (hyc : (y == ("__classdict__" : Str)) = false := by decide) :
    PE X (.Call (.Name y py) [] [] pos) (tCallV X W k i) := by
  refine ⟨fun pins s σ H Q I h => ?_⟩
  obtain ⟨f, c, l, t, hs, hf, hc, lk, h⟩ := h
  refine wpAny_Call_Name_kw (thn ((pe_var (pos := py) (i := i) hy vy hyd hyc).run pins s σ H (fun v H1 => v = .ref f ∧ H1 = H) I ⟨.ref f, hs, rfl, rfl⟩) fun u s1 z => ?_)
  obtain ⟨v, H1, I1, r1, ev, eH⟩ := z
  subst ev
  rw [eH] at I1
  obtain rfl : u = Value.ref f := r1
  obtain ⟨pm, ctv, of1⟩ := lamO_at I1.hok hf
  refine PySem.W.callWith_F0 ⟨_, _, _, _, of1⟩ ?_
  obtain ⟨⟨oc, vs, t0, hoc, hdc, hvc⟩, _, _⟩ := I1.hok c _ hc
  have rc : codeAny (model X.prog X.w) X.A (.call (.ref f) ⟨[], []⟩) (CR (L2.CX X.prog X.w) X.stack X.prog X.w H s1 Q (fun cls d H' => W cls d σ H')) s1 := by
    refine PySem.W.kla_callFunE hr.depth of1 rfl lk.ok.co lk.ok.gen rfl ⟨c, oc, vs, t0, rfl, hoc, hdc, hvc⟩ ?_
    rw [lk.bind]
    refine wpAny_pure (wpAny_newFunctionEnv (fun y hy => (lk.ok.own y hy).2) (fun y hy => absurd hy (by simp)) (fun g1 hns hsb => ⟨I1.nolimit.fresh _ hsb, ?_⟩) lk.ok.kind)
    show codeAny _ _ (.expr l.body (LamX.lamEnv X l.sc s1.heap.objs.size f c)) _ _
    have kp : ∀ b o, s1.heap.get? b = some o → g1.get? b = some o := fun b o e => hsb.extBut b o (Nat.ne_of_lt (Heap.lt_size e)) (Heap.get?_push_of_some _ e)
    have J := LamX.lam_start2 (E := fun cls d H' => W cls d σ H') (scope := l.sc) (f := f) (c' := c) (tk := s1.toks + ([] : List (Str × Value)).length) I1 lk.ok I1.env0 hr.hd (Un.kept fun b o e => e) hns kp
    refine PySem.W.kla_codeExpr (wpAny_mono ((lk.body _ _ s1 H (fun cls d H' => W cls d σ H') f c (hr.deeper _)).run [] _ _ H Q J h) (fun v s' z => ?_) fun e s' z => z)
    obtain ⟨w', H', J', rv, z⟩ := z
    exact ⟨w', H', J'.os, J'.bare, J'.base, J'.hok, rv, z⟩
  refine wpAny_call (codeAny_mono rc fun r s' z => ?_)
  cases r with
  | error e => exact tk e s' (XE.of_call I1 (fun cls d H' h => h) z)
  | ok fl =>
    cases fl with
    | ret u => exact I1.after z
    | next => exact False.elim z
    | brk => exact False.elim z
    | cont => exact False.elim z
section
variable {G : Gv} {X : Cx} {W : WX}
open Classical in
/-- y(), y a lambda's name -/
noncomputable def mCallV (P : Nat → Pd) (ms : List (Env → Store → R Dt)) (i : Nat) : Env → Store → R Dt := fun en S => match en[i]? with
  | some (some (.lam n p)) => if p = P n then (match ms[n]? with
    | some m => m en S
    | none => .stuck) else .stuck
  | _ => .stuck
theorem de_callV {y : Str} {k i : Nat} {tbl : List LamE} {ms : List (Env → Store → R Dt)} {py pos : Pos} (tk : Takes X W) (hr : Room (k + 1) X.A) (hl : LamsD G X k tbl ms)
    (hy : X.N[i]? = some y := by rfl) (vy : Vis X.env.scope y := by first | exact Or.inl rfl | exact Or.inr (Or.inl rfl) | exact Or.inr (Or.inr rfl)) (hyd : (y == ("__debug__" : Str)) = false := by decide) (hyc : (y == ("__classdict__" : Str)) = false := by decide) :
    DE G X W (.Call (.Name y py) [] [] pos) (mCallV (pLam X.env tbl) ms i) := by
  refine ⟨_, pe_callV (k := k) (i := i) tk hr hy vy hyd hyc, fun io H S en σ Q so re h => ?_⟩
  unfold mCallV at h
  split at h
  · rename_i n pp he
    split at h
    · rename_i hp
      subst hp
      split at h
      · rename_i m hm2
        obtain ⟨v, hv, rv⟩ := re.at_ i _ he
        cases rv with
        | lam hpl hf hc =>
          obtain ⟨l, hl1, hu, hw⟩ := hpl
          subst hu hw
          have ld := hl.at_ hl1 hm2
          exact ⟨_, _, l, tMe G m, hv, hf.1, hc.1, ⟨ld.ok, ld.bind, fun A outer s H E f c hr => pe_of_de (ld.body A outer s H E f c hr)⟩, io, S, en, so, re, h⟩
      · exact h.elim
    · exact h.elim
  · exact h.elim
end
end Dv
set_option Elab.async false
set_option linter.all false
set_option maxRecDepth 100000
set_option maxHeartbeats 4000000
set_option autoImplicit false
/-! dict(d): another dict with the same entries -/
namespace Dv
open PySem PySem.Spec PyProof.Rows L2
def mDictC (ds : List Dt) (S : Store) : R Dt := match ds with
  | [d] => match dctD S d with
    | some (ks, vs) => .ok (.ref S.length) (S ++ [.dct ks vs])
    | none => .stuck
  | _ => .stuck
section
variable {G : Gv} {X : Cx}
theorem dc_dictC : DC G X (.type "dict") mDictC := by
  refine ⟨_, call_dictD, ?_, ?_⟩
  · intro io H S ds vs Q so r h
    unfold mDictC at h
    split at h
    · cases r with
      | cons r1 r2 =>
        cases r2
        split at h
        · rename_i ks ws he
          obtain ⟨a, us, rfl, h1, h2, h3⟩ := dctD_ok so r1 he
          refine ⟨a, _, rfl, .inl h1, fun p hp => ?_⟩
          obtain ⟨g, s⟩ := so.push (o := .dct ks ws) (u := .dK (ks.zip us)) hp (.dct upd_same h2 (h3.mono (push_grow hp)))
          exact h _ _ g s _ (.ref (by rw [List.getElem?_append_right (by rw [so.len]; exact Nat.le_refl _), so.len, Nat.sub_self]; rfl))
        · exact h.elim
    · exact h.elim
  · intro ds S
    unfold mDictC
    repeat' split
    all_goals trivial
end
theorem v_dictC {d : Dt} {ks : List Key} {ds : List Dt} {S : Store} {Q : Dt → Store → Prop} {X : Ex → Store → Prop} (e : dctD S d = some (ks, ds)) (q : Q (.ref S.length) (S ++ [.dct ks ds])) : Pe (mDictC [d] S) Q X := by
  unfold mDictC
  dsimp only
  rw [e]
  exact q
end Dv
set_option Elab.async false
set_option linter.all false
set_option maxRecDepth 100000
set_option maxHeartbeats 4000000
set_option autoImplicit false
noncomputable section
namespace Lw
open PySem Dv
/-! the defs as functions: printed by our gen.py -/
def fS : String → Option Str := fun c => if c = "BadName" then (some ("name" : Str)) else if c = "Taken" then (some ("name" : Str)) else if c = "Full" then (some ("many" : Str)) else if c = "BadTurns" then (some ("number" : Str)) else if c = "Tied" then (some ("name" : Str)) else if c = "BadWay" then none else if c = "BadRow" then (some ("at" : Str)) else if c = "Astray" then (some ("at" : Str)) else if c = "BadExchange" then (some ("at" : Str)) else if c = "BadText" then (some ("at" : Str)) else if c = "InUse" then (some ("name" : Str)) else if c = "Breaks" then (some ("name" : Str)) else if c = "BadDeed" then (some ("at" : Str)) else if c = "Missing" then none else if c = "NoName" then (some ("name" : Str)) else if c = "NoYard" then (some ("name" : Str)) else if c = "NoPassage" then (some ("name" : Str)) else if c = "NoWalk" then (some ("name" : Str)) else if c = "NothingLeft" then none else none
def b_Web_dinit : Bd :=
  (mSeq (mFldS ["Web"] "places" (mVar 0) (mTup mNil))
  (mFldS ["Web"] "roads" (mVar 0) (mTup mNil)))
def m_Web_dinit : Fn := fnRun 1 false b_Web_dinit
def b_Web_dlen : Bd :=
  (mRet (mCB mLen (mCons (mFld ["Web"] "places" (mVar 0)) mNil)))
def m_Web_dlen : Fn := fnRun 1 false b_Web_dlen
def b_is_name : Bd :=
  (mRet (mAndV (mChain mLe mLe (mC (.int 1)) (mCB mLen (mCons (mVar 0) mNil)) (mC (.int 8))) (mCB mAll (mCons (mLc [1] (mItS (mVar 0)) (wNm 1) mYes (mOp (mIn false) (mVar 1) (mC (.str "abcdefghijklmnopqrstuvwxyz")))) mNil))))
def m_is_name : Fn := fnRun 2 false b_is_name
def b_Web_need_new : Bd :=
  (mSeq (mIfS (mNotT (mTruth (mCall 1 m_is_name (mCons (mVar 1) mNil)))) (mRaise1 "BadName" "badname" "name" (mVar 1)) mNx)
  (mIfS (mOrT (mB (mOp (mIn false) (mVar 1) (mFld ["Web"] "places" (mVar 0)))) (mB (mOp (mIn false) (mVar 1) (mLc [2] (mIt (mFld ["Web"] "roads" (mVar 0))) (wNm 2) mYes (mOp mIx (mVar 2) (mC (.int 0))))))) (mRaise1 "Taken" "taken" "name" (mVar 1)) mNx))
def m_Web_need_new : Fn := fnRun 3 false b_Web_need_new
def b_Web_need_yard : Bd :=
  (mIfS (mB (mOp (mIn true) (mVar 1) (mFld ["Web"] "places" (mVar 0)))) (mRaise1 "NoYard" "noyard" "name" (mVar 1)) mNx)
def m_Web_need_yard : Fn := fnRun 2 false b_Web_need_yard
def b_Web_turned : Bd :=
  (mSeq (mSet 3 (mMake "Web" 1 m_Web_dinit mNil))
  (mSeq (mAsg (gTp 2 (gCons' (gFldD ["Web"] "places" (mVar 3)) (gCons' (gFldD ["Web"] "roads" (mVar 3)) gNil'))) (mTup (mCons (mCB mTuple (mCons (mVar 1) mNil)) (mCons (mCB mTuple (mCons (mVar 2) mNil)) mNil))))
  (mRet (mVar 3))))
def m_Web_turned : Fn := fnRun 4 false b_Web_turned
def b_is_whole : Bd :=
  (mRet (mAndV (mCB mIsi (mCons (mVar 0) (mCons (mC (.ty "int")) mNil))) (mAndV (mNotV (mCB mIsi (mCons (mVar 0) (mCons (mC (.ty "bool")) mNil)))) (mChain mLe mLe (mVar 1) (mVar 0) (mVar 2)))))
def m_is_whole : Fn := fnRun 3 false b_is_whole
def b_need_turns : Bd :=
  (mIfS (mOrT (mB (mOp mEq (mVar 0) (mC (.int 0)))) (mNotT (mTruth (mCall 3 m_is_whole (mCons (mVar 0) (mCons (mOp mSub (mC (.int 0)) (mC (.int 99))) (mCons (mC (.int 99)) mNil))))))) (mRaise1 "BadTurns" "badturns" "number" (mVar 0)) mNx)
def m_need_turns : Fn := fnRun 1 false b_need_turns
def b_Web_with_passage : Bd :=
  (mSeq (mDrop (mMeth "Web" "need_new" 2 m_Web_need_new (mVar 0) (mCons (mVar 1) mNil)))
  (mSeq (mFor (mIt (mTup (mCons (mVar 2) (mCons (mVar 3) mNil)))) (gNm 6) (mDrop (mMeth "Web" "need_yard" 2 m_Web_need_yard (mVar 0) (mCons (mVar 6) mNil))))
  (mSeq (mFor (mIt (mTup (mCons (mVar 4) (mCons (mVar 5) mNil)))) (gNm 7) (mDrop (mCall 1 m_need_turns (mCons (mVar 7) mNil))))
  (mSeq (mIfS (mB (mOp mGe (mCB mLen (mCons (mFld ["Web"] "roads" (mVar 0)) mNil)) (mC (.int 8)))) (mRaise1 "Full" "full" "many" (mC (.int 8))) mNx)
  (mRet (mMeth "Web" "turned" 3 m_Web_turned (mVar 0) (mCons (mFld ["Web"] "places" (mVar 0)) (mCons (mOp mAdd (mFld ["Web"] "roads" (mVar 0)) (mTup (mCons (mTup (mCons (mVar 1) (mCons (mVar 2) (mCons (mVar 3) (mCons (mVar 4) (mCons (mVar 5) mNil)))))) mNil))) mNil))))))))
def m_Web_with_passage : Fn := fnRun 8 false b_Web_with_passage
def b_Web_with_yard : Bd :=
  (mSeq (mDrop (mMeth "Web" "need_new" 2 m_Web_need_new (mVar 0) (mCons (mVar 1) mNil)))
  (mSeq (mIfS (mB (mOp mGe (mCB mLen (mCons (mFld ["Web"] "places" (mVar 0)) mNil)) (mC (.int 6)))) (mRaise1 "Full" "full" "many" (mC (.int 6))) mNx)
  (mRet (mMeth "Web" "turned" 3 m_Web_turned (mVar 0) (mCons (mOp mAdd (mFld ["Web"] "places" (mVar 0)) (mTup (mCons (mVar 1) mNil))) (mCons (mFld ["Web"] "roads" (mVar 0)) mNil))))))
def m_Web_with_yard : Fn := fnRun 2 false b_Web_with_yard
def b_law_draw : Bd :=
  (mSeq (mIfS (mB (mOp mGt (mOp mIx (mVar 0) (mC (.int 2))) (mC (.int 0)))) (mSeq (mSet 2 (mOp mMod (mOp mIx (mVar 0) (mC (.int 2))) (mVar 1)))
  (mSeq (mAsg (gSubD (mVar 0) (mC (.int 2))) (mOp mDiv (mOp mIx (mVar 0) (mC (.int 2))) (mVar 1)))
  (mRet (mVar 2)))) mNx)
  (mSeq (mSet 3 (mC (.int 0)))
  (mSeq (mIfS (mB (mOp mLt (mOp mIx (mVar 0) (mC (.int 1))) (mCB mLen (mCons (mOp mIx (mVar 0) (mC (.int 0))) mNil)))) (mSet 3 (mOp mIx (mOp mIx (mVar 0) (mC (.int 0))) (mOp mIx (mVar 0) (mC (.int 1))))) mNx)
  (mSeq (mAsg (gSubD (mVar 0) (mC (.int 1))) (mOp mAdd (mOp mIx (mVar 0) (mC (.int 1))) (mC (.int 1))))
  (mSeq (mIfS (mB (mOp mGe (mCB mAbs (mCons (mVar 3) mNil)) (mOp mPow (mC (.int 10)) (mC (.int 18))))) (mSeq (mAsg (gSubD (mVar 0) (mC (.int 2))) (mOp mDiv (mCB mAbs (mCons (mVar 3) mNil)) (mVar 1)))
  (mRet (mOp mMod (mCB mAbs (mCons (mVar 3) mNil)) (mVar 1)))) mNx)
  (mSeq (mSet 4 (mOp mAdd (mOp mAdd (mOp mPow (mOp mIx (mVar 0) (mC (.int 3))) (mC (.int 3))) (mOp mMul (mOp mIx (mVar 0) (mC (.int 3))) (mC (.int 37)))) (mOp mMul (mOp mIx (mVar 0) (mC (.int 1))) (mC (.int 69621)))))
  (mSeq (mSet 4 (mOp mMod (mOp mAdd (mVar 4) (mOp mMul (mOp mMod (mVar 3) (mC (.int 2147483629))) (mC (.int 48271)))) (mC (.int 2147483647))))
  (mSeq (mAsg (gSubD (mVar 0) (mC (.int 3))) (mVar 4))
  (mRet (mOp mMod (mOp mAdd (mOp mDiv (mVar 4) (mC (.int 8192))) (mOp mMul (mOp mMod (mVar 4) (mC (.int 8191))) (mC (.int 40503)))) (mVar 1)))))))))))
def m_law_draw : Fn := fnRun 5 false b_law_draw
def b_law_flow : Bd :=
  (mRet (mLstR (mCons (mCB mList (mCons (mSl (mVar 0) mNoPart (mPart (mC (.int 63)))) mNil)) (mCons (mC (.int 0)) (mCons (mC (.int 0)) (mCons (mC (.int 23)) mNil))))))
def m_law_flow : Fn := fnRun 1 true b_law_flow
def b_law_new_due : Bd :=
  (mSeq (mIfS (mOrT (mNotT (mB (mChain mLe mLe (mC (.int 1)) (mCB mLen (mCons (mVar 1) mNil)) (mC (.int 8))))) (mNotT (mTruth (mCB mAll (mCons (mLc [2] (mItS (mVar 1)) (wNm 2) mYes (mOp (mIn false) (mVar 2) (mC (.str "abcdefghijklmnopqrstuvwxyz")))) mNil))))) (mRet (mTup (mCons (mC (.str "badname")) (mCons (mVar 1) mNil)))) mNx)
  (mRet (mIf (mB (mOp (mIn false) (mVar 1) (mOp mAdd (mGetS "yards" (mVar 0)) (mLc [3] (mIt (mGetS "roads" (mVar 0))) (wNm 3) mYes (mOp mIx (mVar 3) (mC (.int 0))))))) (mTup (mCons (mC (.str "taken")) (mCons (mVar 1) mNil))) (mC .non))))
def m_law_new_due : Fn := fnRun 4 false b_law_new_due
def b_law_pick : Bd :=
  (mRet (mOp mIx (mVar 1) (mCall 2 m_law_draw (mCons (mVar 0) (mCons (mCB mLen (mCons (mVar 1) mNil)) mNil)))))
def m_law_pick : Fn := fnRun 2 false b_law_pick
def b_law_odd_name : Bd :=
  (mRet (mCall 2 m_law_pick (mCons (mVar 0) (mCons (mLst (mCons (mC (.str "")) (mCons (mC (.str "abcdefghi")) (mCons (mC (.str "A")) (mCons (mC (.str "a1")) (mCons (mC (.str "a b")) (mCons (mC (.str "_")) (mCons (mC (.str "ab-")) mNil)))))))) mNil))))
def m_law_odd_name : Fn := fnRun 1 false b_law_odd_name
def b_law_new_name : Bd :=
  (mSeq (mSet 2 (mOp mAdd (mOp mAdd (mGetS "yards" (mVar 1)) (mLc [3] (mIt (mGetS "roads" (mVar 1))) (wNm 3) mYes (mOp mIx (mVar 3) (mC (.int 0))))) (mLst (mCons (mC (.str "fresh")) (mCons (mC (.str "news")) mNil)))))
  (mSeq (mIfS (mB (mOp mEq (mCall 2 m_law_draw (mCons (mVar 0) (mCons (mC (.int 6)) mNil))) (mC (.int 0)))) (mRet (mCall 1 m_law_odd_name (mCons (mVar 0) mNil))) mNx)
  (mRet (mCall 2 m_law_pick (mCons (mVar 0) (mCons (mOp mAdd (mVar 2) (mLst (mCons (mC (.str "qa")) (mCons (mC (.str "qb")) (mCons (mC (.str "qc")) (mCons (mC (.str "qd")) (mCons (mC (.str "qe")) (mCons (mC (.str "qf")) (mCons (mC (.str "qg")) (mCons (mC (.str "qh")) mNil)))))))))) mNil))))))
def m_law_new_name : Fn := fnRun 4 false b_law_new_name
def b_law_road_due : Bd :=
  (mSeq (mSet 6 (mCall 2 m_law_new_due (mCons (mVar 0) (mCons (mVar 1) mNil))))
  (mSeq (mIfS (mB (mOp (mIs true) (mVar 6) (mC .non))) (mRet (mVar 6)) mNx)
  (mSeq (mFor (mIt (mLst (mCons (mVar 2) (mCons (mVar 3) mNil)))) (gNm 7) (mIfS (mB (mOp (mIn true) (mVar 7) (mGetS "yards" (mVar 0)))) (mRet (mTup (mCons (mC (.str "noyard")) (mCons (mVar 7) mNil)))) mNx))
  (mSeq (mFor (mIt (mLst (mCons (mVar 4) (mCons (mVar 5) mNil)))) (gNm 8) (mIfS (mOrT (mB (mOp mEq (mVar 8) (mC (.int 0)))) (mNotT (mB (mChain mLe mLe (mNeg (mC (.int 99))) (mVar 8) (mC (.int 99)))))) (mRet (mTup (mCons (mC (.str "badturns")) (mCons (mVar 8) mNil)))) mNx))
  (mRet (mIf (mB (mOp mGt (mCB mLen (mCons (mGetS "roads" (mVar 0)) mNil)) (mC (.int 7)))) (mTup (mCons (mC (.str "full")) (mCons (mC (.int 8)) mNil))) (mC .non)))))))
def m_law_road_due : Fn := fnRun 9 false b_law_road_due
def b_law_same (rc : Fn) : Bd :=
  (mSeq (mIfS (mTruth (mCB mIsi (mCons (mVar 1) (mCons (mC (.ty "bool")) mNil)))) (mRet (mAndV (mCB mIsi (mCons (mVar 0) (mCons (mC (.ty "bool")) mNil))) (mOp mEq (mVar 0) (mVar 1)))) mNx)
  (mSeq (mIfS (mB (mOp (mIs false) (mVar 1) (mC .non))) (mRet (mOp (mIs false) (mVar 0) (mC .non))) mNx)
  (mSeq (mIfS (mTruth (mCB mIsi (mCons (mVar 1) (mCons (mC (.ty "int")) mNil)))) (mRet (mAndV (mCB mIsi (mCons (mVar 0) (mCons (mC (.ty "int")) mNil))) (mAndV (mNotV (mCB mIsi (mCons (mVar 0) (mCons (mC (.ty "bool")) mNil)))) (mOp mEq (mVar 0) (mVar 1))))) mNx)
  (mSeq (mIfS (mTruth (mCB mIsi (mCons (mVar 1) (mCons (mC (.ty "str")) mNil)))) (mRet (mAndV (mCB mIsi (mCons (mVar 0) (mCons (mC (.ty "str")) mNil))) (mOp mEq (mVar 0) (mVar 1)))) mNx)
  (mSeq (mIfS (mOrT (mB (mOp mNe (mCB mIsi (mCons (mVar 1) (mCons (mC (.ty "tuple")) mNil))) (mCB mIsi (mCons (mVar 0) (mCons (mC (.ty "tuple")) mNil))))) (mB (mOp mNe (mCB mIsi (mCons (mVar 1) (mCons (mC (.ty "list")) mNil))) (mCB mIsi (mCons (mVar 0) (mCons (mC (.ty "list")) mNil)))))) (mRet (mC (.bl false))) mNx)
  (mSeq (mIfS (mOrT (mNotT (mTruth (mCB mIsi (mCons (mVar 0) (mCons (mTup (mCons (mC (.ty "tuple")) (mCons (mC (.ty "list")) mNil))) mNil))))) (mB (mOp mNe (mCB mLen (mCons (mVar 0) mNil)) (mCB mLen (mCons (mVar 1) mNil))))) (mRet (mC (.bl false))) mNx)
  (mRet (mCB mAll (mCons (mLc [2] (mRng1 (mCons (mCB mLen (mCons (mVar 1) mNil)) mNil)) (wNm 2) mYes (mCall 2 rc (mCons (mOp mIx (mVar 0) (mVar 2)) (mCons (mOp mIx (mVar 1) (mVar 2)) mNil)))) mNil)))))))))
def m_law_same : Nat → Fn
  | 0 => fun _ _ => .stuck
  | n + 1 => fnRun 3 false (b_law_same (m_law_same n))
def b_Web_drepr : Bd :=
  (mRet (mJs [(mC (.str "Web(")), (mFmt (mCB mLen (mCons (mFld ["Web"] "places" (mVar 0)) mNil))), (mC (.str " yards, ")), (mFmt (mCB mLen (mCons (mFld ["Web"] "roads" (mVar 0)) mNil))), (mC (.str " passages)"))] Str.empty))
def m_Web_drepr : Fn := fnRun 1 false b_Web_drepr
def b_Web_road_of : Bd :=
  (mSeq (mFor (mIt (mFld ["Web"] "roads" (mVar 0))) (gNm 2) (mIfS (mB (mOp mEq (mOp mIx (mVar 2) (mC (.int 0))) (mVar 1))) (mRet (mVar 2)) mNx))
  mStop)
def m_Web_road_of : Fn := fnRun 3 false b_Web_road_of
def b_Web_turned_so : Bd :=
  (mSeq (mAsg (gTp 2 (gCons' (gNm 3) (gCons' (gNm 4) gNil'))) (mVar 1))
  (mSeq (mSet 5 (mMeth "Web" "road_of" 2 m_Web_road_of (mVar 0) (mCons (mVar 3) mNil)))
  (mSeq (mIfS (mB (mOp (mIn true) (mVar 4) (mTup (mCons (mC (.int 1)) (mCons (mNeg (mC (.int 1))) mNil))))) mStop mNx)
  (mRet (mIf (mB (mOp mEq (mVar 4) (mC (.int 1)))) (mTup (mCons (mOp mIx (mVar 5) (mVar 2)) (mCons (mOp mIx (mVar 5) (mOp mAdd (mVar 2) (mC (.int 1)))) mNil))) (mTup (mCons (mOp mIx (mVar 5) (mOp mAdd (mVar 2) (mC (.int 1)))) (mCons (mOp mIx (mVar 5) (mVar 2)) mNil))))))))
def m_Web_turned_so : Fn := fnRun 6 false b_Web_turned_so
def b_Web_ends : Bd :=
  (mRet (mMeth "Web" "turned_so" 3 m_Web_turned_so (mVar 0) (mCons (mVar 1) (mCons (mC (.int 1)) mNil))))
def m_Web_ends : Fn := fnRun 2 false b_Web_ends
def b_Web_passages : Bd :=
  (mRet (mCB mList (mCons (mFld ["Web"] "roads" (mVar 0)) mNil)))
def m_Web_passages : Fn := fnRun 1 false b_Web_passages
def b_Web_rule : Bd :=
  (mRet (mMeth "Web" "turned_so" 3 m_Web_turned_so (mVar 0) (mCons (mVar 1) (mCons (mC (.int 3)) mNil))))
def m_Web_rule : Fn := fnRun 2 false b_Web_rule
def b_Web_steps_from : Bd :=
  (mSeq (mDrop (mMeth "Web" "need_yard" 2 m_Web_need_yard (mVar 0) (mCons (mVar 1) mNil)))
  (mSeq (mSet 2 (mLstR mNil))
  (mSeq (mFor (mIt (mFld ["Web"] "roads" (mVar 0))) (gSt 4 3 (gCons' (gNm 3) (gCons' (gNm 4) (gCons' (gNm 5) (gCons' (gNm 6) gNil'))))) (mSeq (mIfS (mB (mOp mEq (mVar 4) (mVar 1))) (mDrop (mApp1 (mVar 2) (mTup (mCons (mVar 3) (mCons (mC (.int 1)) mNil))))) mNx)
  (mIfS (mB (mOp mEq (mVar 5) (mVar 1))) (mDrop (mApp1 (mVar 2) (mTup (mCons (mVar 3) (mCons (mNeg (mC (.int 1))) mNil))))) mNx)))
  (mRet (mVar 2)))))
def m_Web_steps_from : Fn := fnRun 7 false b_Web_steps_from
def b_Web_yards : Bd :=
  (mRet (mCB mList (mCons (mFld ["Web"] "places" (mVar 0)) mNil)))
def m_Web_yards : Fn := fnRun 1 false b_Web_yards
def b_law_road : Bd :=
  (mRet (mOp mIx (mLc [2] (mIt (mGetS "roads" (mVar 0))) (wNm 2) (mB (mOp mEq (mOp mIx (mVar 2) (mC (.int 0))) (mVar 1))) (mVar 2)) (mC (.int 0))))
def m_law_road : Fn := fnRun 3 false b_law_road
def b_law_ends : Bd :=
  (mSeq (mSet 2 (mCall 2 m_law_road (mCons (mVar 0) (mCons (mOp mIx (mVar 1) (mC (.int 0))) mNil))))
  (mRet (mIf (mB (mOp mEq (mOp mIx (mVar 1) (mC (.int 1))) (mC (.int 1)))) (mTup (mCons (mOp mIx (mVar 2) (mC (.int 1))) (mCons (mOp mIx (mVar 2) (mC (.int 2))) mNil))) (mTup (mCons (mOp mIx (mVar 2) (mC (.int 2))) (mCons (mOp mIx (mVar 2) (mC (.int 1))) mNil))))))
def m_law_ends : Fn := fnRun 3 false b_law_ends
def b_law_rule : Bd :=
  (mSeq (mSet 2 (mCall 2 m_law_road (mCons (mVar 0) (mCons (mOp mIx (mVar 1) (mC (.int 0))) mNil))))
  (mRet (mIf (mB (mOp mEq (mOp mIx (mVar 1) (mC (.int 1))) (mC (.int 1)))) (mTup (mCons (mOp mIx (mVar 2) (mC (.int 3))) (mCons (mOp mIx (mVar 2) (mC (.int 4))) mNil))) (mTup (mCons (mOp mIx (mVar 2) (mC (.int 4))) (mCons (mOp mIx (mVar 2) (mC (.int 3))) mNil))))))
def m_law_rule : Fn := fnRun 3 false b_law_rule
def b_law_steps_from : Bd :=
  (mSeq (mSet 2 (mLstR mNil))
  (mSeq (mFor (mIt (mGetS "roads" (mVar 0))) (gTp 5 (gCons' (gNm 3) (gCons' (gNm 4) (gCons' (gNm 5) (gCons' (gNm 6) (gCons' (gNm 7) gNil')))))) (mSeq (mIfS (mB (mOp mEq (mVar 4) (mVar 1))) (mDrop (mApp1 (mVar 2) (mTup (mCons (mVar 3) (mCons (mC (.int 1)) mNil))))) mNx)
  (mIfS (mB (mOp mEq (mVar 5) (mVar 1))) (mDrop (mApp1 (mVar 2) (mTup (mCons (mVar 3) (mCons (mNeg (mC (.int 1))) mNil))))) mNx)))
  (mRet (mVar 2))))
def m_law_steps_from : Fn := fnRun 8 false b_law_steps_from
def b_law_webs_stand : Bd :=
  (mSeq (mIfS (mOrT (mNotT (mTruth (mCB mIsi (mCons (mVar 0) (mCons (mC (.cls "Web")) mNil))))) (mNotT (mTruth (mCall 2 (m_law_same 20) (mCons (mLst (mCons (mMeth "Web" "yards" 1 m_Web_yards (mVar 0) mNil) (mCons (mMeth "Web" "passages" 1 m_Web_passages (mVar 0) mNil) mNil))) (mCons (mLst (mCons (mGetS "yards" (mVar 1)) (mCons (mGetS "roads" (mVar 1)) mNil))) mNil)))))) (mRet (mC (.bl false))) mNx)
  (mSeq (mSet 2 (mOp mAdd (mOp mAdd (mOp mAdd (mOp mAdd (mC (.str "Web(")) (mCB mStr (mCons (mCB mLen (mCons (mGetS "yards" (mVar 1)) mNil)) mNil))) (mC (.str " yards, "))) (mCB mStr (mCons (mCB mLen (mCons (mGetS "roads" (mVar 1)) mNil)) mNil))) (mC (.str " passages)"))))
  (mSeq (mSet 3 (mLst (mCons (mCB (mLenI "Web" m_Web_dlen) (mCons (mVar 0) mNil)) (mCons (mCB (mReprI "Web" m_Web_drepr) (mCons (mVar 0) mNil)) (mCons (mCB (mBoolI "Web" m_Web_dlen) (mCons (mVar 0) mNil)) mNil)))))
  (mSeq (mIfS (mNotT (mTruth (mCall 2 (m_law_same 20) (mCons (mVar 3) (mCons (mLst (mCons (mCB mLen (mCons (mGetS "yards" (mVar 1)) mNil)) (mCons (mVar 2) (mCons (mOp mNe (mGetS "yards" (mVar 1)) (mLst mNil)) mNil)))) mNil))))) (mRet (mC (.bl false))) mNx)
  (mSeq (mFor (mIt (mGetS "yards" (mVar 1))) (gNm 4) (mIfS (mNotT (mTruth (mCall 2 (m_law_same 20) (mCons (mMeth "Web" "steps_from" 2 m_Web_steps_from (mVar 0) (mCons (mVar 4) mNil)) (mCons (mCall 2 m_law_steps_from (mCons (mVar 1) (mCons (mVar 4) mNil))) mNil))))) (mRet (mC (.bl false))) mNx))
  (mSeq (mFor (mIt (mGetS "roads" (mVar 1))) (gNm 5) (mFor (mIt (mLst (mCons (mC (.int 1)) (mCons (mNeg (mC (.int 1))) mNil)))) (gNm 6) (mSeq (mSet 7 (mTup (mCons (mOp mIx (mVar 5) (mC (.int 0))) (mCons (mVar 6) mNil))))
  (mIfS (mNotT (mTruth (mCall 2 (m_law_same 20) (mCons (mLst (mCons (mMeth "Web" "ends" 2 m_Web_ends (mVar 0) (mCons (mVar 7) mNil)) (mCons (mMeth "Web" "rule" 2 m_Web_rule (mVar 0) (mCons (mVar 7) mNil)) mNil))) (mCons (mLst (mCons (mCall 2 m_law_ends (mCons (mVar 1) (mCons (mVar 7) mNil))) (mCons (mCall 2 m_law_rule (mCons (mVar 1) (mCons (mVar 7) mNil))) mNil))) mNil))))) (mRet (mC (.bl false))) mNx))))
  (mRet (mC (.bl true)))))))))
def m_law_webs_stand : Fn := fnRun 8 false b_law_webs_stand
def b_law (P : Nat → Pd) : Bd :=
  (mSeq (mSet 1 (mCall 1 m_law_flow (mCons (mVar 0) mNil)))
  (mSeq (mSet 2 (mDict ["yards", "roads"] [(mLst mNil), (mLst mNil)]))
  (mSeq (mSet 3 (mFz (mMake "Web" 1 m_Web_dinit mNil)))
  (mSeq (mFor (mRng1 (mCons (mC (.int 24)) mNil)) (gNm 4) (mSeq (mSet 5 (mCall 2 m_law_new_name (mCons (mVar 1) (mCons (mVar 2) mNil))))
  (mSeq (mAsg (gTp 4 (gCons' (gNm 6) (gCons' (gNm 7) (gCons' (gNm 8) (gCons' (gNm 9) gNil'))))) (mTup (mCons (mC (.str "")) (mCons (mC (.str "")) (mCons (mC (.int 1)) (mCons (mC (.int 1)) mNil))))))
  (mSeq (mIfS (mOrT (mB (mOp mEq (mCall 2 m_law_draw (mCons (mVar 1) (mCons (mC (.int 3)) mNil))) (mC (.int 0)))) (mB (mOp mEq (mGetS "yards" (mVar 2)) (mLst mNil)))) (mSeq (mSet 10 (mOrV (mCall 2 m_law_new_due (mCons (mVar 2) (mCons (mVar 5) mNil))) (mIf (mB (mOp mGt (mCB mLen (mCons (mGetS "yards" (mVar 2)) mNil)) (mC (.int 5)))) (mTup (mCons (mC (.str "full")) (mCons (mC (.int 6)) mNil))) (mC .non))))
  (mSet 11 (mC (.lam 0 (P 0))))) (mSeq (mAsg (gTp 2 (gCons' (gNm 6) (gCons' (gNm 7) gNil'))) (mTup (mCons (mCall 2 m_law_pick (mCons (mVar 1) (mCons (mOp mAdd (mGetS "yards" (mVar 2)) (mLst (mCons (mC (.str "nope")) mNil))) mNil))) (mCons (mCall 2 m_law_pick (mCons (mVar 1) (mCons (mOp mAdd (mOp mAdd (mGetS "yards" (mVar 2)) (mGetS "yards" (mVar 2))) (mLst (mCons (mC (.str "none")) mNil))) mNil))) mNil))))
  (mSeq (mSet 8 (mCall 2 m_law_pick (mCons (mVar 1) (mCons (mLst (mCons (mC (.int 1)) (mCons (mNeg (mC (.int 1))) (mCons (mC (.int 0)) (mCons (mC (.int 99)) (mCons (mNeg (mC (.int 99))) (mCons (mC (.int 100)) (mCons (mNeg (mC (.int 100))) (mCons (mOp mPow (mC (.int 10)) (mC (.int 20))) (mCons (mOp mAdd (mC (.int 1)) (mCall 2 m_law_draw (mCons (mVar 1) (mCons (mC (.int 99)) mNil)))) mNil)))))))))) mNil))))
  (mSeq (mSet 9 (mCall 2 m_law_pick (mCons (mVar 1) (mCons (mLst (mCons (mC (.int 1)) (mCons (mNeg (mC (.int 2))) (mCons (mC (.int 0)) (mCons (mC (.int 99)) (mCons (mC (.int 100)) (mCons (mOp mAdd (mC (.int 1)) (mCall 2 m_law_draw (mCons (mVar 1) (mCons (mC (.int 99)) mNil)))) mNil))))))) mNil))))
  (mSeq (mSet 10 (mCall 6 m_law_road_due (mCons (mVar 2) (mCons (mVar 5) (mCons (mVar 6) (mCons (mVar 7) (mCons (mVar 8) (mCons (mVar 9) mNil))))))))
  (mSet 11 (mC (.lam 1 (P 1)))))))))
  (mSeq (mIfS (mNotT (mTruth (mCall 2 (m_law_same 20) (mCons (mAskV P (fieldR fS) [(mMeth "Web" "with_yard" 2 m_Web_with_yard (mVar 3) (mCons (mVar 5) mNil)), (mMethK "Web" "with_passage" 4 2 6 [1, 0] m_Web_with_passage (mVar 3) (mCons (mVar 5) (mCons (mVar 6) (mCons (mVar 7) mNil))) (mCons (mVar 9) (mCons (mVar 8) mNil)))] 11) (mCons (mVar 10) mNil))))) (mRet (mC (.bl false))) mNx)
  (mSeq (mIfS (mB (mOp (mIs false) (mVar 10) (mC .non))) (mBeg 1 (mSeq (mSet 12 (mCallV P [(mMeth "Web" "with_yard" 2 m_Web_with_yard (mVar 3) (mCons (mVar 5) mNil)), (mMethK "Web" "with_passage" 4 2 6 [1, 0] m_Web_with_passage (mVar 3) (mCons (mVar 5) (mCons (mVar 6) (mCons (mVar 7) mNil))) (mCons (mVar 9) (mCons (mVar 8) mNil)))] 11))
  (mSeq (mIfS (mNotT (mTruth (mCall 2 m_law_webs_stand (mCons (mVar 3) (mCons (mVar 2) mNil))))) (mRet (mC (.bl false))) mNx)
  (mSeq (mSet 13 (mCB mDictC (mCons (mVar 2) mNil)))
  (mSeq (mIfS (mB (mOp mGt (mCB (mLenI "Web" m_Web_dlen) (mCons (mVar 12) mNil)) (mCB (mLenI "Web" m_Web_dlen) (mCons (mVar 3) mNil)))) (mAsg (gKeyD (mVar 13) (mC (.str "yards"))) (mOp mAdd (mGetS "yards" (mVar 2)) (mLst (mCons (mVar 5) mNil)))) (mAsg (gKeyD (mVar 13) (mC (.str "roads"))) (mOp mAdd (mGetS "roads" (mVar 2)) (mLst (mCons (mTup (mCons (mVar 5) (mCons (mVar 6) (mCons (mVar 7) (mCons (mVar 8) (mCons (mVar 9) mNil)))))) mNil)))))
  (mSeq (mAsg (gTp 2 (gCons' (gNm 3) (gCons' (gNm 2) gNil'))) (mTup (mCons (mVar 12) (mCons (mVar 13) mNil))))
  (mFzB 1 mNx))))))) mNx)
  (mIfS (mNotT (mTruth (mCall 2 m_law_webs_stand (mCons (mVar 3) (mCons (mVar 2) mNil))))) (mRet (mC (.bl false))) mNx)))))))
  (mRet (mC (.bl true)))))))
def m_law : Fn := mAllP fun P => fnRun 14 false (b_law P)
end Lw
set_option Elab.async false
set_option linter.all false
set_option maxRecDepth 100000
set_option maxHeartbeats 4000000
set_option autoImplicit false
namespace Lw
open PySem PySem.Spec PyProof.Rows L2 Dv
structure Ad where
  a_law_field : Addr
  d_law_field : FuncData
  a_Web_dinit : Addr
  d_Web_dinit : FuncData
  a_Web_dlen : Addr
  d_Web_dlen : FuncData
  a_is_name : Addr
  d_is_name : FuncData
  a_Web_need_new : Addr
  d_Web_need_new : FuncData
  a_Web_need_yard : Addr
  d_Web_need_yard : FuncData
  a_Web_turned : Addr
  d_Web_turned : FuncData
  a_is_whole : Addr
  d_is_whole : FuncData
  a_need_turns : Addr
  d_need_turns : FuncData
  a_Web_with_passage : Addr
  d_Web_with_passage : FuncData
  a_Web_with_yard : Addr
  d_Web_with_yard : FuncData
  a_law_draw : Addr
  d_law_draw : FuncData
  a_law_flow : Addr
  d_law_flow : FuncData
  a_law_new_due : Addr
  d_law_new_due : FuncData
  a_law_pick : Addr
  d_law_pick : FuncData
  a_law_odd_name : Addr
  d_law_odd_name : FuncData
  a_law_new_name : Addr
  d_law_new_name : FuncData
  a_law_road_due : Addr
  d_law_road_due : FuncData
  a_law_same : Addr
  d_law_same : FuncData
  a_Web_drepr : Addr
  d_Web_drepr : FuncData
  a_Web_road_of : Addr
  d_Web_road_of : FuncData
  a_Web_turned_so : Addr
  d_Web_turned_so : FuncData
  a_Web_ends : Addr
  d_Web_ends : FuncData
  a_Web_passages : Addr
  d_Web_passages : FuncData
  a_Web_rule : Addr
  d_Web_rule : FuncData
  a_Web_steps_from : Addr
  d_Web_steps_from : FuncData
  a_Web_yards : Addr
  d_Web_yards : FuncData
  a_law_road : Addr
  d_law_road : FuncData
  a_law_ends : Addr
  d_law_ends : FuncData
  a_law_rule : Addr
  d_law_rule : FuncData
  a_law_steps_from : Addr
  d_law_steps_from : FuncData
  a_law_webs_stand : Addr
  d_law_webs_stand : FuncData
  a_law : Addr
  d_law : FuncData
  c_law : Addr
  p_law : Addr
  h_BadName : Addr
  h_Taken : Addr
  h_Tied : Addr
  h_InUse : Addr
  h_Breaks : Addr
  h_NoName : Addr
  h_NoYard : Addr
  h_NoPassage : Addr
  h_NoWalk : Addr
  h_BadRow : Addr
  h_Astray : Addr
  h_BadExchange : Addr
  h_BadText : Addr
  h_BadDeed : Addr
  h_Full : Addr
  h_BadTurns : Addr
  h_HawserError : Addr
  h_NothingLeft : Addr
  k_Web : Addr
  e_Full : Addr
  ei_Full : Addr
  ed_Full : FuncData
  e_BadName : Addr
  ei_BadName : Addr
  ed_BadName : FuncData
  e_Taken : Addr
  ei_Taken : Addr
  ed_Taken : FuncData
  e_NoYard : Addr
  ei_NoYard : Addr
  ed_NoYard : FuncData
  e_BadTurns : Addr
  ei_BadTurns : Addr
  ed_BadTurns : FuncData
abbrev clOf (A : Ad) : CL := [("Web", A.k_Web)]
abbrev tabsOf (A : Ad) : List (Addr × Str) := [(A.p_law, "law.<locals>.<lambda>")]
abbrev Gx (K : PySem.W.Frag) (A : Ad) : Gv := ⟨K, fun c => (clOf A).lookup c, fun c => if c = "Full" then some A.e_Full else if c = "BadName" then some A.e_BadName else if c = "Taken" then some A.e_Taken else if c = "NoYard" then some A.e_NoYard else if c = "BadTurns" then some A.e_BadTurns else none, tabsOf A⟩
structure Tx (K : PySem.W.Frag) (mg : Str → Option Value) (A : Ad) : Prop where
  F_law_field : Fun K "_law_field" "_law_field" s_law_field A.a_law_field A.d_law_field
  g_law_field : mg "_law_field" = some (.ref A.a_law_field)
  b_law_field : Binds K A.d_law_field ["_law_ask"] []
  F_Web_dinit : Fun K "__init__" "Web.__init__" s_Web_dinit A.a_Web_dinit A.d_Web_dinit
  mk_Web : Mk K A.k_Web A.a_Web_dinit
  b_Web_dinit : Binds K A.d_Web_dinit ["self"] []
  F_Web_dlen : Fun K "__len__" "Web.__len__" s_Web_dlen A.a_Web_dlen A.d_Web_dlen
  me_Web_dlen : Meth K A.k_Web "__len__" A.a_Web_dlen
  b_Web_dlen : Binds K A.d_Web_dlen ["self"] []
  F_is_name : Fun K "is_name" "is_name" s_is_name A.a_is_name A.d_is_name
  g_is_name : mg "is_name" = some (.ref A.a_is_name)
  b_is_name : Binds K A.d_is_name ["text"] []
  F_Web_need_new : Fun K "need_new" "Web.need_new" s_Web_need_new A.a_Web_need_new A.d_Web_need_new
  me_Web_need_new : Meth K A.k_Web "need_new" A.a_Web_need_new
  b_Web_need_new : Binds K A.d_Web_need_new ["self", "name"] []
  F_Web_need_yard : Fun K "need_yard" "Web.need_yard" s_Web_need_yard A.a_Web_need_yard A.d_Web_need_yard
  me_Web_need_yard : Meth K A.k_Web "need_yard" A.a_Web_need_yard
  b_Web_need_yard : Binds K A.d_Web_need_yard ["self", "name"] []
  F_Web_turned : Fun K "turned" "Web.turned" s_Web_turned A.a_Web_turned A.d_Web_turned
  me_Web_turned : Meth K A.k_Web "turned" A.a_Web_turned
  b_Web_turned : Binds K A.d_Web_turned ["self", "places", "roads"] []
  F_is_whole : Fun K "is_whole" "is_whole" s_is_whole A.a_is_whole A.d_is_whole
  g_is_whole : mg "is_whole" = some (.ref A.a_is_whole)
  b_is_whole : Binds K A.d_is_whole ["thing", "low", "high"] []
  F_need_turns : Fun K "need_turns" "need_turns" s_need_turns A.a_need_turns A.d_need_turns
  g_need_turns : mg "need_turns" = some (.ref A.a_need_turns)
  b_need_turns : Binds K A.d_need_turns ["number"] []
  F_Web_with_passage : Fun K "with_passage" "Web.with_passage" s_Web_with_passage A.a_Web_with_passage A.d_Web_with_passage
  me_Web_with_passage : Meth K A.k_Web "with_passage" A.a_Web_with_passage
  F_Web_with_yard : Fun K "with_yard" "Web.with_yard" s_Web_with_yard A.a_Web_with_yard A.d_Web_with_yard
  me_Web_with_yard : Meth K A.k_Web "with_yard" A.a_Web_with_yard
  b_Web_with_yard : Binds K A.d_Web_with_yard ["self", "name"] []
  F_law_draw : Fun K "_law_draw" "_law_draw" s_law_draw A.a_law_draw A.d_law_draw
  g_law_draw : mg "_law_draw" = some (.ref A.a_law_draw)
  b_law_draw : Binds K A.d_law_draw ["_law_flow_here", "_law_size"] []
  F_law_flow : Fun K "_law_flow" "_law_flow" s_law_flow A.a_law_flow A.d_law_flow
  g_law_flow : mg "_law_flow" = some (.ref A.a_law_flow)
  b_law_flow : Binds K A.d_law_flow ["_law_script"] []
  F_law_new_due : Fun K "_law_new_due" "_law_new_due" s_law_new_due A.a_law_new_due A.d_law_new_due
  g_law_new_due : mg "_law_new_due" = some (.ref A.a_law_new_due)
  b_law_new_due : Binds K A.d_law_new_due ["_law_m", "_law_name"] []
  F_law_pick : Fun K "_law_pick" "_law_pick" s_law_pick A.a_law_pick A.d_law_pick
  g_law_pick : mg "_law_pick" = some (.ref A.a_law_pick)
  b_law_pick : Binds K A.d_law_pick ["_law_flow_here", "_law_lot"] []
  F_law_odd_name : Fun K "_law_odd_name" "_law_odd_name" s_law_odd_name A.a_law_odd_name A.d_law_odd_name
  g_law_odd_name : mg "_law_odd_name" = some (.ref A.a_law_odd_name)
  b_law_odd_name : Binds K A.d_law_odd_name ["_law_flow_here"] []
  F_law_new_name : Fun K "_law_new_name" "_law_new_name" s_law_new_name A.a_law_new_name A.d_law_new_name
  g_law_new_name : mg "_law_new_name" = some (.ref A.a_law_new_name)
  b_law_new_name : Binds K A.d_law_new_name ["_law_flow_here", "_law_m"] []
  F_law_road_due : Fun K "_law_road_due" "_law_road_due" s_law_road_due A.a_law_road_due A.d_law_road_due
  g_law_road_due : mg "_law_road_due" = some (.ref A.a_law_road_due)
  b_law_road_due : Binds K A.d_law_road_due ["_law_m", "_law_name", "_law_begin", "_law_end", "_law_near", "_law_beyond"] []
  F_law_same : Fun K "_law_same" "_law_same" s_law_same A.a_law_same A.d_law_same
  g_law_same : mg "_law_same" = some (.ref A.a_law_same)
  b_law_same : Binds K A.d_law_same ["_law_found", "_law_due"] []
  F_Web_drepr : Fun K "__repr__" "Web.__repr__" s_Web_drepr A.a_Web_drepr A.d_Web_drepr
  me_Web_drepr : Meth K A.k_Web "__repr__" A.a_Web_drepr
  b_Web_drepr : Binds K A.d_Web_drepr ["self"] []
  F_Web_road_of : Fun K "road_of" "Web.road_of" s_Web_road_of A.a_Web_road_of A.d_Web_road_of
  me_Web_road_of : Meth K A.k_Web "road_of" A.a_Web_road_of
  b_Web_road_of : Binds K A.d_Web_road_of ["self", "name"] []
  F_Web_turned_so : Fun K "turned_so" "Web.turned_so" s_Web_turned_so A.a_Web_turned_so A.d_Web_turned_so
  me_Web_turned_so : Meth K A.k_Web "turned_so" A.a_Web_turned_so
  b_Web_turned_so : Binds K A.d_Web_turned_so ["self", "step", "at"] []
  F_Web_ends : Fun K "ends" "Web.ends" s_Web_ends A.a_Web_ends A.d_Web_ends
  me_Web_ends : Meth K A.k_Web "ends" A.a_Web_ends
  b_Web_ends : Binds K A.d_Web_ends ["self", "step"] []
  F_Web_passages : Fun K "passages" "Web.passages" s_Web_passages A.a_Web_passages A.d_Web_passages
  me_Web_passages : Meth K A.k_Web "passages" A.a_Web_passages
  b_Web_passages : Binds K A.d_Web_passages ["self"] []
  F_Web_rule : Fun K "rule" "Web.rule" s_Web_rule A.a_Web_rule A.d_Web_rule
  me_Web_rule : Meth K A.k_Web "rule" A.a_Web_rule
  b_Web_rule : Binds K A.d_Web_rule ["self", "step"] []
  F_Web_steps_from : Fun K "steps_from" "Web.steps_from" s_Web_steps_from A.a_Web_steps_from A.d_Web_steps_from
  me_Web_steps_from : Meth K A.k_Web "steps_from" A.a_Web_steps_from
  b_Web_steps_from : Binds K A.d_Web_steps_from ["self", "yard"] []
  F_Web_yards : Fun K "yards" "Web.yards" s_Web_yards A.a_Web_yards A.d_Web_yards
  me_Web_yards : Meth K A.k_Web "yards" A.a_Web_yards
  b_Web_yards : Binds K A.d_Web_yards ["self"] []
  F_law_road : Fun K "_law_road" "_law_road" s_law_road A.a_law_road A.d_law_road
  g_law_road : mg "_law_road" = some (.ref A.a_law_road)
  b_law_road : Binds K A.d_law_road ["_law_m", "_law_name"] []
  F_law_ends : Fun K "_law_ends" "_law_ends" s_law_ends A.a_law_ends A.d_law_ends
  g_law_ends : mg "_law_ends" = some (.ref A.a_law_ends)
  b_law_ends : Binds K A.d_law_ends ["_law_m", "_law_step"] []
  F_law_rule : Fun K "_law_rule" "_law_rule" s_law_rule A.a_law_rule A.d_law_rule
  g_law_rule : mg "_law_rule" = some (.ref A.a_law_rule)
  b_law_rule : Binds K A.d_law_rule ["_law_m", "_law_step"] []
  F_law_steps_from : Fun K "_law_steps_from" "_law_steps_from" s_law_steps_from A.a_law_steps_from A.d_law_steps_from
  g_law_steps_from : mg "_law_steps_from" = some (.ref A.a_law_steps_from)
  b_law_steps_from : Binds K A.d_law_steps_from ["_law_m", "_law_yard"] []
  F_law_webs_stand : Fun K "_law_webs_stand" "_law_webs_stand" s_law_webs_stand A.a_law_webs_stand A.d_law_webs_stand
  g_law_webs_stand : mg "_law_webs_stand" = some (.ref A.a_law_webs_stand)
  b_law_webs_stand : Binds K A.d_law_webs_stand ["_law_web", "_law_m"] []
  F_law : Fun K "law" "law" s_law A.a_law A.d_law
  g_law : mg "law" = some (.ref A.a_law)
  b_law : Binds K A.d_law ["_law_script"] []
  kb0_Web_with_passage : KBn K A.d_Web_with_passage ["self", "name", "begin", "end", "here", "there"] 4 ["there", "here"] (fun us ws => us ++ pickL [1, 0] ws) (fun vs zs => vs ++ pickL [1, 0] zs)
  g_Web : mg "Web" = some (.ref A.k_Web)
  cF_Web : ClsF K A.k_Web
  len_Web : LenC K A.k_Web A.a_Web_dlen
  rep_Web : ReprC K A.k_Web A.a_Web_drepr
  nbl_Web : PySem.W.findIn K (.ref A.k_Web) "__bool__" = some none
  na_Web_places : NoAttr K A.k_Web "places"
  na_Web_roads : NoAttr K A.k_Web "roads"
  cb : clsB K (clOf A) = true
  hn : PySem.W.specialIn K (.builtin "object.__class__") "__get__" = some (some (.builtin "getset_descriptor.__get__"))
  htk : PySem.W.takesIn K (.builtin "object.__class__") = some true
  g_Full : mg "Full" = some (.ref A.e_Full)
  o_Full : OexG K A.e_Full
  i_Full : PySem.W.findIn K (.ref A.e_Full) "__init__" = some (some (.ref A.ei_Full))
  t_Full : PySem.W.typeIn K (.ref A.ei_Full) = some (.type "function")
  F_Full_init : Fun K "__init__" "Full.__init__" s_Full_init A.ei_Full A.ed_Full
  b_Full_init : Binds K A.ed_Full ["self", "many"] []
  nw_Full : PySem.W.findIn K (.ref A.e_Full) "word" = some none
  nf_Full : PySem.W.findIn K (.ref A.e_Full) "many" = some none
  g_BadName : mg "BadName" = some (.ref A.e_BadName)
  o_BadName : OexG K A.e_BadName
  i_BadName : PySem.W.findIn K (.ref A.e_BadName) "__init__" = some (some (.ref A.ei_BadName))
  t_BadName : PySem.W.typeIn K (.ref A.ei_BadName) = some (.type "function")
  F_BadName_init : Fun K "__init__" "BadName.__init__" s_BadName_init A.ei_BadName A.ed_BadName
  b_BadName_init : Binds K A.ed_BadName ["self", "name"] []
  nw_BadName : PySem.W.findIn K (.ref A.e_BadName) "word" = some none
  nf_BadName : PySem.W.findIn K (.ref A.e_BadName) "name" = some none
  g_Taken : mg "Taken" = some (.ref A.e_Taken)
  o_Taken : OexG K A.e_Taken
  i_Taken : PySem.W.findIn K (.ref A.e_Taken) "__init__" = some (some (.ref A.ei_Taken))
  t_Taken : PySem.W.typeIn K (.ref A.ei_Taken) = some (.type "function")
  F_Taken_init : Fun K "__init__" "Taken.__init__" s_Taken_init A.ei_Taken A.ed_Taken
  b_Taken_init : Binds K A.ed_Taken ["self", "name"] []
  nw_Taken : PySem.W.findIn K (.ref A.e_Taken) "word" = some none
  nf_Taken : PySem.W.findIn K (.ref A.e_Taken) "name" = some none
  g_NoYard : mg "NoYard" = some (.ref A.e_NoYard)
  o_NoYard : OexG K A.e_NoYard
  i_NoYard : PySem.W.findIn K (.ref A.e_NoYard) "__init__" = some (some (.ref A.ei_NoYard))
  t_NoYard : PySem.W.typeIn K (.ref A.ei_NoYard) = some (.type "function")
  F_NoYard_init : Fun K "__init__" "NoYard.__init__" s_NoYard_init A.ei_NoYard A.ed_NoYard
  b_NoYard_init : Binds K A.ed_NoYard ["self", "name"] []
  nw_NoYard : PySem.W.findIn K (.ref A.e_NoYard) "word" = some none
  nf_NoYard : PySem.W.findIn K (.ref A.e_NoYard) "name" = some none
  g_BadTurns : mg "BadTurns" = some (.ref A.e_BadTurns)
  o_BadTurns : OexG K A.e_BadTurns
  i_BadTurns : PySem.W.findIn K (.ref A.e_BadTurns) "__init__" = some (some (.ref A.ei_BadTurns))
  t_BadTurns : PySem.W.typeIn K (.ref A.ei_BadTurns) = some (.type "function")
  F_BadTurns_init : Fun K "__init__" "BadTurns.__init__" s_BadTurns_init A.ei_BadTurns A.ed_BadTurns
  b_BadTurns_init : Binds K A.ed_BadTurns ["self", "number"] []
  nw_BadTurns : PySem.W.findIn K (.ref A.e_BadTurns) "word" = some none
  nf_BadTurns : PySem.W.findIn K (.ref A.e_BadTurns) "number" = some none
  z_range : mg "range" = none
  z_len : mg "len" = none
  z_dict : mg "dict" = none
  z_all : mg "all" = none
  z_tuple : mg "tuple" = none
  z_isinstance : mg "isinstance" = none
  z_bool : mg "bool" = none
  z_int : mg "int" = none
  z_abs : mg "abs" = none
  z_list : mg "list" = none
  z_str : mg "str" = none
  z_repr : mg "repr" = none
  h_BadName : mg "BadName" = some (.ref A.h_BadName)
  h_Taken : mg "Taken" = some (.ref A.h_Taken)
  h_Tied : mg "Tied" = some (.ref A.h_Tied)
  h_InUse : mg "InUse" = some (.ref A.h_InUse)
  h_Breaks : mg "Breaks" = some (.ref A.h_Breaks)
  h_NoName : mg "NoName" = some (.ref A.h_NoName)
  h_NoYard : mg "NoYard" = some (.ref A.h_NoYard)
  h_NoPassage : mg "NoPassage" = some (.ref A.h_NoPassage)
  h_NoWalk : mg "NoWalk" = some (.ref A.h_NoWalk)
  h_BadRow : mg "BadRow" = some (.ref A.h_BadRow)
  h_Astray : mg "Astray" = some (.ref A.h_Astray)
  h_BadExchange : mg "BadExchange" = some (.ref A.h_BadExchange)
  h_BadText : mg "BadText" = some (.ref A.h_BadText)
  h_BadDeed : mg "BadDeed" = some (.ref A.h_BadDeed)
  h_Full : mg "Full" = some (.ref A.h_Full)
  h_BadTurns : mg "BadTurns" = some (.ref A.h_BadTurns)
  h_HawserError : mg "HawserError" = some (.ref A.h_HawserError)
  h_NothingLeft : mg "NothingLeft" = some (.ref A.h_NothingLeft)
  xf_Full : XfC K A.e_Full
  fd_Full : fldB K A.e_Full [([(A.h_BadName), (A.h_Taken), (A.h_Tied), (A.h_InUse), (A.h_Breaks), (A.h_NoName), (A.h_NoYard), (A.h_NoPassage), (A.h_NoWalk)], (some ("name" : Str))), ([(A.h_BadRow), (A.h_Astray), (A.h_BadExchange), (A.h_BadText), (A.h_BadDeed)], (some ("at" : Str))), ([(A.h_Full)], (some ("many" : Str))), ([(A.h_BadTurns)], (some ("number" : Str))), ([(A.h_HawserError), (A.h_NothingLeft)], none)] = some (some ("many" : Str))
  xf_BadName : XfC K A.e_BadName
  fd_BadName : fldB K A.e_BadName [([(A.h_BadName), (A.h_Taken), (A.h_Tied), (A.h_InUse), (A.h_Breaks), (A.h_NoName), (A.h_NoYard), (A.h_NoPassage), (A.h_NoWalk)], (some ("name" : Str))), ([(A.h_BadRow), (A.h_Astray), (A.h_BadExchange), (A.h_BadText), (A.h_BadDeed)], (some ("at" : Str))), ([(A.h_Full)], (some ("many" : Str))), ([(A.h_BadTurns)], (some ("number" : Str))), ([(A.h_HawserError), (A.h_NothingLeft)], none)] = some (some ("name" : Str))
  xf_Taken : XfC K A.e_Taken
  fd_Taken : fldB K A.e_Taken [([(A.h_BadName), (A.h_Taken), (A.h_Tied), (A.h_InUse), (A.h_Breaks), (A.h_NoName), (A.h_NoYard), (A.h_NoPassage), (A.h_NoWalk)], (some ("name" : Str))), ([(A.h_BadRow), (A.h_Astray), (A.h_BadExchange), (A.h_BadText), (A.h_BadDeed)], (some ("at" : Str))), ([(A.h_Full)], (some ("many" : Str))), ([(A.h_BadTurns)], (some ("number" : Str))), ([(A.h_HawserError), (A.h_NothingLeft)], none)] = some (some ("name" : Str))
  xf_NoYard : XfC K A.e_NoYard
  fd_NoYard : fldB K A.e_NoYard [([(A.h_BadName), (A.h_Taken), (A.h_Tied), (A.h_InUse), (A.h_Breaks), (A.h_NoName), (A.h_NoYard), (A.h_NoPassage), (A.h_NoWalk)], (some ("name" : Str))), ([(A.h_BadRow), (A.h_Astray), (A.h_BadExchange), (A.h_BadText), (A.h_BadDeed)], (some ("at" : Str))), ([(A.h_Full)], (some ("many" : Str))), ([(A.h_BadTurns)], (some ("number" : Str))), ([(A.h_HawserError), (A.h_NothingLeft)], none)] = some (some ("name" : Str))
  xf_BadTurns : XfC K A.e_BadTurns
  fd_BadTurns : fldB K A.e_BadTurns [([(A.h_BadName), (A.h_Taken), (A.h_Tied), (A.h_InUse), (A.h_Breaks), (A.h_NoName), (A.h_NoYard), (A.h_NoPassage), (A.h_NoWalk)], (some ("name" : Str))), ([(A.h_BadRow), (A.h_Astray), (A.h_BadExchange), (A.h_BadText), (A.h_BadDeed)], (some ("at" : Str))), ([(A.h_Full)], (some ("many" : Str))), ([(A.h_BadTurns)], (some ("number" : Str))), ([(A.h_HawserError), (A.h_NothingLeft)], none)] = some (some ("number" : Str))
  cd_law : A.d_law.code = .ref A.c_law
  tu : tuB (tabsOf A) = true
  c_MOST_PASSAGES : ∃ t, mg "MOST_PASSAGES" = some (.int 8 t)
  c_LETTERS : ∃ t, mg "LETTERS" = some (.str "abcdefghijklmnopqrstuvwxyz" t)
  c_LONGEST_NAME : ∃ t, mg "LONGEST_NAME" = some (.int 8 t)
  c_MOST_TURNS : ∃ t, mg "MOST_TURNS" = some (.int 99 t)
  c_MOST_YARDS : ∃ t, mg "MOST_YARDS" = some (.int 6 t)
theorem Tx.isi {K : PySem.W.Frag} {mg : Str → Option Value} {A : Ad} (T : Tx K mg A) : ClsOk (Gx K A) := cls_of T.cb (fun p hp => by
  simp only [clOf, List.mem_cons, List.not_mem_nil, or_false] at hp
  rcases hp with rfl
  · exact T.cF_Web) T.hn T.htk
theorem Tx.no_places {K : PySem.W.Frag} {mg : Str → Option Value} {A : Ad} (T : Tx K mg A) : ∀ c ∈ ["Web"], ∀ C, (Gx K A).cl c = some C → NoAttr (Gx K A).K C "places" := by
  intro c hc C h
  simp only [List.mem_cons, List.not_mem_nil, or_false] at hc
  rcases hc with rfl
  · obtain rfl : A.k_Web = C := Option.some.inj h
    exact T.na_Web_places
theorem Tx.no_roads {K : PySem.W.Frag} {mg : Str → Option Value} {A : Ad} (T : Tx K mg A) : ∀ c ∈ ["Web"], ∀ C, (Gx K A).cl c = some C → NoAttr (Gx K A).K C "roads" := by
  intro c hc C h
  simp only [List.mem_cons, List.not_mem_nil, or_false] at hc
  rcases hc with rfl
  · obtain rfl : A.k_Web = C := Option.some.inj h
    exact T.na_Web_roads
structure Ty (K : PySem.W.Frag) (mg : Str → Option Value) (base : Heap) (A : Ad) : Prop extends Tx K mg A where
  TB_law : LamX.TabB base mg A.c_law A.p_law
theorem Tx.xs {K : PySem.W.Frag} {mg : Str → Option Value} {A : Ad} (T : Tx K mg A) : ∀ c C, (Gx K A).xl c = some C → (XfC K C ∧ PySem.W.findIn K (.ref C) "word" = some none) := by
  intro c C h
  dsimp only [Gx] at h
  split at h
  · rename_i ec
    subst ec
    cases h
    exact ⟨T.xf_Full, T.nw_Full⟩
  split at h
  · rename_i ec
    subst ec
    cases h
    exact ⟨T.xf_BadName, T.nw_BadName⟩
  split at h
  · rename_i ec
    subst ec
    cases h
    exact ⟨T.xf_Taken, T.nw_Taken⟩
  split at h
  · rename_i ec
    subst ec
    cases h
    exact ⟨T.xf_NoYard, T.nw_NoYard⟩
  split at h
  · rename_i ec
    subst ec
    cases h
    exact ⟨T.xf_BadTurns, T.nw_BadTurns⟩
  cases h
theorem Tx.xd {K : PySem.W.Frag} {mg : Str → Option Value} {A : Ad} (T : Tx K mg A) : ∀ c C, (Gx K A).xl c = some C → fldB K C [([(A.h_BadName), (A.h_Taken), (A.h_Tied), (A.h_InUse), (A.h_Breaks), (A.h_NoName), (A.h_NoYard), (A.h_NoPassage), (A.h_NoWalk)], (some ("name" : Str))), ([(A.h_BadRow), (A.h_Astray), (A.h_BadExchange), (A.h_BadText), (A.h_BadDeed)], (some ("at" : Str))), ([(A.h_Full)], (some ("many" : Str))), ([(A.h_BadTurns)], (some ("number" : Str))), ([(A.h_HawserError), (A.h_NothingLeft)], none)] = some (fS c) := by
  intro c C h
  dsimp only [Gx] at h
  split at h
  · rename_i ec
    subst ec
    cases h
    exact T.fd_Full.trans (by simp [fS])
  split at h
  · rename_i ec
    subst ec
    cases h
    exact T.fd_BadName.trans (by simp [fS])
  split at h
  · rename_i ec
    subst ec
    cases h
    exact T.fd_Taken.trans (by simp [fS])
  split at h
  · rename_i ec
    subst ec
    cases h
    exact T.fd_NoYard.trans (by simp [fS])
  split at h
  · rename_i ec
    subst ec
    cases h
    exact T.fd_BadTurns.trans (by simp [fS])
  cases h
theorem Tx.xn {K : PySem.W.Frag} {mg : Str → Option Value} {A : Ad} (T : Tx K mg A) : ∀ c C, (Gx K A).xl c = some C → ∀ f, fS c = some f → PySem.W.findIn K (.ref C) f = some none := by
  intro c C h
  dsimp only [Gx] at h
  split at h
  · rename_i ec
    subst ec
    cases h
    intro f hf
    have hf : some ("many" : Str) = some f := by simpa [fS] using hf
    cases hf
    exact T.nf_Full
  split at h
  · rename_i ec
    subst ec
    cases h
    intro f hf
    have hf : some ("name" : Str) = some f := by simpa [fS] using hf
    cases hf
    exact T.nf_BadName
  split at h
  · rename_i ec
    subst ec
    cases h
    intro f hf
    have hf : some ("name" : Str) = some f := by simpa [fS] using hf
    cases hf
    exact T.nf_Taken
  split at h
  · rename_i ec
    subst ec
    cases h
    intro f hf
    have hf : some ("name" : Str) = some f := by simpa [fS] using hf
    cases hf
    exact T.nf_NoYard
  split at h
  · rename_i ec
    subst ec
    cases h
    intro f hf
    have hf : some ("number" : Str) = some f := by simpa [fS] using hf
    cases hf
    exact T.nf_BadTurns
  cases h
theorem gv_law_field {K : PySem.W.Frag} {mg : Str → Option Value} {A : Ad} (T : Tx K mg A) {X : Cx} (hK : X.K = K) (hm : X.mg = mg) (q : Str) (cdv : Value) : GivesS X ["_law_ask", "_law_found", "e"] "_law_field" (defScope s_law_field) A.a_law_field cdv (defBody s_law_field) "_law_ask" q (TAsk (Gx K A) (fieldR fS)) :=
  field_gives (L := [([(A.h_BadName), (A.h_Taken), (A.h_Tied), (A.h_InUse), (A.h_Breaks), (A.h_NoName), (A.h_NoYard), (A.h_NoPassage), (A.h_NoWalk)], (some ("name" : Str))), ([(A.h_BadRow), (A.h_Astray), (A.h_BadExchange), (A.h_BadText), (A.h_BadDeed)], (some ("at" : Str))), ([(A.h_Full)], (some ("many" : Str))), ([(A.h_BadTurns)], (some ("number" : Str))), ([(A.h_HawserError), (A.h_NothingLeft)], none)]) rfl sc_law_field rfl rfl (.two (.tup (.cons (hm ▸ T.h_BadName) rfl (by decide) (.cons (hm ▸ T.h_Taken) rfl (by decide) (.cons (hm ▸ T.h_Tied) rfl (by decide) (.cons (hm ▸ T.h_InUse) rfl (by decide) (.cons (hm ▸ T.h_Breaks) rfl (by decide) (.cons (hm ▸ T.h_NoName) rfl (by decide) (.cons (hm ▸ T.h_NoYard) rfl (by decide) (.cons (hm ▸ T.h_NoPassage) rfl (by decide) (.cons (hm ▸ T.h_NoWalk) rfl (by decide) .nil))))))))) (by simp)) (.two (.tup (.cons (hm ▸ T.h_BadRow) rfl (by decide) (.cons (hm ▸ T.h_Astray) rfl (by decide) (.cons (hm ▸ T.h_BadExchange) rfl (by decide) (.cons (hm ▸ T.h_BadText) rfl (by decide) (.cons (hm ▸ T.h_BadDeed) rfl (by decide) .nil))))) (by simp)) (.two (.one (hm ▸ T.h_Full) rfl (by decide)) (.two (.one (hm ▸ T.h_BadTurns) rfl (by decide)) (.one (.tup (.cons (hm ▸ T.h_HawserError) rfl (by decide) (.cons (hm ▸ T.h_NothingLeft) rfl (by decide) .nil)) (by simp)) .nil))))) T.xs T.xd (fun c C f h => T.xn c C h f) hK
section
variable {P : Program} {w : World} {K : PySem.W.Frag} {mg : Str → Option Value} {base : Heap} {A : Ad}
theorem ok_Full_init (T : Tx K mg A) : FnOk P w K mg base (L2.CX P w) 1 A.ei_Full A.ed_Full ["self", "many"] (spX2 K A.e_Full "full" "many") := fx2G T.F_Full_init sc_Full_init rfl T.o_Full T.nw_Full T.nf_Full (fun _ _ _ => by first | exact Or.inl rfl | exact Or.inr (Or.inl rfl) | exact Or.inr (Or.inr rfl)) (fun _ _ _ => by first | exact Or.inl rfl | exact Or.inr (Or.inl rfl) | exact Or.inr (Or.inr rfl))
theorem ok_BadName_init (T : Tx K mg A) : FnOk P w K mg base (L2.CX P w) 1 A.ei_BadName A.ed_BadName ["self", "name"] (spX2 K A.e_BadName "badname" "name") := fx2G T.F_BadName_init sc_BadName_init rfl T.o_BadName T.nw_BadName T.nf_BadName (fun _ _ _ => by first | exact Or.inl rfl | exact Or.inr (Or.inl rfl) | exact Or.inr (Or.inr rfl)) (fun _ _ _ => by first | exact Or.inl rfl | exact Or.inr (Or.inl rfl) | exact Or.inr (Or.inr rfl))
theorem ok_Taken_init (T : Tx K mg A) : FnOk P w K mg base (L2.CX P w) 1 A.ei_Taken A.ed_Taken ["self", "name"] (spX2 K A.e_Taken "taken" "name") := fx2G T.F_Taken_init sc_Taken_init rfl T.o_Taken T.nw_Taken T.nf_Taken (fun _ _ _ => by first | exact Or.inl rfl | exact Or.inr (Or.inl rfl) | exact Or.inr (Or.inr rfl)) (fun _ _ _ => by first | exact Or.inl rfl | exact Or.inr (Or.inl rfl) | exact Or.inr (Or.inr rfl))
theorem ok_NoYard_init (T : Tx K mg A) : FnOk P w K mg base (L2.CX P w) 1 A.ei_NoYard A.ed_NoYard ["self", "name"] (spX2 K A.e_NoYard "noyard" "name") := fx2G T.F_NoYard_init sc_NoYard_init rfl T.o_NoYard T.nw_NoYard T.nf_NoYard (fun _ _ _ => by first | exact Or.inl rfl | exact Or.inr (Or.inl rfl) | exact Or.inr (Or.inr rfl)) (fun _ _ _ => by first | exact Or.inl rfl | exact Or.inr (Or.inl rfl) | exact Or.inr (Or.inr rfl))
theorem ok_BadTurns_init (T : Tx K mg A) : FnOk P w K mg base (L2.CX P w) 1 A.ei_BadTurns A.ed_BadTurns ["self", "number"] (spX2 K A.e_BadTurns "badturns" "number") := fx2G T.F_BadTurns_init sc_BadTurns_init rfl T.o_BadTurns T.nw_BadTurns T.nf_BadTurns (fun _ _ _ => by first | exact Or.inl rfl | exact Or.inr (Or.inl rfl) | exact Or.inr (Or.inr rfl)) (fun _ _ _ => by first | exact Or.inl rfl | exact Or.inr (Or.inl rfl) | exact Or.inr (Or.inr rfl))
theorem ok_Web_dinit (T : Ty K mg base A) : FnOk P w K mg base (L2.CX P w) 1 A.a_Web_dinit A.d_Web_dinit ["self"] (spF (Gx K A) 1 m_Web_dinit) := by
  refine fn_ok false T.F_Web_dinit sc_Web_dinit (fun cdv A1 outer s1 H1 E1 hr => ?_)
  exact (db_cons (ds_fld ["Web"] T.isi (de_var 0) (de_tup da_nil) T.no_places)
  (db_one (ds_fld ["Web"] T.isi (de_var 0) (de_tup da_nil) T.no_roads)))
theorem ok_Web_dlen (T : Ty K mg base A) : FnOk P w K mg base (L2.CX P w) 1 A.a_Web_dlen A.d_Web_dlen ["self"] (spF (Gx K A) 1 m_Web_dlen) := by
  refine fn_ok false T.F_Web_dlen sc_Web_dlen (fun cdv A1 outer s1 H1 E1 hr => ?_)
  exact (db_one (ds_ret (de_callB (dc_len) rfl T.z_len boot_len (da_cons (de_fld ["Web"] T.isi (de_var 0) T.no_places) da_nil))))
theorem ok_is_name (T : Ty K mg base A) : FnOk P w K mg base (L2.CX P w) 1 A.a_is_name A.d_is_name ["text"] (spF (Gx K A) 1 m_is_name) := by
  refine fn_ok false T.F_is_name sc_is_name (fun cdv A1 outer s1 H1 E1 hr => ?_)
  exact (db_one (ds_ret (de_and (de_chain do_le do_le de_int (de_callB (dc_len) rfl T.z_len boot_len (da_cons (de_var 0) da_nil)) (de_gintE rfl T.c_LONGEST_NAME)) (de_one (de_callB (dc_all) rfl T.z_all boot_all (da_cons (de_lc [("sign", 1)] sc_is_name.nd (di_str (de_var 0)) (blkOk_by (own := [("sign", 1)]) (N := ["text", "sign"]) (sc := defScope s_is_name) (by decide +kernel)) (fun _ _ _ _ _ => (dgw_name sc_is_name.nd rfl (by first | exact Or.inl rfl | exact Or.inr rfl))) (fun _ _ _ _ _ => dts_nil) (fun _ _ _ _ _ => (de_cmp do_in (de_var 1) (de_gstrE rfl T.c_LETTERS)))) da_nil))))))
theorem ok_Web_need_new (T : Ty K mg base A) : FnOk P w K mg base (L2.CX P w) 3 A.a_Web_need_new A.d_Web_need_new ["self", "name"] (spF (Gx K A) 2 m_Web_need_new) := by
  refine fn_ok false T.F_Web_need_new sc_Web_need_new (fun cdv A1 outer s1 H1 E1 hr => ?_)
  exact (db_cons (ds_if (dt_not (dt_truth (de_call (ok_is_name T) (hr.mono (by decide)) T.g_is_name T.F_is_name.kp T.b_is_name fn_tk (da_cons (de_var 1) da_nil)))) (db_one (ds_raise1G (c := "BadName") rfl rfl fn_tk (de_var 1) T.o_BadName T.i_BadName T.t_BadName (ok_BadName_init T.toTx) (hr.mono (by decide)) T.b_BadName_init T.g_BadName)) db_nil)
  (db_one (ds_if (dt_w (dw_or (dt_cmp do_in (de_var 1) (de_fld ["Web"] T.isi (de_var 0) T.no_places)) (dw_or1 (dt_cmp do_in (de_var 1) (de_lc [("road", 2)] sc_Web_need_new.nd (di_seq (de_fld ["Web"] T.isi (de_var 0) T.no_roads)) (blkOk_by (own := [("road", 2)]) (N := ["self", "name", "road"]) (sc := defScope s_Web_need_new) (by decide +kernel)) (fun _ _ _ _ _ => (dgw_name sc_Web_need_new.nd rfl (by first | exact Or.inl rfl | exact Or.inr rfl))) (fun _ _ _ _ _ => dts_nil) (fun _ _ _ _ _ => (de_ix (de_var 2) de_int))))))) (db_one (ds_raise1G (c := "Taken") rfl rfl fn_tk (de_var 1) T.o_Taken T.i_Taken T.t_Taken (ok_Taken_init T.toTx) (hr.mono (by decide)) T.b_Taken_init T.g_Taken)) db_nil)))
theorem ok_Web_need_yard (T : Ty K mg base A) : FnOk P w K mg base (L2.CX P w) 3 A.a_Web_need_yard A.d_Web_need_yard ["self", "name"] (spF (Gx K A) 2 m_Web_need_yard) := by
  refine fn_ok false T.F_Web_need_yard sc_Web_need_yard (fun cdv A1 outer s1 H1 E1 hr => ?_)
  exact (db_one (ds_if (dt_cmp do_notIn (de_var 1) (de_fld ["Web"] T.isi (de_var 0) T.no_places)) (db_one (ds_raise1G (c := "NoYard") rfl rfl fn_tk (de_var 1) T.o_NoYard T.i_NoYard T.t_NoYard (ok_NoYard_init T.toTx) (hr.mono (by decide)) T.b_NoYard_init T.g_NoYard)) db_nil))
theorem ok_Web_turned (T : Ty K mg base A) : FnOk P w K mg base (L2.CX P w) 3 A.a_Web_turned A.d_Web_turned ["self", "places", "roads"] (spF (Gx K A) 3 m_Web_turned) := by
  refine fn_ok false T.F_Web_turned sc_Web_turned (fun cdv A1 outer s1 H1 E1 hr => ?_)
  exact (db_cons (ds_set (i := 3) sc_Web_turned.nd (de_make0 (c := "Web") rfl T.mk_Web (ok_Web_dinit T) (hr.mono (by decide)) T.b_Web_dinit fn_tk T.g_Web))
  (db_cons (ds_asg (de_tup (da_cons (de_callTy (dc_tuple) rfl T.z_tuple boot_tuple (da_cons (de_var 1) da_nil)) (da_cons (de_callTy (dc_tuple) rfl T.z_tuple boot_tuple (da_cons (de_var 2) da_nil)) da_nil))) (dg_tup (dgs_cons (dg_fld ["Web"] T.isi (de_var 3) T.no_places) (dgs_cons (dg_fld ["Web"] T.isi (de_var 3) T.no_roads) dgs_nil))))
  (db_one (ds_ret (de_var 3)))))
theorem ok_is_whole (T : Ty K mg base A) : FnOk P w K mg base (L2.CX P w) 1 A.a_is_whole A.d_is_whole ["thing", "low", "high"] (spF (Gx K A) 3 m_is_whole) := by
  refine fn_ok false T.F_is_whole sc_is_whole (fun cdv A1 outer s1 H1 E1 hr => ?_)
  exact (db_one (ds_ret (de_and (de_callB (dc_isi T.isi) rfl T.z_isinstance boot_isinstance (da_cons (de_var 0) (da_cons (de_ty rfl T.z_int boot_int) da_nil))) (de_and (de_not (de_callB (dc_isi T.isi) rfl T.z_isinstance boot_isinstance (da_cons (de_var 0) (da_cons (de_ty rfl T.z_bool boot_bool) da_nil)))) (de_one (de_chain do_le do_le (de_var 1) (de_var 0) (de_var 2)))))))
theorem ok_need_turns (T : Ty K mg base A) : FnOk P w K mg base (L2.CX P w) 3 A.a_need_turns A.d_need_turns ["number"] (spF (Gx K A) 1 m_need_turns) := by
  refine fn_ok false T.F_need_turns sc_need_turns (fun cdv A1 outer s1 H1 E1 hr => ?_)
  exact (db_one (ds_if (dt_w (dw_or (dt_cmp (do_eq hr.units) (de_var 0) de_int) (dw_or1 (dt_not (dt_truth (de_call (ok_is_whole T) (hr.mono (by decide)) T.g_is_whole T.F_is_whole.kp T.b_is_whole fn_tk (da_cons (de_var 0) (da_cons (de_op do_sub de_int (de_gintE rfl T.c_MOST_TURNS)) (da_cons (de_gintE rfl T.c_MOST_TURNS) da_nil))))))))) (db_one (ds_raise1G (c := "BadTurns") rfl rfl fn_tk (de_var 0) T.o_BadTurns T.i_BadTurns T.t_BadTurns (ok_BadTurns_init T.toTx) (hr.mono (by decide)) T.b_BadTurns_init T.g_BadTurns)) db_nil))
theorem ok_Web_with_passage (T : Ty K mg base A) : FnOk P w K mg base (L2.CX P w) 4 A.a_Web_with_passage A.d_Web_with_passage ["self", "name", "begin", "end", "here", "there"] (spF (Gx K A) 6 m_Web_with_passage) := by
  refine fn_ok false T.F_Web_with_passage sc_Web_with_passage (fun cdv A1 outer s1 H1 E1 hr => ?_)
  exact (db_cons (ds_expr (de_meth (c := "Web") T.isi rfl (de_var 0) (da_cons (de_var 1) da_nil) T.me_Web_need_new (ok_Web_need_new T) (hr.mono (by decide)) T.b_Web_need_new fn_tk))
  (db_cons (ds_for fn_po (di_seq (de_tup (da_cons (de_var 2) (da_cons (de_var 3) da_nil)))) (dg_name sc_Web_with_passage.nd rfl (by first | exact Or.inl rfl | exact Or.inr rfl)) (db_one (ds_expr (de_meth (c := "Web") T.isi rfl (de_var 0) (da_cons (de_var 6) da_nil) T.me_Web_need_yard (ok_Web_need_yard T) (hr.mono (by decide)) T.b_Web_need_yard fn_tk))))
  (db_cons (ds_for fn_po (di_seq (de_tup (da_cons (de_var 4) (da_cons (de_var 5) da_nil)))) (dg_name sc_Web_with_passage.nd rfl (by first | exact Or.inl rfl | exact Or.inr rfl)) (db_one (ds_expr (de_call (ok_need_turns T) (hr.mono (by decide)) T.g_need_turns T.F_need_turns.kp T.b_need_turns fn_tk (da_cons (de_var 7) da_nil)))))
  (db_cons (ds_if (dt_cmp do_ge (de_callB (dc_len) rfl T.z_len boot_len (da_cons (de_fld ["Web"] T.isi (de_var 0) T.no_roads) da_nil)) (de_gintE rfl T.c_MOST_PASSAGES)) (db_one (ds_raise1G (c := "Full") rfl rfl fn_tk (de_gintE rfl T.c_MOST_PASSAGES) T.o_Full T.i_Full T.t_Full (ok_Full_init T.toTx) (hr.mono (by decide)) T.b_Full_init T.g_Full)) db_nil)
  (db_one (ds_ret (de_meth (c := "Web") T.isi rfl (de_var 0) (da_cons (de_fld ["Web"] T.isi (de_var 0) T.no_places) (da_cons (de_op do_add (de_fld ["Web"] T.isi (de_var 0) T.no_roads) (de_tup (da_cons (de_tup (da_cons (de_var 1) (da_cons (de_var 2) (da_cons (de_var 3) (da_cons (de_var 4) (da_cons (de_var 5) da_nil)))))) da_nil))) da_nil)) T.me_Web_turned (ok_Web_turned T) (hr.mono (by decide)) T.b_Web_turned fn_tk)))))))
theorem ok_Web_with_yard (T : Ty K mg base A) : FnOk P w K mg base (L2.CX P w) 4 A.a_Web_with_yard A.d_Web_with_yard ["self", "name"] (spF (Gx K A) 2 m_Web_with_yard) := by
  refine fn_ok false T.F_Web_with_yard sc_Web_with_yard (fun cdv A1 outer s1 H1 E1 hr => ?_)
  exact (db_cons (ds_expr (de_meth (c := "Web") T.isi rfl (de_var 0) (da_cons (de_var 1) da_nil) T.me_Web_need_new (ok_Web_need_new T) (hr.mono (by decide)) T.b_Web_need_new fn_tk))
  (db_cons (ds_if (dt_cmp do_ge (de_callB (dc_len) rfl T.z_len boot_len (da_cons (de_fld ["Web"] T.isi (de_var 0) T.no_places) da_nil)) (de_gintE rfl T.c_MOST_YARDS)) (db_one (ds_raise1G (c := "Full") rfl rfl fn_tk (de_gintE rfl T.c_MOST_YARDS) T.o_Full T.i_Full T.t_Full (ok_Full_init T.toTx) (hr.mono (by decide)) T.b_Full_init T.g_Full)) db_nil)
  (db_one (ds_ret (de_meth (c := "Web") T.isi rfl (de_var 0) (da_cons (de_op do_add (de_fld ["Web"] T.isi (de_var 0) T.no_places) (de_tup (da_cons (de_var 1) da_nil))) (da_cons (de_fld ["Web"] T.isi (de_var 0) T.no_roads) da_nil)) T.me_Web_turned (ok_Web_turned T) (hr.mono (by decide)) T.b_Web_turned fn_tk)))))
theorem ok_law_draw (T : Ty K mg base A) : FnOk P w K mg base (L2.CX P w) 1 A.a_law_draw A.d_law_draw ["_law_flow_here", "_law_size"] (spF (Gx K A) 2 m_law_draw) := by
  refine fn_ok false T.F_law_draw sc_law_draw (fun cdv A1 outer s1 H1 E1 hr => ?_)
  exact (db_cons (ds_if (dt_cmp do_gt (de_ix (de_var 0) de_int) de_int) (db_cons (ds_set (i := 2) sc_law_draw.nd (de_op do_mod (de_ix (de_var 0) de_int) (de_var 1)))
  (db_cons (ds_asg (de_op do_div (de_ix (de_var 0) de_int) (de_var 1)) (dg_sub (de_var 0) de_int))
  (db_one (ds_ret (de_var 2))))) db_nil)
  (db_cons (ds_set (i := 3) sc_law_draw.nd de_int)
  (db_cons (ds_if (dt_cmp do_lt (de_ix (de_var 0) de_int) (de_callB (dc_len) rfl T.z_len boot_len (da_cons (de_ix (de_var 0) de_int) da_nil))) (db_one (ds_set (i := 3) sc_law_draw.nd (de_ix (de_ix (de_var 0) de_int) (de_ix (de_var 0) de_int)))) db_nil)
  (db_cons (ds_asg (de_op do_add (de_ix (de_var 0) de_int) de_int) (dg_sub (de_var 0) de_int))
  (db_cons (ds_if (dt_cmp do_ge (de_callB (dc_abs) rfl T.z_abs boot_abs (da_cons (de_var 3) da_nil)) (de_op do_pow de_int de_int)) (db_cons (ds_asg (de_op do_div (de_callB (dc_abs) rfl T.z_abs boot_abs (da_cons (de_var 3) da_nil)) (de_var 1)) (dg_sub (de_var 0) de_int))
  (db_one (ds_ret (de_op do_mod (de_callB (dc_abs) rfl T.z_abs boot_abs (da_cons (de_var 3) da_nil)) (de_var 1))))) db_nil)
  (db_cons (ds_set (i := 4) sc_law_draw.nd (de_op do_add (de_op do_add (de_op do_pow (de_ix (de_var 0) de_int) de_int) (de_op do_mul (de_ix (de_var 0) de_int) de_int)) (de_op do_mul (de_ix (de_var 0) de_int) de_int)))
  (db_cons (ds_set (i := 4) sc_law_draw.nd (de_op do_mod (de_op do_add (de_var 4) (de_op do_mul (de_op do_mod (de_var 3) de_int) de_int)) de_int))
  (db_cons (ds_asg (de_var 4) (dg_sub (de_var 0) de_int))
  (db_one (ds_ret (de_op do_mod (de_op do_add (de_op do_div (de_var 4) de_int) (de_op do_mul (de_op do_mod (de_var 4) de_int) de_int)) (de_var 1))))))))))))
theorem ok_law_flow (T : Ty K mg base A) : FnOk P w K mg base (L2.CX P w) 1 A.a_law_flow A.d_law_flow ["_law_script"] (spF (Gx K A) 1 m_law_flow) := by
  refine fn_ok true T.F_law_flow sc_law_flow (fun cdv A1 outer s1 H1 E1 hr => ?_)
  exact (db_one (ds_ret (de_lstR (da_cons (de_callTy (dc_list) rfl T.z_list boot_list (da_cons (de_sl (de_var 0) dp_none (dp_some de_int)) da_nil)) (da_cons de_int (da_cons de_int (da_cons de_int da_nil)))))))
theorem ok_law_new_due (T : Ty K mg base A) : FnOk P w K mg base (L2.CX P w) 1 A.a_law_new_due A.d_law_new_due ["_law_m", "_law_name"] (spF (Gx K A) 2 m_law_new_due) := by
  refine fn_ok false T.F_law_new_due sc_law_new_due (fun cdv A1 outer s1 H1 E1 hr => ?_)
  exact (db_cons (ds_if (dt_w (dw_or (dt_not (dt_chain do_le do_le de_int (de_callB (dc_len) rfl T.z_len boot_len (da_cons (de_var 1) da_nil)) de_int)) (dw_or1 (dt_not (dt_truth (de_callB (dc_all) rfl T.z_all boot_all (da_cons (de_lc [("_law_sign", 2)] sc_law_new_due.nd (di_str (de_var 1)) (blkOk_by (own := [("_law_sign", 2)]) (N := ["_law_m", "_law_name", "_law_sign", "_law_road_here"]) (sc := defScope s_law_new_due) (by decide +kernel)) (fun _ _ _ _ _ => (dgw_name sc_law_new_due.nd rfl (by first | exact Or.inl rfl | exact Or.inr rfl))) (fun _ _ _ _ _ => dts_nil) (fun _ _ _ _ _ => (de_cmp do_in (de_var 2) de_str))) da_nil))))))) (db_one (ds_ret (de_tup (da_cons de_str (da_cons (de_var 1) da_nil))))) db_nil)
  (db_one (ds_ret (de_if (dt_cmp do_in (de_var 1) (de_op do_add (de_getS hr.units (de_var 0) (fun _ _ => rfl)) (de_lc [("_law_road_here", 3)] sc_law_new_due.nd (di_seq (de_getS hr.units (de_var 0) (fun _ _ => rfl))) (blkOk_by (own := [("_law_road_here", 3)]) (N := ["_law_m", "_law_name", "_law_sign", "_law_road_here"]) (sc := defScope s_law_new_due) (by decide +kernel)) (fun _ _ _ _ _ => (dgw_name sc_law_new_due.nd rfl (by first | exact Or.inl rfl | exact Or.inr rfl))) (fun _ _ _ _ _ => dts_nil) (fun _ _ _ _ _ => (de_ix (de_var 3) de_int))))) (de_tup (da_cons de_str (da_cons (de_var 1) da_nil))) de_non))))
theorem ok_law_pick (T : Ty K mg base A) : FnOk P w K mg base (L2.CX P w) 2 A.a_law_pick A.d_law_pick ["_law_flow_here", "_law_lot"] (spF (Gx K A) 2 m_law_pick) := by
  refine fn_ok false T.F_law_pick sc_law_pick (fun cdv A1 outer s1 H1 E1 hr => ?_)
  exact (db_one (ds_ret (de_ix (de_var 1) (de_call (ok_law_draw T) (hr.mono (by decide)) T.g_law_draw T.F_law_draw.kp T.b_law_draw fn_tk (da_cons (de_var 0) (da_cons (de_callB (dc_len) rfl T.z_len boot_len (da_cons (de_var 1) da_nil)) da_nil))))))
theorem ok_law_odd_name (T : Ty K mg base A) : FnOk P w K mg base (L2.CX P w) 3 A.a_law_odd_name A.d_law_odd_name ["_law_flow_here"] (spF (Gx K A) 1 m_law_odd_name) := by
  refine fn_ok false T.F_law_odd_name sc_law_odd_name (fun cdv A1 outer s1 H1 E1 hr => ?_)
  exact (db_one (ds_ret (de_call (ok_law_pick T) (hr.mono (by decide)) T.g_law_pick T.F_law_pick.kp T.b_law_pick fn_tk (da_cons (de_var 0) (da_cons (de_lst (da_cons de_str (da_cons de_str (da_cons de_str (da_cons de_str (da_cons de_str (da_cons de_str (da_cons de_str da_nil)))))))) da_nil)))))
theorem ok_law_new_name (T : Ty K mg base A) : FnOk P w K mg base (L2.CX P w) 4 A.a_law_new_name A.d_law_new_name ["_law_flow_here", "_law_m"] (spF (Gx K A) 2 m_law_new_name) := by
  refine fn_ok false T.F_law_new_name sc_law_new_name (fun cdv A1 outer s1 H1 E1 hr => ?_)
  exact (db_cons (ds_set (i := 2) sc_law_new_name.nd (de_op do_add (de_op do_add (de_getS hr.units (de_var 1) (fun _ _ => rfl)) (de_lc [("_law_road_here", 3)] sc_law_new_name.nd (di_seq (de_getS hr.units (de_var 1) (fun _ _ => rfl))) (blkOk_by (own := [("_law_road_here", 3)]) (N := ["_law_flow_here", "_law_m", "_law_some", "_law_road_here"]) (sc := defScope s_law_new_name) (by decide +kernel)) (fun _ _ _ _ _ => (dgw_name sc_law_new_name.nd rfl (by first | exact Or.inl rfl | exact Or.inr rfl))) (fun _ _ _ _ _ => dts_nil) (fun _ _ _ _ _ => (de_ix (de_var 3) de_int)))) (de_lst (da_cons de_str (da_cons de_str da_nil)))))
  (db_cons (ds_if (dt_cmp (do_eq hr.units) (de_call (ok_law_draw T) (hr.mono (by decide)) T.g_law_draw T.F_law_draw.kp T.b_law_draw fn_tk (da_cons (de_var 0) (da_cons de_int da_nil))) de_int) (db_one (ds_ret (de_call (ok_law_odd_name T) (hr.mono (by decide)) T.g_law_odd_name T.F_law_odd_name.kp T.b_law_odd_name fn_tk (da_cons (de_var 0) da_nil)))) db_nil)
  (db_one (ds_ret (de_call (ok_law_pick T) (hr.mono (by decide)) T.g_law_pick T.F_law_pick.kp T.b_law_pick fn_tk (da_cons (de_var 0) (da_cons (de_op do_add (de_var 2) (de_lst (da_cons de_str (da_cons de_str (da_cons de_str (da_cons de_str (da_cons de_str (da_cons de_str (da_cons de_str (da_cons de_str da_nil)))))))))) da_nil)))))))
theorem ok_law_road_due (T : Ty K mg base A) : FnOk P w K mg base (L2.CX P w) 2 A.a_law_road_due A.d_law_road_due ["_law_m", "_law_name", "_law_begin", "_law_end", "_law_near", "_law_beyond"] (spF (Gx K A) 6 m_law_road_due) := by
  refine fn_ok false T.F_law_road_due sc_law_road_due (fun cdv A1 outer s1 H1 E1 hr => ?_)
  exact (db_cons (ds_set (i := 6) sc_law_road_due.nd (de_call (ok_law_new_due T) (hr.mono (by decide)) T.g_law_new_due T.F_law_new_due.kp T.b_law_new_due fn_tk (da_cons (de_var 0) (da_cons (de_var 1) da_nil))))
  (db_cons (ds_if (dt_cmp do_isNot (de_var 6) de_non) (db_one (ds_ret (de_var 6))) db_nil)
  (db_cons (ds_for fn_po (di_seq (de_lst (da_cons (de_var 2) (da_cons (de_var 3) da_nil)))) (dg_name sc_law_road_due.nd rfl (by first | exact Or.inl rfl | exact Or.inr rfl)) (db_one (ds_if (dt_cmp do_notIn (de_var 7) (de_getS hr.units (de_var 0) (fun _ _ => rfl))) (db_one (ds_ret (de_tup (da_cons de_str (da_cons (de_var 7) da_nil))))) db_nil)))
  (db_cons (ds_for fn_po (di_seq (de_lst (da_cons (de_var 4) (da_cons (de_var 5) da_nil)))) (dg_name sc_law_road_due.nd rfl (by first | exact Or.inl rfl | exact Or.inr rfl)) (db_one (ds_if (dt_w (dw_or (dt_cmp (do_eq hr.units) (de_var 8) de_int) (dw_or1 (dt_not (dt_chain do_le do_le (de_neg de_int) (de_var 8) de_int))))) (db_one (ds_ret (de_tup (da_cons de_str (da_cons (de_var 8) da_nil))))) db_nil)))
  (db_one (ds_ret (de_if (dt_cmp do_gt (de_callB (dc_len) rfl T.z_len boot_len (da_cons (de_getS hr.units (de_var 0) (fun _ _ => rfl)) da_nil)) de_int) (de_tup (da_cons de_str (da_cons de_int da_nil))) de_non)))))))
theorem ok_law_same (T : Ty K mg base A) (n : Nat) : FnOk P w K mg base (L2.CX P w) (n + 1) A.a_law_same A.d_law_same ["_law_found", "_law_due"] (spF (Gx K A) 2 (m_law_same n)) := by
  induction n with
  | zero => exact fn_stuck
  | succ n rc =>
    have hk : n + 1 ≤ n + 1 := Nat.le_refl _
    refine fn_ok false T.F_law_same sc_law_same (fun cdv A1 outer s1 H1 E1 hr => ?_)
    exact (db_cons (ds_if (dt_truth (de_callB (dc_isi T.isi) rfl T.z_isinstance boot_isinstance (da_cons (de_var 1) (da_cons (de_ty rfl T.z_bool boot_bool) da_nil)))) (db_one (ds_ret (de_and (de_callB (dc_isi T.isi) rfl T.z_isinstance boot_isinstance (da_cons (de_var 0) (da_cons (de_ty rfl T.z_bool boot_bool) da_nil))) (de_one (de_cmp (do_eq hr.units) (de_var 0) (de_var 1)))))) db_nil)
  (db_cons (ds_if (dt_cmp do_is (de_var 1) de_non) (db_one (ds_ret (de_cmp do_is (de_var 0) de_non))) db_nil)
  (db_cons (ds_if (dt_truth (de_callB (dc_isi T.isi) rfl T.z_isinstance boot_isinstance (da_cons (de_var 1) (da_cons (de_ty rfl T.z_int boot_int) da_nil)))) (db_one (ds_ret (de_and (de_callB (dc_isi T.isi) rfl T.z_isinstance boot_isinstance (da_cons (de_var 0) (da_cons (de_ty rfl T.z_int boot_int) da_nil))) (de_and (de_not (de_callB (dc_isi T.isi) rfl T.z_isinstance boot_isinstance (da_cons (de_var 0) (da_cons (de_ty rfl T.z_bool boot_bool) da_nil)))) (de_one (de_cmp (do_eq hr.units) (de_var 0) (de_var 1))))))) db_nil)
  (db_cons (ds_if (dt_truth (de_callB (dc_isi T.isi) rfl T.z_isinstance boot_isinstance (da_cons (de_var 1) (da_cons (de_ty rfl T.z_str boot_str) da_nil)))) (db_one (ds_ret (de_and (de_callB (dc_isi T.isi) rfl T.z_isinstance boot_isinstance (da_cons (de_var 0) (da_cons (de_ty rfl T.z_str boot_str) da_nil))) (de_one (de_cmp (do_eq hr.units) (de_var 0) (de_var 1)))))) db_nil)
  (db_cons (ds_if (dt_w (dw_or (dt_cmp (do_ne hr.units) (de_callB (dc_isi T.isi) rfl T.z_isinstance boot_isinstance (da_cons (de_var 1) (da_cons (de_ty rfl T.z_tuple boot_tuple) da_nil))) (de_callB (dc_isi T.isi) rfl T.z_isinstance boot_isinstance (da_cons (de_var 0) (da_cons (de_ty rfl T.z_tuple boot_tuple) da_nil)))) (dw_or1 (dt_cmp (do_ne hr.units) (de_callB (dc_isi T.isi) rfl T.z_isinstance boot_isinstance (da_cons (de_var 1) (da_cons (de_ty rfl T.z_list boot_list) da_nil))) (de_callB (dc_isi T.isi) rfl T.z_isinstance boot_isinstance (da_cons (de_var 0) (da_cons (de_ty rfl T.z_list boot_list) da_nil))))))) (db_one (ds_ret de_bl)) db_nil)
  (db_cons (ds_if (dt_w (dw_or (dt_not (dt_truth (de_callB (dc_isi T.isi) rfl T.z_isinstance boot_isinstance (da_cons (de_var 0) (da_cons (de_tup (da_cons (de_ty rfl T.z_tuple boot_tuple) (da_cons (de_ty rfl T.z_list boot_list) da_nil))) da_nil))))) (dw_or1 (dt_cmp (do_ne hr.units) (de_callB (dc_len) rfl T.z_len boot_len (da_cons (de_var 0) da_nil)) (de_callB (dc_len) rfl T.z_len boot_len (da_cons (de_var 1) da_nil)))))) (db_one (ds_ret de_bl)) db_nil)
  (db_one (ds_ret (de_callB (dc_all) rfl T.z_all boot_all (da_cons (de_lc [("_law_k", 2)] sc_law_same.nd (di_range1 T.z_range (da_cons (de_callB (dc_len) rfl T.z_len boot_len (da_cons (de_var 1) da_nil)) da_nil)) (blkOk_by (own := [("_law_k", 2)]) (N := ["_law_found", "_law_due", "_law_k"]) (sc := defScope s_law_same) (by decide +kernel)) (fun _ _ _ _ _ => (dgw_name sc_law_same.nd rfl (by first | exact Or.inl rfl | exact Or.inr rfl))) (fun _ _ _ _ _ => dts_nil) (fun _ _ _ _ _ => (de_call rc (hr.mono hk) T.g_law_same T.F_law_same.kp T.b_law_same takes0 (da_cons (de_ix (de_var 0) (de_var 2)) (da_cons (de_ix (de_var 1) (de_var 2)) da_nil))))) da_nil))))))))))
theorem ok_Web_drepr (T : Ty K mg base A) : FnOk P w K mg base (L2.CX P w) 1 A.a_Web_drepr A.d_Web_drepr ["self"] (spF (Gx K A) 1 m_Web_drepr) := by
  refine fn_ok false T.F_Web_drepr sc_Web_drepr (fun cdv A1 outer s1 H1 E1 hr => ?_)
  exact (db_one (ds_ret (de_joined (dj_cons de_str (dj_cons (de_fmt (de_callB (dc_len) rfl T.z_len boot_len (da_cons (de_fld ["Web"] T.isi (de_var 0) T.no_places) da_nil))) (dj_cons de_str (dj_cons (de_fmt (de_callB (dc_len) rfl T.z_len boot_len (da_cons (de_fld ["Web"] T.isi (de_var 0) T.no_roads) da_nil))) (dj_cons de_str dj_nil))))))))
theorem ok_Web_road_of (T : Ty K mg base A) : FnOk P w K mg base (L2.CX P w) 1 A.a_Web_road_of A.d_Web_road_of ["self", "name"] (spF (Gx K A) 2 m_Web_road_of) := by
  refine fn_ok false T.F_Web_road_of sc_Web_road_of (fun cdv A1 outer s1 H1 E1 hr => ?_)
  exact (db_cons (ds_for fn_po (di_seq (de_fld ["Web"] T.isi (de_var 0) T.no_roads)) (dg_name sc_Web_road_of.nd rfl (by first | exact Or.inl rfl | exact Or.inr rfl)) (db_one (ds_if (dt_cmp (do_eq hr.units) (de_ix (de_var 2) de_int) (de_var 1)) (db_one (ds_ret (de_var 2))) db_nil)))
  (db_one ds_stop))
theorem ok_Web_turned_so (T : Ty K mg base A) : FnOk P w K mg base (L2.CX P w) 2 A.a_Web_turned_so A.d_Web_turned_so ["self", "step", "at"] (spF (Gx K A) 3 m_Web_turned_so) := by
  refine fn_ok false T.F_Web_turned_so sc_Web_turned_so (fun cdv A1 outer s1 H1 E1 hr => ?_)
  exact (db_cons (ds_asg (de_var 1) (dg_tup (dgs_cons (dg_name sc_Web_turned_so.nd rfl (by first | exact Or.inl rfl | exact Or.inr rfl)) (dgs_cons (dg_name sc_Web_turned_so.nd rfl (by first | exact Or.inl rfl | exact Or.inr rfl)) dgs_nil))))
  (db_cons (ds_set (i := 5) sc_Web_turned_so.nd (de_meth (c := "Web") T.isi rfl (de_var 0) (da_cons (de_var 3) da_nil) T.me_Web_road_of (ok_Web_road_of T) (hr.mono (by decide)) T.b_Web_road_of fn_tk))
  (db_cons (ds_if (dt_cmp do_notIn (de_var 4) (de_tup (da_cons de_int (da_cons (de_neg de_int) da_nil)))) (db_one ds_stop) db_nil)
  (db_one (ds_ret (de_if (dt_cmp (do_eq hr.units) (de_var 4) de_int) (de_tup (da_cons (de_ix (de_var 5) (de_var 2)) (da_cons (de_ix (de_var 5) (de_op do_add (de_var 2) de_int)) da_nil))) (de_tup (da_cons (de_ix (de_var 5) (de_op do_add (de_var 2) de_int)) (da_cons (de_ix (de_var 5) (de_var 2)) da_nil)))))))))
theorem ok_Web_ends (T : Ty K mg base A) : FnOk P w K mg base (L2.CX P w) 3 A.a_Web_ends A.d_Web_ends ["self", "step"] (spF (Gx K A) 2 m_Web_ends) := by
  refine fn_ok false T.F_Web_ends sc_Web_ends (fun cdv A1 outer s1 H1 E1 hr => ?_)
  exact (db_one (ds_ret (de_meth (c := "Web") T.isi rfl (de_var 0) (da_cons (de_var 1) (da_cons de_int da_nil)) T.me_Web_turned_so (ok_Web_turned_so T) (hr.mono (by decide)) T.b_Web_turned_so fn_tk)))
theorem ok_Web_passages (T : Ty K mg base A) : FnOk P w K mg base (L2.CX P w) 1 A.a_Web_passages A.d_Web_passages ["self"] (spF (Gx K A) 1 m_Web_passages) := by
  refine fn_ok false T.F_Web_passages sc_Web_passages (fun cdv A1 outer s1 H1 E1 hr => ?_)
  exact (db_one (ds_ret (de_callTy (dc_list) rfl T.z_list boot_list (da_cons (de_fld ["Web"] T.isi (de_var 0) T.no_roads) da_nil))))
theorem ok_Web_rule (T : Ty K mg base A) : FnOk P w K mg base (L2.CX P w) 3 A.a_Web_rule A.d_Web_rule ["self", "step"] (spF (Gx K A) 2 m_Web_rule) := by
  refine fn_ok false T.F_Web_rule sc_Web_rule (fun cdv A1 outer s1 H1 E1 hr => ?_)
  exact (db_one (ds_ret (de_meth (c := "Web") T.isi rfl (de_var 0) (da_cons (de_var 1) (da_cons de_int da_nil)) T.me_Web_turned_so (ok_Web_turned_so T) (hr.mono (by decide)) T.b_Web_turned_so fn_tk)))
theorem ok_Web_steps_from (T : Ty K mg base A) : FnOk P w K mg base (L2.CX P w) 4 A.a_Web_steps_from A.d_Web_steps_from ["self", "yard"] (spF (Gx K A) 2 m_Web_steps_from) := by
  refine fn_ok false T.F_Web_steps_from sc_Web_steps_from (fun cdv A1 outer s1 H1 E1 hr => ?_)
  exact (db_cons (ds_expr (de_meth (c := "Web") T.isi rfl (de_var 0) (da_cons (de_var 1) da_nil) T.me_Web_need_yard (ok_Web_need_yard T) (hr.mono (by decide)) T.b_Web_need_yard fn_tk))
  (db_cons (ds_set (i := 2) sc_Web_steps_from.nd (de_lstR da_nil))
  (db_cons (ds_for fn_po (di_seq (de_fld ["Web"] T.isi (de_var 0) T.no_roads)) (dg_star (n := 4) (i := 3) (dgs_cons (dg_name sc_Web_steps_from.nd rfl (by first | exact Or.inl rfl | exact Or.inr rfl)) (dgs_cons (dg_name sc_Web_steps_from.nd rfl (by first | exact Or.inl rfl | exact Or.inr rfl)) (dgs_cons (dg_name sc_Web_steps_from.nd rfl (by first | exact Or.inl rfl | exact Or.inr rfl)) (dgs_star (dg_name sc_Web_steps_from.nd rfl (by first | exact Or.inl rfl | exact Or.inr rfl)) dgs_nil))))) (db_cons (ds_if (dt_cmp (do_eq hr.units) (de_var 4) (de_var 1)) (db_one (ds_expr (de_append (de_var 2) (de_tup (da_cons (de_var 3) (da_cons de_int da_nil)))))) db_nil)
  (db_one (ds_if (dt_cmp (do_eq hr.units) (de_var 5) (de_var 1)) (db_one (ds_expr (de_append (de_var 2) (de_tup (da_cons (de_var 3) (da_cons (de_neg de_int) da_nil)))))) db_nil))))
  (db_one (ds_ret (de_var 2))))))
theorem ok_Web_yards (T : Ty K mg base A) : FnOk P w K mg base (L2.CX P w) 1 A.a_Web_yards A.d_Web_yards ["self"] (spF (Gx K A) 1 m_Web_yards) := by
  refine fn_ok false T.F_Web_yards sc_Web_yards (fun cdv A1 outer s1 H1 E1 hr => ?_)
  exact (db_one (ds_ret (de_callTy (dc_list) rfl T.z_list boot_list (da_cons (de_fld ["Web"] T.isi (de_var 0) T.no_places) da_nil))))
theorem ok_law_road (T : Ty K mg base A) : FnOk P w K mg base (L2.CX P w) 1 A.a_law_road A.d_law_road ["_law_m", "_law_name"] (spF (Gx K A) 2 m_law_road) := by
  refine fn_ok false T.F_law_road sc_law_road (fun cdv A1 outer s1 H1 E1 hr => ?_)
  exact (db_one (ds_ret (de_ix (de_lc [("_law_road_here", 2)] sc_law_road.nd (di_seq (de_getS hr.units (de_var 0) (fun _ _ => rfl))) (blkOk_by (own := [("_law_road_here", 2)]) (N := ["_law_m", "_law_name", "_law_road_here"]) (sc := defScope s_law_road) (by decide +kernel)) (fun _ _ _ _ _ => (dgw_name sc_law_road.nd rfl (by first | exact Or.inl rfl | exact Or.inr rfl))) (fun _ _ _ _ _ => (dts_one (dt_cmp (do_eq hr.units) (de_ix (de_var 2) de_int) (de_var 1)))) (fun _ _ _ _ _ => (de_var 2))) de_int)))
theorem ok_law_ends (T : Ty K mg base A) : FnOk P w K mg base (L2.CX P w) 2 A.a_law_ends A.d_law_ends ["_law_m", "_law_step"] (spF (Gx K A) 2 m_law_ends) := by
  refine fn_ok false T.F_law_ends sc_law_ends (fun cdv A1 outer s1 H1 E1 hr => ?_)
  exact (db_cons (ds_set (i := 2) sc_law_ends.nd (de_call (ok_law_road T) (hr.mono (by decide)) T.g_law_road T.F_law_road.kp T.b_law_road fn_tk (da_cons (de_var 0) (da_cons (de_ix (de_var 1) de_int) da_nil))))
  (db_one (ds_ret (de_if (dt_cmp (do_eq hr.units) (de_ix (de_var 1) de_int) de_int) (de_tup (da_cons (de_ix (de_var 2) de_int) (da_cons (de_ix (de_var 2) de_int) da_nil))) (de_tup (da_cons (de_ix (de_var 2) de_int) (da_cons (de_ix (de_var 2) de_int) da_nil)))))))
theorem ok_law_rule (T : Ty K mg base A) : FnOk P w K mg base (L2.CX P w) 2 A.a_law_rule A.d_law_rule ["_law_m", "_law_step"] (spF (Gx K A) 2 m_law_rule) := by
  refine fn_ok false T.F_law_rule sc_law_rule (fun cdv A1 outer s1 H1 E1 hr => ?_)
  exact (db_cons (ds_set (i := 2) sc_law_rule.nd (de_call (ok_law_road T) (hr.mono (by decide)) T.g_law_road T.F_law_road.kp T.b_law_road fn_tk (da_cons (de_var 0) (da_cons (de_ix (de_var 1) de_int) da_nil))))
  (db_one (ds_ret (de_if (dt_cmp (do_eq hr.units) (de_ix (de_var 1) de_int) de_int) (de_tup (da_cons (de_ix (de_var 2) de_int) (da_cons (de_ix (de_var 2) de_int) da_nil))) (de_tup (da_cons (de_ix (de_var 2) de_int) (da_cons (de_ix (de_var 2) de_int) da_nil)))))))
theorem ok_law_steps_from (T : Ty K mg base A) : FnOk P w K mg base (L2.CX P w) 1 A.a_law_steps_from A.d_law_steps_from ["_law_m", "_law_yard"] (spF (Gx K A) 2 m_law_steps_from) := by
  refine fn_ok false T.F_law_steps_from sc_law_steps_from (fun cdv A1 outer s1 H1 E1 hr => ?_)
  exact (db_cons (ds_set (i := 2) sc_law_steps_from.nd (de_lstR da_nil))
  (db_cons (ds_for fn_po (di_seq (de_getS hr.units (de_var 0) (fun _ _ => rfl))) (dg_tup (dgs_cons (dg_name sc_law_steps_from.nd rfl (by first | exact Or.inl rfl | exact Or.inr rfl)) (dgs_cons (dg_name sc_law_steps_from.nd rfl (by first | exact Or.inl rfl | exact Or.inr rfl)) (dgs_cons (dg_name sc_law_steps_from.nd rfl (by first | exact Or.inl rfl | exact Or.inr rfl)) (dgs_cons (dg_name sc_law_steps_from.nd rfl (by first | exact Or.inl rfl | exact Or.inr rfl)) (dgs_cons (dg_name sc_law_steps_from.nd rfl (by first | exact Or.inl rfl | exact Or.inr rfl)) dgs_nil)))))) (db_cons (ds_if (dt_cmp (do_eq hr.units) (de_var 4) (de_var 1)) (db_one (ds_expr (de_append (de_var 2) (de_tup (da_cons (de_var 3) (da_cons de_int da_nil)))))) db_nil)
  (db_one (ds_if (dt_cmp (do_eq hr.units) (de_var 5) (de_var 1)) (db_one (ds_expr (de_append (de_var 2) (de_tup (da_cons (de_var 3) (da_cons (de_neg de_int) da_nil)))))) db_nil))))
  (db_one (ds_ret (de_var 2)))))
theorem ok_law_webs_stand (T : Ty K mg base A) : FnOk P w K mg base (L2.CX P w) 22 A.a_law_webs_stand A.d_law_webs_stand ["_law_web", "_law_m"] (spF (Gx K A) 2 m_law_webs_stand) := by
  refine fn_ok false T.F_law_webs_stand sc_law_webs_stand (fun cdv A1 outer s1 H1 E1 hr => ?_)
  exact (db_cons (ds_if (dt_w (dw_or (dt_not (dt_truth (de_callB (dc_isi T.isi) rfl T.z_isinstance boot_isinstance (da_cons (de_var 0) (da_cons (de_cls rfl rfl T.g_Web) da_nil))))) (dw_or1 (dt_not (dt_truth (de_call (ok_law_same T 20) (hr.mono (by decide)) T.g_law_same T.F_law_same.kp T.b_law_same fn_tk (da_cons (de_lst (da_cons (de_meth0 (c := "Web") T.isi rfl (de_var 0) T.me_Web_yards (ok_Web_yards T) (hr.mono (by decide)) T.b_Web_yards fn_tk) (da_cons (de_meth0 (c := "Web") T.isi rfl (de_var 0) T.me_Web_passages (ok_Web_passages T) (hr.mono (by decide)) T.b_Web_passages fn_tk) da_nil))) (da_cons (de_lst (da_cons (de_getS hr.units (de_var 1) (fun _ _ => rfl)) (da_cons (de_getS hr.units (de_var 1) (fun _ _ => rfl)) da_nil))) da_nil)))))))) (db_one (ds_ret de_bl)) db_nil)
  (db_cons (ds_set (i := 2) sc_law_webs_stand.nd (de_op do_add (de_op do_add (de_op do_add (de_op do_add de_str (de_callTy dc_str rfl T.z_str boot_str (da_cons (de_callB (dc_len) rfl T.z_len boot_len (da_cons (de_getS hr.units (de_var 1) (fun _ _ => rfl)) da_nil)) da_nil))) de_str) (de_callTy dc_str rfl T.z_str boot_str (da_cons (de_callB (dc_len) rfl T.z_len boot_len (da_cons (de_getS hr.units (de_var 1) (fun _ _ => rfl)) da_nil)) da_nil))) de_str))
  (db_cons (ds_set (i := 3) sc_law_webs_stand.nd (de_lst (da_cons (de_callB (dc_lenI T.len_Web rfl (ok_Web_dlen T) (hr.mono (by decide)) T.b_Web_dlen) rfl T.z_len boot_len (da_cons (de_var 0) da_nil)) (da_cons (de_callB (dc_reprI T.rep_Web rfl (ok_Web_drepr T) (hr.mono (by decide)) T.b_Web_drepr) rfl T.z_repr PyProof.Rows.boot_repr (da_cons (de_var 0) da_nil)) (da_cons (de_callTy (dc_boolI T.nbl_Web T.len_Web rfl (ok_Web_dlen T) (hr.mono (by decide)) T.b_Web_dlen) rfl T.z_bool PyProof.Rows.boot_bool (da_cons (de_var 0) da_nil)) da_nil)))))
  (db_cons (ds_if (dt_not (dt_truth (de_call (ok_law_same T 20) (hr.mono (by decide)) T.g_law_same T.F_law_same.kp T.b_law_same fn_tk (da_cons (de_var 3) (da_cons (de_lst (da_cons (de_callB (dc_len) rfl T.z_len boot_len (da_cons (de_getS hr.units (de_var 1) (fun _ _ => rfl)) da_nil)) (da_cons (de_var 2) (da_cons (de_cmp (do_ne hr.units) (de_getS hr.units (de_var 1) (fun _ _ => rfl)) (de_lst da_nil)) da_nil)))) da_nil))))) (db_one (ds_ret de_bl)) db_nil)
  (db_cons (ds_for fn_po (di_seq (de_getS hr.units (de_var 1) (fun _ _ => rfl))) (dg_name sc_law_webs_stand.nd rfl (by first | exact Or.inl rfl | exact Or.inr rfl)) (db_one (ds_if (dt_not (dt_truth (de_call (ok_law_same T 20) (hr.mono (by decide)) T.g_law_same T.F_law_same.kp T.b_law_same fn_tk (da_cons (de_meth (c := "Web") T.isi rfl (de_var 0) (da_cons (de_var 4) da_nil) T.me_Web_steps_from (ok_Web_steps_from T) (hr.mono (by decide)) T.b_Web_steps_from fn_tk) (da_cons (de_call (ok_law_steps_from T) (hr.mono (by decide)) T.g_law_steps_from T.F_law_steps_from.kp T.b_law_steps_from fn_tk (da_cons (de_var 1) (da_cons (de_var 4) da_nil))) da_nil))))) (db_one (ds_ret de_bl)) db_nil)))
  (db_cons (ds_for fn_po (di_seq (de_getS hr.units (de_var 1) (fun _ _ => rfl))) (dg_name sc_law_webs_stand.nd rfl (by first | exact Or.inl rfl | exact Or.inr rfl)) (db_one (ds_for fn_po (di_seq (de_lst (da_cons de_int (da_cons (de_neg de_int) da_nil)))) (dg_name sc_law_webs_stand.nd rfl (by first | exact Or.inl rfl | exact Or.inr rfl)) (db_cons (ds_set (i := 7) sc_law_webs_stand.nd (de_tup (da_cons (de_ix (de_var 5) de_int) (da_cons (de_var 6) da_nil))))
  (db_one (ds_if (dt_not (dt_truth (de_call (ok_law_same T 20) (hr.mono (by decide)) T.g_law_same T.F_law_same.kp T.b_law_same fn_tk (da_cons (de_lst (da_cons (de_meth (c := "Web") T.isi rfl (de_var 0) (da_cons (de_var 7) da_nil) T.me_Web_ends (ok_Web_ends T) (hr.mono (by decide)) T.b_Web_ends fn_tk) (da_cons (de_meth (c := "Web") T.isi rfl (de_var 0) (da_cons (de_var 7) da_nil) T.me_Web_rule (ok_Web_rule T) (hr.mono (by decide)) T.b_Web_rule fn_tk) da_nil))) (da_cons (de_lst (da_cons (de_call (ok_law_ends T) (hr.mono (by decide)) T.g_law_ends T.F_law_ends.kp T.b_law_ends fn_tk (da_cons (de_var 1) (da_cons (de_var 7) da_nil))) (da_cons (de_call (ok_law_rule T) (hr.mono (by decide)) T.g_law_rule T.F_law_rule.kp T.b_law_rule fn_tk (da_cons (de_var 1) (da_cons (de_var 7) da_nil))) da_nil))) da_nil))))) (db_one (ds_ret de_bl)) db_nil))))))
  (db_one (ds_ret de_bl))))))))
theorem ok_law (T : Ty K mg base A) : FnOk P w K mg base (L2.CX P w) 23 A.a_law A.d_law ["_law_script"] (spF (Gx K A) 1 m_law) := by
  refine fn_okP [⟨?ar0, ?bd0, ?sc0⟩, ⟨?ar1, ?bd1, ?sc1⟩] false T.F_law sc_law (fun cdv A1 outer s1 H1 E1 hcd hr => ?main)
  case main => exact (db_cons (ds_set (i := 1) sc_law.nd (de_call (ok_law_flow T) (hr.mono (by decide)) T.g_law_flow T.F_law_flow.kp T.b_law_flow fn_tk (da_cons (de_var 0) da_nil)))
  (db_cons (ds_set (i := 2) sc_law.nd (de_dd (dd_cons (de_lst da_nil) (dd_cons (de_lst da_nil) dd_nil))))
  (db_cons (ds_set (i := 3) sc_law.nd (de_fz (de_make0 (c := "Web") rfl T.mk_Web (ok_Web_dinit T) (hr.mono (by decide)) T.b_Web_dinit fn_tk T.g_Web)))
  (db_cons (ds_for fn_po (di_range1 T.z_range (da_cons de_int da_nil)) (dg_name sc_law.nd rfl (by first | exact Or.inl rfl | exact Or.inr rfl)) (db_cons (ds_set (i := 5) sc_law.nd (de_call (ok_law_new_name T) (hr.mono (by decide)) T.g_law_new_name T.F_law_new_name.kp T.b_law_new_name fn_tk (da_cons (de_var 1) (da_cons (de_var 2) da_nil))))
  (db_cons (ds_asg (de_tup (da_cons de_str (da_cons de_str (da_cons de_int (da_cons de_int da_nil))))) (dg_tup (dgs_cons (dg_name sc_law.nd rfl (by first | exact Or.inl rfl | exact Or.inr rfl)) (dgs_cons (dg_name sc_law.nd rfl (by first | exact Or.inl rfl | exact Or.inr rfl)) (dgs_cons (dg_name sc_law.nd rfl (by first | exact Or.inl rfl | exact Or.inr rfl)) (dgs_cons (dg_name sc_law.nd rfl (by first | exact Or.inl rfl | exact Or.inr rfl)) dgs_nil))))))
  (db_cons (ds_if (dt_w (dw_or (dt_cmp (do_eq hr.units) (de_call (ok_law_draw T) (hr.mono (by decide)) T.g_law_draw T.F_law_draw.kp T.b_law_draw fn_tk (da_cons (de_var 1) (da_cons de_int da_nil))) de_int) (dw_or1 (dt_cmp (do_eq hr.units) (de_getS hr.units (de_var 2) (fun _ _ => rfl)) (de_lst da_nil))))) (db_cons (ds_set (i := 10) sc_law.nd (de_or (de_call (ok_law_new_due T) (hr.mono (by decide)) T.g_law_new_due T.F_law_new_due.kp T.b_law_new_due fn_tk (da_cons (de_var 2) (da_cons (de_var 5) da_nil))) (de_one (de_if (dt_cmp do_gt (de_callB (dc_len) rfl T.z_len boot_len (da_cons (de_getS hr.units (de_var 2) (fun _ _ => rfl)) da_nil)) de_int) (de_tup (da_cons de_str (da_cons de_int da_nil))) de_non))))
  (db_one (ds_set (i := 11) sc_law.nd (de_lam (n := 0) T.TB_law (hcd.trans T.cd_law) List.mem_cons_self (tuB_ok T.tu))))) (db_cons (ds_asg (de_tup (da_cons (de_call (ok_law_pick T) (hr.mono (by decide)) T.g_law_pick T.F_law_pick.kp T.b_law_pick fn_tk (da_cons (de_var 1) (da_cons (de_op do_add (de_getS hr.units (de_var 2) (fun _ _ => rfl)) (de_lst (da_cons de_str da_nil))) da_nil))) (da_cons (de_call (ok_law_pick T) (hr.mono (by decide)) T.g_law_pick T.F_law_pick.kp T.b_law_pick fn_tk (da_cons (de_var 1) (da_cons (de_op do_add (de_op do_add (de_getS hr.units (de_var 2) (fun _ _ => rfl)) (de_getS hr.units (de_var 2) (fun _ _ => rfl))) (de_lst (da_cons de_str da_nil))) da_nil))) da_nil))) (dg_tup (dgs_cons (dg_name sc_law.nd rfl (by first | exact Or.inl rfl | exact Or.inr rfl)) (dgs_cons (dg_name sc_law.nd rfl (by first | exact Or.inl rfl | exact Or.inr rfl)) dgs_nil))))
  (db_cons (ds_set (i := 8) sc_law.nd (de_call (ok_law_pick T) (hr.mono (by decide)) T.g_law_pick T.F_law_pick.kp T.b_law_pick fn_tk (da_cons (de_var 1) (da_cons (de_lst (da_cons de_int (da_cons (de_neg de_int) (da_cons de_int (da_cons de_int (da_cons (de_neg de_int) (da_cons de_int (da_cons (de_neg de_int) (da_cons (de_op do_pow de_int de_int) (da_cons (de_op do_add de_int (de_call (ok_law_draw T) (hr.mono (by decide)) T.g_law_draw T.F_law_draw.kp T.b_law_draw fn_tk (da_cons (de_var 1) (da_cons de_int da_nil)))) da_nil)))))))))) da_nil))))
  (db_cons (ds_set (i := 9) sc_law.nd (de_call (ok_law_pick T) (hr.mono (by decide)) T.g_law_pick T.F_law_pick.kp T.b_law_pick fn_tk (da_cons (de_var 1) (da_cons (de_lst (da_cons de_int (da_cons (de_neg de_int) (da_cons de_int (da_cons de_int (da_cons de_int (da_cons (de_op do_add de_int (de_call (ok_law_draw T) (hr.mono (by decide)) T.g_law_draw T.F_law_draw.kp T.b_law_draw fn_tk (da_cons (de_var 1) (da_cons de_int da_nil)))) da_nil))))))) da_nil))))
  (db_cons (ds_set (i := 10) sc_law.nd (de_call (ok_law_road_due T) (hr.mono (by decide)) T.g_law_road_due T.F_law_road_due.kp T.b_law_road_due fn_tk (da_cons (de_var 2) (da_cons (de_var 5) (da_cons (de_var 6) (da_cons (de_var 7) (da_cons (de_var 8) (da_cons (de_var 9) da_nil))))))))
  (db_one (ds_set (i := 11) sc_law.nd (de_lam (n := 1) T.TB_law (hcd.trans T.cd_law) List.mem_cons_self (tuB_ok T.tu)))))))))
  (db_cons (ds_if (dt_not (dt_truth (de_call (ok_law_same T 20) (hr.mono (by decide)) T.g_law_same T.F_law_same.kp T.b_law_same fn_tk (da_cons (de_askV (k := 4) (fieldR_ne fS) T.g_law_field T.F_law_field sc_law_field T.b_law_field (fun cdv => gv_law_field T.toTx rfl rfl _ cdv) (hr.mono (by decide)) (by exact (.cons ⟨by exact LamX.lamS_by rfl, fun _ _ _ _ _ => rfl, fun A2 outer2 s2 H2 E2 f2 c2 hr => (de_meth (c := "Web") T.isi rfl (de_var 3) (da_cons (de_var 5) da_nil) T.me_Web_with_yard (ok_Web_with_yard T) (hr.mono (by decide)) T.b_Web_with_yard lam_tk)⟩ (.cons ⟨by exact LamX.lamS_by rfl, fun _ _ _ _ _ => rfl, fun A2 outer2 s2 H2 E2 f2 c2 hr => (de_methK (is := [1, 0]) (c := "Web") T.isi rfl (de_var 3) (da_cons (de_var 5) (da_cons (de_var 6) (da_cons (de_var 7) da_nil))) (dk_cons (de_var 9) (dk_cons (de_var 8) dk_nil)) T.me_Web_with_passage (ok_Web_with_passage T) (hr.mono (by decide)) T.kb0_Web_with_passage lam_tk)⟩ .nil)))) (da_cons (de_var 10) da_nil))))) (db_one (ds_ret de_bl)) db_nil)
  (db_cons (ds_if (dt_cmp do_is (de_var 10) de_non) (db_beg 1 (df_cons (ds_set (i := 12) sc_law.nd (de_callV (k := 4) fn_tk (hr.mono (by decide)) (by exact (.cons ⟨by exact LamX.lamS_by rfl, fun _ _ _ _ _ => rfl, fun A2 outer2 s2 H2 E2 f2 c2 hr => (de_meth (c := "Web") T.isi rfl (de_var 3) (da_cons (de_var 5) da_nil) T.me_Web_with_yard (ok_Web_with_yard T) (hr.mono (by decide)) T.b_Web_with_yard lam_tk)⟩ (.cons ⟨by exact LamX.lamS_by rfl, fun _ _ _ _ _ => rfl, fun A2 outer2 s2 H2 E2 f2 c2 hr => (de_methK (is := [1, 0]) (c := "Web") T.isi rfl (de_var 3) (da_cons (de_var 5) (da_cons (de_var 6) (da_cons (de_var 7) da_nil))) (dk_cons (de_var 9) (dk_cons (de_var 8) dk_nil)) T.me_Web_with_passage (ok_Web_with_passage T) (hr.mono (by decide)) T.kb0_Web_with_passage lam_tk)⟩ .nil)))))
  (df_cons (ds_if (dt_not (dt_truth (de_call (ok_law_webs_stand T) (hr.mono (by decide)) T.g_law_webs_stand T.F_law_webs_stand.kp T.b_law_webs_stand fn_tk (da_cons (de_var 3) (da_cons (de_var 2) da_nil))))) (db_one (ds_ret de_bl)) db_nil)
  (df_cons (ds_set (i := 13) sc_law.nd (de_callTy dc_dictC rfl T.z_dict boot_dict (da_cons (de_var 2) da_nil)))
  (df_cons (ds_if (dt_cmp do_gt (de_callB (dc_lenI T.len_Web rfl (ok_Web_dlen T) (hr.mono (by decide)) T.b_Web_dlen) rfl T.z_len boot_len (da_cons (de_var 12) da_nil)) (de_callB (dc_lenI T.len_Web rfl (ok_Web_dlen T) (hr.mono (by decide)) T.b_Web_dlen) rfl T.z_len boot_len (da_cons (de_var 3) da_nil))) (db_one (ds_asg (de_op do_add (de_getS hr.units (de_var 2) (fun _ _ => rfl)) (de_lst (da_cons (de_var 5) da_nil))) (dg_key hr.units (de_var 13) de_str))) (db_one (ds_asg (de_op do_add (de_getS hr.units (de_var 2) (fun _ _ => rfl)) (de_lst (da_cons (de_tup (da_cons (de_var 5) (da_cons (de_var 6) (da_cons (de_var 7) (da_cons (de_var 8) (da_cons (de_var 9) da_nil)))))) da_nil))) (dg_key hr.units (de_var 13) de_str))))
  (df_cons (ds_asg (de_tup (da_cons (de_var 12) (da_cons (de_var 13) da_nil))) (dg_tup (dgs_cons (dg_name sc_law.nd rfl (by first | exact Or.inl rfl | exact Or.inr rfl)) (dgs_cons (dg_name sc_law.nd rfl (by first | exact Or.inl rfl | exact Or.inr rfl)) dgs_nil))))
  (df_fz (n := 1) db_nil))))))) db_nil)
  (db_one (ds_if (dt_not (dt_truth (de_call (ok_law_webs_stand T) (hr.mono (by decide)) T.g_law_webs_stand T.F_law_webs_stand.kp T.b_law_webs_stand fn_tk (da_cons (de_var 3) (da_cons (de_var 2) da_nil))))) (db_one (ds_ret de_bl)) db_nil))))))))
  (db_one (ds_ret de_bl))))))
end
end Lw
set_option Elab.async false
set_option linter.all false
set_option maxRecDepth 100000
set_option maxHeartbeats 4000000
set_option autoImplicit false
noncomputable section
namespace Lw
open PySem Dv
/-! steps of our own words -/
local macro_rules | `(tactic| walk_at "num") => `(tactic| first | assumption | decide | omega)
local macro_rules | `(tactic| walk_at "dv0") => `(tactic| with_reducible first
  | refine v_seq ?_ | refine v_ifS ?_ | refine v_set ?_ | refine v_ret ?_ | refine v_asg ?_ | refine v_par ?_ | refine v_drop ?_ | refine v_nx ?_ | refine v_bk ?_ | refine v_ct ?_ | refine v_retN ?_ | refine v_for ?_
  | refine v_c ?_ | refine v_nil ?_ | refine v_cons ?_ | refine v_op ?_ | refine v_B ?_ | refine v_truth ?_ | refine v_andT ?_ | refine v_orT ?_ | refine v_notT ?_
  | refine v_andV ?_ | refine v_orV ?_ | refine v_notV ?_ | refine v_if ?_ | refine v_neg ?_ | refine v_chain ?_ | refine v_tup ?_ | refine v_lst ?_ | refine v_lstR ?_ | refine v_noPart ?_ | refine v_part ?_ | refine v_sl ?_
  | refine v_CB ?_ | refine v_call ?_ | refine v_abs ?_ | refine v_lc ?_ | refine v_yes ?_ | refine v_it ?_ | refine v_rng1 ?_ | refine v_rng2 ?_ | refine v_rng3 ?_ | refine v_T ?_ | refine v_F ?_
  | refine v_add ?_ | refine v_sub ?_ | refine v_iadd ?_ | refine v_lt ?_ | refine v_le ?_ | refine v_gt ?_ | refine v_ge ?_ | refine v_eqI ?_ | refine v_neI ?_ | refine v_eqB ?_ | refine v_neB ?_)
local macro_rules | `(tactic| walk_at "dv1") => `(tactic| first
  | (with_reducible refine' v_var ?h ?_); (case h => rfl)
  | (with_reducible refine' v_aug ?h ?_); (case h => rfl)
  | (with_reducible refine' v_div ?h1 ?h2 ?_); (case h1 => walk_at "num"); (case h2 => walk_at "num")
  | (with_reducible refine' v_mod ?h1 ?_); (case h1 => walk_at "num")
  | (with_reducible refine' v_pow ?h1 ?_); (case h1 => walk_at "num")
  | (with_reducible refine' v_mulR ?h1 ?_); (case h1 => walk_at "num")
  | (with_reducible refine' v_mulL ?h1 ?_); (case h1 => walk_at "num")
  | (with_reducible refine' v_fin ?h1 ?_); (case h1 => first | exact Or.inl rfl | exact Or.inr rfl | (refine Or.inr ?_; simp only [List.length_set, *]; done))
  | (with_reducible refine' v_ix ?h1 ?_); (case h1 => first | exact ixD_ref (by assumption) (by rfl) | rfl)
  | (with_reducible refine' v_len ?h1 ?_); (case h1 => first | exact lenD_ref (by assumption) | rfl)
  | (with_reducible refine' v_list ?h1 ?_); (case h1 => rfl)
  | (with_reducible refine' v_listR ?h1 ?_); (case h1 => rfl)
  | (with_reducible refine' v_tuple ?h1 ?_); (case h1 => rfl)
  | (with_reducible refine' v_isd ?h1 ?_); (case h1 => rfl)
  | (with_reducible refine' v_isiTy ?h1 ?h2 ?_); (case h1 => rfl); (case h2 => rfl)
  | (with_reducible refine' v_isiT ?h1 ?_); (case h1 => rfl))
local macro_rules | `(tactic| walk_at "dv2") => `(tactic| first
  | refine v_gsub (by rfl) (by rfl) (by assumption) (by rfl) (fun _ _ _ => ?_) | refine ⟨_, rfl, ?_⟩ | (with_reducible refine' ⟨rng_ok ?h1 ?h2, ?_⟩); (case h1 => omega); (case h2 => omega) | refine ⟨rfl, ?_⟩ | refine ⟨_, _, rfl, ?_⟩ | refine ⟨Nat.le_of_ble_eq_true rfl, ?_⟩)
local macro_rules | `(tactic| walk_at "dv3") => `(tactic| first
  | (with_reducible refine' v_dec (fun _ => ?_) (fun hn => absurd ?h hn)); (case h => first | assumption | omega | decide)
  | (with_reducible refine' v_dec (fun hn => absurd hn ?h) (fun _ => ?_)); (case h => first | assumption | omega | decide)
  | (with_reducible refine' v_ndec (fun _ => ?_) (fun hn => absurd hn ?h)); (case h => first | assumption | omega | decide)
  | (with_reducible refine' v_ndec (fun hn => absurd ?h hn) (fun _ => ?_)); (case h => first | assumption | omega | decide)
  | (with_reducible refine' v_bT ?h ?_); (case h => first | assumption | rfl)
  | (with_reducible refine' v_bF ?h ?_); (case h => first | assumption | rfl))
local macro_rules | `(tactic| walk_at "dv4") => `(tactic| with_reducible first
  | refine v_places ?_ | refine v_roads ?_ | refine v_over ?_ | refine v_line ?_ | refine v_spots ?_ | refine v_myards ?_ | refine v_mroads ?_ | refine v_mW (by decide +kernel) ?_ | refine v_mK (by decide +kernel) ?_
  | refine v_itX ?_ | refine v_ev ?_ | refine v_rev ?_ | refine v_zs ?_ | refine v_enum ?_ | refine v_enum2 ?_ | refine v_makeV ?_ | refine v_tryN ?_ | refine v_lc2 ?_ | refine v_fz ?_ | refine v_make ?_ | refine v_fldS ?_)
local macro_rules | `(tactic| walk_at "dv5") => `(tactic| first
  | refine ⟨_, _, rfl, rfl, ?_⟩ | refine ⟨⟨_, _, rfl⟩, ?_⟩ | refine ⟨⟨_, _, _, rfl⟩, ?_⟩ | refine ⟨_, _, _, rfl, ?_⟩ | refine Or.inl ⟨_, rfl, ?_⟩ | refine Or.inr ⟨_, (fun _ z => by cases z), rfl, ?_⟩)
local macro_rules | `(tactic| walk_at "dv") => `(tactic| repeat (first | walk_at "dv0" | walk_at "dv4" | walk_at "dv1" | walk_at "dv3" | walk_at "dv2" | walk_at "dv5"))
structure Fw where
  cells : List Int
  pos : Nat
  rest : Nat
  base : Nat
abbrev Fw.ds (f : Fw) : List Dt := [.lst (f.cells.map Dt.int), .int f.pos, .int f.rest, .int f.base]
abbrev Fw.ob (f : Fw) : Ob := .lst f.ds
/-- a draw gives a number from 0 on, below the size; the flow stays a flow -/
def Drawn (S : Store) (i : Nat) (n : Int) (d : Dt) (S' : Store) : Prop := ∃ (v : Int) (f' : Fw), d = .int v ∧ 0 ≤ v ∧ v < n ∧ f'.base < 2147483647 ∧ S' = S.set i f'.ob
theorem draw_rest {S : Store} {i : Nat} {f : Fw} {n : Int} (hS : S[i]? = some f.ob) (hn : 0 < n) (hl : n.natAbs.log2 < 9000) (h : 0 < f.rest) (hb : f.base < 2147483647) :
    Pe (m_law_draw [.ref i, .int n] S) (Drawn S i n) X0 := by
  refine v_fn ?_
  unfold b_law_draw
  walk_at "dv"
  refine ⟨_, { f with rest := ((f.rest : Int).fdiv n).toNat }, rfl, Int.fmod_nonneg_of_pos _ hn, Int.fmod_lt_of_pos _ hn, hb, ?_⟩
  rename_i S1 e1 e2
  rw [e1]
  have z : ((((f.rest : Int).fdiv n).toNat : Nat) : Int) = (f.rest : Int).fdiv n := Int.toNat_of_nonneg (Int.fdiv_nonneg (by omega) (by omega))
  simp [Fw.ob, Fw.ds, z]
theorem draw_cell {S : Store} {i : Nat} {f : Fw} {n : Int} (hS : S[i]? = some f.ob) (hn : 0 < n) (hl : n.natAbs.log2 < 9000) (h : f.rest = 0) (hb : f.base < 2147483647) :
    Pe (m_law_draw [.ref i, .int n] S) (Drawn S i n) X0 := by
  -- what both ways come to
  have fin1 : ∀ (S1 S2 : Store) (x r : Int), S1 = S.set i (.lst (f.ds.set (Int.toNat 1) (.int (f.pos + 1)))) → S2 = S1.set i (.lst ((f.ds.set (Int.toNat 1) (.int (f.pos + 1))).set (Int.toNat 3) (.int (x.fmod 2147483647)))) → Drawn S i n (.int (r.fmod n)) S2 := by
    intro S1 S2 x r e1 e2
    have h0 := Int.fmod_nonneg_of_pos x (b := 2147483647) (by decide)
    have h1 := Int.fmod_lt_of_pos x (b := 2147483647) (by decide)
    refine ⟨_, { f with pos := f.pos + 1, base := (x.fmod 2147483647).toNat }, rfl, Int.fmod_nonneg_of_pos _ hn, Int.fmod_lt_of_pos _ hn, ?_, ?_⟩
    · show (x.fmod 2147483647).toNat < 2147483647
      omega
    · rw [e2, e1, List.set_set]
      simp [Fw.ob, Fw.ds, Int.toNat_of_nonneg h0]
  have fin2 : ∀ (S1 S2 : Store) (a : Int), 0 ≤ a → S1 = S.set i (.lst (f.ds.set (Int.toNat 1) (.int (f.pos + 1)))) → S2 = S1.set i (.lst ((f.ds.set (Int.toNat 1) (.int (f.pos + 1))).set (Int.toNat 2) (.int (a.fdiv n)))) → Drawn S i n (.int (a.fmod n)) S2 := by
    intro S1 S2 a h0 e1 e2
    refine ⟨_, { f with pos := f.pos + 1, rest := (a.fdiv n).toNat }, rfl, Int.fmod_nonneg_of_pos _ hn, Int.fmod_lt_of_pos _ hn, hb, ?_⟩
    have z : (((a.fdiv n).toNat : Nat) : Int) = a.fdiv n := Int.toNat_of_nonneg (Int.fdiv_nonneg h0 (by omega))
    rw [e2, e1, List.set_set]
    simp [Fw.ob, Fw.ds, z]
  refine v_fn ?_
  unfold b_law_draw
  walk_at "dv"
  refine v_dec (fun hc => ?_) (fun hc => ?_)
  · obtain ⟨c, hcell⟩ : ∃ c, (f.cells.map Dt.int)[f.pos]? = some (.int c) := ⟨f.cells[f.pos]'(by simpa using hc), by simp⟩
    walk_at "dv"
    refine v_ix (atI_in hcell) ?_
    walk_at "dv"
    refine v_dec (fun hg => ?_) (fun hg => ?_)
    · walk_at "dv"
      exact fin2 _ _ _ (by split <;> omega) (by assumption) (by assumption)
    · walk_at "dv"
      exact fin1 _ _ _ _ (by assumption) (by assumption)
  · walk_at "dv"
    exact fin1 _ _ _ _ (by assumption) (by assumption)
theorem draw_spec {S : Store} {i : Nat} {f : Fw} {n : Int} (hS : S[i]? = some f.ob) (hb : f.base < 2147483647) (hn : 0 < n) (hl : n.natAbs.log2 < 9000) : Pe (m_law_draw [.ref i, .int n] S) (Drawn S i n) X0 := by
  by_cases h : 0 < f.rest
  · exact draw_rest hS hn hl h hb
  · exact draw_cell hS hn hl (by omega) hb
/-! ### the flow in a store -/
def FlowAt (S : Store) (i : Nat) : Prop := ∃ f : Fw, S[i]? = some f.ob ∧ f.base < 2147483647
/-- a store that differs in the flow alone -/
structure Fz (i : Nat) (S S' : Store) : Prop where
  len : S'.length = S.length
  oth : ∀ j : Nat, j ≠ i → S'[j]? = S[j]?
  flow : FlowAt S' i
theorem Fz.trans {i : Nat} {S S1 S2 : Store} (a : Fz i S S1) (b : Fz i S1 S2) : Fz i S S2 := ⟨b.len.trans a.len, fun j h => (b.oth j h).trans (a.oth j h), b.flow⟩
theorem draw_fz {S : Store} {i : Nat} {n : Int} {Q : Dt → Store → Prop} {X : Ex → Store → Prop} (hF : FlowAt S i) (hn : 0 < n) (hl : n.natAbs.log2 < 9000) (q : ∀ v S', 0 ≤ v → v < n → Fz i S S' → Q (.int v) S') : Pe (m_law_draw [.ref i, .int n] S) Q X := by
  obtain ⟨f, h1, h2⟩ := hF
  refine (draw_spec h1 h2 hn hl).imp (fun d S' ⟨v, f', e, v0, v1, b, eS⟩ => ?_) fun _ _ z => z.elim
  subst e
  have hi := (List.getElem?_eq_some_iff.mp h1).1
  subst eS
  exact q v _ v0 v1 ⟨by simp, fun j hj => List.getElem?_set_ne (Ne.symm hj), f', List.getElem?_set_self hi, b⟩
theorem pick_fz {S : Store} {i : Nat} {ds : List Dt} {Q : Dt → Store → Prop} {X : Ex → Store → Prop} (hF : FlowAt S i) (h0 : 0 < ds.length) (h1 : ds.length < 2 ^ 64) (q : ∀ d S', d ∈ ds → Fz i S S' → Q d S') : Pe (m_law_pick [.ref i, .lst ds] S) Q X := by
  refine v_fn ?_
  unfold b_law_pick
  walk_at "dv"
  refine draw_fz hF (by omega) ?_ fun v S' v0 v1 hz => ?_
  · have := Nat.log2_lt (n := ds.length) (k := 64) (by omega)
    simp only [Int.natAbs_natCast]
    omega
  · have hv : v.toNat < ds.length := by omega
    refine v_ix (d := ds[v.toNat]) ?_ ?_
    · have z : L2.atI ds ((v.toNat : Nat) : Int) = some ds[v.toNat] := atI_in (by simp [hv])
      rw [Int.toNat_of_nonneg v0] at z
      exact z
    · walk_at "dv"
      refine v_fin (.inr hz.len) ?_
      exact q _ _ (List.getElem_mem hv) hz
/-! the law -/
theorem cut_take {α : Type} (xs : List α) (k : Nat) : cutA xs none (some (k : Int)) = xs.take k := by
  unfold cutA
  rw [HT.sIx_nat, HT.sIx_none]
  simp only [List.drop_zero, Nat.sub_zero, Nat.min_def]
  split
  · rfl
  · rw [List.take_length, List.take_of_length_le (by omega)]
theorem flow_new {S : Store} {ns : List Int} {Q : Dt → Store → Prop} {X : Ex → Store → Prop} (q : ∀ S', S'.length = S.length + 1 → (∀ j : Nat, j < S.length → S'[j]? = S[j]?) → FlowAt S' S.length → Q (.ref S.length) S') : Pe (m_law_flow [.fz (ns.map Dt.int)] S) Q X := by
  refine v_fn ?_
  unfold b_law_flow
  walk_at "dv"
  refine q _ (by simp) (fun j hj => List.getElem?_append_left hj) ⟨⟨ns.take 63, 0, 0, 23⟩, ?_, show 23 < 2147483647 by decide⟩
  have e : cutA (List.map Dt.int ns) none (some 63) = (ns.take 63).map Dt.int := by
    rw [show (63 : Int) = ((63 : Nat) : Int) from rfl, cut_take, List.map_take]
  rw [List.getElem?_append_right (Nat.le_refl _), Nat.sub_self, e]
  rfl
/-! ### the same data are the same -/
theorem all_true : ∀ n : Nat, bools (List.replicate n (Dt.bl true)) = some (List.replicate n true)
  | 0 => rfl
  | n + 1 => by
    rw [List.replicate_succ, List.replicate_succ]
    show (bools (List.replicate n (Dt.bl true))).map (true :: ·) = _
    rw [all_true n]
    rfl
theorem range_mem {n : Nat} {d : Dt} (h : d ∈ rangeD 0 n) : ∃ k : Nat, k < n ∧ d = .int (0 + (k : Int)) := by
  unfold rangeD at h
  obtain ⟨k, hk, rfl⟩ := List.mem_map.mp h
  exact ⟨k, List.mem_range.mp hk, rfl⟩
theorem range_const (n : Nat) (x : Dt) : (rangeD 0 n).filterMap (fun _ => some x) = List.replicate n x := by
  unfold rangeD
  rw [List.filterMap_map]
  have e : ((fun _ => some x) ∘ fun (k : Nat) => Dt.int (0 + (k : Int))) = (fun k => some ((fun _ : Nat => x) k)) := rfl
  rw [e, List.filterMap_eq_map']
  simp [List.map_const']
theorem same_seq {S : Store} {k : Nat} {ds : List Dt} {x : Dt} (hx : x = .tup ds ∨ x = .lst ds) (hn : ds.length ≤ 100000) (ih : ∀ d ∈ ds, m_law_same k [d, d] S = .ok (.bl true) S) : Pe (m_law_same (k + 1) [x, x] S) (fun d S' => d = .bl true ∧ S' = S) X0 := by
  refine v_fn ?_
  unfold b_law_same
  have elem : ∀ (x : Dt) (j : Nat) (e1 : Dv.Env), (x = .tup ds ∨ x = .lst ds) → j < ds.length → e1 = [some x, some x, some (.int (0 + (j : Int)))] → Pe (mCall 2 (m_law_same k) (mCons (mOp mIx (mVar 0) (mVar 2)) (mCons (mOp mIx (mVar 1) (mVar 2)) mNil)) e1 S) (fun x S2 => S2 = S ∧ some (Dt.bl true) = some x) X0 := by
    intro x j e1 hx hj he
    subst he
    have ej : ds[j]? = some ds[j] := by simp [hj]
    have z : L2.atI ds (0 + (j : Int)) = some ds[j] := by
      rw [Int.zero_add]
      exact atI_in ej
    have zz : ixD S x (0 + (j : Int)) = some ds[j] := by rcases hx with rfl | rfl <;> exact z
    walk_at "dv"
    refine v_ix zz ?_
    walk_at "dv"
    refine v_ix zz ?_
    walk_at "dv"
    exact Pe.of (ih _ (List.getElem_mem hj)) ⟨rfl, rfl⟩
  have rest : ∀ {x : Dt} {en : Dv.Env} {Q : List Dt → Store → Prop} {X : Ex → Store → Prop}, (x = .tup ds ∨ x = .lst ds) → en = [some x, some x, none] → Q (List.replicate ds.length (.bl true)) S → Pe (cLoop (wNm 2) mYes
      (mCall 2 (m_law_same k) (mCons (mOp mIx (mVar 0) (mVar 2)) (mCons (mOp mIx (mVar 1) (mVar 2)) mNil))) en (rangeD 0 (ds.length : Int).toNat) [] S) Q X := by
    intro x en Q X hx he q
    subst he
    refine v_cloop (fun _ => some (.bl true)) (fun d hd => ?_) ?_ ?_
    · obtain ⟨j, hj, rfl⟩ := range_mem hd
      refine ⟨_, rfl, v_yes ⟨rfl, v_T ?_⟩⟩
      exact elem x j _ hx (by simpa using hj) rfl
    · simp [rangeD]
      omega
    · rw [List.nil_append, Int.toNat_natCast, range_const]
      exact q
  have fin : ∀ {Q : Dt → Store → Prop} {X : Ex → Store → Prop}, Q (.bl true) S → Pe (mAll [.lst (List.replicate ds.length (.bl true))] S) Q X := by
    intro Q X q
    unfold mAll
    simp only [asL, Option.bind_some, all_true]
    refine v_ok ?_
    have e : (List.replicate ds.length true).all (fun b => b) = true := by simp
    rw [e]
    exact q
  rcases hx with rfl | rfl
  · walk_at "dv"
    refine rest (.inl rfl) rfl ?_
    walk_at "dv"
    refine fin ?_
    walk_at "dv"
    rfl
  · walk_at "dv"
    refine rest (.inr rfl) rfl ?_
    walk_at "dv"
    refine fin ?_
    walk_at "dv"
    rfl
theorem same_int {S : Store} {k : Nat} {i : Int} : m_law_same (k + 1) [.int i, .int i] S = .ok (.bl true) S := by
  refine Pe.eq ?_
  refine v_fn ?_
  unfold b_law_same
  walk_at "dv"
  simp
/-! ### stores of pure objects, with others behind them -/
def pureO : Ob → Bool
  | .lst ds => ds.all (noRef 11)
  | .ins _ _ ds => ds.all (noRef 11)
  | .dct _ ds => ds.all (noRef 11)
def PureS (S : Store) : Prop := ∀ o ∈ S, pureO o = true
theorem noRef_up : ∀ (k : Nat) (d : Dt), noRef k d = true → noRef (k + 1) d = true := by
  intro k
  induction k with
  | zero =>
    intro d h
    cases d <;> first | rfl | exact absurd h (by simp [noRef])
  | succ k ih =>
    intro d h
    have al : ∀ ds : List Dt, ds.all (noRef k) = true → ds.all (noRef (k + 1)) = true := fun ds h => List.all_eq_true.mpr fun x hx => ih x (List.all_eq_true.mp h x hx)
    cases d with
    | tup ds => exact al ds h
    | lst ds => exact al ds h
    | fz ds => exact al ds h
    | ins c ns ds => exact al ds h
    | dct ks ds => exact al ds h
    | ref i => exact absurd h (by simp [noRef])
    | _ => first | rfl | exact absurd h (by simp [noRef])
theorem mapO_pure {n : Nat} {S : Store} {k : Nat} : ∀ {ds : List Dt}, ds.all (noRef k) = true → mapO (frz n S k) ds = some ds
  | [], _ => rfl
  | d :: ds, h => by
    rw [List.all_cons, Bool.and_eq_true] at h
    unfold mapO
    rw [frz_pure h.1, mapO_pure h.2]
    rfl
theorem all_up {k : Nat} {ds : List Dt} (h : ds.all (noRef k) = true) : ds.all (noRef (k + 1)) = true := List.all_eq_true.mpr fun x hx => noRef_up k x (List.all_eq_true.mp h x hx)
theorem frzO_pure {n : Nat} {S : Store} {o : Ob} (h : pureO o = true) : frzO n S deepF o = some o := by
  cases o with
  | lst ds => simp [frzO, mapO_pure (show ds.all (noRef deepF) = true from all_up h)]
  | ins c ns ds => simp [frzO, mapO_pure (show ds.all (noRef deepF) = true from all_up h)]
  | dct ks ds => simp [frzO, mapO_pure (show ds.all (noRef deepF) = true from all_up h)]
theorem mapOb_pure {n : Nat} {S : Store} : ∀ {T : Store}, PureS T → mapO (frzO n S deepF) T = some T
  | [], _ => rfl
  | o :: T, h => by
    unfold mapO
    rw [frzO_pure (h o List.mem_cons_self), mapOb_pure fun x hx => h x (List.mem_cons_of_mem _ hx)]
    rfl
theorem exit_pure {n : Nat} {S : Store} (h : PureS (S.take n)) : exitS n S = some (S.take n) := mapOb_pure h
theorem frz_ref {n k : Nat} {S : Store} {ds : List Dt} (hS : S[k]? = some (.lst ds)) (hk : n ≤ k) (h : ds.all (noRef 11) = true) : frz n S deepF (.ref k) = some (.lst ds) := by
  show frz n S (11 + 1) (.ref k) = _
  unfold frz
  rw [if_neg (by simp [noRef])]
  dsimp only
  rw [if_neg (by omega), hS]
  dsimp only
  rw [mapO_pure h]
  rfl
theorem v_finL {n : Nat} {d d' : Dt} {S : Store} {Q : Dt → Store → Prop} {X : Ex → Store → Prop} (hf : frz n S deepF d = some d') (hl : n < S.length) (h : PureS (S.take n)) (q : Q d' (S.take n)) : Pe (fin false n d S) Q X := by
  unfold fin
  rw [if_neg (by
    rintro (z | z)
    · cases z
    · omega), hf, exit_pure h]
  exact q
/-- S with junk behind it -/
structure Jz (S T : Store) : Prop where
  le : S.length ≤ T.length
  eq : T.take S.length = S
theorem Jz.refl {S : Store} : Jz S S := ⟨Nat.le_refl _, List.take_length⟩
theorem Jz.push {S T : Store} {o : Ob} (j : Jz S T) : Jz S (T ++ [o]) := ⟨by rw [List.length_append]; have := j.le; omega, by rw [List.take_append_of_le_length j.le]; exact j.eq⟩
theorem Jz.set {S T : Store} {k : Nat} {o : Ob} (j : Jz S T) (hk : S.length ≤ k) : Jz S (T.set k o) := ⟨by rw [List.length_set]; exact j.le, by rw [List.take_set_of_le hk]; exact j.eq⟩
/-- the list at k, by value -/
theorem v_finJ {S T : Store} {k : Nat} {ds : List Dt} {Q : Dt → Store → Prop} {X : Ex → Store → Prop} (j : Jz S T) (hp : PureS S) (hT : T[k]? = some (.lst ds)) (hk : S.length ≤ k) (h : ds.all (noRef 11) = true) (q : Q (.lst ds) S) : Pe (fin false S.length (.ref k) T) Q X := by
  have hl : k < T.length := (List.getElem?_eq_some_iff.mp hT).1
  refine v_finL (frz_ref hT hk h) (by omega) ?_ ?_
  · rw [j.eq]
    exact hp
  · rw [j.eq]
    exact q
theorem Fw.pure (f : Fw) : pureO f.ob = true := by
  simp [Fw.ob, Fw.ds, pureO, noRef]
theorem Fz.pure {i : Nat} {S S' : Store} (z : Fz i S S') (h : PureS S) : PureS S' := by
  intro o ho
  obtain ⟨j, hj, e⟩ := List.getElem_of_mem ho
  by_cases hi : j = i
  · subst hi
    obtain ⟨f, h1, _⟩ := z.flow
    rw [List.getElem?_eq_getElem hj] at h1
    rw [← e]
    have h3 := Option.some.inj h1
    have h4 := f.pure
    rw [← h3] at h4
    exact h4
  · have h2 := z.oth j hi
    rw [List.getElem?_eq_getElem hj] at h2
    rw [← e]
    exact h _ (List.mem_of_getElem? h2.symm)
/-- S, its flow drawn from, with junk behind it -/
structure Bz (i : Nat) (S T : Store) : Prop where
  lt : i < S.length
  le : S.length ≤ T.length
  fz : Fz i S (T.take S.length)
theorem FlowAt.lt {i : Nat} {S : Store} (h : FlowAt S i) : i < S.length := by
  obtain ⟨f, h1, _⟩ := h
  exact (List.getElem?_eq_some_iff.mp h1).1
theorem Bz.flow {i : Nat} {S T : Store} (b : Bz i S T) : FlowAt T i := by
  obtain ⟨f, h1, h2⟩ := b.fz.flow
  rw [List.getElem?_take_of_lt b.lt] at h1
  exact ⟨f, h1, h2⟩
theorem Bz.push {i : Nat} {S T : Store} {o : Ob} (b : Bz i S T) : Bz i S (T ++ [o]) := ⟨b.lt, by rw [List.length_append]; have := b.le; omega, by rw [List.take_append_of_le_length b.le]; exact b.fz⟩
theorem Bz.set {i : Nat} {S T : Store} {k : Nat} {o : Ob} (b : Bz i S T) (hk : S.length ≤ k) : Bz i S (T.set k o) := ⟨b.lt, by rw [List.length_set]; exact b.le, by rw [List.take_set_of_le hk]; exact b.fz⟩
end Lw
set_option Elab.async false
set_option linter.all false
set_option maxRecDepth 100000
set_option maxHeartbeats 4000000
set_option autoImplicit false
noncomputable section
namespace Lw
open PySem Dv
/-! steps of our own words -/
local macro_rules | `(tactic| walk_at "num") => `(tactic| first | assumption | decide | omega)
local macro_rules | `(tactic| walk_at "dv0") => `(tactic| with_reducible first
  | refine v_seq ?_ | refine v_ifS ?_ | refine v_set ?_ | refine v_ret ?_ | refine v_asg ?_ | refine v_par ?_ | refine v_drop ?_ | refine v_nx ?_ | refine v_bk ?_ | refine v_ct ?_ | refine v_retN ?_ | refine v_for ?_
  | refine v_c ?_ | refine v_nil ?_ | refine v_cons ?_ | refine v_op ?_ | refine v_B ?_ | refine v_truth ?_ | refine v_andT ?_ | refine v_orT ?_ | refine v_notT ?_
  | refine v_andV ?_ | refine v_orV ?_ | refine v_notV ?_ | refine v_if ?_ | refine v_neg ?_ | refine v_chain ?_ | refine v_tup ?_ | refine v_lst ?_ | refine v_lstR ?_ | refine v_noPart ?_ | refine v_part ?_ | refine v_sl ?_
  | refine v_CB ?_ | refine v_call ?_ | refine v_abs ?_ | refine v_lc ?_ | refine v_yes ?_ | refine v_it ?_ | refine v_rng1 ?_ | refine v_rng2 ?_ | refine v_rng3 ?_ | refine v_T ?_ | refine v_F ?_
  | refine v_add ?_ | refine v_sub ?_ | refine v_iadd ?_ | refine v_lt ?_ | refine v_le ?_ | refine v_gt ?_ | refine v_ge ?_ | refine v_eqI ?_ | refine v_neI ?_ | refine v_eqB ?_ | refine v_neB ?_)
local macro_rules | `(tactic| walk_at "dv1") => `(tactic| first
  | (with_reducible refine' v_var ?h ?_); (case h => rfl)
  | (with_reducible refine' v_aug ?h ?_); (case h => rfl)
  | (with_reducible refine' v_div ?h1 ?h2 ?_); (case h1 => walk_at "num"); (case h2 => walk_at "num")
  | (with_reducible refine' v_mod ?h1 ?_); (case h1 => walk_at "num")
  | (with_reducible refine' v_pow ?h1 ?_); (case h1 => walk_at "num")
  | (with_reducible refine' v_mulR ?h1 ?_); (case h1 => walk_at "num")
  | (with_reducible refine' v_mulL ?h1 ?_); (case h1 => walk_at "num")
  | (with_reducible refine' v_fin ?h1 ?_); (case h1 => first | exact Or.inl rfl | exact Or.inr rfl | (refine Or.inr ?_; simp only [List.length_set, *]; done))
  | (with_reducible refine' v_ix ?h1 ?_); (case h1 => first | exact ixD_ref (by assumption) (by rfl) | rfl)
  | (with_reducible refine' v_len ?h1 ?_); (case h1 => first | exact lenD_ref (by assumption) | rfl)
  | (with_reducible refine' v_list ?h1 ?_); (case h1 => rfl)
  | (with_reducible refine' v_listR ?h1 ?_); (case h1 => rfl)
  | (with_reducible refine' v_tuple ?h1 ?_); (case h1 => rfl)
  | (with_reducible refine' v_isd ?h1 ?_); (case h1 => rfl)
  | (with_reducible refine' v_isiTy ?h1 ?h2 ?_); (case h1 => rfl); (case h2 => rfl)
  | (with_reducible refine' v_isiT ?h1 ?_); (case h1 => rfl))
local macro_rules | `(tactic| walk_at "dv2") => `(tactic| first
  | refine v_gsub (by rfl) (by rfl) (by assumption) (by rfl) (fun _ _ _ => ?_) | refine ⟨_, rfl, ?_⟩ | (with_reducible refine' ⟨rng_ok ?h1 ?h2, ?_⟩); (case h1 => omega); (case h2 => omega) | refine ⟨rfl, ?_⟩ | refine ⟨_, _, rfl, ?_⟩ | refine ⟨Nat.le_of_ble_eq_true rfl, ?_⟩)
local macro_rules | `(tactic| walk_at "dv3") => `(tactic| first
  | (with_reducible refine' v_dec (fun _ => ?_) (fun hn => absurd ?h hn)); (case h => first | assumption | omega | decide)
  | (with_reducible refine' v_dec (fun hn => absurd hn ?h) (fun _ => ?_)); (case h => first | assumption | omega | decide)
  | (with_reducible refine' v_ndec (fun _ => ?_) (fun hn => absurd hn ?h)); (case h => first | assumption | omega | decide)
  | (with_reducible refine' v_ndec (fun hn => absurd ?h hn) (fun _ => ?_)); (case h => first | assumption | omega | decide)
  | (with_reducible refine' v_bT ?h ?_); (case h => first | assumption | rfl)
  | (with_reducible refine' v_bF ?h ?_); (case h => first | assumption | rfl))
local macro_rules | `(tactic| walk_at "dv4") => `(tactic| with_reducible first
  | refine v_places ?_ | refine v_roads ?_ | refine v_over ?_ | refine v_line ?_ | refine v_spots ?_ | refine v_myards ?_ | refine v_mroads ?_ | refine v_mW (by decide +kernel) ?_ | refine v_mK (by decide +kernel) ?_
  | refine v_itX ?_ | refine v_ev ?_ | refine v_rev ?_ | refine v_zs ?_ | refine v_enum ?_ | refine v_enum2 ?_ | refine v_makeV ?_ | refine v_tryN ?_ | refine v_lc2 ?_ | refine v_fz ?_ | refine v_make ?_ | refine v_fldS ?_)
local macro_rules | `(tactic| walk_at "dv5") => `(tactic| first
  | refine ⟨_, _, rfl, rfl, ?_⟩ | refine ⟨⟨_, _, rfl⟩, ?_⟩ | refine ⟨⟨_, _, _, rfl⟩, ?_⟩ | refine ⟨_, _, _, rfl, ?_⟩ | refine Or.inl ⟨_, rfl, ?_⟩ | refine Or.inr ⟨_, (fun _ z => by cases z), rfl, ?_⟩)
local macro_rules | `(tactic| walk_at "dv") => `(tactic| repeat (first | walk_at "dv0" | walk_at "dv4" | walk_at "dv1" | walk_at "dv3" | walk_at "dv2" | walk_at "dv5"))
/-! ### webs as data -/
structure Road where
  n : Str
  b : Str
  e : Str
  h : Int
  t : Int
abbrev Road.d (r : Road) : Dt := .tup [.str r.n, .str r.b, .str r.e, .int r.h, .int r.t]
structure Mod where
  ys : List Str
  rs : List Road
abbrev Mod.ysD (m : Mod) : List Dt := m.ys.map Dt.str
abbrev Mod.rsD (m : Mod) : List Dt := m.rs.map Road.d
abbrev Mod.d (m : Mod) : Dt := modV (.lst m.ysD) (.lst m.rsD)
abbrev Mod.w (m : Mod) : Dt := webV (.tup m.ysD) (.tup m.rsD)
abbrev Step := Str × Int
abbrev stD (s : Step) : Dt := .tup [.str s.1, .int s.2]
def Mod.road (m : Mod) (n : Str) : Option Road := m.rs.find? fun r => decide (r.n = n)
def Road.ends (r : Road) (w : Int) : Str × Str := if w = 1 then (r.b, r.e) else (r.e, r.b)
def Road.rule (r : Road) (w : Int) : Int × Int := if w = 1 then (r.h, r.t) else (r.t, r.h)
structure Mod.Ok (m : Mod) : Prop where
  sr : ∀ r ∈ m.rs, PyData.strOk r.n = true ∧ PyData.strOk r.b = true ∧ PyData.strOk r.e = true
  sy : ∀ y ∈ m.ys, PyData.strOk y = true
  nd : (m.ys ++ m.rs.map Road.n).Nodup
  en : ∀ r ∈ m.rs, r.b ∈ m.ys ∧ r.e ∈ m.ys
  th : ∀ r ∈ m.rs, (r.h ≠ 0 ∧ r.h.natAbs ≤ 99) ∧ (r.t ≠ 0 ∧ r.t.natAbs ≤ 99)
  ly : m.ys.length ≤ 6
  lr : m.rs.length ≤ 8
theorem str_eq (a b : Str) : (a == b) = decide (a = b) := by
  by_cases h : a = b
  · subst h
    rw [decide_eq_true rfl]
    exact beq_self_eq_true a
  · rw [decide_eq_false h]
    exact beq_eq_false_iff_ne.mpr h
theorem v_eqS {a b : Str} {S : Store} {Q : Dt → Store → Prop} {X : Ex → Store → Prop} (ha : PyData.strOk a = true) (hb : PyData.strOk b = true) (q : Q (.bl (decide (a = b))) S) : Pe (mEq (.str a) (.str b) S) Q X := by
  refine v_ifok ⟨ha, hb⟩ ?_
  show Q (.bl (a == b)) S
  rw [str_eq]
  exact q
theorem ix_zero (x : Dt) (l : List Dt) {S : Store} : ixD S (.lst (x :: l)) 0 = some x := atI_in (j := 0) (xs := x :: l) rfl
section
variable {m : Mod} {S : Store}
theorem road_in {n : Str} {r : Road} (h : m.road n = some r) : r ∈ m.rs ∧ r.n = n := by
  unfold Mod.road at h
  exact ⟨List.mem_of_find?_eq_some h, by simpa using List.find?_some h⟩
theorem road_of (ok : m.Ok) {r : Road} (h : r ∈ m.rs) : m.road r.n = some r := by
  have nd : (m.rs.map Road.n).Nodup := (List.nodup_append.mp ok.nd).2.1
  unfold Mod.road
  generalize m.rs = l at h nd
  induction l with
  | nil => cases h
  | cons x l ih =>
    rw [List.map_cons, List.nodup_cons] at nd
    rw [List.find?_cons]
    rcases List.mem_cons.mp h with e | h'
    · subst e
      simp
    · have hne : ¬ x.n = r.n := fun z => nd.1 (by rw [z]; exact List.mem_map_of_mem h')
      simp only [hne, decide_false]
      exact ih h' nd.2
def gRoad (n : Str) : Dt → Option Dt
  | .tup (.str a :: l) => if a = n then some (.tup (.str a :: l)) else none
  | _ => none
theorem gRoad_map (n : Str) : ∀ l : List Road, (l.map Road.d).filterMap (gRoad n) = (l.filter fun r => decide (r.n = n)).map Road.d
  | [] => rfl
  | r :: l => by
    rw [List.map_cons, List.filterMap_cons, List.filter_cons]
    by_cases h : r.n = n
    · have e : gRoad n r.d = some r.d := if_pos h
      rw [e, decide_eq_true h, if_pos rfl, gRoad_map n l]
      rfl
    · have e : gRoad n r.d = none := if_neg h
      rw [e, decide_eq_false h, if_neg Bool.false_ne_true, gRoad_map n l]
theorem law_road_ok (ok : m.Ok) {n : Str} {r : Road} (h : m.road n = some r) : m_law_road [m.d, .str n] S = .ok r.d S := by
  obtain ⟨hr, rfl⟩ := road_in h
  refine Pe.eq (v_fn ?_)
  unfold b_law_road
  walk_at "dv"
  refine v_cloop (gRoad r.n) (fun d hd => ?_) ?_ ?_
  · obtain ⟨x, hx, rfl⟩ := List.mem_map.mp hd
    refine ⟨_, rfl, ?_⟩
    walk_at "dv"
    refine v_eqS (ok.sr x hx).1 (ok.sr r hr).1 ?_
    refine ⟨_, rfl, rfl, ?_⟩
    refine v_dec (fun e => ?_) (fun e => ?_)
    · refine v_var rfl ⟨rfl, if_pos e⟩
    · exact if_neg e
  · have := ok.lr
    simp
    omega
  · rw [List.nil_append, gRoad_map]
    have hh : (m.rs.filter fun x => decide (x.n = r.n)).head? = some r := by
      rw [List.head?_filter]
      exact h
    cases hf : m.rs.filter fun x => decide (x.n = r.n) with
    | nil => rw [hf] at hh; cases hh
    | cons y l =>
      rw [hf] at hh
      cases hh
      walk_at "dv"
      refine v_ix (ix_zero _ _) ?_
      walk_at "dv"
      first | exact ⟨rfl, rfl⟩ | exact rfl
theorem law_ends_ok (ok : m.Ok) {s : Step} {r : Road} (h : m.road s.1 = some r) : m_law_ends [m.d, stD s] S = .ok (.tup [.str (r.ends s.2).1, .str (r.ends s.2).2]) S := by
  refine Pe.eq (v_fn ?_)
  unfold b_law_ends
  walk_at "dv"
  refine Pe.of (law_road_ok ok h) ?_
  walk_at "dv"
  unfold Road.ends
  refine v_dec (fun e => ?_) (fun e => ?_)
  · walk_at "dv"
    rw [if_pos e]
    first | exact ⟨rfl, rfl⟩ | exact rfl
  · walk_at "dv"
    rw [if_neg e]
    first | exact ⟨rfl, rfl⟩ | exact rfl
theorem law_rule_ok (ok : m.Ok) {s : Step} {r : Road} (h : m.road s.1 = some r) : m_law_rule [m.d, stD s] S = .ok (.tup [.int (r.rule s.2).1, .int (r.rule s.2).2]) S := by
  refine Pe.eq (v_fn ?_)
  unfold b_law_rule
  walk_at "dv"
  refine Pe.of (law_road_ok ok h) ?_
  walk_at "dv"
  unfold Road.rule
  refine v_dec (fun e => ?_) (fun e => ?_)
  · walk_at "dv"
    rw [if_pos e]
    first | exact ⟨rfl, rfl⟩ | exact rfl
  · walk_at "dv"
    rw [if_neg e]
    first | exact ⟨rfl, rfl⟩ | exact rfl
theorem web_road_ok (ok : m.Ok) {n : Str} {r : Road} (h : m.road n = some r) : m_Web_road_of [m.w, .str n] S = .ok r.d S := by
  obtain ⟨hr, rfl⟩ := road_in h
  refine Pe.eq (v_fn ?_)
  unfold b_Web_road_of
  walk_at "dv"
  refine v_loop (fun ds en S' => ∃ (l : List Road) (x : Option Dt), ds = l.map Road.d ∧ (∀ y ∈ l, y ∈ m.rs) ∧ l.find? (fun y => decide (y.n = r.n)) = some r ∧ en = [some m.w, some (.str r.n), x] ∧ S' = S) ⟨m.rs, _, rfl, fun _ h => h, h, rfl, rfl⟩ ?_ ?_
  · rintro d ds en S' ⟨l, x, e1, hm, hf, rfl, rfl⟩
    cases l with
    | nil => cases e1
    | cons y l =>
      cases e1
      refine ⟨_, _, rfl, ?_⟩
      walk_at "dv"
      refine v_eqS (ok.sr y (hm y List.mem_cons_self)).1 (ok.sr r hr).1 ?_
      refine ⟨_, rfl, ?_⟩
      rw [List.find?_cons] at hf
      refine v_dec (fun e => ?_) (fun e => ?_)
      · rw [decide_eq_true e] at hf
        cases hf
        walk_at "dv"
        first | exact ⟨rfl, rfl⟩ | exact rfl
      · rw [decide_eq_false e] at hf
        walk_at "dv"
        exact ⟨l, _, rfl, fun z hz => hm z (List.mem_cons_of_mem _ hz), hf, rfl, rfl⟩
  · rintro en S' ⟨l, x, e1, hm, hf, rfl, rfl⟩
    cases l with
    | nil => cases hf
    | cons y l => cases e1
theorem web_so_ok (ok : m.Ok) {s : Step} {r : Road} (h : m.road s.1 = some r) (hw : s.2 = 1 ∨ s.2 = -1) : m_Web_turned_so [m.w, stD s, .int 1] S = .ok (.tup [.str (r.ends s.2).1, .str (r.ends s.2).2]) S ∧ m_Web_turned_so [m.w, stD s, .int 3] S = .ok (.tup [.int (r.rule s.2).1, .int (r.rule s.2).2]) S := by
  have go : ∀ (at_ : Int) (a b : Dt), (∀ S, ixD S r.d at_ = some a ∧ ixD S r.d (at_ + 1) = some b) → m_Web_turned_so [m.w, stD s, .int at_] S = .ok (if s.2 = 1 then .tup [a, b] else .tup [b, a]) S := by
    intro at_ a b hab
    refine Pe.eq (v_fn ?_)
    unfold b_Web_turned_so
    walk_at "dv"
    refine Pe.of (web_road_ok ok h) ?_
    walk_at "dv"
    refine v_bF (by rcases hw with e | e <;> rw [e] <;> rfl) ?_
    walk_at "dv"
    refine v_dec (fun e => ?_) (fun e => ?_)
    · walk_at "dv"
      refine v_ix (hab S).1 ?_
      walk_at "dv"
      refine v_ix (hab S).2 ?_
      walk_at "dv"
      rw [if_pos e]
      first | exact ⟨rfl, rfl⟩ | exact rfl
    · walk_at "dv"
      refine v_ix (hab S).2 ?_
      walk_at "dv"
      refine v_ix (hab S).1 ?_
      walk_at "dv"
      rw [if_neg e]
      first | exact ⟨rfl, rfl⟩ | exact rfl
  constructor
  · rw [go 1 (.str r.b) (.str r.e) fun S => ⟨rfl, rfl⟩]
    unfold Road.ends
    split <;> rfl
  · rw [go 3 (.int r.h) (.int r.t) fun S => ⟨rfl, rfl⟩]
    unfold Road.rule
    split <;> rfl
theorem web_ends_ok (ok : m.Ok) {s : Step} {r : Road} (h : m.road s.1 = some r) (hw : s.2 = 1 ∨ s.2 = -1) : m_Web_ends [m.w, stD s] S = .ok (.tup [.str (r.ends s.2).1, .str (r.ends s.2).2]) S := by
  refine Pe.eq (v_fn ?_)
  unfold b_Web_ends
  walk_at "dv"
  refine Pe.of (web_so_ok ok h hw).1 ?_
  walk_at "dv"
  first | exact ⟨rfl, rfl⟩ | exact rfl
theorem web_rule_ok (ok : m.Ok) {s : Step} {r : Road} (h : m.road s.1 = some r) (hw : s.2 = 1 ∨ s.2 = -1) : m_Web_rule [m.w, stD s] S = .ok (.tup [.int (r.rule s.2).1, .int (r.rule s.2).2]) S := by
  refine Pe.eq (v_fn ?_)
  unfold b_Web_rule
  walk_at "dv"
  refine Pe.of (web_so_ok ok h hw).2 ?_
  walk_at "dv"
  first | exact ⟨rfl, rfl⟩ | exact rfl
end
end Lw
set_option Elab.async false
set_option linter.all false
set_option maxRecDepth 100000
set_option maxHeartbeats 4000000
set_option autoImplicit false
noncomputable section
namespace Lw
open PySem Dv
/-! steps of our own words -/
local macro_rules | `(tactic| walk_at "num") => `(tactic| first | assumption | decide | omega)
local macro_rules | `(tactic| walk_at "dv0") => `(tactic| with_reducible first
  | refine v_seq ?_ | refine v_ifS ?_ | refine v_set ?_ | refine v_ret ?_ | refine v_asg ?_ | refine v_par ?_ | refine v_drop ?_ | refine v_nx ?_ | refine v_bk ?_ | refine v_ct ?_ | refine v_retN ?_ | refine v_for ?_
  | refine v_c ?_ | refine v_nil ?_ | refine v_cons ?_ | refine v_op ?_ | refine v_B ?_ | refine v_truth ?_ | refine v_andT ?_ | refine v_orT ?_ | refine v_notT ?_
  | refine v_andV ?_ | refine v_orV ?_ | refine v_notV ?_ | refine v_if ?_ | refine v_neg ?_ | refine v_chain ?_ | refine v_tup ?_ | refine v_lst ?_ | refine v_lstR ?_ | refine v_noPart ?_ | refine v_part ?_ | refine v_sl ?_
  | refine v_CB ?_ | refine v_call ?_ | refine v_abs ?_ | refine v_lc ?_ | refine v_yes ?_ | refine v_it ?_ | refine v_rng1 ?_ | refine v_rng2 ?_ | refine v_rng3 ?_ | refine v_T ?_ | refine v_F ?_
  | refine v_add ?_ | refine v_sub ?_ | refine v_iadd ?_ | refine v_lt ?_ | refine v_le ?_ | refine v_gt ?_ | refine v_ge ?_ | refine v_eqI ?_ | refine v_neI ?_ | refine v_eqB ?_ | refine v_neB ?_)
local macro_rules | `(tactic| walk_at "dv1") => `(tactic| first
  | (with_reducible refine' v_var ?h ?_); (case h => rfl)
  | (with_reducible refine' v_aug ?h ?_); (case h => rfl)
  | (with_reducible refine' v_div ?h1 ?h2 ?_); (case h1 => walk_at "num"); (case h2 => walk_at "num")
  | (with_reducible refine' v_mod ?h1 ?_); (case h1 => walk_at "num")
  | (with_reducible refine' v_pow ?h1 ?_); (case h1 => walk_at "num")
  | (with_reducible refine' v_mulR ?h1 ?_); (case h1 => walk_at "num")
  | (with_reducible refine' v_mulL ?h1 ?_); (case h1 => walk_at "num")
  | (with_reducible refine' v_fin ?h1 ?_); (case h1 => first | exact Or.inl rfl | exact Or.inr rfl | (refine Or.inr ?_; simp only [List.length_set, *]; done))
  | (with_reducible refine' v_ix ?h1 ?_); (case h1 => first | exact ixD_ref (by assumption) (by rfl) | rfl)
  | (with_reducible refine' v_len ?h1 ?_); (case h1 => first | exact lenD_ref (by assumption) | rfl)
  | (with_reducible refine' v_list ?h1 ?_); (case h1 => rfl)
  | (with_reducible refine' v_listR ?h1 ?_); (case h1 => rfl)
  | (with_reducible refine' v_tuple ?h1 ?_); (case h1 => rfl)
  | (with_reducible refine' v_isd ?h1 ?_); (case h1 => rfl)
  | (with_reducible refine' v_isiTy ?h1 ?h2 ?_); (case h1 => rfl); (case h2 => rfl)
  | (with_reducible refine' v_isiT ?h1 ?_); (case h1 => rfl))
local macro_rules | `(tactic| walk_at "dv2") => `(tactic| first
  | refine v_gsub (by rfl) (by rfl) (by assumption) (by rfl) (fun _ _ _ => ?_) | refine ⟨_, rfl, ?_⟩ | (with_reducible refine' ⟨rng_ok ?h1 ?h2, ?_⟩); (case h1 => omega); (case h2 => omega) | refine ⟨rfl, ?_⟩ | refine ⟨_, _, rfl, ?_⟩ | refine ⟨Nat.le_of_ble_eq_true rfl, ?_⟩)
local macro_rules | `(tactic| walk_at "dv3") => `(tactic| first
  | (with_reducible refine' v_dec (fun _ => ?_) (fun hn => absurd ?h hn)); (case h => first | assumption | omega | decide)
  | (with_reducible refine' v_dec (fun hn => absurd hn ?h) (fun _ => ?_)); (case h => first | assumption | omega | decide)
  | (with_reducible refine' v_ndec (fun _ => ?_) (fun hn => absurd hn ?h)); (case h => first | assumption | omega | decide)
  | (with_reducible refine' v_ndec (fun hn => absurd ?h hn) (fun _ => ?_)); (case h => first | assumption | omega | decide)
  | (with_reducible refine' v_bT ?h ?_); (case h => first | assumption | rfl)
  | (with_reducible refine' v_bF ?h ?_); (case h => first | assumption | rfl))
local macro_rules | `(tactic| walk_at "dv4") => `(tactic| with_reducible first
  | refine v_places ?_ | refine v_roads ?_ | refine v_over ?_ | refine v_line ?_ | refine v_spots ?_ | refine v_myards ?_ | refine v_mroads ?_ | refine v_mW (by decide +kernel) ?_ | refine v_mK (by decide +kernel) ?_
  | refine v_itX ?_ | refine v_ev ?_ | refine v_rev ?_ | refine v_zs ?_ | refine v_enum ?_ | refine v_enum2 ?_ | refine v_makeV ?_ | refine v_tryN ?_ | refine v_lc2 ?_ | refine v_fz ?_ | refine v_make ?_ | refine v_fldS ?_)
local macro_rules | `(tactic| walk_at "dv5") => `(tactic| first
  | refine ⟨_, _, rfl, rfl, ?_⟩ | refine ⟨⟨_, _, rfl⟩, ?_⟩ | refine ⟨⟨_, _, _, rfl⟩, ?_⟩ | refine ⟨_, _, _, rfl, ?_⟩ | refine Or.inl ⟨_, rfl, ?_⟩ | refine Or.inr ⟨_, (fun _ z => by cases z), rfl, ?_⟩)
local macro_rules | `(tactic| walk_at "dv") => `(tactic| repeat (first | walk_at "dv0" | walk_at "dv4" | walk_at "dv1" | walk_at "dv3" | walk_at "dv2" | walk_at "dv5"))
/-! ### webs that are built -/
theorem v_loop0 {g : Dt → Dv.Env → Store → Option (Dv.Env × Store)} {ba : Dv.Env → Store → RS} {en : Dv.Env} {S : Store} {QS : Fl → Dv.Env → Store → Prop} {XS : Ex → Dv.Env → Store → Prop} (q : QS .nx en S) : Ps (fLoop g ba [] en S) QS XS := q
theorem v_loop1 {g : Dt → Dv.Env → Store → Option (Dv.Env × Store)} {ba : Dv.Env → Store → RS} {en : Dv.Env} {S : Store} {d : Dt} {ds : List Dt} {QS : Fl → Dv.Env → Store → Prop} {XS : Ex → Dv.Env → Store → Prop}
    (h : ∃ e1 S1, g d en S = some (e1, S1) ∧ Ps (ba e1 S1) (fun f e2 S2 => match f with | .nx => Ps (fLoop g ba ds e2 S2) QS XS | .ct => Ps (fLoop g ba ds e2 S2) QS XS | .bk => QS .nx e2 S2 | .rt d => QS (.rt d) e2 S2) XS) : Ps (fLoop g ba (d :: ds) en S) QS XS := by
  obtain ⟨e1, S1, e, k⟩ := h
  unfold fLoop
  rw [e]
  dsimp only
  cases eb : ba e1 S1 with
  | stuck => rw [eb] at k; exact k
  | err x e2 S2 => rw [eb] at k; exact k
  | ok f e2 S2 =>
    rw [eb] at k
    cases f <;> exact k
theorem setFld_ins {S : Store} {k : Nat} {c : String} {ns : List Str} {ds : List Dt} {f : Str} {d : Dt} {cs : List String} (hS : S[k]? = some (.ins c ns ds)) (hc : c ∈ cs) (hl : ns.length < 1000) : setFld cs f S (.ref k) d = some (S.set k (.ins c (putN f ns) (putW f d ns ds))) := by
  unfold setFld
  simp only [hS]
  rw [if_pos ⟨hc, hl⟩]
theorem putN_r : putN ("roads" : Str) [("places" : Str)] = wF := by decide +kernel
theorem putW_r (a b : Dt) : putW ("roads" : Str) b [("places" : Str)] [a] = [a, b] := by
  unfold putW
  rw [if_neg (by decide +kernel)]
  rfl
theorem putN_p2 : putN ("places" : Str) wF = wF := by decide +kernel
theorem putW_p2 (a b x : Dt) : putW ("places" : Str) x wF [a, b] = [x, b] := by
  unfold putW
  rw [if_pos rfl]
theorem putN_r2 : putN ("roads" : Str) wF = wF := by decide +kernel
theorem putW_r2 (a b x : Dt) : putW ("roads" : Str) x wF [a, b] = [a, x] := by
  unfold putW
  rw [if_neg (by decide +kernel)]
  unfold putW
  rw [if_pos rfl]
theorem frz_refI {n k : Nat} {S : Store} {c : String} {ns : List Str} {ds : List Dt} (hS : S[k]? = some (.ins c ns ds)) (hk : n ≤ k) (h : ds.all (noRef 11) = true) : frz n S deepF (.ref k) = some (.ins c ns ds) := by
  show frz n S (11 + 1) (.ref k) = _
  unfold frz
  rw [if_neg (by simp [noRef])]
  dsimp only
  rw [if_neg (by omega), hS]
  dsimp only
  rw [mapO_pure h]
  rfl
/-- the instance at k, by value -/
theorem v_finI {S T : Store} {k : Nat} {c : String} {ns : List Str} {ds : List Dt} {Q : Dt → Store → Prop} {X : Ex → Store → Prop} (j : Jz S T) (hp : PureS S) (hT : T[k]? = some (.ins c ns ds)) (hk : S.length ≤ k) (h : ds.all (noRef 11) = true) (q : Q (.ins c ns ds) S) : Pe (fin false S.length (.ref k) T) Q X := by
  have hl : k < T.length := (List.getElem?_eq_some_iff.mp hT).1
  refine v_finL (frz_refI hT hk h) (by omega) ?_ ?_
  · rw [j.eq]
    exact hp
  · rw [j.eq]
    exact q
theorem last_at {S : Store} {o : Ob} : (S ++ [o])[S.length]? = some o := by simp
theorem strs_pure (l : List Str) (k : Nat) : (l.map Dt.str).all (noRef k) = true := by
  rw [List.all_eq_true]
  intro x hx
  obtain ⟨s, _, rfl⟩ := List.mem_map.mp hx
  cases k <;> rfl
theorem road_pure (r : Road) (k : Nat) : noRef (k + 1) r.d = true := by
  show [Dt.str r.n, .str r.b, .str r.e, .int r.h, .int r.t].all (noRef k) = true
  cases k <;> rfl
theorem roads_pure (l : List Road) (k : Nat) : (l.map Road.d).all (noRef (k + 1)) = true := by
  rw [List.all_eq_true]
  intro x hx
  obtain ⟨s, _, rfl⟩ := List.mem_map.mp hx
  exact road_pure s k
theorem mod_pure (m : Mod) : [Dt.tup m.ysD, .tup m.rsD].all (noRef 11) = true := by
  simp only [List.all_cons, List.all_nil, Bool.and_true, Bool.and_eq_true]
  exact ⟨strs_pure m.ys 10, roads_pure m.rs 9⟩
section
variable {m : Mod} {S : Store}
theorem web_init_ok {k : Nat} (hS : S[k]? = some (.ins "Web" [] [])) {Q : Dt → Store → Prop} {X : Ex → Store → Prop} (q : Q .non (S.set k (.ins "Web" wF [.tup [], .tup []]))) : Pe (m_Web_dinit [.ref k] S) Q X := by
  refine v_fn ?_
  unfold b_Web_dinit
  walk_at "dv"
  refine ⟨_, setFld_ins hS (List.mem_singleton.mpr rfl) (by decide), ?_⟩
  walk_at "dv"
  refine ⟨_, setFld_ins (set_same hS) (List.mem_singleton.mpr rfl) (by decide), ?_⟩
  dsimp only
  refine v_fin (.inr (by simp)) ?_
  rw [List.set_set, show putN ("roads" : Str) (putN ("places" : Str) []) = wF from putN_r, show putW ("roads" : Str) (Dt.tup []) (putN ("places" : Str) []) (putW ("places" : Str) (Dt.tup []) [] []) = [Dt.tup [], Dt.tup []] from putW_r _ _]
  exact q
theorem new_web (hp : PureS S) {en : Dv.Env} : mFz (mMake "Web" 1 m_Web_dinit mNil) en S = .ok (Mod.mk [] []).w S := by
  refine Pe.eq (v_fz (v_make ?_))
  walk_at "dv"
  refine web_init_ok last_at ⟨rfl, ?_⟩
  refine v_finI (Jz.refl.push.set (Nat.le_refl _)) hp (set_same last_at) (Nat.le_refl _) (mod_pure ⟨[], []⟩) ?_
  exact ⟨rfl, rfl⟩
theorem turned_ok (hp : PureS S) {x a b : Dt} {ys : List Str} {rs : List Road} (ha : asS S a = some (ys.map Dt.str)) (hb : asS S b = some (rs.map Road.d)) (ht : ∀ T, asS (S ++ T) a = asS S a ∧ asS (S ++ T) b = asS S b) : m_Web_turned [x, a, b] S = .ok (Mod.mk ys rs).w S := by
  refine Pe.eq (v_fn ?_)
  unfold b_Web_turned
  walk_at "dv"
  refine web_init_ok last_at ⟨rfl, ?_⟩
  have e0 : (S ++ [Ob.ins "Web" [] []]).set S.length (.ins "Web" wF [.tup [], .tup []]) = S ++ [.ins "Web" wF [.tup [], .tup []]] := by
    rw [List.set_append_right _ _ (Nat.le_refl _), Nat.sub_self]
    rfl
  rw [e0]
  walk_at "dv"
  refine v_tuple ((ht _).1.trans ha) ?_
  walk_at "dv"
  refine v_tuple ((ht _).2.trans hb) ?_
  walk_at "dv"
  refine ⟨[some x, some a, some b, some (.ref S.length)], S ++ [.ins "Web" wF [.tup (ys.map Dt.str), .tup (rs.map Road.d)]], ?_, ?_⟩
  · have s1 : gFldD ["Web"] "places" (mVar 3) (.tup (ys.map Dt.str)) [some x, some a, some b, some (.ref S.length)] (S ++ [.ins "Web" wF [.tup [], .tup []]]) = some ([some x, some a, some b, some (.ref S.length)], S ++ [.ins "Web" wF [.tup (ys.map Dt.str), .tup []]]) := by
      unfold gFldD
      show (setFld ["Web"] "places" _ (.ref S.length) _).map _ = _
      rw [setFld_ins last_at (List.mem_singleton.mpr rfl) (by decide), putN_p2, putW_p2, List.set_append_right _ _ (Nat.le_refl _), Nat.sub_self]
      rfl
    have s2 : gFldD ["Web"] "roads" (mVar 3) (.tup (rs.map Road.d)) [some x, some a, some b, some (.ref S.length)] (S ++ [.ins "Web" wF [.tup (ys.map Dt.str), .tup []]]) = some ([some x, some a, some b, some (.ref S.length)], S ++ [.ins "Web" wF [.tup (ys.map Dt.str), .tup (rs.map Road.d)]]) := by
      unfold gFldD
      show (setFld ["Web"] "roads" _ (.ref S.length) _).map _ = _
      rw [setFld_ins last_at (List.mem_singleton.mpr rfl) (by decide), putN_r2, putW_r2, List.set_append_right _ _ (Nat.le_refl _), Nat.sub_self]
      rfl
    show (match gFldD ["Web"] "places" (mVar 3) (.tup (ys.map Dt.str)) [some x, some a, some b, some (.ref S.length)] (S ++ [.ins "Web" wF [.tup [], .tup []]]) with | some (e1, S1) => _ | none => none) = _
    rw [s1]
    show (match gFldD ["Web"] "roads" (mVar 3) (.tup (rs.map Road.d)) [some x, some a, some b, some (.ref S.length)] (S ++ [.ins "Web" wF [.tup (ys.map Dt.str), .tup []]]) with | some (e1, S1) => _ | none => none) = _
    rw [s2]
    rfl
  · walk_at "dv"
    exact v_finI Jz.refl.push hp last_at (Nat.le_refl _) (mod_pure ⟨ys, rs⟩) ⟨rfl, rfl⟩
end
end Lw
set_option Elab.async false
set_option linter.all false
set_option maxRecDepth 100000
set_option maxHeartbeats 4000000
set_option autoImplicit false
noncomputable section
namespace Lw
open PySem Dv
/-! steps of our own words -/
local macro_rules | `(tactic| walk_at "num") => `(tactic| first | assumption | decide | omega)
local macro_rules | `(tactic| walk_at "dv0") => `(tactic| with_reducible first
  | refine v_seq ?_ | refine v_ifS ?_ | refine v_set ?_ | refine v_ret ?_ | refine v_asg ?_ | refine v_par ?_ | refine v_drop ?_ | refine v_nx ?_ | refine v_bk ?_ | refine v_ct ?_ | refine v_retN ?_ | refine v_for ?_
  | refine v_c ?_ | refine v_nil ?_ | refine v_cons ?_ | refine v_op ?_ | refine v_B ?_ | refine v_truth ?_ | refine v_andT ?_ | refine v_orT ?_ | refine v_notT ?_
  | refine v_andV ?_ | refine v_orV ?_ | refine v_notV ?_ | refine v_if ?_ | refine v_neg ?_ | refine v_chain ?_ | refine v_tup ?_ | refine v_lst ?_ | refine v_lstR ?_ | refine v_noPart ?_ | refine v_part ?_ | refine v_sl ?_
  | refine v_CB ?_ | refine v_call ?_ | refine v_abs ?_ | refine v_lc ?_ | refine v_yes ?_ | refine v_it ?_ | refine v_rng1 ?_ | refine v_rng2 ?_ | refine v_rng3 ?_ | refine v_T ?_ | refine v_F ?_
  | refine v_add ?_ | refine v_sub ?_ | refine v_iadd ?_ | refine v_lt ?_ | refine v_le ?_ | refine v_gt ?_ | refine v_ge ?_ | refine v_eqI ?_ | refine v_neI ?_ | refine v_eqB ?_ | refine v_neB ?_)
local macro_rules | `(tactic| walk_at "dv1") => `(tactic| first
  | (with_reducible refine' v_var ?h ?_); (case h => rfl)
  | (with_reducible refine' v_aug ?h ?_); (case h => rfl)
  | (with_reducible refine' v_div ?h1 ?h2 ?_); (case h1 => walk_at "num"); (case h2 => walk_at "num")
  | (with_reducible refine' v_mod ?h1 ?_); (case h1 => walk_at "num")
  | (with_reducible refine' v_pow ?h1 ?_); (case h1 => walk_at "num")
  | (with_reducible refine' v_mulR ?h1 ?_); (case h1 => walk_at "num")
  | (with_reducible refine' v_mulL ?h1 ?_); (case h1 => walk_at "num")
  | (with_reducible refine' v_fin ?h1 ?_); (case h1 => first | exact Or.inl rfl | exact Or.inr rfl | (refine Or.inr ?_; simp only [List.length_set, *]; done))
  | (with_reducible refine' v_ix ?h1 ?_); (case h1 => first | exact ixD_ref (by assumption) (by rfl) | rfl)
  | (with_reducible refine' v_len ?h1 ?_); (case h1 => first | exact lenD_ref (by assumption) | rfl)
  | (with_reducible refine' v_list ?h1 ?_); (case h1 => rfl)
  | (with_reducible refine' v_listR ?h1 ?_); (case h1 => rfl)
  | (with_reducible refine' v_tuple ?h1 ?_); (case h1 => rfl)
  | (with_reducible refine' v_isd ?h1 ?_); (case h1 => rfl)
  | (with_reducible refine' v_isiTy ?h1 ?h2 ?_); (case h1 => rfl); (case h2 => rfl)
  | (with_reducible refine' v_isiT ?h1 ?_); (case h1 => rfl))
local macro_rules | `(tactic| walk_at "dv2") => `(tactic| first
  | refine v_gsub (by rfl) (by rfl) (by assumption) (by rfl) (fun _ _ _ => ?_) | refine ⟨_, rfl, ?_⟩ | (with_reducible refine' ⟨rng_ok ?h1 ?h2, ?_⟩); (case h1 => omega); (case h2 => omega) | refine ⟨rfl, ?_⟩ | refine ⟨_, _, rfl, ?_⟩ | refine ⟨Nat.le_of_ble_eq_true rfl, ?_⟩)
local macro_rules | `(tactic| walk_at "dv3") => `(tactic| first
  | (with_reducible refine' v_dec (fun _ => ?_) (fun hn => absurd ?h hn)); (case h => first | assumption | omega | decide)
  | (with_reducible refine' v_dec (fun hn => absurd hn ?h) (fun _ => ?_)); (case h => first | assumption | omega | decide)
  | (with_reducible refine' v_ndec (fun _ => ?_) (fun hn => absurd hn ?h)); (case h => first | assumption | omega | decide)
  | (with_reducible refine' v_ndec (fun hn => absurd ?h hn) (fun _ => ?_)); (case h => first | assumption | omega | decide)
  | (with_reducible refine' v_bT ?h ?_); (case h => first | assumption | rfl)
  | (with_reducible refine' v_bF ?h ?_); (case h => first | assumption | rfl))
local macro_rules | `(tactic| walk_at "dv4") => `(tactic| with_reducible first
  | refine v_places ?_ | refine v_roads ?_ | refine v_over ?_ | refine v_line ?_ | refine v_spots ?_ | refine v_myards ?_ | refine v_mroads ?_ | refine v_mW (by decide +kernel) ?_ | refine v_mK (by decide +kernel) ?_
  | refine v_itX ?_ | refine v_ev ?_ | refine v_rev ?_ | refine v_zs ?_ | refine v_enum ?_ | refine v_enum2 ?_ | refine v_makeV ?_ | refine v_tryN ?_ | refine v_lc2 ?_ | refine v_fz ?_ | refine v_make ?_ | refine v_fldS ?_)
local macro_rules | `(tactic| walk_at "dv5") => `(tactic| first
  | refine ⟨_, _, rfl, rfl, ?_⟩ | refine ⟨⟨_, _, rfl⟩, ?_⟩ | refine ⟨⟨_, _, _, rfl⟩, ?_⟩ | refine ⟨_, _, _, rfl, ?_⟩ | refine Or.inl ⟨_, rfl, ?_⟩ | refine Or.inr ⟨_, (fun _ z => by cases z), rfl, ?_⟩)
local macro_rules | `(tactic| walk_at "dv") => `(tactic| repeat (first | walk_at "dv0" | walk_at "dv4" | walk_at "dv1" | walk_at "dv3" | walk_at "dv2" | walk_at "dv5"))
/-! ### names, yards and passages more -/
def letters : Str := "abcdefghijklmnopqrstuvwxyz"
def nameOk (s : Str) : Bool := decide (1 ≤ s.length) && decide (s.length ≤ 8) && s.cps.toList.all fun c => decide (c ∈ letters.cps.toList)
theorem v_itS {en : Dv.Env} {S : Store} {me : Dv.Env → Store → R Dt} {QA : List Dt → Store → Prop} {X : Ex → Store → Prop} (h : Pe (me en S) (fun d S1 => ∃ s, d = .str s ∧ QA (strs1 s) S1) X) : Pe (mItS me en S) QA X := by
  refine Pe.bind (h.imp (fun d S1 ⟨s, e, q⟩ => ?_) fun _ _ z => z)
  subst e
  exact q
theorem signs_true (l : List Nat) : (l.map fun c => Dt.str ⟨#[c]⟩).filterMap (fun _ => some (Dt.bl true)) = List.replicate l.length (Dt.bl true) := by
  induction l with
  | nil => rfl
  | cons c l ih =>
    rw [List.map_cons, List.filterMap_cons, ih]
    rfl
theorem len_cps (s : Str) : s.cps.toList.length = s.length := by
  rw [Array.length_toList]
  rfl
section
variable {m : Mod} {S : Store}
theorem is_name_ok {s : Str} (h : nameOk s = true) : m_is_name [.str s] S = .ok (.bl true) S := by
  unfold nameOk at h
  rw [Bool.and_eq_true, Bool.and_eq_true] at h
  have h1 : 1 ≤ s.length := of_decide_eq_true h.1.1
  have h2 : s.length ≤ 8 := of_decide_eq_true h.1.2
  refine Pe.eq (v_fn ?_)
  unfold b_is_name
  walk_at "dv"
  refine v_len (n := s.length) (if_pos (by omega)) ?_
  refine v_le ?_
  refine ⟨true, by rw [decide_eq_true (by omega : (1 : Int) ≤ (s.length : Int))], ?_⟩
  walk_at "dv"
  refine v_cloop (fun _ => some (.bl true)) (fun d hd => ?_) ?_ ?_
  · obtain ⟨c, hc, rfl⟩ := List.mem_map.mp hd
    refine ⟨_, rfl, v_yes ⟨rfl, v_T ?_⟩⟩
    walk_at "dv"
    have hin : c ∈ letters.cps.toList := of_decide_eq_true (List.all_eq_true.mp h.2 c hc)
    show some (Dt.bl true) = some (Dt.bl (decide (c ∈ letters.cps.toList)))
    rw [decide_eq_true hin]
  · unfold strs1
    rw [List.length_map, len_cps, List.length_nil]
    omega
  · rw [List.nil_append, strs1, signs_true]
    walk_at "dv"
    unfold mAll
    simp only [asL, Option.bind_some, all_true]
    refine v_ok ?_
    walk_at "dv"
    simp
theorem in_strs (x : Str) : ∀ l : List Str, ((l.map Dt.str).any fun z => eqD z (.str x)) = decide (x ∈ l)
  | [] => rfl
  | y :: l => by
    rw [List.map_cons, List.any_cons, in_strs x l]
    show ((y == x) || _) = _
    rw [str_eq, ← Bool.decide_or]
    congr 1
    simp only [List.mem_cons, eq_comm]
theorem flat_strs (l : List Str) : (l.map Dt.str).all flatD = true := by
  rw [List.all_eq_true]
  intro d hd
  obtain ⟨s, _, rfl⟩ := List.mem_map.mp hd
  rfl
theorem v_inS {neg : Bool} {x : Str} {l : List Str} {y : Dt} {Q : Dt → Store → Prop} {X : Ex → Store → Prop} (hy : ∀ s, y ≠ .str s) (ha : asS S y = some (l.map Dt.str)) (q : Q (.bl (if neg then !decide (x ∈ l) else decide (x ∈ l))) S) : Pe (mIn neg (.str x) y S) Q X := by
  have e : mIn neg (.str x) y S = .ok (.bl (if neg then !decide (x ∈ l) else decide (x ∈ l))) S := by
    unfold mIn
    split
    · rename_i b
      exact absurd rfl (hy b)
    · rw [ha]
      dsimp only
      rw [if_pos ⟨rfl, flat_strs l⟩, in_strs]
  rw [e]
  exact q
theorem need_yard_ok {y : Str} (h : y ∈ m.ys) : m_Web_need_yard [m.w, .str y] S = .ok .non S := by
  refine Pe.eq (v_fn ?_)
  unfold b_Web_need_yard
  walk_at "dv"
  refine v_inS (l := m.ys) (fun s z => by cases z) rfl ?_
  refine ⟨_, rfl, ?_⟩
  refine v_bF (by rw [decide_eq_true h]; rfl) ?_
  walk_at "dv"
  first | exact ⟨rfl, rfl⟩ | exact rfl
theorem need_new_ok {y : Str} (hl : m.rs.length ≤ 100) (hn : nameOk y = true) (h1 : y ∉ m.ys) (h2 : y ∉ m.rs.map Road.n) : m_Web_need_new [m.w, .str y] S = .ok .non S := by
  refine Pe.eq (v_fn ?_)
  unfold b_Web_need_new
  walk_at "dv"
  refine Pe.of (is_name_ok hn) ?_
  walk_at "dv"
  refine v_inS (l := m.ys) (fun s z => by cases z) rfl ?_
  refine ⟨_, rfl, ?_⟩
  refine v_bF (by rw [decide_eq_false h1]; rfl) ?_
  walk_at "dv"
  refine v_cloop (fun d => match d with | .tup (x :: _) => some x | _ => none) (fun d hd => ?_) ?_ ?_
  · obtain ⟨r, hr, rfl⟩ := List.mem_map.mp hd
    refine ⟨_, rfl, v_yes ⟨rfl, v_T ?_⟩⟩
    walk_at "dv"
    first | exact ⟨rfl, rfl⟩ | exact rfl
  · simp
    omega
  · have e : m.rsD.filterMap (fun d => match d with | .tup (x :: _) => some x | _ => none) = (m.rs.map Road.n).map Dt.str := by
      show (m.rs.map Road.d).filterMap _ = _
      induction m.rs with
      | nil => rfl
      | cons r l ih =>
        rw [List.map_cons, List.filterMap_cons, ih]
        rfl
    rw [List.nil_append, e]
    refine v_inS (l := m.rs.map Road.n) (fun s z => by cases z) rfl ?_
    refine ⟨_, rfl, ?_⟩
    refine v_bF (by rw [decide_eq_false h2]; rfl) ?_
    walk_at "dv"
    first | exact ⟨rfl, rfl⟩ | exact rfl
theorem with_yard_ok (hp : PureS S) {y : Str} (hl : m.rs.length ≤ 100) (hn : nameOk y = true) (h1 : y ∉ m.ys) (h2 : y ∉ m.rs.map Road.n) (h6 : m.ys.length < 6) : m_Web_with_yard [m.w, .str y] S = .ok (Mod.mk (m.ys ++ [y]) m.rs).w S := by
  refine Pe.eq (v_fn ?_)
  unfold b_Web_with_yard
  walk_at "dv"
  refine Pe.of (need_new_ok hl hn h1 h2) ?_
  walk_at "dv"
  refine v_dec (fun z => ?_) (fun _ => ?_)
  · exfalso
    simp at z
    omega
  walk_at "dv"
  refine v_ifok (by simp; omega) ?_
  walk_at "dv"
  refine Pe.of (turned_ok hp (ys := m.ys ++ [y]) (rs := m.rs) (by simp [asS]) rfl fun T => ⟨rfl, rfl⟩) ?_
  walk_at "dv"
  first | exact ⟨rfl, rfl⟩ | exact rfl
theorem is_whole_ok {i lo hi : Int} (h1 : lo ≤ i) (h2 : i ≤ hi) : m_is_whole [.int i, .int lo, .int hi] S = .ok (.bl true) S := by
  refine Pe.eq (v_fn ?_)
  unfold b_is_whole
  walk_at "dv"
  rw [decide_eq_true h2]
  exact ⟨rfl, rfl⟩
theorem need_turns_ok {i : Int} (h0 : i ≠ 0) (h : i.natAbs ≤ 99) : m_need_turns [.int i] S = .ok .non S := by
  refine Pe.eq (v_fn ?_)
  unfold b_need_turns
  walk_at "dv"
  refine Pe.of (is_whole_ok (by omega) (by omega)) ?_
  walk_at "dv"
  first | exact ⟨rfl, rfl⟩ | exact rfl
end
end Lw
set_option Elab.async false
set_option linter.all false
set_option maxRecDepth 100000
set_option maxHeartbeats 4000000
set_option autoImplicit false
noncomputable section
namespace Lw
open PySem Dv
/-! steps of our own words -/
local macro_rules | `(tactic| walk_at "num") => `(tactic| first | assumption | decide | omega)
local macro_rules | `(tactic| walk_at "dv0") => `(tactic| with_reducible first
  | refine v_seq ?_ | refine v_ifS ?_ | refine v_set ?_ | refine v_ret ?_ | refine v_asg ?_ | refine v_par ?_ | refine v_drop ?_ | refine v_nx ?_ | refine v_bk ?_ | refine v_ct ?_ | refine v_retN ?_ | refine v_for ?_
  | refine v_c ?_ | refine v_nil ?_ | refine v_cons ?_ | refine v_op ?_ | refine v_B ?_ | refine v_truth ?_ | refine v_andT ?_ | refine v_orT ?_ | refine v_notT ?_
  | refine v_andV ?_ | refine v_orV ?_ | refine v_notV ?_ | refine v_if ?_ | refine v_neg ?_ | refine v_chain ?_ | refine v_tup ?_ | refine v_lst ?_ | refine v_lstR ?_ | refine v_noPart ?_ | refine v_part ?_ | refine v_sl ?_
  | refine v_CB ?_ | refine v_call ?_ | refine v_abs ?_ | refine v_lc ?_ | refine v_yes ?_ | refine v_it ?_ | refine v_rng1 ?_ | refine v_rng2 ?_ | refine v_rng3 ?_ | refine v_T ?_ | refine v_F ?_
  | refine v_add ?_ | refine v_sub ?_ | refine v_iadd ?_ | refine v_lt ?_ | refine v_le ?_ | refine v_gt ?_ | refine v_ge ?_ | refine v_eqI ?_ | refine v_neI ?_ | refine v_eqB ?_ | refine v_neB ?_)
local macro_rules | `(tactic| walk_at "dv1") => `(tactic| first
  | (with_reducible refine' v_var ?h ?_); (case h => rfl)
  | (with_reducible refine' v_aug ?h ?_); (case h => rfl)
  | (with_reducible refine' v_div ?h1 ?h2 ?_); (case h1 => walk_at "num"); (case h2 => walk_at "num")
  | (with_reducible refine' v_mod ?h1 ?_); (case h1 => walk_at "num")
  | (with_reducible refine' v_pow ?h1 ?_); (case h1 => walk_at "num")
  | (with_reducible refine' v_mulR ?h1 ?_); (case h1 => walk_at "num")
  | (with_reducible refine' v_mulL ?h1 ?_); (case h1 => walk_at "num")
  | (with_reducible refine' v_fin ?h1 ?_); (case h1 => first | exact Or.inl rfl | exact Or.inr rfl | (refine Or.inr ?_; simp only [List.length_set, *]; done))
  | (with_reducible refine' v_ix ?h1 ?_); (case h1 => first | exact ixD_ref (by assumption) (by rfl) | rfl)
  | (with_reducible refine' v_len ?h1 ?_); (case h1 => first | exact lenD_ref (by assumption) | rfl)
  | (with_reducible refine' v_list ?h1 ?_); (case h1 => rfl)
  | (with_reducible refine' v_listR ?h1 ?_); (case h1 => rfl)
  | (with_reducible refine' v_tuple ?h1 ?_); (case h1 => rfl)
  | (with_reducible refine' v_isd ?h1 ?_); (case h1 => rfl)
  | (with_reducible refine' v_isiTy ?h1 ?h2 ?_); (case h1 => rfl); (case h2 => rfl)
  | (with_reducible refine' v_isiT ?h1 ?_); (case h1 => rfl))
local macro_rules | `(tactic| walk_at "dv2") => `(tactic| first
  | refine v_gsub (by rfl) (by rfl) (by assumption) (by rfl) (fun _ _ _ => ?_) | refine ⟨_, rfl, ?_⟩ | (with_reducible refine' ⟨rng_ok ?h1 ?h2, ?_⟩); (case h1 => omega); (case h2 => omega) | refine ⟨rfl, ?_⟩ | refine ⟨_, _, rfl, ?_⟩ | refine ⟨Nat.le_of_ble_eq_true rfl, ?_⟩)
local macro_rules | `(tactic| walk_at "dv3") => `(tactic| first
  | (with_reducible refine' v_dec (fun _ => ?_) (fun hn => absurd ?h hn)); (case h => first | assumption | omega | decide)
  | (with_reducible refine' v_dec (fun hn => absurd hn ?h) (fun _ => ?_)); (case h => first | assumption | omega | decide)
  | (with_reducible refine' v_ndec (fun _ => ?_) (fun hn => absurd hn ?h)); (case h => first | assumption | omega | decide)
  | (with_reducible refine' v_ndec (fun hn => absurd ?h hn) (fun _ => ?_)); (case h => first | assumption | omega | decide)
  | (with_reducible refine' v_bT ?h ?_); (case h => first | assumption | rfl)
  | (with_reducible refine' v_bF ?h ?_); (case h => first | assumption | rfl))
local macro_rules | `(tactic| walk_at "dv4") => `(tactic| with_reducible first
  | refine v_places ?_ | refine v_roads ?_ | refine v_over ?_ | refine v_line ?_ | refine v_spots ?_ | refine v_myards ?_ | refine v_mroads ?_ | refine v_mW (by decide +kernel) ?_ | refine v_mK (by decide +kernel) ?_
  | refine v_itX ?_ | refine v_ev ?_ | refine v_rev ?_ | refine v_zs ?_ | refine v_enum ?_ | refine v_enum2 ?_ | refine v_makeV ?_ | refine v_tryN ?_ | refine v_lc2 ?_ | refine v_fz ?_ | refine v_make ?_ | refine v_fldS ?_)
local macro_rules | `(tactic| walk_at "dv5") => `(tactic| first
  | refine ⟨_, _, rfl, rfl, ?_⟩ | refine ⟨⟨_, _, rfl⟩, ?_⟩ | refine ⟨⟨_, _, _, rfl⟩, ?_⟩ | refine ⟨_, _, _, rfl, ?_⟩ | refine Or.inl ⟨_, rfl, ?_⟩ | refine Or.inr ⟨_, (fun _ z => by cases z), rfl, ?_⟩)
local macro_rules | `(tactic| walk_at "dv") => `(tactic| repeat (first | walk_at "dv0" | walk_at "dv4" | walk_at "dv1" | walk_at "dv3" | walk_at "dv2" | walk_at "dv5"))
/-! ### whole webs -/
structure Mod.Nm (m : Mod) : Prop where
  ny : ∀ y ∈ m.ys, nameOk y = true
  nr : ∀ r ∈ m.rs, nameOk r.n = true
section
variable {m : Mod} {S : Store}
theorem with_passage_ok (hp : PureS S) {r : Road} (hn : nameOk r.n = true) (h1 : r.n ∉ m.ys) (h2 : r.n ∉ m.rs.map Road.n) (hb : r.b ∈ m.ys) (he : r.e ∈ m.ys) (hh : r.h ≠ 0 ∧ r.h.natAbs ≤ 99) (ht : r.t ≠ 0 ∧ r.t.natAbs ≤ 99) (h8 : m.rs.length < 8) :
    m_Web_with_passage [m.w, .str r.n, .str r.b, .str r.e, .int r.h, .int r.t] S = .ok (Mod.mk m.ys (m.rs ++ [r])).w S := by
  refine Pe.eq (v_fn ?_)
  unfold b_Web_with_passage
  walk_at "dv"
  refine Pe.of (need_new_ok (by omega) hn h1 h2) ?_
  walk_at "dv"
  refine v_loop1 ⟨_, _, rfl, ?_⟩
  walk_at "dv"
  refine Pe.of (need_yard_ok hb) ?_
  refine v_loop1 ⟨_, _, rfl, ?_⟩
  walk_at "dv"
  refine Pe.of (need_yard_ok he) ?_
  refine v_loop0 ?_
  walk_at "dv"
  refine v_loop1 ⟨_, _, rfl, ?_⟩
  walk_at "dv"
  refine Pe.of (need_turns_ok hh.1 hh.2) ?_
  refine v_loop1 ⟨_, _, rfl, ?_⟩
  walk_at "dv"
  refine Pe.of (need_turns_ok ht.1 ht.2) ?_
  refine v_loop0 ?_
  walk_at "dv"
  refine v_dec (fun z => ?_) (fun _ => ?_)
  · exfalso
    simp at z
    omega
  walk_at "dv"
  refine v_ifok (by simp; omega) ?_
  walk_at "dv"
  refine Pe.of (turned_ok hp (ys := m.ys) (rs := m.rs ++ [r]) rfl (by simp [asS]) fun T => ⟨rfl, rfl⟩) ?_
  walk_at "dv"
  first | exact ⟨rfl, rfl⟩ | exact rfl
end
end Lw
set_option Elab.async false
set_option linter.all false
set_option maxRecDepth 100000
set_option maxHeartbeats 4000000
set_option autoImplicit false
noncomputable section
namespace Lw
open PySem Dv
/-! steps of our own words -/
local macro_rules | `(tactic| walk_at "num") => `(tactic| first | assumption | decide | omega)
local macro_rules | `(tactic| walk_at "dv0") => `(tactic| with_reducible first
  | refine v_seq ?_ | refine v_ifS ?_ | refine v_set ?_ | refine v_ret ?_ | refine v_asg ?_ | refine v_par ?_ | refine v_drop ?_ | refine v_nx ?_ | refine v_bk ?_ | refine v_ct ?_ | refine v_retN ?_ | refine v_for ?_
  | refine v_c ?_ | refine v_nil ?_ | refine v_cons ?_ | refine v_op ?_ | refine v_B ?_ | refine v_truth ?_ | refine v_andT ?_ | refine v_orT ?_ | refine v_notT ?_
  | refine v_andV ?_ | refine v_orV ?_ | refine v_notV ?_ | refine v_if ?_ | refine v_neg ?_ | refine v_chain ?_ | refine v_tup ?_ | refine v_lst ?_ | refine v_lstR ?_ | refine v_noPart ?_ | refine v_part ?_ | refine v_sl ?_
  | refine v_CB ?_ | refine v_call ?_ | refine v_abs ?_ | refine v_lc ?_ | refine v_yes ?_ | refine v_it ?_ | refine v_rng1 ?_ | refine v_rng2 ?_ | refine v_rng3 ?_ | refine v_T ?_ | refine v_F ?_
  | refine v_add ?_ | refine v_sub ?_ | refine v_iadd ?_ | refine v_lt ?_ | refine v_le ?_ | refine v_gt ?_ | refine v_ge ?_ | refine v_eqI ?_ | refine v_neI ?_ | refine v_eqB ?_ | refine v_neB ?_)
local macro_rules | `(tactic| walk_at "dv1") => `(tactic| first
  | (with_reducible refine' v_var ?h ?_); (case h => rfl)
  | (with_reducible refine' v_aug ?h ?_); (case h => rfl)
  | (with_reducible refine' v_div ?h1 ?h2 ?_); (case h1 => walk_at "num"); (case h2 => walk_at "num")
  | (with_reducible refine' v_mod ?h1 ?_); (case h1 => walk_at "num")
  | (with_reducible refine' v_pow ?h1 ?_); (case h1 => walk_at "num")
  | (with_reducible refine' v_mulR ?h1 ?_); (case h1 => walk_at "num")
  | (with_reducible refine' v_mulL ?h1 ?_); (case h1 => walk_at "num")
  | (with_reducible refine' v_fin ?h1 ?_); (case h1 => first | exact Or.inl rfl | exact Or.inr rfl | (refine Or.inr ?_; simp only [List.length_set, *]; done))
  | (with_reducible refine' v_ix ?h1 ?_); (case h1 => first | exact ixD_ref (by assumption) (by rfl) | rfl)
  | (with_reducible refine' v_len ?h1 ?_); (case h1 => first | exact lenD_ref (by assumption) | rfl)
  | (with_reducible refine' v_list ?h1 ?_); (case h1 => rfl)
  | (with_reducible refine' v_listR ?h1 ?_); (case h1 => rfl)
  | (with_reducible refine' v_tuple ?h1 ?_); (case h1 => rfl)
  | (with_reducible refine' v_isd ?h1 ?_); (case h1 => rfl)
  | (with_reducible refine' v_isiTy ?h1 ?h2 ?_); (case h1 => rfl); (case h2 => rfl)
  | (with_reducible refine' v_isiT ?h1 ?_); (case h1 => rfl))
local macro_rules | `(tactic| walk_at "dv2") => `(tactic| first
  | refine v_gsub (by rfl) (by rfl) (by assumption) (by rfl) (fun _ _ _ => ?_) | refine ⟨_, rfl, ?_⟩ | (with_reducible refine' ⟨rng_ok ?h1 ?h2, ?_⟩); (case h1 => omega); (case h2 => omega) | refine ⟨rfl, ?_⟩ | refine ⟨_, _, rfl, ?_⟩ | refine ⟨Nat.le_of_ble_eq_true rfl, ?_⟩)
local macro_rules | `(tactic| walk_at "dv3") => `(tactic| first
  | (with_reducible refine' v_dec (fun _ => ?_) (fun hn => absurd ?h hn)); (case h => first | assumption | omega | decide)
  | (with_reducible refine' v_dec (fun hn => absurd hn ?h) (fun _ => ?_)); (case h => first | assumption | omega | decide)
  | (with_reducible refine' v_ndec (fun _ => ?_) (fun hn => absurd hn ?h)); (case h => first | assumption | omega | decide)
  | (with_reducible refine' v_ndec (fun hn => absurd ?h hn) (fun _ => ?_)); (case h => first | assumption | omega | decide)
  | (with_reducible refine' v_bT ?h ?_); (case h => first | assumption | rfl)
  | (with_reducible refine' v_bF ?h ?_); (case h => first | assumption | rfl))
local macro_rules | `(tactic| walk_at "dv4") => `(tactic| with_reducible first
  | refine v_places ?_ | refine v_roads ?_ | refine v_over ?_ | refine v_line ?_ | refine v_spots ?_ | refine v_myards ?_ | refine v_mroads ?_ | refine v_mW (by decide +kernel) ?_ | refine v_mK (by decide +kernel) ?_
  | refine v_itX ?_ | refine v_ev ?_ | refine v_rev ?_ | refine v_zs ?_ | refine v_enum ?_ | refine v_enum2 ?_ | refine v_makeV ?_ | refine v_tryN ?_ | refine v_lc2 ?_ | refine v_fz ?_ | refine v_make ?_ | refine v_fldS ?_)
local macro_rules | `(tactic| walk_at "dv5") => `(tactic| first
  | refine ⟨_, _, rfl, rfl, ?_⟩ | refine ⟨⟨_, _, rfl⟩, ?_⟩ | refine ⟨⟨_, _, _, rfl⟩, ?_⟩ | refine ⟨_, _, _, rfl, ?_⟩ | refine Or.inl ⟨_, rfl, ?_⟩ | refine Or.inr ⟨_, (fun _ z => by cases z), rfl, ?_⟩)
local macro_rules | `(tactic| walk_at "dv") => `(tactic| repeat (first | walk_at "dv0" | walk_at "dv4" | walk_at "dv1" | walk_at "dv3" | walk_at "dv2" | walk_at "dv5"))
/-! ### rows and walks -/
abbrev Seg := List (Step × Int)
inductive Path (m : Mod) : Str → Seg → Str → Prop
  | nil (y : Str) : Path m y [] y
  | cons {y : Str} {s : Step} {t : Int} {l : Seg} {z : Str} {r : Road} : m.road s.1 = some r → (s.2 = 1 ∨ s.2 = -1) → (r.ends s.2).1 = y → Path m (r.ends s.2).2 l z → Path m y ((s, t) :: l) z
theorem Path.one {m : Mod} {y : Str} {s : Step} {t : Int} {r : Road} (h1 : m.road s.1 = some r) (h2 : s.2 = 1 ∨ s.2 = -1) (h3 : (r.ends s.2).1 = y) : Path m y [(s, t)] (r.ends s.2).2 := .cons h1 h2 h3 (.nil _)
theorem Path.str {m : Mod} {y z : Str} {l : Seg} (h : Path m y l z) (ok : m.Ok) : ∀ p ∈ l, PyData.strOk p.1.1 = true := by
  induction h with
  | nil y => intro p hp; cases hp
  | cons h1 h2 h3 _ ih =>
    intro p hp
    rcases List.mem_cons.mp hp with e | hp
    · subst e
      obtain ⟨hr, e⟩ := road_in h1
      rw [← e]
      exact (ok.sr _ hr).1
    · exact ih p hp
theorem ends_in {m : Mod} (ok : m.Ok) {n : Str} {r : Road} (h : m.road n = some r) (w : Int) : (r.ends w).1 ∈ m.ys ∧ (r.ends w).2 ∈ m.ys := by
  obtain ⟨hr, _⟩ := road_in h
  have := ok.en r hr
  unfold Road.ends
  split
  · exact this
  · exact ⟨this.2, this.1⟩
section
end
end Lw
set_option Elab.async false
set_option linter.all false
set_option maxRecDepth 100000
set_option maxHeartbeats 4000000
set_option autoImplicit false
noncomputable section
namespace Lw
open PySem Dv
/-! steps of our own words -/
local macro_rules | `(tactic| walk_at "num") => `(tactic| first | assumption | decide | omega)
local macro_rules | `(tactic| walk_at "dv0") => `(tactic| with_reducible first
  | refine v_seq ?_ | refine v_ifS ?_ | refine v_set ?_ | refine v_ret ?_ | refine v_asg ?_ | refine v_par ?_ | refine v_drop ?_ | refine v_nx ?_ | refine v_bk ?_ | refine v_ct ?_ | refine v_retN ?_ | refine v_for ?_
  | refine v_c ?_ | refine v_nil ?_ | refine v_cons ?_ | refine v_op ?_ | refine v_B ?_ | refine v_truth ?_ | refine v_andT ?_ | refine v_orT ?_ | refine v_notT ?_
  | refine v_andV ?_ | refine v_orV ?_ | refine v_notV ?_ | refine v_if ?_ | refine v_neg ?_ | refine v_chain ?_ | refine v_tup ?_ | refine v_lst ?_ | refine v_lstR ?_ | refine v_noPart ?_ | refine v_part ?_ | refine v_sl ?_
  | refine v_CB ?_ | refine v_call ?_ | refine v_abs ?_ | refine v_lc ?_ | refine v_yes ?_ | refine v_it ?_ | refine v_rng1 ?_ | refine v_rng2 ?_ | refine v_rng3 ?_ | refine v_T ?_ | refine v_F ?_
  | refine v_add ?_ | refine v_sub ?_ | refine v_iadd ?_ | refine v_lt ?_ | refine v_le ?_ | refine v_gt ?_ | refine v_ge ?_ | refine v_eqI ?_ | refine v_neI ?_ | refine v_eqB ?_ | refine v_neB ?_)
local macro_rules | `(tactic| walk_at "dv1") => `(tactic| first
  | (with_reducible refine' v_var ?h ?_); (case h => rfl)
  | (with_reducible refine' v_aug ?h ?_); (case h => rfl)
  | (with_reducible refine' v_div ?h1 ?h2 ?_); (case h1 => walk_at "num"); (case h2 => walk_at "num")
  | (with_reducible refine' v_mod ?h1 ?_); (case h1 => walk_at "num")
  | (with_reducible refine' v_pow ?h1 ?_); (case h1 => walk_at "num")
  | (with_reducible refine' v_mulR ?h1 ?_); (case h1 => walk_at "num")
  | (with_reducible refine' v_mulL ?h1 ?_); (case h1 => walk_at "num")
  | (with_reducible refine' v_fin ?h1 ?_); (case h1 => first | exact Or.inl rfl | exact Or.inr rfl | (refine Or.inr ?_; simp only [List.length_set, *]; done))
  | (with_reducible refine' v_ix ?h1 ?_); (case h1 => first | exact ixD_ref (by assumption) (by rfl) | rfl)
  | (with_reducible refine' v_len ?h1 ?_); (case h1 => first | exact lenD_ref (by assumption) | rfl)
  | (with_reducible refine' v_list ?h1 ?_); (case h1 => rfl)
  | (with_reducible refine' v_listR ?h1 ?_); (case h1 => rfl)
  | (with_reducible refine' v_tuple ?h1 ?_); (case h1 => rfl)
  | (with_reducible refine' v_isd ?h1 ?_); (case h1 => rfl)
  | (with_reducible refine' v_isiTy ?h1 ?h2 ?_); (case h1 => rfl); (case h2 => rfl)
  | (with_reducible refine' v_isiT ?h1 ?_); (case h1 => rfl))
local macro_rules | `(tactic| walk_at "dv2") => `(tactic| first
  | refine v_gsub (by rfl) (by rfl) (by assumption) (by rfl) (fun _ _ _ => ?_) | refine ⟨_, rfl, ?_⟩ | (with_reducible refine' ⟨rng_ok ?h1 ?h2, ?_⟩); (case h1 => omega); (case h2 => omega) | refine ⟨rfl, ?_⟩ | refine ⟨_, _, rfl, ?_⟩ | refine ⟨Nat.le_of_ble_eq_true rfl, ?_⟩)
local macro_rules | `(tactic| walk_at "dv3") => `(tactic| first
  | (with_reducible refine' v_dec (fun _ => ?_) (fun hn => absurd ?h hn)); (case h => first | assumption | omega | decide)
  | (with_reducible refine' v_dec (fun hn => absurd hn ?h) (fun _ => ?_)); (case h => first | assumption | omega | decide)
  | (with_reducible refine' v_ndec (fun _ => ?_) (fun hn => absurd hn ?h)); (case h => first | assumption | omega | decide)
  | (with_reducible refine' v_ndec (fun hn => absurd ?h hn) (fun _ => ?_)); (case h => first | assumption | omega | decide)
  | (with_reducible refine' v_bT ?h ?_); (case h => first | assumption | rfl)
  | (with_reducible refine' v_bF ?h ?_); (case h => first | assumption | rfl))
local macro_rules | `(tactic| walk_at "dv4") => `(tactic| with_reducible first
  | refine v_places ?_ | refine v_roads ?_ | refine v_over ?_ | refine v_line ?_ | refine v_spots ?_ | refine v_myards ?_ | refine v_mroads ?_ | refine v_mW (by decide +kernel) ?_ | refine v_mK (by decide +kernel) ?_
  | refine v_itX ?_ | refine v_ev ?_ | refine v_rev ?_ | refine v_zs ?_ | refine v_enum ?_ | refine v_enum2 ?_ | refine v_makeV ?_ | refine v_tryN ?_ | refine v_lc2 ?_ | refine v_fz ?_ | refine v_make ?_ | refine v_fldS ?_)
local macro_rules | `(tactic| walk_at "dv5") => `(tactic| first
  | refine ⟨_, _, rfl, rfl, ?_⟩ | refine ⟨⟨_, _, rfl⟩, ?_⟩ | refine ⟨⟨_, _, _, rfl⟩, ?_⟩ | refine ⟨_, _, _, rfl, ?_⟩ | refine Or.inl ⟨_, rfl, ?_⟩ | refine Or.inr ⟨_, (fun _ z => by cases z), rfl, ?_⟩)
local macro_rules | `(tactic| walk_at "dv") => `(tactic| repeat (first | walk_at "dv0" | walk_at "dv4" | walk_at "dv1" | walk_at "dv3" | walk_at "dv2" | walk_at "dv5"))
/-! ### walks that are made; what they tell -/
theorem PureS.push {S : Store} {o : Ob} (h : PureS S) (ho : pureO o = true) : PureS (S ++ [o]) := by
  intro x hx
  rcases List.mem_append.mp hx with z | z
  · exact h x z
  · rw [List.mem_singleton.mp z]
    exact ho
theorem web_pure (m : Mod) (k : Nat) : noRef (k + 3) m.w = true := by
  show [Dt.tup m.ysD, .tup m.rsD].all (noRef (k + 2)) = true
  simp only [List.all_cons, List.all_nil, Bool.and_true, Bool.and_eq_true]
  exact ⟨strs_pure m.ys (k + 1), roads_pure m.rs k⟩
theorem set_last {S : Store} {o o' : Ob} : (S ++ [o]).set S.length o' = S ++ [o'] := by
  rw [List.set_append_right _ _ (Nat.le_refl _), Nat.sub_self]
  rfl
section
variable {m : Mod} {S : Store}
/-! ### the steps from a yard -/
def stepsOf (y : Str) (l : List Road) : List Step := l.flatMap fun r => (if r.b = y then [(r.n, (1 : Int))] else []) ++ if r.e = y then [(r.n, (-1 : Int))] else []
theorem stepsOf_cons {y : Str} (r : Road) (l : List Road) : stepsOf y (r :: l) = ((if r.b = y then [(r.n, (1 : Int))] else []) ++ if r.e = y then [(r.n, (-1 : Int))] else []) ++ stepsOf y l := by
  unfold stepsOf
  rw [List.flatMap_cons]
theorem stepsOf_len {y : Str} : ∀ l : List Road, (stepsOf y l).length ≤ 2 * l.length
  | [] => Nat.le_refl _
  | r :: l => by
    have ih := stepsOf_len (y := y) l
    rw [stepsOf_cons, List.length_append, List.length_append, List.length_cons]
    have h1 : (if r.b = y then [(r.n, (1 : Int))] else []).length ≤ 1 := by split <;> simp
    have h2 : (if r.e = y then [(r.n, (-1 : Int))] else []).length ≤ 1 := by split <;> simp
    omega
theorem stepsOf_mem {y : Str} {s : Step} (ok : m.Ok) (h : s ∈ stepsOf y m.rs) : ∃ r, m.road s.1 = some r ∧ (s.2 = 1 ∨ s.2 = -1) ∧ (r.ends s.2).1 = y := by
  unfold stepsOf at h
  obtain ⟨r, hr, hs⟩ := List.mem_flatMap.mp h
  rcases List.mem_append.mp hs with q | q
  · split at q
    · rename_i e
      rw [List.mem_singleton.mp q]
      exact ⟨r, road_of ok hr, .inl rfl, e⟩
    · cases q
  · split at q
    · rename_i e
      rw [List.mem_singleton.mp q]
      exact ⟨r, road_of ok hr, .inr rfl, e⟩
    · cases q
theorem steps_pure (l : List Step) (k : Nat) : (l.map stD).all (noRef (k + 1)) = true := by
  rw [List.all_eq_true]
  intro x hx
  obtain ⟨s, _, rfl⟩ := List.mem_map.mp hx
  show [Dt.str s.1, .int s.2].all (noRef k) = true
  cases k <;> rfl
theorem law_steps_ok (ok : m.Ok) (hp : PureS S) {y : Str} (hy : PyData.strOk y = true) : m_law_steps_from [m.d, .str y] S = .ok (.lst ((stepsOf y m.rs).map stD)) S := by
  refine Pe.eq (v_fn ?_)
  unfold b_law_steps_from
  walk_at "dv"
  refine v_loop (fun ds en T => (∃ x3 x4 x5 x6 x7, en = [some m.d, some (.str y), some (.ref S.length), x3, x4, x5, x6, x7]) ∧ Jz S T ∧ ∃ a b : List Road, m.rs = a ++ b ∧ ds = b.map Road.d ∧ T[S.length]? = some (.lst ((stepsOf y a).map stD))) ⟨⟨_, _, _, _, _, rfl⟩, Jz.refl.push, [], m.rs, rfl, rfl, last_at⟩ ?_ ?_
  · rintro d ds en T ⟨⟨x3, x4, x5, x6, x7, rfl⟩, jz, a, b, el, e2, hT⟩
    cases b with
    | nil => cases e2
    | cons r b =>
      cases e2
      have hr : r ∈ m.rs := by rw [el]; simp
      have hle : (stepsOf y a).length ≤ 100 := by
        have h1 : a.length ≤ 8 := by
          have := ok.lr
          rw [el, List.length_append] at this
          omega
        have := stepsOf_len (y := y) a
        omega
      refine ⟨_, _, rfl, ?_⟩
      walk_at "dv"
      refine v_eqS (ok.sr r hr).2.1 hy ?_
      refine ⟨_, rfl, ?_⟩
      have second : ∀ (T1 : Store) (l1 : List Step), Jz S T1 → T1[S.length]? = some (.lst ((stepsOf y a ++ l1).map stD)) → l1 = (if r.b = y then [(r.n, (1 : Int))] else []) → l1.length ≤ 1 → Ps (mIfS (mB (mOp mEq (mVar 5) (mVar 1))) (mDrop (mApp1 (mVar 2) (mTup (mCons (mVar 3) (mCons (mNeg (mC (.int 1))) mNil))))) mNx [some m.d, some (.str y), some (.ref S.length), some (.str r.n), some (.str r.b), some (.str r.e), some (.int r.h), some (.int r.t)] T1)
          (fun f e2 S2 => match f with | .nx => (∃ x3 x4 x5 x6 x7, e2 = [some m.d, some (.str y), some (.ref S.length), x3, x4, x5, x6, x7]) ∧ Jz S S2 ∧ ∃ a b' : List Road, m.rs = a ++ b' ∧ b.map Road.d = b'.map Road.d ∧ S2[S.length]? = some (.lst ((stepsOf y a).map stD)) | _ => False) (fun _ _ _ => False) := by
        intro T1 l1 j1 hT1 el1 hl1
        walk_at "dv"
        refine v_eqS (ok.sr r hr).2.2 hy ?_
        refine ⟨_, rfl, ?_⟩
        refine v_dec (fun e => ?_) (fun e => ?_)
        · walk_at "dv"
          refine v_app1K rfl hT1 ?_
          walk_at "dv"
          refine ⟨_, hT1, by rw [List.length_map, List.length_append]; omega, ?_⟩
          refine ⟨⟨_, _, _, _, _, rfl⟩, j1.set (Nat.le_refl _), a ++ [r], b, by rw [el]; simp, rfl, ?_⟩
          rw [set_same hT1]
          have z : stepsOf y (a ++ [r]) = stepsOf y a ++ l1 ++ [(r.n, (-1 : Int))] := by
            unfold stepsOf
            rw [List.flatMap_append, List.flatMap_cons, List.flatMap_nil, List.append_nil, if_pos e, el1, List.append_assoc]
          rw [z]
          simp
        · walk_at "dv"
          refine ⟨⟨_, _, _, _, _, rfl⟩, j1, a ++ [r], b, by rw [el]; simp, rfl, ?_⟩
          have z : stepsOf y (a ++ [r]) = stepsOf y a ++ l1 := by
            unfold stepsOf
            rw [List.flatMap_append, List.flatMap_cons, List.flatMap_nil, List.append_nil, if_neg e, el1, List.append_nil]
          rw [z]
          exact hT1
      have fin2 : ∀ {r : RS} {P : Dv.Env → Store → Prop} {QS : Fl → Dv.Env → Store → Prop} {XS : Ex → Dv.Env → Store → Prop}, Ps r (fun f e2 S2 => match f with | .nx => P e2 S2 | _ => False) (fun _ _ _ => False) → (∀ e2 S2, P e2 S2 → QS .nx e2 S2) → Ps r QS XS := by
        intro r P QS XS h hq
        cases r with
        | ok f e2 S2 =>
          cases f with
          | nx => exact hq _ _ h
          | _ => exact h.elim
        | err x e S => exact h.elim
        | stuck => exact h.elim
      refine v_dec (fun e => ?_) (fun e => ?_)
      · walk_at "dv"
        refine v_app1K rfl hT ?_
        walk_at "dv"
        refine ⟨_, hT, by rw [List.length_map]; omega, ?_⟩
        refine fin2 (second _ [(r.n, 1)] (jz.set (Nat.le_refl _)) (by rw [set_same hT]; simp) (by rw [if_pos e]) (Nat.le_refl _)) fun _ _ z => z
      · walk_at "dv0"
        refine fin2 (second _ [] jz (by rw [List.append_nil]; exact hT) (by rw [if_neg e]) (Nat.zero_le _)) fun _ _ z => z
  · rintro en T ⟨⟨x3, x4, x5, x6, x7, rfl⟩, jz, a, b, el, e2, hT⟩
    have hb : b = [] := by simpa using e2.symm
    subst hb
    rw [List.append_nil] at el
    walk_at "dv"
    rw [← el] at hT
    refine v_finJ jz hp hT (Nat.le_refl _) (steps_pure _ 10) ?_
    exact ⟨rfl, rfl⟩
end
end Lw
set_option Elab.async false
set_option linter.all false
set_option maxRecDepth 100000
set_option maxHeartbeats 4000000
set_option autoImplicit false
noncomputable section
namespace Lw
open PySem Dv
/-! steps of our own words -/
local macro_rules | `(tactic| walk_at "num") => `(tactic| first | assumption | decide | omega)
local macro_rules | `(tactic| walk_at "dv0") => `(tactic| with_reducible first
  | refine v_seq ?_ | refine v_ifS ?_ | refine v_set ?_ | refine v_ret ?_ | refine v_asg ?_ | refine v_par ?_ | refine v_drop ?_ | refine v_nx ?_ | refine v_bk ?_ | refine v_ct ?_ | refine v_retN ?_ | refine v_for ?_
  | refine v_c ?_ | refine v_nil ?_ | refine v_cons ?_ | refine v_op ?_ | refine v_B ?_ | refine v_truth ?_ | refine v_andT ?_ | refine v_orT ?_ | refine v_notT ?_
  | refine v_andV ?_ | refine v_orV ?_ | refine v_notV ?_ | refine v_if ?_ | refine v_neg ?_ | refine v_chain ?_ | refine v_tup ?_ | refine v_lst ?_ | refine v_lstR ?_ | refine v_noPart ?_ | refine v_part ?_ | refine v_sl ?_
  | refine v_CB ?_ | refine v_call ?_ | refine v_abs ?_ | refine v_lc ?_ | refine v_yes ?_ | refine v_it ?_ | refine v_rng1 ?_ | refine v_rng2 ?_ | refine v_rng3 ?_ | refine v_T ?_ | refine v_F ?_
  | refine v_add ?_ | refine v_sub ?_ | refine v_iadd ?_ | refine v_lt ?_ | refine v_le ?_ | refine v_gt ?_ | refine v_ge ?_ | refine v_eqI ?_ | refine v_neI ?_ | refine v_eqB ?_ | refine v_neB ?_)
local macro_rules | `(tactic| walk_at "dv1") => `(tactic| first
  | (with_reducible refine' v_var ?h ?_); (case h => rfl)
  | (with_reducible refine' v_aug ?h ?_); (case h => rfl)
  | (with_reducible refine' v_div ?h1 ?h2 ?_); (case h1 => walk_at "num"); (case h2 => walk_at "num")
  | (with_reducible refine' v_mod ?h1 ?_); (case h1 => walk_at "num")
  | (with_reducible refine' v_pow ?h1 ?_); (case h1 => walk_at "num")
  | (with_reducible refine' v_mulR ?h1 ?_); (case h1 => walk_at "num")
  | (with_reducible refine' v_mulL ?h1 ?_); (case h1 => walk_at "num")
  | (with_reducible refine' v_fin ?h1 ?_); (case h1 => first | exact Or.inl rfl | exact Or.inr rfl | (refine Or.inr ?_; simp only [List.length_set, *]; done))
  | (with_reducible refine' v_ix ?h1 ?_); (case h1 => first | exact ixD_ref (by assumption) (by rfl) | rfl)
  | (with_reducible refine' v_len ?h1 ?_); (case h1 => first | exact lenD_ref (by assumption) | rfl)
  | (with_reducible refine' v_list ?h1 ?_); (case h1 => rfl)
  | (with_reducible refine' v_listR ?h1 ?_); (case h1 => rfl)
  | (with_reducible refine' v_tuple ?h1 ?_); (case h1 => rfl)
  | (with_reducible refine' v_isd ?h1 ?_); (case h1 => rfl)
  | (with_reducible refine' v_isiTy ?h1 ?h2 ?_); (case h1 => rfl); (case h2 => rfl)
  | (with_reducible refine' v_isiT ?h1 ?_); (case h1 => rfl))
local macro_rules | `(tactic| walk_at "dv2") => `(tactic| first
  | refine v_gsub (by rfl) (by rfl) (by assumption) (by rfl) (fun _ _ _ => ?_) | refine ⟨_, rfl, ?_⟩ | (with_reducible refine' ⟨rng_ok ?h1 ?h2, ?_⟩); (case h1 => omega); (case h2 => omega) | refine ⟨rfl, ?_⟩ | refine ⟨_, _, rfl, ?_⟩ | refine ⟨Nat.le_of_ble_eq_true rfl, ?_⟩)
local macro_rules | `(tactic| walk_at "dv3") => `(tactic| first
  | (with_reducible refine' v_dec (fun _ => ?_) (fun hn => absurd ?h hn)); (case h => first | assumption | omega | decide)
  | (with_reducible refine' v_dec (fun hn => absurd hn ?h) (fun _ => ?_)); (case h => first | assumption | omega | decide)
  | (with_reducible refine' v_ndec (fun _ => ?_) (fun hn => absurd hn ?h)); (case h => first | assumption | omega | decide)
  | (with_reducible refine' v_ndec (fun hn => absurd ?h hn) (fun _ => ?_)); (case h => first | assumption | omega | decide)
  | (with_reducible refine' v_bT ?h ?_); (case h => first | assumption | rfl)
  | (with_reducible refine' v_bF ?h ?_); (case h => first | assumption | rfl))
local macro_rules | `(tactic| walk_at "dv4") => `(tactic| with_reducible first
  | refine v_places ?_ | refine v_roads ?_ | refine v_over ?_ | refine v_line ?_ | refine v_spots ?_ | refine v_myards ?_ | refine v_mroads ?_ | refine v_mW (by decide +kernel) ?_ | refine v_mK (by decide +kernel) ?_
  | refine v_itX ?_ | refine v_ev ?_ | refine v_rev ?_ | refine v_zs ?_ | refine v_enum ?_ | refine v_enum2 ?_ | refine v_makeV ?_ | refine v_tryN ?_ | refine v_lc2 ?_ | refine v_fz ?_ | refine v_make ?_ | refine v_fldS ?_)
local macro_rules | `(tactic| walk_at "dv5") => `(tactic| first
  | refine ⟨_, _, rfl, rfl, ?_⟩ | refine ⟨⟨_, _, rfl⟩, ?_⟩ | refine ⟨⟨_, _, _, rfl⟩, ?_⟩ | refine ⟨_, _, _, rfl, ?_⟩ | refine Or.inl ⟨_, rfl, ?_⟩ | refine Or.inr ⟨_, (fun _ z => by cases z), rfl, ?_⟩)
local macro_rules | `(tactic| walk_at "dv") => `(tactic| repeat (first | walk_at "dv0" | walk_at "dv4" | walk_at "dv1" | walk_at "dv3" | walk_at "dv2" | walk_at "dv5"))
/-! ### rows that are drawn -/
theorem PureS.set {S : Store} {k : Nat} {o : Ob} (h : PureS S) (ho : pureO o = true) : PureS (S.set k o) := by
  intro x hx
  rcases List.mem_or_eq_of_mem_set hx with z | z
  · exact h x z
  · rw [z]
    exact ho
section
end
end Lw
set_option Elab.async false
set_option linter.all false
set_option maxRecDepth 100000
set_option maxHeartbeats 4000000
set_option autoImplicit false
noncomputable section
namespace Lw
open PySem Dv
/-! steps of our own words -/
local macro_rules | `(tactic| walk_at "num") => `(tactic| first | assumption | decide | omega)
local macro_rules | `(tactic| walk_at "dv0") => `(tactic| with_reducible first
  | refine v_seq ?_ | refine v_ifS ?_ | refine v_set ?_ | refine v_ret ?_ | refine v_asg ?_ | refine v_par ?_ | refine v_drop ?_ | refine v_nx ?_ | refine v_bk ?_ | refine v_ct ?_ | refine v_retN ?_ | refine v_for ?_
  | refine v_c ?_ | refine v_nil ?_ | refine v_cons ?_ | refine v_op ?_ | refine v_B ?_ | refine v_truth ?_ | refine v_andT ?_ | refine v_orT ?_ | refine v_notT ?_
  | refine v_andV ?_ | refine v_orV ?_ | refine v_notV ?_ | refine v_if ?_ | refine v_neg ?_ | refine v_chain ?_ | refine v_tup ?_ | refine v_lst ?_ | refine v_lstR ?_ | refine v_noPart ?_ | refine v_part ?_ | refine v_sl ?_
  | refine v_CB ?_ | refine v_call ?_ | refine v_abs ?_ | refine v_lc ?_ | refine v_yes ?_ | refine v_it ?_ | refine v_rng1 ?_ | refine v_rng2 ?_ | refine v_rng3 ?_ | refine v_T ?_ | refine v_F ?_
  | refine v_add ?_ | refine v_sub ?_ | refine v_iadd ?_ | refine v_lt ?_ | refine v_le ?_ | refine v_gt ?_ | refine v_ge ?_ | refine v_eqI ?_ | refine v_neI ?_ | refine v_eqB ?_ | refine v_neB ?_)
local macro_rules | `(tactic| walk_at "dv1") => `(tactic| first
  | (with_reducible refine' v_var ?h ?_); (case h => rfl)
  | (with_reducible refine' v_aug ?h ?_); (case h => rfl)
  | (with_reducible refine' v_div ?h1 ?h2 ?_); (case h1 => walk_at "num"); (case h2 => walk_at "num")
  | (with_reducible refine' v_mod ?h1 ?_); (case h1 => walk_at "num")
  | (with_reducible refine' v_pow ?h1 ?_); (case h1 => walk_at "num")
  | (with_reducible refine' v_mulR ?h1 ?_); (case h1 => walk_at "num")
  | (with_reducible refine' v_mulL ?h1 ?_); (case h1 => walk_at "num")
  | (with_reducible refine' v_fin ?h1 ?_); (case h1 => first | exact Or.inl rfl | exact Or.inr rfl | (refine Or.inr ?_; simp only [List.length_set, *]; done))
  | (with_reducible refine' v_ix ?h1 ?_); (case h1 => first | exact ixD_ref (by assumption) (by rfl) | rfl)
  | (with_reducible refine' v_len ?h1 ?_); (case h1 => first | exact lenD_ref (by assumption) | rfl)
  | (with_reducible refine' v_list ?h1 ?_); (case h1 => rfl)
  | (with_reducible refine' v_listR ?h1 ?_); (case h1 => rfl)
  | (with_reducible refine' v_tuple ?h1 ?_); (case h1 => rfl)
  | (with_reducible refine' v_isd ?h1 ?_); (case h1 => rfl)
  | (with_reducible refine' v_isiTy ?h1 ?h2 ?_); (case h1 => rfl); (case h2 => rfl)
  | (with_reducible refine' v_isiT ?h1 ?_); (case h1 => rfl))
local macro_rules | `(tactic| walk_at "dv2") => `(tactic| first
  | refine v_gsub (by rfl) (by rfl) (by assumption) (by rfl) (fun _ _ _ => ?_) | refine ⟨_, rfl, ?_⟩ | (with_reducible refine' ⟨rng_ok ?h1 ?h2, ?_⟩); (case h1 => omega); (case h2 => omega) | refine ⟨rfl, ?_⟩ | refine ⟨_, _, rfl, ?_⟩ | refine ⟨Nat.le_of_ble_eq_true rfl, ?_⟩)
local macro_rules | `(tactic| walk_at "dv3") => `(tactic| first
  | (with_reducible refine' v_dec (fun _ => ?_) (fun hn => absurd ?h hn)); (case h => first | assumption | omega | decide)
  | (with_reducible refine' v_dec (fun hn => absurd hn ?h) (fun _ => ?_)); (case h => first | assumption | omega | decide)
  | (with_reducible refine' v_ndec (fun _ => ?_) (fun hn => absurd hn ?h)); (case h => first | assumption | omega | decide)
  | (with_reducible refine' v_ndec (fun hn => absurd ?h hn) (fun _ => ?_)); (case h => first | assumption | omega | decide)
  | (with_reducible refine' v_bT ?h ?_); (case h => first | assumption | rfl)
  | (with_reducible refine' v_bF ?h ?_); (case h => first | assumption | rfl))
local macro_rules | `(tactic| walk_at "dv4") => `(tactic| with_reducible first
  | refine v_places ?_ | refine v_roads ?_ | refine v_over ?_ | refine v_line ?_ | refine v_spots ?_ | refine v_myards ?_ | refine v_mroads ?_ | refine v_mW (by decide +kernel) ?_ | refine v_mK (by decide +kernel) ?_
  | refine v_itX ?_ | refine v_ev ?_ | refine v_rev ?_ | refine v_zs ?_ | refine v_enum ?_ | refine v_enum2 ?_ | refine v_makeV ?_ | refine v_tryN ?_ | refine v_lc2 ?_ | refine v_fz ?_ | refine v_make ?_ | refine v_fldS ?_)
local macro_rules | `(tactic| walk_at "dv5") => `(tactic| first
  | refine ⟨_, _, rfl, rfl, ?_⟩ | refine ⟨⟨_, _, rfl⟩, ?_⟩ | refine ⟨⟨_, _, _, rfl⟩, ?_⟩ | refine ⟨_, _, _, rfl, ?_⟩ | refine Or.inl ⟨_, rfl, ?_⟩ | refine Or.inr ⟨_, (fun _ z => by cases z), rfl, ?_⟩)
local macro_rules | `(tactic| walk_at "dv") => `(tactic| repeat (first | walk_at "dv0" | walk_at "dv4" | walk_at "dv1" | walk_at "dv3" | walk_at "dv2" | walk_at "dv5"))
theorem all_map {α : Type} {p : Dt → Bool} {f : α → Dt} {l : List α} (h : ∀ a ∈ l, p (f a) = true) : (l.map f).all p = true := by
  rw [List.all_eq_true]
  intro x hx
  obtain ⟨s, hs, rfl⟩ := List.mem_map.mp hx
  exact h s hs
/-! ### the steps that a web tells -/
theorem Ps.imp {r : RS} {QS QS' : Fl → Dv.Env → Store → Prop} {XS XS' : Ex → Dv.Env → Store → Prop} (h : Ps r QS XS) (hq : ∀ f e S, QS f e S → QS' f e S) (hx : ∀ x e S, XS x e S → XS' x e S) : Ps r QS' XS' := by
  cases r with
  | ok f e S => exact hq _ _ _ h
  | err x e S => exact hx _ _ _ h
  | stuck => exact h.elim
section
variable {m : Mod} {S : Store}
theorem web_steps_b (ok : m.Ok) {y : Str} (hy : y ∈ m.ys) : Ps (b_Web_steps_from [some m.w, some (.str y), none, none, none, none, none] S) (fun f _ T => f = .rt (.ref S.length) ∧ T = S ++ [.lst ((stepsOf y m.rs).map stD)]) (fun _ _ _ => False) := by
  have hs := ok.sy y hy
  unfold b_Web_steps_from
  walk_at "dv"
  refine Pe.of (need_yard_ok hy) ?_
  walk_at "dv"
  refine v_loop (fun ds en T => ∃ (x3 x4 x5 x6 : Option Dt) (a b : List Road), en = [some m.w, some (.str y), some (.ref S.length), x3, x4, x5, x6] ∧ m.rs = a ++ b ∧ ds = b.map Road.d ∧ T = S ++ [.lst ((stepsOf y a).map stD)]) ⟨_, _, _, _, [], m.rs, rfl, rfl, rfl, rfl⟩ ?_ ?_
  · rintro d ds en T ⟨x3, x4, x5, x6, a, b, rfl, el, e2, rfl⟩
    cases b with
    | nil => cases e2
    | cons r b =>
      obtain ⟨rfl, rfl⟩ := List.cons.inj e2
      have hr : r ∈ m.rs := by rw [el]; simp
      have hle : (stepsOf y a).length ≤ 100 := by
        have h1 : a.length ≤ 8 := by
          have := ok.lr
          rw [el, List.length_append] at this
          omega
        have := stepsOf_len (y := y) a
        omega
      refine ⟨_, _, rfl, ?_⟩
      have second : ∀ (l1 : List Step), l1 = (if r.b = y then [(r.n, (1 : Int))] else []) → l1.length ≤ 1 → Ps (mIfS (mB (mOp mEq (mVar 5) (mVar 1))) (mDrop (mApp1 (mVar 2) (mTup (mCons (mVar 3) (mCons (mNeg (mC (.int 1))) mNil))))) mNx [some m.w, some (.str y), some (.ref S.length), some (.str r.n), some (.str r.b), some (.str r.e), some (.lst [.int r.h, .int r.t])] (S ++ [.lst ((stepsOf y a ++ l1).map stD)]))
          (fun f e2 S2 => match f with | .nx => ∃ (x3 x4 x5 x6 : Option Dt) (a b' : List Road), e2 = [some m.w, some (.str y), some (.ref S.length), x3, x4, x5, x6] ∧ m.rs = a ++ b' ∧ b.map Road.d = b'.map Road.d ∧ S2 = S ++ [.lst ((stepsOf y a).map stD)] | _ => False) (fun _ _ _ => False) := by
        intro l1 el1 hl1
        walk_at "dv"
        refine v_eqS (ok.sr r hr).2.2 hs ?_
        refine ⟨_, rfl, ?_⟩
        refine v_dec (fun e => ?_) (fun e => ?_)
        · walk_at "dv"
          refine v_app1K rfl last_at ?_
          walk_at "dv"
          refine ⟨_, last_at, by rw [List.length_map, List.length_append]; omega, ?_⟩
          refine ⟨_, _, _, _, a ++ [r], b, rfl, by rw [el]; simp, rfl, ?_⟩
          rw [set_last]
          have z : stepsOf y (a ++ [r]) = stepsOf y a ++ l1 ++ [(r.n, (-1 : Int))] := by
            unfold stepsOf
            rw [List.flatMap_append, List.flatMap_cons, List.flatMap_nil, List.append_nil, if_pos e, el1, List.append_assoc]
          rw [z]
          simp only [List.map_append, List.map_cons, List.map_nil]
        · walk_at "dv"
          refine ⟨_, _, _, _, a ++ [r], b, rfl, by rw [el]; simp, rfl, ?_⟩
          have z : stepsOf y (a ++ [r]) = stepsOf y a ++ l1 := by
            unfold stepsOf
            rw [List.flatMap_append, List.flatMap_cons, List.flatMap_nil, List.append_nil, if_neg e, el1, List.append_nil]
          rw [z]
      have fin2 : ∀ {r : RS} {P : Dv.Env → Store → Prop} {QS : Fl → Dv.Env → Store → Prop} {XS : Ex → Dv.Env → Store → Prop}, Ps r (fun f e2 S2 => match f with | .nx => P e2 S2 | _ => False) (fun _ _ _ => False) → (∀ e2 S2, P e2 S2 → QS .nx e2 S2) → Ps r QS XS := by
        intro r P QS XS h hq
        cases r with
        | stuck => exact h.elim
        | err x e s => exact h.elim
        | ok f e s =>
          cases f with
          | nx => exact hq _ _ h
          | _ => exact h.elim
      walk_at "dv"
      refine v_eqS (ok.sr r hr).2.1 hs ?_
      refine ⟨_, rfl, ?_⟩
      refine v_dec (fun e => ?_) (fun e => ?_)
      · walk_at "dv"
        refine v_app1K rfl last_at ?_
        walk_at "dv"
        refine ⟨_, last_at, by rw [List.length_map]; omega, ?_⟩
        rw [set_last]
        have h := second [(r.n, 1)] (by rw [if_pos e]) (Nat.le_refl _)
        rw [List.map_append] at h
        exact fin2 h fun _ _ z => z
      · walk_at "dv0"
        have h := second [] (by rw [if_neg e]) (Nat.zero_le _)
        rw [List.append_nil] at h
        exact fin2 h fun _ _ z => z
  · rintro en T ⟨x3, x4, x5, x6, a, b, rfl, el, e2, rfl⟩
    have hb : b = [] := by simpa using e2.symm
    subst hb
    rw [List.append_nil] at el
    rw [← el]
    walk_at "dv"
    first | exact ⟨rfl, rfl⟩ | exact rfl
end
section
variable {m : Mod} {S : Store} {en : Dv.Env}
theorem web_steps_ok (ok : m.Ok) (hp : PureS S) {y : Str} (hy : y ∈ m.ys) : m_Web_steps_from [m.w, .str y] S = .ok (.lst ((stepsOf y m.rs).map stD)) S := by
  refine Pe.eq (v_fn (Ps.imp (web_steps_b ok hy) (fun f en T h => ?_) fun _ _ _ h => h.elim))
  obtain ⟨rfl, rfl⟩ := h
  exact v_finJ Jz.refl.push hp last_at (Nat.le_refl _) (steps_pure _ 10) ⟨rfl, rfl⟩
theorem passages_ok : m_Web_passages [m.w] S = .ok (.lst m.rsD) S := by
  refine Pe.eq (v_fn ?_)
  unfold b_Web_passages
  walk_at "dv"
  exact rfl
theorem webyards_ok : m_Web_yards [m.w] S = .ok (.lst m.ysD) S := by
  refine Pe.eq (v_fn ?_)
  unfold b_Web_yards
  walk_at "dv"
  exact rfl
theorem yards_e (hp : PureS S) (h : en[0]? = some (some m.w)) : mMeth "Web" "yards" 1 m_Web_yards (mVar 0) mNil en S = .ok (.lst m.ysD) S := by
  refine Pe.eq (v_meth (v_var h ⟨⟨wF, _, rfl, by decide +kernel⟩, ?_⟩))
  walk_at "dv"
  exact Pe.of webyards_ok ⟨rfl, rfl⟩
theorem passages_e (hp : PureS S) (h : en[0]? = some (some m.w)) : mMeth "Web" "passages" 1 m_Web_passages (mVar 0) mNil en S = .ok (.lst m.rsD) S := by
  refine Pe.eq (v_meth (v_var h ⟨⟨wF, _, rfl, by decide +kernel⟩, ?_⟩))
  walk_at "dv"
  exact Pe.of passages_ok ⟨rfl, rfl⟩
theorem steps_e (ok : m.Ok) (hp : PureS S) {y : Str} (hy : y ∈ m.ys) (h : en[0]? = some (some m.w)) (h4 : en[4]? = some (some (.str y))) : mMeth "Web" "steps_from" 2 m_Web_steps_from (mVar 0) (mCons (mVar 4) mNil) en S = .ok (.lst ((stepsOf y m.rs).map stD)) S := by
  refine Pe.eq (v_meth (v_var h ⟨⟨wF, _, rfl, by decide +kernel⟩, ?_⟩))
  refine v_cons (v_var h4 ?_)
  walk_at "dv"
  exact Pe.of (web_steps_ok ok hp hy) ⟨rfl, rfl⟩
end
/-! ### the same, told of bools, texts and rows -/
theorem same_bool {S : Store} {k : Nat} {b : Bool} : m_law_same (k + 1) [.bl b, .bl b] S = .ok (.bl true) S := by
  refine Pe.eq (v_fn ?_)
  unfold b_law_same
  walk_at "dv"
  exact ⟨by cases b <;> rfl, rfl⟩
theorem same_str {S : Store} {k : Nat} {s : Str} (h : PyData.strOk s = true) : m_law_same (k + 1) [.str s, .str s] S = .ok (.bl true) S := by
  refine Pe.eq (v_fn ?_)
  unfold b_law_same
  walk_at "dv"
  refine v_eqS h h ?_
  walk_at "dv"
  first | exact ⟨rfl, rfl⟩ | exact rfl | exact ⟨by simp, rfl⟩
/-! ### the same, told of any plain data -/
theorem same_non {S : Store} {k : Nat} : m_law_same (k + 1) [.non, .non] S = .ok (.bl true) S := by
  refine Pe.eq (v_fn ?_)
  unfold b_law_same
  walk_at "dv"
  first | exact ⟨rfl, rfl⟩ | exact rfl
def sok : Nat → Dt → Bool
  | 0, _ => false
  | k + 1, d => match d with
    | .non => true
    | .bl _ => true
    | .int _ => true
    | .str s => PyData.strOk s
    | .tup ds => decide (ds.length ≤ 100000) && ds.all (sok k)
    | .lst ds => decide (ds.length ≤ 100000) && ds.all (sok k)
    | _ => false
theorem same_all {S : Store} : ∀ (k : Nat) (d : Dt), sok k d = true → m_law_same k [d, d] S = .ok (.bl true) S
  | 0, _, h => nomatch h
  | k + 1, d, h => by
    unfold sok at h
    split at h
    · exact same_non
    · exact same_bool
    · exact same_int
    · exact same_str h
    · rename_i ds
      rw [Bool.and_eq_true] at h
      refine Pe.eq (same_seq (.inl rfl) (of_decide_eq_true h.1) fun d hd => same_all k d (List.all_eq_true.mp h.2 d hd))
    · rename_i ds
      rw [Bool.and_eq_true] at h
      refine Pe.eq (same_seq (.inr rfl) (of_decide_eq_true h.1) fun d hd => same_all k d (List.all_eq_true.mp h.2 d hd))
    · cases h
theorem v_neD {x y : Dt} {b : Bool} {S : Store} {Q : Dt → Store → Prop} {X : Ex → Store → Prop} (h : okD 12 (res S x) = true) (h' : okD 12 (res S y) = true) (e : eqD (res S x) (res S y) = b) (q : Q (.bl (!b)) S) : Pe (mNe x y S) Q X := by
  refine v_ifok ⟨h, h'⟩ ?_
  rw [e]
  exact q
/-- the law's same, of the same -/
theorem v_same {x y : Dt} {S : Store} {Q : Dt → Store → Prop} {X : Ex → Store → Prop} (e : x = y) (h : sok 20 x = true) (q : Q (.bl true) S) : Pe (m_law_same 20 [x, y] S) Q X := by
  subst e
  exact Pe.of (same_all 20 x h) q
/-! ### == of plain data with itself -/
theorem sok_st {s : Step} (h : PyData.strOk s.1 = true) (k : Nat) : sok (k + 2) (stD s) = true := by simp [sok, h]
theorem sok_list {ds : List Dt} {k : Nat} (hl : ds.length ≤ 100000) (h : ∀ d ∈ ds, sok k d = true) : sok (k + 1) (.lst ds) = true ∧ sok (k + 1) (.tup ds) = true := by
  have e : (decide (ds.length ≤ 100000) && ds.all (sok k)) = true := by
    rw [Bool.and_eq_true]
    exact ⟨decide_eq_true hl, List.all_eq_true.mpr h⟩
  exact ⟨e, e⟩
theorem sok_strs {l : List Str} (h : ∀ x ∈ l, PyData.strOk x = true) (hl : l.length ≤ 1000) (k : Nat) : sok (k + 2) (.lst (l.map Dt.str)) = true ∧ sok (k + 2) (.tup (l.map Dt.str)) = true := by
  refine sok_list (by rw [List.length_map]; omega) fun d hd => ?_
  obtain ⟨x, hx, rfl⟩ := List.mem_map.mp hd
  exact h x hx
theorem sok_sts {l : List Step} (h : ∀ s ∈ l, PyData.strOk s.1 = true) (hl : l.length ≤ 1000) (k : Nat) : sok (k + 3) (.lst (l.map stD)) = true ∧ sok (k + 3) (.tup (l.map stD)) = true := by
  refine sok_list (by rw [List.length_map]; omega) fun d hd => ?_
  obtain ⟨x, hx, rfl⟩ := List.mem_map.mp hd
  exact sok_st (h x hx) k
end Lw
set_option Elab.async false
set_option linter.all false
set_option maxRecDepth 100000
set_option maxHeartbeats 4000000
set_option autoImplicit false
noncomputable section
namespace Lw
open PySem Dv
/-! steps of our own words -/
local macro_rules | `(tactic| walk_at "num") => `(tactic| first | assumption | decide | omega)
local macro_rules | `(tactic| walk_at "dv0") => `(tactic| with_reducible first
  | refine v_seq ?_ | refine v_ifS ?_ | refine v_set ?_ | refine v_ret ?_ | refine v_asg ?_ | refine v_par ?_ | refine v_drop ?_ | refine v_nx ?_ | refine v_bk ?_ | refine v_ct ?_ | refine v_retN ?_ | refine v_for ?_
  | refine v_c ?_ | refine v_nil ?_ | refine v_cons ?_ | refine v_op ?_ | refine v_B ?_ | refine v_truth ?_ | refine v_andT ?_ | refine v_orT ?_ | refine v_notT ?_
  | refine v_andV ?_ | refine v_orV ?_ | refine v_notV ?_ | refine v_if ?_ | refine v_neg ?_ | refine v_chain ?_ | refine v_tup ?_ | refine v_lst ?_ | refine v_lstR ?_ | refine v_noPart ?_ | refine v_part ?_ | refine v_sl ?_
  | refine v_CB ?_ | refine v_call ?_ | refine v_abs ?_ | refine v_lc ?_ | refine v_yes ?_ | refine v_it ?_ | refine v_rng1 ?_ | refine v_rng2 ?_ | refine v_rng3 ?_ | refine v_T ?_ | refine v_F ?_
  | refine v_add ?_ | refine v_sub ?_ | refine v_iadd ?_ | refine v_lt ?_ | refine v_le ?_ | refine v_gt ?_ | refine v_ge ?_ | refine v_eqI ?_ | refine v_neI ?_ | refine v_eqB ?_ | refine v_neB ?_)
local macro_rules | `(tactic| walk_at "dv1") => `(tactic| first
  | (with_reducible refine' v_var ?h ?_); (case h => rfl)
  | (with_reducible refine' v_aug ?h ?_); (case h => rfl)
  | (with_reducible refine' v_div ?h1 ?h2 ?_); (case h1 => walk_at "num"); (case h2 => walk_at "num")
  | (with_reducible refine' v_mod ?h1 ?_); (case h1 => walk_at "num")
  | (with_reducible refine' v_pow ?h1 ?_); (case h1 => walk_at "num")
  | (with_reducible refine' v_mulR ?h1 ?_); (case h1 => walk_at "num")
  | (with_reducible refine' v_mulL ?h1 ?_); (case h1 => walk_at "num")
  | (with_reducible refine' v_fin ?h1 ?_); (case h1 => first | exact Or.inl rfl | exact Or.inr rfl | (refine Or.inr ?_; simp only [List.length_set, *]; done))
  | (with_reducible refine' v_ix ?h1 ?_); (case h1 => first | exact ixD_ref (by assumption) (by rfl) | rfl)
  | (with_reducible refine' v_len ?h1 ?_); (case h1 => first | exact lenD_ref (by assumption) | rfl)
  | (with_reducible refine' v_list ?h1 ?_); (case h1 => rfl)
  | (with_reducible refine' v_listR ?h1 ?_); (case h1 => rfl)
  | (with_reducible refine' v_tuple ?h1 ?_); (case h1 => rfl)
  | (with_reducible refine' v_isd ?h1 ?_); (case h1 => rfl)
  | (with_reducible refine' v_isiTy ?h1 ?h2 ?_); (case h1 => rfl); (case h2 => rfl)
  | (with_reducible refine' v_isiT ?h1 ?_); (case h1 => rfl))
local macro_rules | `(tactic| walk_at "dv2") => `(tactic| first
  | refine v_gsub (by rfl) (by rfl) (by assumption) (by rfl) (fun _ _ _ => ?_) | refine ⟨_, rfl, ?_⟩ | (with_reducible refine' ⟨rng_ok ?h1 ?h2, ?_⟩); (case h1 => omega); (case h2 => omega) | refine ⟨rfl, ?_⟩ | refine ⟨_, _, rfl, ?_⟩ | refine ⟨Nat.le_of_ble_eq_true rfl, ?_⟩)
local macro_rules | `(tactic| walk_at "dv3") => `(tactic| first
  | (with_reducible refine' v_dec (fun _ => ?_) (fun hn => absurd ?h hn)); (case h => first | assumption | omega | decide)
  | (with_reducible refine' v_dec (fun hn => absurd hn ?h) (fun _ => ?_)); (case h => first | assumption | omega | decide)
  | (with_reducible refine' v_ndec (fun _ => ?_) (fun hn => absurd hn ?h)); (case h => first | assumption | omega | decide)
  | (with_reducible refine' v_ndec (fun hn => absurd ?h hn) (fun _ => ?_)); (case h => first | assumption | omega | decide)
  | (with_reducible refine' v_bT ?h ?_); (case h => first | assumption | rfl)
  | (with_reducible refine' v_bF ?h ?_); (case h => first | assumption | rfl))
local macro_rules | `(tactic| walk_at "dv4") => `(tactic| with_reducible first
  | refine v_places ?_ | refine v_roads ?_ | refine v_over ?_ | refine v_line ?_ | refine v_spots ?_ | refine v_myards ?_ | refine v_mroads ?_ | refine v_mW (by decide +kernel) ?_ | refine v_mK (by decide +kernel) ?_
  | refine v_itX ?_ | refine v_ev ?_ | refine v_rev ?_ | refine v_zs ?_ | refine v_enum ?_ | refine v_enum2 ?_ | refine v_makeV ?_ | refine v_tryN ?_ | refine v_lc2 ?_ | refine v_fz ?_ | refine v_make ?_ | refine v_fldS ?_)
local macro_rules | `(tactic| walk_at "dv5") => `(tactic| first
  | refine ⟨_, _, rfl, rfl, ?_⟩ | refine ⟨⟨_, _, rfl⟩, ?_⟩ | refine ⟨⟨_, _, _, rfl⟩, ?_⟩ | refine ⟨_, _, _, rfl, ?_⟩ | refine Or.inl ⟨_, rfl, ?_⟩ | refine Or.inr ⟨_, (fun _ z => by cases z), rfl, ?_⟩)
local macro_rules | `(tactic| walk_at "dv") => `(tactic| repeat (first | walk_at "dv0" | walk_at "dv4" | walk_at "dv1" | walk_at "dv3" | walk_at "dv2" | walk_at "dv5"))
/-! ### a web stands as told -/
def shA (a b : Nat) : Str := (((("Web(" : Str) ++ toString (a : Int)) ++ (" yards, " : Str)) ++ toString (b : Int)) ++ (" passages)" : Str)
theorem shA_eq (a b : Nat) : shA a b = ((((("Web(" : Str) ++ toString (a : Int)) ++ (" yards, " : Str)) ++ toString (b : Int)) ++ (" passages)" : Str)) := rfl
theorem sh_all : ∀ a : Nat, a < 9 → ∀ b : Nat, b < 9 → (((((Str.empty ++ ("Web(" : Str)) ++ toString (a : Int)) ++ (" yards, " : Str)) ++ toString (b : Int)) ++ (" passages)" : Str) = shA a b ∧ PyData.strOk (shA a b) = true) ∧ (((((Str.empty ++ ("Web(" : Str)) ++ toString (a : Int)) ++ (" yards, " : Str)) ++ toString (b : Int)) ++ (" passages)" : Str)).length ≤ 100000 ∧ ((((Str.empty ++ ("Web(" : Str)) ++ toString (a : Int)) ++ (" yards, " : Str)) ++ toString (b : Int)).length ≤ 100000 ∧ (((Str.empty ++ ("Web(" : Str)) ++ toString (a : Int)) ++ (" yards, " : Str)).length ≤ 100000 ∧ ((Str.empty ++ ("Web(" : Str)) ++ toString (a : Int)).length ≤ 100000 := by decide +kernel
theorem sh_len : ∀ a : Nat, a < 9 → ∀ b : Nat, b < 9 → ("Web(" : Str).length + (Str.ofString (toString (a : Int))).length ≤ 100000 ∧ (("Web(" : Str) ++ toString (a : Int)).length + (" yards, " : Str).length ≤ 100000 ∧ ((("Web(" : Str) ++ toString (a : Int)) ++ (" yards, " : Str)).length + (Str.ofString (toString (b : Int))).length ≤ 100000 ∧ (((("Web(" : Str) ++ toString (a : Int)) ++ (" yards, " : Str)) ++ toString (b : Int)).length + (" passages)" : Str).length ≤ 100000 := by decide +kernel
section
variable {en : Dv.Env} {S : Store} {Q : Dt → Store → Prop} {X : Ex → Store → Prop}
theorem v_strI {i : Int} (h : i.natAbs.log2 < 1920) (q : Q (.str (toString i)) S) : Pe (mStr [.int i] S) Q X := v_ifok h q
theorem v_addS {a b : Str} (h : a.length + b.length ≤ 100000) (q : Q (.str (a ++ b)) S) : Pe (mAdd (.str a) (.str b) S) Q X := v_ifok h q
theorem v_jsN {acc : Str} (q : Q (.str acc) S) : Pe (mJs [] acc en S) Q X := q
theorem v_jsC {m : Dv.Env → Store → R Dt} {ms : List (Dv.Env → Store → R Dt)} {acc : Str} (h : Pe (m en S) (fun d S1 => ∃ y, d = .str y ∧ (acc ++ y).length ≤ 100000 ∧ Pe (mJs ms (acc ++ y) en S1) Q X) X) : Pe (mJs (m :: ms) acc en S) Q X := by
  refine Pe.bind (h.imp (fun d S1 ⟨y, e, hl, q⟩ => ?_) fun _ _ z => z)
  subst e
  dsimp only
  rw [if_pos hl]
  exact q
theorem v_fmtI {m : Dv.Env → Store → R Dt} (h : Pe (m en S) (fun d S1 => ∃ i : Int, d = .int i ∧ i.natAbs.log2 < 1920 ∧ Q (.str (toString i)) S1) X) : Pe (mFmt m en S) Q X := by
  refine Pe.bind (h.imp (fun d S1 ⟨y, e, hl, q⟩ => ?_) fun _ _ z => z)
  subst e
  dsimp only
  rw [if_pos hl]
  exact q
end
theorem log_small {n : Nat} (h : n < 9) : ((n : Int)).natAbs.log2 < 1920 := by
  have : ∀ k < 9, ((k : Nat) : Int).natAbs.log2 < 1920 := by decide +kernel
  exact this n h
section
variable {m : Mod} {S : Store}
theorem web_len_ok (ok : m.Ok) : m_Web_dlen [m.w] S = .ok (.int m.ys.length) S := by
  refine Pe.eq (v_fn ?_)
  unfold b_Web_dlen
  walk_at "dv"
  simp
theorem js_repr {en : Dv.Env} {me mf : Dv.Env → Store → R Dt} {p1 p2 p3 x y : Str} {a b : Int} {Q : Dt → Store → Prop} {X : Ex → Store → Prop} (he : me en S = .ok (.int a) S) (hf : mf en S = .ok (.int b) S) (la : a.natAbs.log2 < 1920) (lb : b.natAbs.log2 < 1920) (hx : Str.ofString (toString a) = x) (hy : Str.ofString (toString b) = y)
    (k0 : (Str.empty ++ p1).length ≤ 100000) (k1 : ((Str.empty ++ p1) ++ x).length ≤ 100000) (k2 : (((Str.empty ++ p1) ++ x) ++ p2).length ≤ 100000) (k3 : ((((Str.empty ++ p1) ++ x) ++ p2) ++ y).length ≤ 100000) (k4 : (((((Str.empty ++ p1) ++ x) ++ p2) ++ y) ++ p3).length ≤ 100000)
    (q : Q (.str (((((Str.empty ++ p1) ++ x) ++ p2) ++ y) ++ p3)) S) : Pe (mJs [mC (.str p1), mFmt me, mC (.str p2), mFmt mf, mC (.str p3)] Str.empty en S) Q X := by
  subst hx hy
  refine v_jsC (v_c ⟨_, rfl, k0, ?_⟩)
  refine v_jsC (v_fmtI (Pe.of he ⟨_, rfl, la, _, rfl, k1, ?_⟩))
  refine v_jsC (v_c ⟨_, rfl, k2, ?_⟩)
  refine v_jsC (v_fmtI (Pe.of hf ⟨_, rfl, lb, _, rfl, k3, ?_⟩))
  exact v_jsC (v_c ⟨_, rfl, k4, v_jsN q⟩)
theorem len_e {en : Dv.Env} (h : en[0]? = some (some m.w)) : mCB mLen (mCons (mFld ["Web"] "places" (mVar 0)) mNil) en S = .ok (.int m.ys.length) S ∧ mCB mLen (mCons (mFld ["Web"] "roads" (mVar 0)) mNil) en S = .ok (.int m.rs.length) S := by
  refine ⟨Pe.eq ?_, Pe.eq ?_⟩
  · walk_at "dv"
    refine v_var h ?_
    walk_at "dv"
    simp
  · walk_at "dv"
    refine v_var h ?_
    walk_at "dv"
    simp
theorem web_repr_ok (ok : m.Ok) : m_Web_drepr [m.w] S = .ok (.str (shA m.ys.length m.rs.length)) S := by
  have la : m.ys.length < 9 := by have := ok.ly; omega
  have lb : m.rs.length < 9 := by have := ok.lr; omega
  obtain ⟨⟨e, _⟩, k1, k2, k3, k4⟩ := sh_all _ la _ lb
  refine Pe.eq (v_fn ?_)
  unfold b_Web_drepr
  refine v_ret ?_
  refine js_repr (len_e rfl).1 (len_e rfl).2 (log_small la) (log_small lb) rfl rfl (by decide +kernel) k4 k3 k2 k1 ?_
  exact v_fin (.inr rfl) ⟨congrArg Dt.str e, rfl⟩
theorem webs_stand_ok (ok : m.Ok) (hp : PureS S) : m_law_webs_stand [m.w, m.d] S = .ok (.bl true) S := by
  refine Pe.eq (v_fn ?_)
  unfold b_law_webs_stand
  have fY : ∀ (en : Dv.Env), en[0]? = some (some m.w) → (mMeth "Web" "yards" 1 m_Web_yards (mVar 0) mNil) en S = .ok (.lst m.ysD) S := fun en h => yards_e hp h
  have fP : ∀ (en : Dv.Env), en[0]? = some (some m.w) → (mMeth "Web" "passages" 1 m_Web_passages (mVar 0) mNil) en S = .ok (.lst m.rsD) S := fun en h => passages_e hp h
  have fS : ∀ (en : Dv.Env) (y : Str), y ∈ m.ys → en[0]? = some (some m.w) → en[4]? = some (some (.str y)) → (mMeth "Web" "steps_from" 2 m_Web_steps_from (mVar 0) (mCons (mVar 4) mNil)) en S = .ok (.lst ((stepsOf y m.rs).map stD)) S := fun en y hy h h4 => steps_e ok hp hy h h4
  generalize (mMeth "Web" "yards" 1 m_Web_yards (mVar 0) mNil) = EY at fY ⊢
  generalize (mMeth "Web" "passages" 1 m_Web_passages (mVar 0) mNil) = EP at fP ⊢
  generalize (mMeth "Web" "steps_from" 2 m_Web_steps_from (mVar 0) (mCons (mVar 4) mNil)) = ES at fS ⊢
  walk_at "dv"
  refine Pe.of (fY _ rfl) ?_
  walk_at "dv"
  refine Pe.of (fP _ rfl) ?_
  walk_at "dv"
  refine v_same rfl ?_ ?_
  · refine (sok_list (by simp) fun d hd => ?_).1
    simp only [List.mem_cons, List.not_mem_nil, or_false] at hd
    rcases hd with rfl | rfl
    · exact (sok_strs (fun x hx => ok.sy x hx) (by have := ok.ly; omega) 17).1
    · refine (sok_list (by rw [List.length_map]; have := ok.lr; omega) fun d hd => ?_).1
      obtain ⟨r, hr, rfl⟩ := List.mem_map.mp hd
      have := ok.sr r hr
      simp [sok, this.1, this.2.1, this.2.2]
  walk_at "dv"
  have la : m.ys.length < 9 := by have := ok.ly; omega
  have lb : m.rs.length < 9 := by have := ok.lr; omega
  obtain ⟨l1, l2, l3, l4⟩ := sh_len _ la _ lb
  rw [List.length_map]
  refine v_strI (log_small la) ?_
  refine v_addS l1 ?_
  walk_at "dv"
  refine v_addS l2 ?_
  walk_at "dv"
  rw [List.length_map]
  refine v_strI (log_small lb) ?_
  refine v_addS l3 ?_
  walk_at "dv"
  refine v_addS l4 ?_
  rw [← shA_eq]
  have so : PyData.strOk (shA m.ys.length m.rs.length) = true := (sh_all _ la _ lb).1.2
  have wr := web_repr_ok (S := S) ok
  generalize shA m.ys.length m.rs.length = sh at so wr ⊢
  walk_at "dv"
  refine v_lenI (c := "Web") rfl ?_
  refine Pe.of (web_len_ok ok) ?_
  refine ⟨_, rfl, ⟨by omega, by omega⟩, ?_⟩
  walk_at "dv"
  refine v_reprI (c := "Web") rfl ?_
  refine Pe.of wr ?_
  refine ⟨_, rfl, ?_⟩
  walk_at "dv"
  refine v_boolI (c := "Web") rfl ?_
  refine Pe.of (web_len_ok ok) ?_
  refine ⟨_, rfl, ⟨by omega, by omega⟩, ?_⟩
  walk_at "dv"
  have ko : okD 12 (Dt.lst m.ysD) = true := all_map (p := okD 11) fun y hy => by simp [okD, ok.sy y hy]
  have eb : eqD (.lst m.ysD) (.lst []) = !((m.ys.length : Int) != 0) := by
    show eqDs (m.ys.map Dt.str) [] = _
    cases m.ys with
    | nil => rfl
    | cons a l =>
      have : (((a :: l).length : Int) != 0) = true := by
        rw [bne_iff_ne]
        simp
        omega
      rw [this]
      rfl
  refine v_neD (b := !((m.ys.length : Int) != 0)) ko rfl eb ?_
  rw [Bool.not_not]
  walk_at "dv"
  refine v_same (by rw [List.length_map]) ?_ ?_
  · refine (sok_list (by simp) fun d hd => ?_).1
    simp only [List.mem_cons, List.not_mem_nil, or_false] at hd
    rcases hd with rfl | rfl | rfl
    · rfl
    · exact so
    · rfl
  walk_at "dv"
  refine v_loop (fun ds en T => T = S ∧ ∃ (x4 x5 x6 x7 : Option Dt) (l : List Str), (∀ y ∈ l, y ∈ m.ys) ∧ ds = l.map Dt.str ∧ en = [some m.w, some m.d, some (.str sh), some (.lst [.int m.ys.length, .str sh, .bl ((m.ys.length : Int) != 0)]), x4, x5, x6, x7]) ⟨rfl, _, _, _, _, m.ys, fun _ h => h, rfl, rfl⟩ ?_ ?_
  · rintro d ds en T ⟨rfl, x4, x5, x6, x7, l, hl, e, rfl⟩
    cases l with
    | nil => cases e
    | cons y l =>
      obtain ⟨rfl, rfl⟩ := List.cons.inj e
      have hy := hl y List.mem_cons_self
      refine ⟨_, _, rfl, ?_⟩
      walk_at "dv"
      refine Pe.of (fS _ y hy rfl rfl) ?_
      walk_at "dv"
      refine Pe.of (law_steps_ok ok hp (ok.sy y hy)) ?_
      walk_at "dv"
      refine v_same rfl ?_ ?_
      · refine (sok_sts (fun s hs => ?_) ?_ 17).1
        · obtain ⟨r, hr, _⟩ := stepsOf_mem ok hs
          obtain ⟨h1, h2⟩ := road_in hr
          rw [← h2]
          exact (ok.sr r h1).1
        · have := stepsOf_len (y := y) m.rs
          have := ok.lr
          omega
      walk_at "dv"
      first | exact ⟨rfl, _, _, _, _, l, fun z hz => hl z (List.mem_cons_of_mem _ hz), rfl, rfl⟩ | exact ⟨_, _, _, _, l, fun z hz => hl z (List.mem_cons_of_mem _ hz), rfl, rfl⟩
  · rintro en T ⟨rfl, x4, x5, x6, x7, l, hl, e, rfl⟩
    walk_at "dv"
    refine v_loop (fun ds en T' => T' = T ∧ ∃ (x4 x5 x6 x7 : Option Dt) (l : List Road), (∀ y ∈ l, y ∈ m.rs) ∧ ds = l.map Road.d ∧ en = [some m.w, some m.d, some (.str sh), some (.lst [.int m.ys.length, .str sh, .bl ((m.ys.length : Int) != 0)]), x4, x5, x6, x7]) ⟨rfl, _, _, _, _, m.rs, fun _ h => h, rfl, rfl⟩ ?_ ?_
    · rintro d ds en T' ⟨rfl, x4, x5, x6, x7, l, hl, e, rfl⟩
      cases l with
      | nil => cases e
      | cons r l =>
        obtain ⟨rfl, rfl⟩ := List.cons.inj e
        have hr := hl r List.mem_cons_self
        have one : ∀ (w : Int), (w = 1 ∨ w = -1) → sok 20 (.lst [.tup [.str (r.ends w).1, .str (r.ends w).2], .tup [.int (r.rule w).1, .int (r.rule w).2]]) = true := by
          intro w hw
          have en := ends_in ok (road_of ok hr) w
          simp [sok, ok.sy _ en.1, ok.sy _ en.2]
        refine ⟨_, _, rfl, ?_⟩
        walk_at "dv"
        refine v_loop1 ⟨_, _, rfl, ?_⟩
        walk_at "dv"
        refine Pe.of (web_ends_ok ok (s := (r.n, 1)) (road_of ok hr) (.inl rfl)) ?_
        walk_at "dv"
        refine Pe.of (web_rule_ok ok (s := (r.n, 1)) (road_of ok hr) (.inl rfl)) ?_
        walk_at "dv"
        refine Pe.of (law_ends_ok ok (s := (r.n, 1)) (road_of ok hr)) ?_
        walk_at "dv"
        refine Pe.of (law_rule_ok ok (s := (r.n, 1)) (road_of ok hr)) ?_
        walk_at "dv"
        refine v_same rfl (one 1 (.inl rfl)) ?_
        walk_at "dv"
        refine v_loop1 ⟨_, _, rfl, ?_⟩
        walk_at "dv"
        refine Pe.of (web_ends_ok ok (s := (r.n, -1)) (road_of ok hr) (.inr rfl)) ?_
        walk_at "dv"
        refine Pe.of (web_rule_ok ok (s := (r.n, -1)) (road_of ok hr) (.inr rfl)) ?_
        walk_at "dv"
        refine Pe.of (law_ends_ok ok (s := (r.n, -1)) (road_of ok hr)) ?_
        walk_at "dv"
        refine Pe.of (law_rule_ok ok (s := (r.n, -1)) (road_of ok hr)) ?_
        walk_at "dv"
        refine v_same rfl (one (-1) (.inr rfl)) ?_
        walk_at "dv"
        first | exact ⟨rfl, _, _, _, _, l, fun z hz => hl z (List.mem_cons_of_mem _ hz), rfl, rfl⟩ | exact ⟨_, _, _, _, l, fun z hz => hl z (List.mem_cons_of_mem _ hz), rfl, rfl⟩
    · rintro en T' ⟨rfl, x4, x5, x6, x7, l, hl, e, rfl⟩
      walk_at "dv"
      first | rfl | exact ⟨rfl, rfl⟩
end
end Lw
set_option Elab.async false
set_option linter.all false
set_option maxRecDepth 100000
set_option maxHeartbeats 4000000
set_option autoImplicit false
noncomputable section
namespace Lw
open PySem Dv
/-! steps of our own words -/
local macro_rules | `(tactic| walk_at "num") => `(tactic| first | assumption | decide | omega)
local macro_rules | `(tactic| walk_at "dv0") => `(tactic| with_reducible first
  | refine v_seq ?_ | refine v_ifS ?_ | refine v_set ?_ | refine v_ret ?_ | refine v_asg ?_ | refine v_par ?_ | refine v_drop ?_ | refine v_nx ?_ | refine v_bk ?_ | refine v_ct ?_ | refine v_retN ?_ | refine v_for ?_
  | refine v_c ?_ | refine v_nil ?_ | refine v_cons ?_ | refine v_op ?_ | refine v_B ?_ | refine v_truth ?_ | refine v_andT ?_ | refine v_orT ?_ | refine v_notT ?_
  | refine v_andV ?_ | refine v_orV ?_ | refine v_notV ?_ | refine v_if ?_ | refine v_neg ?_ | refine v_chain ?_ | refine v_tup ?_ | refine v_lst ?_ | refine v_lstR ?_ | refine v_noPart ?_ | refine v_part ?_ | refine v_sl ?_
  | refine v_CB ?_ | refine v_call ?_ | refine v_abs ?_ | refine v_lc ?_ | refine v_yes ?_ | refine v_it ?_ | refine v_rng1 ?_ | refine v_rng2 ?_ | refine v_rng3 ?_ | refine v_T ?_ | refine v_F ?_
  | refine v_add ?_ | refine v_sub ?_ | refine v_iadd ?_ | refine v_lt ?_ | refine v_le ?_ | refine v_gt ?_ | refine v_ge ?_ | refine v_eqI ?_ | refine v_neI ?_ | refine v_eqB ?_ | refine v_neB ?_)
local macro_rules | `(tactic| walk_at "dv1") => `(tactic| first
  | (with_reducible refine' v_var ?h ?_); (case h => rfl)
  | (with_reducible refine' v_aug ?h ?_); (case h => rfl)
  | (with_reducible refine' v_div ?h1 ?h2 ?_); (case h1 => walk_at "num"); (case h2 => walk_at "num")
  | (with_reducible refine' v_mod ?h1 ?_); (case h1 => walk_at "num")
  | (with_reducible refine' v_pow ?h1 ?_); (case h1 => walk_at "num")
  | (with_reducible refine' v_mulR ?h1 ?_); (case h1 => walk_at "num")
  | (with_reducible refine' v_mulL ?h1 ?_); (case h1 => walk_at "num")
  | (with_reducible refine' v_fin ?h1 ?_); (case h1 => first | exact Or.inl rfl | exact Or.inr rfl | (refine Or.inr ?_; simp only [List.length_set, *]; done))
  | (with_reducible refine' v_ix ?h1 ?_); (case h1 => first | exact ixD_ref (by assumption) (by rfl) | rfl)
  | (with_reducible refine' v_len ?h1 ?_); (case h1 => first | exact lenD_ref (by assumption) | rfl)
  | (with_reducible refine' v_list ?h1 ?_); (case h1 => rfl)
  | (with_reducible refine' v_listR ?h1 ?_); (case h1 => rfl)
  | (with_reducible refine' v_tuple ?h1 ?_); (case h1 => rfl)
  | (with_reducible refine' v_isd ?h1 ?_); (case h1 => rfl)
  | (with_reducible refine' v_isiTy ?h1 ?h2 ?_); (case h1 => rfl); (case h2 => rfl)
  | (with_reducible refine' v_isiT ?h1 ?_); (case h1 => rfl))
local macro_rules | `(tactic| walk_at "dv2") => `(tactic| first
  | refine v_gsub (by rfl) (by rfl) (by assumption) (by rfl) (fun _ _ _ => ?_) | refine ⟨_, rfl, ?_⟩ | (with_reducible refine' ⟨rng_ok ?h1 ?h2, ?_⟩); (case h1 => omega); (case h2 => omega) | refine ⟨rfl, ?_⟩ | refine ⟨_, _, rfl, ?_⟩ | refine ⟨Nat.le_of_ble_eq_true rfl, ?_⟩)
local macro_rules | `(tactic| walk_at "dv3") => `(tactic| first
  | (with_reducible refine' v_dec (fun _ => ?_) (fun hn => absurd ?h hn)); (case h => first | assumption | omega | decide)
  | (with_reducible refine' v_dec (fun hn => absurd hn ?h) (fun _ => ?_)); (case h => first | assumption | omega | decide)
  | (with_reducible refine' v_ndec (fun _ => ?_) (fun hn => absurd hn ?h)); (case h => first | assumption | omega | decide)
  | (with_reducible refine' v_ndec (fun hn => absurd ?h hn) (fun _ => ?_)); (case h => first | assumption | omega | decide)
  | (with_reducible refine' v_bT ?h ?_); (case h => first | assumption | rfl)
  | (with_reducible refine' v_bF ?h ?_); (case h => first | assumption | rfl))
local macro_rules | `(tactic| walk_at "dv4") => `(tactic| with_reducible first
  | refine v_places ?_ | refine v_roads ?_ | refine v_over ?_ | refine v_line ?_ | refine v_spots ?_ | refine v_myards ?_ | refine v_mroads ?_ | refine v_mW (by decide +kernel) ?_ | refine v_mK (by decide +kernel) ?_
  | refine v_itX ?_ | refine v_ev ?_ | refine v_rev ?_ | refine v_zs ?_ | refine v_enum ?_ | refine v_enum2 ?_ | refine v_makeV ?_ | refine v_tryN ?_ | refine v_lc2 ?_ | refine v_fz ?_ | refine v_make ?_ | refine v_fldS ?_)
local macro_rules | `(tactic| walk_at "dv5") => `(tactic| first
  | refine ⟨_, _, rfl, rfl, ?_⟩ | refine ⟨⟨_, _, rfl⟩, ?_⟩ | refine ⟨⟨_, _, _, rfl⟩, ?_⟩ | refine ⟨_, _, _, rfl, ?_⟩ | refine Or.inl ⟨_, rfl, ?_⟩ | refine Or.inr ⟨_, (fun _ z => by cases z), rfl, ?_⟩)
local macro_rules | `(tactic| walk_at "dv") => `(tactic| repeat (first | walk_at "dv0" | walk_at "dv4" | walk_at "dv1" | walk_at "dv3" | walk_at "dv2" | walk_at "dv5"))
/-! a web's refusals -/
abbrev exFull : Ex := ⟨"Full", ["many", "word"], [.int 99, .str "full"]⟩
theorem Pe.er {r : R Dt} {x : Ex} {S : Store} {Q : Dt → Store → Prop} {X : Ex → Store → Prop} (e : r = .err x S) (h : X x S) : Pe r Q X := by
  rw [e]
  exact h
theorem Pe.eqE {r : R Dt} {x : Ex} {S : Store} (h : Pe r (fun _ _ => False) (fun y T => y = x ∧ T = S)) : r = .err x S := by
  cases e : r with
  | ok d T => rw [e] at h; exact h.elim
  | stuck => rw [e] at h; exact h.elim
  | err y T =>
    rw [e] at h
    obtain ⟨rfl, rfl⟩ := h
    rfl
theorem v_raise1 {c : String} {wd f : Str} {me : Dv.Env → Store → R Dt} {en : Dv.Env} {S : Store} {QS : Fl → Dv.Env → Store → Prop} {XS : Ex → Dv.Env → Store → Prop} (h : Pe (me en S) (fun d S1 => XS ⟨c, [f, "word"], [d, .str wd]⟩ en S1) (fun x S1 => XS x en S1)) : Ps (mRaise1 c wd f me en S) QS XS := Pe.toS h
theorem v_finX {keep : Bool} {n : Nat} {x : Ex} {S : Store} {Q : Dt → Store → Prop} {X : Ex → Store → Prop} (hc : keep = true ∨ S.length = n) (q : X x S) : Pe (finX keep n x S) Q X := by
  unfold finX
  rw [if_pos hc]
  exact q
section
variable {S : Store}
theorem is_not_ok {i lo hi : Int} (h : ¬ (lo ≤ i ∧ i ≤ hi)) : m_is_whole [.int i, .int lo, .int hi] S = .ok (.bl false) S := by
  refine Pe.eq (v_fn ?_)
  unfold b_is_whole
  walk_at "dv"
  refine v_dec (fun h1 => ?_) (fun h1 => ?_)
  · have h2 : ¬ i ≤ hi := fun z => h ⟨h1, z⟩
    walk_at "dv"
    rw [decide_eq_false h2]
    first | exact ⟨rfl, rfl⟩ | exact rfl
  · walk_at "dv"
    first | exact ⟨rfl, rfl⟩ | exact rfl
end
theorem v_addLL {xs ys : List Dt} {S : Store} {Q : Dt → Store → Prop} {X : Ex → Store → Prop} (hl : xs.length + ys.length ≤ 1000000) (q : Q (.lst (xs ++ ys)) S) : Pe (mAdd (.lst xs) (.lst ys) S) Q X := v_ifok hl q
theorem getS_yards {en : Dv.Env} {S : Store} {a b : Dt} {i : Nat} (h : en[i]? = some (some (modV a b))) : mGetS "yards" (mVar i) en S = .ok a S := by
  have e : mVar i en S = .ok (modV a b) S := by
    unfold mVar
    rw [h]
  unfold mGetS
  rw [e]
  show (match lookK mF [a, b] (.inr "yards") with
    | some d => R.ok d S
    | none => .stuck) = _
  rw [m_yards]
theorem getS_roads {en : Dv.Env} {S : Store} {a b : Dt} {i : Nat} (h : en[i]? = some (some (modV a b))) : mGetS "roads" (mVar i) en S = .ok b S := by
  have e : mVar i en S = .ok (modV a b) S := by
    unfold mVar
    rw [h]
  unfold mGetS
  rw [e]
  show (match lookK mF [a, b] (.inr "roads") with
    | some d => R.ok d S
    | none => .stuck) = _
  rw [m_roads]
end Lw
set_option Elab.async false
set_option linter.all false
set_option maxRecDepth 100000
set_option maxHeartbeats 4000000
set_option autoImplicit false
noncomputable section
namespace Lw
open PySem Dv
/-! steps of our own words -/
local macro_rules | `(tactic| walk_at "num") => `(tactic| first | assumption | decide | omega)
local macro_rules | `(tactic| walk_at "dv0") => `(tactic| with_reducible first
  | refine v_seq ?_ | refine v_ifS ?_ | refine v_set ?_ | refine v_ret ?_ | refine v_asg ?_ | refine v_par ?_ | refine v_drop ?_ | refine v_nx ?_ | refine v_bk ?_ | refine v_ct ?_ | refine v_retN ?_ | refine v_for ?_
  | refine v_c ?_ | refine v_nil ?_ | refine v_cons ?_ | refine v_op ?_ | refine v_B ?_ | refine v_truth ?_ | refine v_andT ?_ | refine v_orT ?_ | refine v_notT ?_
  | refine v_andV ?_ | refine v_orV ?_ | refine v_notV ?_ | refine v_if ?_ | refine v_neg ?_ | refine v_chain ?_ | refine v_tup ?_ | refine v_lst ?_ | refine v_lstR ?_ | refine v_noPart ?_ | refine v_part ?_ | refine v_sl ?_
  | refine v_CB ?_ | refine v_call ?_ | refine v_abs ?_ | refine v_lc ?_ | refine v_yes ?_ | refine v_it ?_ | refine v_rng1 ?_ | refine v_rng2 ?_ | refine v_rng3 ?_ | refine v_T ?_ | refine v_F ?_
  | refine v_add ?_ | refine v_sub ?_ | refine v_iadd ?_ | refine v_lt ?_ | refine v_le ?_ | refine v_gt ?_ | refine v_ge ?_ | refine v_eqI ?_ | refine v_neI ?_ | refine v_eqB ?_ | refine v_neB ?_)
local macro_rules | `(tactic| walk_at "dv1") => `(tactic| first
  | (with_reducible refine' v_var ?h ?_); (case h => rfl)
  | (with_reducible refine' v_aug ?h ?_); (case h => rfl)
  | (with_reducible refine' v_div ?h1 ?h2 ?_); (case h1 => walk_at "num"); (case h2 => walk_at "num")
  | (with_reducible refine' v_mod ?h1 ?_); (case h1 => walk_at "num")
  | (with_reducible refine' v_pow ?h1 ?_); (case h1 => walk_at "num")
  | (with_reducible refine' v_mulR ?h1 ?_); (case h1 => walk_at "num")
  | (with_reducible refine' v_mulL ?h1 ?_); (case h1 => walk_at "num")
  | (with_reducible refine' v_fin ?h1 ?_); (case h1 => first | exact Or.inl rfl | exact Or.inr rfl | (refine Or.inr ?_; simp only [List.length_set, *]; done))
  | (with_reducible refine' v_ix ?h1 ?_); (case h1 => first | exact ixD_ref (by assumption) (by rfl) | rfl)
  | (with_reducible refine' v_len ?h1 ?_); (case h1 => first | exact lenD_ref (by assumption) | rfl)
  | (with_reducible refine' v_list ?h1 ?_); (case h1 => rfl)
  | (with_reducible refine' v_listR ?h1 ?_); (case h1 => rfl)
  | (with_reducible refine' v_tuple ?h1 ?_); (case h1 => rfl)
  | (with_reducible refine' v_isd ?h1 ?_); (case h1 => rfl)
  | (with_reducible refine' v_isiTy ?h1 ?h2 ?_); (case h1 => rfl); (case h2 => rfl)
  | (with_reducible refine' v_isiT ?h1 ?_); (case h1 => rfl))
local macro_rules | `(tactic| walk_at "dv2") => `(tactic| first
  | refine v_gsub (by rfl) (by rfl) (by assumption) (by rfl) (fun _ _ _ => ?_) | refine ⟨_, rfl, ?_⟩ | (with_reducible refine' ⟨rng_ok ?h1 ?h2, ?_⟩); (case h1 => omega); (case h2 => omega) | refine ⟨rfl, ?_⟩ | refine ⟨_, _, rfl, ?_⟩ | refine ⟨Nat.le_of_ble_eq_true rfl, ?_⟩)
local macro_rules | `(tactic| walk_at "dv3") => `(tactic| first
  | (with_reducible refine' v_dec (fun _ => ?_) (fun hn => absurd ?h hn)); (case h => first | assumption | omega | decide)
  | (with_reducible refine' v_dec (fun hn => absurd hn ?h) (fun _ => ?_)); (case h => first | assumption | omega | decide)
  | (with_reducible refine' v_ndec (fun _ => ?_) (fun hn => absurd hn ?h)); (case h => first | assumption | omega | decide)
  | (with_reducible refine' v_ndec (fun hn => absurd ?h hn) (fun _ => ?_)); (case h => first | assumption | omega | decide)
  | (with_reducible refine' v_bT ?h ?_); (case h => first | assumption | rfl)
  | (with_reducible refine' v_bF ?h ?_); (case h => first | assumption | rfl))
local macro_rules | `(tactic| walk_at "dv4") => `(tactic| with_reducible first
  | refine v_places ?_ | refine v_roads ?_ | refine v_over ?_ | refine v_line ?_ | refine v_spots ?_ | refine v_myards ?_ | refine v_mroads ?_ | refine v_mW (by decide +kernel) ?_ | refine v_mK (by decide +kernel) ?_
  | refine v_itX ?_ | refine v_ev ?_ | refine v_rev ?_ | refine v_zs ?_ | refine v_enum ?_ | refine v_enum2 ?_ | refine v_makeV ?_ | refine v_tryN ?_ | refine v_lc2 ?_ | refine v_fz ?_ | refine v_make ?_ | refine v_fldS ?_)
local macro_rules | `(tactic| walk_at "dv5") => `(tactic| first
  | refine ⟨_, _, rfl, rfl, ?_⟩ | refine ⟨⟨_, _, rfl⟩, ?_⟩ | refine ⟨⟨_, _, _, rfl⟩, ?_⟩ | refine ⟨_, _, _, rfl, ?_⟩ | refine Or.inl ⟨_, rfl, ?_⟩ | refine Or.inr ⟨_, (fun _ z => by cases z), rfl, ?_⟩)
local macro_rules | `(tactic| walk_at "dv") => `(tactic| repeat (first | walk_at "dv0" | walk_at "dv4" | walk_at "dv1" | walk_at "dv3" | walk_at "dv2" | walk_at "dv5"))
/-! ### what is due of a new name, a new passage -/
abbrev exBad (n : Str) : Ex := ⟨"BadName", ["name", "word"], [.str n, .str "badname"]⟩
abbrev exTak (n : Str) : Ex := ⟨"Taken", ["name", "word"], [.str n, .str "taken"]⟩
abbrev exNoy (n : Str) : Ex := ⟨"NoYard", ["name", "word"], [.str n, .str "noyard"]⟩
abbrev exTur (n : Int) : Ex := ⟨"BadTurns", ["number", "word"], [.int n, .str "badturns"]⟩
abbrev exFul (n : Int) : Ex := ⟨"Full", ["many", "word"], [.int n, .str "full"]⟩
/-- a refusal with the tag that is due -/
inductive Due where
  | bad (n : Str) | tak (n : Str) | noy (n : Str) | tur (n : Int) | ful (n : Int)
def Due.x : Due → Ex
  | .bad n => exBad n
  | .tak n => exTak n
  | .noy n => exNoy n
  | .tur n => exTur n
  | .ful n => exFul n
def Due.t : Due → Dt
  | .bad n => .tup [.str "badname", .str n]
  | .tak n => .tup [.str "taken", .str n]
  | .noy n => .tup [.str "noyard", .str n]
  | .tur n => .tup [.str "badturns", .int n]
  | .ful n => .tup [.str "full", .int n]
def Due.st : Due → Bool
  | .bad n => PyData.strOk n
  | .tak n => PyData.strOk n
  | .noy n => PyData.strOk n
  | _ => true
def dueV : Option Due → Dt
  | none => .non
  | some d => d.t
def newDue (m : Mod) (n : Str) : Option Due := if nameOk n = true then (if n ∈ m.ys ++ m.rs.map Road.n then some (.tak n) else none) else some (.bad n)
def turDue (i : Int) : Option Due := if i ≠ 0 ∧ i.natAbs ≤ 99 then none else some (.tur i)
def yarDue (m : Mod) (y : Str) : Option Due := if y ∈ m.ys then none else some (.noy y)
def yardDue (m : Mod) (n : Str) : Option Due := (newDue m n).or (if 5 < m.ys.length then some (.ful 6) else none)
def roadDue (m : Mod) (r : Road) : Option Due := (newDue m r.n).or ((yarDue m r.b).or ((yarDue m r.e).or ((turDue r.h).or ((turDue r.t).or (if 7 < m.rs.length then some (.ful 8) else none)))))
def sgn1 : Dt → Option Dt
  | .str s => some (.bl (match s.cps.toList with | [c] => decide (c ∈ letters.cps.toList) | _ => false))
  | _ => none
theorem sgn_map : ∀ l : List Nat, (l.map fun c => Dt.str ⟨#[c]⟩).filterMap sgn1 = l.map fun c => Dt.bl (decide (c ∈ letters.cps.toList))
  | [] => rfl
  | c :: l => by
    rw [List.map_cons, List.filterMap_cons, sgn_map l]
    rfl
theorem bools_map {α : Type} (f : α → Bool) : ∀ l : List α, bools (l.map fun c => Dt.bl (f c)) = some (l.map f)
  | [] => rfl
  | c :: l => by
    rw [List.map_cons, List.map_cons]
    show (bools (l.map fun c => Dt.bl (f c))).map (f c :: ·) = _
    rw [bools_map f l]
    rfl
theorem names_map : ∀ l : List Road, (l.map Road.d).filterMap (fun d => match d with | .tup (x :: _) => some x | _ => none) = (l.map Road.n).map Dt.str
  | [] => rfl
  | r :: l => by
    rw [List.map_cons, List.filterMap_cons, names_map l]
    rfl
section
variable {m : Mod} {S : Store}
theorem is_name_val {s : Str} (hl : s.length ≤ 100000) : m_is_name [.str s] S = .ok (.bl (nameOk s)) S := by
  refine Pe.eq (v_fn ?_)
  unfold b_is_name
  walk_at "dv"
  refine v_len (n := s.length) (if_pos hl) ?_
  refine v_le ?_
  refine ⟨_, rfl, ?_⟩
  unfold nameOk
  refine v_dec (fun h1 => ?_) (fun h1 => ?_)
  · refine v_c (v_le ?_)
    refine ⟨_, rfl, ?_⟩
    refine v_dec (fun h2 => ?_) (fun h2 => ?_)
    · walk_at "dv"
      refine v_cloop sgn1 (fun d hd => ?_) ?_ ?_
      · obtain ⟨c, hc, rfl⟩ := List.mem_map.mp hd
        refine ⟨_, rfl, v_yes ⟨rfl, v_T ?_⟩⟩
        walk_at "dv"
        first | exact ⟨rfl, rfl⟩ | exact rfl
      · unfold strs1
        rw [List.length_map, len_cps, List.length_nil]
        omega
      · rw [List.nil_append, strs1, sgn_map]
        walk_at "dv"
        unfold mAll
        simp only [asL, Option.bind_some, bools_map]
        refine v_ok ?_
        walk_at "dv"
        rw [decide_eq_true (show 1 ≤ s.length by omega), decide_eq_true (show s.length ≤ 8 by omega), List.all_map]
        first | exact ⟨rfl, rfl⟩ | exact rfl
    · walk_at "dv"
      rw [decide_eq_false (show ¬ s.length ≤ 8 by omega), Bool.and_false, Bool.false_and, decide_eq_false h2]
      first | exact ⟨rfl, rfl⟩ | exact rfl
  · walk_at "dv"
    rw [decide_eq_false (show ¬ 1 ≤ s.length by omega), Bool.false_and, Bool.false_and]
    first | exact ⟨rfl, rfl⟩ | exact rfl
def resD (o : Option Due) (S : Store) : R Dt := match o with
  | none => .ok .non S
  | some d => .err d.x S
theorem need_new_val (hl : m.rs.length ≤ 100) {n : Str} (hn : n.length ≤ 1000) : m_Web_need_new [m.w, .str n] S = resD (newDue m n) S := by
  have ro : ∀ {c : String} {wd : Str} {en : Dv.Env} {QS : Fl → Dv.Env → Store → Prop} {XS : Ex → Dv.Env → Store → Prop}, en[1]? = some (some (.str n)) → XS ⟨c, ["name", "word"], [.str n, .str wd]⟩ en S → Ps (mRaise1 c wd "name" (mVar 1) en S) QS XS := fun h q => v_raise1 (v_var h q)
  unfold newDue
  by_cases h0 : nameOk n = true
  · rw [if_pos h0]
    by_cases h1 : n ∈ m.ys
    · rw [if_pos (List.mem_append_left _ h1)]
      refine Pe.eqE (v_fn ?_)
      unfold b_Web_need_new
      walk_at "dv"
      refine Pe.of (is_name_val (by omega)) ?_
      rw [h0]
      walk_at "dv"
      refine v_inS (l := m.ys) (fun s z => by cases z) rfl ?_
      refine ⟨_, rfl, ?_⟩
      refine v_bT (by rw [decide_eq_true h1]; rfl) ?_
      refine v_bT rfl (ro rfl ?_)
      exact v_finX (.inr rfl) ⟨rfl, rfl⟩
    · have lp : ∀ {en : Dv.Env} {Q : List Dt → Store → Prop} {X : Ex → Store → Prop}, en.length = 3 → Q ((m.rs.map Road.n).map Dt.str) S → Pe (cLoop (wNm 2) mYes (mOp mIx (mVar 2) (mC (.int 0))) en m.rsD [] S) Q X := by
        intro en Q X he q
        match en, he with
        | [a, b, c], _ =>
          refine v_cloop (fun d => match d with | .tup (x :: _) => some x | _ => none) (fun d hd => ?_) ?_ ?_
          · obtain ⟨r, hr, rfl⟩ := List.mem_map.mp hd
            refine ⟨_, rfl, v_yes ⟨rfl, v_T ?_⟩⟩
            walk_at "dv"
            first | exact ⟨rfl, rfl⟩ | exact rfl
          · simp
            omega
          · rw [List.nil_append, names_map]
            exact q
      by_cases h2 : n ∈ m.rs.map Road.n
      · rw [if_pos (List.mem_append_right _ h2)]
        refine Pe.eqE (v_fn ?_)
        unfold b_Web_need_new
        walk_at "dv"
        refine Pe.of (is_name_val (by omega)) ?_
        rw [h0]
        walk_at "dv"
        refine v_inS (l := m.ys) (fun s z => by cases z) rfl ?_
        refine ⟨_, rfl, ?_⟩
        refine v_bF (by rw [decide_eq_false h1]; rfl) ?_
        walk_at "dv"
        refine lp rfl ?_
        refine v_inS (l := m.rs.map Road.n) (fun s z => by cases z) rfl ?_
        refine ⟨_, rfl, ?_⟩
        refine v_bT (by rw [decide_eq_true h2]; rfl) (ro rfl ?_)
        exact v_finX (.inr rfl) ⟨rfl, rfl⟩
      · rw [if_neg (fun z => (List.mem_append.mp z).elim h1 h2)]
        exact need_new_ok hl h0 h1 h2
  · rw [if_neg h0]
    refine Pe.eqE (v_fn ?_)
    unfold b_Web_need_new
    walk_at "dv"
    refine Pe.of (is_name_val (by omega)) ?_
    rw [Bool.eq_false_iff.mpr h0]
    walk_at "dv"
    refine ro rfl ?_
    exact v_finX (.inr rfl) ⟨rfl, rfl⟩
theorem law_new_due_val (hl : m.rs.length ≤ 100) (hy : m.ys.length ≤ 100) {n : Str} (hn : n.length ≤ 1000) : m_law_new_due [m.d, .str n] S = .ok (dueV (newDue m n)) S := by
  refine Pe.eq (v_fn ?_)
  unfold b_law_new_due
  have tail : ∀ {en : Dv.Env}, nameOk n = true → en = [some m.d, some (.str n), none, none] → Ps (mRet (mIf (mB (mOp (mIn false) (mVar 1) (mOp mAdd (mGetS "yards" (mVar 0)) (mLc [3] (mIt (mGetS "roads" (mVar 0))) (wNm 3) mYes (mOp mIx (mVar 3) (mC (.int 0))))))) (mTup (mCons (mC (.str "taken")) (mCons (mVar 1) mNil))) (mC .non)) en S)
      (fun f _ S' => match f with
        | .rt d => Pe (fin false S.length d S') (fun a T => a = dueV (newDue m n) ∧ T = S) X0
        | .nx => Pe (fin false S.length .non S') (fun a T => a = dueV (newDue m n) ∧ T = S) X0
        | _ => False) (fun x _ S' => Pe (finX false S.length x S') (fun a T => a = dueV (newDue m n) ∧ T = S) X0) := by
    intro en h0 he
    subst he
    refine v_ret (v_if (v_B (v_op (v_var rfl (v_op ?_)))))
    walk_at "dv"
    refine v_cloop (fun d => match d with | .tup (x :: _) => some x | _ => none) (fun d hd => ?_) ?_ ?_
    · obtain ⟨r, hr, rfl⟩ := List.mem_map.mp hd
      refine ⟨_, rfl, v_yes ⟨rfl, v_T ?_⟩⟩
      walk_at "dv"
      first | exact ⟨rfl, rfl⟩ | exact rfl
    · simp
      omega
    · rw [List.nil_append, names_map]
      refine v_addLL (by simp; omega) ?_
      rw [← List.map_append]
      refine v_inS (l := m.ys ++ m.rs.map Road.n) (fun s z => by cases z) rfl ?_
      refine ⟨_, rfl, ?_⟩
      refine v_bool (fun hc => ?_) (fun hc => ?_)
      · have hc : n ∈ m.ys ++ m.rs.map Road.n := of_decide_eq_true hc
        walk_at "dv"
        unfold newDue
        rw [if_pos h0, if_pos hc]
        first | exact ⟨rfl, rfl⟩ | exact rfl
      · have hc : ¬ n ∈ m.ys ++ m.rs.map Road.n := of_decide_eq_false hc
        walk_at "dv"
        unfold newDue
        rw [if_pos h0, if_neg hc]
        first | exact ⟨rfl, rfl⟩ | exact rfl
  generalize (mRet (mIf (mB (mOp (mIn false) (mVar 1) (mOp mAdd (mGetS "yards" (mVar 0)) (mLc [3] (mIt (mGetS "roads" (mVar 0))) (wNm 3) mYes (mOp mIx (mVar 3) (mC (.int 0))))))) (mTup (mCons (mC (.str "taken")) (mCons (mVar 1) mNil))) (mC .non))) = R1 at tail ⊢
  have bad : ¬ nameOk n = true → (.tup [.str "badname", .str n] : Dt) = dueV (newDue m n) ∧ S = S := by
    intro h
    refine ⟨?_, rfl⟩
    unfold newDue
    rw [if_neg h]
    rfl
  walk_at "dv"
  refine v_len (n := n.length) (if_pos (by omega)) ?_
  refine v_le ?_
  refine ⟨_, rfl, ?_⟩
  have nl : nameOk n = true → 1 ≤ n.length ∧ n.length ≤ 8 := fun h => by
    unfold nameOk at h
    rw [Bool.and_eq_true, Bool.and_eq_true] at h
    exact ⟨of_decide_eq_true h.1.1, of_decide_eq_true h.1.2⟩
  refine v_dec (fun h1 => ?_) (fun h1 => ?_)
  · refine v_c (v_le ?_)
    refine ⟨_, rfl, ?_⟩
    refine v_ndec (fun h2 => ?_) (fun h2 => ?_)
    · walk_at "dv"
      exact bad (fun z => h2 (by have := nl z; omega))
    · walk_at "dv"
      refine v_itS ?_
      walk_at "dv"
      refine v_cloop sgn1 (fun d hd => ?_) ?_ ?_
      · obtain ⟨c, hc, rfl⟩ := List.mem_map.mp hd
        refine ⟨_, rfl, v_yes ⟨rfl, v_T ?_⟩⟩
        walk_at "dv"
        first | exact ⟨rfl, rfl⟩ | exact rfl
      · unfold strs1
        rw [List.length_map, len_cps, List.length_nil]
        omega
      · rw [List.nil_append, strs1, sgn_map]
        walk_at "dv"
        unfold mAll
        simp only [asL, Option.bind_some, bools_map]
        refine v_ok ?_
        have key : nameOk n = ((n.cps.toList.map fun c => decide (c ∈ letters.cps.toList)).all fun b => b) := by
          unfold nameOk
          rw [decide_eq_true (show 1 ≤ n.length by omega), decide_eq_true (show n.length ≤ 8 by omega), List.all_map]
          rfl
        rw [← key]
        refine ⟨_, rfl, ?_⟩
        by_cases h0 : nameOk n = true
        · rw [h0]
          refine v_bF rfl (v_nx (tail h0 rfl))
        · rw [Bool.eq_false_iff.mpr h0]
          walk_at "dv"
          exact bad h0
  · walk_at "dv"
    exact bad (fun z => h1 (by have := nl z; omega))
end
end Lw
set_option Elab.async false
set_option linter.all false
set_option maxRecDepth 100000
set_option maxHeartbeats 4000000
set_option autoImplicit false
noncomputable section
namespace Lw
open PySem Dv
/-! steps of our own words -/
local macro_rules | `(tactic| walk_at "num") => `(tactic| first | assumption | decide | omega)
local macro_rules | `(tactic| walk_at "dv0") => `(tactic| with_reducible first
  | refine v_seq ?_ | refine v_ifS ?_ | refine v_set ?_ | refine v_ret ?_ | refine v_asg ?_ | refine v_par ?_ | refine v_drop ?_ | refine v_nx ?_ | refine v_bk ?_ | refine v_ct ?_ | refine v_retN ?_ | refine v_for ?_
  | refine v_c ?_ | refine v_nil ?_ | refine v_cons ?_ | refine v_op ?_ | refine v_B ?_ | refine v_truth ?_ | refine v_andT ?_ | refine v_orT ?_ | refine v_notT ?_
  | refine v_andV ?_ | refine v_orV ?_ | refine v_notV ?_ | refine v_if ?_ | refine v_neg ?_ | refine v_chain ?_ | refine v_tup ?_ | refine v_lst ?_ | refine v_lstR ?_ | refine v_noPart ?_ | refine v_part ?_ | refine v_sl ?_
  | refine v_CB ?_ | refine v_call ?_ | refine v_abs ?_ | refine v_lc ?_ | refine v_yes ?_ | refine v_it ?_ | refine v_rng1 ?_ | refine v_rng2 ?_ | refine v_rng3 ?_ | refine v_T ?_ | refine v_F ?_
  | refine v_add ?_ | refine v_sub ?_ | refine v_iadd ?_ | refine v_lt ?_ | refine v_le ?_ | refine v_gt ?_ | refine v_ge ?_ | refine v_eqI ?_ | refine v_neI ?_ | refine v_eqB ?_ | refine v_neB ?_)
local macro_rules | `(tactic| walk_at "dv1") => `(tactic| first
  | (with_reducible refine' v_var ?h ?_); (case h => rfl)
  | (with_reducible refine' v_aug ?h ?_); (case h => rfl)
  | (with_reducible refine' v_div ?h1 ?h2 ?_); (case h1 => walk_at "num"); (case h2 => walk_at "num")
  | (with_reducible refine' v_mod ?h1 ?_); (case h1 => walk_at "num")
  | (with_reducible refine' v_pow ?h1 ?_); (case h1 => walk_at "num")
  | (with_reducible refine' v_mulR ?h1 ?_); (case h1 => walk_at "num")
  | (with_reducible refine' v_mulL ?h1 ?_); (case h1 => walk_at "num")
  | (with_reducible refine' v_fin ?h1 ?_); (case h1 => first | exact Or.inl rfl | exact Or.inr rfl | (refine Or.inr ?_; simp only [List.length_set, *]; done))
  | (with_reducible refine' v_ix ?h1 ?_); (case h1 => first | exact ixD_ref (by assumption) (by rfl) | rfl)
  | (with_reducible refine' v_len ?h1 ?_); (case h1 => first | exact lenD_ref (by assumption) | rfl)
  | (with_reducible refine' v_list ?h1 ?_); (case h1 => rfl)
  | (with_reducible refine' v_listR ?h1 ?_); (case h1 => rfl)
  | (with_reducible refine' v_tuple ?h1 ?_); (case h1 => rfl)
  | (with_reducible refine' v_isd ?h1 ?_); (case h1 => rfl)
  | (with_reducible refine' v_isiTy ?h1 ?h2 ?_); (case h1 => rfl); (case h2 => rfl)
  | (with_reducible refine' v_isiT ?h1 ?_); (case h1 => rfl))
local macro_rules | `(tactic| walk_at "dv2") => `(tactic| first
  | refine v_gsub (by rfl) (by rfl) (by assumption) (by rfl) (fun _ _ _ => ?_) | refine ⟨_, rfl, ?_⟩ | (with_reducible refine' ⟨rng_ok ?h1 ?h2, ?_⟩); (case h1 => omega); (case h2 => omega) | refine ⟨rfl, ?_⟩ | refine ⟨_, _, rfl, ?_⟩ | refine ⟨Nat.le_of_ble_eq_true rfl, ?_⟩)
local macro_rules | `(tactic| walk_at "dv3") => `(tactic| first
  | (with_reducible refine' v_dec (fun _ => ?_) (fun hn => absurd ?h hn)); (case h => first | assumption | omega | decide)
  | (with_reducible refine' v_dec (fun hn => absurd hn ?h) (fun _ => ?_)); (case h => first | assumption | omega | decide)
  | (with_reducible refine' v_ndec (fun _ => ?_) (fun hn => absurd hn ?h)); (case h => first | assumption | omega | decide)
  | (with_reducible refine' v_ndec (fun hn => absurd ?h hn) (fun _ => ?_)); (case h => first | assumption | omega | decide)
  | (with_reducible refine' v_bT ?h ?_); (case h => first | assumption | rfl)
  | (with_reducible refine' v_bF ?h ?_); (case h => first | assumption | rfl))
local macro_rules | `(tactic| walk_at "dv4") => `(tactic| with_reducible first
  | refine v_places ?_ | refine v_roads ?_ | refine v_over ?_ | refine v_line ?_ | refine v_spots ?_ | refine v_myards ?_ | refine v_mroads ?_ | refine v_mW (by decide +kernel) ?_ | refine v_mK (by decide +kernel) ?_
  | refine v_itX ?_ | refine v_ev ?_ | refine v_rev ?_ | refine v_zs ?_ | refine v_enum ?_ | refine v_enum2 ?_ | refine v_makeV ?_ | refine v_tryN ?_ | refine v_lc2 ?_ | refine v_fz ?_ | refine v_make ?_ | refine v_fldS ?_)
local macro_rules | `(tactic| walk_at "dv5") => `(tactic| first
  | refine ⟨_, _, rfl, rfl, ?_⟩ | refine ⟨⟨_, _, rfl⟩, ?_⟩ | refine ⟨⟨_, _, _, rfl⟩, ?_⟩ | refine ⟨_, _, _, rfl, ?_⟩ | refine Or.inl ⟨_, rfl, ?_⟩ | refine Or.inr ⟨_, (fun _ z => by cases z), rfl, ?_⟩)
local macro_rules | `(tactic| walk_at "dv") => `(tactic| repeat (first | walk_at "dv0" | walk_at "dv4" | walk_at "dv1" | walk_at "dv3" | walk_at "dv2" | walk_at "dv5"))
section
variable {m : Mod} {S : Store}
theorem with_yard_val (hp : PureS S) (hl : m.rs.length ≤ 100) (h6 : m.ys.length ≤ 6) {n : Str} (hn : n.length ≤ 1000) : m_Web_with_yard [m.w, .str n] S = (match yardDue m n with
    | none => .ok (Mod.mk (m.ys ++ [n]) m.rs).w S
    | some d => .err d.x S) := by
  have nn := need_new_val (S := S) hl hn
  unfold yardDue
  cases hd : newDue m n with
  | some d =>
    rw [hd] at nn
    show _ = R.err d.x S
    refine Pe.eqE (v_fn ?_)
    unfold b_Web_with_yard
    walk_at "dv"
    refine Pe.er nn ?_
    exact v_finX (.inr rfl) ⟨rfl, rfl⟩
  | none =>
    rw [hd] at nn
    by_cases h : 5 < m.ys.length
    · rw [if_pos h]
      show _ = R.err (Due.ful 6).x S
      refine Pe.eqE (v_fn ?_)
      unfold b_Web_with_yard
      walk_at "dv"
      refine Pe.of nn ?_
      walk_at "dv"
      refine v_dec (fun _ => ?_) (fun z => ?_)
      · refine v_raise1 (v_c ?_)
        exact v_finX (.inr rfl) ⟨rfl, rfl⟩
      · exfalso
        simp at z
        omega
    · rw [if_neg h]
      have h0 : nameOk n = true ∧ ¬ n ∈ m.ys ++ m.rs.map Road.n := by
        unfold newDue at hd
        by_cases z : nameOk n = true
        · rw [if_pos z] at hd
          by_cases y : n ∈ m.ys ++ m.rs.map Road.n
          · rw [if_pos y] at hd
            cases hd
          · exact ⟨z, y⟩
        · rw [if_neg z] at hd
          cases hd
      exact with_yard_ok hp hl h0.1 (fun z => h0.2 (List.mem_append_left _ z)) (fun z => h0.2 (List.mem_append_right _ z)) (by omega)
theorem need_yard_val {y : Str} : m_Web_need_yard [m.w, .str y] S = resD (yarDue m y) S := by
  unfold yarDue
  by_cases h : y ∈ m.ys
  · rw [if_pos h]
    exact need_yard_ok h
  · rw [if_neg h]
    refine Pe.eqE (v_fn ?_)
    unfold b_Web_need_yard
    walk_at "dv"
    refine v_inS (l := m.ys) (fun s z => by cases z) rfl ?_
    refine ⟨_, rfl, ?_⟩
    refine v_bT (by rw [decide_eq_false h]; rfl) ?_
    refine v_raise1 (v_var rfl ?_)
    exact v_finX (.inr rfl) ⟨rfl, rfl⟩
theorem need_turns_val {i : Int} : m_need_turns [.int i] S = resD (turDue i) S := by
  unfold turDue
  by_cases h : i ≠ 0 ∧ i.natAbs ≤ 99
  · rw [if_pos h]
    exact need_turns_ok h.1 h.2
  · rw [if_neg h]
    have fin : ∀ {en : Dv.Env} {T : Store}, en[0]? = some (some (.int i)) → T = S → Ps (mRaise1 "BadTurns" "badturns" "number" (mVar 0) en T) (fun _ _ _ => False) (fun x _ S' => Pe (finX false S.length x S') (fun _ _ => False) fun y T => y = exTur i ∧ T = S) := by
      rintro en T h rfl
      refine v_raise1 (v_var h ?_)
      exact v_finX (.inr rfl) ⟨rfl, rfl⟩
    refine Pe.eqE (v_fn ?_)
    unfold b_need_turns
    refine v_ifS (v_orT (v_B (v_op (v_var rfl (v_c (v_eqI ⟨_, rfl, ?_⟩))))))
    refine v_dec (fun h0 => ?_) (fun h0 => ?_)
    · refine v_T ?_
      refine v_raise1 (v_var rfl ?_)
      exact v_finX (.inr rfl) ⟨rfl, rfl⟩
    · refine v_notT (v_truth ?_)
      walk_at "dv"
      refine Pe.of (is_not_ok (by omega)) ?_
      walk_at "dv"
      refine v_raise1 (v_var rfl ?_)
      exact v_finX (.inr rfl) ⟨rfl, rfl⟩
theorem with_passage_val (hp : PureS S) (hl : m.rs.length ≤ 8) {r : Road} (hn : r.n.length ≤ 1000) : m_Web_with_passage [m.w, .str r.n, .str r.b, .str r.e, .int r.h, .int r.t] S = (match roadDue m r with
    | none => .ok (Mod.mk m.ys (m.rs ++ [r])).w S
    | some d => .err d.x S) := by
  have nn := need_new_val (m := m) (S := S) (by omega) hn
  have yb := need_yard_val (m := m) (S := S) (y := r.b)
  have ye := need_yard_val (m := m) (S := S) (y := r.e)
  have th := need_turns_val (S := S) (i := r.h)
  have tt := need_turns_val (S := S) (i := r.t)
  unfold roadDue
  cases d1 : newDue m r.n with
  | some d =>
    rw [d1] at nn
    show _ = R.err d.x S
    refine Pe.eqE (v_fn ?_)
    unfold b_Web_with_passage
    walk_at "dv"
    refine Pe.er nn ?_
    exact v_finX (.inr rfl) ⟨rfl, rfl⟩
  | none =>
  rw [d1] at nn
  cases d2 : yarDue m r.b with
  | some d =>
    rw [d2] at yb
    show _ = R.err d.x S
    refine Pe.eqE (v_fn ?_)
    unfold b_Web_with_passage
    walk_at "dv"
    refine Pe.of nn ?_
    walk_at "dv"
    refine v_loop1 ⟨_, _, rfl, ?_⟩
    walk_at "dv"
    refine Pe.er yb ?_
    exact v_finX (.inr rfl) ⟨rfl, rfl⟩
  | none =>
  rw [d2] at yb
  cases d3 : yarDue m r.e with
  | some d =>
    rw [d3] at ye
    show _ = R.err d.x S
    refine Pe.eqE (v_fn ?_)
    unfold b_Web_with_passage
    walk_at "dv"
    refine Pe.of nn ?_
    walk_at "dv"
    refine v_loop1 ⟨_, _, rfl, ?_⟩
    walk_at "dv"
    refine Pe.of yb ?_
    refine v_loop1 ⟨_, _, rfl, ?_⟩
    walk_at "dv"
    refine Pe.er ye ?_
    exact v_finX (.inr rfl) ⟨rfl, rfl⟩
  | none =>
  rw [d3] at ye
  cases d4 : turDue r.h with
  | some d =>
    rw [d4] at th
    show _ = R.err d.x S
    refine Pe.eqE (v_fn ?_)
    unfold b_Web_with_passage
    walk_at "dv"
    refine Pe.of nn ?_
    walk_at "dv"
    refine v_loop1 ⟨_, _, rfl, ?_⟩
    walk_at "dv"
    refine Pe.of yb ?_
    refine v_loop1 ⟨_, _, rfl, ?_⟩
    walk_at "dv"
    refine Pe.of ye ?_
    refine v_loop0 ?_
    walk_at "dv"
    refine v_loop1 ⟨_, _, rfl, ?_⟩
    walk_at "dv"
    refine Pe.er th ?_
    exact v_finX (.inr rfl) ⟨rfl, rfl⟩
  | none =>
  rw [d4] at th
  cases d5 : turDue r.t with
  | some d =>
    rw [d5] at tt
    show _ = R.err d.x S
    refine Pe.eqE (v_fn ?_)
    unfold b_Web_with_passage
    walk_at "dv"
    refine Pe.of nn ?_
    walk_at "dv"
    refine v_loop1 ⟨_, _, rfl, ?_⟩
    walk_at "dv"
    refine Pe.of yb ?_
    refine v_loop1 ⟨_, _, rfl, ?_⟩
    walk_at "dv"
    refine Pe.of ye ?_
    refine v_loop0 ?_
    walk_at "dv"
    refine v_loop1 ⟨_, _, rfl, ?_⟩
    walk_at "dv"
    refine Pe.of th ?_
    refine v_loop1 ⟨_, _, rfl, ?_⟩
    walk_at "dv"
    refine Pe.er tt ?_
    exact v_finX (.inr rfl) ⟨rfl, rfl⟩
  | none =>
  rw [d5] at tt
  by_cases h : 7 < m.rs.length
  · rw [if_pos h]
    show _ = R.err (Due.ful 8).x S
    refine Pe.eqE (v_fn ?_)
    unfold b_Web_with_passage
    walk_at "dv"
    refine Pe.of nn ?_
    walk_at "dv"
    refine v_loop1 ⟨_, _, rfl, ?_⟩
    walk_at "dv"
    refine Pe.of yb ?_
    refine v_loop1 ⟨_, _, rfl, ?_⟩
    walk_at "dv"
    refine Pe.of ye ?_
    refine v_loop0 ?_
    walk_at "dv"
    refine v_loop1 ⟨_, _, rfl, ?_⟩
    walk_at "dv"
    refine Pe.of th ?_
    refine v_loop1 ⟨_, _, rfl, ?_⟩
    walk_at "dv"
    refine Pe.of tt ?_
    refine v_loop0 ?_
    walk_at "dv"
    refine v_dec (fun _ => ?_) (fun z => ?_)
    · refine v_raise1 (v_c ?_)
      exact v_finX (.inr rfl) ⟨rfl, rfl⟩
    · exfalso
      simp at z
      omega
  · rw [if_neg h]
    have h0 : nameOk r.n = true ∧ ¬ r.n ∈ m.ys ++ m.rs.map Road.n := by
      unfold newDue at d1
      by_cases z : nameOk r.n = true
      · rw [if_pos z] at d1
        by_cases y : r.n ∈ m.ys ++ m.rs.map Road.n
        · rw [if_pos y] at d1
          cases d1
        · exact ⟨z, y⟩
      · rw [if_neg z] at d1
        cases d1
    have y1 : r.b ∈ m.ys := by
      unfold yarDue at d2
      by_cases z : r.b ∈ m.ys
      · exact z
      · rw [if_neg z] at d2
        cases d2
    have y2 : r.e ∈ m.ys := by
      unfold yarDue at d3
      by_cases z : r.e ∈ m.ys
      · exact z
      · rw [if_neg z] at d3
        cases d3
    have t1 : r.h ≠ 0 ∧ r.h.natAbs ≤ 99 := by
      unfold turDue at d4
      by_cases z : r.h ≠ 0 ∧ r.h.natAbs ≤ 99
      · exact z
      · rw [if_neg z] at d4
        cases d4
    have t2 : r.t ≠ 0 ∧ r.t.natAbs ≤ 99 := by
      unfold turDue at d5
      by_cases z : r.t ≠ 0 ∧ r.t.natAbs ≤ 99
      · exact z
      · rw [if_neg z] at d5
        cases d5
    exact with_passage_ok hp h0.1 (fun z => h0.2 (List.mem_append_left _ z)) (fun z => h0.2 (List.mem_append_right _ z)) y1 y2 t1 t2 (by omega)
end
end Lw
set_option Elab.async false
set_option linter.all false
set_option maxRecDepth 100000
set_option maxHeartbeats 4000000
set_option autoImplicit false
noncomputable section
namespace Lw
open PySem Dv
/-! steps of our own words -/
local macro_rules | `(tactic| walk_at "num") => `(tactic| first | assumption | decide | omega)
local macro_rules | `(tactic| walk_at "dv0") => `(tactic| with_reducible first
  | refine v_seq ?_ | refine v_ifS ?_ | refine v_set ?_ | refine v_ret ?_ | refine v_asg ?_ | refine v_par ?_ | refine v_drop ?_ | refine v_nx ?_ | refine v_bk ?_ | refine v_ct ?_ | refine v_retN ?_ | refine v_for ?_
  | refine v_c ?_ | refine v_nil ?_ | refine v_cons ?_ | refine v_op ?_ | refine v_B ?_ | refine v_truth ?_ | refine v_andT ?_ | refine v_orT ?_ | refine v_notT ?_
  | refine v_andV ?_ | refine v_orV ?_ | refine v_notV ?_ | refine v_if ?_ | refine v_neg ?_ | refine v_chain ?_ | refine v_tup ?_ | refine v_lst ?_ | refine v_lstR ?_ | refine v_noPart ?_ | refine v_part ?_ | refine v_sl ?_
  | refine v_CB ?_ | refine v_call ?_ | refine v_abs ?_ | refine v_lc ?_ | refine v_yes ?_ | refine v_it ?_ | refine v_rng1 ?_ | refine v_rng2 ?_ | refine v_rng3 ?_ | refine v_T ?_ | refine v_F ?_
  | refine v_add ?_ | refine v_sub ?_ | refine v_iadd ?_ | refine v_lt ?_ | refine v_le ?_ | refine v_gt ?_ | refine v_ge ?_ | refine v_eqI ?_ | refine v_neI ?_ | refine v_eqB ?_ | refine v_neB ?_)
local macro_rules | `(tactic| walk_at "dv1") => `(tactic| first
  | (with_reducible refine' v_var ?h ?_); (case h => rfl)
  | (with_reducible refine' v_aug ?h ?_); (case h => rfl)
  | (with_reducible refine' v_div ?h1 ?h2 ?_); (case h1 => walk_at "num"); (case h2 => walk_at "num")
  | (with_reducible refine' v_mod ?h1 ?_); (case h1 => walk_at "num")
  | (with_reducible refine' v_pow ?h1 ?_); (case h1 => walk_at "num")
  | (with_reducible refine' v_mulR ?h1 ?_); (case h1 => walk_at "num")
  | (with_reducible refine' v_mulL ?h1 ?_); (case h1 => walk_at "num")
  | (with_reducible refine' v_fin ?h1 ?_); (case h1 => first | exact Or.inl rfl | exact Or.inr rfl | (refine Or.inr ?_; simp only [List.length_set, *]; done))
  | (with_reducible refine' v_ix ?h1 ?_); (case h1 => first | exact ixD_ref (by assumption) (by rfl) | rfl)
  | (with_reducible refine' v_len ?h1 ?_); (case h1 => first | exact lenD_ref (by assumption) | rfl)
  | (with_reducible refine' v_list ?h1 ?_); (case h1 => rfl)
  | (with_reducible refine' v_listR ?h1 ?_); (case h1 => rfl)
  | (with_reducible refine' v_tuple ?h1 ?_); (case h1 => rfl)
  | (with_reducible refine' v_isd ?h1 ?_); (case h1 => rfl)
  | (with_reducible refine' v_isiTy ?h1 ?h2 ?_); (case h1 => rfl); (case h2 => rfl)
  | (with_reducible refine' v_isiT ?h1 ?_); (case h1 => rfl))
local macro_rules | `(tactic| walk_at "dv2") => `(tactic| first
  | refine v_gsub (by rfl) (by rfl) (by assumption) (by rfl) (fun _ _ _ => ?_) | refine ⟨_, rfl, ?_⟩ | (with_reducible refine' ⟨rng_ok ?h1 ?h2, ?_⟩); (case h1 => omega); (case h2 => omega) | refine ⟨rfl, ?_⟩ | refine ⟨_, _, rfl, ?_⟩ | refine ⟨Nat.le_of_ble_eq_true rfl, ?_⟩)
local macro_rules | `(tactic| walk_at "dv3") => `(tactic| first
  | (with_reducible refine' v_dec (fun _ => ?_) (fun hn => absurd ?h hn)); (case h => first | assumption | omega | decide)
  | (with_reducible refine' v_dec (fun hn => absurd hn ?h) (fun _ => ?_)); (case h => first | assumption | omega | decide)
  | (with_reducible refine' v_ndec (fun _ => ?_) (fun hn => absurd hn ?h)); (case h => first | assumption | omega | decide)
  | (with_reducible refine' v_ndec (fun hn => absurd ?h hn) (fun _ => ?_)); (case h => first | assumption | omega | decide)
  | (with_reducible refine' v_bT ?h ?_); (case h => first | assumption | rfl)
  | (with_reducible refine' v_bF ?h ?_); (case h => first | assumption | rfl))
local macro_rules | `(tactic| walk_at "dv4") => `(tactic| with_reducible first
  | refine v_places ?_ | refine v_roads ?_ | refine v_over ?_ | refine v_line ?_ | refine v_spots ?_ | refine v_myards ?_ | refine v_mroads ?_ | refine v_mW (by decide +kernel) ?_ | refine v_mK (by decide +kernel) ?_
  | refine v_itX ?_ | refine v_ev ?_ | refine v_rev ?_ | refine v_zs ?_ | refine v_enum ?_ | refine v_enum2 ?_ | refine v_makeV ?_ | refine v_tryN ?_ | refine v_lc2 ?_ | refine v_fz ?_ | refine v_make ?_ | refine v_fldS ?_)
local macro_rules | `(tactic| walk_at "dv5") => `(tactic| first
  | refine ⟨_, _, rfl, rfl, ?_⟩ | refine ⟨⟨_, _, rfl⟩, ?_⟩ | refine ⟨⟨_, _, _, rfl⟩, ?_⟩ | refine ⟨_, _, _, rfl, ?_⟩ | refine Or.inl ⟨_, rfl, ?_⟩ | refine Or.inr ⟨_, (fun _ z => by cases z), rfl, ?_⟩)
local macro_rules | `(tactic| walk_at "dv") => `(tactic| repeat (first | walk_at "dv0" | walk_at "dv4" | walk_at "dv1" | walk_at "dv3" | walk_at "dv2" | walk_at "dv5"))
section
variable {m : Mod} {S : Store} {i : Nat}
theorem law_road_due_val (ok : m.Ok) {r : Road} (hn : r.n.length ≤ 1000) (sb : PyData.strOk r.b = true) (se : PyData.strOk r.e = true) : m_law_road_due [m.d, .str r.n, .str r.b, .str r.e, .int r.h, .int r.t] S = .ok (dueV (roadDue m r)) S := by
  have ly := ok.ly
  have lr := ok.lr
  have nd := law_new_due_val (m := m) (S := S) (by omega) (by omega) hn
  have inY : ∀ {y : Str} {en : Dv.Env} {k : Nat}, en[k]? = some (some (.str y)) → en[0]? = some (some m.d) → mB (mOp (mIn true) (mVar k) (mGetS "yards" (mVar 0))) en S = .ok (!decide (y ∈ m.ys)) S := by
    intro y en k h h0
    refine Pe.eq (v_B (v_op (v_var h (Pe.of (getS_yards h0) ?_))))
    exact v_inS (l := m.ys) (fun s z => by cases z) rfl ⟨_, rfl, rfl, rfl⟩
  have num : ∀ {x : Int} {en : Dv.Env}, en[8]? = some (some (.int x)) → mOrT (mB (mOp mEq (mVar 8) (mC (.int 0)))) (mNotT (mB (mChain mLe mLe (mNeg (mC (.int 99))) (mVar 8) (mC (.int 99))))) en S = .ok (decide (turDue x ≠ none)) S := by
    intro x en h
    refine Pe.eq (v_orT (v_B (v_op (v_var h (v_c (v_eqI ⟨_, rfl, ?_⟩))))))
    unfold turDue
    refine v_dec (fun h0 => ?_) (fun h0 => ?_)
    · rw [if_neg (fun z => z.1 h0)]
      exact ⟨rfl, rfl⟩
    · refine v_notT (v_B (v_chain (v_neg (v_c ⟨_, rfl, v_var h (v_le ⟨_, rfl, ?_⟩)⟩))))
      refine v_dec (fun h1 => ?_) (fun h1 => ?_)
      · refine v_c (v_le ⟨_, rfl, ?_⟩)
        by_cases h2 : x ≤ 99
        · rw [if_pos ⟨h0, by omega⟩, decide_eq_true h2]
          exact ⟨rfl, rfl⟩
        · rw [if_neg (fun z => h2 (by have := z.2; omega)), decide_eq_false h2]
          exact ⟨rfl, rfl⟩
      · refine ⟨_, rfl, ?_⟩
        rw [if_neg (fun z => h1 (by have := z.2; omega))]
        exact ⟨rfl, rfl⟩
  have yd : ∀ {y : Str}, y ∈ m.ys → yarDue m y = none := fun h => if_pos h
  have yn : ∀ {y : Str}, ¬ y ∈ m.ys → yarDue m y = some (.noy y) := fun h => if_neg h
  refine Pe.eq (v_fn ?_)
  unfold b_law_road_due roadDue
  refine v_seq (v_set (v_call (v_cons (v_var rfl (v_cons (v_var rfl (v_nil ⟨rfl, ?_⟩)))))))
  refine Pe.of nd ?_
  cases d1 : newDue m r.n with
  | some d =>
    refine v_seq (v_ifS (v_B (v_op (v_var rfl (v_c (v_isd (show mIs true d.t .non S = .ok (.bl true) S by cases d <;> rfl) ⟨_, rfl, v_T (v_ret (v_var rfl (v_fin (.inr rfl) ⟨rfl, rfl⟩)))⟩))))))
  | none =>
  refine v_seq (v_ifS (v_B (v_op (v_var rfl (v_c (v_isd rfl ⟨_, rfl, v_F (v_nx ?_)⟩))))))
  refine v_seq (v_for (v_itX (v_lst (v_cons (v_var rfl (v_cons (v_var rfl (v_nil ⟨Nat.le_of_ble_eq_true rfl, _, rfl, ?_⟩))))))))
  refine v_loop1 ⟨_, _, rfl, ?_⟩
  refine v_ifS (Pe.of (inY (y := r.b) rfl rfl) ?_)
  by_cases hb : r.b ∈ m.ys
  · refine v_bF (by rw [decide_eq_true hb]; rfl) (v_nx ?_)
    rw [yd hb]
    refine v_loop1 ⟨_, _, rfl, ?_⟩
    refine v_ifS (Pe.of (inY (y := r.e) rfl rfl) ?_)
    by_cases he : r.e ∈ m.ys
    · refine v_bF (by rw [decide_eq_true he]; rfl) (v_nx ?_)
      rw [yd he]
      refine v_loop0 ?_
      refine v_seq (v_for (v_itX (v_lst (v_cons (v_var rfl (v_cons (v_var rfl (v_nil ⟨Nat.le_of_ble_eq_true rfl, _, rfl, ?_⟩))))))))
      refine v_loop1 ⟨_, _, rfl, ?_⟩
      refine v_ifS (Pe.of (num (x := r.h) rfl) ?_)
      cases d4 : turDue r.h with
      | some d =>
        have e : d = .tur r.h := by
          unfold turDue at d4
          split at d4
          · cases d4
          · exact (Option.some.inj d4).symm
        subst e
        refine v_bT (decide_eq_true (by simp)) (v_ret (v_tup (v_cons (v_c (v_cons (v_var rfl (v_nil ⟨Nat.le_of_ble_eq_true rfl, v_fin (.inr rfl) ⟨rfl, rfl⟩⟩)))))))
      | none =>
        refine v_bF (decide_eq_false (by simp)) (v_nx ?_)
        refine v_loop1 ⟨_, _, rfl, ?_⟩
        refine v_ifS (Pe.of (num (x := r.t) rfl) ?_)
        cases d5 : turDue r.t with
        | some d =>
          have e : d = .tur r.t := by
            unfold turDue at d5
            split at d5
            · cases d5
            · exact (Option.some.inj d5).symm
          subst e
          refine v_bT (decide_eq_true (by simp)) (v_ret (v_tup (v_cons (v_c (v_cons (v_var rfl (v_nil ⟨Nat.le_of_ble_eq_true rfl, v_fin (.inr rfl) ⟨rfl, rfl⟩⟩)))))))
        | none =>
          refine v_bF (decide_eq_false (by simp)) (v_nx ?_)
          refine v_loop0 ?_
          refine v_ret (v_if (v_B (v_op (v_CB (v_cons (Pe.of (getS_roads rfl) (v_nil (v_len (n := m.rs.length) (by simp [lenD, asL]) (v_c (v_gt ⟨_, rfl, ?_⟩))))))))))
          refine v_dec (fun h => ?_) (fun h => ?_)
          · refine v_tup (v_cons (v_c (v_cons (v_c (v_nil ⟨Nat.le_of_ble_eq_true rfl, v_fin (.inr rfl) ⟨?_, rfl⟩⟩)))))
            rw [if_pos (by omega)]
            rfl
          · refine v_c (v_fin (.inr rfl) ⟨?_, rfl⟩)
            rw [if_neg (by omega)]
            rfl
    · refine v_bT (by rw [decide_eq_false he]; rfl) (v_ret (v_tup (v_cons (v_c (v_cons (v_var rfl (v_nil ⟨Nat.le_of_ble_eq_true rfl, v_fin (.inr rfl) ⟨?_, rfl⟩⟩)))))))
      rw [yn he]
      rfl
  · refine v_bT (by rw [decide_eq_false hb]; rfl) (v_ret (v_tup (v_cons (v_c (v_cons (v_var rfl (v_nil ⟨Nat.le_of_ble_eq_true rfl, v_fin (.inr rfl) ⟨?_, rfl⟩⟩)))))))
    rw [yn hb]
    rfl
def hd1 : Dt → Option Dt
  | .tup (x :: _) => some x
  | _ => none
theorem sum_names : ∀ {l : List Road}, (l.map Road.d).filterMap hd1 = (l.map Road.n).map Dt.str
  | [] => rfl
  | r :: l => by
    rw [List.map_cons, List.filterMap_cons, sum_names]
    rfl
/-- a name is drawn: one of the web's, a new one, or an odd one -/
theorem new_name_ok (ok : m.Ok) (nm : m.Nm) (hF : FlowAt S i) {Q : Dt → Store → Prop} {X : Ex → Store → Prop} (q : ∀ n S', PyData.strOk n = true → n.length ≤ 1000 → Fz i S S' → Q (.str n) S') : Pe (m_law_new_name [.ref i, m.d] S) Q X := by
  have ly := ok.ly
  have lr := ok.lr
  have nl : ∀ {n : Str}, nameOk n = true → n.length ≤ 1000 := fun h => by
    unfold nameOk at h
    rw [Bool.and_eq_true, Bool.and_eq_true] at h
    have := of_decide_eq_true h.1.2
    omega
  refine v_fn ?_
  unfold b_law_new_name
  refine v_seq (v_set (v_op (v_op (Pe.of (getS_yards rfl) ?_))))
  walk_at "dv"
  refine v_cloop hd1 (fun d hd => ?_) ?_ ?_
  · obtain ⟨r, hr, rfl⟩ := List.mem_map.mp hd
    refine ⟨_, rfl, v_yes ⟨rfl, v_T ?_⟩⟩
    walk_at "dv"
    first | exact ⟨rfl, rfl⟩ | exact rfl
  · simp
    omega
  rw [List.nil_append]
  unfold Mod.rsD
  rw [sum_names]
  refine v_addLL (by simp; omega) ?_
  refine v_lst (v_cons (v_c (v_cons (v_c (v_nil ⟨Nat.le_of_ble_eq_true rfl, ?_⟩)))))
  refine v_addLL (by simp; omega) ?_
  refine v_seq (v_ifS (v_B (v_op (v_call (v_cons (v_var rfl (v_cons (v_c (v_nil ⟨rfl, ?_⟩)))))))))
  refine draw_fz hF (by decide) (by decide) fun v S1 v0 v1 z1 => ?_
  refine v_c (v_eqI ⟨_, rfl, ?_⟩)
  refine v_dec (fun _ => ?_) (fun _ => ?_)
  · refine v_ret (v_call (v_cons (v_var rfl (v_nil ⟨rfl, ?_⟩))))
    refine v_fn ?_
    unfold b_law_odd_name
    walk_at "dv"
    refine pick_fz z1.flow (Nat.le_of_ble_eq_true rfl) (Nat.le_of_ble_eq_true rfl) fun d S2 hd z2 => ?_
    have zz := z1.trans z2
    refine v_fin (.inr z2.len) (v_fin (.inr zz.len) ?_)
    have od : ∀ n ∈ (["", "abcdefghi", "A", "a1", "a b", "_", "ab-"] : List Str), PyData.strOk n = true ∧ n.length ≤ 1000 := by decide +kernel
    obtain ⟨n, hn, rfl⟩ : ∃ n, n ∈ (["", "abcdefghi", "A", "a1", "a b", "_", "ab-"] : List Str) ∧ d = .str n := by
      obtain ⟨n, hn, e⟩ := List.mem_map.mp (show d ∈ (["", "abcdefghi", "A", "a1", "a b", "_", "ab-"] : List Str).map Dt.str from hd)
      exact ⟨n, hn, e.symm⟩
    exact q n S2 (od n hn).1 (od n hn).2 zz
  · refine v_nx (v_ret (v_call (v_cons (v_var rfl (v_cons (v_op (v_var rfl ?_)))))))
    walk_at "dv"
    refine v_addLL (by simp; omega) ?_
    refine v_nil ⟨rfl, ?_⟩
    refine pick_fz z1.flow (by simp; omega) (by simp; omega) fun d S2 hd z2 => ?_
    have zz := z1.trans z2
    refine v_fin (.inr zz.len) ?_
    have od : ∀ n ∈ (["fresh", "news", "qa", "qb", "qc", "qd", "qe", "qf", "qg", "qh"] : List Str), PyData.strOk n = true ∧ n.length ≤ 1000 := by decide +kernel
    have all : ∀ d ∈ ((m.ysD ++ (m.rs.map Road.n).map Dt.str) ++ [.str "fresh", .str "news"]) ++ [.str "qa", .str "qb", .str "qc", .str "qd", .str "qe", .str "qf", .str "qg", .str "qh"], ∃ n : Str, d = .str n ∧ PyData.strOk n = true ∧ n.length ≤ 1000 := by
      intro d hd
      rw [List.append_assoc, List.mem_append, List.mem_append] at hd
      rcases hd with (h | h) | h
      · obtain ⟨y, hy, rfl⟩ := List.mem_map.mp h
        exact ⟨y, rfl, ok.sy y hy, nl (nm.ny y hy)⟩
      · obtain ⟨n, hn, rfl⟩ := List.mem_map.mp h
        obtain ⟨r, hr, rfl⟩ := List.mem_map.mp hn
        exact ⟨r.n, rfl, (ok.sr r hr).1, nl (nm.nr r hr)⟩
      · obtain ⟨n, hn, e⟩ := List.mem_map.mp (show d ∈ (["fresh", "news", "qa", "qb", "qc", "qd", "qe", "qf", "qg", "qh"] : List Str).map Dt.str from h)
        exact ⟨n, e.symm, od n hn⟩
    obtain ⟨n, rfl, n1, n2⟩ := all d hd
    exact q n S2 n1 n2 zz
/-- a yard more, a passage more -/
theorem ok_yard (ok : m.Ok) {n : Str} (h : yardDue m n = none) (sn : PyData.strOk n = true) : (Mod.mk (m.ys ++ [n]) m.rs).Ok := by
  unfold yardDue at h
  rw [Option.or_eq_none_iff] at h
  have h0 : nameOk n = true ∧ ¬ n ∈ m.ys ++ m.rs.map Road.n := by
    have d1 := h.1
    unfold newDue at d1
    by_cases z : nameOk n = true
    · rw [if_pos z] at d1
      by_cases y : n ∈ m.ys ++ m.rs.map Road.n
      · rw [if_pos y] at d1
        cases d1
      · exact ⟨z, y⟩
    · rw [if_neg z] at d1
      cases d1
  have h6 : m.ys.length ≤ 5 := by
    by_cases z : 5 < m.ys.length
    · have := h.2
      rw [if_pos z] at this
      cases this
    · omega
  refine ⟨ok.sr, fun y hy => ?_, ?_, fun r hr => ⟨List.mem_append_left _ (ok.en r hr).1, List.mem_append_left _ (ok.en r hr).2⟩, ok.th, ?_, ok.lr⟩
  · rcases List.mem_append.mp hy with z | z
    · exact ok.sy y z
    · rw [List.mem_singleton.mp z]
      exact sn
  · have pm : ((m.ys ++ [n]) ++ m.rs.map Road.n).Perm (n :: (m.ys ++ m.rs.map Road.n)) := by
      rw [List.append_assoc]
      exact List.perm_middle
    exact pm.nodup_iff.mpr (List.nodup_cons.mpr ⟨h0.2, ok.nd⟩)
  · show (m.ys ++ [n]).length ≤ 6
    rw [List.length_append, List.length_singleton]
    omega
theorem nm_yard (nm : m.Nm) {n : Str} (h : yardDue m n = none) : (Mod.mk (m.ys ++ [n]) m.rs).Nm := by
  unfold yardDue at h
  rw [Option.or_eq_none_iff] at h
  have d1 := h.1
  unfold newDue at d1
  have z : nameOk n = true := by
    by_cases z : nameOk n = true
    · exact z
    · rw [if_neg z] at d1
      cases d1
  refine ⟨fun y hy => ?_, nm.nr⟩
  rcases List.mem_append.mp hy with h | h
  · exact nm.ny y h
  · rw [List.mem_singleton.mp h]
    exact z
theorem ok_road (ok : m.Ok) {r : Road} (h : roadDue m r = none) (sn : PyData.strOk r.n = true) : (Mod.mk m.ys (m.rs ++ [r])).Ok ∧ nameOk r.n = true := by
  unfold roadDue at h
  simp only [Option.or_eq_none_iff] at h
  obtain ⟨d1, d2, d3, d4, d5, d6⟩ := h
  have h0 : nameOk r.n = true ∧ ¬ r.n ∈ m.ys ++ m.rs.map Road.n := by
    unfold newDue at d1
    by_cases z : nameOk r.n = true
    · rw [if_pos z] at d1
      by_cases y : r.n ∈ m.ys ++ m.rs.map Road.n
      · rw [if_pos y] at d1
        cases d1
      · exact ⟨z, y⟩
    · rw [if_neg z] at d1
      cases d1
  have y1 : r.b ∈ m.ys := by
    unfold yarDue at d2
    by_cases z : r.b ∈ m.ys
    · exact z
    · rw [if_neg z] at d2
      cases d2
  have y2 : r.e ∈ m.ys := by
    unfold yarDue at d3
    by_cases z : r.e ∈ m.ys
    · exact z
    · rw [if_neg z] at d3
      cases d3
  have t1 : r.h ≠ 0 ∧ r.h.natAbs ≤ 99 := by
    unfold turDue at d4
    by_cases z : r.h ≠ 0 ∧ r.h.natAbs ≤ 99
    · exact z
    · rw [if_neg z] at d4
      cases d4
  have t2 : r.t ≠ 0 ∧ r.t.natAbs ≤ 99 := by
    unfold turDue at d5
    by_cases z : r.t ≠ 0 ∧ r.t.natAbs ≤ 99
    · exact z
    · rw [if_neg z] at d5
      cases d5
  have h8 : m.rs.length ≤ 7 := by
    by_cases z : 7 < m.rs.length
    · rw [if_pos z] at d6
      cases d6
    · omega
  have mem : ∀ q ∈ m.rs ++ [r], q ∈ m.rs ∨ q = r := fun q hq => (List.mem_append.mp hq).imp id List.mem_singleton.mp
  refine ⟨⟨fun q hq => ?_, ok.sy, ?_, fun q hq => ?_, fun q hq => ?_, ok.ly, ?_⟩, h0.1⟩
  · rcases mem q hq with z | rfl
    · exact ok.sr q z
    · exact ⟨sn, ok.sy _ y1, ok.sy _ y2⟩
  · have pm : (m.ys ++ (m.rs ++ [r]).map Road.n).Perm (r.n :: (m.ys ++ m.rs.map Road.n)) := by
      rw [List.map_append, ← List.append_assoc]
      exact List.perm_append_singleton _ _
    exact pm.nodup_iff.mpr (List.nodup_cons.mpr ⟨h0.2, ok.nd⟩)
  · rcases mem q hq with z | rfl
    · exact ok.en q z
    · exact ⟨y1, y2⟩
  · rcases mem q hq with z | rfl
    · exact ok.th q z
    · exact ⟨t1, t2⟩
  · show (m.rs ++ [r]).length ≤ 8
    rw [List.length_append, List.length_singleton]
    omega
end
end Lw
set_option Elab.async false
set_option linter.all false
set_option maxRecDepth 100000
set_option maxHeartbeats 4000000
set_option autoImplicit false
noncomputable section
namespace Lw
open PySem Dv
/-! steps of our own words -/
local macro_rules | `(tactic| walk_at "num") => `(tactic| first | assumption | decide | omega)
local macro_rules | `(tactic| walk_at "dv0") => `(tactic| with_reducible first
  | refine v_seq ?_ | refine v_ifS ?_ | refine v_set ?_ | refine v_ret ?_ | refine v_asg ?_ | refine v_par ?_ | refine v_drop ?_ | refine v_nx ?_ | refine v_bk ?_ | refine v_ct ?_ | refine v_retN ?_ | refine v_for ?_
  | refine v_c ?_ | refine v_nil ?_ | refine v_cons ?_ | refine v_op ?_ | refine v_B ?_ | refine v_truth ?_ | refine v_andT ?_ | refine v_orT ?_ | refine v_notT ?_
  | refine v_andV ?_ | refine v_orV ?_ | refine v_notV ?_ | refine v_if ?_ | refine v_neg ?_ | refine v_chain ?_ | refine v_tup ?_ | refine v_lst ?_ | refine v_lstR ?_ | refine v_noPart ?_ | refine v_part ?_ | refine v_sl ?_
  | refine v_CB ?_ | refine v_call ?_ | refine v_abs ?_ | refine v_lc ?_ | refine v_yes ?_ | refine v_it ?_ | refine v_rng1 ?_ | refine v_rng2 ?_ | refine v_rng3 ?_ | refine v_T ?_ | refine v_F ?_
  | refine v_add ?_ | refine v_sub ?_ | refine v_iadd ?_ | refine v_lt ?_ | refine v_le ?_ | refine v_gt ?_ | refine v_ge ?_ | refine v_eqI ?_ | refine v_neI ?_ | refine v_eqB ?_ | refine v_neB ?_)
local macro_rules | `(tactic| walk_at "dv1") => `(tactic| first
  | (with_reducible refine' v_var ?h ?_); (case h => rfl)
  | (with_reducible refine' v_aug ?h ?_); (case h => rfl)
  | (with_reducible refine' v_div ?h1 ?h2 ?_); (case h1 => walk_at "num"); (case h2 => walk_at "num")
  | (with_reducible refine' v_mod ?h1 ?_); (case h1 => walk_at "num")
  | (with_reducible refine' v_pow ?h1 ?_); (case h1 => walk_at "num")
  | (with_reducible refine' v_mulR ?h1 ?_); (case h1 => walk_at "num")
  | (with_reducible refine' v_mulL ?h1 ?_); (case h1 => walk_at "num")
  | (with_reducible refine' v_fin ?h1 ?_); (case h1 => first | exact Or.inl rfl | exact Or.inr rfl | (refine Or.inr ?_; simp only [List.length_set, *]; done))
  | (with_reducible refine' v_ix ?h1 ?_); (case h1 => first | exact ixD_ref (by assumption) (by rfl) | rfl)
  | (with_reducible refine' v_len ?h1 ?_); (case h1 => first | exact lenD_ref (by assumption) | rfl)
  | (with_reducible refine' v_list ?h1 ?_); (case h1 => rfl)
  | (with_reducible refine' v_listR ?h1 ?_); (case h1 => rfl)
  | (with_reducible refine' v_tuple ?h1 ?_); (case h1 => rfl)
  | (with_reducible refine' v_isd ?h1 ?_); (case h1 => rfl)
  | (with_reducible refine' v_isiTy ?h1 ?h2 ?_); (case h1 => rfl); (case h2 => rfl)
  | (with_reducible refine' v_isiT ?h1 ?_); (case h1 => rfl))
local macro_rules | `(tactic| walk_at "dv2") => `(tactic| first
  | refine v_gsub (by rfl) (by rfl) (by assumption) (by rfl) (fun _ _ _ => ?_) | refine ⟨_, rfl, ?_⟩ | (with_reducible refine' ⟨rng_ok ?h1 ?h2, ?_⟩); (case h1 => omega); (case h2 => omega) | refine ⟨rfl, ?_⟩ | refine ⟨_, _, rfl, ?_⟩ | refine ⟨Nat.le_of_ble_eq_true rfl, ?_⟩)
local macro_rules | `(tactic| walk_at "dv3") => `(tactic| first
  | (with_reducible refine' v_dec (fun _ => ?_) (fun hn => absurd ?h hn)); (case h => first | assumption | omega | decide)
  | (with_reducible refine' v_dec (fun hn => absurd hn ?h) (fun _ => ?_)); (case h => first | assumption | omega | decide)
  | (with_reducible refine' v_ndec (fun _ => ?_) (fun hn => absurd hn ?h)); (case h => first | assumption | omega | decide)
  | (with_reducible refine' v_ndec (fun hn => absurd ?h hn) (fun _ => ?_)); (case h => first | assumption | omega | decide)
  | (with_reducible refine' v_bT ?h ?_); (case h => first | assumption | rfl)
  | (with_reducible refine' v_bF ?h ?_); (case h => first | assumption | rfl))
local macro_rules | `(tactic| walk_at "dv4") => `(tactic| with_reducible first
  | refine v_places ?_ | refine v_roads ?_ | refine v_over ?_ | refine v_line ?_ | refine v_spots ?_ | refine v_myards ?_ | refine v_mroads ?_ | refine v_mW (by decide +kernel) ?_ | refine v_mK (by decide +kernel) ?_
  | refine v_itX ?_ | refine v_ev ?_ | refine v_rev ?_ | refine v_zs ?_ | refine v_enum ?_ | refine v_enum2 ?_ | refine v_makeV ?_ | refine v_tryN ?_ | refine v_lc2 ?_ | refine v_fz ?_ | refine v_make ?_ | refine v_fldS ?_)
local macro_rules | `(tactic| walk_at "dv5") => `(tactic| first
  | refine ⟨_, _, rfl, rfl, ?_⟩ | refine ⟨⟨_, _, rfl⟩, ?_⟩ | refine ⟨⟨_, _, _, rfl⟩, ?_⟩ | refine ⟨_, _, _, rfl, ?_⟩ | refine Or.inl ⟨_, rfl, ?_⟩ | refine Or.inr ⟨_, (fun _ z => by cases z), rfl, ?_⟩)
local macro_rules | `(tactic| walk_at "dv") => `(tactic| repeat (first | walk_at "dv0" | walk_at "dv4" | walk_at "dv1" | walk_at "dv3" | walk_at "dv2" | walk_at "dv5"))
/-! ### the law's turn: webs refused -/
section
variable {m : Mod} {S : Store}
abbrev t05 (a b c d e f g h i j k l o p : Option Dt) : Dv.Env := [a, b, c, d, e, f, g, h, i, j, k, l, o, p]
abbrev lamY : Dv.Env → Store → R Dt := mMeth "Web" "with_yard" 2 m_Web_with_yard (mVar 3) (mCons (mVar 5) mNil)
abbrev lamP : Dv.Env → Store → R Dt := mMethK "Web" "with_passage" 4 2 6 [1, 0] m_Web_with_passage (mVar 3) (mCons (mVar 5) (mCons (mVar 6) (mCons (mVar 7) mNil))) (mCons (mVar 9) (mCons (mVar 8) mNil))
/-- which lambda, what is due, the web behind -/
def due05 (m : Mod) (r : Road) : Nat → Option Due
  | 0 => yardDue m r.n
  | _ => roadDue m r
def nxt05 (m : Mod) (r : Road) : Nat → Mod
  | 0 => ⟨m.ys ++ [r.n], m.rs⟩
  | _ => ⟨m.ys, m.rs ++ [r]⟩
abbrev e05 (m : Mod) (r : Road) (a b e k l o p : Option Dt) : Dv.Env := t05 a b (some m.d) (some m.w) e (some (.str r.n)) (some (.str r.b)) (some (.str r.e)) (some (.int r.h)) (some (.int r.t)) k l o p
theorem mAskV_at {P : Nat → Pd} {fn : R Dt → R Dt} {ms : List (Dv.Env → Store → R Dt)} {i n : Nat} {en : Dv.Env} {f : Dv.Env → Store → R Dt} (h : en[i]? = some (some (.lam n (P n)))) (hf : ms[n]? = some f) : mAskV P fn ms i en S = fn (f en S) := by
  unfold mAskV
  rw [h]
  dsimp only
  rw [if_pos rfl, hf]
theorem mCallV_at {P : Nat → Pd} {ms : List (Dv.Env → Store → R Dt)} {i n : Nat} {en : Dv.Env} {f : Dv.Env → Store → R Dt} (h : en[i]? = some (some (.lam n (P n)))) (hf : ms[n]? = some f) : mCallV P ms i en S = f en S := by
  unfold mCallV
  rw [h]
  dsimp only
  rw [if_pos rfl, hf]
theorem lam_val (ok : m.Ok) (hp : PureS S) {r : Road} (hn : r.n.length ≤ 1000) {k : Nat} (hk : k < 2) {a b e x y o p : Option Dt} : ∃ f, [lamY, lamP][k]? = some f ∧ f (e05 m r a b e x y o p) S = (match due05 m r k with
    | none => .ok (nxt05 m r k).w S
    | some d => .err d.x S) := by
  have ly := ok.ly
  have lr := ok.lr
  have pe : ∀ {f g : R Dt}, (∀ d, g = .ok d S → Pe f (fun a T => a = d ∧ T = S) X0) → (∀ x, g = .err x S → Pe f (fun _ _ => False) (fun y T => y = x ∧ T = S)) → (∃ d, g = .ok d S) ∨ (∃ x, g = .err x S) → f = g := by
    intro f g h1 h2 h
    rcases h with ⟨d, rfl⟩ | ⟨x, rfl⟩
    · exact Pe.eq (h1 d rfl)
    · exact Pe.eqE (h2 x rfl)
  have two : ∀ k : Nat, (∃ d, (match due05 m r k with | none => (R.ok (nxt05 m r k).w S : R Dt) | some d => .err d.x S) = .ok d S) ∨ (∃ x, (match due05 m r k with | none => (R.ok (nxt05 m r k).w S : R Dt) | some d => .err d.x S) = .err x S) := by
    intro k
    cases due05 m r k with
    | none => exact .inl ⟨_, rfl⟩
    | some d => exact .inr ⟨_, rfl⟩
  match k, hk with
  | 0, _ =>
    refine ⟨lamY, rfl, ?_⟩
    have v := with_yard_val (m := m) (S := S) hp (by omega) ly hn
    refine pe (fun d h => ?_) (fun x h => ?_) (two 0)
    · refine v_meth (v_var rfl ⟨⟨wF, _, rfl, by decide +kernel⟩, v_cons (v_var rfl (v_nil ⟨rfl, Pe.of (v.trans h) ⟨rfl, rfl⟩⟩))⟩)
    · refine v_meth (v_var rfl ⟨⟨wF, _, rfl, by decide +kernel⟩, v_cons (v_var rfl (v_nil ⟨rfl, Pe.er (v.trans h) ⟨rfl, rfl⟩⟩))⟩)
  | 1, _ =>
    refine ⟨lamP, rfl, ?_⟩
    have v := with_passage_val (m := m) (S := S) hp lr (r := r) hn
    refine pe (fun d h => ?_) (fun x h => ?_) (two 1)
    · refine v_methK (v_var rfl ⟨⟨wF, _, rfl, by decide +kernel⟩, v_cons (v_var rfl (v_cons (v_var rfl (v_cons (v_var rfl (v_nil (v_cons (v_var rfl (v_cons (v_var rfl (v_nil ⟨⟨rfl, rfl, rfl⟩, Pe.of (v.trans h) ⟨rfl, rfl⟩⟩)))))))))))⟩)
    · refine v_methK (v_var rfl ⟨⟨wF, _, rfl, by decide +kernel⟩, v_cons (v_var rfl (v_cons (v_var rfl (v_cons (v_var rfl (v_nil (v_cons (v_var rfl (v_cons (v_var rfl (v_nil ⟨⟨rfl, rfl, rfl⟩, Pe.er (v.trans h) ⟨rfl, rfl⟩⟩)))))))))))⟩)
theorem due_tag (d : Due) : ∃ w, fldX d.x "word" = some w ∧ ((fS d.x.c = none ∧ False) ∨ ∃ f y, fS d.x.c = some f ∧ fldX d.x f = some y ∧ d.t = .tup [w, y]) := by
  cases d <;> exact ⟨_, rfl, .inr ⟨_, _, rfl, rfl, rfl⟩⟩
theorem askV_val (ok : m.Ok) (hp : PureS S) {P : Nat → Pd} {r : Road} (hn : r.n.length ≤ 1000) {k : Nat} (hk : k < 2) {a b e x o p : Option Dt} : mAskV P (fieldR fS) [lamY, lamP] 11 (e05 m r a b e x (some (.lam k (P k))) o p) S = .ok (dueV (due05 m r k)) S := by
  obtain ⟨f, hf, hv⟩ := lam_val ok hp hn hk (a := a) (b := b) (e := e) (x := x) (y := some (.lam k (P k))) (o := o) (p := p)
  rw [mAskV_at (f := f) rfl hf, hv]
  cases hd : due05 m r k with
  | none => rfl
  | some d =>
    obtain ⟨w, h1, h2 | ⟨f, y, h2, h3, h4⟩⟩ := due_tag d
    · exact h2.2.elim
    · show fieldR fS (.err d.x S) = .ok d.t S
      unfold fieldR
      dsimp only
      rw [h1, h2]
      dsimp only
      rw [h3, h4]
theorem callV_val (ok : m.Ok) (hp : PureS S) {P : Nat → Pd} {r : Road} (hn : r.n.length ≤ 1000) {k : Nat} (hk : k < 2) (hd : due05 m r k = none) {a b e x o p : Option Dt} : mCallV P [lamY, lamP] 11 (e05 m r a b e x (some (.lam k (P k))) o p) S = .ok (nxt05 m r k).w S := by
  obtain ⟨f, hf, hv⟩ := lam_val ok hp hn hk (a := a) (b := b) (e := e) (x := x) (y := some (.lam k (P k))) (o := o) (p := p)
  rw [mCallV_at (f := f) rfl hf, hv, hd]
theorem same_wd {k : Nat} {w : Str} (h : PyData.strOk w = true) : m_law_same (k + 1) [.str w, .str w] S = .ok (.bl true) S := by
  refine Pe.eq (v_fn ?_)
  unfold b_law_same
  walk_at "dv"
  refine v_eqS h h ?_
  rw [decide_eq_true rfl]
  walk_at "dv"
  first | exact ⟨rfl, rfl⟩ | exact rfl
theorem same_due {o : Option Due} (h : ∀ d, o = some d → d.st = true) : m_law_same 20 [dueV o, dueV o] S = .ok (.bl true) S := by
  cases o with
  | none => exact same_non
  | some d =>
    have hs := h d rfl
    have key : ∀ (w : Str) (x : Dt), PyData.strOk w = true → m_law_same 19 [x, x] S = .ok (.bl true) S → m_law_same 20 [.tup [.str w, x], .tup [.str w, x]] S = .ok (.bl true) S := by
      intro w x hw hx
      refine Pe.eq (same_seq (k := 19) (ds := [.str w, x]) (.inl rfl) (Nat.le_of_ble_eq_true rfl) fun d hd => ?_)
      simp only [List.mem_cons, List.not_mem_nil, or_false] at hd
      rcases hd with rfl | rfl
      · exact same_wd hw
      · exact hx
    cases d with
    | bad n => exact key "badname" (.str n) (by decide +kernel) (same_wd hs)
    | tak n => exact key "taken" (.str n) (by decide +kernel) (same_wd hs)
    | noy n => exact key "noyard" (.str n) (by decide +kernel) (same_wd hs)
    | tur n => exact key "badturns" (.int n) (by decide +kernel) same_int
    | ful n => exact key "full" (.int n) (by decide +kernel) same_int
end
end Lw
set_option Elab.async false
set_option linter.all false
set_option maxRecDepth 100000
set_option maxHeartbeats 4000000
set_option autoImplicit false
noncomputable section
namespace Lw
open PySem Dv
/-! steps of our own words -/
local macro_rules | `(tactic| walk_at "num") => `(tactic| first | assumption | decide | omega)
local macro_rules | `(tactic| walk_at "dv0") => `(tactic| with_reducible first
  | refine v_seq ?_ | refine v_ifS ?_ | refine v_set ?_ | refine v_ret ?_ | refine v_asg ?_ | refine v_par ?_ | refine v_drop ?_ | refine v_nx ?_ | refine v_bk ?_ | refine v_ct ?_ | refine v_retN ?_ | refine v_for ?_
  | refine v_c ?_ | refine v_nil ?_ | refine v_cons ?_ | refine v_op ?_ | refine v_B ?_ | refine v_truth ?_ | refine v_andT ?_ | refine v_orT ?_ | refine v_notT ?_
  | refine v_andV ?_ | refine v_orV ?_ | refine v_notV ?_ | refine v_if ?_ | refine v_neg ?_ | refine v_chain ?_ | refine v_tup ?_ | refine v_lst ?_ | refine v_lstR ?_ | refine v_noPart ?_ | refine v_part ?_ | refine v_sl ?_
  | refine v_CB ?_ | refine v_call ?_ | refine v_abs ?_ | refine v_lc ?_ | refine v_yes ?_ | refine v_it ?_ | refine v_rng1 ?_ | refine v_rng2 ?_ | refine v_rng3 ?_ | refine v_T ?_ | refine v_F ?_
  | refine v_add ?_ | refine v_sub ?_ | refine v_iadd ?_ | refine v_lt ?_ | refine v_le ?_ | refine v_gt ?_ | refine v_ge ?_ | refine v_eqI ?_ | refine v_neI ?_ | refine v_eqB ?_ | refine v_neB ?_)
local macro_rules | `(tactic| walk_at "dv1") => `(tactic| first
  | (with_reducible refine' v_var ?h ?_); (case h => rfl)
  | (with_reducible refine' v_aug ?h ?_); (case h => rfl)
  | (with_reducible refine' v_div ?h1 ?h2 ?_); (case h1 => walk_at "num"); (case h2 => walk_at "num")
  | (with_reducible refine' v_mod ?h1 ?_); (case h1 => walk_at "num")
  | (with_reducible refine' v_pow ?h1 ?_); (case h1 => walk_at "num")
  | (with_reducible refine' v_mulR ?h1 ?_); (case h1 => walk_at "num")
  | (with_reducible refine' v_mulL ?h1 ?_); (case h1 => walk_at "num")
  | (with_reducible refine' v_fin ?h1 ?_); (case h1 => first | exact Or.inl rfl | exact Or.inr rfl | (refine Or.inr ?_; simp only [List.length_set, *]; done))
  | (with_reducible refine' v_ix ?h1 ?_); (case h1 => first | exact ixD_ref (by assumption) (by rfl) | rfl)
  | (with_reducible refine' v_len ?h1 ?_); (case h1 => first | exact lenD_ref (by assumption) | rfl)
  | (with_reducible refine' v_list ?h1 ?_); (case h1 => rfl)
  | (with_reducible refine' v_listR ?h1 ?_); (case h1 => rfl)
  | (with_reducible refine' v_tuple ?h1 ?_); (case h1 => rfl)
  | (with_reducible refine' v_isd ?h1 ?_); (case h1 => rfl)
  | (with_reducible refine' v_isiTy ?h1 ?h2 ?_); (case h1 => rfl); (case h2 => rfl)
  | (with_reducible refine' v_isiT ?h1 ?_); (case h1 => rfl))
local macro_rules | `(tactic| walk_at "dv2") => `(tactic| first
  | refine v_gsub (by rfl) (by rfl) (by assumption) (by rfl) (fun _ _ _ => ?_) | refine ⟨_, rfl, ?_⟩ | (with_reducible refine' ⟨rng_ok ?h1 ?h2, ?_⟩); (case h1 => omega); (case h2 => omega) | refine ⟨rfl, ?_⟩ | refine ⟨_, _, rfl, ?_⟩ | refine ⟨Nat.le_of_ble_eq_true rfl, ?_⟩)
local macro_rules | `(tactic| walk_at "dv3") => `(tactic| first
  | (with_reducible refine' v_dec (fun _ => ?_) (fun hn => absurd ?h hn)); (case h => first | assumption | omega | decide)
  | (with_reducible refine' v_dec (fun hn => absurd hn ?h) (fun _ => ?_)); (case h => first | assumption | omega | decide)
  | (with_reducible refine' v_ndec (fun _ => ?_) (fun hn => absurd hn ?h)); (case h => first | assumption | omega | decide)
  | (with_reducible refine' v_ndec (fun hn => absurd ?h hn) (fun _ => ?_)); (case h => first | assumption | omega | decide)
  | (with_reducible refine' v_bT ?h ?_); (case h => first | assumption | rfl)
  | (with_reducible refine' v_bF ?h ?_); (case h => first | assumption | rfl))
local macro_rules | `(tactic| walk_at "dv4") => `(tactic| with_reducible first
  | refine v_places ?_ | refine v_roads ?_ | refine v_over ?_ | refine v_line ?_ | refine v_spots ?_ | refine v_myards ?_ | refine v_mroads ?_ | refine v_mW (by decide +kernel) ?_ | refine v_mK (by decide +kernel) ?_
  | refine v_itX ?_ | refine v_ev ?_ | refine v_rev ?_ | refine v_zs ?_ | refine v_enum ?_ | refine v_enum2 ?_ | refine v_makeV ?_ | refine v_tryN ?_ | refine v_lc2 ?_ | refine v_fz ?_ | refine v_make ?_ | refine v_fldS ?_)
local macro_rules | `(tactic| walk_at "dv5") => `(tactic| first
  | refine ⟨_, _, rfl, rfl, ?_⟩ | refine ⟨⟨_, _, rfl⟩, ?_⟩ | refine ⟨⟨_, _, _, rfl⟩, ?_⟩ | refine ⟨_, _, _, rfl, ?_⟩ | refine Or.inl ⟨_, rfl, ?_⟩ | refine Or.inr ⟨_, (fun _ z => by cases z), rfl, ?_⟩)
local macro_rules | `(tactic| walk_at "dv") => `(tactic| repeat (first | walk_at "dv0" | walk_at "dv4" | walk_at "dv1" | walk_at "dv3" | walk_at "dv2" | walk_at "dv5"))
/-! ### what was made, by value from here on -/
theorem frz_keep {n i : Nat} {T : Store} (h : i < n) : frz n T deepF (.ref i) = some (.ref i) := by
  show frz n T (11 + 1) (.ref i) = _
  unfold frz
  rw [if_neg (by simp [noRef])]
  dsimp only
  rw [if_pos h]
def okO : Option Dt → Bool
  | none => true
  | some d => noRef 12 d
def frz1 (n : Nat) (T : Store) (o : Option Dt) : Option (Option Dt) := match o with
  | none => some none
  | some d => (frz n T deepF d).map some
theorem okO_frz {n : Nat} {T : Store} {o : Option Dt} (h : okO o = true) : frz1 n T o = some o := by
  cases o with
  | none => rfl
  | some d =>
    show (frz n T deepF d).map some = _
    rw [frz_pure (k := deepF) h]
    rfl
theorem frzE_one {n : Nat} {T : Store} {o o' : Option Dt} {e e' : Dv.Env} (h : frz1 n T o = some o') (k : frzE n T e = some e') : frzE n T (o :: e) = some (o' :: e') := by
  have k : mapO (frz1 n T) e = some e' := k
  show mapO (frz1 n T) (o :: e) = _
  unfold mapO
  rw [h, k]
  rfl
/-! law in parts -/
def b_law_1 (P : Nat → Pd) : Bd := (mFzB 1 mNx)
def b_law_2 (P : Nat → Pd) : Bd := (mSeq (mAsg (gTp 2 (gCons' (gNm 3) (gCons' (gNm 2) gNil'))) (mTup (mCons (mVar 12) (mCons (mVar 13) mNil)))) (b_law_1 P))
def b_law_3 (P : Nat → Pd) : Bd := (mSeq (mIfS (mB (mOp mGt (mCB (mLenI "Web" m_Web_dlen) (mCons (mVar 12) mNil)) (mCB (mLenI "Web" m_Web_dlen) (mCons (mVar 3) mNil)))) (mAsg (gKeyD (mVar 13) (mC (.str "yards"))) (mOp mAdd (mGetS "yards" (mVar 2)) (mLst (mCons (mVar 5) mNil)))) (mAsg (gKeyD (mVar 13) (mC (.str "roads"))) (mOp mAdd (mGetS "roads" (mVar 2)) (mLst (mCons (mTup (mCons (mVar 5) (mCons (mVar 6) (mCons (mVar 7) (mCons (mVar 8) (mCons (mVar 9) mNil)))))) mNil))))) (b_law_2 P))
def b_law_4 (P : Nat → Pd) : Bd := (mSeq (mSet 13 (mCB mDictC (mCons (mVar 2) mNil))) (b_law_3 P))
def b_law_5 (P : Nat → Pd) : Bd := (mSeq (mIfS (mNotT (mTruth (mCall 2 m_law_webs_stand (mCons (mVar 3) (mCons (mVar 2) mNil))))) (mRet (mC (.bl false))) mNx) (b_law_4 P))
def b_law_6 (P : Nat → Pd) : Bd := (mIfS (mNotT (mTruth (mCall 2 m_law_webs_stand (mCons (mVar 3) (mCons (mVar 2) mNil))))) (mRet (mC (.bl false))) mNx)
def b_law_7 (P : Nat → Pd) : Bd := (mSeq (mIfS (mB (mOp (mIs false) (mVar 10) (mC .non))) (mBeg 1 (mSeq (mSet 12 (mCallV P [(mMeth "Web" "with_yard" 2 m_Web_with_yard (mVar 3) (mCons (mVar 5) mNil)), (mMethK "Web" "with_passage" 4 2 6 [1, 0] m_Web_with_passage (mVar 3) (mCons (mVar 5) (mCons (mVar 6) (mCons (mVar 7) mNil))) (mCons (mVar 9) (mCons (mVar 8) mNil)))] 11)) (b_law_5 P))) mNx) (b_law_6 P))
def b_law_8 (P : Nat → Pd) : Bd := (mSeq (mSet 10 (mCall 6 m_law_road_due (mCons (mVar 2) (mCons (mVar 5) (mCons (mVar 6) (mCons (mVar 7) (mCons (mVar 8) (mCons (mVar 9) mNil)))))))) (mSet 11 (mC (.lam 1 (P 1)))))
def b_law_9 (P : Nat → Pd) : Bd := (mSeq (mSet 9 (mCall 2 m_law_pick (mCons (mVar 1) (mCons (mLst (mCons (mC (.int 1)) (mCons (mNeg (mC (.int 2))) (mCons (mC (.int 0)) (mCons (mC (.int 99)) (mCons (mC (.int 100)) (mCons (mOp mAdd (mC (.int 1)) (mCall 2 m_law_draw (mCons (mVar 1) (mCons (mC (.int 99)) mNil)))) mNil))))))) mNil)))) (b_law_8 P))
def b_law_10 (P : Nat → Pd) : Bd := (mSeq (mSet 8 (mCall 2 m_law_pick (mCons (mVar 1) (mCons (mLst (mCons (mC (.int 1)) (mCons (mNeg (mC (.int 1))) (mCons (mC (.int 0)) (mCons (mC (.int 99)) (mCons (mNeg (mC (.int 99))) (mCons (mC (.int 100)) (mCons (mNeg (mC (.int 100))) (mCons (mOp mPow (mC (.int 10)) (mC (.int 20))) (mCons (mOp mAdd (mC (.int 1)) (mCall 2 m_law_draw (mCons (mVar 1) (mCons (mC (.int 99)) mNil)))) mNil)))))))))) mNil)))) (b_law_9 P))
def b_law_11 (P : Nat → Pd) : Bd := (mSeq (mAsg (gTp 2 (gCons' (gNm 6) (gCons' (gNm 7) gNil'))) (mTup (mCons (mCall 2 m_law_pick (mCons (mVar 1) (mCons (mOp mAdd (mGetS "yards" (mVar 2)) (mLst (mCons (mC (.str "nope")) mNil))) mNil))) (mCons (mCall 2 m_law_pick (mCons (mVar 1) (mCons (mOp mAdd (mOp mAdd (mGetS "yards" (mVar 2)) (mGetS "yards" (mVar 2))) (mLst (mCons (mC (.str "none")) mNil))) mNil))) mNil)))) (b_law_10 P))
def b_law_12 (P : Nat → Pd) : Bd := (mSeq (mIfS (mNotT (mTruth (mCall 2 (m_law_same 20) (mCons (mAskV P (fieldR fS) [(mMeth "Web" "with_yard" 2 m_Web_with_yard (mVar 3) (mCons (mVar 5) mNil)), (mMethK "Web" "with_passage" 4 2 6 [1, 0] m_Web_with_passage (mVar 3) (mCons (mVar 5) (mCons (mVar 6) (mCons (mVar 7) mNil))) (mCons (mVar 9) (mCons (mVar 8) mNil)))] 11) (mCons (mVar 10) mNil))))) (mRet (mC (.bl false))) mNx) (b_law_7 P))
def b_law_13 (P : Nat → Pd) : Bd := (mSeq (mIfS (mOrT (mB (mOp mEq (mCall 2 m_law_draw (mCons (mVar 1) (mCons (mC (.int 3)) mNil))) (mC (.int 0)))) (mB (mOp mEq (mGetS "yards" (mVar 2)) (mLst mNil)))) (mSeq (mSet 10 (mOrV (mCall 2 m_law_new_due (mCons (mVar 2) (mCons (mVar 5) mNil))) (mIf (mB (mOp mGt (mCB mLen (mCons (mGetS "yards" (mVar 2)) mNil)) (mC (.int 5)))) (mTup (mCons (mC (.str "full")) (mCons (mC (.int 6)) mNil))) (mC .non)))) (mSet 11 (mC (.lam 0 (P 0))))) (b_law_11 P)) (b_law_12 P))
def b_law_14 (P : Nat → Pd) : Bd := (mSeq (mAsg (gTp 4 (gCons' (gNm 6) (gCons' (gNm 7) (gCons' (gNm 8) (gCons' (gNm 9) gNil'))))) (mTup (mCons (mC (.str "")) (mCons (mC (.str "")) (mCons (mC (.int 1)) (mCons (mC (.int 1)) mNil)))))) (b_law_13 P))
def b_law_15 (P : Nat → Pd) : Bd := (mSeq (mSet 5 (mCall 2 m_law_new_name (mCons (mVar 1) (mCons (mVar 2) mNil)))) (b_law_14 P))
def b_law_16 (P : Nat → Pd) : Bd := (mSeq (mFor (mRng1 (mCons (mC (.int 24)) mNil)) (gNm 4) (b_law_15 P)) (mRet (mC (.bl true))))
def b_law_17 (P : Nat → Pd) : Bd := (mSeq (mSet 3 (mFz (mMake "Web" 1 m_Web_dinit mNil))) (b_law_16 P))
def b_law_18 (P : Nat → Pd) : Bd := (mSeq (mSet 2 (mDict ["yards", "roads"] [(mLst mNil), (mLst mNil)])) (b_law_17 P))
theorem b_law_eq (P : Nat → Pd) : b_law P = (mSeq (mSet 1 (mCall 1 m_law_flow (mCons (mVar 0) mNil))) (b_law_18 P)) := rfl
/-! ### the block that goes on with the new web -/
theorem frz_refD1 {n : Nat} {T : Store} {k : Nat} {ks : List L2.Key} {ds : List Dt} (hT : T[k]? = some (.dct ks ds)) (hk : n ≤ k) (h : ds.all (noRef 11) = true) : frz n T deepF (.ref k) = some (.dct ks ds) := by
  show frz n T (11 + 1) (.ref k) = _
  unfold frz
  rw [if_neg (by simp [noRef])]
  dsimp only
  rw [if_neg (by omega), hT]
  dsimp only
  rw [mapO_pure h]
  rfl
theorem putD_r (X Y v : Dt) : putD mF [X, Y] (.inr "roads") v = some [X, v] := by
  unfold putD
  rw [if_neg (show ¬ (Sum.inr ("yards" : Str) : L2.Key) = .inr "roads" by decide +kernel)]
  unfold putD
  rw [if_pos rfl, if_neg (show ¬ hasK (.inr ("roads" : Str)) [] = true by decide +kernel)]
  rfl
theorem putD_y (X Y v : Dt) : putD mF [X, Y] (.inr "yards") v = some [v, Y] := by
  unfold putD
  rw [if_pos rfl, if_neg (show ¬ hasK (.inr ("yards" : Str)) [.inr "roads"] = true by decide +kernel)]
theorem gkeyD {en : Dv.Env} {T : Store} {k : Nat} {i : Nat} {key : Str} {X Y v : Dt} {ds : List Dt} (h6 : en[i]? = some (some (.ref k))) (hT : T[k]? = some (.dct mF [X, Y])) (hp : putD mF [X, Y] (.inr key) v = some ds) : gKeyD (mVar i) (mC (.str key)) v en T = some (en, T.set k (.dct mF ds)) := by
  have e6 : mVar i en T = .ok (.ref k) T := by unfold mVar; rw [h6]
  unfold gKeyD
  rw [e6]
  show (setKx T (.ref k) (.inr key) v).map (fun S3 => (en, S3)) = _
  unfold setKx
  simp only [hT]
  rw [if_pos (by decide), hp]
  rfl
theorem v_addTU {xs ys : List Dt} {S : Store} {Q : Dt → Store → Prop} {X : Ex → Store → Prop} (hl : xs.length + ys.length ≤ 1000000) (q : Q (.lst (xs ++ ys)) S) : Pe (mAdd (.lst xs) (.lst ys) S) Q X := v_ifok hl q
def b_law_19 (P : Nat → Pd) : Bd := mSeq (mSet 12 (mCallV P [lamY, lamP] 11)) (b_law_5 P)
section
variable {m : Mod} {S : Store}
theorem block05 (ok : m.Ok) (nm : m.Nm) (hp : PureS S) (hF : FlowAt S 0) (hl : S.length = 1) {P : Nat → Pd} {r : Road} (hn : r.n.length ≤ 1000) (sn : PyData.strOk r.n = true) {k : Nat} (hk : k < 2) (hd : due05 m r k = none) {a b e x o p : Option Dt} (oa : okO a = true) (ob : b = some (.ref 0)) (oe : okO e = true) (ox : okO x = true) (oo : okO o = true)
    {QS : Fl → Dv.Env → Store → Prop} {XS : Ex → Dv.Env → Store → Prop} (q : ∀ (m' : Mod) o' p', m'.Ok → m'.Nm → okO o' = true → QS .nx (t05 a b (some m'.d) (some m'.w) e (some (.str r.n)) (some (.str r.b)) (some (.str r.e)) (some (.int r.h)) (some (.int r.t)) x (some (.lam k (P k))) o' p') S) :
    Ps (b_law_19 P (e05 m r a b e x (some (.lam k (P k))) o p) S) QS XS := by
  subst ob
  have lr := ok.lr
  have ly := ok.ly
  unfold b_law_19
  refine v_seq (v_set (Pe.of (callV_val ok hp hn hk hd) ?_))
  have okn : (nxt05 m r k).Ok ∧ (nxt05 m r k).Nm := by
    match k, hk with
    | 0, _ => exact ⟨ok_yard ok hd sn, nm_yard nm hd⟩
    | 1, _ =>
      obtain ⟨h1, h2⟩ := ok_road ok hd sn
      refine ⟨h1, nm.ny, fun q hq => ?_⟩
      rcases List.mem_append.mp hq with z | z
      · exact nm.nr q z
      · rw [List.mem_singleton.mp z]
        exact h2
  unfold b_law_5
  refine v_seq (v_ifS (v_notT (v_truth (v_call (v_cons (v_var rfl (v_cons (v_var rfl (v_nil ⟨rfl, ?_⟩)))))))))
  refine Pe.of (webs_stand_ok ok hp) ⟨_, rfl, v_bF rfl (v_nx ?_)⟩
  unfold b_law_4
  refine v_seq (v_set (v_CB (v_cons (v_var rfl (v_nil ?_)))))
  refine v_dictC (ks := mF) (ds := [.lst m.ysD, .lst m.rsD]) rfl ?_
  have hT : (S ++ [Ob.dct mF [.lst m.ysD, .lst m.rsD]])[1]? = some (.dct mF [.lst m.ysD, .lst m.rsD]) := by
    rw [← hl]
    exact last_at
  have pm : pureO (.dct mF [.lst m.ysD, .lst m.rsD]) = true := by
    show [Dt.lst m.ysD, .lst m.rsD].all (noRef 11) = true
    simp only [List.all_cons, List.all_nil, Bool.and_true, Bool.and_eq_true]
    exact ⟨strs_pure m.ys 10, roads_pure m.rs 9⟩
  have pT : PureS (S ++ [Ob.dct mF [.lst m.ysD, .lst m.rsD]]) := hp.push pm
  rw [hl]
  have tk : (S ++ [Ob.dct mF [.lst m.ysD, .lst m.rsD]]).take 1 = S := by
    rw [← hl]
    exact List.take_left
  have hlen : (S ++ [Ob.dct mF [.lst m.ysD, .lst m.rsD]]).length = 2 := by simp [hl]
  generalize hS2 : S ++ [Ob.dct mF [.lst m.ysD, .lst m.rsD]] = T at hT pT tk hlen ⊢
  -- behind the choice of the entry
  have fin : ∀ {T' : Store} {m' : Mod}, m'.Ok → m'.Nm → T'.length = 2 → T'.take 1 = S → T'[1]? = some (.dct mF [.lst m'.ysD, .lst m'.rsD]) → Ps (b_law_2 P (t05 a (some (.ref 0)) (some m.d) (some m.w) e (some (.str r.n)) (some (.str r.b)) (some (.str r.e)) (some (.int r.h)) (some (.int r.t)) x (some (.lam k (P k))) (some m'.w) (some (.ref 1))) T') QS XS := by
    intro T' m' ok' nm' l' t' h'
    unfold b_law_2
    refine v_seq (v_asg (v_tup (v_cons (v_var rfl (v_cons (v_var rfl (v_nil ⟨Nat.le_of_ble_eq_true rfl, _, _, rfl, ?_⟩)))))))
    have g0 : frz1 1 T' (some (.ref 0)) = some (some (.ref 0)) := by
      show (frz 1 T' deepF (.ref 0)).map some = _
      rw [frz_keep (by decide)]
      rfl
    have g1 : frz1 1 T' (some (.ref 1)) = some (some m'.d) := by
      show (frz 1 T' deepF (.ref 1)).map some = _
      have ha : [Dt.lst m'.ysD, .lst m'.rsD].all (noRef 11) = true := by
        simp only [List.all_cons, List.all_nil, Bool.and_true, Bool.and_eq_true]
        exact ⟨strs_pure m'.ys 10, roads_pure m'.rs 9⟩
      rw [frz_refD1 h' (Nat.le_refl _) ha]
      rfl
    have ow : okO (some m'.w) = true := web_pure m' 9
    unfold b_law_1
    refine v_fzB (frzE_one (okO_frz oa) (frzE_one g0 (frzE_one g1 (frzE_one (okO_frz ow) (frzE_one (okO_frz oe) (frzE_one (okO_frz rfl) (frzE_one (okO_frz rfl) (frzE_one (okO_frz rfl) (frzE_one (okO_frz rfl) (frzE_one (okO_frz rfl) (frzE_one (okO_frz ox) (frzE_one (okO_frz rfl) (frzE_one (okO_frz ow) (frzE_one g1 rfl)))))))))))))) (exit_pure (by rw [t']; exact hp)) (by omega) ?_
    rw [t']
    exact v_nx (q m' _ _ ok' nm' ow)
  unfold b_law_3
  refine v_seq (v_ifS (v_B (v_op (v_CB (v_cons (v_var rfl (v_nil (v_lenI (c := "Web") rfl (Pe.of (web_len_ok okn.1) ⟨_, rfl, ⟨by omega, by have := okn.1.ly; omega⟩, ?_⟩)))))))))
  refine v_CB (v_cons (v_var rfl (v_nil (v_lenI (c := "Web") rfl (Pe.of (web_len_ok ok) ⟨_, rfl, ⟨by omega, by omega⟩, v_gt ⟨_, rfl, ?_⟩⟩)))))
  obtain rfl | rfl : k = 0 ∨ k = 1 := by omega
  · have ln : (nxt05 m r 0).ys.length = m.ys.length + 1 := by simp [nxt05]
    refine v_dec (fun _ => ?_) (fun z => by omega)
    refine v_asg (v_op (Pe.of (getS_yards rfl) (v_lst (v_cons (v_var rfl (v_nil ⟨Nat.le_of_ble_eq_true rfl, ?_⟩))))))
    refine v_addTU (by simp; omega) ⟨_, _, gkeyD rfl hT (putD_y _ _ _), ?_⟩
    exact fin (T' := T.set 1 (.dct mF [.lst (m.ysD ++ [.str r.n]), .lst m.rsD])) okn.1 okn.2 (by rw [List.length_set]; exact hlen) (by rw [List.take_set_of_le (Nat.le_refl _)]; exact tk) (by rw [set_same hT]; simp [nxt05, Mod.ysD])
  · have ln : (nxt05 m r 1).ys.length = m.ys.length := rfl
    refine v_dec (fun z => by omega) (fun _ => ?_)
    refine v_asg (v_op (Pe.of (getS_roads rfl) (v_lst (v_cons (v_tup (v_cons (v_var rfl (v_cons (v_var rfl (v_cons (v_var rfl (v_cons (v_var rfl (v_cons (v_var rfl (v_nil ⟨Nat.le_of_ble_eq_true rfl, v_nil ⟨Nat.le_of_ble_eq_true rfl, ?_⟩⟩))))))))))))))))
    refine v_addTU (by simp; omega) ⟨_, _, gkeyD rfl hT (putD_r _ _ _), ?_⟩
    exact fin (T' := T.set 1 (.dct mF [.lst m.ysD, .lst (m.rsD ++ [r.d])])) okn.1 okn.2 (by rw [List.length_set]; exact hlen) (by rw [List.take_set_of_le (Nat.le_refl _)]; exact tk) (by rw [set_same hT]; simp [nxt05, Mod.rsD])
end
end Lw
set_option Elab.async false
set_option linter.all false
set_option maxRecDepth 100000
set_option maxHeartbeats 4000000
set_option autoImplicit false
noncomputable section
namespace Lw
open PySem Dv
/-! steps of our own words -/
local macro_rules | `(tactic| walk_at "num") => `(tactic| first | assumption | decide | omega)
local macro_rules | `(tactic| walk_at "dv0") => `(tactic| with_reducible first
  | refine v_seq ?_ | refine v_ifS ?_ | refine v_set ?_ | refine v_ret ?_ | refine v_asg ?_ | refine v_par ?_ | refine v_drop ?_ | refine v_nx ?_ | refine v_bk ?_ | refine v_ct ?_ | refine v_retN ?_ | refine v_for ?_
  | refine v_c ?_ | refine v_nil ?_ | refine v_cons ?_ | refine v_op ?_ | refine v_B ?_ | refine v_truth ?_ | refine v_andT ?_ | refine v_orT ?_ | refine v_notT ?_
  | refine v_andV ?_ | refine v_orV ?_ | refine v_notV ?_ | refine v_if ?_ | refine v_neg ?_ | refine v_chain ?_ | refine v_tup ?_ | refine v_lst ?_ | refine v_lstR ?_ | refine v_noPart ?_ | refine v_part ?_ | refine v_sl ?_
  | refine v_CB ?_ | refine v_call ?_ | refine v_abs ?_ | refine v_lc ?_ | refine v_yes ?_ | refine v_it ?_ | refine v_rng1 ?_ | refine v_rng2 ?_ | refine v_rng3 ?_ | refine v_T ?_ | refine v_F ?_
  | refine v_add ?_ | refine v_sub ?_ | refine v_iadd ?_ | refine v_lt ?_ | refine v_le ?_ | refine v_gt ?_ | refine v_ge ?_ | refine v_eqI ?_ | refine v_neI ?_ | refine v_eqB ?_ | refine v_neB ?_)
local macro_rules | `(tactic| walk_at "dv1") => `(tactic| first
  | (with_reducible refine' v_var ?h ?_); (case h => rfl)
  | (with_reducible refine' v_aug ?h ?_); (case h => rfl)
  | (with_reducible refine' v_div ?h1 ?h2 ?_); (case h1 => walk_at "num"); (case h2 => walk_at "num")
  | (with_reducible refine' v_mod ?h1 ?_); (case h1 => walk_at "num")
  | (with_reducible refine' v_pow ?h1 ?_); (case h1 => walk_at "num")
  | (with_reducible refine' v_mulR ?h1 ?_); (case h1 => walk_at "num")
  | (with_reducible refine' v_mulL ?h1 ?_); (case h1 => walk_at "num")
  | (with_reducible refine' v_fin ?h1 ?_); (case h1 => first | exact Or.inl rfl | exact Or.inr rfl | (refine Or.inr ?_; simp only [List.length_set, *]; done))
  | (with_reducible refine' v_ix ?h1 ?_); (case h1 => first | exact ixD_ref (by assumption) (by rfl) | rfl)
  | (with_reducible refine' v_len ?h1 ?_); (case h1 => first | exact lenD_ref (by assumption) | rfl)
  | (with_reducible refine' v_list ?h1 ?_); (case h1 => rfl)
  | (with_reducible refine' v_listR ?h1 ?_); (case h1 => rfl)
  | (with_reducible refine' v_tuple ?h1 ?_); (case h1 => rfl)
  | (with_reducible refine' v_isd ?h1 ?_); (case h1 => rfl)
  | (with_reducible refine' v_isiTy ?h1 ?h2 ?_); (case h1 => rfl); (case h2 => rfl)
  | (with_reducible refine' v_isiT ?h1 ?_); (case h1 => rfl))
local macro_rules | `(tactic| walk_at "dv2") => `(tactic| first
  | refine v_gsub (by rfl) (by rfl) (by assumption) (by rfl) (fun _ _ _ => ?_) | refine ⟨_, rfl, ?_⟩ | (with_reducible refine' ⟨rng_ok ?h1 ?h2, ?_⟩); (case h1 => omega); (case h2 => omega) | refine ⟨rfl, ?_⟩ | refine ⟨_, _, rfl, ?_⟩ | refine ⟨Nat.le_of_ble_eq_true rfl, ?_⟩)
local macro_rules | `(tactic| walk_at "dv3") => `(tactic| first
  | (with_reducible refine' v_dec (fun _ => ?_) (fun hn => absurd ?h hn)); (case h => first | assumption | omega | decide)
  | (with_reducible refine' v_dec (fun hn => absurd hn ?h) (fun _ => ?_)); (case h => first | assumption | omega | decide)
  | (with_reducible refine' v_ndec (fun _ => ?_) (fun hn => absurd hn ?h)); (case h => first | assumption | omega | decide)
  | (with_reducible refine' v_ndec (fun hn => absurd ?h hn) (fun _ => ?_)); (case h => first | assumption | omega | decide)
  | (with_reducible refine' v_bT ?h ?_); (case h => first | assumption | rfl)
  | (with_reducible refine' v_bF ?h ?_); (case h => first | assumption | rfl))
local macro_rules | `(tactic| walk_at "dv4") => `(tactic| with_reducible first
  | refine v_places ?_ | refine v_roads ?_ | refine v_over ?_ | refine v_line ?_ | refine v_spots ?_ | refine v_myards ?_ | refine v_mroads ?_ | refine v_mW (by decide +kernel) ?_ | refine v_mK (by decide +kernel) ?_
  | refine v_itX ?_ | refine v_ev ?_ | refine v_rev ?_ | refine v_zs ?_ | refine v_enum ?_ | refine v_enum2 ?_ | refine v_makeV ?_ | refine v_tryN ?_ | refine v_lc2 ?_ | refine v_fz ?_ | refine v_make ?_ | refine v_fldS ?_)
local macro_rules | `(tactic| walk_at "dv5") => `(tactic| first
  | refine ⟨_, _, rfl, rfl, ?_⟩ | refine ⟨⟨_, _, rfl⟩, ?_⟩ | refine ⟨⟨_, _, _, rfl⟩, ?_⟩ | refine ⟨_, _, _, rfl, ?_⟩ | refine Or.inl ⟨_, rfl, ?_⟩ | refine Or.inr ⟨_, (fun _ z => by cases z), rfl, ?_⟩)
local macro_rules | `(tactic| walk_at "dv") => `(tactic| repeat (first | walk_at "dv0" | walk_at "dv4" | walk_at "dv1" | walk_at "dv3" | walk_at "dv2" | walk_at "dv5"))
section
variable {m : Mod} {S : Store}
theorem v_eqNilS {l : List Str} {Q : Dt → Store → Prop} {X : Ex → Store → Prop} (h : ∀ y ∈ l, PyData.strOk y = true) (q : Q (.bl (decide (l = []))) S) : Pe (mEq (.lst (l.map Dt.str)) (.lst []) S) Q X := by
  have ko : okD 12 (Dt.lst (l.map Dt.str)) = true := all_map (p := okD 11) fun y hy => by simp [okD, h y hy]
  refine v_ifok ⟨ko, rfl⟩ ?_
  have e : eqD (.lst (l.map Dt.str)) (.lst []) = decide (l = []) := by
    cases l <;> rfl
  show Q (.bl (eqD (.lst (l.map Dt.str)) (.lst []))) S
  rw [e]
  exact q
theorem due_st (ok : m.Ok) {r : Road} (sn : PyData.strOk r.n = true) (sb : PyData.strOk r.b = true) (se : PyData.strOk r.e = true) {k : Nat} : ∀ d, due05 m r k = some d → d.st = true := by
  have n1 : ∀ d, newDue m r.n = some d → d.st = true := by
    intro d h
    unfold newDue at h
    split at h
    · split at h
      · cases h
        exact sn
      · cases h
    · cases h
      exact sn
  have y1 : ∀ {y : Str}, PyData.strOk y = true → ∀ d, yarDue m y = some d → d.st = true := by
    intro y hy d h
    unfold yarDue at h
    split at h
    · cases h
    · cases h
      exact hy
  have t1 : ∀ {i : Int}, ∀ d, turDue i = some d → d.st = true := by
    intro i d h
    unfold turDue at h
    split at h
    · cases h
    · cases h
      rfl
  have f1 : ∀ {c : Prop} [Decidable c] {n : Int}, ∀ d, (if c then some (Due.ful n) else none) = some d → d.st = true := by
    intro c _ n d h
    split at h
    · cases h
      rfl
    · cases h
  have orS : ∀ {a b : Option Due}, (∀ d, a = some d → d.st = true) → (∀ d, b = some d → d.st = true) → ∀ d, a.or b = some d → d.st = true := by
    intro a b ha hb d h
    cases a with
    | some x => exact ha d h
    | none => exact hb d h
  match k with
  | 0 => exact orS n1 f1
  | k + 1 => exact orS n1 (orS (y1 sb) (orS (y1 se) (orS t1 (orS t1 f1))))
/-- behind the choice of what is asked -/
theorem rest05 (ok : m.Ok) (nm : m.Nm) (hp : PureS S) (hF : FlowAt S 0) (hl : S.length = 1) {P : Nat → Pd} {r : Road} (hn : r.n.length ≤ 1000) (sn : PyData.strOk r.n = true) (sb : PyData.strOk r.b = true) (se : PyData.strOk r.e = true) {k : Nat} (hk : k < 2) {a e o p : Option Dt} (oa : okO a = true) (oe : okO e = true) (oo : okO o = true)
    {QS : Fl → Dv.Env → Store → Prop} {XS : Ex → Dv.Env → Store → Prop} (q : ∀ (m' : Mod) x5 x6 x7 x8 x9 x10 x11 x12 x13, m'.Ok → m'.Nm → okO x12 = true → QS .nx (t05 a (some (.ref 0)) (some m'.d) (some m'.w) e x5 x6 x7 x8 x9 x10 x11 x12 x13) S) :
    Ps (b_law_12 P (e05 m r a (some (.ref 0)) e (some (dueV (due05 m r k))) (some (.lam k (P k))) o p) S) QS XS := by
  unfold b_law_12
  refine v_seq (v_ifS (v_notT (v_truth (v_call (v_cons (Pe.of (askV_val ok hp hn hk) (v_cons (v_var rfl (v_nil ⟨rfl, ?_⟩)))))))))
  refine Pe.of (same_due (due_st ok sn sb se)) ⟨_, rfl, v_bF rfl (v_nx ?_)⟩
  unfold b_law_7
  cases hd : due05 m r k with
  | some d =>
    have od : okO (some d.t) = true := by cases d <;> rfl
    refine v_seq (v_ifS (v_B (v_op (v_var rfl (v_c (v_isd (show mIs false d.t .non S = .ok (.bl false) S by cases d <;> rfl) ⟨_, rfl, v_F (v_nx ?_)⟩))))))
    unfold b_law_6
    refine v_ifS (v_notT (v_truth (v_call (v_cons (v_var rfl (v_cons (v_var rfl (v_nil ⟨rfl, ?_⟩))))))))
    refine Pe.of (webs_stand_ok ok hp) ⟨_, rfl, v_bF rfl (v_nx ?_)⟩
    exact q m _ _ _ _ _ _ _ _ _ ok nm oo
  | none =>
    refine v_seq (v_ifS (v_B (v_op (v_var rfl (v_c (v_isd rfl ⟨_, rfl, v_T ?_⟩))))))
    show Ps (mBeg 1 (b_law_19 P) _ _) _ _
    unfold mBeg
    rw [if_pos (by omega)]
    refine block05 ok nm hp hF hl hn sn hk hd oa rfl oe rfl oo fun m' o' p' ok' nm' oo' => ?_
    unfold b_law_6
    refine v_ifS (v_notT (v_truth (v_call (v_cons (v_var rfl (v_cons (v_var rfl (v_nil ⟨rfl, ?_⟩))))))))
    refine Pe.of (webs_stand_ok ok' hp) ⟨_, rfl, v_bF rfl (v_nx ?_)⟩
    exact q m' _ _ _ _ _ _ _ _ _ ok' nm' oo'
theorem turn05 (ok : m.Ok) (nm : m.Nm) (hp : PureS S) (hF : FlowAt S 0) (hl : S.length = 1) {P : Nat → Pd} {a e x5 x6 x7 x8 x9 x10 x11 x12 x13 : Option Dt} (oa : okO a = true) (oe : okO e = true) (oo : okO x12 = true)
    {QS : Fl → Dv.Env → Store → Prop} {XS : Ex → Dv.Env → Store → Prop} (q : ∀ (m' : Mod) S' x5 x6 x7 x8 x9 x10 x11 x12 x13, m'.Ok → m'.Nm → PureS S' → FlowAt S' 0 → S'.length = 1 → okO x12 = true → QS .nx (t05 a (some (.ref 0)) (some m'.d) (some m'.w) e x5 x6 x7 x8 x9 x10 x11 x12 x13) S') :
    Ps (b_law_15 P (t05 a (some (.ref 0)) (some m.d) (some m.w) e x5 x6 x7 x8 x9 x10 x11 x12 x13) S) QS XS := by
  have ly := ok.ly
  have lr := ok.lr
  unfold b_law_15
  refine v_seq (v_set (v_call (v_cons (v_var rfl (v_cons (v_var rfl (v_nil ⟨rfl, ?_⟩)))))))
  refine new_name_ok ok nm hF fun n S1 sn hn z1 => ?_
  unfold b_law_14
  refine v_seq (v_asg (v_tup (v_cons (v_c (v_cons (v_c (v_cons (v_c (v_cons (v_c (v_nil ⟨Nat.le_of_ble_eq_true rfl, _, _, rfl, ?_⟩)))))))))))
  have emp : PyData.strOk ("" : Str) = true := by decide +kernel
  have fin : ∀ {T : Store} {r : Road} {k : Nat}, Fz 0 S T → r.n.length ≤ 1000 → PyData.strOk r.n = true → PyData.strOk r.b = true → PyData.strOk r.e = true → k < 2 →
      Ps (b_law_12 P (e05 m r a (some (.ref 0)) e (some (dueV (due05 m r k))) (some (.lam k (P k))) x12 x13) T) QS XS := by
    intro T r k z h1 h2 h3 h4 hk
    exact rest05 ok nm (z.pure hp) z.flow (z.len.trans hl) h1 h2 h3 h4 hk oa oe oo fun m' y5 y6 y7 y8 y9 y10 y11 y12 y13 ok' nm' o' => q m' T _ _ _ _ _ _ _ _ _ ok' nm' (z.pure hp) z.flow (z.len.trans hl) o'
  have yard : ∀ {T : Store} {en : Dv.Env}, Fz 0 S T → en = t05 a (some (.ref 0)) (some m.d) (some m.w) e (some (.str n)) (some (.str "")) (some (.str "")) (some (.int 1)) (some (.int 1)) x10 x11 x12 x13 → ∀ {QS : Fl → Dv.Env → Store → Prop} {XS : Ex → Dv.Env → Store → Prop}, QS .nx (e05 m ⟨n, "", "", 1, 1⟩ a (some (.ref 0)) e (some (dueV (due05 m ⟨n, "", "", 1, 1⟩ 0))) (some (.lam 0 (P 0))) x12 x13) T →
      Ps (mSeq (mSet 10 (mOrV (mCall 2 m_law_new_due (mCons (mVar 2) (mCons (mVar 5) mNil))) (mIf (mB (mOp mGt (mCB mLen (mCons (mGetS "yards" (mVar 2)) mNil)) (mC (.int 5)))) (mTup (mCons (mC (.str "full")) (mCons (mC (.int 6)) mNil))) (mC .non)))) (mSet 11 (mC (.lam 0 (P 0)))) en T) QS XS := by
    rintro T en z rfl QS XS q
    refine v_seq (v_set (v_orV (v_call (v_cons (v_var rfl (v_cons (v_var rfl (v_nil ⟨rfl, ?_⟩))))))))
    refine Pe.of (law_new_due_val (m := m) (by omega) (by omega) hn) ?_
    have qq : ∀ x : Dt, x = dueV (yardDue m n) → Ps (mSet 11 (mC (.lam 0 (P 0))) ((t05 a (some (.ref 0)) (some m.d) (some m.w) e (some (.str n)) (some (.str "")) (some (.str "")) (some (.int 1)) (some (.int 1)) x10 x11 x12 x13).set 10 (some x)) T) QS XS := by
      rintro x rfl
      exact v_set (v_c q)
    cases hd : newDue m n with
    | some d =>
      refine ⟨true, by cases d <;> rfl, v_T (qq _ ?_)⟩
      unfold yardDue
      rw [hd]
      rfl
    | none =>
      refine ⟨false, rfl, v_F (v_if (v_B (v_op (v_CB (v_cons (Pe.of (getS_yards rfl) (v_nil (v_len (n := m.ys.length) (by simp [lenD, asL]) (v_c (v_gt ⟨_, rfl, ?_⟩)))))))))) ⟩
      refine v_dec (fun h => ?_) (fun h => ?_)
      · refine v_tup (v_cons (v_c (v_cons (v_c (v_nil ⟨Nat.le_of_ble_eq_true rfl, qq _ ?_⟩)))))
        unfold yardDue
        rw [hd, if_pos (by omega)]
        rfl
      · refine v_c (qq _ ?_)
        unfold yardDue
        rw [hd, if_neg (by omega)]
        rfl
  unfold b_law_13
  generalize (mSeq (mSet 10 (mOrV (mCall 2 m_law_new_due (mCons (mVar 2) (mCons (mVar 5) mNil))) (mIf (mB (mOp mGt (mCB mLen (mCons (mGetS "yards" (mVar 2)) mNil)) (mC (.int 5)))) (mTup (mCons (mC (.str "full")) (mCons (mC (.int 6)) mNil))) (mC .non)))) (mSet 11 (mC (.lam 0 (P 0))))) = RY at yard ⊢
  refine v_seq (v_ifS (v_orT (v_B (v_op (v_call (v_cons (v_var rfl (v_cons (v_c (v_nil ⟨rfl, ?_⟩))))))))))
  refine draw_fz z1.flow (by decide) (by decide) fun v S2 v0 v1 z2 => ?_
  have z12 := z1.trans z2
  refine v_c (v_eqI ⟨_, rfl, ?_⟩)
  have fy : ∀ {QS' : Fl → Dv.Env → Store → Prop}, (QS' = fun f e1 S1 => match f with | .nx => Ps (b_law_12 P e1 S1) QS XS | f => QS f e1 S1) → Ps (RY (t05 a (some (.ref 0)) (some m.d) (some m.w) e (some (.str n)) (some (.str "")) (some (.str "")) (some (.int 1)) (some (.int 1)) x10 x11 x12 x13) S2) QS' XS := by
    rintro QS' rfl
    exact yard z12 rfl (fin (r := ⟨n, "", "", 1, 1⟩) (k := 0) z12 hn sn emp emp (by decide))
  refine v_dec (fun _ => v_T (fy rfl)) (fun _ => ?_)
  refine v_B (v_op (Pe.of (getS_yards rfl) (v_lst (v_nil ⟨Nat.le_of_ble_eq_true rfl, ?_⟩))))
  refine v_eqNilS ok.sy ⟨_, rfl, ?_⟩
  refine v_dec (fun _ => fy rfl) (fun hne => ?_)
  have yl : 0 < m.ys.length := List.length_pos_iff.mpr hne
  unfold b_law_11
  refine v_seq (v_asg (v_tup (v_cons (v_call (v_cons (v_var rfl (v_cons (v_op (Pe.of (getS_yards rfl) (v_lst (v_cons (v_c (v_nil ⟨Nat.le_of_ble_eq_true rfl, ?_⟩)))))))))))))
  refine v_addTU (by simp; omega) (v_nil ⟨rfl, ?_⟩)
  have mem : ∀ {d : Dt} {l : List Str} {w : Str}, (∀ y ∈ l, PyData.strOk y = true) → PyData.strOk w = true → d ∈ l.map Dt.str ++ [.str w] → ∃ s, d = .str s ∧ PyData.strOk s = true := by
    intro d l w hl hw hd
    rcases List.mem_append.mp hd with z | z
    · obtain ⟨y, hy, rfl⟩ := List.mem_map.mp z
      exact ⟨y, rfl, hl y hy⟩
    · rw [List.mem_singleton.mp z]
      exact ⟨w, rfl, hw⟩
  refine pick_fz z12.flow (by simp) (by simp; omega) fun d3 S3 hd3 z3 => ?_
  obtain ⟨sb, rfl, hsb⟩ := mem ok.sy (by decide +kernel) hd3
  have z13 := z12.trans z3
  refine v_cons (v_call (v_cons (v_var rfl (v_cons (v_op (v_op (Pe.of (getS_yards rfl) (Pe.of (getS_yards rfl) ?_))))))))
  refine v_addTU (by simp; omega) (v_lst (v_cons (v_c (v_nil ⟨Nat.le_of_ble_eq_true rfl, ?_⟩))))
  refine v_addTU (by simp; omega) (v_nil ⟨rfl, ?_⟩)
  rw [show m.ysD ++ m.ysD = (m.ys ++ m.ys).map Dt.str from (List.map_append).symm]
  refine pick_fz z13.flow (by simp; omega) (by simp; omega) fun d4 S4 hd4 z4 => ?_
  obtain ⟨se, rfl, hse⟩ := mem (fun y hy => (List.mem_append.mp hy).elim (ok.sy y) (ok.sy y)) (by decide +kernel) hd4
  have z14 := z13.trans z4
  refine v_nil ⟨Nat.le_of_ble_eq_true rfl, _, _, rfl, ?_⟩
  unfold b_law_10
  refine v_seq (v_set (v_call (v_cons (v_var rfl (v_cons ?_)))))
  walk_at "dv"
  refine draw_fz z14.flow (by decide) (by decide) fun c S5 c0 c1 z5 => ?_
  have z15 := z14.trans z5
  refine v_add (v_nil ⟨Nat.le_of_ble_eq_true rfl, v_nil ⟨rfl, ?_⟩⟩)
  have int : ∀ {ds : List Dt}, (∀ d ∈ ds, ∃ n : Int, d = .int n) → ∀ {d : Dt}, d ∈ ds → ∃ n : Int, d = .int n := fun h d hd => h d hd
  refine pick_fz z15.flow (Nat.le_of_ble_eq_true rfl) (Nat.le_of_ble_eq_true rfl) fun d6 S6 hd6 z6 => ?_
  have z16 := z15.trans z6
  obtain ⟨h, rfl⟩ : ∃ n : Int, d6 = .int n := by
    simp only [List.mem_cons, List.not_mem_nil, or_false] at hd6
    rcases hd6 with rfl | rfl | rfl | rfl | rfl | rfl | rfl | rfl | rfl <;> exact ⟨_, rfl⟩
  unfold b_law_9
  refine v_seq (v_set (v_call (v_cons (v_var rfl (v_cons ?_)))))
  walk_at "dv"
  refine draw_fz z16.flow (by decide) (by decide) fun c' S7 c0' c1' z7 => ?_
  have z17 := z16.trans z7
  refine v_add (v_nil ⟨Nat.le_of_ble_eq_true rfl, v_nil ⟨rfl, ?_⟩⟩)
  refine pick_fz z17.flow (Nat.le_of_ble_eq_true rfl) (Nat.le_of_ble_eq_true rfl) fun d8 S8 hd8 z8 => ?_
  have z18 := z17.trans z8
  obtain ⟨t, rfl⟩ : ∃ n : Int, d8 = .int n := by
    simp only [List.mem_cons, List.not_mem_nil, or_false] at hd8
    rcases hd8 with rfl | rfl | rfl | rfl | rfl | rfl <;> exact ⟨_, rfl⟩
  unfold b_law_8
  refine v_seq (v_set (v_call (v_cons (v_var rfl (v_cons (v_var rfl (v_cons (v_var rfl (v_cons (v_var rfl (v_cons (v_var rfl (v_cons (v_var rfl (v_nil ⟨rfl, ?_⟩)))))))))))))))
  refine Pe.of (law_road_due_val (S := S8) ok (r := ⟨n, sb, se, h, t⟩) hn hsb hse) ?_
  refine v_set (v_c ?_)
  exact fin (r := ⟨n, sb, se, h, t⟩) (k := 1) z18 hn sn hsb hse (by decide)
end
end Lw
set_option Elab.async false
set_option linter.all false
set_option maxRecDepth 100000
set_option maxHeartbeats 4000000
set_option autoImplicit false
noncomputable section
namespace Lw
open PySem Dv
/-! steps of our own words -/
local macro_rules | `(tactic| walk_at "num") => `(tactic| first | assumption | decide | omega)
local macro_rules | `(tactic| walk_at "dv0") => `(tactic| with_reducible first
  | refine v_seq ?_ | refine v_ifS ?_ | refine v_set ?_ | refine v_ret ?_ | refine v_asg ?_ | refine v_par ?_ | refine v_drop ?_ | refine v_nx ?_ | refine v_bk ?_ | refine v_ct ?_ | refine v_retN ?_ | refine v_for ?_
  | refine v_c ?_ | refine v_nil ?_ | refine v_cons ?_ | refine v_op ?_ | refine v_B ?_ | refine v_truth ?_ | refine v_andT ?_ | refine v_orT ?_ | refine v_notT ?_
  | refine v_andV ?_ | refine v_orV ?_ | refine v_notV ?_ | refine v_if ?_ | refine v_neg ?_ | refine v_chain ?_ | refine v_tup ?_ | refine v_lst ?_ | refine v_lstR ?_ | refine v_noPart ?_ | refine v_part ?_ | refine v_sl ?_
  | refine v_CB ?_ | refine v_call ?_ | refine v_abs ?_ | refine v_lc ?_ | refine v_yes ?_ | refine v_it ?_ | refine v_rng1 ?_ | refine v_rng2 ?_ | refine v_rng3 ?_ | refine v_T ?_ | refine v_F ?_
  | refine v_add ?_ | refine v_sub ?_ | refine v_iadd ?_ | refine v_lt ?_ | refine v_le ?_ | refine v_gt ?_ | refine v_ge ?_ | refine v_eqI ?_ | refine v_neI ?_ | refine v_eqB ?_ | refine v_neB ?_)
local macro_rules | `(tactic| walk_at "dv1") => `(tactic| first
  | (with_reducible refine' v_var ?h ?_); (case h => rfl)
  | (with_reducible refine' v_aug ?h ?_); (case h => rfl)
  | (with_reducible refine' v_div ?h1 ?h2 ?_); (case h1 => walk_at "num"); (case h2 => walk_at "num")
  | (with_reducible refine' v_mod ?h1 ?_); (case h1 => walk_at "num")
  | (with_reducible refine' v_pow ?h1 ?_); (case h1 => walk_at "num")
  | (with_reducible refine' v_mulR ?h1 ?_); (case h1 => walk_at "num")
  | (with_reducible refine' v_mulL ?h1 ?_); (case h1 => walk_at "num")
  | (with_reducible refine' v_fin ?h1 ?_); (case h1 => first | exact Or.inl rfl | exact Or.inr rfl | (refine Or.inr ?_; simp only [List.length_set, *]; done))
  | (with_reducible refine' v_ix ?h1 ?_); (case h1 => first | exact ixD_ref (by assumption) (by rfl) | rfl)
  | (with_reducible refine' v_len ?h1 ?_); (case h1 => first | exact lenD_ref (by assumption) | rfl)
  | (with_reducible refine' v_list ?h1 ?_); (case h1 => rfl)
  | (with_reducible refine' v_listR ?h1 ?_); (case h1 => rfl)
  | (with_reducible refine' v_tuple ?h1 ?_); (case h1 => rfl)
  | (with_reducible refine' v_isd ?h1 ?_); (case h1 => rfl)
  | (with_reducible refine' v_isiTy ?h1 ?h2 ?_); (case h1 => rfl); (case h2 => rfl)
  | (with_reducible refine' v_isiT ?h1 ?_); (case h1 => rfl))
local macro_rules | `(tactic| walk_at "dv2") => `(tactic| first
  | refine v_gsub (by rfl) (by rfl) (by assumption) (by rfl) (fun _ _ _ => ?_) | refine ⟨_, rfl, ?_⟩ | (with_reducible refine' ⟨rng_ok ?h1 ?h2, ?_⟩); (case h1 => omega); (case h2 => omega) | refine ⟨rfl, ?_⟩ | refine ⟨_, _, rfl, ?_⟩ | refine ⟨Nat.le_of_ble_eq_true rfl, ?_⟩)
local macro_rules | `(tactic| walk_at "dv3") => `(tactic| first
  | (with_reducible refine' v_dec (fun _ => ?_) (fun hn => absurd ?h hn)); (case h => first | assumption | omega | decide)
  | (with_reducible refine' v_dec (fun hn => absurd hn ?h) (fun _ => ?_)); (case h => first | assumption | omega | decide)
  | (with_reducible refine' v_ndec (fun _ => ?_) (fun hn => absurd hn ?h)); (case h => first | assumption | omega | decide)
  | (with_reducible refine' v_ndec (fun hn => absurd ?h hn) (fun _ => ?_)); (case h => first | assumption | omega | decide)
  | (with_reducible refine' v_bT ?h ?_); (case h => first | assumption | rfl)
  | (with_reducible refine' v_bF ?h ?_); (case h => first | assumption | rfl))
local macro_rules | `(tactic| walk_at "dv4") => `(tactic| with_reducible first
  | refine v_places ?_ | refine v_roads ?_ | refine v_over ?_ | refine v_line ?_ | refine v_spots ?_ | refine v_myards ?_ | refine v_mroads ?_ | refine v_mW (by decide +kernel) ?_ | refine v_mK (by decide +kernel) ?_
  | refine v_itX ?_ | refine v_ev ?_ | refine v_rev ?_ | refine v_zs ?_ | refine v_enum ?_ | refine v_enum2 ?_ | refine v_makeV ?_ | refine v_tryN ?_ | refine v_lc2 ?_ | refine v_fz ?_ | refine v_make ?_ | refine v_fldS ?_)
local macro_rules | `(tactic| walk_at "dv5") => `(tactic| first
  | refine ⟨_, _, rfl, rfl, ?_⟩ | refine ⟨⟨_, _, rfl⟩, ?_⟩ | refine ⟨⟨_, _, _, rfl⟩, ?_⟩ | refine ⟨_, _, _, rfl, ?_⟩ | refine Or.inl ⟨_, rfl, ?_⟩ | refine Or.inr ⟨_, (fun _ z => by cases z), rfl, ?_⟩)
local macro_rules | `(tactic| walk_at "dv") => `(tactic| repeat (first | walk_at "dv0" | walk_at "dv4" | walk_at "dv1" | walk_at "dv3" | walk_at "dv2" | walk_at "dv5"))
/-! ### the whole law -/
theorem ok05 : (Mod.mk [] []).Ok := ⟨fun r h => (List.not_mem_nil h).elim, fun r h => (List.not_mem_nil h).elim, List.nodup_nil, fun r h => (List.not_mem_nil h).elim, fun r h => (List.not_mem_nil h).elim, Nat.zero_le _, Nat.zero_le _⟩
theorem nm05 : (Mod.mk [] []).Nm := ⟨fun r h => (List.not_mem_nil h).elim, fun r h => (List.not_mem_nil h).elim⟩
theorem run05 (ns : List Int) (P : Nat → Pd) : Pe (fnRun 14 false (b_law P) [.fz (ns.map Dt.int)] []) (fun d S => d = .bl true ∧ S = []) X0 := by
  refine v_fn ?_
  rw [b_law_eq]
  walk_at "dv"
  refine flow_new fun S1 hl1 _ hf => ?_
  have hl : S1.length = 1 := hl1
  have hf : FlowAt S1 0 := hf
  have hp : PureS S1 := by
    obtain ⟨f, h1, _⟩ := hf
    match S1, hl, h1 with
    | [o], _, h1 =>
      intro x hx
      rw [List.mem_singleton.mp hx, Option.some.inj h1]
      exact f.pure
  have oa : okO (some (Dt.fz (ns.map Dt.int))) = true := by
    show (ns.map Dt.int).all (noRef 11) = true
    rw [List.all_map]
    exact List.all_eq_true.mpr fun _ _ => rfl
  unfold b_law_18
  refine v_seq (v_set ?_)
  walk_at "dv"
  unfold b_law_17
  refine v_seq (v_set (Pe.of (new_web hp) ?_))
  unfold b_law_16
  refine v_seq (v_for (v_rng1 (v_cons (v_c (v_nil ⟨_, rfl, rng_ok (by decide) (by decide), ?_⟩)))))
  refine v_loop (fun ds en T => ∃ (m : Mod) (e x5 x6 x7 x8 x9 x10 x11 x12 x13 : Option Dt), en = t05 (some (.fz (ns.map Dt.int))) (some (.ref 0)) (some m.d) (some m.w) e x5 x6 x7 x8 x9 x10 x11 x12 x13 ∧ m.Ok ∧ m.Nm ∧ PureS T ∧ FlowAt T 0 ∧ T.length = 1 ∧ okO x12 = true ∧ ∀ d ∈ ds, okO (some d) = true)
    ⟨⟨[], []⟩, _, _, _, _, _, _, _, _, _, _, rfl, ok05, nm05, hp, hf, hl, rfl, fun d hd => ?_⟩ ?_ ?_
  · obtain ⟨k, _, rfl⟩ := List.mem_map.mp hd
    rfl
  · rintro d ds en T ⟨m, e, x5, x6, x7, x8, x9, x10, x11, x12, x13, rfl, ok, nm, pT, fT, lT, oo, od⟩
    refine ⟨_, _, rfl, ?_⟩
    exact turn05 ok nm pT fT lT oa (od d List.mem_cons_self) oo fun m' S' y5 y6 y7 y8 y9 y10 y11 y12 y13 ok' nm' p' f' l' o' => ⟨m', _, y5, y6, y7, y8, y9, y10, y11, y12, y13, rfl, ok', nm', p', f', l', o', fun x hx => od x (List.mem_cons_of_mem _ hx)⟩
  · rintro en T ⟨m, e, x5, x6, x7, x8, x9, x10, x11, x12, x13, rfl, ok, nm, pT, fT, lT, oo, od⟩
    refine v_ret (v_c ?_)
    refine v_finL (frz_pure rfl) (by omega) (fun x hx => ?_) ⟨rfl, rfl⟩
    exact absurd hx (by show ¬ x ∈ T.take 0; simp)
theorem law_true (ns : List Int) (hn : ns.length ≤ 63) : ∃ S, m_law [.fz (ns.map Dt.int)] [] = .ok (.bl true) S := ⟨[], mAllP_of fun P => Pe.eq (run05 ns P)⟩
end Lw
set_option Elab.async false
set_option linter.all false
set_option maxRecDepth 100000
set_option maxHeartbeats 4000000
set_option autoImplicit false
namespace Lw
open PySem PySem.Spec PyProof.Rows L2 Dv
theorem all_of {l : PySem.W.OpenLaw} {w : World} {K : PySem.W.Frag} {h : Heap} {mg : Str → Option Value} {fa : Addr} (X : K.In h) (G : h.Ns mainGlobals mg) (hfa : mg "law" = some (.ref fa)) (c : SaysL hTests hDefs K) (dT : SaysT hTabs K h) :
    ∃ fd : FuncData, (∀ (s : Shared) (v : Value), BindsTo s fd ⟨[v], []⟩ [("_law_script", v)]) ∧ ∀ base : Heap, K.In base → base.Ns mainGlobals mg → (∀ p ∈ hTabs.map (tabAt K), LamX.TabB base mg p.1 p.2) → FnOk l.prog w K mg base (L2.CX l.prog w) 23 fa fd ["_law_script"] (spLaw K [((tabAt K ("law", none)).2, "law.<locals>.<lambda>")]) := by
  have a1 : PySem.W.nsIn K mainGlobals "_law_field" = some (some (.ref (He.fAd K ("_law_field", none)))) := He.eqO_ok (c.fact 0 rfl)
  have a2 : PySem.W.findIn K (.ref (He.ga K "Web")) "__init__" = some (some (.ref (He.fAd K ("Web", some "__init__")))) := He.eqO_ok (c.fact 1 rfl)
  have i2 : PySem.W.isFn K (.ref (He.fAd K ("Web", some "__init__"))) = true := c.fact 2 rfl
  have a3 : PySem.W.findIn K (.ref (He.ga K "Web")) "__len__" = some (some (.ref (He.fAd K ("Web", some "__len__")))) := He.eqO_ok (c.fact 3 rfl)
  have i3 : PySem.W.isFn K (.ref (He.fAd K ("Web", some "__len__"))) = true := c.fact 4 rfl
  have a4 : PySem.W.nsIn K mainGlobals "is_name" = some (some (.ref (He.fAd K ("is_name", none)))) := He.eqO_ok (c.fact 5 rfl)
  have a5 : PySem.W.findIn K (.ref (He.ga K "Web")) "need_new" = some (some (.ref (He.fAd K ("Web", some "need_new")))) := He.eqO_ok (c.fact 6 rfl)
  have i5 : PySem.W.isFn K (.ref (He.fAd K ("Web", some "need_new"))) = true := c.fact 7 rfl
  have a6 : PySem.W.findIn K (.ref (He.ga K "Web")) "need_yard" = some (some (.ref (He.fAd K ("Web", some "need_yard")))) := He.eqO_ok (c.fact 8 rfl)
  have i6 : PySem.W.isFn K (.ref (He.fAd K ("Web", some "need_yard"))) = true := c.fact 9 rfl
  have a7 : PySem.W.findIn K (.ref (He.ga K "Web")) "turned" = some (some (.ref (He.fAd K ("Web", some "turned")))) := He.eqO_ok (c.fact 10 rfl)
  have i7 : PySem.W.isFn K (.ref (He.fAd K ("Web", some "turned"))) = true := c.fact 11 rfl
  have a8 : PySem.W.nsIn K mainGlobals "is_whole" = some (some (.ref (He.fAd K ("is_whole", none)))) := He.eqO_ok (c.fact 12 rfl)
  have a9 : PySem.W.nsIn K mainGlobals "need_turns" = some (some (.ref (He.fAd K ("need_turns", none)))) := He.eqO_ok (c.fact 13 rfl)
  have a10 : PySem.W.findIn K (.ref (He.ga K "Web")) "with_passage" = some (some (.ref (He.fAd K ("Web", some "with_passage")))) := He.eqO_ok (c.fact 14 rfl)
  have i10 : PySem.W.isFn K (.ref (He.fAd K ("Web", some "with_passage"))) = true := c.fact 15 rfl
  have a11 : PySem.W.findIn K (.ref (He.ga K "Web")) "with_yard" = some (some (.ref (He.fAd K ("Web", some "with_yard")))) := He.eqO_ok (c.fact 16 rfl)
  have i11 : PySem.W.isFn K (.ref (He.fAd K ("Web", some "with_yard"))) = true := c.fact 17 rfl
  have a12 : PySem.W.nsIn K mainGlobals "_law_draw" = some (some (.ref (He.fAd K ("_law_draw", none)))) := He.eqO_ok (c.fact 18 rfl)
  have a13 : PySem.W.nsIn K mainGlobals "_law_flow" = some (some (.ref (He.fAd K ("_law_flow", none)))) := He.eqO_ok (c.fact 19 rfl)
  have a14 : PySem.W.nsIn K mainGlobals "_law_new_due" = some (some (.ref (He.fAd K ("_law_new_due", none)))) := He.eqO_ok (c.fact 20 rfl)
  have a15 : PySem.W.nsIn K mainGlobals "_law_pick" = some (some (.ref (He.fAd K ("_law_pick", none)))) := He.eqO_ok (c.fact 21 rfl)
  have a16 : PySem.W.nsIn K mainGlobals "_law_odd_name" = some (some (.ref (He.fAd K ("_law_odd_name", none)))) := He.eqO_ok (c.fact 22 rfl)
  have a17 : PySem.W.nsIn K mainGlobals "_law_new_name" = some (some (.ref (He.fAd K ("_law_new_name", none)))) := He.eqO_ok (c.fact 23 rfl)
  have a18 : PySem.W.nsIn K mainGlobals "_law_road_due" = some (some (.ref (He.fAd K ("_law_road_due", none)))) := He.eqO_ok (c.fact 24 rfl)
  have a19 : PySem.W.nsIn K mainGlobals "_law_same" = some (some (.ref (He.fAd K ("_law_same", none)))) := He.eqO_ok (c.fact 25 rfl)
  have a20 : PySem.W.findIn K (.ref (He.ga K "Web")) "__repr__" = some (some (.ref (He.fAd K ("Web", some "__repr__")))) := He.eqO_ok (c.fact 26 rfl)
  have i20 : PySem.W.isFn K (.ref (He.fAd K ("Web", some "__repr__"))) = true := c.fact 27 rfl
  have a21 : PySem.W.findIn K (.ref (He.ga K "Web")) "road_of" = some (some (.ref (He.fAd K ("Web", some "road_of")))) := He.eqO_ok (c.fact 28 rfl)
  have i21 : PySem.W.isFn K (.ref (He.fAd K ("Web", some "road_of"))) = true := c.fact 29 rfl
  have a22 : PySem.W.findIn K (.ref (He.ga K "Web")) "turned_so" = some (some (.ref (He.fAd K ("Web", some "turned_so")))) := He.eqO_ok (c.fact 30 rfl)
  have i22 : PySem.W.isFn K (.ref (He.fAd K ("Web", some "turned_so"))) = true := c.fact 31 rfl
  have a23 : PySem.W.findIn K (.ref (He.ga K "Web")) "ends" = some (some (.ref (He.fAd K ("Web", some "ends")))) := He.eqO_ok (c.fact 32 rfl)
  have i23 : PySem.W.isFn K (.ref (He.fAd K ("Web", some "ends"))) = true := c.fact 33 rfl
  have a24 : PySem.W.findIn K (.ref (He.ga K "Web")) "passages" = some (some (.ref (He.fAd K ("Web", some "passages")))) := He.eqO_ok (c.fact 34 rfl)
  have i24 : PySem.W.isFn K (.ref (He.fAd K ("Web", some "passages"))) = true := c.fact 35 rfl
  have a25 : PySem.W.findIn K (.ref (He.ga K "Web")) "rule" = some (some (.ref (He.fAd K ("Web", some "rule")))) := He.eqO_ok (c.fact 36 rfl)
  have i25 : PySem.W.isFn K (.ref (He.fAd K ("Web", some "rule"))) = true := c.fact 37 rfl
  have a26 : PySem.W.findIn K (.ref (He.ga K "Web")) "steps_from" = some (some (.ref (He.fAd K ("Web", some "steps_from")))) := He.eqO_ok (c.fact 38 rfl)
  have i26 : PySem.W.isFn K (.ref (He.fAd K ("Web", some "steps_from"))) = true := c.fact 39 rfl
  have a27 : PySem.W.findIn K (.ref (He.ga K "Web")) "yards" = some (some (.ref (He.fAd K ("Web", some "yards")))) := He.eqO_ok (c.fact 40 rfl)
  have i27 : PySem.W.isFn K (.ref (He.fAd K ("Web", some "yards"))) = true := c.fact 41 rfl
  have a28 : PySem.W.nsIn K mainGlobals "_law_road" = some (some (.ref (He.fAd K ("_law_road", none)))) := He.eqO_ok (c.fact 42 rfl)
  have a29 : PySem.W.nsIn K mainGlobals "_law_ends" = some (some (.ref (He.fAd K ("_law_ends", none)))) := He.eqO_ok (c.fact 43 rfl)
  have a30 : PySem.W.nsIn K mainGlobals "_law_rule" = some (some (.ref (He.fAd K ("_law_rule", none)))) := He.eqO_ok (c.fact 44 rfl)
  have a31 : PySem.W.nsIn K mainGlobals "_law_steps_from" = some (some (.ref (He.fAd K ("_law_steps_from", none)))) := He.eqO_ok (c.fact 45 rfl)
  have a32 : PySem.W.nsIn K mainGlobals "_law_webs_stand" = some (some (.ref (He.fAd K ("_law_webs_stand", none)))) := He.eqO_ok (c.fact 46 rfl)
  have a33 : PySem.W.nsIn K mainGlobals "law" = some (some (.ref (He.fAd K ("law", none)))) := He.eqO_ok (c.fact 47 rfl)
  have gWeb : PySem.W.nsIn K mainGlobals "Web" = some (some (.ref (He.ga K "Web"))) := He.eqO_ok (c.fact 48 rfl)
  have pgWeb : PySem.W.plainGet K (He.ga K "Web") Str.empty = true := c.fact 49 rfl
  have hdWeb : PySem.W.hasDictIn K (He.ga K "Web") = true := c.fact 50 rfl
  have poWeb : PySem.W.plainOver K (He.ga K "Web") = true := c.fact 51 rfl
  have saWeb : PySem.W.findIn K (.ref (He.ga K "Web")) "__setattr__" = some (some (.builtin "object.__setattr__")) := He.eqO_ok (c.fact 52 rfl)
  have haWeb : PySem.W.findIn K (.ref (He.ga K "Web")) "__class__" = some (some (.builtin "object.__class__")) := He.eqO_ok (c.fact 53 rfl)
  have hmWeb : PySem.W.mroIn K (He.ga K "Web") (.type "object") = some true := of_decide_eq_true (c.fact 54 rfl)
  have miWeb : PySem.W.makesIn K (He.ga K "Web") = true := c.fact 55 rfl
  have kcWeb : PySem.W.keepIn K (.ref (He.ga K "Web")) = true := c.fact 56 rfl
  have nbWeb : PySem.W.findIn K (.ref (He.ga K "Web")) "__bool__" = some none := He.eqO_ok (c.fact 57 rfl)
  have na_Web_places : PySem.W.findIn K (.ref (He.ga K "Web")) "places" = some none := He.eqO_ok (c.fact 58 rfl)
  have na_Web_roads : PySem.W.findIn K (.ref (He.ga K "Web")) "roads" = some none := He.eqO_ok (c.fact 59 rfl)
  have hn : PySem.W.specialIn K (.builtin "object.__class__") "__get__" = some (some (.builtin "getset_descriptor.__get__")) := He.eqO_ok (c.fact 60 rfl)
  have htk : PySem.W.takesIn K (.builtin "object.__class__") = some true := of_decide_eq_true (c.fact 61 rfl)
  have cb : clsB K [("Web", (He.ga K "Web"))] = true := c.fact 62 rfl
  have egFull : PySem.W.nsIn K mainGlobals "Full" = some (some (.ref (He.ga K "Full"))) := He.eqO_ok (c.fact 63 rfl)
  have eoFull : oexGB K (He.ga K "Full") = true := c.fact 64 rfl
  have esFull : PySem.W.findIn K (.ref (He.ga K "Full")) "__setattr__" = some (some (.builtin "object.__setattr__")) := He.eqO_ok (c.fact 65 rfl)
  have exFull : PySem.W.subIn K (.ref (He.ga K "Full")) (.type "BaseException") = some true := of_decide_eq_true (c.fact 66 rfl)
  have etFull : PySem.W.typeIn K (.ref (He.ga K "Full")) = some (.type "type") := of_decide_eq_true (c.fact 67 rfl)
  have ekFull : PySem.W.keepIn K (.ref (He.ga K "Full")) = true := c.fact 68 rfl
  have eiFull : PySem.W.findIn K (.ref (He.ga K "Full")) "__init__" = some (some (.ref (He.ma K (He.ga K "Full") "__init__"))) := He.eqO_ok (c.fact 69 rfl)
  have ejFull : PySem.W.typeIn K (.ref (He.ma K (He.ga K "Full") "__init__")) = some (.type "function") := of_decide_eq_true (c.fact 70 rfl)
  have ewFull : PySem.W.findIn K (.ref (He.ga K "Full")) "word" = some none := He.eqO_ok (c.fact 71 rfl)
  have efFull : PySem.W.findIn K (.ref (He.ga K "Full")) "many" = some none := He.eqO_ok (c.fact 72 rfl)
  have egBadName : PySem.W.nsIn K mainGlobals "BadName" = some (some (.ref (He.ga K "BadName"))) := He.eqO_ok (c.fact 73 rfl)
  have eoBadName : oexGB K (He.ga K "BadName") = true := c.fact 74 rfl
  have esBadName : PySem.W.findIn K (.ref (He.ga K "BadName")) "__setattr__" = some (some (.builtin "object.__setattr__")) := He.eqO_ok (c.fact 75 rfl)
  have exBadName : PySem.W.subIn K (.ref (He.ga K "BadName")) (.type "BaseException") = some true := of_decide_eq_true (c.fact 76 rfl)
  have etBadName : PySem.W.typeIn K (.ref (He.ga K "BadName")) = some (.type "type") := of_decide_eq_true (c.fact 77 rfl)
  have ekBadName : PySem.W.keepIn K (.ref (He.ga K "BadName")) = true := c.fact 78 rfl
  have eiBadName : PySem.W.findIn K (.ref (He.ga K "BadName")) "__init__" = some (some (.ref (He.ma K (He.ga K "BadName") "__init__"))) := He.eqO_ok (c.fact 79 rfl)
  have ejBadName : PySem.W.typeIn K (.ref (He.ma K (He.ga K "BadName") "__init__")) = some (.type "function") := of_decide_eq_true (c.fact 80 rfl)
  have ewBadName : PySem.W.findIn K (.ref (He.ga K "BadName")) "word" = some none := He.eqO_ok (c.fact 81 rfl)
  have efBadName : PySem.W.findIn K (.ref (He.ga K "BadName")) "name" = some none := He.eqO_ok (c.fact 82 rfl)
  have egTaken : PySem.W.nsIn K mainGlobals "Taken" = some (some (.ref (He.ga K "Taken"))) := He.eqO_ok (c.fact 83 rfl)
  have eoTaken : oexGB K (He.ga K "Taken") = true := c.fact 84 rfl
  have esTaken : PySem.W.findIn K (.ref (He.ga K "Taken")) "__setattr__" = some (some (.builtin "object.__setattr__")) := He.eqO_ok (c.fact 85 rfl)
  have exTaken : PySem.W.subIn K (.ref (He.ga K "Taken")) (.type "BaseException") = some true := of_decide_eq_true (c.fact 86 rfl)
  have etTaken : PySem.W.typeIn K (.ref (He.ga K "Taken")) = some (.type "type") := of_decide_eq_true (c.fact 87 rfl)
  have ekTaken : PySem.W.keepIn K (.ref (He.ga K "Taken")) = true := c.fact 88 rfl
  have eiTaken : PySem.W.findIn K (.ref (He.ga K "Taken")) "__init__" = some (some (.ref (He.ma K (He.ga K "Taken") "__init__"))) := He.eqO_ok (c.fact 89 rfl)
  have ejTaken : PySem.W.typeIn K (.ref (He.ma K (He.ga K "Taken") "__init__")) = some (.type "function") := of_decide_eq_true (c.fact 90 rfl)
  have ewTaken : PySem.W.findIn K (.ref (He.ga K "Taken")) "word" = some none := He.eqO_ok (c.fact 91 rfl)
  have efTaken : PySem.W.findIn K (.ref (He.ga K "Taken")) "name" = some none := He.eqO_ok (c.fact 92 rfl)
  have egNoYard : PySem.W.nsIn K mainGlobals "NoYard" = some (some (.ref (He.ga K "NoYard"))) := He.eqO_ok (c.fact 93 rfl)
  have eoNoYard : oexGB K (He.ga K "NoYard") = true := c.fact 94 rfl
  have esNoYard : PySem.W.findIn K (.ref (He.ga K "NoYard")) "__setattr__" = some (some (.builtin "object.__setattr__")) := He.eqO_ok (c.fact 95 rfl)
  have exNoYard : PySem.W.subIn K (.ref (He.ga K "NoYard")) (.type "BaseException") = some true := of_decide_eq_true (c.fact 96 rfl)
  have etNoYard : PySem.W.typeIn K (.ref (He.ga K "NoYard")) = some (.type "type") := of_decide_eq_true (c.fact 97 rfl)
  have ekNoYard : PySem.W.keepIn K (.ref (He.ga K "NoYard")) = true := c.fact 98 rfl
  have eiNoYard : PySem.W.findIn K (.ref (He.ga K "NoYard")) "__init__" = some (some (.ref (He.ma K (He.ga K "NoYard") "__init__"))) := He.eqO_ok (c.fact 99 rfl)
  have ejNoYard : PySem.W.typeIn K (.ref (He.ma K (He.ga K "NoYard") "__init__")) = some (.type "function") := of_decide_eq_true (c.fact 100 rfl)
  have ewNoYard : PySem.W.findIn K (.ref (He.ga K "NoYard")) "word" = some none := He.eqO_ok (c.fact 101 rfl)
  have efNoYard : PySem.W.findIn K (.ref (He.ga K "NoYard")) "name" = some none := He.eqO_ok (c.fact 102 rfl)
  have egBadTurns : PySem.W.nsIn K mainGlobals "BadTurns" = some (some (.ref (He.ga K "BadTurns"))) := He.eqO_ok (c.fact 103 rfl)
  have eoBadTurns : oexGB K (He.ga K "BadTurns") = true := c.fact 104 rfl
  have esBadTurns : PySem.W.findIn K (.ref (He.ga K "BadTurns")) "__setattr__" = some (some (.builtin "object.__setattr__")) := He.eqO_ok (c.fact 105 rfl)
  have exBadTurns : PySem.W.subIn K (.ref (He.ga K "BadTurns")) (.type "BaseException") = some true := of_decide_eq_true (c.fact 106 rfl)
  have etBadTurns : PySem.W.typeIn K (.ref (He.ga K "BadTurns")) = some (.type "type") := of_decide_eq_true (c.fact 107 rfl)
  have ekBadTurns : PySem.W.keepIn K (.ref (He.ga K "BadTurns")) = true := c.fact 108 rfl
  have eiBadTurns : PySem.W.findIn K (.ref (He.ga K "BadTurns")) "__init__" = some (some (.ref (He.ma K (He.ga K "BadTurns") "__init__"))) := He.eqO_ok (c.fact 109 rfl)
  have ejBadTurns : PySem.W.typeIn K (.ref (He.ma K (He.ga K "BadTurns") "__init__")) = some (.type "function") := of_decide_eq_true (c.fact 110 rfl)
  have ewBadTurns : PySem.W.findIn K (.ref (He.ga K "BadTurns")) "word" = some none := He.eqO_ok (c.fact 111 rfl)
  have efBadTurns : PySem.W.findIn K (.ref (He.ga K "BadTurns")) "number" = some none := He.eqO_ok (c.fact 112 rfl)
  have hhBadName : PySem.W.nsIn K mainGlobals "BadName" = some (some (.ref (He.ga K "BadName"))) := He.eqO_ok (c.fact 113 rfl)
  have hhTaken : PySem.W.nsIn K mainGlobals "Taken" = some (some (.ref (He.ga K "Taken"))) := He.eqO_ok (c.fact 114 rfl)
  have hhTied : PySem.W.nsIn K mainGlobals "Tied" = some (some (.ref (He.ga K "Tied"))) := He.eqO_ok (c.fact 115 rfl)
  have hhInUse : PySem.W.nsIn K mainGlobals "InUse" = some (some (.ref (He.ga K "InUse"))) := He.eqO_ok (c.fact 116 rfl)
  have hhBreaks : PySem.W.nsIn K mainGlobals "Breaks" = some (some (.ref (He.ga K "Breaks"))) := He.eqO_ok (c.fact 117 rfl)
  have hhNoName : PySem.W.nsIn K mainGlobals "NoName" = some (some (.ref (He.ga K "NoName"))) := He.eqO_ok (c.fact 118 rfl)
  have hhNoYard : PySem.W.nsIn K mainGlobals "NoYard" = some (some (.ref (He.ga K "NoYard"))) := He.eqO_ok (c.fact 119 rfl)
  have hhNoPassage : PySem.W.nsIn K mainGlobals "NoPassage" = some (some (.ref (He.ga K "NoPassage"))) := He.eqO_ok (c.fact 120 rfl)
  have hhNoWalk : PySem.W.nsIn K mainGlobals "NoWalk" = some (some (.ref (He.ga K "NoWalk"))) := He.eqO_ok (c.fact 121 rfl)
  have hhBadRow : PySem.W.nsIn K mainGlobals "BadRow" = some (some (.ref (He.ga K "BadRow"))) := He.eqO_ok (c.fact 122 rfl)
  have hhAstray : PySem.W.nsIn K mainGlobals "Astray" = some (some (.ref (He.ga K "Astray"))) := He.eqO_ok (c.fact 123 rfl)
  have hhBadExchange : PySem.W.nsIn K mainGlobals "BadExchange" = some (some (.ref (He.ga K "BadExchange"))) := He.eqO_ok (c.fact 124 rfl)
  have hhBadText : PySem.W.nsIn K mainGlobals "BadText" = some (some (.ref (He.ga K "BadText"))) := He.eqO_ok (c.fact 125 rfl)
  have hhBadDeed : PySem.W.nsIn K mainGlobals "BadDeed" = some (some (.ref (He.ga K "BadDeed"))) := He.eqO_ok (c.fact 126 rfl)
  have hhFull : PySem.W.nsIn K mainGlobals "Full" = some (some (.ref (He.ga K "Full"))) := He.eqO_ok (c.fact 127 rfl)
  have hhBadTurns : PySem.W.nsIn K mainGlobals "BadTurns" = some (some (.ref (He.ga K "BadTurns"))) := He.eqO_ok (c.fact 128 rfl)
  have hhHawserError : PySem.W.nsIn K mainGlobals "HawserError" = some (some (.ref (He.ga K "HawserError"))) := He.eqO_ok (c.fact 129 rfl)
  have hhNothingLeft : PySem.W.nsIn K mainGlobals "NothingLeft" = some (some (.ref (He.ga K "NothingLeft"))) := He.eqO_ok (c.fact 130 rfl)
  have xbFull : xfB K (He.ga K "Full") = true := c.fact 131 rfl
  have fdFull : (fldB K (He.ga K "Full") [([(He.ga K "BadName"), (He.ga K "Taken"), (He.ga K "Tied"), (He.ga K "InUse"), (He.ga K "Breaks"), (He.ga K "NoName"), (He.ga K "NoYard"), (He.ga K "NoPassage"), (He.ga K "NoWalk")], (some ("name" : Str))), ([(He.ga K "BadRow"), (He.ga K "Astray"), (He.ga K "BadExchange"), (He.ga K "BadText"), (He.ga K "BadDeed")], (some ("at" : Str))), ([(He.ga K "Full")], (some ("many" : Str))), ([(He.ga K "BadTurns")], (some ("number" : Str))), ([(He.ga K "HawserError"), (He.ga K "NothingLeft")], none)] == some (some ("many" : Str))) = true := c.fact 132 rfl
  have xbBadName : xfB K (He.ga K "BadName") = true := c.fact 133 rfl
  have fdBadName : (fldB K (He.ga K "BadName") [([(He.ga K "BadName"), (He.ga K "Taken"), (He.ga K "Tied"), (He.ga K "InUse"), (He.ga K "Breaks"), (He.ga K "NoName"), (He.ga K "NoYard"), (He.ga K "NoPassage"), (He.ga K "NoWalk")], (some ("name" : Str))), ([(He.ga K "BadRow"), (He.ga K "Astray"), (He.ga K "BadExchange"), (He.ga K "BadText"), (He.ga K "BadDeed")], (some ("at" : Str))), ([(He.ga K "Full")], (some ("many" : Str))), ([(He.ga K "BadTurns")], (some ("number" : Str))), ([(He.ga K "HawserError"), (He.ga K "NothingLeft")], none)] == some (some ("name" : Str))) = true := c.fact 134 rfl
  have xbTaken : xfB K (He.ga K "Taken") = true := c.fact 135 rfl
  have fdTaken : (fldB K (He.ga K "Taken") [([(He.ga K "BadName"), (He.ga K "Taken"), (He.ga K "Tied"), (He.ga K "InUse"), (He.ga K "Breaks"), (He.ga K "NoName"), (He.ga K "NoYard"), (He.ga K "NoPassage"), (He.ga K "NoWalk")], (some ("name" : Str))), ([(He.ga K "BadRow"), (He.ga K "Astray"), (He.ga K "BadExchange"), (He.ga K "BadText"), (He.ga K "BadDeed")], (some ("at" : Str))), ([(He.ga K "Full")], (some ("many" : Str))), ([(He.ga K "BadTurns")], (some ("number" : Str))), ([(He.ga K "HawserError"), (He.ga K "NothingLeft")], none)] == some (some ("name" : Str))) = true := c.fact 136 rfl
  have xbNoYard : xfB K (He.ga K "NoYard") = true := c.fact 137 rfl
  have fdNoYard : (fldB K (He.ga K "NoYard") [([(He.ga K "BadName"), (He.ga K "Taken"), (He.ga K "Tied"), (He.ga K "InUse"), (He.ga K "Breaks"), (He.ga K "NoName"), (He.ga K "NoYard"), (He.ga K "NoPassage"), (He.ga K "NoWalk")], (some ("name" : Str))), ([(He.ga K "BadRow"), (He.ga K "Astray"), (He.ga K "BadExchange"), (He.ga K "BadText"), (He.ga K "BadDeed")], (some ("at" : Str))), ([(He.ga K "Full")], (some ("many" : Str))), ([(He.ga K "BadTurns")], (some ("number" : Str))), ([(He.ga K "HawserError"), (He.ga K "NothingLeft")], none)] == some (some ("name" : Str))) = true := c.fact 138 rfl
  have xbBadTurns : xfB K (He.ga K "BadTurns") = true := c.fact 139 rfl
  have fdBadTurns : (fldB K (He.ga K "BadTurns") [([(He.ga K "BadName"), (He.ga K "Taken"), (He.ga K "Tied"), (He.ga K "InUse"), (He.ga K "Breaks"), (He.ga K "NoName"), (He.ga K "NoYard"), (He.ga K "NoPassage"), (He.ga K "NoWalk")], (some ("name" : Str))), ([(He.ga K "BadRow"), (He.ga K "Astray"), (He.ga K "BadExchange"), (He.ga K "BadText"), (He.ga K "BadDeed")], (some ("at" : Str))), ([(He.ga K "Full")], (some ("many" : Str))), ([(He.ga K "BadTurns")], (some ("number" : Str))), ([(He.ga K "HawserError"), (He.ga K "NothingLeft")], none)] == some (some ("number" : Str))) = true := c.fact 140 rfl
  have tu0 := c.fact 141 rfl
  have zrange : PySem.W.nsIn K mainGlobals "range" = some none := He.eqO_ok (c.fact 142 rfl)
  have zlen : PySem.W.nsIn K mainGlobals "len" = some none := He.eqO_ok (c.fact 143 rfl)
  have zdict : PySem.W.nsIn K mainGlobals "dict" = some none := He.eqO_ok (c.fact 144 rfl)
  have zall : PySem.W.nsIn K mainGlobals "all" = some none := He.eqO_ok (c.fact 145 rfl)
  have ztuple : PySem.W.nsIn K mainGlobals "tuple" = some none := He.eqO_ok (c.fact 146 rfl)
  have zisinstance : PySem.W.nsIn K mainGlobals "isinstance" = some none := He.eqO_ok (c.fact 147 rfl)
  have zbool : PySem.W.nsIn K mainGlobals "bool" = some none := He.eqO_ok (c.fact 148 rfl)
  have zint : PySem.W.nsIn K mainGlobals "int" = some none := He.eqO_ok (c.fact 149 rfl)
  have zabs : PySem.W.nsIn K mainGlobals "abs" = some none := He.eqO_ok (c.fact 150 rfl)
  have zlist : PySem.W.nsIn K mainGlobals "list" = some none := He.eqO_ok (c.fact 151 rfl)
  have zstr : PySem.W.nsIn K mainGlobals "str" = some none := He.eqO_ok (c.fact 152 rfl)
  have zrepr : PySem.W.nsIn K mainGlobals "repr" = some none := He.eqO_ok (c.fact 153 rfl)
  have cMOST_PASSAGES := He.int_ok X G (c.fact 154 rfl)
  have cLETTERS := He.str_ok X G (c.fact 155 rfl)
  have cLONGEST_NAME := He.int_ok X G (c.fact 156 rfl)
  have cMOST_TURNS := He.int_ok X G (c.fact 157 rfl)
  have cMOST_YARDS := He.int_ok X G (c.fact 158 rfl)
  have e := hfa.symm.trans (PySem.W.mg_of X G a33)
  have e2 : (He.fAd K ("law", none)) = fa := by cases e; rfl
  subst e2
  obtain ⟨d1, FD1⟩ := c.def_ 0 rfl
  have F1 : Fun K "_law_field" "_law_field" s_law_field (He.fAd K ("_law_field", none)) d1 := funOfD FD1
  have b1 := F1.binds (ps := ["_law_ask"]) fun _ _ _ _ _ _ us hl => match us, hl with | [_], _ => rfl
  obtain ⟨d2, FD2⟩ := c.def_ 1 rfl
  have F2 : Fun K "__init__" "Web.__init__" s_Web_dinit (He.fAd K ("Web", some "__init__")) d2 := funOfD FD2
  have b2 := F2.binds (ps := ["self"]) fun _ _ _ _ _ _ us hl => match us, hl with | [_], _ => rfl
  obtain ⟨d3, FD3⟩ := c.def_ 2 rfl
  have F3 : Fun K "__len__" "Web.__len__" s_Web_dlen (He.fAd K ("Web", some "__len__")) d3 := funOfD FD3
  have b3 := F3.binds (ps := ["self"]) fun _ _ _ _ _ _ us hl => match us, hl with | [_], _ => rfl
  obtain ⟨d4, FD4⟩ := c.def_ 3 rfl
  have F4 : Fun K "is_name" "is_name" s_is_name (He.fAd K ("is_name", none)) d4 := funOfD FD4
  have b4 := F4.binds (ps := ["text"]) fun _ _ _ _ _ _ us hl => match us, hl with | [_], _ => rfl
  obtain ⟨d5, FD5⟩ := c.def_ 4 rfl
  have F5 : Fun K "need_new" "Web.need_new" s_Web_need_new (He.fAd K ("Web", some "need_new")) d5 := funOfD FD5
  have b5 := F5.binds (ps := ["self", "name"]) fun _ _ _ _ _ _ us hl => match us, hl with | [_, _], _ => rfl
  obtain ⟨d6, FD6⟩ := c.def_ 5 rfl
  have F6 : Fun K "need_yard" "Web.need_yard" s_Web_need_yard (He.fAd K ("Web", some "need_yard")) d6 := funOfD FD6
  have b6 := F6.binds (ps := ["self", "name"]) fun _ _ _ _ _ _ us hl => match us, hl with | [_, _], _ => rfl
  obtain ⟨d7, FD7⟩ := c.def_ 6 rfl
  have F7 : Fun K "turned" "Web.turned" s_Web_turned (He.fAd K ("Web", some "turned")) d7 := funOfD FD7
  have b7 := F7.binds (ps := ["self", "places", "roads"]) fun _ _ _ _ _ _ us hl => match us, hl with | [_, _, _], _ => rfl
  obtain ⟨d8, FD8⟩ := c.def_ 7 rfl
  have F8 : Fun K "is_whole" "is_whole" s_is_whole (He.fAd K ("is_whole", none)) d8 := funOfD FD8
  have b8 := F8.binds (ps := ["thing", "low", "high"]) fun _ _ _ _ _ _ us hl => match us, hl with | [_, _, _], _ => rfl
  obtain ⟨d9, FD9⟩ := c.def_ 8 rfl
  have F9 : Fun K "need_turns" "need_turns" s_need_turns (He.fAd K ("need_turns", none)) d9 := funOfD FD9
  have b9 := F9.binds (ps := ["number"]) fun _ _ _ _ _ _ us hl => match us, hl with | [_], _ => rfl
  obtain ⟨d10, FD10⟩ := c.def_ 9 rfl
  have F10 : Fun K "with_passage" "Web.with_passage" s_Web_with_passage (He.fAd K ("Web", some "with_passage")) d10 := funOfD FD10
  obtain ⟨d11, FD11⟩ := c.def_ 10 rfl
  have F11 : Fun K "with_yard" "Web.with_yard" s_Web_with_yard (He.fAd K ("Web", some "with_yard")) d11 := funOfD FD11
  have b11 := F11.binds (ps := ["self", "name"]) fun _ _ _ _ _ _ us hl => match us, hl with | [_, _], _ => rfl
  obtain ⟨d12, FD12⟩ := c.def_ 11 rfl
  have F12 : Fun K "_law_draw" "_law_draw" s_law_draw (He.fAd K ("_law_draw", none)) d12 := funOfD FD12
  have b12 := F12.binds (ps := ["_law_flow_here", "_law_size"]) fun _ _ _ _ _ _ us hl => match us, hl with | [_, _], _ => rfl
  obtain ⟨d13, FD13⟩ := c.def_ 12 rfl
  have F13 : Fun K "_law_flow" "_law_flow" s_law_flow (He.fAd K ("_law_flow", none)) d13 := funOfD FD13
  have b13 := F13.binds (ps := ["_law_script"]) fun _ _ _ _ _ _ us hl => match us, hl with | [_], _ => rfl
  obtain ⟨d14, FD14⟩ := c.def_ 13 rfl
  have F14 : Fun K "_law_new_due" "_law_new_due" s_law_new_due (He.fAd K ("_law_new_due", none)) d14 := funOfD FD14
  have b14 := F14.binds (ps := ["_law_m", "_law_name"]) fun _ _ _ _ _ _ us hl => match us, hl with | [_, _], _ => rfl
  obtain ⟨d15, FD15⟩ := c.def_ 14 rfl
  have F15 : Fun K "_law_pick" "_law_pick" s_law_pick (He.fAd K ("_law_pick", none)) d15 := funOfD FD15
  have b15 := F15.binds (ps := ["_law_flow_here", "_law_lot"]) fun _ _ _ _ _ _ us hl => match us, hl with | [_, _], _ => rfl
  obtain ⟨d16, FD16⟩ := c.def_ 15 rfl
  have F16 : Fun K "_law_odd_name" "_law_odd_name" s_law_odd_name (He.fAd K ("_law_odd_name", none)) d16 := funOfD FD16
  have b16 := F16.binds (ps := ["_law_flow_here"]) fun _ _ _ _ _ _ us hl => match us, hl with | [_], _ => rfl
  obtain ⟨d17, FD17⟩ := c.def_ 16 rfl
  have F17 : Fun K "_law_new_name" "_law_new_name" s_law_new_name (He.fAd K ("_law_new_name", none)) d17 := funOfD FD17
  have b17 := F17.binds (ps := ["_law_flow_here", "_law_m"]) fun _ _ _ _ _ _ us hl => match us, hl with | [_, _], _ => rfl
  obtain ⟨d18, FD18⟩ := c.def_ 17 rfl
  have F18 : Fun K "_law_road_due" "_law_road_due" s_law_road_due (He.fAd K ("_law_road_due", none)) d18 := funOfD FD18
  have b18 := F18.binds (ps := ["_law_m", "_law_name", "_law_begin", "_law_end", "_law_near", "_law_beyond"]) fun _ _ _ _ _ _ us hl => match us, hl with | [_, _, _, _, _, _], _ => rfl
  obtain ⟨d19, FD19⟩ := c.def_ 18 rfl
  have F19 : Fun K "_law_same" "_law_same" s_law_same (He.fAd K ("_law_same", none)) d19 := funOfD FD19
  have b19 := F19.binds (ps := ["_law_found", "_law_due"]) fun _ _ _ _ _ _ us hl => match us, hl with | [_, _], _ => rfl
  obtain ⟨d20, FD20⟩ := c.def_ 19 rfl
  have F20 : Fun K "__repr__" "Web.__repr__" s_Web_drepr (He.fAd K ("Web", some "__repr__")) d20 := funOfD FD20
  have b20 := F20.binds (ps := ["self"]) fun _ _ _ _ _ _ us hl => match us, hl with | [_], _ => rfl
  obtain ⟨d21, FD21⟩ := c.def_ 20 rfl
  have F21 : Fun K "road_of" "Web.road_of" s_Web_road_of (He.fAd K ("Web", some "road_of")) d21 := funOfD FD21
  have b21 := F21.binds (ps := ["self", "name"]) fun _ _ _ _ _ _ us hl => match us, hl with | [_, _], _ => rfl
  obtain ⟨d22, FD22⟩ := c.def_ 21 rfl
  have F22 : Fun K "turned_so" "Web.turned_so" s_Web_turned_so (He.fAd K ("Web", some "turned_so")) d22 := funOfD FD22
  have b22 := F22.binds (ps := ["self", "step", "at"]) fun _ _ _ _ _ _ us hl => match us, hl with | [_, _, _], _ => rfl
  obtain ⟨d23, FD23⟩ := c.def_ 22 rfl
  have F23 : Fun K "ends" "Web.ends" s_Web_ends (He.fAd K ("Web", some "ends")) d23 := funOfD FD23
  have b23 := F23.binds (ps := ["self", "step"]) fun _ _ _ _ _ _ us hl => match us, hl with | [_, _], _ => rfl
  obtain ⟨d24, FD24⟩ := c.def_ 23 rfl
  have F24 : Fun K "passages" "Web.passages" s_Web_passages (He.fAd K ("Web", some "passages")) d24 := funOfD FD24
  have b24 := F24.binds (ps := ["self"]) fun _ _ _ _ _ _ us hl => match us, hl with | [_], _ => rfl
  obtain ⟨d25, FD25⟩ := c.def_ 24 rfl
  have F25 : Fun K "rule" "Web.rule" s_Web_rule (He.fAd K ("Web", some "rule")) d25 := funOfD FD25
  have b25 := F25.binds (ps := ["self", "step"]) fun _ _ _ _ _ _ us hl => match us, hl with | [_, _], _ => rfl
  obtain ⟨d26, FD26⟩ := c.def_ 25 rfl
  have F26 : Fun K "steps_from" "Web.steps_from" s_Web_steps_from (He.fAd K ("Web", some "steps_from")) d26 := funOfD FD26
  have b26 := F26.binds (ps := ["self", "yard"]) fun _ _ _ _ _ _ us hl => match us, hl with | [_, _], _ => rfl
  obtain ⟨d27, FD27⟩ := c.def_ 26 rfl
  have F27 : Fun K "yards" "Web.yards" s_Web_yards (He.fAd K ("Web", some "yards")) d27 := funOfD FD27
  have b27 := F27.binds (ps := ["self"]) fun _ _ _ _ _ _ us hl => match us, hl with | [_], _ => rfl
  obtain ⟨d28, FD28⟩ := c.def_ 27 rfl
  have F28 : Fun K "_law_road" "_law_road" s_law_road (He.fAd K ("_law_road", none)) d28 := funOfD FD28
  have b28 := F28.binds (ps := ["_law_m", "_law_name"]) fun _ _ _ _ _ _ us hl => match us, hl with | [_, _], _ => rfl
  obtain ⟨d29, FD29⟩ := c.def_ 28 rfl
  have F29 : Fun K "_law_ends" "_law_ends" s_law_ends (He.fAd K ("_law_ends", none)) d29 := funOfD FD29
  have b29 := F29.binds (ps := ["_law_m", "_law_step"]) fun _ _ _ _ _ _ us hl => match us, hl with | [_, _], _ => rfl
  obtain ⟨d30, FD30⟩ := c.def_ 29 rfl
  have F30 : Fun K "_law_rule" "_law_rule" s_law_rule (He.fAd K ("_law_rule", none)) d30 := funOfD FD30
  have b30 := F30.binds (ps := ["_law_m", "_law_step"]) fun _ _ _ _ _ _ us hl => match us, hl with | [_, _], _ => rfl
  obtain ⟨d31, FD31⟩ := c.def_ 30 rfl
  have F31 : Fun K "_law_steps_from" "_law_steps_from" s_law_steps_from (He.fAd K ("_law_steps_from", none)) d31 := funOfD FD31
  have b31 := F31.binds (ps := ["_law_m", "_law_yard"]) fun _ _ _ _ _ _ us hl => match us, hl with | [_, _], _ => rfl
  obtain ⟨d32, FD32⟩ := c.def_ 31 rfl
  have F32 : Fun K "_law_webs_stand" "_law_webs_stand" s_law_webs_stand (He.fAd K ("_law_webs_stand", none)) d32 := funOfD FD32
  have b32 := F32.binds (ps := ["_law_web", "_law_m"]) fun _ _ _ _ _ _ us hl => match us, hl with | [_, _], _ => rfl
  obtain ⟨d33, FD33⟩ := c.def_ 32 rfl
  have F33 : Fun K "law" "law" s_law (He.fAd K ("law", none)) d33 := funOfD FD33
  have b33 := F33.binds (ps := ["_law_script"]) fun _ _ _ _ _ _ us hl => match us, hl with | [_], _ => rfl
  obtain ⟨dXFull, FDXFull⟩ := c.def_ 33 rfl
  have FXFull : Fun K "__init__" "Full.__init__" s_Full_init (He.ma K (He.ga K "Full") "__init__") dXFull := funOfD FDXFull
  have bXFull := FXFull.binds (ps := ["self", "many"]) fun _ _ _ _ _ _ us hl => match us, hl with | [_, _], _ => rfl
  obtain ⟨dXBadName, FDXBadName⟩ := c.def_ 34 rfl
  have FXBadName : Fun K "__init__" "BadName.__init__" s_BadName_init (He.ma K (He.ga K "BadName") "__init__") dXBadName := funOfD FDXBadName
  have bXBadName := FXBadName.binds (ps := ["self", "name"]) fun _ _ _ _ _ _ us hl => match us, hl with | [_, _], _ => rfl
  obtain ⟨dXTaken, FDXTaken⟩ := c.def_ 35 rfl
  have FXTaken : Fun K "__init__" "Taken.__init__" s_Taken_init (He.ma K (He.ga K "Taken") "__init__") dXTaken := funOfD FDXTaken
  have bXTaken := FXTaken.binds (ps := ["self", "name"]) fun _ _ _ _ _ _ us hl => match us, hl with | [_, _], _ => rfl
  obtain ⟨dXNoYard, FDXNoYard⟩ := c.def_ 36 rfl
  have FXNoYard : Fun K "__init__" "NoYard.__init__" s_NoYard_init (He.ma K (He.ga K "NoYard") "__init__") dXNoYard := funOfD FDXNoYard
  have bXNoYard := FXNoYard.binds (ps := ["self", "name"]) fun _ _ _ _ _ _ us hl => match us, hl with | [_, _], _ => rfl
  obtain ⟨dXBadTurns, FDXBadTurns⟩ := c.def_ 37 rfl
  have FXBadTurns : Fun K "__init__" "BadTurns.__init__" s_BadTurns_init (He.ma K (He.ga K "BadTurns") "__init__") dXBadTurns := funOfD FDXBadTurns
  have bXBadTurns := FXBadTurns.binds (ps := ["self", "number"]) fun _ _ _ _ _ _ us hl => match us, hl with | [_, _], _ => rfl
  have kb0_Web_with_passage := fun_kbn (ps := ["self", "name", "begin", "end", "here", "there"]) (ks := ["there", "here"]) F10 4 [1, 0] fun _ _ _ _ _ _ us ws hl hw => match us, hl with | [_, _, _, _], _ => match ws, hw with | [_, _], _ => rfl
  have T : Tx K mg ⟨(He.fAd K ("_law_field", none)), d1, (He.fAd K ("Web", some "__init__")), d2, (He.fAd K ("Web", some "__len__")), d3, (He.fAd K ("is_name", none)), d4, (He.fAd K ("Web", some "need_new")), d5, (He.fAd K ("Web", some "need_yard")), d6, (He.fAd K ("Web", some "turned")), d7, (He.fAd K ("is_whole", none)), d8, (He.fAd K ("need_turns", none)), d9, (He.fAd K ("Web", some "with_passage")), d10, (He.fAd K ("Web", some "with_yard")), d11, (He.fAd K ("_law_draw", none)), d12, (He.fAd K ("_law_flow", none)), d13, (He.fAd K ("_law_new_due", none)), d14, (He.fAd K ("_law_pick", none)), d15, (He.fAd K ("_law_odd_name", none)), d16, (He.fAd K ("_law_new_name", none)), d17, (He.fAd K ("_law_road_due", none)), d18, (He.fAd K ("_law_same", none)), d19, (He.fAd K ("Web", some "__repr__")), d20, (He.fAd K ("Web", some "road_of")), d21, (He.fAd K ("Web", some "turned_so")), d22, (He.fAd K ("Web", some "ends")), d23, (He.fAd K ("Web", some "passages")), d24, (He.fAd K ("Web", some "rule")), d25, (He.fAd K ("Web", some "steps_from")), d26, (He.fAd K ("Web", some "yards")), d27, (He.fAd K ("_law_road", none)), d28, (He.fAd K ("_law_ends", none)), d29, (He.fAd K ("_law_rule", none)), d30, (He.fAd K ("_law_steps_from", none)), d31, (He.fAd K ("_law_webs_stand", none)), d32, (He.fAd K ("law", none)), d33, (tabAt K ("law", none)).1, (tabAt K ("law", none)).2, He.ga K "BadName", He.ga K "Taken", He.ga K "Tied", He.ga K "InUse", He.ga K "Breaks", He.ga K "NoName", He.ga K "NoYard", He.ga K "NoPassage", He.ga K "NoWalk", He.ga K "BadRow", He.ga K "Astray", He.ga K "BadExchange", He.ga K "BadText", He.ga K "BadDeed", He.ga K "Full", He.ga K "BadTurns", He.ga K "HawserError", He.ga K "NothingLeft", He.ga K "Web", He.ga K "Full", He.ma K (He.ga K "Full") "__init__", dXFull, He.ga K "BadName", He.ma K (He.ga K "BadName") "__init__", dXBadName, He.ga K "Taken", He.ma K (He.ga K "Taken") "__init__", dXTaken, He.ga K "NoYard", He.ma K (He.ga K "NoYard") "__init__", dXNoYard, He.ga K "BadTurns", He.ma K (He.ga K "BadTurns") "__init__", dXBadTurns⟩ := {
    F_law_field := F1, g_law_field := PySem.W.mg_of X G a1, b_law_field := b1,
    F_Web_dinit := F2, mk_Web := ⟨miWeb, a2, i2, kcWeb⟩, b_Web_dinit := b2,
    F_Web_dlen := F3, me_Web_dlen := ⟨a3, i3, F3.kp⟩, b_Web_dlen := b3,
    F_is_name := F4, g_is_name := PySem.W.mg_of X G a4, b_is_name := b4,
    F_Web_need_new := F5, me_Web_need_new := ⟨a5, i5, F5.kp⟩, b_Web_need_new := b5,
    F_Web_need_yard := F6, me_Web_need_yard := ⟨a6, i6, F6.kp⟩, b_Web_need_yard := b6,
    F_Web_turned := F7, me_Web_turned := ⟨a7, i7, F7.kp⟩, b_Web_turned := b7,
    F_is_whole := F8, g_is_whole := PySem.W.mg_of X G a8, b_is_whole := b8,
    F_need_turns := F9, g_need_turns := PySem.W.mg_of X G a9, b_need_turns := b9,
    F_Web_with_passage := F10, me_Web_with_passage := ⟨a10, i10, F10.kp⟩,
    F_Web_with_yard := F11, me_Web_with_yard := ⟨a11, i11, F11.kp⟩, b_Web_with_yard := b11,
    F_law_draw := F12, g_law_draw := PySem.W.mg_of X G a12, b_law_draw := b12,
    F_law_flow := F13, g_law_flow := PySem.W.mg_of X G a13, b_law_flow := b13,
    F_law_new_due := F14, g_law_new_due := PySem.W.mg_of X G a14, b_law_new_due := b14,
    F_law_pick := F15, g_law_pick := PySem.W.mg_of X G a15, b_law_pick := b15,
    F_law_odd_name := F16, g_law_odd_name := PySem.W.mg_of X G a16, b_law_odd_name := b16,
    F_law_new_name := F17, g_law_new_name := PySem.W.mg_of X G a17, b_law_new_name := b17,
    F_law_road_due := F18, g_law_road_due := PySem.W.mg_of X G a18, b_law_road_due := b18,
    F_law_same := F19, g_law_same := PySem.W.mg_of X G a19, b_law_same := b19,
    F_Web_drepr := F20, me_Web_drepr := ⟨a20, i20, F20.kp⟩, b_Web_drepr := b20,
    F_Web_road_of := F21, me_Web_road_of := ⟨a21, i21, F21.kp⟩, b_Web_road_of := b21,
    F_Web_turned_so := F22, me_Web_turned_so := ⟨a22, i22, F22.kp⟩, b_Web_turned_so := b22,
    F_Web_ends := F23, me_Web_ends := ⟨a23, i23, F23.kp⟩, b_Web_ends := b23,
    F_Web_passages := F24, me_Web_passages := ⟨a24, i24, F24.kp⟩, b_Web_passages := b24,
    F_Web_rule := F25, me_Web_rule := ⟨a25, i25, F25.kp⟩, b_Web_rule := b25,
    F_Web_steps_from := F26, me_Web_steps_from := ⟨a26, i26, F26.kp⟩, b_Web_steps_from := b26,
    F_Web_yards := F27, me_Web_yards := ⟨a27, i27, F27.kp⟩, b_Web_yards := b27,
    F_law_road := F28, g_law_road := PySem.W.mg_of X G a28, b_law_road := b28,
    F_law_ends := F29, g_law_ends := PySem.W.mg_of X G a29, b_law_ends := b29,
    F_law_rule := F30, g_law_rule := PySem.W.mg_of X G a30, b_law_rule := b30,
    F_law_steps_from := F31, g_law_steps_from := PySem.W.mg_of X G a31, b_law_steps_from := b31,
    F_law_webs_stand := F32, g_law_webs_stand := PySem.W.mg_of X G a32, b_law_webs_stand := b32,
    F_law := F33, g_law := PySem.W.mg_of X G a33, b_law := b33,
    h_BadName := PySem.W.mg_of X G hhBadName,
    h_Taken := PySem.W.mg_of X G hhTaken,
    h_Tied := PySem.W.mg_of X G hhTied,
    h_InUse := PySem.W.mg_of X G hhInUse,
    h_Breaks := PySem.W.mg_of X G hhBreaks,
    h_NoName := PySem.W.mg_of X G hhNoName,
    h_NoYard := PySem.W.mg_of X G hhNoYard,
    h_NoPassage := PySem.W.mg_of X G hhNoPassage,
    h_NoWalk := PySem.W.mg_of X G hhNoWalk,
    h_BadRow := PySem.W.mg_of X G hhBadRow,
    h_Astray := PySem.W.mg_of X G hhAstray,
    h_BadExchange := PySem.W.mg_of X G hhBadExchange,
    h_BadText := PySem.W.mg_of X G hhBadText,
    h_BadDeed := PySem.W.mg_of X G hhBadDeed,
    h_Full := PySem.W.mg_of X G hhFull,
    h_BadTurns := PySem.W.mg_of X G hhBadTurns,
    h_HawserError := PySem.W.mg_of X G hhHawserError,
    h_NothingLeft := PySem.W.mg_of X G hhNothingLeft,
    xf_Full := xfB_ok xbFull, fd_Full := eq_of_beq fdFull,
    xf_BadName := xfB_ok xbBadName, fd_BadName := eq_of_beq fdBadName,
    xf_Taken := xfB_ok xbTaken, fd_Taken := eq_of_beq fdTaken,
    xf_NoYard := xfB_ok xbNoYard, fd_NoYard := eq_of_beq fdNoYard,
    xf_BadTurns := xfB_ok xbBadTurns, fd_BadTurns := eq_of_beq fdBadTurns,
    cd_law := funD_code FD33 (dT ("law", none) (by simp [hTabs])).1,
    tu := tu0,
    len_Web := ⟨a3, i3⟩,
    rep_Web := ⟨a20, i20⟩,
    nbl_Web := nbWeb,
    kb0_Web_with_passage := kb0_Web_with_passage,
    g_Web := PySem.W.mg_of X G gWeb, cF_Web := ⟨pgWeb, hdWeb, poWeb, saWeb, haWeb, hmWeb⟩,
    na_Web_places := na_Web_places,
    na_Web_roads := na_Web_roads,
    cb := cb, hn := hn, htk := htk,
    g_Full := PySem.W.mg_of X G egFull, o_Full := oexG_of eoFull esFull exFull etFull ekFull, i_Full := eiFull, t_Full := ejFull, F_Full_init := FXFull, b_Full_init := bXFull, nw_Full := ewFull, nf_Full := efFull,
    g_BadName := PySem.W.mg_of X G egBadName, o_BadName := oexG_of eoBadName esBadName exBadName etBadName ekBadName, i_BadName := eiBadName, t_BadName := ejBadName, F_BadName_init := FXBadName, b_BadName_init := bXBadName, nw_BadName := ewBadName, nf_BadName := efBadName,
    g_Taken := PySem.W.mg_of X G egTaken, o_Taken := oexG_of eoTaken esTaken exTaken etTaken ekTaken, i_Taken := eiTaken, t_Taken := ejTaken, F_Taken_init := FXTaken, b_Taken_init := bXTaken, nw_Taken := ewTaken, nf_Taken := efTaken,
    g_NoYard := PySem.W.mg_of X G egNoYard, o_NoYard := oexG_of eoNoYard esNoYard exNoYard etNoYard ekNoYard, i_NoYard := eiNoYard, t_NoYard := ejNoYard, F_NoYard_init := FXNoYard, b_NoYard_init := bXNoYard, nw_NoYard := ewNoYard, nf_NoYard := efNoYard,
    g_BadTurns := PySem.W.mg_of X G egBadTurns, o_BadTurns := oexG_of eoBadTurns esBadTurns exBadTurns etBadTurns ekBadTurns, i_BadTurns := eiBadTurns, t_BadTurns := ejBadTurns, F_BadTurns_init := FXBadTurns, b_BadTurns_init := bXBadTurns, nw_BadTurns := ewBadTurns, nf_BadTurns := efBadTurns,
    z_range := PySem.W.mg_none_of X G zrange,
    z_len := PySem.W.mg_none_of X G zlen,
    z_dict := PySem.W.mg_none_of X G zdict,
    z_all := PySem.W.mg_none_of X G zall,
    z_tuple := PySem.W.mg_none_of X G ztuple,
    z_isinstance := PySem.W.mg_none_of X G zisinstance,
    z_bool := PySem.W.mg_none_of X G zbool,
    z_int := PySem.W.mg_none_of X G zint,
    z_abs := PySem.W.mg_none_of X G zabs,
    z_list := PySem.W.mg_none_of X G zlist,
    z_str := PySem.W.mg_none_of X G zstr,
    z_repr := PySem.W.mg_none_of X G zrepr,
    c_MOST_PASSAGES := cMOST_PASSAGES,
    c_LETTERS := cLETTERS,
    c_LONGEST_NAME := cLONGEST_NAME,
    c_MOST_TURNS := cMOST_TURNS,
    c_MOST_YARDS := cMOST_YARDS }
  have bA := FunD.bindsA (ps := ["_law_script"]) FD33 fun _ _ _ _ _ _ us hl => match us, hl with | [_], _ => rfl
  refine ⟨_, fun s v => ?_, fun base _ _ tb => law_sp (G := Gx K _) rfl (ok_law ⟨T, tb _ (List.mem_map.mpr ⟨("law", none), by simp [hTabs], rfl⟩)⟩) law_true⟩
  exact bA s [v] rfl
end Lw
open PySem PySem.W PySem.Calls PyProof.Rows in
set_option maxRecDepth 100000 in
set_option maxHeartbeats 0 in
theorem PySem.Challenge.cw_hawserweb_k05_webs_refused_holds : PySem.Challenge.rw_hawserweb_k05_webs_refused.Holds := by
  w_on; o_law
  refine HandSHeadRun.head_any (r := Lw.hRow) (q := view Lw.hRow.prog [48]) (H := Lw.hk) (ob := Lw.hOb) (M := 60000) (loose := Lw.hNames) (d := HandSHeadRun.topDef Lw.hRow.prog 48) (kwd := []) Lw.hOb_eq
    (by kernel_rfl) (fun s => by kernel_rfl) Lw.hRun (by kernel_rfl) (by kernel_rfl) (by kernel_rfl) (by rfl) (by first | assumption | decide +kernel) (by decide +kernel) ⟨rfl, rfl, rfl, rfl, rfl, by decide +kernel⟩ ?hw ?hc
  case hw => w_witness2
  case hc =>
    refine Dv.walk_lawT (l := PySem.Challenge.rw_hawserweb_k05_webs_refused) (k := 23) (x := "_law_script") rfl (by kernel_rfl) ⟨rfl, by decide, by decide⟩ ?F
    intro w mg fa h Y G hmg0
    obtain ⟨K, KX, c, dT⟩ := Y
    have hmg : mg ("law" : PySem.Str) = some (.ref fa) := by
      have e : (HandSHeadRun.topDef Lw.hRow.prog 48).name = ("law" : PySem.Str) := by kernel_rfl
      rw [← e]
      exact hmg0
    obtain ⟨fd, hb, hF⟩ := Lw.all_of (l := PySem.Challenge.rw_hawserweb_k05_webs_refused) (w := w) KX G hmg c dT
    exact ⟨K, fd, Lw.hTabs.map (Dv.tabAt K), _, KX, (Dv.says_end KX dT).1, (Dv.says_end KX dT).2.1, (Dv.says_end KX dT).2.2, (fun t ht => by simp only [List.mem_cons, List.not_mem_nil, or_false] at ht; rcases ht with rfl <;> exact ⟨_, List.mem_map.mpr ⟨_, by simp [Lw.hTabs], rfl⟩, rfl⟩), hb, hF⟩
