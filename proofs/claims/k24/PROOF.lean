import PyProof.Rows.All
import PySem.Challenge.RW_hawserweb_k24_places_beside
import Wide.All
import OpenK.AllK
import Wide.FinOn
import HandS.ForMost
import HandS.Wide
import HandS.Exc
import HandS.ExcOwn
import HandS.ExcInit
import HandS.Head0
import HandS.Head1
import HandS.Head2
import HandS.HeadEnd
import HandS.HeadHook1
import HandS.HeadHook2
import KE.KNestM
import KE.KTryMore
import HandS.ExcField
import KE.KExcInit
import HandS.HeadHook3
import HandS.TryOnly
import HandS.TryMany
import HandS.WordsExc
import HandS.CallSlots
import HandS.TupAny
import HandS.IsInst
import HandS.Flow
import HandS.Lambda
import HandS.Style
import HandS.ExcCtx
import HandS.HotCalls
import HandS.FStr
import HandS.RaiseMore
import HandS.Dict
import KE.KUnpackStar
import HandS.Iter
import KE.GoesEnumKw
import HandS.Defaults
import HandS.OwnEq
import KE.GoesMore
import KE.GoesEnum
import HandS.Deep
import HandS.HeadWalk
import KE.KExcStr
import HandS.Small
import HandS.List
import HandS.DictEq
import HandS.DeepEq
import PyProof.P3Eq
import HandS.WrittenGet
import HandS.TupMul
import HandS.More
import PyProof.StrBlock2
import HandS.Text
import HandS.TupLen
import KE.KDictDisplayH
import PyProof.EqAt
import PyProof.EqKinds
import HandS.Sort
import HandS.Conv
import HandS.DictComp
import HandS.Finally
import PyProof.NeKinds
import HandS.TupSets
import KE.KeyNested
set_option Elab.async false
set_option linter.all false
set_option maxRecDepth 100000
set_option maxHeartbeats 4000000
set_option autoImplicit false
/-! what the head decides: ahead of all else, for its run wants room -/
namespace Dv
open PySem PySem.Spec PyProof.Rows L2
abbrev tys : List String := ["NoneType", "bool", "int", "str", "tuple", "list", "dict"]
abbrev clss : List String := ["bool", "int", "str", "tuple", "list", "dict"]
/-- the classes' addresses by name -/
abbrev CL := List (String × Addr)
def clsB (K : PySem.W.Frag) (L : CL) : Bool := L.all fun p => tys.all (fun t => PySem.W.kitOne K (.type t) (.ref p.2) == some false) && clss.all (fun t => PySem.W.kitOne K (.ref p.2) (.type t) == some false) &&
  L.all fun q => PySem.W.kitOne K (.ref p.2) (.ref q.2) == some (p.1 == q.1)
abbrev Test : Type := PySem.W.Frag → Bool
def obsL (fs : List Test) (fn : List He.DefD) (K : PySem.W.Frag) : He.AlD := ((fs.all fun f => f K) && fn.all fun d => d.ok K, fn.map fun d => He.fnW K d.at_)
def SaysL (fs : List Test) (fn : List He.DefD) (K : PySem.W.Frag) : Prop := obsL fs fn K = He.valD fn
def obsLG (as : List Addr) (fs : List Test) (fn : List He.DefD) (g : Addr → Option Obj) : He.AlD := obsL fs fn (He.frG g as)
def hookL (as : List Addr) (fs : List Test) (fn : List He.DefD) : PySem.W.Hook where
  α := He.AlD
  obs := fun s => obsLG as fs fn s.heap.get?
  val := fun _ => He.valD fn
  says := fun _ h => ∃ K : PySem.W.Frag, K.In h ∧ SaysL fs fn K
  of := fun _ _ e => ⟨_, He.frG_in, e⟩
  keeps := fun _ _ _ ⟨K, hK, c⟩ k => ⟨K, PySem.W.Frag.In.keeps hK k, c⟩
theorem obsLG_eq {as : List Addr} {fs : List Test} {fn : List He.DefD} {g : Addr → Option Obj} {s : Shared} (h : ∀ a, g a = s.heap.get? a) : obsLG as fs fn g = (hookL as fs fn).obs s := by
  have e : g = s.heap.get? := funext h
  rw [e] <;> rfl
/-! ### tables of code objects: left out of K -/
/-! ### a world whose answer to one question is told -/
def w1 (w : World) (b : Bool) : World := { w with params := { w.params with followText := fun s => match decide (s = "special-get-raises") with
  | true => b
  | false => w.params.followText s } }
/-! ### tables of the top with text keys -/
abbrev TabD : Type := (PySem.W.Frag → Addr) × List Str
def SaysW (ts : List TabD) (w : World) (K : PySem.W.Frag) : Prop := (ts.map fun t => He.dicW K (t.1 K)) = ts.map fun t => some (He.keysIn w.params t.2)
theorem SaysW.tab {ts : List TabD} {w : World} {K : PySem.W.Frag} (c : SaysW ts w K) (i : Nat) {t : TabD} (h : ts[i]? = some t := by rfl) : He.dicW K (t.1 K) = some (He.keysIn w.params t.2) := by
  have e2 : (ts.map fun t => He.dicW K (t.1 K))[i]? = (ts.map fun t => some (He.keysIn w.params t.2))[i]? := by rw [show (ts.map fun t => He.dicW K (t.1 K)) = _ from c]
  rw [List.getElem?_map, List.getElem?_map, h] at e2
  exact Option.some.inj e2
end Dv
set_option Elab.async false
set_option linter.all false
set_option maxRecDepth 100000
set_option maxHeartbeats 4000000
set_option autoImplicit false
namespace Lw
open PySem PySem.Spec PyProof.Rows L2 Dv
def topS (i : Nat) : Stmt := PySem.Challenge.pw_hawserweb_k24_places_beside.main.body.getD i (.Pass ⟨0, 0, 0, 0⟩)
abbrev s_law_laid : Stmt := topS 51
theorem sc_law_laid : FnScope ["_law_pairs", "_law_now", "_law_row", "_law_rest", "_law_step"] ["_law_pairs", "_law_now"] (defScope s_law_laid) := ⟨rfl, rfl, rfl, by decide +kernel, rfl, by decide +kernel, by decide +kernel⟩
abbrev s_law_place_row : Stmt := topS 54
theorem sc_law_place_row : FnScope ["_law_place_here"] ["_law_place_here"] (defScope s_law_place_row) := ⟨rfl, rfl, rfl, by decide +kernel, rfl, by decide +kernel, by decide +kernel⟩
abbrev s_law_road : Stmt := topS 42
theorem sc_law_road : FnScope ["_law_m", "_law_name", "_law_road_here"] ["_law_m", "_law_name"] (defScope s_law_road) := ⟨rfl, rfl, rfl, by decide +kernel, rfl, by decide +kernel, by decide +kernel⟩
abbrev s_law_ends : Stmt := topS 43
theorem sc_law_ends : FnScope ["_law_m", "_law_step", "_law_road_here"] ["_law_m", "_law_step"] (defScope s_law_ends) := ⟨rfl, rfl, rfl, by decide +kernel, rfl, by decide +kernel, by decide +kernel⟩
abbrev s_law_yards_on : Stmt := topS 48
theorem sc_law_yards_on : FnScope ["_law_m", "_law_start", "_law_row", "_law_found", "_law_step"] ["_law_m", "_law_start", "_law_row"] (defScope s_law_yards_on) := ⟨rfl, rfl, rfl, by decide +kernel, rfl, by decide +kernel, by decide +kernel⟩
abbrev s_law_end_of : Stmt := topS 55
theorem sc_law_end_of : FnScope ["_law_m", "_law_root", "_law_place_here"] ["_law_m", "_law_root", "_law_place_here"] (defScope s_law_end_of) := ⟨rfl, rfl, rfl, by decide +kernel, rfl, by decide +kernel, by decide +kernel⟩
abbrev s_law_join : Stmt := topS 49
theorem sc_law_join : FnScope ["_law_row", "_law_other"] ["_law_row", "_law_other"] (defScope s_law_join) := ⟨rfl, rfl, rfl, by decide +kernel, rfl, by decide +kernel, by decide +kernel⟩
abbrev s_law_rule : Stmt := topS 44
theorem sc_law_rule : FnScope ["_law_m", "_law_step", "_law_road_here"] ["_law_m", "_law_step"] (defScope s_law_rule) := ⟨rfl, rfl, rfl, by decide +kernel, rfl, by decide +kernel, by decide +kernel⟩
abbrev s_law_undone : Stmt := topS 41
theorem sc_law_undone : FnScope ["_law_step"] ["_law_step"] (defScope s_law_undone) := ⟨rfl, rfl, rfl, by decide +kernel, rfl, by decide +kernel, by decide +kernel⟩
abbrev s_law_settled : Stmt := topS 50
theorem sc_law_settled : FnScope ["_law_m", "_law_row", "_law_pairs", "_law_now", "_law_at", "_law_near", "_law_beyond", "_law_rest"] ["_law_m", "_law_row"] (defScope s_law_settled) := ⟨rfl, rfl, rfl, by decide +kernel, rfl, by decide +kernel, by decide +kernel⟩
abbrev s_law_place : Stmt := topS 52
theorem sc_law_place : FnScope ["_law_m", "_law_row"] ["_law_m", "_law_row"] (defScope s_law_place) := ⟨rfl, rfl, rfl, by decide +kernel, rfl, by decide +kernel, by decide +kernel⟩
abbrev s_law_steps_from : Stmt := topS 45
theorem sc_law_steps_from : FnScope ["_law_m", "_law_yard", "_law_found", "_law_name", "_law_begin", "_law_end", "_law_near", "_law_beyond"] ["_law_m", "_law_yard"] (defScope s_law_steps_from) := ⟨rfl, rfl, rfl, by decide +kernel, rfl, by decide +kernel, by decide +kernel⟩
abbrev s_law_beside : Stmt := topS 56
theorem sc_law_beside : FnScope ["_law_m", "_law_root", "_law_place_here", "_law_found", "_law_step", "_law_turns_here"] ["_law_m", "_law_root", "_law_place_here"] (defScope s_law_beside) := ⟨rfl, rfl, rfl, by decide +kernel, rfl, by decide +kernel, by decide +kernel⟩
abbrev s_law_draw : Stmt := topS 34
theorem sc_law_draw : FnScope ["_law_flow_here", "_law_size", "_law_found", "_law_cell", "_law_base"] ["_law_flow_here", "_law_size"] (defScope s_law_draw) := ⟨rfl, rfl, rfl, by decide +kernel, rfl, by decide +kernel, by decide +kernel⟩
abbrev s_law_names : Stmt := topS 37
theorem sc_law_names : FnScope ["_law_flow_here", "_law_many", "_law_words", "_law_found", "_law_k"] ["_law_flow_here", "_law_many"] (defScope s_law_names) := ⟨rfl, rfl, rfl, by decide +kernel, rfl, by decide +kernel, by decide +kernel⟩
abbrev s_law_pick : Stmt := topS 35
theorem sc_law_pick : FnScope ["_law_flow_here", "_law_lot"] ["_law_flow_here", "_law_lot"] (defScope s_law_pick) := ⟨rfl, rfl, rfl, by decide +kernel, rfl, by decide +kernel, by decide +kernel⟩
abbrev s_law_number : Stmt := topS 38
theorem sc_law_number : FnScope ["_law_flow_here", "_law_most_now", "_law_pick_here"] ["_law_flow_here", "_law_most_now"] (defScope s_law_number) := ⟨rfl, rfl, rfl, by decide +kernel, rfl, by decide +kernel, by decide +kernel⟩
abbrev s_law_drawn_web : Stmt := topS 39
theorem sc_law_drawn_web : FnScope ["_law_flow_here", "_law_many", "_law_more", "_law_most_now", "_law_words", "_law_m", "_law_k", "_law_one", "_law_other", "_law_road_here"] ["_law_flow_here", "_law_many", "_law_more", "_law_most_now"] (defScope s_law_drawn_web) := ⟨rfl, rfl, rfl, by decide +kernel, rfl, by decide +kernel, by decide +kernel⟩
abbrev s_law_flow : Stmt := topS 33
theorem sc_law_flow : FnScope ["_law_script"] ["_law_script"] (defScope s_law_flow) := ⟨rfl, rfl, rfl, by decide +kernel, rfl, by decide +kernel, by decide +kernel⟩
abbrev s_law_same : Stmt := topS 36
theorem sc_law_same : FnScope ["_law_found", "_law_due", "_law_k"] ["_law_found", "_law_due"] (defScope s_law_same) := ⟨rfl, rfl, rfl, by decide +kernel, rfl, by decide +kernel, by decide +kernel⟩
abbrev s_law_turns : Stmt := topS 46
theorem sc_law_turns : FnScope ["_law_flow_here", "_law_far_now"] ["_law_flow_here", "_law_far_now"] (defScope s_law_turns) := ⟨rfl, rfl, rfl, by decide +kernel, rfl, by decide +kernel, by decide +kernel⟩
abbrev s_law_drawn_row : Stmt := topS 47
theorem sc_law_drawn_row : FnScope ["_law_flow_here", "_law_m", "_law_start", "_law_many", "_law_far_now", "_law_yard", "_law_row", "_law_k", "_law_some", "_law_step"] ["_law_flow_here", "_law_m", "_law_start", "_law_many", "_law_far_now"] (defScope s_law_drawn_row) := ⟨rfl, rfl, rfl, by decide +kernel, rfl, by decide +kernel, by decide +kernel⟩
abbrev s_law_some_place : Stmt := topS 53
theorem sc_law_some_place : FnScope ["_law_flow_here", "_law_m", "_law_root", "_law_most_now"] ["_law_flow_here", "_law_m", "_law_root", "_law_most_now"] (defScope s_law_some_place) := ⟨rfl, rfl, rfl, by decide +kernel, rfl, by decide +kernel, by decide +kernel⟩
abbrev s_Web_dinit : Stmt := inClass (topS 24) 0
theorem sc_Web_dinit : FnScope ["self"] ["self"] (defScope s_Web_dinit) := ⟨rfl, rfl, rfl, by decide +kernel, rfl, by decide +kernel, by decide +kernel⟩
abbrev s_is_name : Stmt := topS 21
theorem sc_is_name : FnScope ["text", "sign"] ["text"] (defScope s_is_name) := ⟨rfl, rfl, rfl, by decide +kernel, rfl, by decide +kernel, by decide +kernel⟩
abbrev s_Web_need_new : Stmt := inClass (topS 24) 5
theorem sc_Web_need_new : FnScope ["self", "name", "road"] ["self", "name"] (defScope s_Web_need_new) := ⟨rfl, rfl, rfl, by decide +kernel, rfl, by decide +kernel, by decide +kernel⟩
abbrev s_Web_need_yard : Stmt := inClass (topS 24) 6
theorem sc_Web_need_yard : FnScope ["self", "name"] ["self", "name"] (defScope s_Web_need_yard) := ⟨rfl, rfl, rfl, by decide +kernel, rfl, by decide +kernel, by decide +kernel⟩
abbrev s_Web_turned : Stmt := inClass (topS 24) 4
theorem sc_Web_turned : FnScope ["self", "places", "roads", "made"] ["self", "places", "roads"] (defScope s_Web_turned) := ⟨rfl, rfl, rfl, by decide +kernel, rfl, by decide +kernel, by decide +kernel⟩
abbrev s_is_whole : Stmt := topS 17
theorem sc_is_whole : FnScope ["thing", "low", "high"] ["thing", "low", "high"] (defScope s_is_whole) := ⟨rfl, rfl, rfl, by decide +kernel, rfl, by decide +kernel, by decide +kernel⟩
abbrev s_need_turns : Stmt := topS 23
theorem sc_need_turns : FnScope ["number"] ["number"] (defScope s_need_turns) := ⟨rfl, rfl, rfl, by decide +kernel, rfl, by decide +kernel, by decide +kernel⟩
abbrev s_Web_with_passage : Stmt := inClass (topS 24) 8
theorem sc_Web_with_passage : FnScope ["self", "name", "begin", "end", "here", "there", "yard", "number"] ["self", "name", "begin", "end", "here", "there"] (defScope s_Web_with_passage) := ⟨rfl, rfl, rfl, by decide +kernel, rfl, by decide +kernel, by decide +kernel⟩
abbrev s_Web_with_yard : Stmt := inClass (topS 24) 7
theorem sc_Web_with_yard : FnScope ["self", "name"] ["self", "name"] (defScope s_Web_with_yard) := ⟨rfl, rfl, rfl, by decide +kernel, rfl, by decide +kernel, by decide +kernel⟩
abbrev s_law_web : Stmt := topS 40
theorem sc_law_web : FnScope ["_law_m", "_law_web_here", "_law_yard", "_law_name", "_law_begin", "_law_end", "_law_near", "_law_beyond"] ["_law_m"] (defScope s_law_web) := ⟨rfl, rfl, rfl, by decide +kernel, rfl, by decide +kernel, by decide +kernel⟩
abbrev s_Web_road_of : Stmt := inClass (topS 24) 13
theorem sc_Web_road_of : FnScope ["self", "name", "road"] ["self", "name"] (defScope s_Web_road_of) := ⟨rfl, rfl, rfl, by decide +kernel, rfl, by decide +kernel, by decide +kernel⟩
abbrev s_Web_turned_so : Stmt := inClass (topS 24) 16
theorem sc_Web_turned_so : FnScope ["self", "step", "at", "name", "way", "road"] ["self", "step", "at"] (defScope s_Web_turned_so) := ⟨rfl, rfl, rfl, by decide +kernel, rfl, by decide +kernel, by decide +kernel⟩
abbrev s_Web_ends : Stmt := inClass (topS 24) 14
theorem sc_Web_ends : FnScope ["self", "step"] ["self", "step"] (defScope s_Web_ends) := ⟨rfl, rfl, rfl, by decide +kernel, rfl, by decide +kernel, by decide +kernel⟩
abbrev s_Web_rule : Stmt := inClass (topS 24) 15
theorem sc_Web_rule : FnScope ["self", "step"] ["self", "step"] (defScope s_Web_rule) := ⟨rfl, rfl, rfl, by decide +kernel, rfl, by decide +kernel, by decide +kernel⟩
abbrev s_rule_from : Stmt := topS 26
theorem sc_rule_from : FnScope ["web", "yard", "step", "begin", "end"] ["web", "yard", "step"] (defScope s_rule_from) := ⟨rfl, rfl, rfl, by decide +kernel, rfl, by decide +kernel, by decide +kernel⟩
abbrev s_undone : Stmt := topS 22
theorem sc_undone : FnScope ["step", "name", "way"] ["step"] (defScope s_undone) := ⟨rfl, rfl, rfl, by decide +kernel, rfl, by decide +kernel, by decide +kernel⟩
abbrev s_yard_of : Stmt := topS 27
theorem sc_yard_of : FnScope ["web", "root", "place", "yard", "last", "turns", "step", "found"] ["web", "root", "place"] (defScope s_yard_of) := ⟨rfl, rfl, rfl, by decide +kernel, rfl, by decide +kernel, by decide +kernel⟩
abbrev s_need_place : Stmt := topS 28
theorem sc_need_place : FnScope ["web", "root", "place"] ["web", "root", "place"] (defScope s_need_place) := ⟨rfl, rfl, rfl, by decide +kernel, rfl, by decide +kernel, by decide +kernel⟩
abbrev s_shared : Stmt := topS 30
theorem sc_shared : FnScope ["one", "other", "many"] ["one", "other"] (defScope s_shared) := ⟨rfl, rfl, rfl, by decide +kernel, rfl, by decide +kernel, by decide +kernel⟩
abbrev s_far : Stmt := topS 31
theorem sc_far : FnScope ["web", "root", "one", "other"] ["web", "root", "one", "other"] (defScope s_far) := ⟨rfl, rfl, rfl, by decide +kernel, rfl, by decide +kernel, by decide +kernel⟩
abbrev s_Web_steps_from : Stmt := inClass (topS 24) 12
theorem sc_Web_steps_from : FnScope ["self", "yard", "found", "name", "begin", "end", "rest"] ["self", "yard"] (defScope s_Web_steps_from) := ⟨rfl, rfl, rfl, by decide +kernel, rfl, by decide +kernel, by decide +kernel⟩
abbrev s_neighbours : Stmt := topS 29
theorem sc_neighbours : FnScope ["web", "root", "place", "found", "step", "turns"] ["web", "root", "place"] (defScope s_neighbours) := ⟨rfl, rfl, rfl, by decide +kernel, rfl, by decide +kernel, by decide +kernel⟩
abbrev s_law : Stmt := topS 57
theorem sc_law : FnScope ["_law_script", "_law_flow_here", "_law_turn", "_law_m", "_law_web_here", "_law_root", "_law_place_here", "_law_found", "_law_many", "_law_step", "_law_other", "_law_back"] ["_law_script"] (defScope s_law) := ⟨rfl, rfl, rfl, by decide +kernel, rfl, by decide +kernel, by decide +kernel⟩
end Lw
set_option Elab.async false
set_option linter.all false
set_option maxRecDepth 100000
set_option maxHeartbeats 0
set_option autoImplicit false
namespace Lw
open PySem PySem.Spec PyProof.Rows L2 Dv
/-! the head by one run: printed by our gen.py -/
def hTests : List Test := [
  fun K => He.eqO (PySem.W.nsIn K mainGlobals "_law_laid") (some (some (.ref (He.fAd K ("_law_laid", none))))),
  fun K => He.eqO (PySem.W.nsIn K mainGlobals "_law_place_row") (some (some (.ref (He.fAd K ("_law_place_row", none))))),
  fun K => He.eqO (PySem.W.nsIn K mainGlobals "_law_road") (some (some (.ref (He.fAd K ("_law_road", none))))),
  fun K => He.eqO (PySem.W.nsIn K mainGlobals "_law_ends") (some (some (.ref (He.fAd K ("_law_ends", none))))),
  fun K => He.eqO (PySem.W.nsIn K mainGlobals "_law_yards_on") (some (some (.ref (He.fAd K ("_law_yards_on", none))))),
  fun K => He.eqO (PySem.W.nsIn K mainGlobals "_law_end_of") (some (some (.ref (He.fAd K ("_law_end_of", none))))),
  fun K => He.eqO (PySem.W.nsIn K mainGlobals "_law_join") (some (some (.ref (He.fAd K ("_law_join", none))))),
  fun K => He.eqO (PySem.W.nsIn K mainGlobals "_law_rule") (some (some (.ref (He.fAd K ("_law_rule", none))))),
  fun K => He.eqO (PySem.W.nsIn K mainGlobals "_law_undone") (some (some (.ref (He.fAd K ("_law_undone", none))))),
  fun K => He.eqO (PySem.W.nsIn K mainGlobals "_law_settled") (some (some (.ref (He.fAd K ("_law_settled", none))))),
  fun K => He.eqO (PySem.W.nsIn K mainGlobals "_law_place") (some (some (.ref (He.fAd K ("_law_place", none))))),
  fun K => He.eqO (PySem.W.nsIn K mainGlobals "_law_steps_from") (some (some (.ref (He.fAd K ("_law_steps_from", none))))),
  fun K => He.eqO (PySem.W.nsIn K mainGlobals "_law_beside") (some (some (.ref (He.fAd K ("_law_beside", none))))),
  fun K => He.eqO (PySem.W.nsIn K mainGlobals "_law_draw") (some (some (.ref (He.fAd K ("_law_draw", none))))),
  fun K => He.eqO (PySem.W.nsIn K mainGlobals "_law_names") (some (some (.ref (He.fAd K ("_law_names", none))))),
  fun K => He.eqO (PySem.W.nsIn K mainGlobals "_law_pick") (some (some (.ref (He.fAd K ("_law_pick", none))))),
  fun K => He.eqO (PySem.W.nsIn K mainGlobals "_law_number") (some (some (.ref (He.fAd K ("_law_number", none))))),
  fun K => He.eqO (PySem.W.nsIn K mainGlobals "_law_drawn_web") (some (some (.ref (He.fAd K ("_law_drawn_web", none))))),
  fun K => He.eqO (PySem.W.nsIn K mainGlobals "_law_flow") (some (some (.ref (He.fAd K ("_law_flow", none))))),
  fun K => He.eqO (PySem.W.nsIn K mainGlobals "_law_same") (some (some (.ref (He.fAd K ("_law_same", none))))),
  fun K => He.eqO (PySem.W.nsIn K mainGlobals "_law_turns") (some (some (.ref (He.fAd K ("_law_turns", none))))),
  fun K => He.eqO (PySem.W.nsIn K mainGlobals "_law_drawn_row") (some (some (.ref (He.fAd K ("_law_drawn_row", none))))),
  fun K => He.eqO (PySem.W.nsIn K mainGlobals "_law_some_place") (some (some (.ref (He.fAd K ("_law_some_place", none))))),
  fun K => He.eqO (PySem.W.findIn K (.ref (He.ga K "Web")) "__init__") (some (some (.ref (He.fAd K ("Web", some "__init__"))))),
  fun K => PySem.W.isFn K (.ref (He.fAd K ("Web", some "__init__"))),
  fun K => He.eqO (PySem.W.nsIn K mainGlobals "is_name") (some (some (.ref (He.fAd K ("is_name", none))))),
  fun K => He.eqO (PySem.W.findIn K (.ref (He.ga K "Web")) "need_new") (some (some (.ref (He.fAd K ("Web", some "need_new"))))),
  fun K => PySem.W.isFn K (.ref (He.fAd K ("Web", some "need_new"))),
  fun K => He.eqO (PySem.W.findIn K (.ref (He.ga K "Web")) "need_yard") (some (some (.ref (He.fAd K ("Web", some "need_yard"))))),
  fun K => PySem.W.isFn K (.ref (He.fAd K ("Web", some "need_yard"))),
  fun K => He.eqO (PySem.W.findIn K (.ref (He.ga K "Web")) "turned") (some (some (.ref (He.fAd K ("Web", some "turned"))))),
  fun K => PySem.W.isFn K (.ref (He.fAd K ("Web", some "turned"))),
  fun K => He.eqO (PySem.W.nsIn K mainGlobals "is_whole") (some (some (.ref (He.fAd K ("is_whole", none))))),
  fun K => He.eqO (PySem.W.nsIn K mainGlobals "need_turns") (some (some (.ref (He.fAd K ("need_turns", none))))),
  fun K => He.eqO (PySem.W.findIn K (.ref (He.ga K "Web")) "with_passage") (some (some (.ref (He.fAd K ("Web", some "with_passage"))))),
  fun K => PySem.W.isFn K (.ref (He.fAd K ("Web", some "with_passage"))),
  fun K => He.eqO (PySem.W.findIn K (.ref (He.ga K "Web")) "with_yard") (some (some (.ref (He.fAd K ("Web", some "with_yard"))))),
  fun K => PySem.W.isFn K (.ref (He.fAd K ("Web", some "with_yard"))),
  fun K => He.eqO (PySem.W.nsIn K mainGlobals "_law_web") (some (some (.ref (He.fAd K ("_law_web", none))))),
  fun K => He.eqO (PySem.W.findIn K (.ref (He.ga K "Web")) "road_of") (some (some (.ref (He.fAd K ("Web", some "road_of"))))),
  fun K => PySem.W.isFn K (.ref (He.fAd K ("Web", some "road_of"))),
  fun K => He.eqO (PySem.W.findIn K (.ref (He.ga K "Web")) "turned_so") (some (some (.ref (He.fAd K ("Web", some "turned_so"))))),
  fun K => PySem.W.isFn K (.ref (He.fAd K ("Web", some "turned_so"))),
  fun K => He.eqO (PySem.W.findIn K (.ref (He.ga K "Web")) "ends") (some (some (.ref (He.fAd K ("Web", some "ends"))))),
  fun K => PySem.W.isFn K (.ref (He.fAd K ("Web", some "ends"))),
  fun K => He.eqO (PySem.W.findIn K (.ref (He.ga K "Web")) "rule") (some (some (.ref (He.fAd K ("Web", some "rule"))))),
  fun K => PySem.W.isFn K (.ref (He.fAd K ("Web", some "rule"))),
  fun K => He.eqO (PySem.W.nsIn K mainGlobals "rule_from") (some (some (.ref (He.fAd K ("rule_from", none))))),
  fun K => He.eqO (PySem.W.nsIn K mainGlobals "undone") (some (some (.ref (He.fAd K ("undone", none))))),
  fun K => He.eqO (PySem.W.nsIn K mainGlobals "yard_of") (some (some (.ref (He.fAd K ("yard_of", none))))),
  fun K => He.eqO (PySem.W.nsIn K mainGlobals "need_place") (some (some (.ref (He.fAd K ("need_place", none))))),
  fun K => He.eqO (PySem.W.nsIn K mainGlobals "shared") (some (some (.ref (He.fAd K ("shared", none))))),
  fun K => He.eqO (PySem.W.nsIn K mainGlobals "far") (some (some (.ref (He.fAd K ("far", none))))),
  fun K => He.eqO (PySem.W.findIn K (.ref (He.ga K "Web")) "steps_from") (some (some (.ref (He.fAd K ("Web", some "steps_from"))))),
  fun K => PySem.W.isFn K (.ref (He.fAd K ("Web", some "steps_from"))),
  fun K => He.eqO (PySem.W.nsIn K mainGlobals "neighbours") (some (some (.ref (He.fAd K ("neighbours", none))))),
  fun K => He.eqO (PySem.W.nsIn K mainGlobals "law") (some (some (.ref (He.fAd K ("law", none))))),
  fun K => He.eqO (PySem.W.nsIn K mainGlobals "Web") (some (some (.ref (He.ga K "Web")))),
  fun K => PySem.W.plainGet K (He.ga K "Web") Str.empty,
  fun K => PySem.W.hasDictIn K (He.ga K "Web"),
  fun K => PySem.W.plainOver K (He.ga K "Web"),
  fun K => He.eqO (PySem.W.findIn K (.ref (He.ga K "Web")) "__setattr__") (some (some (.builtin "object.__setattr__"))),
  fun K => He.eqO (PySem.W.findIn K (.ref (He.ga K "Web")) "__class__") (some (some (.builtin "object.__class__"))),
  fun K => decide (PySem.W.mroIn K (He.ga K "Web") (.type "object") = some true),
  fun K => PySem.W.makesIn K (He.ga K "Web"),
  fun K => PySem.W.keepIn K (.ref (He.ga K "Web")),
  fun K => He.eqO (PySem.W.findIn K (.ref (He.ga K "Web")) "places") (some none),
  fun K => He.eqO (PySem.W.findIn K (.ref (He.ga K "Web")) "roads") (some none),
  fun K => He.eqO (PySem.W.specialIn K (.builtin "object.__class__") "__get__") (some (some (.builtin "getset_descriptor.__get__"))),
  fun K => decide (PySem.W.takesIn K (.builtin "object.__class__") = some true),
  fun K => clsB K [("Web", (He.ga K "Web"))],
  fun K => He.eqO (PySem.W.nsIn K mainGlobals "range") (some none),
  fun K => He.eqO (PySem.W.nsIn K mainGlobals "sum") (some none),
  fun K => He.eqO (PySem.W.nsIn K mainGlobals "abs") (some none),
  fun K => He.eqO (PySem.W.nsIn K mainGlobals "len") (some none),
  fun K => He.eqO (PySem.W.nsIn K mainGlobals "set") (some none),
  fun K => He.eqO (PySem.W.nsIn K mainGlobals "list") (some none),
  fun K => He.eqO (PySem.W.nsIn K mainGlobals "tuple") (some none),
  fun K => He.eqO (PySem.W.nsIn K mainGlobals "isinstance") (some none),
  fun K => He.eqO (PySem.W.nsIn K mainGlobals "bool") (some none),
  fun K => He.eqO (PySem.W.nsIn K mainGlobals "int") (some none),
  fun K => He.eqO (PySem.W.nsIn K mainGlobals "str") (some none),
  fun K => He.eqO (PySem.W.nsIn K mainGlobals "all") (some none),
  fun K => (He.Fa.int "MOST_PASSAGES" 8).ok K,
  fun K => (He.Fa.str "LETTERS" "abcdefghijklmnopqrstuvwxyz").ok K,
  fun K => (He.Fa.int "LONGEST_NAME" 8).ok K,
  fun K => (He.Fa.int "MOST_TURNS" 99).ok K,
  fun K => (He.Fa.int "MOST_YARDS" 6).ok K,
  fun K => (He.Fa.int "LONGEST" 200).ok K]
def hDefs : List He.DefD := [
  ⟨("_law_laid", none), "_law_laid", "_law_laid", defArgs s_law_laid, defBody s_law_laid, defScope s_law_laid, [], []⟩,
  ⟨("_law_place_row", none), "_law_place_row", "_law_place_row", defArgs s_law_place_row, defBody s_law_place_row, defScope s_law_place_row, [], []⟩,
  ⟨("_law_road", none), "_law_road", "_law_road", defArgs s_law_road, defBody s_law_road, defScope s_law_road, [], []⟩,
  ⟨("_law_ends", none), "_law_ends", "_law_ends", defArgs s_law_ends, defBody s_law_ends, defScope s_law_ends, [], []⟩,
  ⟨("_law_yards_on", none), "_law_yards_on", "_law_yards_on", defArgs s_law_yards_on, defBody s_law_yards_on, defScope s_law_yards_on, [], []⟩,
  ⟨("_law_end_of", none), "_law_end_of", "_law_end_of", defArgs s_law_end_of, defBody s_law_end_of, defScope s_law_end_of, [], []⟩,
  ⟨("_law_join", none), "_law_join", "_law_join", defArgs s_law_join, defBody s_law_join, defScope s_law_join, [], []⟩,
  ⟨("_law_rule", none), "_law_rule", "_law_rule", defArgs s_law_rule, defBody s_law_rule, defScope s_law_rule, [], []⟩,
  ⟨("_law_undone", none), "_law_undone", "_law_undone", defArgs s_law_undone, defBody s_law_undone, defScope s_law_undone, [], []⟩,
  ⟨("_law_settled", none), "_law_settled", "_law_settled", defArgs s_law_settled, defBody s_law_settled, defScope s_law_settled, [], []⟩,
  ⟨("_law_place", none), "_law_place", "_law_place", defArgs s_law_place, defBody s_law_place, defScope s_law_place, [], []⟩,
  ⟨("_law_steps_from", none), "_law_steps_from", "_law_steps_from", defArgs s_law_steps_from, defBody s_law_steps_from, defScope s_law_steps_from, [], []⟩,
  ⟨("_law_beside", none), "_law_beside", "_law_beside", defArgs s_law_beside, defBody s_law_beside, defScope s_law_beside, [], []⟩,
  ⟨("_law_draw", none), "_law_draw", "_law_draw", defArgs s_law_draw, defBody s_law_draw, defScope s_law_draw, [], []⟩,
  ⟨("_law_names", none), "_law_names", "_law_names", defArgs s_law_names, defBody s_law_names, defScope s_law_names, [], []⟩,
  ⟨("_law_pick", none), "_law_pick", "_law_pick", defArgs s_law_pick, defBody s_law_pick, defScope s_law_pick, [], []⟩,
  ⟨("_law_number", none), "_law_number", "_law_number", defArgs s_law_number, defBody s_law_number, defScope s_law_number, [], []⟩,
  ⟨("_law_drawn_web", none), "_law_drawn_web", "_law_drawn_web", defArgs s_law_drawn_web, defBody s_law_drawn_web, defScope s_law_drawn_web, [], []⟩,
  ⟨("_law_flow", none), "_law_flow", "_law_flow", defArgs s_law_flow, defBody s_law_flow, defScope s_law_flow, [], []⟩,
  ⟨("_law_same", none), "_law_same", "_law_same", defArgs s_law_same, defBody s_law_same, defScope s_law_same, [], []⟩,
  ⟨("_law_turns", none), "_law_turns", "_law_turns", defArgs s_law_turns, defBody s_law_turns, defScope s_law_turns, [], []⟩,
  ⟨("_law_drawn_row", none), "_law_drawn_row", "_law_drawn_row", defArgs s_law_drawn_row, defBody s_law_drawn_row, defScope s_law_drawn_row, [], []⟩,
  ⟨("_law_some_place", none), "_law_some_place", "_law_some_place", defArgs s_law_some_place, defBody s_law_some_place, defScope s_law_some_place, [], []⟩,
  ⟨("Web", some "__init__"), "__init__", "Web.__init__", defArgs s_Web_dinit, defBody s_Web_dinit, defScope s_Web_dinit, [], []⟩,
  ⟨("is_name", none), "is_name", "is_name", defArgs s_is_name, defBody s_is_name, defScope s_is_name, [], []⟩,
  ⟨("Web", some "need_new"), "need_new", "Web.need_new", defArgs s_Web_need_new, defBody s_Web_need_new, defScope s_Web_need_new, [], []⟩,
  ⟨("Web", some "need_yard"), "need_yard", "Web.need_yard", defArgs s_Web_need_yard, defBody s_Web_need_yard, defScope s_Web_need_yard, [], []⟩,
  ⟨("Web", some "turned"), "turned", "Web.turned", defArgs s_Web_turned, defBody s_Web_turned, defScope s_Web_turned, [], []⟩,
  ⟨("is_whole", none), "is_whole", "is_whole", defArgs s_is_whole, defBody s_is_whole, defScope s_is_whole, [], []⟩,
  ⟨("need_turns", none), "need_turns", "need_turns", defArgs s_need_turns, defBody s_need_turns, defScope s_need_turns, [], []⟩,
  ⟨("Web", some "with_passage"), "with_passage", "Web.with_passage", defArgs s_Web_with_passage, defBody s_Web_with_passage, defScope s_Web_with_passage, [], []⟩,
  ⟨("Web", some "with_yard"), "with_yard", "Web.with_yard", defArgs s_Web_with_yard, defBody s_Web_with_yard, defScope s_Web_with_yard, [], []⟩,
  ⟨("_law_web", none), "_law_web", "_law_web", defArgs s_law_web, defBody s_law_web, defScope s_law_web, [], []⟩,
  ⟨("Web", some "road_of"), "road_of", "Web.road_of", defArgs s_Web_road_of, defBody s_Web_road_of, defScope s_Web_road_of, [], []⟩,
  ⟨("Web", some "turned_so"), "turned_so", "Web.turned_so", defArgs s_Web_turned_so, defBody s_Web_turned_so, defScope s_Web_turned_so, [], []⟩,
  ⟨("Web", some "ends"), "ends", "Web.ends", defArgs s_Web_ends, defBody s_Web_ends, defScope s_Web_ends, [], []⟩,
  ⟨("Web", some "rule"), "rule", "Web.rule", defArgs s_Web_rule, defBody s_Web_rule, defScope s_Web_rule, [], []⟩,
  ⟨("rule_from", none), "rule_from", "rule_from", defArgs s_rule_from, defBody s_rule_from, defScope s_rule_from, [], []⟩,
  ⟨("undone", none), "undone", "undone", defArgs s_undone, defBody s_undone, defScope s_undone, [], []⟩,
  ⟨("yard_of", none), "yard_of", "yard_of", defArgs s_yard_of, defBody s_yard_of, defScope s_yard_of, [], []⟩,
  ⟨("need_place", none), "need_place", "need_place", defArgs s_need_place, defBody s_need_place, defScope s_need_place, [], []⟩,
  ⟨("shared", none), "shared", "shared", defArgs s_shared, defBody s_shared, defScope s_shared, [], []⟩,
  ⟨("far", none), "far", "far", defArgs s_far, defBody s_far, defScope s_far, [], []⟩,
  ⟨("Web", some "steps_from"), "steps_from", "Web.steps_from", defArgs s_Web_steps_from, defBody s_Web_steps_from, defScope s_Web_steps_from, [], []⟩,
  ⟨("neighbours", none), "neighbours", "neighbours", defArgs s_neighbours, defBody s_neighbours, defScope s_neighbours, [], []⟩,
  ⟨("law", none), "law", "law", defArgs s_law, defBody s_law, defScope s_law, [], []⟩]
def hAs : List Nat := (List.range 1500).reverse
def hNames0 : List Str := ["_wall", "HawserError", "BadName", "Taken", "Full", "BadTurns", "BadWay", "BadPlace", "Missing", "NoYard", "NoPassage", "MOST_YARDS", "MOST_PASSAGES", "MOST_TURNS", "LONGEST", "is_whole", "LETTERS", "LONGEST_NAME", "is_name", "undone", "need_turns", "Web", "rule_from", "yard_of", "need_place", "neighbours", "shared", "far", "_law_flow", "_law_draw"]
def hNames1 : List Str := ["_law_pick", "_law_same", "_law_names", "_law_number", "_law_drawn_web", "_law_web", "_law_undone", "_law_road", "_law_ends", "_law_rule", "_law_steps_from", "_law_turns", "_law_drawn_row", "_law_yards_on", "_law_join", "_law_settled", "_law_laid", "_law_place", "_law_some_place", "_law_place_row", "_law_end_of", "_law_beside"]
def hNames : List Str := hNames0 ++ hNames1
abbrev hk : PySem.W.Hook := hookL hAs hTests hDefs
def hOb (s : PySem.W.SharedT) : He.AlD := obsLG hAs hTests hDefs (HandSHeadRun.getT s)
theorem hOb_eq (s : PySem.W.SharedT) : hOb s = hk.obs s.abs := obsLG_eq (HandSHeadRun.getT_eq s)
abbrev hRow : PySem.W.OpenRow := PySem.W.OpenLaw.row PySem.Challenge.rw_hawserweb_k24_places_beside
theorem hRun (w : World) : HandSHeadRun.RunEq hRow (PySem.W.view hRow.prog [57]) hk hOb 60000 hNames w := by
  intro os
  kernel_rfl
end Lw
set_option Elab.async false
set_option linter.all false
set_option maxRecDepth 100000
set_option maxHeartbeats 4000000
set_option autoImplicit false
namespace Dv
open PySem PySem.Spec PyProof.Rows L2
/-! ### values as data; mutable objects stand in a store -/
/-- what is known of a function object and of its code -/
abbrev Pd := Addr → Addr → HO → HO → Prop
inductive Dt where
  | non | bl (b : Bool) | int (i : Int) | str (s : Str) | ty (n : String) | cls (c : String)
  | tup (ds : List Dt) | lst (ds : List Dt) | fz (ds : List Dt) | ins (c : String) (ns : List Str) (ds : List Dt) | dct (ks : List Key) (ds : List Dt) | ref (i : Nat) | lam (n : Nat) (p : Pd)
inductive Ob where
  | lst (ds : List Dt) | ins (c : String) (ns : List Str) (ds : List Dt) | dct (ks : List Key) (ds : List Dt) | dkt (ks : List (List Key)) (ds : List Dt)
abbrev Store := List Ob
abbrev Env := List (Option Dt)
/-- an exception of a class of the text -/
structure Ex where
  c : String
  ns : List Str
  ds : List Dt
inductive R (α : Type) where
  | ok (a : α) (S : Store) | err (x : Ex) (S : Store) | stuck
@[reducible] def R.bind {α β : Type} (r : R α) (f : α → Store → R β) : R β := match r with
  | .ok a S => f a S
  | .err x S => .err x S
  | .stuck => .stuck
inductive Fl where
  | nx | bk | ct | rt (d : Dt)
inductive RS where
  | ok (f : Fl) (σ : Env) (S : Store) | err (x : Ex) (σ : Env) (S : Store) | stuck
/-- what the names of classes mean -/
structure Gv where
  K : PySem.W.Frag
  cl : String → Option Addr
  /-- the exceptions of the text -/
  xl : String → Option Addr
  /-- the tables of code objects that lambdas are noted in -/
  T : List (Addr × Str)
  /-- whether tuples of the written part may be met as values -/
  kt : Bool
/-- no table -/
def NoTb (o : HO) : Prop := ∀ ps, o ≠ .tbl ps
/-- neither a table nor told by a law of its own -/
def NoTx (o : HO) : Prop := NoTb o ∧ ∀ φ, o ≠ .ext φ
/-- the addresses of the store; further ones that change meanwhile -/
structure Io where
  l : List Addr
  h : List Addr
instance : Membership Addr Io := ⟨fun io a => a ∈ io.l ∨ a ∈ io.h⟩
abbrev Io.push (io : Io) (p : Addr) : Io := ⟨io.l ++ [p], io.h⟩
abbrev Io.take (io : Io) (n : Nat) : Io := ⟨io.l.take n, io.h⟩
def KTup (K : PySem.W.Frag) (a : Addr) (xs : List V) : Prop := ∃ (o : Obj) (its : Array Value) (n : Nat), K.lookup a = some o ∧ o.cls = .type "tuple" ∧ o.data = .seq its n ∧ its.size ≤ sizeLine ∧ Vals xs its.toList
def KLst (K : PySem.W.Frag) (a : Addr) (xs : List V) : Prop := ∃ (o : Obj) (its : Array Value) (n : Nat), K.lookup a = some o ∧ o.cls = .type "list" ∧ o.dict = none ∧ o.data = .seq its n ∧ its.size ≤ sizeLine ∧ Vals xs its.toList
mutual
inductive RelD (G : Gv) (io : Io) (H : Hp) : Dt → V → Prop
  | non : RelD G io H .non .non
  | bl (b : Bool) : RelD G io H (.bl b) (.bl b)
  | int (i : Int) : RelD G io H (.int i) (.int i)
  | str (s : Str) : RelD G io H (.str s) (.str s)
  | ty (n : String) : RelD G io H (.ty n) (.ty n)
  | cls {c : String} {C : Addr} : G.cl c = some C → RelD G io H (.cls c) (.ref C)
  | tup {a : Addr} {ds : List Dt} {vs : List V} : (H a = some (.tup vs) ∧ a ∉ io) ∨ (KTup G.K a vs ∧ G.kt = true) → RelDs G io H ds vs → RelD G io H (.tup ds) (.ref a)
  | lst {a : Addr} {ds : List Dt} {vs : List V} : H a = some (.lst vs) → a ∉ io → RelDs G io H ds vs → RelD G io H (.lst ds) (.ref a)
  | fz {a : Addr} {ds : List Dt} {vs : List V} : (Rd H a (.lst vs) ∧ a ∉ io) ∨ KLst G.K a vs → RelDs G io H ds vs → RelD G io H (.fz ds) (.ref a)
  | ins {a C dx : Addr} {c : String} {ns : List Str} {ds : List Dt} {vs : List V} : H a = some (.ins C dx (ns.zip vs)) → a ∉ io → G.cl c = some C → ns.length = ds.length → RelDs G io H ds vs → RelD G io H (.ins c ns ds) (.ref a)
  | dct {a : Addr} {ks : List Key} {ds : List Dt} {vs : List V} : H a = some (.dK (ks.zip vs)) → a ∉ io → ks.length = ds.length → RelDs G io H ds vs → RelD G io H (.dct ks ds) (.ref a)
  | ref {a : Addr} {i : Nat} : io.l[i]? = some a → RelD G io H (.ref i) (.ref a)
  | lam {f c : Addr} {u w : HO} {n : Nat} {p : Pd} : p f c u w → (H f = some u ∧ f ∉ io ∧ NoTb u) → (H c = some w ∧ c ∉ io ∧ NoTb w) → RelD G io H (.lam n p) (.ref f)
inductive RelDs (G : Gv) (io : Io) (H : Hp) : List Dt → List V → Prop
  | nil : RelDs G io H [] []
  | cons {d : Dt} {v : V} {ds : List Dt} {vs : List V} : RelD G io H d v → RelDs G io H ds vs → RelDs G io H (d :: ds) (v :: vs)
end
structure Grow (io : Io) (H : Hp) (io' : Io) (H' : Hp) : Prop where
  pre : ∃ t, io' = ⟨io.l ++ t, io.h⟩
  keep : ∀ b o, H b = some o → b ∉ io.l → (nt : NoTb o := by first | assumption | (intro _ e; cases e)) → H' b = some o
  new : ∀ a, a ∈ io'.l → a ∉ io.l → ∀ o, H a = some o → ¬ NoTb o
theorem Grow.refl {io : Io} {H : Hp} : Grow io H io H := ⟨⟨[], by simp⟩, fun _ _ h _ _ => h, fun a h n => absurd h n⟩
theorem Grow.trans {io i1 i2 : Io} {H H1 H2 : Hp} (a : Grow io H i1 H1) (b : Grow i1 H1 i2 H2) : Grow io H i2 H2 := by
  obtain ⟨t, rfl⟩ := a.pre
  obtain ⟨u, rfl⟩ := b.pre
  refine ⟨⟨t ++ u, by simp⟩, fun c o h n nt => ?_, fun c h n => ?_⟩
  · exact b.keep c o (a.keep c o h n nt) (fun hm => a.new c hm n o h nt) nt
  · by_cases hm : c ∈ io.l ++ t
    · exact a.new c hm n
    · exact fun o q nt => b.new c h hm o (a.keep c o q n nt) nt
theorem Grow.notin {io i1 : Io} {H H1 : Hp} (g : Grow io H i1 H1) {a : Addr} {o : HO} (h : H a = some o) (n : a ∉ io) (nt : NoTb o := by first | assumption | (intro _ e; cases e)) : a ∉ i1 := fun hm => by
  rcases hm with hm | hm
  · exact g.new a hm (fun q => n (.inl q)) o h nt
  · obtain ⟨t, rfl⟩ := g.pre
    exact n (.inr hm)
theorem Grow.at {io i1 : Io} {H H1 : Hp} (g : Grow io H i1 H1) {i : Nat} {a : Addr} (h : io.l[i]? = some a) : i1.l[i]? = some a := by
  obtain ⟨t, rfl⟩ := g.pre
  rw [List.getElem?_append_left (List.getElem?_eq_some_iff.mp h).1]
  exact h
theorem Grow.kp {io i1 : Io} {H H1 : Hp} (g : Grow io H i1 H1) {b : Addr} {o : HO} (h : H b = some o) (n : b ∉ io) (nt : NoTb o := by first | assumption | (intro _ e; cases e)) : H1 b = some o := g.keep b o h (fun q => n (.inl q)) nt
/-- what data leans on -/
structure Base (io : Io) (H : Hp) (io' : Io) (H' : Hp) : Prop where
  at_ : ∀ (i : Nat) (a : Addr), io.l[i]? = some a → io'.l[i]? = some a
  keep : ∀ b o, H b = some o → b ∉ io → (nt : NoTb o := by first | assumption | (intro _ e; cases e)) → H' b = some o ∧ b ∉ io'
theorem Grow.base {io i1 : Io} {H H1 : Hp} (g : Grow io H i1 H1) : Base io H i1 H1 := ⟨fun _ _ h => g.at h, fun _ _ h n nt => ⟨g.kp h n nt, g.notin h n nt⟩⟩
section
variable {G : Gv} {io i1 : Io} {H H1 : Hp}
theorem Base.rd (g : Base io H i1 H1) {a : Addr} {u : HO} (h : Rd H a u) (n : a ∉ io) (nt : NoTb u := by first | assumption | (intro _ e; cases e)) : Rd H1 a u ∧ a ∉ i1 := by
  rcases h with h | ⟨o, h⟩
  · exact ⟨.inl (g.keep _ _ h n).1, (g.keep _ _ h n).2⟩
  · exact ⟨.inr ⟨o, (g.keep _ _ h n).1⟩, (g.keep _ _ h n).2⟩
mutual
theorem RelD.monoB (g : Base io H i1 H1) : ∀ {d : Dt} {v : V}, RelD G io H d v → RelD G i1 H1 d v
  | _, _, .non => .non
  | _, _, .bl b => .bl b
  | _, _, .int i => .int i
  | _, _, .str s => .str s
  | _, _, .ty n => .ty n
  | _, _, .cls h => .cls h
  | _, _, .tup h r => .tup (h.imp (fun z => g.keep _ _ z.1 z.2) id) (RelDs.monoB g r)
  | _, _, .lst h n r => .lst (g.keep _ _ h n).1 (g.keep _ _ h n).2 (RelDs.monoB g r)
  | _, _, .fz h r => .fz (h.imp (fun z => g.rd z.1 z.2) id) (RelDs.monoB g r)
  | _, _, .ins h n c l r => .ins (g.keep _ _ h n).1 (g.keep _ _ h n).2 c l (RelDs.monoB g r)
  | _, _, .dct h n l r => .dct (g.keep _ _ h n).1 (g.keep _ _ h n).2 l (RelDs.monoB g r)
  | _, _, .ref h => .ref (g.at_ _ _ h)
  | _, _, .lam h a b => .lam h ⟨(g.keep _ _ a.1 a.2.1 a.2.2).1, (g.keep _ _ a.1 a.2.1 a.2.2).2, a.2.2⟩ ⟨(g.keep _ _ b.1 b.2.1 b.2.2).1, (g.keep _ _ b.1 b.2.1 b.2.2).2, b.2.2⟩
theorem RelDs.monoB (g : Base io H i1 H1) : ∀ {ds : List Dt} {vs : List V}, RelDs G io H ds vs → RelDs G i1 H1 ds vs
  | _, _, .nil => .nil
  | _, _, .cons h r => .cons (RelD.monoB g h) (RelDs.monoB g r)
end
theorem RelD.mono (g : Grow io H i1 H1) {d : Dt} {v : V} (r : RelD G io H d v) : RelD G i1 H1 d v := r.monoB g.base
theorem RelDs.mono (g : Grow io H i1 H1) {ds : List Dt} {vs : List V} (r : RelDs G io H ds vs) : RelDs G i1 H1 ds vs := r.monoB g.base
theorem RelDs.length : ∀ {ds : List Dt} {vs : List V}, RelDs G io H ds vs → ds.length = vs.length
  | _, _, .nil => rfl
  | _, _, .cons _ r => by rw [List.length_cons, List.length_cons, RelDs.length r]
theorem RelDs.append : ∀ {ds es : List Dt} {vs us : List V}, RelDs G io H ds vs → RelDs G io H es us → RelDs G io H (ds ++ es) (vs ++ us)
  | _, _, _, _, .nil, s => s
  | _, _, _, _, .cons h r, s => .cons h (RelDs.append r s)
theorem RelDs.get : ∀ {ds : List Dt} {vs : List V} {i : Nat} {d : Dt}, RelDs G io H ds vs → ds[i]? = some d → ∃ v, vs[i]? = some v ∧ RelD G io H d v
  | _, _, _, _, .nil, e => by simp at e
  | _, _, 0, _, .cons h _, e => by simp at e; subst e; exact ⟨_, rfl, h⟩
  | _, _, i + 1, d, .cons _ r, e => by
    obtain ⟨u, h1, h2⟩ := RelDs.get (i := i) (d := d) r (by simpa using e)
    exact ⟨u, by simpa using h1, h2⟩
theorem RelDs.set : ∀ {ds : List Dt} {vs : List V} {d : Dt} {v : V} (i : Nat), RelD G io H d v → RelDs G io H ds vs → RelDs G io H (ds.set i d) (vs.set i v)
  | _, _, _, _, _, _, .nil => .nil
  | _, _, _, _, 0, h, .cons _ r => .cons h r
  | _, _, _, _, i + 1, h, .cons k r => .cons k (RelDs.set i h r)
theorem RelDs.take : ∀ {ds : List Dt} {vs : List V} (n : Nat), RelDs G io H ds vs → RelDs G io H (ds.take n) (vs.take n)
  | _, _, 0, _ => .nil
  | _, _, _ + 1, .nil => .nil
  | _, _, n + 1, .cons h r => .cons h (RelDs.take n r)
theorem RelDs.drop : ∀ {ds : List Dt} {vs : List V} (n : Nat), RelDs G io H ds vs → RelDs G io H (ds.drop n) (vs.drop n)
  | _, _, 0, r => r
  | _, _, _ + 1, .nil => .nil
  | _, _, n + 1, .cons _ r => RelDs.drop n r
theorem RelDs.reverse : ∀ {ds : List Dt} {vs : List V}, RelDs G io H ds vs → RelDs G io H ds.reverse vs.reverse
  | _, _, .nil => .nil
  | _, _, .cons h r => by
    rw [List.reverse_cons, List.reverse_cons]
    exact RelDs.append (RelDs.reverse r) (.cons h .nil)
end
/-- a mutable object at its address -/
inductive RelO (G : Gv) (io : Io) (H : Hp) : Ob → Addr → Prop
  | lst {a : Addr} {ds : List Dt} {vs : List V} : H a = some (.lst vs) → RelDs G io H ds vs → RelO G io H (.lst ds) a
  | ins {a C dx : Addr} {c : String} {ns : List Str} {ds : List Dt} {vs : List V} : H a = some (.ins C dx (ns.zip vs)) → G.cl c = some C → ns.length = ds.length → RelDs G io H ds vs → RelO G io H (.ins c ns ds) a
  | dct {a : Addr} {ks : List Key} {ds : List Dt} {vs : List V} : H a = some (.dK (ks.zip vs)) → ks.length = ds.length → RelDs G io H ds vs → RelO G io H (.dct ks ds) a
  | dkt {a : Addr} {ks : List (List Key)} {ds : List Dt} {vs : List V} : H a = some (.dT (ks.zip vs)) → ks.length = ds.length → RelDs G io H ds vs → RelO G io H (.dkt ks ds) a
structure StoreOk (G : Gv) (io : Io) (S : Store) (H : Hp) : Prop where
  nd : io.l.Nodup
  len : S.length = io.l.length
  dis : ∀ a ∈ io.l, a ∉ io.h
  hid : ∀ a ∈ io.h, ∃ u, H a = some u ∧ NoTx u
  ob : ∀ (i : Nat) (o : Ob) (a : Addr), S[i]? = some o → io.l[i]? = some a → RelO G io H o a
  tab : LamX.Tabs G.T H
structure RelEnv (G : Gv) (io : Io) (H : Hp) (e : Env) (σ : L2.St) : Prop where
  len : e.length = σ.length
  at_ : ∀ (i : Nat) (d : Dt), e[i]? = some (some d) → ∃ v, σ[i]? = some (some v) ∧ RelD G io H d v
theorem RelEnv.mono {G : Gv} {io i1 : Io} {H H1 : Hp} {e : Env} {σ : L2.St} (g : Grow io H i1 H1) (r : RelEnv G io H e σ) : RelEnv G i1 H1 e σ :=
  ⟨r.len, fun i d h => let ⟨v, h1, h2⟩ := r.at_ i d h; ⟨v, h1, h2.mono g⟩⟩
theorem RelEnv.set {G : Gv} {io : Io} {H : Hp} {e : Env} {σ : L2.St} {i : Nat} {d : Dt} {v : V} (r : RelEnv G io H e σ) (h : RelD G io H d v) : RelEnv G io H (e.set i (some d)) (σ.set i (some v)) := by
  refine ⟨by simpa using r.len, fun j x hj => ?_⟩
  by_cases hij : i = j
  · subst hij
    have hl : i < e.length := by
      by_cases q : i < e.length
      · exact q
      · rw [List.getElem?_eq_none (by simpa using q)] at hj
        cases hj
    rw [List.getElem?_set_self hl] at hj
    cases hj
    exact ⟨v, List.getElem?_set_self (by rw [← r.len]; exact hl), h⟩
  · rw [List.getElem?_set_ne hij] at hj ⊢
    exact r.at_ j x hj
/-- an exception of the text's classes -/
def RelX (G : Gv) (io : Io) (H : Hp) (x : Ex) (cls : Value) (dx : Option Addr) : Prop :=
  ∃ (C a : Addr) (vs : List V), cls = .ref C ∧ G.xl x.c = some C ∧ dx = some a ∧ H a = some (.xd (x.ns.zip vs)) ∧ a ∉ io ∧ x.ns.length = x.ds.length ∧ RelDs G io H x.ds vs
theorem RelX.mono {G : Gv} {io i1 : Io} {H H1 : Hp} (g : Grow io H i1 H1) {x : Ex} {cls : Value} {dx : Option Addr} (r : RelX G io H x cls dx) : RelX G i1 H1 x cls dx := by
  obtain ⟨C, a, vs, h1, h2, h3, h4, h5, h6, h7⟩ := r
  exact ⟨C, a, vs, h1, h2, h3, g.kp h4 h5, g.notin h4 h5, h6, h7.mono g⟩
/-! ### ends -/
def Out (G : Gv) (io : Io) (H : Hp) {α : Type} (wx : Ex → Io → Hp → Prop) (post : α → Store → Io → Hp → Prop) : R α → Prop
  | .ok a S => ∀ io' H', Grow io H io' H' → StoreOk G io' S H' → post a S io' H'
  | .err x S => ∀ io' H', Grow io H io' H' → StoreOk G io' S H' → wx x io' H'
  | .stuck => False
theorem Out.from {G : Gv} {io i1 : Io} {H H1 : Hp} {α : Type} {wx : Ex → Io → Hp → Prop} {post : α → Store → Io → Hp → Prop} {r : R α} (g : Grow io H i1 H1) (h : Out G io H wx post r) : Out G i1 H1 wx post r := by
  cases r with
  | ok a S => exact fun io' H' g' s => h io' H' (g.trans g') s
  | err x S => exact fun io' H' g' s => h io' H' (g.trans g') s
  | stuck => exact h
theorem Out.bind {G : Gv} {io : Io} {H : Hp} {α β : Type} {wx : Ex → Io → Hp → Prop} {post : β → Store → Io → Hp → Prop} {r : R α} {f : α → Store → R β} (h : Out G io H wx post (r.bind f)) :
    Out G io H wx (fun a S io' H' => Out G io' H' wx post (f a S)) r := by
  cases r with
  | ok a S => exact fun io' H' g s => Out.from g h
  | err x S => exact h
  | stuck => exact h
theorem Out.imp {G : Gv} {io : Io} {H : Hp} {α : Type} {wx wx' : Ex → Io → Hp → Prop} {post post' : α → Store → Io → Hp → Prop} {r : R α} (h : Out G io H wx post r)
    (hx : ∀ x io' H', Grow io H io' H' → wx x io' H' → wx' x io' H') (hp : ∀ a S io' H', Grow io H io' H' → StoreOk G io' S H' → post a S io' H' → post' a S io' H') : Out G io H wx' post' r := by
  cases r with
  | ok a S => exact fun io' H' g s => hp _ _ _ _ g s (h io' H' g s)
  | err x S => exact fun io' H' g s => hx _ _ _ g (h io' H' g s)
  | stuck => exact h
def OutS (G : Gv) (io : Io) (H : Hp) (wx : Ex → Env → Io → Hp → Prop) (post : Fl → Env → Store → Io → Hp → Prop) : RS → Prop
  | .ok f e S => ∀ io' H', Grow io H io' H' → StoreOk G io' S H' → post f e S io' H'
  | .err x e S => ∀ io' H', Grow io H io' H' → StoreOk G io' S H' → wx x e io' H'
  | .stuck => False
theorem OutS.from {G : Gv} {io i1 : Io} {H H1 : Hp} {wx : Ex → Env → Io → Hp → Prop} {post : Fl → Env → Store → Io → Hp → Prop} {r : RS} (g : Grow io H i1 H1) (h : OutS G io H wx post r) : OutS G i1 H1 wx post r := by
  cases r with
  | ok a e S => exact fun io' H' g' s => h io' H' (g.trans g') s
  | err x e S => exact fun io' H' g' s => h io' H' (g.trans g') s
  | stuck => exact h
/-- the wish for an exception at the slots σ -/
abbrev wxE (G : Gv) (W : WX) (σ : L2.St) : Ex → Io → Hp → Prop := fun x io' H' => ∀ cls dx, RelX G io' H' x cls dx → W cls dx σ H'
abbrev poE (G : Gv) (Q : VK) : Dt → Store → Io → Hp → Prop := fun d _ io' H' => ∀ v, RelD G io' H' d v → Q v H'
abbrev poA (G : Gv) (Q : List V → Hp → Prop) : List Dt → Store → Io → Hp → Prop := fun ds _ io' H' => ∀ vs, RelDs G io' H' ds vs → Q vs H'
abbrev poT (Q : Bool → Hp → Prop) : Bool → Store → Io → Hp → Prop := fun b _ _ H' => Q b H'
def SimE (G : Gv) (W : WX) (t : TE) (m : Env → Store → R Dt) : Prop := ∀ io H S e σ Q, StoreOk G io S H → RelEnv G io H e σ → Out G io H (wxE G W σ) (poE G Q) (m e S) → t σ H Q
def SimA (G : Gv) (W : WX) (t : TA) (m : Env → Store → R (List Dt)) : Prop := ∀ io H S e σ Q, StoreOk G io S H → RelEnv G io H e σ → Out G io H (wxE G W σ) (poA G Q) (m e S) → t σ H Q
def SimT (G : Gv) (W : WX) (t : TT) (m : Env → Store → R Bool) : Prop := ∀ io H S e σ Q, StoreOk G io S H → RelEnv G io H e σ → Out G io H (wxE G W σ) (poT Q) (m e S) → t σ H Q
abbrev wxS (G : Gv) (W : WX) : Ex → Env → Io → Hp → Prop := fun x e io' H' => ∀ σ cls dx, RelEnv G io' H' e σ → RelX G io' H' x cls dx → W cls dx σ H'
def poF (G : Gv) (D : Ends) : Fl → Env → Store → Io → Hp → Prop
  | .nx, e, _, io, H => ∀ σ, RelEnv G io H e σ → D.nx σ H
  | .bk, e, _, io, H => ∀ σ, RelEnv G io H e σ → D.bk σ H
  | .ct, e, _, io, H => ∀ σ, RelEnv G io H e σ → D.ct σ H
  | .rt d, _, _, io, H => ∀ v, RelD G io H d v → D.rt v H
def SimS (G : Gv) (W : WX) (t : TS) (m : Env → Store → RS) : Prop := ∀ io H S e σ D, StoreOk G io S H → RelEnv G io H e σ → OutS G io H (wxS G W) (poF G D) (m e S) → t D σ H
/-! ### judgements -/
def DE (G : Gv) (X : Cx) (W : WX) (e : Expr) (m : Env → Store → R Dt) : Prop := ∃ t, PE X e t ∧ SimE G W t m
def DA (G : Gv) (X : Cx) (W : WX) (e : List Expr) (m : Env → Store → R (List Dt)) : Prop := ∃ t, PA X e t ∧ SimA G W t m
def DT (G : Gv) (X : Cx) (W : WX) (e : Expr) (m : Env → Store → R Bool) : Prop := ∃ t, PT X e t ∧ SimT G W t m
def DW (G : Gv) (X : Cx) (W : WX) (e : Expr) (m : Env → Store → R Bool) : Prop := ∃ t, PW X e t ∧ SimT G W t m
def DS (G : Gv) (X : Cx) (W : WX) (s : Stmt) (m : Env → Store → RS) : Prop := ∃ t, PS X s t ∧ SimS G W t m
def DB (G : Gv) (X : Cx) (W : WX) (s : List Stmt) (m : Env → Store → RS) : Prop := ∃ t, PSs X s t ∧ SimS G W t m
/-! ### names and constants -/
@[reducible] def mVar (i : Nat) : Env → Store → R Dt := fun e S => match e[i]? with
  | some (some d) => .ok d S
  | _ => .stuck
@[reducible] def mC (d : Dt) : Env → Store → R Dt := fun _ S => .ok d S
section
variable {G : Gv} {X : Cx} {W : WX}
theorem simE_var (i : Nat) : SimE G W (tVar i) (mVar i) := by
  intro io H S e σ Q so re h
  unfold mVar at h
  split at h
  · rename_i d hd
    obtain ⟨v, h1, h2⟩ := re.at_ i d hd
    exact ⟨v, h1, h io H Grow.refl so v h2⟩
  · exact h.elim
theorem simE_c {d : Dt} {v : V} (hr : ∀ io H, RelD G io H d v) : SimE G W (tC v) (mC d) := by
  intro io H S e σ Q so re h
  exact h io H Grow.refl so v (hr io H)
theorem de_var (i : Nat) {x : Str} {pos : Pos} (hN : X.N[i]? = some x := by rfl) (hv : Vis X.env.scope x := by first | exact Or.inl rfl | exact Or.inr (Or.inl rfl) | exact Or.inr (Or.inr rfl)) (hd : (x == ("__debug__" : Str)) = false := by decide)
    (hcd : (x == ("__classdict__" : Str)) = false := by decide) : DE G X W (.Name x pos) (mVar i) := ⟨_, pe_var hN hv hd hcd, simE_var i⟩
theorem de_int {i : Int} {j pos} : DE G X W (.Constant (.int i) j pos) (mC (.int i)) := ⟨_, pe_int, simE_c fun _ _ => .int i⟩
theorem de_bl {b j pos} : DE G X W (.Constant (.bool b) j pos) (mC (.bl b)) := ⟨_, pe_bl, simE_c fun _ _ => .bl b⟩
theorem de_non {j pos} : DE G X W (.Constant .none j pos) (mC .non) := ⟨_, pe_non, simE_c fun _ _ => .non⟩
theorem de_str {x j pos} : DE G X W (.Constant (.str x) j pos) (mC (.str x)) := ⟨_, pe_str, simE_c fun _ _ => .str x⟩
theorem de_gint {x : Str} {i : Int} {t : Tok} {pos : Pos} (hg : Gl X x) (hm : X.mg x = some (.int i t)) (hd : (x == ("__debug__" : Str)) = false := by decide) : DE G X W (.Name x pos) (mC (.int i)) :=
  ⟨_, pe_glob (v := .int i) hg hm ⟨t, rfl⟩ hd, simE_c fun _ _ => .int i⟩
theorem de_gstr {x : Str} {i : Str} {t : Tok} {pos : Pos} (hg : Gl X x) (hm : X.mg x = some (.str i t)) (hd : (x == ("__debug__" : Str)) = false := by decide) : DE G X W (.Name x pos) (mC (.str i)) :=
  ⟨_, pe_glob (v := .str i) hg hm ⟨t, rfl⟩ hd, simE_c fun _ _ => .str i⟩
theorem de_ty {x : Str} {n : String} {pos : Pos} (hg : Gl X x) (hm : X.mg x = none) (hv : bootBuiltins x = some (.type n)) (hn : x ≠ "__name__" := by decide) (hd : (x == ("__debug__" : Str)) = false := by decide) : DE G X W (.Name x pos) (mC (.ty n)) :=
  ⟨_, pe_bltn (v := .ty n) hg hm hv rfl hn hd, simE_c fun _ _ => .ty n⟩
end
/-! ### argument lists -/
@[reducible] def mNil : Env → Store → R (List Dt) := fun _ S => .ok [] S
@[reducible] def mCons (ma : Env → Store → R Dt) (mr : Env → Store → R (List Dt)) : Env → Store → R (List Dt) := fun e S => (ma e S).bind fun d S1 => (mr e S1).bind fun ds S2 => .ok (d :: ds) S2
section
variable {G : Gv} {X : Cx} {W : WX} {e : Expr} {es : List Expr} {m : Env → Store → R Dt} {ms : Env → Store → R (List Dt)}
theorem da_nil : DA G X W [] mNil := ⟨_, pa_nil, fun io H S e σ Q so re h => h io H Grow.refl so [] .nil⟩
theorem da_cons (ha : DE G X W e m) (hr : DA G X W es ms) (hs : starEach (e :: es) X.env = (false, eval e X.env) :: starEach es X.env := by rfl) : DA G X W (e :: es) (mCons m ms) := by
  obtain ⟨t, p, q⟩ := ha
  obtain ⟨u, p', q'⟩ := hr
  refine ⟨_, pa_cons p p' hs, fun io H S e σ Q so re h => ?_⟩
  refine q io H S e σ _ so re (h.bind.imp (fun _ _ _ _ z => z) fun d S1 i1 H1 g1 s1 k1 v r => ?_)
  refine q' i1 H1 S1 e σ _ s1 (re.mono g1) (k1.bind.imp (fun _ _ _ _ z => z) fun ds S2 i2 H2 g2 s2 k2 vs rs => ?_)
  exact k2 i2 H2 Grow.refl s2 _ (.cons (r.mono g2) rs)
end
/-! ### operations on values -/
/-- a two-place operation -/
def SimO (G : Gv) (r : R2) (m : Dt → Dt → Store → R Dt) : Prop := ∀ io H S x y dx dy Q, StoreOk G io S H → RelD G io H dx x → RelD G io H dy y → Out G io H (fun _ _ _ => False) (poE G Q) (m dx dy S) → r x y H Q
@[reducible] def mOp (m : Dt → Dt → Store → R Dt) (ma mb : Env → Store → R Dt) : Env → Store → R Dt := fun e S => (ma e S).bind fun x S1 => (mb e S1).bind fun y S2 => m x y S2
def NoErr {α : Type} : R α → Prop
  | .err _ _ => False
  | _ => True
theorem Out.noErr {G : Gv} {io : Io} {H : Hp} {α : Type} {wx wx' : Ex → Io → Hp → Prop} {post : α → Store → Io → Hp → Prop} {r : R α} (n : NoErr r) (h : Out G io H wx post r) : Out G io H wx' post r := by
  cases r with
  | ok a S => exact h
  | err x S => exact n.elim
  | stuck => exact h
def DO (G : Gv) (X : Cx) (f : Value → Value → Sem Value) (m : Dt → Dt → Store → R Dt) : Prop := ∃ r, OpR X f r ∧ SimO G r m ∧ ∀ x y S, NoErr (m x y S)
section
variable {G : Gv} {X : Cx} {W : WX} {a b : Expr} {ma mb : Env → Store → R Dt}
theorem simE_op {r : R2} {ta tb : TE} {m : Dt → Dt → Store → R Dt} (ho : SimO G r m) (hn : ∀ x y S, NoErr (m x y S)) (ha : SimE G W ta ma) (hb : SimE G W tb mb) : SimE G W (tOp r ta tb) (mOp m ma mb) := by
  intro io H S e σ Q so re h
  refine ha io H S e σ _ so re (h.bind.imp (fun _ _ _ _ z => z) fun d S1 i1 H1 g1 s1 k1 v r1 => ?_)
  refine hb i1 H1 S1 e σ _ s1 (re.mono g1) (k1.bind.imp (fun _ _ _ _ z => z) fun d' S2 i2 H2 g2 s2 k2 v' r2 => ?_)
  exact ho i2 H2 S2 v v' d d' Q s2 (r1.mono g2) r2 (k2.noErr (hn _ _ _))
theorem de_op {op : Operator} {pos : Pos} {m : Dt → Dt → Store → R Dt} (ho : DO G X (binaryOp op) m) (ha : DE G X W a ma) (hb : DE G X W b mb) : DE G X W (.BinOp a op b pos) (mOp m ma mb) := by
  obtain ⟨r, p, q, n⟩ := ho
  obtain ⟨ta, pa, qa⟩ := ha
  obtain ⟨tb, pb, qb⟩ := hb
  exact ⟨_, pe_op p pa pb, simE_op q n qa qb⟩
theorem de_cmp {op : CmpOp} {pos : Pos} {m : Dt → Dt → Store → R Dt} (ho : DO G X (compareOp op) m) (ha : DE G X W a ma) (hb : DE G X W b mb) (hm : behindInMarks op b = false := by first | exact nomark _ | rfl) : DE G X W (.Compare a [op] [b] pos) (mOp m ma mb) := by
  obtain ⟨r, p, q, n⟩ := ho
  obtain ⟨ta, pa, qa⟩ := ha
  obtain ⟨tb, pb, qb⟩ := hb
  exact ⟨_, pe_cmpR p pa pb hm, simE_op q n qa qb⟩
/-- the truth of an answer that is a bool -/
@[reducible] def mB (m : Env → Store → R Dt) : Env → Store → R Bool := fun e S => (m e S).bind fun d S1 => match d with
  | .bl b => .ok b S1
  | _ => .stuck
theorem simT_b {t : TE} {m : Env → Store → R Dt} (h : SimE G W t m) : SimT G W (fun σ H Q => t σ H fun x H1 => ∃ c, x = .bl c ∧ Q c H1) (mB m) := by
  intro io H S e σ Q so re k
  refine h io H S e σ _ so re (k.bind.imp (fun _ _ _ _ z => z) fun d S1 i1 H1 g1 s1 k1 v r => ?_)
  cases r with
  | bl b => exact ⟨b, rfl, k1 i1 H1 Grow.refl s1⟩
  | _ => exact k1.elim
theorem dt_cmp {op : CmpOp} {pos : Pos} {m : Dt → Dt → Store → R Dt} (ho : DO G X (compareOp op) m) (ha : DE G X W a ma) (hb : DE G X W b mb) (hm : behindInMarks op b = false := by first | exact nomark _ | rfl) : DT G X W (.Compare a [op] [b] pos) (mB (mOp m ma mb)) := by
  obtain ⟨r, p, q, n⟩ := ho
  obtain ⟨ta, pa, qa⟩ := ha
  obtain ⟨tb, pb, qb⟩ := hb
  exact ⟨_, pt_cmpR p pa pb hm, simT_b (simE_op q n qa qb)⟩
end
end Dv
set_option Elab.async false
set_option linter.all false
set_option maxRecDepth 100000
set_option maxHeartbeats 4000000
set_option autoImplicit false
namespace Dv
open PySem PySem.Spec PyProof.Rows L2
/-! ### the store under extension -/
def ExtH (H H' : Hp) : Prop := ∀ b o, H b = some o → H' b = some o
theorem ExtH.new {H : Hp} {p : Addr} {o : HO} (h : H p = none) : ExtH H (upd H p o) := fun a u e => by
  rw [upd_ne (ne_of_none e h)]
  exact e
theorem ExtH.grow {io : Io} {H H' : Hp} (e : ExtH H H') : Grow io H io H' := ⟨⟨[], by simp⟩, fun b o h _ _ => e b o h, fun a h n => absurd h n⟩
/-- neither a table nor a code object -/
def PlainO (o : HO) : Prop := NoTb o ∧ ∀ f, o ≠ .ext f
theorem tabs_upd {T : List (Addr × Str)} {H : Hp} {p : Addr} {u : HO} (t : LamX.Tabs T H) (hp : ∀ o, H p = some o → PlainO o) : LamX.Tabs T (upd H p u) := fun x hx => by
  obtain ⟨ps, h1, h2, h3⟩ := t x hx
  have n1 : x.1 ≠ p := fun e => (hp _ (e ▸ h1)).1 ps rfl
  refine ⟨ps, by rw [upd_ne n1]; exact h1, h2, fun pos cv hc => ?_⟩
  obtain ⟨c, e1, e2⟩ := h3 pos cv hc
  have n2 : c ≠ p := fun e => (hp _ (e ▸ e2)).2 _ rfl
  exact ⟨c, e1, by rw [upd_ne n2]; exact e2⟩
theorem pl_none {H : Hp} {p : Addr} (h : H p = none) : ∀ o, H p = some o → PlainO o := fun o e => by
  rw [h] at e
  cases e
theorem pl_some {H : Hp} {p : Addr} {u : HO} (h : H p = some u) (hu : PlainO u := by exact ⟨(fun _ e => by cases e), (fun _ e => by cases e)⟩) : ∀ o, H p = some o → PlainO o := fun o e => by
  rw [h] at e
  cases e
  exact hu
section
variable {G : Gv} {io : Io} {H H' : Hp} {S : Store}
theorem RelO.there {o : Ob} {a : Addr} (r : RelO G io H o a) : ∃ u, H a = some u := by
  cases r with
  | lst h _ => exact ⟨_, h⟩
  | ins h _ _ _ => exact ⟨_, h⟩
  | dct h _ _ => exact ⟨_, h⟩
  | dkt h _ _ => exact ⟨_, h⟩
theorem RelO.pl {o : Ob} {a : Addr} (r : RelO G io H o a) : ∀ u, H a = some u → PlainO u := by
  cases r with
  | lst h _ => exact pl_some h
  | ins h _ _ _ => exact pl_some h
  | dct h _ _ => exact pl_some h
  | dkt h _ _ => exact pl_some h
theorem RelO.ext (e : ExtH H H') {o : Ob} {a : Addr} (r : RelO G io H o a) : RelO G io H' o a := by
  cases r with
  | lst h k => exact .lst (e _ _ h) (k.mono e.grow)
  | ins h c l k => exact .ins (e _ _ h) c l (k.mono e.grow)
  | dct h l k => exact .dct (e _ _ h) l (k.mono e.grow)
  | dkt h l k => exact .dkt (e _ _ h) l (k.mono e.grow)
theorem StoreOk.ext (e : ExtH H H') (so : StoreOk G io S H) : StoreOk G io S H' := ⟨so.nd, so.len, so.dis, fun a h => let ⟨u, z, nt⟩ := so.hid a h; ⟨u, e _ _ z, nt⟩, fun i o a h1 h2 => (so.ob i o a h1 h2).ext e, so.tab.ext e⟩
theorem StoreOk.at_ (so : StoreOk G io S H) {i : Nat} {o : Ob} (h : S[i]? = some o) : ∃ a, io.l[i]? = some a ∧ RelO G io H o a := by
  have hl : i < io.l.length := by
    rw [← so.len]
    exact (List.getElem?_eq_some_iff.mp h).1
  exact ⟨io.l[i], by simp [hl], so.ob i o _ h (by simp [hl])⟩
theorem StoreOk.there (so : StoreOk G io S H) {a : Addr} (h : a ∈ io) : ∃ u, H a = some u := by
  rcases h with h | h
  · obtain ⟨i, hl, e⟩ := List.getElem_of_mem h
    have hs : i < S.length := by rw [so.len]; exact hl
    exact (so.ob i S[i] a (by simp [hs]) (by simp [hl, e])).there
  · obtain ⟨u, e, _⟩ := so.hid a h
    exact ⟨u, e⟩
theorem StoreOk.fresh (so : StoreOk G io S H) {p : Addr} (h : H p = none) : p ∉ io := fun hm => by
  obtain ⟨u, e⟩ := so.there hm
  rw [h] at e
  cases e
theorem push_grow {p : Addr} {u : HO} (h : H p = none) : Grow io H (io.push p) (upd H p u) := by
  refine ⟨⟨[p], rfl⟩, fun b o h' _ _ => ExtH.new h b o h', fun a ha n => ?_⟩
  rcases List.mem_append.mp ha with z | z
  · exact absurd z n
  · rw [List.mem_singleton] at z
    rw [z]
    exact fun o e => by rw [h] at e; cases e
/-- a new object of the store -/
theorem StoreOk.push (so : StoreOk G io S H) {p : Addr} {o : Ob} {u : HO} (h : H p = none) (r : RelO G (io.push p) (upd H p u) o p) :
    Grow io H (io.push p) (upd H p u) ∧ StoreOk G (io.push p) (S ++ [o]) (upd H p u) := by
  have g : Grow io H (io.push p) (upd H p u) := push_grow h
  refine ⟨g, ?_, by simp [so.len], fun a ha => ?_, fun a ha => ?_, fun i ob a h1 h2 => ?_, tabs_upd so.tab (pl_none h)⟩
  · rw [List.nodup_append]
    refine ⟨so.nd, by simp, fun a ha b hb => ?_⟩
    rw [List.mem_singleton] at hb
    rw [hb]
    intro z
    rw [z] at ha
    exact so.fresh h (.inl ha)
  · rcases List.mem_append.mp ha with z | z
    · exact so.dis a z
    · rw [List.mem_singleton] at z
      rw [z]
      exact fun q => so.fresh h (.inr q)
  · obtain ⟨v, z, nt⟩ := so.hid a ha
    exact ⟨v, ExtH.new h _ _ z, nt⟩
  · by_cases hi : i < S.length
    · rw [List.getElem?_append_left hi] at h1
      rw [List.getElem?_append_left (by rw [← so.len]; exact hi)] at h2
      have q := so.ob i ob a h1 h2
      have e := ExtH.new (o := u) h
      cases q with
      | lst h k => exact .lst (e _ _ h) (k.mono g)
      | ins h c l k => exact .ins (e _ _ h) c l (k.mono g)
      | dct h l k => exact .dct (e _ _ h) l (k.mono g)
      | dkt h l k => exact .dkt (e _ _ h) l (k.mono g)
    · have hs : i = S.length := by
        have := (List.getElem?_eq_some_iff.mp h1).1
        rw [List.length_append, List.length_singleton] at this
        omega
      subst hs
      rw [List.getElem?_append_right (Nat.le_refl _)] at h1
      rw [so.len, List.getElem?_append_right (Nat.le_refl _)] at h2
      simp at h1 h2
      subst h1 h2
      exact r
/-- an object of the store is written -/
theorem StoreOk.write (so : StoreOk G io S H) {i : Nat} {p : Addr} {o : Ob} {u : HO} (hp : io.l[i]? = some p) (r : RelO G io (upd H p u) o p) : Grow io H io (upd H p u) ∧ StoreOk G io (S.set i o) (upd H p u) := by
  have hm : p ∈ io.l := List.mem_of_getElem? hp
  have hpl : ∀ o, H p = some o → PlainO o := by
    obtain ⟨hl, e⟩ := List.getElem?_eq_some_iff.mp hp
    have hs : i < S.length := by rw [so.len]; exact hl
    exact (so.ob i S[i] p (by simp [hs]) hp).pl
  have g : Grow io H io (upd H p u) := ⟨⟨[], by simp⟩, fun b o h n _ => by
    rw [upd_ne (fun z => n (by rw [z]; exact hm))]
    exact h, fun a h n => absurd h n⟩
  refine ⟨g, so.nd, by simp [so.len], so.dis, fun a ha => ?_, fun j ob a h1 h2 => ?_, tabs_upd so.tab hpl⟩
  · by_cases hb : a = p
    · exact absurd (hb ▸ ha) (so.dis p hm)
    · rw [upd_ne hb]
      exact so.hid a ha
  by_cases hj : i = j
  · subst hj
    have hl := (List.getElem?_eq_some_iff.mp hp).1
    rw [List.getElem?_set_self (by rw [so.len]; exact hl)] at h1
    rw [hp] at h2
    cases h1
    cases h2
    exact r
  · rw [List.getElem?_set_ne hj] at h1
    have ne : a ≠ p := fun z => by
      obtain ⟨l1, e1⟩ := List.getElem?_eq_some_iff.mp h2
      obtain ⟨l2, e2⟩ := List.getElem?_eq_some_iff.mp hp
      exact hj ((List.getElem_inj so.nd).mp (e2.trans (z.symm.trans e1.symm)))
    have q := so.ob j ob a h1 h2
    cases q with
    | lst h k => exact .lst (by rw [upd_ne ne]; exact h) (k.mono g)
    | ins h c l k => exact .ins (by rw [upd_ne ne]; exact h) c l (k.mono g)
    | dct h l k => exact .dct (by rw [upd_ne ne]; exact h) l (k.mono g)
    | dkt h l k => exact .dkt (by rw [upd_ne ne]; exact h) l (k.mono g)
end
/-! ### lists and tuples that are read -/
@[reducible] def asL (S : Store) : Dt → Option (List Dt)
  | .lst ds => some ds
  | .fz ds => some ds
  | .ref i => match S[i]? with
    | some (.lst ds) => some ds
    | _ => none
  | _ => none
@[reducible] def asP (S : Store) : Dt → Option (List Dt)
  | .lst ds => some ds
  | .ref i => match S[i]? with
    | some (.lst ds) => some ds
    | _ => none
  | _ => none
@[reducible] def asT : Dt → Option (List Dt)
  | .tup ds => some ds
  | _ => none
section
variable {G : Gv} {io : Io} {H H' : Hp} {S : Store} {d : Dt} {ds : List Dt} {v : V}
theorem asP_ok (so : StoreOk G io S H) (r : RelD G io H d v) (h : asP S d = some ds) : ∃ a vs, v = .ref a ∧ H a = some (.lst vs) ∧ RelDs G io H ds vs := by
  cases r with
  | lst e n k => cases h; exact ⟨_, _, rfl, e, k⟩
  | @ref a i e =>
    simp only [asP] at h
    split at h
    · rename_i xs hs
      cases h
      obtain ⟨a', h1, h2⟩ := so.at_ hs
      rw [e] at h1
      cases h1
      cases h2 with
      | lst h3 h4 => exact ⟨_, _, rfl, h3, h4⟩
    · cases h
  | _ => cases h
theorem asL_ok (so : StoreOk G io S H) (r : RelD G io H d v) (h : asL S d = some ds) : ∃ a vs, v = .ref a ∧ SqL G.K H a vs ∧ RelDs G io H ds vs := by
  cases r with
  | lst e n k => cases h; exact ⟨_, _, rfl, .inl (.inl e), k⟩
  | fz e k =>
    cases h
    refine ⟨_, _, rfl, ?_, k⟩
    rcases e with ⟨e, _⟩ | e
    · exact .inl e
    · exact .inr e
  | @ref a i e =>
    obtain ⟨a', vs, h1, h2, h3⟩ := asP_ok (d := .ref i) (ds := ds) so (.ref e) (by simpa only [asP, asL] using h)
    exact ⟨a', vs, h1, .inl (.inl h2), h3⟩
  | _ => cases h
theorem asT_ok (r : RelD G io H d v) (h : asT d = some ds) : ∃ a vs, v = .ref a ∧ SqT G.K H a vs ∧ RelDs G io H ds vs := by
  cases r with
  | tup e k =>
    cases h
    refine ⟨_, _, rfl, ?_, k⟩
    rcases e with ⟨e, _⟩ | e
    · exact .inl (.inl e)
    · exact .inr e.1
  | _ => cases h
/-- a new tuple, a new list by value -/
theorem new_tup (so : StoreOk G io S H) {ds : List Dt} {vs : List V} (r : RelDs G io H ds vs) {p : Addr} (h : H p = none) :
    Grow io H io (upd H p (.tup vs)) ∧ StoreOk G io S (upd H p (.tup vs)) ∧ RelD G io (upd H p (.tup vs)) (.tup ds) (.ref p) :=
  ⟨(ExtH.new h).grow, so.ext (ExtH.new h), .tup (.inl ⟨upd_same, so.fresh h⟩) (r.mono (ExtH.new h).grow)⟩
theorem new_lst (so : StoreOk G io S H) {ds : List Dt} {vs : List V} (r : RelDs G io H ds vs) {p : Addr} (h : H p = none) :
    Grow io H io (upd H p (.lst vs)) ∧ StoreOk G io S (upd H p (.lst vs)) ∧ RelD G io (upd H p (.lst vs)) (.lst ds) (.ref p) :=
  ⟨(ExtH.new h).grow, so.ext (ExtH.new h), .lst upd_same (so.fresh h) (r.mono (ExtH.new h).grow)⟩
theorem out_tup {wx : Ex → Io → Hp → Prop} {Q : VK} (so : StoreOk G io S H) {ds : List Dt} {vs : List V} (r : RelDs G io H ds vs) (h : Out G io H wx (poE G Q) (.ok (.tup ds) S)) {p : Addr} (hp : H p = none) : Q (.ref p) (upd H p (.tup vs)) := by
  obtain ⟨a, b, c⟩ := new_tup so r hp
  exact h io _ a b _ c
theorem out_lst {wx : Ex → Io → Hp → Prop} {Q : VK} (so : StoreOk G io S H) {ds : List Dt} {vs : List V} (r : RelDs G io H ds vs) (h : Out G io H wx (poE G Q) (.ok (.lst ds) S)) {p : Addr} (hp : H p = none) : Q (.ref p) (upd H p (.lst vs)) := by
  obtain ⟨a, b, c⟩ := new_lst so r hp
  exact h io _ a b _ c
theorem out_ref {wx : Ex → Io → Hp → Prop} {Q : VK} (so : StoreOk G io S H) {ds : List Dt} {vs : List V} (r : RelDs G io H ds vs) (h : Out G io H wx (poE G Q) (.ok (.ref S.length) (S ++ [.lst ds]))) {p : Addr} (hp : H p = none) : Q (.ref p) (upd H p (.lst vs)) := by
  obtain ⟨a, b⟩ := so.push (o := .lst ds) (u := .lst vs) hp (.lst upd_same (r.mono (push_grow hp)))
  exact h _ _ a b _ (.ref (by rw [so.len]; simp))
end
end Dv
set_option Elab.async false
set_option linter.all false
set_option maxRecDepth 100000
set_option maxHeartbeats 4000000
set_option autoImplicit false
namespace Dv
open PySem PySem.Spec PyProof.Rows L2
def mAdd (x y : Dt) (S : Store) : R Dt := match x, y with
  | .int i, .int j => .ok (.int (i + j)) S
  | .str a, .str b => if a.length + b.length ≤ 100000 then .ok (.str (a ++ b)) S else .stuck
  | .tup xs, .tup ys => if xs.length + ys.length ≤ 1000000 then .ok (.tup (xs ++ ys)) S else .stuck
  | x, y => match asP S x, asP S y with
    | some xs, some ys => if xs.length + ys.length ≤ 1000000 then .ok (.lst (xs ++ ys)) S else .stuck
    | _, _ => .stuck
def mSub (x y : Dt) (S : Store) : R Dt := match x, y with
  | .int i, .int j => .ok (.int (i - j)) S
  | _, _ => .stuck
/-- small enough for * -/
def mulOk (i j : Int) : Bool := decide (i.natAbs < 2 ^ 64) || decide (j.natAbs < 2 ^ 64) || decide (i.natAbs.log2 + j.natAbs.log2 < 1000000)
def mMul (x y : Dt) (S : Store) : R Dt := match x, y with
  | .int i, .int j => if mulOk i j = true then .ok (.int (i * j)) S else .stuck
  | x, .int k => match asP S x with
    | some xs => if -100000 ≤ k ∧ k ≤ 100000 ∧ xs.length ≤ 100 then .ok (.lst (List.replicate k.toNat xs).flatten) S else .stuck
    | none => .stuck
  | _, _ => .stuck
def divOk (j : Int) : Bool := decide (j ≠ 0) && decide (j.natAbs.log2 < 9000)
def mDiv (x y : Dt) (S : Store) : R Dt := match x, y with
  | .int i, .int j => if divOk j = true then .ok (.int (i.fdiv j)) S else .stuck
  | _, _ => .stuck
def mMod (x y : Dt) (S : Store) : R Dt := match x, y with
  | .int i, .int j => if j ≠ 0 then .ok (.int (i.fmod j)) S else .stuck
  | _, _ => .stuck
def powOk (i j : Int) : Bool := decide (0 ≤ j ∧ j ≤ 1000000 ∧ i.natAbs < 2 ^ 64)
def mPow (x y : Dt) (S : Store) : R Dt := match x, y with
  | .int i, .int j => if powOk i j = true then .ok (.int (i ^ j.toNat)) S else .stuck
  | _, _ => .stuck
def mCmpI (p : Int → Int → Bool) (x y : Dt) (S : Store) : R Dt := match x, y with
  | .int i, .int j => .ok (.bl (p i j)) S
  | _, _ => .stuck
def mLt : Dt → Dt → Store → R Dt := mCmpI fun i j => decide (i < j)
def mLe : Dt → Dt → Store → R Dt := mCmpI fun i j => decide (i ≤ j)
def mGt : Dt → Dt → Store → R Dt := mCmpI fun i j => decide (j < i)
def mGe : Dt → Dt → Store → R Dt := mCmpI fun i j => decide (j ≤ i)
/-- is, is not: None and bools -/
def mIs (neg : Bool) (x y : Dt) (S : Store) : R Dt := match x, y with
  | .non, .non => .ok (.bl (!neg)) S
  | .ref _, .non => .ok (.bl neg) S
  | .bl _, .non => .ok (.bl neg) S
  | .int _, .non => .ok (.bl neg) S
  | .str _, .non => .ok (.bl neg) S
  | .tup _, .non => .ok (.bl neg) S
  | .lst _, .non => .ok (.bl neg) S
  | .ins _ _ _, .non => .ok (.bl neg) S
  | .dct _ _, .non => .ok (.bl neg) S
  | .bl a, .bl b => .ok (.bl (if neg then !decide (a = b) else decide (a = b))) S
  | _, _ => .stuck
section
variable {G : Gv} {X : Cx}
theorem small6 {n : Nat} (h : n ≤ 1000000) : n ≤ sizeLine := Nat.le_trans h (by decide)
theorem rel_bl {G : Gv} {io : Io} {H : Hp} {i : Bool} {v : V} (r : RelD G io H (.bl i) v) : v = .bl i := by cases r; rfl
theorem nil_iff {G : Gv} {io : Io} {H : Hp} {ds : List Dt} {vs : List V} (r : RelDs G io H ds vs) : vs = [] ↔ ds = [] := by
  cases r with
  | nil => simp
  | cons _ _ => simp
/-- a rule on two ints -/
theorem sim_int {C : Int → Int → Prop} {c : Int → Int → Bool} {g : Int → Int → V} {gd : Int → Int → Dt} (hc : ∀ i j, c i j = true → C i j) (hg : ∀ G io H i j, RelD G io H (gd i j) (g i j)) :
    SimO G (rI C g) (fun x y S => match x, y with | .int i, .int j => if c i j = true then .ok (gd i j) S else .stuck | _, _ => .stuck) := by
  intro io H S x y dx dy Q so rx ry h
  dsimp only at h
  split at h
  · rename_i i j
    cases rx
    cases ry
    by_cases hcc : c i j = true
    · rw [if_pos hcc] at h
      exact ⟨_, _, rfl, rfl, hc _ _ hcc, h io H Grow.refl so _ (hg _ _ _ _ _)⟩
    · rw [if_neg hcc] at h
      exact h.elim
  · exact h.elim
theorem do_add (hK : X.K = G.K := by rfl) : DO G X (binaryOp .Add) mAdd := by
  refine ⟨_, (((op_add (X := X)).or op_add_str).or op_catA).or op_cat, ?_, ?_⟩
  · intro io H S x y dx dy Q so rx ry h
    unfold mAdd at h
    split at h
    · cases rx
      cases ry
      exact .inl (.inl (.inl ⟨_, _, rfl, rfl, h io H Grow.refl so _ (.int _)⟩))
    · rename_i a b
      cases rx
      cases ry
      by_cases hl : a.length + b.length ≤ 100000
      · rw [if_pos hl] at h
        exact .inl (.inl (.inr ⟨_, _, rfl, rfl, small6 (by omega), h io H Grow.refl so _ (.str _)⟩))
      · rw [if_neg hl] at h
        exact h.elim
    · rename_i xs ys
      by_cases hl : xs.length + ys.length ≤ 1000000
      · rw [if_pos hl] at h
        obtain ⟨a, vs, rfl, hs, rs⟩ := asT_ok rx rfl
        obtain ⟨b, us, rfl, ht, rt⟩ := asT_ok ry rfl
        have l1 := rs.length
        have l2 := rt.length
        refine .inl (.inr ⟨a, b, vs, us, rfl, rfl, by rw [hK]; exact hs, by rw [hK]; exact ht, small6 (by omega), fun e => ?_, fun e1 e2 => ?_, fun e1 e2 p hp => ?_⟩)
        · have e' := (nil_iff rs).mp e
          subst e'
          rw [List.nil_append] at h
          exact h io H Grow.refl so _ ry
        · have e' := (nil_iff rt).mp e2
          subst e'
          rw [List.append_nil] at h
          exact h io H Grow.refl so _ rx
        · exact out_tup so (rs.append rt) h hp
      · rw [if_neg hl] at h
        exact h.elim
    · split at h
      · rename_i xs ys e1 e2
        by_cases hl : xs.length + ys.length ≤ 1000000
        · rw [if_pos hl] at h
          obtain ⟨a, vs, rfl, hs, rs⟩ := asP_ok so rx e1
          obtain ⟨b, us, rfl, ht, rt⟩ := asP_ok so ry e2
          have l1 := rs.length
          have l2 := rt.length
          exact .inr ⟨a, b, vs, us, rfl, rfl, hs, ht, small6 (by omega), fun p hp => out_lst so (rs.append rt) h hp⟩
        · rw [if_neg hl] at h
          exact h.elim
      · exact h.elim
  · intro x y S
    unfold mAdd
    repeat' split
    all_goals trivial
theorem do_sub : DO G X (binaryOp .Sub) mSub := by
  refine ⟨_, op_sub, ?_, ?_⟩
  · intro io H S x y dx dy Q so rx ry h
    unfold mSub at h
    split at h
    · cases rx
      cases ry
      exact ⟨_, _, rfl, rfl, h io H Grow.refl so _ (.int _)⟩
    · exact h.elim
  · intro x y S
    unfold mSub
    split <;> trivial
theorem do_mul : DO G X (binaryOp .Mult) mMul := by
  refine ⟨_, ((op_mulW (X := X)).or op_mul).or op_rep, ?_, ?_⟩
  · intro io H S x y dx dy Q so rx ry h
    unfold mMul at h
    split at h
    · rename_i i j
      cases rx
      cases ry
      by_cases hc : mulOk i j = true
      · rw [if_pos hc] at h
        unfold mulOk at hc
        rw [Bool.or_eq_true, Bool.or_eq_true] at hc
        rcases hc with (hc | hc) | hc
        · have z := of_decide_eq_true hc
          exact .inl (.inr ⟨_, _, rfl, rfl, .inl (by omega), h io H Grow.refl so _ (.int _)⟩)
        · have z := of_decide_eq_true hc
          exact .inl (.inr ⟨_, _, rfl, rfl, .inr (by omega), h io H Grow.refl so _ (.int _)⟩)
        · exact .inl (.inl ⟨_, _, rfl, rfl, (of_decide_eq_true (p := i.natAbs.log2 + j.natAbs.log2 < 1000000) hc : CMulW i j), h io H Grow.refl so _ (.int _)⟩)
      · rw [if_neg hc] at h
        exact h.elim
    · rename_i k hne
      cases ry
      split at h
      · rename_i xs e1
        by_cases hl : -100000 ≤ k ∧ k ≤ 100000 ∧ xs.length ≤ 100
        · rw [if_pos hl] at h
          obtain ⟨a, vs, rfl, hs, rs⟩ := asP_ok so rx e1
          have l1 := rs.length
          refine .inr ⟨a, k, vs, rfl, rfl, hs, by omega, by omega, ?_, fun p hp => ?_⟩
          · have e : vs.length * k.toNat ≤ 100 * 100000 := Nat.mul_le_mul (by omega) (by omega)
            exact Nat.le_trans e (by decide)
          · have rr : ∀ n : Nat, RelDs G io H (List.replicate n xs).flatten (List.replicate n vs).flatten := fun n => by
              induction n with
              | zero => exact .nil
              | succ n ih =>
                rw [List.replicate_succ, List.replicate_succ, List.flatten_cons, List.flatten_cons]
                exact rs.append ih
            exact out_lst so (rr _) h hp
        · rw [if_neg hl] at h
          exact h.elim
      · exact h.elim
    · exact h.elim
  · intro x y S
    unfold mMul
    repeat' split
    all_goals trivial
theorem op_fdivA : OpR X (binaryOp .FloorDiv) (rI (fun _ j => j ≠ 0 ∧ j.natAbs.log2 < 9000) fun i j => .int (i.fdiv j)) := opI fun _ _ _ _ _ _ _ hc q =>
  floordiv_int hc.1 q (.inl (PyProof.noPylong_of_log2 hc.2))
theorem noErr_int {c : Int → Int → Bool} {gd : Int → Int → Dt} (x y : Dt) (S : Store) : NoErr (match x, y with | .int i, .int j => if c i j = true then R.ok (gd i j) S else .stuck | _, _ => .stuck) := by
  repeat' split
  all_goals trivial
theorem do_div : DO G X (binaryOp .FloorDiv) mDiv :=
  ⟨_, op_fdivA, sim_int (c := fun _ j => divOk j) (gd := fun i j => .int (i.fdiv j)) (fun i j h => by
    unfold divOk at h
    rw [Bool.and_eq_true] at h
    exact ⟨of_decide_eq_true h.1, of_decide_eq_true h.2⟩) (fun _ _ _ _ _ => .int _), fun x y S => noErr_int (c := fun _ j => divOk j) (gd := fun i j => .int (i.fdiv j)) x y S⟩
theorem do_mod : DO G X (binaryOp .Mod) mMod := by
  refine ⟨_, op_modN, ?_, ?_⟩
  · intro io H S x y dx dy Q so rx ry h
    unfold mMod at h
    split at h
    · rename_i i j
      cases rx
      cases ry
      by_cases hc : j ≠ 0
      · rw [if_pos hc] at h
        exact ⟨_, _, rfl, rfl, hc, h io H Grow.refl so _ (.int _)⟩
      · rw [if_neg hc] at h
        exact h.elim
    · exact h.elim
  · intro x y S
    unfold mMod
    repeat' split
    all_goals trivial
theorem do_pow : DO G X (binaryOp .Pow) mPow :=
  ⟨_, op_pow, sim_int (c := powOk) (gd := fun i j => .int (i ^ j.toNat)) (fun i j h => (of_decide_eq_true (p := 0 ≤ j ∧ j ≤ 1000000 ∧ i.natAbs < 2 ^ 64) h : CPow i j)) (fun _ _ _ _ _ => .int _), fun x y S => noErr_int (c := powOk) (gd := fun i j => .int (i ^ j.toNat)) x y S⟩
theorem do_cmpI {op : CmpOp} {p : Int → Int → Bool} (ho : OpR X (compareOp op) (rI0 fun i j => .bl (p i j))) : DO G X (compareOp op) (mCmpI p) := by
  refine ⟨_, ho, ?_, ?_⟩
  · intro io H S x y dx dy Q so rx ry h
    unfold mCmpI at h
    split at h
    · cases rx
      cases ry
      exact ⟨_, _, rfl, rfl, h io H Grow.refl so _ (.bl _)⟩
    · exact h.elim
  · intro x y S
    unfold mCmpI
    split <;> trivial
theorem do_lt : DO G X (compareOp .Lt) mLt := do_cmpI op_lt
theorem do_le : DO G X (compareOp .LtE) mLe := do_cmpI op_le
theorem do_gt : DO G X (compareOp .Gt) mGt := do_cmpI op_gt
theorem do_ge : DO G X (compareOp .GtE) mGe := do_cmpI op_ge
theorem do_is : DO G X (compareOp .Is) (mIs false) := by
  refine ⟨_, (op_isN (X := X)).or op_isBl, ?_, ?_⟩
  · intro io H S x y dx dy Q so rx ry h
    unfold mIs at h
    split at h
    case h_11 => exact h.elim
    case h_10 =>
      cases rx
      cases ry
      exact .inr ⟨_, _, rfl, rfl, h io H Grow.refl so _ (.bl _)⟩
    all_goals
      cases ry
      refine .inl ⟨rfl, ?_⟩
      cases rx
      exact h io H Grow.refl so _ (.bl _)
  · intro x y S
    unfold mIs
    split <;> trivial
theorem do_isNot : DO G X (compareOp .IsNot) (mIs true) := by
  refine ⟨_, (op_notN (X := X)).or op_notBl, ?_, ?_⟩
  · intro io H S x y dx dy Q so rx ry h
    unfold mIs at h
    split at h
    case h_11 => exact h.elim
    case h_10 =>
      cases rx
      cases ry
      exact .inr ⟨_, _, rfl, rfl, h io H Grow.refl so _ (.bl _)⟩
    all_goals
      cases ry
      refine .inl ⟨rfl, ?_⟩
      cases rx
      exact h io H Grow.refl so _ (.bl _)
  · intro x y S
    unfold mIs
    split <;> trivial
end
/-! ### == of plain data -/
mutual
def eqD : Dt → Dt → Bool
  | .non, .non => true
  | .bl a, .bl b => a == b
  | .bl a, .int j => (if a then 1 else 0) == j
  | .int i, .bl b => i == (if b then 1 else 0)
  | .int i, .int j => i == j
  | .str a, .str b => a == b
  | .tup xs, .tup ys => eqDs xs ys
  | .lst xs, .lst ys => eqDs xs ys
  | _, _ => false
def eqDs : List Dt → List Dt → Bool
  | [], [] => true
  | x :: xs, y :: ys => eqD x y && eqDs xs ys
  | _, _ => false
end
/-- plain data, so deep at most -/
def okD : Nat → Dt → Bool
  | _, .non => true
  | _, .bl _ => true
  | _, .int _ => true
  | _, .str s => PyData.strOk s
  | k + 1, .tup ds => ds.all (okD k)
  | k + 1, .lst ds => ds.all (okD k)
  | _, _ => false
mutual
def toPy : Dt → PyData
  | .bl b => .bool b
  | .int i => .int i
  | .str s => .str s
  | .tup ds => .tuple (toPys ds)
  | .lst ds => .list (toPys ds)
  | _ => .none
def toPys : List Dt → List PyData
  | [] => []
  | d :: ds => toPy d :: toPys ds
end
section
variable {G : Gv} {io : Io} {H : Hp}
theorem all_cons {k : Nat} {d : Dt} {ds : List Dt} (h : (d :: ds).all (okD k) = true) : okD k d = true ∧ ds.all (okD k) = true := by
  rw [List.all_cons, Bool.and_eq_true] at h
  exact h
theorem dp_of : ∀ (k : Nat) {d : Dt} {v : V}, RelD G io H d v → okD k d = true → Dp G.K H v (toPy d) ∧ (toPy d).canLay0 = true ∧ (toPy d).depth ≤ k := by
  intro k
  induction k with
  | zero =>
    intro d v r h
    cases r with
    | non => exact ⟨.non, rfl, Nat.le_refl _⟩
    | bl b => exact ⟨.bl b, rfl, Nat.le_refl _⟩
    | int i => exact ⟨.int i, rfl, Nat.le_refl _⟩
    | str s => exact ⟨.str s, by simpa [okD, toPy, PyData.canLay0] using h, by simp [toPy, PyData.depth]⟩
    | _ => simp [okD] at h
  | succ k ih =>
    have all : ∀ {ds : List Dt} {vs : List V}, RelDs G io H ds vs → ds.all (okD k) = true → DpAll G.K H vs (toPys ds) ∧ PyData.canLayAll0 (toPys ds) = true ∧ PyData.depthAll (toPys ds) ≤ k := by
      intro ds
      induction ds with
      | nil =>
        intro vs r _
        cases r
        exact ⟨.nil, rfl, Nat.zero_le _⟩
      | cons d ds ih2 =>
        intro vs r h
        cases r with
        | cons r1 r2 =>
          obtain ⟨h1, h2⟩ := all_cons h
          obtain ⟨a1, a2, a3⟩ := ih r1 h1
          obtain ⟨b1, b2, b3⟩ := ih2 r2 h2
          refine ⟨.cons a1 b1, ?_, ?_⟩
          · show ((toPy d).canLay0 && PyData.canLayAll0 (toPys ds)) = true
            rw [a2, b2]
            rfl
          · show PyData.depthAll (toPy d :: toPys ds) ≤ k
            simp only [PyData.depthAll]
            omega
    intro d v r h
    cases r with
    | non => exact ⟨.non, rfl, by simp [toPy, PyData.depth]⟩
    | bl b => exact ⟨.bl b, rfl, by simp [toPy, PyData.depth]⟩
    | int i => exact ⟨.int i, rfl, by simp [toPy, PyData.depth]⟩
    | str s => exact ⟨.str s, by simpa [okD, toPy, PyData.canLay0] using h, by simp [toPy, PyData.depth]⟩
    | tup e rs =>
      obtain ⟨a1, a2, a3⟩ := all rs (by simpa [okD] using h)
      refine ⟨.tup ?_ a1, a2, ?_⟩
      · rcases e with ⟨e, _⟩ | e
        · exact .inl (.inl e)
        · exact .inr e.1
      · simp only [toPy, PyData.depth]
        omega
    | lst e n rs =>
      obtain ⟨a1, a2, a3⟩ := all rs (by simpa [okD] using h)
      refine ⟨.lst (.inl (.inl e)) a1, a2, ?_⟩
      simp only [toPy, PyData.depth]
      omega
    | _ => simp [okD] at h
theorem shaped_of {k : Nat} {d : Dt} {v : V} (hk : k ≤ 60) (r : RelD G io H d v) (h : okD k d = true) : SeqAt.shaped (toPy d) = true := by
  obtain ⟨_, a, b⟩ := dp_of k r h
  unfold SeqAt.shaped
  rw [a, Bool.true_and]
  exact decide_eq_true (by omega)
theorem eqv_of : ∀ (k : Nat) (d e : Dt), okD k d = true → okD k e = true → PyData.eqv (toPy d) (toPy e) = eqD d e := by
  intro k
  induction k with
  | zero =>
    intro d e h1 h2
    cases d <;> cases e <;> first
      | rfl
      | (simp [okD] at h1; done)
      | (simp [okD] at h2; done)
  | succ k ih =>
    have all : ∀ ds es : List Dt, ds.all (okD k) = true → es.all (okD k) = true → PyData.eqvAll (toPys ds) (toPys es) = eqDs ds es := by
      intro ds
      induction ds with
      | nil =>
        intro es _ _
        cases es <;> rfl
      | cons d ds ih2 =>
        intro es h1 h2
        cases es with
        | nil => rfl
        | cons e es =>
          obtain ⟨a1, a2⟩ := all_cons h1
          obtain ⟨b1, b2⟩ := all_cons h2
          show (PyData.eqv (toPy d) (toPy e) && PyData.eqvAll (toPys ds) (toPys es)) = (eqD d e && eqDs ds es)
          rw [ih d e a1 b1, ih2 es a2 b2]
    intro d e h1 h2
    cases d <;> cases e <;> first
      | rfl
      | (simp [okD] at h1; done)
      | (simp [okD] at h2; done)
      | exact all _ _ (by simpa [okD] using h1) (by simpa [okD] using h2)
end
/-- a list of the store, as it stands -/
def res (S : Store) (d : Dt) : Dt := match d with
  | .ref i => match S[i]? with
    | some (.lst ds) => .lst ds
    | _ => .ref i
  | d => d
theorem res_ok {G : Gv} {io : Io} {H : Hp} {S : Store} {d : Dt} {v : V} {k : Nat} (so : StoreOk G io S H) (r : RelD G io H d v) (h : okD k (res S d) = true) : Dp G.K H v (toPy (res S d)) ∧ (k ≤ 60 → SeqAt.shaped (toPy (res S d)) = true) := by
  cases d with
  | ref i =>
    unfold res at h ⊢
    dsimp only at h ⊢
    split at h
    · rename_i ds hs
      obtain ⟨a, vs, rfl, e, rs⟩ := asP_ok (d := .ref i) (ds := ds) so r (by simp [asP, hs])
      cases k with
      | zero => simp [okD] at h
      | succ k =>
        have z : ∀ (ds : List Dt) (vs : List V), RelDs G io H ds vs → ds.all (okD k) = true → DpAll G.K H vs (toPys ds) ∧ PyData.canLayAll0 (toPys ds) = true ∧ PyData.depthAll (toPys ds) ≤ k := by
          intro ds
          induction ds with
          | nil =>
            intro vs r _
            cases r
            exact ⟨.nil, rfl, Nat.zero_le _⟩
          | cons d ds ih2 =>
            intro vs r h
            cases r with
            | cons r1 r2 =>
              obtain ⟨h1, h2⟩ := all_cons h
              obtain ⟨a1, a2, a3⟩ := dp_of k r1 h1
              obtain ⟨b1, b2, b3⟩ := ih2 _ r2 h2
              refine ⟨.cons a1 b1, ?_, ?_⟩
              · show ((toPy d).canLay0 && PyData.canLayAll0 (toPys ds)) = true
                rw [a2, b2]
                rfl
              · show PyData.depthAll (toPy d :: toPys ds) ≤ k
                simp only [PyData.depthAll]
                omega
        obtain ⟨a1, a2, a3⟩ := z ds vs rs (by simpa [okD] using h)
        refine ⟨.lst (.inl (.inl e)) a1, fun hk => ?_⟩
        unfold SeqAt.shaped
        rw [show (toPy (Dt.lst ds)).canLay0 = true from a2, Bool.true_and]
        refine decide_eq_true ?_
        simp only [toPy, PyData.depth]
        omega
    · cases k <;> simp [okD] at h
  | _ => exact ⟨(dp_of k r h).1, fun hk => shaped_of hk r h⟩
def deep : Nat := 12
def mEq (x y : Dt) (S : Store) : R Dt := if okD deep (res S x) = true ∧ okD deep (res S y) = true then .ok (.bl (eqD (res S x) (res S y))) S else .stuck
def mNe (x y : Dt) (S : Store) : R Dt := if okD deep (res S x) = true ∧ okD deep (res S y) = true then .ok (.bl (!eqD (res S x) (res S y))) S else .stuck
section
variable {G : Gv} {X : Cx}
theorem do_eq (hu : X.A.units + 64 < cLine) (hK : X.K = G.K := by rfl) : DO G X (compareOp .Eq) mEq := by
  refine ⟨_, op_eqD hu, ?_, ?_⟩
  · intro io H S x y dx dy Q so rx ry h
    unfold mEq at h
    split at h
    · rename_i hc
      obtain ⟨p1, q1⟩ := res_ok so rx hc.1
      obtain ⟨p2, q2⟩ := res_ok so ry hc.2
      refine ⟨_, _, by rw [hK]; exact p1, by rw [hK]; exact p2, q1 (by decide), q2 (by decide), ?_⟩
      rw [eqv_of deep _ _ hc.1 hc.2]
      exact h io H Grow.refl so _ (.bl _)
    · exact h.elim
  · intro x y S
    unfold mEq
    split <;> trivial
theorem do_ne (hu : X.A.units + 64 < cLine) (hK : X.K = G.K := by rfl) : DO G X (compareOp .NotEq) mNe := by
  refine ⟨_, op_neD hu, ?_, ?_⟩
  · intro io H S x y dx dy Q so rx ry h
    unfold mNe at h
    split at h
    · rename_i hc
      obtain ⟨p1, q1⟩ := res_ok so rx hc.1
      obtain ⟨p2, q2⟩ := res_ok so ry hc.2
      refine ⟨_, _, by rw [hK]; exact p1, by rw [hK]; exact p2, q1 (by decide), q2 (by decide), ?_⟩
      rw [eqv_of deep _ _ hc.1 hc.2]
      exact h io H Grow.refl so _ (.bl _)
    · exact h.elim
  · intro x y S
    unfold mNe
    split <;> trivial
end
end Dv
set_option Elab.async false
set_option linter.all false
set_option maxRecDepth 100000
set_option maxHeartbeats 4000000
set_option autoImplicit false
namespace Dv
open PySem PySem.Spec PyProof.Rows L2
/-! ### truth -/
def tru (S : Store) (d : Dt) : Option Bool := match d with
  | .non => some false
  | .bl b => some b
  | .int i => some (i != 0)
  | .str s => if s.length ≤ 100000 then some ((s.length : Int) != 0) else none
  | .tup ds => some (!ds.isEmpty)
  | .dct ks _ => some (!ks.isEmpty)
  | d => match asL S d with
    | some ds => some (!ds.isEmpty)
    | none => none
def mTruth (m : Env → Store → R Dt) : Env → Store → R Bool := fun e S => (m e S).bind fun d S1 => match tru S1 d with
  | some b => .ok b S1
  | none => .stuck
section
variable {G : Gv} {X : Cx} {W : WX}
theorem isEmpty_rel {G : Gv} {io : Io} {H : Hp} {ds : List Dt} {vs : List V} (r : RelDs G io H ds vs) : ds.isEmpty = vs.isEmpty := by cases r <;> rfl
theorem tru_of {io : Io} {H : Hp} {S : Store} {d : Dt} {v : V} {b : Bool} (so : StoreOk G io S H) (r : RelD G io H d v) (h : tru S d = some b) : TruV G.K v H b := by
  have ls : ∀ {d : Dt}, RelD G io H d v → (match asL S d with | some ds => some (!ds.isEmpty) | none => none) = some b → TruV G.K v H b := fun {d} r h => by
    split at h
    · rename_i ds e
      obtain ⟨a, vs, rfl, h1, h2⟩ := asL_ok so r e
      cases h
      exact .inl ⟨vs, h1, by rw [isEmpty_rel h2]⟩
    · cases h
  unfold tru at h
  split at h
  · cases r; cases h; rfl
  · cases r; cases h; rfl
  · cases r; cases h; rfl
  · cases r
    split at h
    · cases h
      exact ⟨Nat.le_trans (by assumption) (by decide), rfl⟩
    · cases h
  · cases h
    obtain ⟨a, vs, rfl, h1, h2⟩ := asT_ok r rfl
    exact .inr (.inl ⟨vs, h1, by rw [isEmpty_rel h2]⟩)
  · rename_i ks ds
    cases h
    cases r with
    | @dct a _ _ vs e n l k =>
      refine .inr (.inr ⟨_, e, ?_⟩)
      have l2 := k.length
      cases ks with
      | nil => rfl
      | cons x xs =>
        cases vs with
        | nil =>
          rw [List.length_cons] at l
          rw [List.length_nil] at l2
          omega
        | cons _ _ => rfl
  · exact ls r h
theorem simT_truth {t : TE} {m : Env → Store → R Dt} (hK : X.K = G.K) (h : SimE G W t m) : SimT G W (fun σ H Q => t σ H fun x H' => ∃ k, TruV X.K x H' k ∧ Q k H') (mTruth m) := by
  intro io H S e σ Q so re k
  refine h io H S e σ _ so re (k.bind.imp (fun _ _ _ _ z => z) fun d S1 i1 H1 g1 s1 k1 v r => ?_)
  split at k1
  · rename_i b hb
    exact ⟨b, by rw [hK]; exact tru_of s1 r hb, k1 i1 H1 Grow.refl s1⟩
  · exact k1.elim
theorem dt_truth {a : Expr} {m : Env → Store → R Dt} (ha : DE G X W a m) (hK : X.K = G.K := by rfl) (he : ∀ whole, isTrue a X.env whole = (do let v ← whole; standAt a.pos; holding [v] (truthy v)) := by intro _; rfl) : DT G X W a (mTruth m) := by
  obtain ⟨t, p, q⟩ := ha
  exact ⟨_, pt_truth p he, simT_truth hK q⟩
/-! ### and, or, not as tests -/
def mAndT (a b : Env → Store → R Bool) : Env → Store → R Bool := fun e S => (a e S).bind fun c S1 => if c = true then b e S1 else .ok false S1
def mOrT (a b : Env → Store → R Bool) : Env → Store → R Bool := fun e S => (a e S).bind fun c S1 => if c = true then .ok true S1 else b e S1
def mNotT (a : Env → Store → R Bool) : Env → Store → R Bool := fun e S => (a e S).bind fun c S1 => .ok (!c) S1
variable {a b : Expr} {rest : List Expr} {pos : Pos} {ma mb : Env → Store → R Bool}
theorem dw_and1 (h : DT G X W a ma) : DW G X W (.BoolOp .And [a] pos) ma := let ⟨_, p, q⟩ := h; ⟨_, pw_and1 p, q⟩
theorem dw_or1 (h : DT G X W a ma) : DW G X W (.BoolOp .Or [a] pos) ma := let ⟨_, p, q⟩ := h; ⟨_, pw_or1 p, q⟩
theorem dw_and (h : DT G X W a ma) (k : DW G X W (.BoolOp .And (b :: rest) pos) mb) : DW G X W (.BoolOp .And (a :: b :: rest) pos) (mAndT ma mb) := by
  obtain ⟨t, p, q⟩ := h
  obtain ⟨u, p', q'⟩ := k
  refine ⟨_, pw_and p p', fun io H S e σ Q so re h => ?_⟩
  refine q io H S e σ _ so re (h.bind.imp (fun _ _ _ _ z => z) fun c S1 i1 H1 g1 s1 k1 => ?_)
  cases c with
  | true => exact q' i1 H1 S1 e σ Q s1 (re.mono g1) k1
  | false => exact k1 i1 H1 Grow.refl s1
theorem dw_or (h : DT G X W a ma) (k : DW G X W (.BoolOp .Or (b :: rest) pos) mb) : DW G X W (.BoolOp .Or (a :: b :: rest) pos) (mOrT ma mb) := by
  obtain ⟨t, p, q⟩ := h
  obtain ⟨u, p', q'⟩ := k
  refine ⟨_, pw_or p p', fun io H S e σ Q so re h => ?_⟩
  refine q io H S e σ _ so re (h.bind.imp (fun _ _ _ _ z => z) fun c S1 i1 H1 g1 s1 k1 => ?_)
  cases c with
  | false => exact q' i1 H1 S1 e σ Q s1 (re.mono g1) k1
  | true => exact k1 i1 H1 Grow.refl s1
theorem dt_w {e : Expr} {m : Env → Store → R Bool} (h : DW G X W e m) : DT G X W e m := let ⟨_, p, q⟩ := h; ⟨_, p.pt, q⟩
theorem dt_not (h : DT G X W a ma) : DT G X W (.UnaryOp .Not a pos) (mNotT ma) := by
  obtain ⟨t, p, q⟩ := h
  refine ⟨_, pt_not p, fun io H S e σ Q so re h => ?_⟩
  exact q io H S e σ _ so re (h.bind.imp (fun _ _ _ _ z => z) fun c S1 i1 H1 g1 s1 k1 => k1 i1 H1 Grow.refl s1)
/-! ### a < b < c -/
def mChain (m m' : Dt → Dt → Store → R Dt) (ma mb mc : Env → Store → R Dt) : Env → Store → R Dt := fun e S => (ma e S).bind fun x S1 => (mb e S1).bind fun y S2 => (m x y S2).bind fun z S3 => match z with
  | .bl true => (mc e S3).bind fun w S4 => m' y w S4
  | .bl false => .ok (.bl false) S3
  | _ => .stuck
theorem simE_chain {r r' : R2} {ta tb tc : TE} {m m' : Dt → Dt → Store → R Dt} {ma mb mc : Env → Store → R Dt} (ho : SimO G r m) (hn : ∀ x y S, NoErr (m x y S)) (ho' : SimO G r' m') (hn' : ∀ x y S, NoErr (m' x y S))
    (ha : SimE G W ta ma) (hb : SimE G W tb mb) (hc : SimE G W tc mc) : SimE G W (tChain r r' ta tb tc) (mChain m m' ma mb mc) := by
  intro io H S e σ Q so re h
  refine ha io H S e σ _ so re (h.bind.imp (fun _ _ _ _ z => z) fun d S1 i1 H1 g1 s1 k1 v r1 => ?_)
  refine hb i1 H1 S1 e σ _ s1 (re.mono g1) (k1.bind.imp (fun _ _ _ _ z => z) fun d' S2 i2 H2 g2 s2 k2 v' r2 => ?_)
  refine ho i2 H2 S2 v v' d d' _ s2 (r1.mono g2) r2 ((k2.bind.noErr (hn _ _ _)).imp (fun _ _ _ _ z => z) fun z S3 i3 H3 g3 s3 k3 vz rz => ?_)
  split at k3
  · refine ⟨true, rel_bl rz, ?_⟩
    rw [if_pos rfl]
    refine hc i3 H3 S3 e σ _ s3 ((re.mono (g1.trans g2)).mono g3) (k3.bind.imp (fun _ _ _ _ z => z) fun w S4 i4 H4 g4 s4 k4 vw rw' => ?_)
    exact ho' i4 H4 S4 v' vw d' w Q s4 ((r2.mono g3).mono g4) rw' (k4.noErr (hn' _ _ _))
  · refine ⟨false, rel_bl rz, ?_⟩
    rw [if_neg Bool.false_ne_true]
    exact k3 i3 H3 Grow.refl s3 _ (.bl _)
  · exact k3.elim
theorem de_chain {op op' : CmpOp} {m m' : Dt → Dt → Store → R Dt} {ma mb mc : Env → Store → R Dt} {c : Expr} (ho : DO G X (compareOp op) m) (ho' : DO G X (compareOp op') m') (ha : DE G X W a ma) (hb : DE G X W b mb) (hc : DE G X W c mc)
    (hm : lastMarks [op, op'] [b, c] = false := by with_unfolding_all rfl) : DE G X W (.Compare a [op, op'] [b, c] pos) (mChain m m' ma mb mc) := by
  obtain ⟨r, p, q, n⟩ := ho
  obtain ⟨r', p', q', n'⟩ := ho'
  obtain ⟨ta, pa, qa⟩ := ha
  obtain ⟨tb, pb, qb⟩ := hb
  obtain ⟨tc, pc, qc⟩ := hc
  exact ⟨_, pe_chain p p' pa pb pc hm, simE_chain q n q' n' qa qb qc⟩
end
/-! ### and, or, not, if as values -/
section
variable {G : Gv} {X : Cx} {W : WX} {a b : Expr} {rest : List Expr} {pos : Pos} {ma mb : Env → Store → R Dt}
def mAndV (a b : Env → Store → R Dt) : Env → Store → R Dt := fun e S => (a e S).bind fun d S1 => match tru S1 d with
  | some true => b e S1
  | some false => .ok d S1
  | none => .stuck
def mOrV (a b : Env → Store → R Dt) : Env → Store → R Dt := fun e S => (a e S).bind fun d S1 => match tru S1 d with
  | some true => .ok d S1
  | some false => b e S1
  | none => .stuck
def mNotV (a : Env → Store → R Dt) : Env → Store → R Dt := fun e S => (a e S).bind fun d S1 => match tru S1 d with
  | some b => .ok (.bl (!b)) S1
  | none => .stuck
theorem de_one {op} (h : DE G X W a ma) : DE G X W (.BoolOp op [a] pos) ma := let ⟨_, p, q⟩ := h; ⟨_, pe_one p, q⟩
theorem de_and (h : DE G X W a ma) (k : DE G X W (.BoolOp .And (b :: rest) pos) mb) (hK : X.K = G.K := by rfl) : DE G X W (.BoolOp .And (a :: b :: rest) pos) (mAndV ma mb) := by
  obtain ⟨t, p, q⟩ := h
  obtain ⟨u, p', q'⟩ := k
  refine ⟨_, pe_andT p p', fun io H S e σ Q so re h => ?_⟩
  refine q io H S e σ _ so re (h.bind.imp (fun _ _ _ _ z => z) fun d S1 i1 H1 g1 s1 k1 v r => ?_)
  split at k1
  · rename_i hb
    refine ⟨true, by rw [hK]; exact tru_of s1 r hb, ?_⟩
    rw [if_pos rfl]
    exact q' i1 H1 S1 e σ Q s1 (re.mono g1) k1
  · rename_i hb
    refine ⟨false, by rw [hK]; exact tru_of s1 r hb, ?_⟩
    rw [if_neg Bool.false_ne_true]
    exact k1 i1 H1 Grow.refl s1 _ r
  · exact k1.elim
theorem de_not (h : DE G X W a ma) (hK : X.K = G.K := by rfl) : DE G X W (.UnaryOp .Not a pos) (mNotV ma) := by
  obtain ⟨t, p, q⟩ := h
  refine ⟨_, pe_notT p, fun io H S e σ Q so re h => ?_⟩
  refine q io H S e σ _ so re (h.bind.imp (fun _ _ _ _ z => z) fun d S1 i1 H1 g1 s1 k1 v r => ?_)
  split at k1
  · rename_i c hb
    exact ⟨c, by rw [hK]; exact tru_of s1 r hb, k1 i1 H1 Grow.refl s1 _ (.bl _)⟩
  · exact k1.elim
def mIf (c : Env → Store → R Bool) (a b : Env → Store → R Dt) : Env → Store → R Dt := fun e S => (c e S).bind fun k S1 => if k = true then a e S1 else b e S1
theorem de_if {c : Expr} {mc : Env → Store → R Bool} (hc : DT G X W c mc) (ha : DE G X W a ma) (hb : DE G X W b mb) : DE G X W (.IfExp c a b pos) (mIf mc ma mb) := by
  obtain ⟨t, p, q⟩ := hc
  obtain ⟨ta, pa, qa⟩ := ha
  obtain ⟨tb, pb, qb⟩ := hb
  refine ⟨_, pe_ifExp p pa pb, fun io H S e σ Q so re h => ?_⟩
  refine q io H S e σ _ so re (h.bind.imp (fun _ _ _ _ z => z) fun c S1 i1 H1 g1 s1 k1 => ?_)
  cases c with
  | true => exact qa i1 H1 S1 e σ Q s1 (re.mono g1) k1
  | false => exact qb i1 H1 S1 e σ Q s1 (re.mono g1) k1
/-- -a -/
def mNeg (a : Env → Store → R Dt) : Env → Store → R Dt := fun e S => (a e S).bind fun d S1 => match d with
  | .int i => .ok (.int (-i)) S1
  | _ => .stuck
theorem de_neg (h : DE G X W a ma) : DE G X W (.UnaryOp .USub a pos) (mNeg ma) := by
  obtain ⟨t, p, q⟩ := h
  refine ⟨_, pe_un un_neg p, fun io H S e σ Q so re h => ?_⟩
  refine q io H S e σ _ so re (h.bind.imp (fun _ _ _ _ z => z) fun d S1 i1 H1 g1 s1 k1 v r => ?_)
  cases r with
  | int i => exact ⟨i, rfl, k1 i1 H1 Grow.refl s1 _ (.int _)⟩
  | _ => exact k1.elim
end
/-! ### displays -/
section
variable {G : Gv} {X : Cx} {W : WX} {es : List Expr} {pos : Pos} {ms : Env → Store → R (List Dt)}
def mTup (m : Env → Store → R (List Dt)) : Env → Store → R Dt := fun e S => (m e S).bind fun ds S1 => if ds.length ≤ 1000 then .ok (.tup ds) S1 else .stuck
def mLst (m : Env → Store → R (List Dt)) : Env → Store → R Dt := fun e S => (m e S).bind fun ds S1 => if ds.length ≤ 1000 then .ok (.lst ds) S1 else .stuck
/-- a list that will change: an object of the store -/
def mLstR (m : Env → Store → R (List Dt)) : Env → Store → R Dt := fun e S => (m e S).bind fun ds S1 => if ds.length ≤ 1000 then .ok (.ref S1.length) (S1 ++ [.lst ds]) else .stuck
theorem de_tup {x1} (h : DA G X W es ms) : DE G X W (.Tuple es x1 pos) (mTup ms) := by
  obtain ⟨t, p, q⟩ := h
  refine ⟨_, pe_tup p, fun io H S e σ Q so re h => ?_⟩
  refine q io H S e σ _ so re (h.bind.imp (fun _ _ _ _ z => z) fun ds S1 i1 H1 g1 s1 k1 vs r => ?_)
  split at k1
  · rename_i hl
    exact ⟨by rw [← r.length]; exact Nat.le_trans hl (by decide), fun p hp => out_tup s1 r k1 hp⟩
  · exact k1.elim
theorem de_lst (h : DA G X W es ms) : DE G X W (.List es pos) (mLst ms) := by
  obtain ⟨t, p, q⟩ := h
  refine ⟨_, pe_lst p, fun io H S e σ Q so re h => ?_⟩
  refine q io H S e σ _ so re (h.bind.imp (fun _ _ _ _ z => z) fun ds S1 i1 H1 g1 s1 k1 vs r => ?_)
  split at k1
  · rename_i hl
    exact ⟨by rw [← r.length]; exact Nat.le_trans hl (by decide), fun p hp => out_lst s1 r k1 hp⟩
  · exact k1.elim
theorem de_lstR (h : DA G X W es ms) : DE G X W (.List es pos) (mLstR ms) := by
  obtain ⟨t, p, q⟩ := h
  refine ⟨_, pe_lst p, fun io H S e σ Q so re h => ?_⟩
  refine q io H S e σ _ so re (h.bind.imp (fun _ _ _ _ z => z) fun ds S1 i1 H1 g1 s1 k1 vs r => ?_)
  split at k1
  · rename_i hl
    exact ⟨by rw [← r.length]; exact Nat.le_trans hl (by decide), fun p hp => out_ref s1 r k1 hp⟩
  · exact k1.elim
end
/-! ### subscripts -/
theorem rel_at {G : Gv} {io : Io} {H : Hp} {ds : List Dt} {vs : List V} {i : Int} {d : Dt} (r : RelDs G io H ds vs) (h : atI ds i = some d) : ∃ v, atI vs i = some v ∧ RelD G io H d v := by
  unfold atI at h ⊢
  rw [← r.length]
  cases e : ixN ds.length i with
  | none => rw [e] at h; cases h
  | some j =>
    rw [e] at h
    exact r.get h
def ixD (S : Store) (x : Dt) (i : Int) : Option Dt := match x with
  | .tup ds => atI ds i
  | .str s => if s.length ≤ 100000 then (atI s.cps.toList i).map fun c => .str ⟨#[c]⟩ else none
  | x => (asL S x).bind fun ds => atI ds i
def mIx (x y : Dt) (S : Store) : R Dt := match y with
  | .int i => match ixD S x i with
    | some d => .ok d S
    | none => .stuck
  | _ => .stuck
section
variable {G : Gv} {X : Cx} {W : WX} {a b : Expr} {pos : Pos} {ma mb : Env → Store → R Dt}
theorem sim_ix (hK : X.K = G.K) : SimO G (rIx X.K) mIx := by
  intro io H S x y dx dy Q so rx ry h
  unfold mIx at h
  split at h
  · rename_i i
    split at h
    · rename_i d hd
      cases ry
      have ls : ∀ {dx : Dt}, RelD G io H dx x → (asL S dx).bind (fun ds => atI ds i) = some d → rIx X.K x (.int i) H Q := fun {dx} r h' => by
        cases e : asL S dx with
        | none => rw [e] at h'; cases h'
        | some ds =>
          rw [e] at h'
          obtain ⟨p, vs, rfl, h1, h2⟩ := asL_ok so r e
          obtain ⟨v, e1, e2⟩ := rel_at h2 h'
          exact .inl ⟨p, vs, i, v, rfl, rfl, by rw [hK]; exact h1, e1, h io H Grow.refl so v e2⟩
      unfold ixD at hd
      split at hd
      · obtain ⟨p, vs, rfl, h1, h2⟩ := asT_ok rx rfl
        obtain ⟨v, e1, e2⟩ := rel_at h2 hd
        exact .inr (.inl ⟨p, vs, i, v, rfl, rfl, by rw [hK]; exact h1, e1, h io H Grow.refl so v e2⟩)
      · split at hd
        · rename_i s hl
          cases rx
          cases e : atI s.cps.toList i with
          | none => rw [e] at hd; cases hd
          | some c =>
            rw [e] at hd
            cases hd
            exact .inr (.inr ⟨s, i, c, rfl, rfl, Nat.le_trans hl (by decide), e, h io H Grow.refl so _ (.str _)⟩)
        · cases hd
      · exact ls rx hd
    · exact h.elim
  · exact h.elim
theorem noErr_ix (x y : Dt) (S : Store) : NoErr (mIx x y S) := by
  unfold mIx
  repeat' split
  all_goals trivial
theorem de_ix (ha : DE G X W a ma) (hb : DE G X W b mb) (hK : X.K = G.K := by rfl) (hs : PlainIx b := by exact fun _ _ => rfl) : DE G X W (.Subscript a b pos) (mOp mIx ma mb) := by
  obtain ⟨ta, pa, qa⟩ := ha
  obtain ⟨tb, pb, qb⟩ := hb
  exact ⟨_, pe_ix ix_seq pa pb hs, simE_op (sim_ix hK) noErr_ix qa qb⟩
/-- a slice's parts -/
def DP (G : Gv) (X : Cx) (W : WX) (e : Option Expr) (m : Env → Store → R (Option Int)) : Prop := ∃ t, PO X e t ∧ ∀ io H S e σ Q, StoreOk G io S H → RelEnv G io H e σ → Out G io H (wxE G W σ) (fun o _ _ H' => Q o H') (m e S) → t σ H Q
def mNoPart : Env → Store → R (Option Int) := fun _ S => .ok none S
def mPart (m : Env → Store → R Dt) : Env → Store → R (Option Int) := fun e S => (m e S).bind fun d S1 => match d with
  | .int i => .ok (some i) S1
  | _ => .stuck
theorem dp_none : DP G X W none mNoPart := ⟨_, po_none, fun io H S e σ Q so re h => h io H Grow.refl so⟩
theorem dp_some (ha : DE G X W a ma) : DP G X W (some a) (mPart ma) := by
  obtain ⟨t, p, q⟩ := ha
  refine ⟨_, po_some p, fun io H S e σ Q so re h => ?_⟩
  refine q io H S e σ _ so re (h.bind.imp (fun _ _ _ _ z => z) fun d S1 i1 H1 g1 s1 k1 v r => ?_)
  cases r with
  | int i => exact ⟨i, rfl, k1 i1 H1 Grow.refl s1⟩
  | _ => exact k1.elim
/-- the items of xs[lo:hi] -/
def cutA {α : Type} (xs : List α) (lo hi : Option Int) : List α := (xs.drop (HT.sIx xs.length 0 lo)).take (HT.sIx xs.length xs.length hi - HT.sIx xs.length 0 lo)
theorem rel_cut {G : Gv} {io : Io} {H : Hp} {ds : List Dt} {vs : List V} {lo hi : Option Int} (r : RelDs G io H ds vs) : RelDs G io H (cutA ds lo hi) (cutV vs lo hi) := by
  unfold cutA cutV
  rw [← r.length]
  exact (r.drop _).take _
def slD (S : Store) (x : Dt) (lo hi : Option Int) : Option Dt := match x with
  | .tup ds => some (.tup (cutA ds lo hi))
  | x => (asL S x).map fun ds => .lst (cutA ds lo hi)
def mSl (m : Env → Store → R Dt) (ml mh : Env → Store → R (Option Int)) : Env → Store → R Dt := fun e S => (m e S).bind fun x S1 => (ml e S1).bind fun l S2 => (mh e S2).bind fun h S3 => match slD S3 x l h with
  | some d => .ok d S3
  | none => .stuck
theorem cut_whole {α : Type} {xs : List α} {lo hi : Option Int} (h : HT.sIx xs.length 0 lo = 0 ∧ HT.sIx xs.length xs.length hi = xs.length) : cutA xs lo hi = xs := by
  unfold cutA
  rw [h.1, h.2]
  simp
theorem de_sl {lo hi : Option Expr} {p2 : Pos} {ml mh : Env → Store → R (Option Int)} (ha : DE G X W a ma) (hl : DP G X W lo ml) (hh : DP G X W hi mh) (hK : X.K = G.K := by rfl) : DE G X W (.Subscript a (.Slice lo hi none p2) pos) (mSl ma ml mh) := by
  obtain ⟨ta, pa, qa⟩ := ha
  obtain ⟨tl, pl, ql⟩ := hl
  obtain ⟨th, ph, qh⟩ := hh
  refine ⟨_, pe_slice (sl_list.or sl_tupA) pa pl ph, fun io H S e σ Q so re h => ?_⟩
  refine qa io H S e σ _ so re (h.bind.imp (fun _ _ _ _ z => z) fun x S1 i1 H1 g1 s1 k1 v rx => ?_)
  refine ql i1 H1 S1 e σ _ s1 (re.mono g1) (k1.bind.imp (fun _ _ _ _ z => z) fun l S2 i2 H2 g2 s2 k2 => ?_)
  refine qh i2 H2 S2 e σ _ s2 ((re.mono g1).mono g2) (k2.bind.imp (fun _ _ _ _ z => z) fun u S3 i3 H3 g3 s3 k3 => ?_)
  have rx3 := (rx.mono g2).mono g3
  split at k3
  · rename_i d hd
    unfold slD at hd
    split at hd
    · rename_i ds
      cases hd
      obtain ⟨p, vs, rfl, h1, h2⟩ := asT_ok rx3 rfl
      refine .inr ⟨p, vs, rfl, by rw [hK]; exact h1, fun hw => ?_, fun _ q hq => out_tup s3 (rel_cut h2) k3 hq⟩
      rw [← h2.length] at hw
      rw [cut_whole hw] at k3
      exact k3 i3 H3 Grow.refl s3 _ rx3
    · rename_i x' hne
      cases el : asL S3 x with
      | none => rw [el] at hd; cases hd
      | some ds =>
        rw [el] at hd
        cases hd
        obtain ⟨p, vs, rfl, h1, h2⟩ := asL_ok s3 rx3 el
        exact .inl ⟨p, vs, rfl, by rw [hK]; exact h1, fun q hq => out_lst s3 (rel_cut h2) k3 hq⟩
  · exact k3.elim
end
/-! ### built-in functions -/
def SimC (G : Gv) (r : List V → Hp → VK → Prop) (m : List Dt → Store → R Dt) : Prop := ∀ io H S ds vs Q, StoreOk G io S H → RelDs G io H ds vs → Out G io H (fun _ _ _ => False) (poE G Q) (m ds S) → r vs H Q
def DC (G : Gv) (X : Cx) (f : Value) (m : List Dt → Store → R Dt) : Prop := ∃ r, CallR X f r ∧ SimC G r m ∧ ∀ ds S, NoErr (m ds S)
def mCB (m : List Dt → Store → R Dt) (ma : Env → Store → R (List Dt)) : Env → Store → R Dt := fun e S => (ma e S).bind m
section
variable {G : Gv} {X : Cx} {W : WX} {e : Expr} {es : List Expr} {x : Str} {p pos : Pos} {ms : Env → Store → R (List Dt)} {id T : String} {m : List Dt → Store → R Dt}
theorem de_callB (hc : DC G X (.builtin id) m) (hg : Gl X x) (hm : X.mg x = none) (hv : bootBuiltins x = some (.builtin id)) (ha : DA G X W (e :: es) ms) (hn : x ≠ "__name__" := by decide) (hdb : (x == ("__debug__" : Str)) = false := by decide)
    (he : starEach (e :: es) X.env = (false, eval e X.env) :: starEach es X.env := by rfl) (hpl : (backTo pos (starEach es X.env)).any (·.1) = false := by rfl) : DE G X W (.Call (.Name x p) (e :: es) [] pos) (mCB m ms) := by
  obtain ⟨r, p1, q1, n1⟩ := hc
  obtain ⟨t, p2, q2⟩ := ha
  refine ⟨_, pe_callB p1 hg hm hv p2 hn hdb he hpl, fun io H S e σ Q so re h => ?_⟩
  exact q2 io H S e σ _ so re (h.bind.imp (fun _ _ _ _ z => z) fun ds S1 i1 H1 g1 s1 k1 vs r => q1 i1 H1 S1 ds vs Q s1 r (k1.noErr (n1 _ _)))
theorem de_callTy (hc : DC G X (.type T) m) (hg : Gl X x) (hm : X.mg x = none) (hv : bootBuiltins x = some (.type T)) (ha : DA G X W (e :: es) ms) (hn : x ≠ "__name__" := by decide) (hdb : (x == ("__debug__" : Str)) = false := by decide)
    (he : starEach (e :: es) X.env = (false, eval e X.env) :: starEach es X.env := by rfl) (hpl : (backTo pos (starEach es X.env)).any (·.1) = false := by rfl) : DE G X W (.Call (.Name x p) (e :: es) [] pos) (mCB m ms) := by
  obtain ⟨r, p1, q1, n1⟩ := hc
  obtain ⟨t, p2, q2⟩ := ha
  refine ⟨_, pe_callTy p1 hg hm hv p2 hn hdb he hpl, fun io H S e σ Q so re h => ?_⟩
  exact q2 io H S e σ _ so re (h.bind.imp (fun _ _ _ _ z => z) fun ds S1 i1 H1 g1 s1 k1 vs r => q1 i1 H1 S1 ds vs Q s1 r (k1.noErr (n1 _ _)))
def mAbs (ds : List Dt) (S : Store) : R Dt := match ds with
  | [.int i] => .ok (.int (if i < 0 then -i else i)) S
  | _ => .stuck
theorem dc_abs : DC G X (.builtin "abs") mAbs := by
  refine ⟨_, call_abs, ?_, ?_⟩
  · intro io H S ds vs Q so r h
    unfold mAbs at h
    split at h
    · cases r with
      | cons r1 r2 =>
        cases r1
        cases r2
        exact ⟨_, rfl, h io H Grow.refl so _ (.int _)⟩
    · exact h.elim
  · intro ds S
    unfold mAbs
    split <;> trivial
def lenD (S : Store) (d : Dt) : Option Nat := match d with
  | .tup ds => some ds.length
  | .str s => if s.length ≤ 100000 then some s.length else none
  | d => (asL S d).map List.length
def mLen (ds : List Dt) (S : Store) : R Dt := match ds with
  | [d] => match lenD S d with
    | some n => .ok (.int n) S
    | none => .stuck
  | _ => .stuck
theorem dc_len (hK : X.K = G.K := by rfl) : DC G X (.builtin "len") mLen := by
  refine ⟨_, (call_len_seq (X := X)).or call_len_str, ?_, ?_⟩
  · intro io H S ds vs Q so r h
    unfold mLen at h
    split at h
    · rename_i d
      cases r with
      | cons r1 r2 =>
        cases r2
        split at h
        · rename_i n hn
          unfold lenD at hn
          split at hn
          · cases hn
            obtain ⟨p, us, rfl, h1, h2⟩ := asT_ok r1 rfl
            refine .inl ⟨p, us, rfl, .inr (by rw [hK]; exact h1), ?_⟩
            rw [← h2.length]
            exact h io H Grow.refl so _ (.int _)
          · split at hn
            · rename_i hl
              cases hn
              cases r1
              exact .inr ⟨_, rfl, Nat.le_trans hl (by decide), h io H Grow.refl so _ (.int _)⟩
            · cases hn
          · cases el : asL S d with
            | none => rw [el] at hn; cases hn
            | some ds =>
              rw [el] at hn
              cases hn
              obtain ⟨p, us, rfl, h1, h2⟩ := asL_ok so r1 el
              refine .inl ⟨p, us, rfl, .inl (by rw [hK]; exact h1), ?_⟩
              rw [← h2.length]
              exact h io H Grow.refl so _ (.int _)
        · exact h.elim
    · exact h.elim
  · intro ds S
    unfold mLen
    repeat' split
    all_goals trivial
def asS (S : Store) (d : Dt) : Option (List Dt) := match d with
  | .tup ds => some ds
  | d => asL S d
theorem asS_ok {io : Io} {H : Hp} {S : Store} {d : Dt} {ds : List Dt} {v : V} (so : StoreOk G io S H) (r : RelD G io H d v) (h : asS S d = some ds) : ∃ a vs, v = .ref a ∧ (SqL G.K H a vs ∨ SqT G.K H a vs) ∧ RelDs G io H ds vs := by
  unfold asS at h
  split at h
  · obtain ⟨a, vs, h1, h2, h3⟩ := asT_ok r h
    exact ⟨a, vs, h1, .inr h2, h3⟩
  · obtain ⟨a, vs, h1, h2, h3⟩ := asL_ok so r h
    exact ⟨a, vs, h1, .inl h2, h3⟩
/-- list(xs): by value; an object of the store -/
def mList (ds : List Dt) (S : Store) : R Dt := match ds with
  | [d] => match asS S d with
    | some ds => .ok (.lst ds) S
    | none => .stuck
  | _ => .stuck
def mListR (ds : List Dt) (S : Store) : R Dt := match ds with
  | [d] => match asS S d with
    | some ds => .ok (.ref S.length) (S ++ [.lst ds])
    | none => .stuck
  | _ => .stuck
theorem dc_list (hK : X.K = G.K := by rfl) : DC G X (.type "list") mList := by
  refine ⟨_, call_list_of, ?_, ?_⟩
  · intro io H S ds vs Q so r h
    unfold mList at h
    split at h
    · cases r with
      | cons r1 r2 =>
        cases r2
        split at h
        · rename_i es he
          obtain ⟨a, us, rfl, h1, h2⟩ := asS_ok so r1 he
          exact ⟨a, us, rfl, by rw [hK]; exact h1, fun l hl => out_lst so h2 h hl⟩
        · exact h.elim
    · exact h.elim
  · intro ds S
    unfold mList
    repeat' split
    all_goals trivial
def mTuple (ds : List Dt) (S : Store) : R Dt := match ds with
  | [d] => match asS S d with
    | some ds => .ok (.tup ds) S
    | none => .stuck
  | _ => .stuck
theorem dc_tuple (hK : X.K = G.K := by rfl) : DC G X (.type "tuple") mTuple := by
  refine ⟨_, call_tuple_of, ?_, ?_⟩
  · intro io H S ds vs Q so r h
    unfold mTuple at h
    split at h
    · rename_i d
      cases r with
      | cons r1 r2 =>
        cases r2
        split at h
        · rename_i es he
          unfold asS at he
          split at he
          · cases he
            obtain ⟨a, us, rfl, h1, h2⟩ := asT_ok r1 rfl
            exact ⟨a, us, rfl, .inr ⟨by rw [hK]; exact h1, h io H Grow.refl so _ r1⟩⟩
          · obtain ⟨a, us, rfl, h1, h2⟩ := asL_ok so r1 he
            exact ⟨a, us, rfl, .inl ⟨by rw [hK]; exact h1, fun l hl => out_tup so h2 h hl⟩⟩
        · exact h.elim
    · exact h.elim
  · intro ds S
    unfold mTuple
    repeat' split
    all_goals trivial
/-- all, any, sum of a list -/
def bools : List Dt → Option (List Bool)
  | [] => some []
  | .bl b :: r => (bools r).map (b :: ·)
  | _ => none
theorem bools_ok {io : Io} {H : Hp} : ∀ {ds : List Dt} {vs : List V} {bs : List Bool}, RelDs G io H ds vs → bools ds = some bs → vs = bs.map V.bl
  | [], _, _, r, h => by cases r; cases h; rfl
  | d :: ds, _, bs, r, h => by
    cases r with
    | cons r1 r2 =>
      cases r1 with
      | bl b =>
        simp only [bools] at h
        cases e : bools ds with
        | none => rw [e] at h; cases h
        | some cs =>
          rw [e] at h
          cases h
          rw [bools_ok r2 e]
          rfl
      | _ => cases h
def mAll (ds : List Dt) (S : Store) : R Dt := match ds with
  | [d] => match (asL S d).bind bools with
    | some bs => .ok (.bl (bs.all fun b => b)) S
    | none => .stuck
  | _ => .stuck
theorem dc_all (hc : X.calm = true := by rfl) (hK : X.K = G.K := by rfl) : DC G X (.builtin "all") mAll := by
  refine ⟨_, cr_all hc, ?_, ?_⟩
  · intro io H S ds vs Q so r h
    unfold mAll at h
    split at h
    · rename_i d
      cases r with
      | cons r1 r2 =>
        cases r2
        split at h
        · rename_i bs hb
          cases el : asL S d with
          | none => rw [el] at hb; cases hb
          | some es =>
            rw [el] at hb
            obtain ⟨a, us, rfl, h1, h2⟩ := asL_ok so r1 el
            have e := bools_ok h2 hb
            subst e
            refine ⟨a, bs, rfl, by rw [hK]; exact h1, ?_⟩
            have e2 : bs.all (fun b => b) = bs.all id := rfl
            rw [e2] at h
            exact h io H Grow.refl so _ (.bl _)
        · exact h.elim
    · exact h.elim
  · intro ds S
    unfold mAll
    repeat' split
    all_goals trivial
end
end Dv
set_option Elab.async false
set_option linter.all false
set_option maxRecDepth 100000
set_option maxHeartbeats 4000000
set_option autoImplicit false
namespace Dv
open PySem PySem.Spec PyProof.Rows L2
/-! ### isinstance -/
/-- what isinstance asks of the text's own classes -/
structure ClsOk (G : Gv) : Prop where
  cls : ∀ c C, G.cl c = some C → Cls G.K C
  ha : ∀ c C, G.cl c = some C → PySem.W.findIn G.K (.ref C) "__class__" = some (some (.builtin "object.__class__"))
  hn : PySem.W.specialIn G.K (.builtin "object.__class__") "__get__" = some (some (.builtin "getset_descriptor.__get__")) ∨ ∀ c, G.cl c = none
  htk : PySem.W.takesIn G.K (.builtin "object.__class__") = some true ∨ ∀ c, G.cl c = none
  hm : ∀ c C, G.cl c = some C → PySem.W.mroIn G.K C (.type "object") = some true
  tyOwn : ∀ c C, G.cl c = some C → ∀ t ∈ tys, PySem.W.kitOne G.K (.type t) (.ref C) = some false
  ownTy : ∀ c C, G.cl c = some C → ∀ t ∈ clss, PySem.W.kitOne G.K (.ref C) (.type t) = some false
  ownOwn : ∀ c C d D, G.cl c = some C → G.cl d = some D → PySem.W.kitOne G.K (.ref C) (.ref D) = some (c == d)
theorem ClsOk.none {G : Gv} (h : ∀ c, G.cl c = none) : ClsOk G := by
  have z : ∀ {P : Prop} {c : String} {C : Addr}, G.cl c = some C → P := fun {P c C} e => by
    rw [h] at e
    cases e
  exact ⟨fun _ _ e => z e, fun _ _ e => z e, .inr h, .inr h, fun _ _ e => z e, fun _ _ e => z e, fun _ _ e => z e, fun _ _ _ _ e => z e⟩
theorem ClsOk.tyOf {G : Gv} (o : ClsOk G) {H : Hp} {a C dx : Addr} {fs : List (Str × V)} {c : String} (h : G.cl c = some C) (e : H a = some (.ins C dx fs)) : TyOf G.K H (.ref a) (.ref C) := by
  have n1 := o.hn.resolve_right fun z => by rw [z] at h; cases h
  have n2 := o.htk.resolve_right fun z => by rw [z] at h; cases h
  exact .ins e (o.cls c C h) (o.ha c C h) n1 n2 (o.hm c C h)
/-- the type of a value: a built-in one, or an own class -/
def tyS (S : Store) (d : Dt) : Option (String ⊕ String) := match d with
  | .non => some (.inl "NoneType")
  | .bl _ => some (.inl "bool")
  | .int _ => some (.inl "int")
  | .str _ => some (.inl "str")
  | .tup _ => some (.inl "tuple")
  | .lst _ => some (.inl "list")
  | .dct _ _ => some (.inl "dict")
  | .ins c _ _ => some (.inr c)
  | .ref i => match S[i]? with
    | some (.lst _) => some (.inl "list")
    | some (.dct _ _) => some (.inl "dict")
    | some (.ins c _ _) => some (.inr c)
    | some (.dkt _ _) => none
    | none => none
  | _ => none
def isiB (t c : String) : Bool := t == c || t == "bool" && c == "int"
theorem kit_isiB {K : PySem.W.Frag} {t c : String} (ht : t ∈ tys) (hc : c ∈ clss) : PySem.W.kitOne K (.type t) (.type c) = some (isiB t c) := by
  have all : (tys.all fun t => clss.all fun c => decide (kitB t c = some (isiB t c))) = true := by decide +kernel
  rw [List.all_eq_true] at all
  have z := List.all_eq_true.mp (all t ht) c hc
  exact kit_ty (of_decide_eq_true z)
def isiT (t : String ⊕ String) (c : Dt) : Option Bool := match t, c with
  | .inl t, .ty n => if n ∈ clss then some (isiB t n) else none
  | .inl _, .cls _ => some false
  | .inr _, .ty n => if n ∈ clss then some false else none
  | .inr c, .cls d => some (c == d)
  | _, _ => none
def isiAny (t : String ⊕ String) : List Dt → Option Bool
  | [] => some false
  | c :: r => match isiT t c with
    | some true => (isiAny t r).map fun _ => true
    | some false => isiAny t r
    | none => none
def mIsi (ds : List Dt) (S : Store) : R Dt := match ds with
  | [x, .tup cs] => match (tyS S x).bind fun t => isiAny t cs with
    | some b => .ok (.bl b) S
    | none => .stuck
  | [x, c] => match (tyS S x).bind fun t => isiT t c with
    | some b => .ok (.bl b) S
    | none => .stuck
  | _ => .stuck
/-- a type as a value of the model -/
inductive TyV (G : Gv) : String ⊕ String → Value → Prop
  | b {t : String} : t ∈ tys → TyV G (.inl t) (.type t)
  | own {c : String} {C : Addr} : G.cl c = some C → TyV G (.inr c) (.ref C)
section
variable {G : Gv} {X : Cx} {W : WX} {io : Io} {H : Hp} {S : Store}
theorem tyS_ok (o : ClsOk G) {d : Dt} {v : V} {t : String ⊕ String} (so : StoreOk G io S H) (r : RelD G io H d v) (h : tyS S d = some t) : ∃ u, TyV G t u ∧ TyX G.K H v u := by
  cases r with
  | non => cases h; exact ⟨_, .b (by decide), .base .non⟩
  | bl b => cases h; exact ⟨_, .b (by decide), .base (.bl b)⟩
  | int i => cases h; exact ⟨_, .b (by decide), .base (.int i)⟩
  | str s => cases h; exact ⟨_, .b (by decide), .base (.str s)⟩
  | tup e _ =>
    cases h
    rcases e with ⟨e, _⟩ | ⟨⟨o, its, n, h1, h2, _⟩, _⟩
    · exact ⟨_, .b (by decide), .base (.tup e)⟩
    · exact ⟨_, .b (by decide), .kTuple h1 h2⟩
  | lst e _ _ => cases h; exact ⟨_, .b (by decide), .base (.lst e)⟩
  | dct e _ _ _ => cases h; exact ⟨_, .b (by decide), .base (.dK e)⟩
  | ins e n c l k => cases h; exact ⟨_, .own c, .base (o.tyOf c e)⟩
  | @ref a i e =>
    unfold tyS at h
    dsimp only at h
    split at h
    · rename_i hs
      obtain ⟨a', h1, h2⟩ := so.at_ hs
      rw [e] at h1
      cases h1
      cases h
      cases h2 with
      | lst e1 _ => exact ⟨_, .b (by decide), .base (.lst e1)⟩
    · rename_i hs
      obtain ⟨a', h1, h2⟩ := so.at_ hs
      rw [e] at h1
      cases h1
      cases h
      cases h2 with
      | dct e1 _ _ => exact ⟨_, .b (by decide), .base (.dK e1)⟩
    · rename_i hs
      obtain ⟨a', h1, h2⟩ := so.at_ hs
      rw [e] at h1
      cases h1
      cases h
      cases h2 with
      | ins e1 c _ _ => exact ⟨_, .own c, .base (o.tyOf c e1)⟩
    · cases h
    · cases h
  | _ => cases h
theorem isiT_ok (o : ClsOk G) {t : String ⊕ String} {u : Value} {c : Dt} {vc : V} {b : Bool} (ht : TyV G t u) (r : RelD G io H c vc) (h : isiT t c = some b) : ∃ uc, ClsV vc uc ∧ PySem.W.kitOne G.K u uc = some b := by
  cases r with
  | ty n =>
    refine ⟨_, .ty n, ?_⟩
    cases ht with
    | b ht =>
      unfold isiT at h
      dsimp only at h
      split at h
      · rename_i hc
        cases h
        exact kit_isiB ht hc
      · cases h
    | own hc =>
      unfold isiT at h
      dsimp only at h
      split at h
      · rename_i hn
        cases h
        exact o.ownTy _ _ hc _ hn
      · cases h
  | @cls c C hC =>
    refine ⟨_, .own C, ?_⟩
    cases ht with
    | b ht =>
      cases h
      exact o.tyOwn _ _ hC _ ht
    | own hc =>
      cases h
      exact o.ownOwn _ _ _ _ hc hC
  | _ => cases ht <;> cases h
theorem isiAny_ok (o : ClsOk G) {t : String ⊕ String} {u : Value} (ht : TyV G t u) : ∀ {cs : List Dt} {vs : List V} {b : Bool}, RelDs G io H cs vs → isiAny t cs = some b → ∃ us, Paired ClsV vs us ∧ PySem.W.kitAny G.K u us = some b
  | [], _, b, r, h => by
    cases r
    cases h
    exact ⟨[], .nil, rfl⟩
  | c :: cs, _, b, r, h => by
    cases r with
    | cons r1 r2 =>
      unfold isiAny at h
      split at h
      · rename_i e1
        cases e : isiAny t cs with
        | none => rw [e] at h; cases h
        | some b' =>
          rw [e] at h
          cases h
          obtain ⟨uc, h1, h2⟩ := isiT_ok o ht r1 e1
          obtain ⟨us, h3, _⟩ := isiAny_ok o ht r2 e
          exact ⟨uc :: us, .cons h1 h3, kitAny_cons h2 (fun z => by cases z) fun _ => rfl⟩
      · rename_i e1
        obtain ⟨uc, h1, h2⟩ := isiT_ok o ht r1 e1
        obtain ⟨us, h3, h4⟩ := isiAny_ok o ht r2 h
        exact ⟨uc :: us, .cons h1 h3, kitAny_cons h2 (fun _ => h4) fun z => by cases z⟩
      · cases h
theorem dc_isi (o : ClsOk G) (hK : X.K = G.K := by rfl) : DC G X (.builtin "isinstance") mIsi := by
  refine ⟨_, ((call_isi (X := X)).or call_isiT).or call_isiK, ?_, ?_⟩
  · intro io H S ds vs Q so r h
    rw [hK]
    unfold mIsi at h
    split at h
    · rename_i x cs
      cases r with
      | cons r1 r2 =>
        cases r2 with
        | cons r2 r3 =>
          cases r3
          split at h
          · rename_i b hb
            cases et : tyS S x with
            | none => rw [et] at hb; cases hb
            | some t =>
              rw [et] at hb
              obtain ⟨u, h1, h2⟩ := tyS_ok o so r1 et
              cases r2 with
              | @tup a _ us e rs =>
                obtain ⟨ws, h3, h4⟩ := isiAny_ok o h1 rs hb
                have q := h io H Grow.refl so _ (.bl b)
                rcases e with ⟨e, _⟩ | ⟨⟨ob, its, n, k1, k2, k3, k4, k5⟩, _⟩
                · exact .inl (.inr ⟨_, _, _, _, _, b, rfl, e, h3, h2, h4, q⟩)
                · obtain ⟨oc, od, dt, sl⟩ := ob
                  simp only at k2 k3
                  subst k2 k3
                  have e3 := ClsV.all h3 k5
                  subst e3
                  exact .inr ⟨_, _, od, its.toList, n, sl, _, b, rfl, by simpa using k1, h2, h4, q⟩
          · exact h.elim
    · rename_i x c hne
      cases r with
      | cons r1 r2 =>
        cases r2 with
        | cons r2 r3 =>
          cases r3
          split at h
          · rename_i b hb
            cases et : tyS S x with
            | none => rw [et] at hb; cases hb
            | some t =>
              rw [et] at hb
              obtain ⟨u, h1, h2⟩ := tyS_ok o so r1 et
              obtain ⟨uc, h3, h4⟩ := isiT_ok o h1 r2 hb
              exact .inl (.inl ⟨_, _, _, _, b, rfl, h3, h2, h4, h io H Grow.refl so _ (.bl b)⟩)
          · exact h.elim
    · exact h.elim
  · intro ds S
    unfold mIsi
    repeat' split
    all_goals trivial
end
/-! ### statements -/
def R.toS {α : Type} (r : R α) (e : Env) (f : α → Store → RS) : RS := match r with
  | .ok a S => f a S
  | .err x S => .err x e S
  | .stuck => .stuck
theorem OutS.bind {G : Gv} {io : Io} {H : Hp} {α : Type} {wx : Ex → Env → Io → Hp → Prop} {post : Fl → Env → Store → Io → Hp → Prop} {r : R α} {e : Env} {f : α → Store → RS} (h : OutS G io H wx post (r.toS e f)) :
    Out G io H (fun x io' H' => wx x e io' H') (fun a S io' H' => OutS G io' H' wx post (f a S)) r := by
  cases r with
  | ok a S => exact fun io' H' g s => OutS.from g h
  | err x S => exact h
  | stuck => exact h
section
variable {G : Gv} {X : Cx} {W : WX} {e : Expr} {me : Env → Store → R Dt} {pos : Pos}
/-- a wish at the statement's slots -/
theorem wx_of {io : Io} {H : Hp} {en : Env} {σ : L2.St} (re : RelEnv G io H en σ) : ∀ x io' H', Grow io H io' H' → wxS G W x en io' H' → wxE G W σ x io' H' := fun x io' H' g z cls dx rx => z σ cls dx (re.mono g) rx
/-- targets -/
def DG (G : Gv) (X : Cx) (tg : Expr) (m : Dt → Env → Store → Option (Env × Store)) : Prop := ∃ g, PG X tg g ∧ ∀ io H S en σ d v (Q : L2.St → Hp → Prop), StoreOk G io S H → RelEnv G io H en σ → RelD G io H d v →
  (match m d en S with
    | some (e', S') => ∀ io' H', Grow io H io' H' → StoreOk G io' S' H' → ∀ σ', RelEnv G io' H' e' σ' → Q σ' H'
    | none => False) → g v σ H Q
def gNm (i : Nat) : Dt → Env → Store → Option (Env × Store) := fun d e S => some (e.set i (some d), S)
theorem dg_name {i : Nat} {x : Str} (hN : X.N.Nodup) (hi : X.N[i]? = some x) (hx : Loc X.env.scope x) (hf : X.fn x = true ∨ X.env.scope.names.lookup x = some .local := by first | exact .inl rfl | exact .inr rfl | assumption) : DG G X (.Name x pos) (gNm i) :=
  ⟨_, pg_name hN hi hx hf, fun io H S en σ d v Q so re r h => h io H Grow.refl so _ (re.set r)⟩
def DGs (G : Gv) (X : Cx) (tgs : List Expr) (m : List Dt → Env → Store → Option (Env × Store)) : Prop := ∃ g, PGs X tgs g ∧ ∀ io H S en σ ds vs (Q : L2.St → Hp → Prop), StoreOk G io S H → RelEnv G io H en σ → RelDs G io H ds vs →
  (match m ds en S with
    | some (e', S') => ∀ io' H', Grow io H io' H' → StoreOk G io' S' H' → ∀ σ', RelEnv G io' H' e' σ' → Q σ' H'
    | none => False) → g vs σ H Q
def gNil' : List Dt → Env → Store → Option (Env × Store) := fun ds e S => match ds with
  | [] => some (e, S)
  | _ => none
def gCons' (m : Dt → Env → Store → Option (Env × Store)) (ms : List Dt → Env → Store → Option (Env × Store)) : List Dt → Env → Store → Option (Env × Store) := fun ds e S => match ds with
  | d :: r => match m d e S with
    | some (e1, S1) => ms r e1 S1
    | none => none
  | [] => none
theorem dgs_nil : DGs G X [] gNil' := ⟨_, pgs_nil, fun io H S en σ ds vs Q so re r h => by
  cases r with
  | nil => exact ⟨rfl, h io H Grow.refl so _ re⟩
  | cons _ _ => exact h.elim⟩
theorem dgs_cons {tg : Expr} {tgs : List Expr} {m : Dt → Env → Store → Option (Env × Store)} {ms : List Dt → Env → Store → Option (Env × Store)} (h1 : DG G X tg m) (h2 : DGs G X tgs ms)
    (hs : (assignEach (tg :: tgs) X.env).map (·.2) = assign tg X.env :: (assignEach tgs X.env).map (·.2) := by rfl) : DGs G X (tg :: tgs) (gCons' m ms) := by
  obtain ⟨g, p, q⟩ := h1
  obtain ⟨g', p', q'⟩ := h2
  refine ⟨_, pgs_cons p p' hs, fun io H S en σ ds vs Q so re r h => ?_⟩
  cases r with
  | nil => exact h.elim
  | cons r1 r2 =>
    refine ⟨_, _, rfl, q io H S en σ _ _ _ so re r1 ?_⟩
    unfold gCons' at h
    dsimp only at h
    split
    · rename_i e1 S1 em
      rw [em] at h
      intro i1 H1 g1 s1 σ1 re1
      refine q' i1 H1 S1 e1 σ1 _ _ Q s1 re1 (r2.mono g1) ?_
      dsimp only at h
      split
      · rename_i e2 S2 em2
        rw [em2] at h
        exact fun i2 H2 g2 s2 σ2 re2 => h i2 H2 (g1.trans g2) s2 σ2 re2
      · rename_i em2
        rw [em2] at h
        exact h
    · rename_i em
      rw [em] at h
      exact h
def gTp (n : Nat) (m : List Dt → Env → Store → Option (Env × Store)) : Dt → Env → Store → Option (Env × Store) := fun d e S => match d with
  | .tup ds => if ds.length = n then m ds e S else none
  | _ => none
theorem dg_tup {es : List Expr} {k n : Nat} {m : List Dt → Env → Store → Option (Env × Store)} (h : DGs G X es m) (hc : X.calm = true := by rfl) (hn : (assignEach es X.env).length = n := by rfl) (hst : (assignEach es X.env).findIdx? (·.1) = none := by rfl)
    (hK : X.K = G.K := by rfl) : DG G X (.Tuple es k pos) (gTp n m) := by
  obtain ⟨g, p, q⟩ := h
  refine ⟨_, pg_tup hc p hn hst, fun io H S en σ d v Q so re r h => ?_⟩
  unfold gTp at h
  split at h
  · rename_i e' S' em
    split at em
    · rename_i ds
      split at em
      · rename_i hl
        obtain ⟨a, vs, rfl, h1, h2⟩ := asT_ok r rfl
        refine ⟨a, vs, rfl, by rw [hK]; exact h1, by rw [← h2.length]; exact hl, q io H S en σ _ _ Q so re h2 ?_⟩
        rw [em]
        exact h
      · cases em
    · cases em
  · exact h.elim
def mSet (i : Nat) (m : Env → Store → R Dt) : Env → Store → RS := fun en S => (m en S).toS en fun d S1 => .ok .nx (en.set i (some d)) S1
theorem ds_set {i : Nat} {x : Str} {pos' : Pos} (hN : X.N.Nodup) (he : DE G X W e me) (hi : X.N[i]? = some x := by rfl) (hx : Loc X.env.scope x := by first | exact Or.inl rfl | exact Or.inr rfl) (hs : swapsWith e (some (.Name x pos')) pos.line X.env = pure false := by rfl) (hf : X.fn x = true ∨ X.env.scope.names.lookup x = some .local := by first | exact .inl rfl | exact .inr rfl | assumption) :
    DS G X W (.Assign [.Name x pos'] e pos) (mSet i me) := by
  obtain ⟨t, p, q⟩ := he
  refine ⟨_, ps_set hN hi hx p hs hf, fun io H S en σ D so re h => ?_⟩
  refine q io H S en σ _ so re (h.bind.imp (wx_of re) fun d S1 i1 H1 g1 s1 k1 v r => ?_)
  exact k1 i1 H1 Grow.refl s1 _ ((re.mono g1).set r)
/-- target = value -/
def mAsg (g : Dt → Env → Store → Option (Env × Store)) (m : Env → Store → R Dt) : Env → Store → RS := fun en S => (m en S).toS en fun d S1 => match g d en S1 with
  | some (e', S') => .ok .nx e' S'
  | none => .stuck
theorem ds_asg {tg : Expr} {g : Dt → Env → Store → Option (Env × Store)} (he : DE G X W e me) (hg : DG G X tg g) (hs : swapsWithSole [tg] e pos.line X.env = pure false := by rfl) (hw : swappedStores [tg] e X.env = pure none := by rfl)
    (h1 : (assignEach [tg] X.env).map (·.2) = [assign tg X.env] := by rfl) : DS G X W (.Assign [tg] e pos) (mAsg g me) := by
  obtain ⟨t, p, q⟩ := he
  obtain ⟨g', p', q'⟩ := hg
  refine ⟨_, ps_asg p p' hs hw h1, fun io H S en σ D so re h => ?_⟩
  refine q io H S en σ _ so re (h.bind.imp (wx_of re) fun d S1 i1 H1 g1 s1 k1 v r => ?_)
  refine q' i1 H1 S1 en σ d v _ s1 (re.mono g1) r ?_
  split
  · rename_i e' S' em
    rw [em] at k1
    exact fun io' H' g s σ' re' => k1 io' H' g s σ' re'
  · rename_i em
    rw [em] at k1
    exact k1.elim
/-- a, b = x, y: plain names -/
def mPar (i j : Nat) (m : Env → Store → R (List Dt)) : Env → Store → RS := fun en S => (m en S).toS en fun ds S1 => match ds with
  | [d, d'] => .ok .nx ((en.set i (some d)).set j (some d')) S1
  | _ => .stuck
theorem ds_par {i j : Nat} {x y : Str} {a b : Expr} {ma : Env → Store → R (List Dt)} {px py pt : Pos} {kt k2 pt2} (hN : X.N.Nodup) (ha : DA G X W [a, b] ma) (hc : X.calm = true := by rfl) (hi : X.N[i]? = some x := by rfl) (hj : X.N[j]? = some y := by rfl) (hij : i ≠ j := by decide)
    (hx : X.env.scope.names.lookup x = some .local := by rfl) (hy : X.env.scope.names.lookup y = some .local := by rfl)
    (hw : swappedStores [.Tuple [.Name x px, .Name y py] kt pt] (.Tuple [a, b] k2 pt2) X.env = pure (some [x, y]) := by rfl)
    (hs : swapsWithSole [.Tuple [.Name x px, .Name y py] kt pt] (.Tuple [a, b] k2 pt2) pos.line X.env = pure false := by rfl) :
    DS G X W (.Assign [.Tuple [.Name x px, .Name y py] kt pt] (.Tuple [a, b] k2 pt2) pos) (mPar i j ma) := by
  obtain ⟨t, p, q⟩ := ha
  refine ⟨_, ps_par hc hN hi hj hij hx hy p hw hs, fun io H S en σ D so re h => ?_⟩
  refine q io H S en σ _ so re (h.bind.imp (wx_of re) fun ds S1 i1 H1 g1 s1 k1 vs r => ?_)
  cases r with
  | nil => exact k1.elim
  | cons r1 r2 =>
    cases r2 with
    | nil => exact k1.elim
    | cons r2 r3 =>
      cases r3 with
      | cons _ _ => exact k1.elim
      | nil => exact ⟨_, _, rfl, k1 i1 H1 Grow.refl s1 _ (((re.mono g1).set r1).set r2)⟩
/-- an expression alone -/
def mDrop (m : Env → Store → R Dt) : Env → Store → RS := fun en S => (m en S).toS en fun _ S1 => .ok .nx en S1
theorem ds_expr (he : DE G X W e me) (hs : swapsWith e none pos.line X.env = pure false := by rfl) : DS G X W (.Expr e pos) (mDrop me) := by
  obtain ⟨t, p, q⟩ := he
  refine ⟨_, ps_expr p hs, fun io H S en σ D so re h => ?_⟩
  exact q io H S en σ _ so re (h.bind.imp (wx_of re) fun d S1 i1 H1 g1 s1 k1 v r => k1 i1 H1 Grow.refl s1 _ (re.mono g1))
def mRet (m : Env → Store → R Dt) : Env → Store → RS := fun en S => (m en S).toS en fun d S1 => .ok (.rt d) en S1
theorem ds_ret (he : DE G X W e me) : DS G X W (.Return (some e) pos) (mRet me) := by
  obtain ⟨t, p, q⟩ := he
  refine ⟨_, ps_ret p, fun io H S en σ D so re h => ?_⟩
  exact q io H S en σ _ so re (h.bind.imp (wx_of re) fun d S1 i1 H1 g1 s1 k1 v r => k1 i1 H1 Grow.refl s1 _ r)
def mRetN : Env → Store → RS := fun en S => .ok (.rt .non) en S
def mNx : Env → Store → RS := fun en S => .ok .nx en S
def mBk : Env → Store → RS := fun en S => .ok .bk en S
def mCt : Env → Store → RS := fun en S => .ok .ct en S
/-- blocks -/
def mSeq (m k : Env → Store → RS) : Env → Store → RS := fun en S => match m en S with
  | .ok .nx e1 S1 => k e1 S1
  | r => r
variable {st : Stmt} {sts : List Stmt} {m k : Env → Store → RS}
theorem db_nil : DB G X W [] mNx := ⟨_, pss_nil, fun io H S en σ D so re h => h io H Grow.refl so _ re⟩
theorem db_one (h : DS G X W st m) : DB G X W [st] m := let ⟨_, p, q⟩ := h; ⟨_, pss_one p, q⟩
theorem db_cons (h : DS G X W st m) (h2 : DB G X W sts k) : DB G X W (st :: sts) (mSeq m k) := by
  obtain ⟨t, p, q⟩ := h
  obtain ⟨u, p', q'⟩ := h2
  refine ⟨_, pss_cons p p', fun io H S en σ D so re h => ?_⟩
  refine q io H S en σ _ so re ?_
  unfold mSeq at h
  cases em : m en S with
  | stuck => rw [em] at h; exact h
  | err x e1 S1 => rw [em] at h; exact h
  | ok f e1 S1 =>
    rw [em] at h
    cases f with
    | nx => exact fun i1 H1 g1 s1 σ1 re1 => q' i1 H1 S1 e1 σ1 D s1 re1 (OutS.from g1 h)
    | bk => exact h
    | ct => exact h
    | rt d => exact h
def mIfS (c : Env → Store → R Bool) (a b : Env → Store → RS) : Env → Store → RS := fun en S => (c en S).toS en fun t S1 => if t = true then a en S1 else b en S1
theorem ds_if {c : Expr} {a b : List Stmt} {mc : Env → Store → R Bool} {ma mb : Env → Store → RS} (hc : DT G X W c mc) (ha : DB G X W a ma) (hb : DB G X W b mb) : DS G X W (.If c a b pos) (mIfS mc ma mb) := by
  obtain ⟨t, p, q⟩ := hc
  obtain ⟨ta, pa, qa⟩ := ha
  obtain ⟨tb, pb, qb⟩ := hb
  refine ⟨_, ps_if p pa pb, fun io H S en σ D so re h => ?_⟩
  refine q io H S en σ _ so re (h.bind.imp (wx_of re) fun c S1 i1 H1 g1 s1 k1 => ?_)
  cases c with
  | true => exact qa i1 H1 S1 en σ D s1 (re.mono g1) k1
  | false => exact qb i1 H1 S1 en σ D s1 (re.mono g1) k1
/-! ### while -/
def wLoop (c : Env → Store → R Bool) (b : Env → Store → RS) : Nat → Env → Store → RS
  | 0, _, _ => .stuck
  | n + 1, en, S => (c en S).toS en fun t S1 => if t = true then (match b en S1 with
    | .ok .nx e2 S2 => wLoop c b n e2 S2
    | .ok .ct e2 S2 => wLoop c b n e2 S2
    | .ok .bk e2 S2 => .ok .nx e2 S2
    | r => r) else .ok .nx en S1
def mWhile (f : Env → Store → Nat) (c : Env → Store → R Bool) (b : Env → Store → RS) : Env → Store → RS := fun en S => wLoop c b (f en S) en S
theorem ds_while (f : Env → Store → Nat) {c : Expr} {body : List Stmt} {mc : Env → Store → R Bool} {mb : Env → Store → RS} (hp : PassesOwn (model X.prog X.w) X.A X.env X.xe) (hc : DT G X W c mc) (hb : DB G X W body mb) : DS G X W (.While c body [] pos) (mWhile f mc mb) := by
  obtain ⟨t, p, q⟩ := hc
  obtain ⟨tb, pb, qb⟩ := hb
  refine ⟨_, ps_while hp p pb, fun io H S en σ D so re h => ?_⟩
  refine ⟨fun n σ H => ∃ io en S, StoreOk G io S H ∧ RelEnv G io H en σ ∧ OutS G io H (wxS G W) (poF G D) (wLoop mc mb n en S), ⟨f en S, io, en, S, so, re, h⟩, ?_⟩
  rintro n σ H ⟨io, en, S, so, re, h⟩
  cases n with
  | zero => exact h.elim
  | succ n =>
    unfold wLoop at h
    refine q io H S en σ _ so re (h.bind.imp (wx_of re) fun c S1 i1 H1 g1 s1 k1 => ?_)
    cases c with
    | false => exact k1 i1 H1 Grow.refl s1 _ (re.mono g1)
    | true =>
      rw [if_pos rfl] at k1
      refine iteT (B := D.nx σ H1) ⟨fun σ' H' => ∃ m', m' < n + 1 ∧ ∃ io en S, StoreOk G io S H' ∧ RelEnv G io H' en σ' ∧ OutS G io H' (wxS G W) (poF G D) (wLoop mc mb m' en S), fun σ' H' z => z, qb i1 H1 S1 en σ _ s1 (re.mono g1) ?_⟩
      cases em : mb en S1 with
      | stuck => rw [em] at k1; exact k1
      | err x e2 S2 => rw [em] at k1; exact k1
      | ok fl e2 S2 =>
        rw [em] at k1
        cases fl with
        | nx => exact fun i2 H2 g2 s2 σ2 re2 => ⟨n, Nat.lt_succ_self _, i2, e2, S2, s2, re2, OutS.from g2 k1⟩
        | ct => exact fun i2 H2 g2 s2 σ2 re2 => ⟨n, Nat.lt_succ_self _, i2, e2, S2, s2, re2, OutS.from g2 k1⟩
        | bk => exact k1
        | rt d => exact k1
/-! ### for -/
/-- an iterator over these items -/
structure JOk (G : Gv) (io0 : Io) (H0 : Hp) (J : It) (items : List Dt) : Prop where
  go : ∀ i io H, Base io0 H0 io H → i < items.length → J.go i H
  stop : ∀ i io H, Base io0 H0 io H → items.length ≤ i → J.stop i H
  yld : ∀ i io H x H', Base io0 H0 io H → (∀ a, H a = none → a ∉ io) → i < items.length → J.yld i H x H' → ExtH H H' ∧ ∃ d, items[i]? = some d ∧ RelD G io H' d x
def DI (G : Gv) (X : Cx) (W : WX) (tg it : Expr) (m : Env → Store → R (List Dt)) : Prop := ∃ wi, PI X tg it wi ∧ ∀ io H S en σ (Q : It → Hp → Prop), StoreOk G io S H → RelEnv G io H en σ →
  Out G io H (wxE G W σ) (fun items _ io' H' => ∀ J, JOk G io' H' J items → Q J H') (m en S) → wi σ H Q
def fLoop (tg : Dt → Env → Store → Option (Env × Store)) (b : Env → Store → RS) : List Dt → Env → Store → RS
  | [], en, S => .ok .nx en S
  | d :: ds, en, S => match tg d en S with
    | none => .stuck
    | some (e1, S1) => match b e1 S1 with
      | .ok .nx e2 S2 => fLoop tg b ds e2 S2
      | .ok .ct e2 S2 => fLoop tg b ds e2 S2
      | .ok .bk e2 S2 => .ok .nx e2 S2
      | r => r
def mFor (mi : Env → Store → R (List Dt)) (tg : Dt → Env → Store → Option (Env × Store)) (b : Env → Store → RS) : Env → Store → RS := fun en S => (mi en S).toS en fun items S1 => fLoop tg b items en S1
theorem ds_for {tg it : Expr} {body : List Stmt} {mi : Env → Store → R (List Dt)} {g : Dt → Env → Store → Option (Env × Store)} {mb : Env → Store → RS} (hp : PassesOwn (model X.prog X.w) X.A X.env X.xe) (hi : DI G X W tg it mi) (hg : DG G X tg g) (hb : DB G X W body mb)
    (hc : X.calm = true := by rfl) (hs : ∀ x, foldedSetIterable it X.env x = pure x := by intro _; rfl) : DS G X W (.For tg it body [] pos) (mFor mi g mb) := by
  obtain ⟨wi, pi, qi⟩ := hi
  obtain ⟨g', pg, qg⟩ := hg
  obtain ⟨tb, pb, qb⟩ := hb
  refine ⟨_, ps_for hp hc pi pg pb hs, fun io H S en σ D so re h => ?_⟩
  refine qi io H S en σ _ so re (h.bind.imp (wx_of re) fun items S1 i1 H1 g1 s1 k1 J jo => ?_)
  refine ⟨fun i m σ H => m = items.length - i ∧ i ≤ items.length ∧ ∃ io en S, Grow i1 H1 io H ∧ StoreOk G io S H ∧ RelEnv G io H en σ ∧ OutS G io H (wxS G W) (poF G D) (fLoop g mb (items.drop i) en S),
    ⟨_, rfl, Nat.zero_le _, i1, en, S1, Grow.refl, s1, re.mono g1, by simpa using k1⟩, ?_⟩
  rintro i m σ2 H2 ⟨rfl, hle, i2, e2, S2, g2, s2, re2, h2⟩
  by_cases hlt : i < items.length
  · refine .inr ⟨jo.go i i2 H2 g2.base hlt, fun σ' H' => ∃ m', m' < items.length - i ∧ m' = items.length - (i + 1) ∧ i + 1 ≤ items.length ∧ ∃ io en S, Grow i1 H1 io H' ∧ StoreOk G io S H' ∧ RelEnv G io H' en σ' ∧ OutS G io H' (wxS G W) (poF G D) (fLoop g mb (items.drop (i + 1)) en S),
      fun σ' H' z => z, fun x H3 hy => ?_⟩
    obtain ⟨ex, d, hd, rd⟩ := jo.yld i i2 H2 x H3 g2.base (fun _ z => s2.fresh z) hlt hy
    have g3 : Grow i2 H2 i2 H3 := ex.grow
    have s3 := s2.ext ex
    have edr : items.drop i = d :: items.drop (i + 1) := by
      rw [List.drop_eq_getElem_cons hlt]
      have := (List.getElem?_eq_some_iff.mp hd).2
      rw [this]
    rw [edr] at h2
    unfold fLoop at h2
    refine qg i2 H3 S2 e2 σ2 d x _ s3 (re2.mono g3) rd ?_
    split
    · rename_i e4 S4 em
      rw [em] at h2
      dsimp only at h2
      intro i4 H4 g4 s4 σ4 re4
      refine qb i4 H4 S4 e4 σ4 _ s4 re4 ?_
      have h4 := OutS.from (g3.trans g4) h2
      have gg := g2.trans (g3.trans g4)
      cases eb : mb e4 S4 with
      | stuck => rw [eb] at h4; exact h4
      | err x e2 S2 => rw [eb] at h4; exact h4
      | ok fl e5 S5 =>
        rw [eb] at h4
        cases fl with
        | nx => exact fun i5 H5 g5 s5 σ5 re5 => ⟨_, by omega, rfl, hlt, i5, e5, S5, gg.trans g5, s5, re5, OutS.from g5 h4⟩
        | ct => exact fun i5 H5 g5 s5 σ5 re5 => ⟨_, by omega, rfl, hlt, i5, e5, S5, gg.trans g5, s5, re5, OutS.from g5 h4⟩
        | bk => exact h4
        | rt d => exact h4
    · rename_i em
      rw [em] at h2
      exact h2.elim
  · have e : i = items.length := by omega
    subst e
    rw [List.drop_length] at h2
    exact .inl ⟨jo.stop _ i2 H2 g2.base (Nat.le_refl _), h2 i2 H2 Grow.refl s2 _ re2⟩
end
end Dv
set_option Elab.async false
set_option linter.all false
set_option maxRecDepth 100000
set_option maxHeartbeats 4000000
set_option autoImplicit false
namespace Dv
open PySem PySem.Spec PyProof.Rows L2
/-! ### leaving a def: what it made is by value from there on -/
def noRef : Nat → Dt → Bool
  | _, .non => true
  | _, .bl _ => true
  | _, .int _ => true
  | _, .str _ => true
  | _, .ty _ => true
  | _, .cls _ => true
  | k + 1, .tup ds => ds.all (noRef k)
  | k + 1, .lst ds => ds.all (noRef k)
  | k + 1, .fz ds => ds.all (noRef k)
  | k + 1, .ins _ _ ds => ds.all (noRef k)
  | k + 1, .dct _ ds => ds.all (noRef k)
  | _, .lam _ _ => true
  | _, _ => false
def mapO {α β : Type} (f : α → Option β) : List α → Option (List β)
  | [] => some []
  | d :: ds => match f d with
    | some x => (mapO f ds).map (x :: ·)
    | none => none
/-- the first n objects of the store stay; the others become values -/
def frz (n : Nat) (S : Store) : Nat → Dt → Option Dt
  | 0, d => if noRef 0 d = true then some d else none
  | k + 1, d => if noRef (k + 1) d = true then some d else match d with
    | .ref i => if i < n then some (.ref i) else match S[i]? with
      | some (.lst ds) => (mapO (frz n S k) ds).map .lst
      | some (.ins c ns ds) => (mapO (frz n S k) ds).map (.ins c ns)
      | some (.dct ks ds) => (mapO (frz n S k) ds).map (.dct ks)
      | some (.dkt _ _) => none
      | none => none
    | .tup ds => (mapO (frz n S k) ds).map .tup
    | .lst ds => (mapO (frz n S k) ds).map .lst
    | .ins c ns ds => (mapO (frz n S k) ds).map (.ins c ns)
    | .dct ks ds => (mapO (frz n S k) ds).map (.dct ks)
    | _ => none
theorem frz_pure {n : Nat} {S : Store} {k : Nat} {d : Dt} (h : noRef k d = true) : frz n S k d = some d := by
  cases k with
  | zero => exact if_pos h
  | succ k => exact if_pos h
def frzO (n : Nat) (S : Store) (k : Nat) : Ob → Option Ob
  | .lst ds => (mapO (frz n S k) ds).map .lst
  | .ins c ns ds => (mapO (frz n S k) ds).map (.ins c ns)
  | .dct ks ds => (mapO (frz n S k) ds).map (.dct ks)
  | .dkt ks ds => (mapO (frz n S k) ds).map (.dkt ks)
section
variable {G : Gv} {io : Io} {H : Hp} {S : Store}
theorem notin_take {n : Nat} {a : Addr} (h : a ∉ io) : a ∉ io.take n := fun z => h (z.imp List.mem_of_mem_take id)
theorem mapO_len {α β : Type} {f : α → Option β} : ∀ {ds : List α} {es : List β}, mapO f ds = some es → ds.length = es.length
  | [], _, h => by cases h; rfl
  | d :: ds, es, h => by
    unfold mapO at h
    split at h
    · cases e : mapO f ds with
      | none => rw [e] at h; cases h
      | some l =>
        rw [e] at h
        cases h
        rw [List.length_cons, List.length_cons, mapO_len e]
    · cases h
theorem noRef_rel {n : Nat} : ∀ (k : Nat) {d : Dt} {v : V}, noRef k d = true → RelD G io H d v → RelD G (io.take n) H d v := by
  intro k
  induction k with
  | zero =>
    intro d v h r
    cases r with
    | non => exact .non
    | bl b => exact .bl b
    | int i => exact .int i
    | str s => exact .str s
    | ty n => exact .ty n
    | cls hc => exact .cls hc
    | lam e a b => exact .lam e ⟨a.1, notin_take a.2.1, a.2.2⟩ ⟨b.1, notin_take b.2.1, b.2.2⟩
    | _ => simp [noRef] at h
  | succ k ih =>
    have all : ∀ {ds : List Dt} {vs : List V}, ds.all (noRef k) = true → RelDs G io H ds vs → RelDs G (io.take n) H ds vs := by
      intro ds
      induction ds with
      | nil =>
        intro vs _ r
        cases r
        exact .nil
      | cons d ds ih2 =>
        intro vs h r
        rw [List.all_cons, Bool.and_eq_true] at h
        cases r with
        | cons r1 r2 => exact .cons (ih h.1 r1) (ih2 h.2 r2)
    intro d v h r
    cases r with
    | non => exact .non
    | bl b => exact .bl b
    | int i => exact .int i
    | str s => exact .str s
    | ty n => exact .ty n
    | cls hc => exact .cls hc
    | tup e rs => exact .tup (e.imp (fun z => ⟨z.1, notin_take z.2⟩) id) (all (by simpa [noRef] using h) rs)
    | lst e n rs => exact .lst e (notin_take n) (all (by simpa [noRef] using h) rs)
    | fz e rs => exact .fz (e.imp (fun z => ⟨z.1, notin_take z.2⟩) id) (all (by simpa [noRef] using h) rs)
    | ins e n c l rs => exact .ins e (notin_take n) c l (all (by simpa [noRef] using h) rs)
    | dct e n l rs => exact .dct e (notin_take n) l (all (by simpa [noRef] using h) rs)
    | ref e => simp [noRef] at h
    | lam e a b => exact .lam e ⟨a.1, notin_take a.2.1, a.2.2⟩ ⟨b.1, notin_take b.2.1, b.2.2⟩
theorem mapO_rel {n : Nat} {f : Dt → Option Dt} (hf : ∀ {d d' : Dt} {v : V}, f d = some d' → RelD G io H d v → RelD G (io.take n) H d' v) : ∀ {ds es : List Dt} {vs : List V}, mapO f ds = some es → RelDs G io H ds vs → RelDs G (io.take n) H es vs
  | [], _, _, h, r => by
    cases h
    cases r
    exact .nil
  | d :: ds, es, _, h, r => by
    unfold mapO at h
    cases r with
    | cons r1 r2 =>
      split at h
      · rename_i x ex
        cases e : mapO f ds with
        | none => rw [e] at h; cases h
        | some l =>
          rw [e] at h
          cases h
          exact .cons (hf ex r1) (mapO_rel hf e r2)
      · cases h
theorem take_at {n i : Nat} {a : Addr} (h : io.l[i]? = some a) (hi : i < n) : (io.take n).l[i]? = some a := by
  show (io.l.take n)[i]? = some a
  rw [List.getElem?_take_of_lt hi]
  exact h
theorem take_not {n i : Nat} {a : Addr} (so : StoreOk G io S H) (h : io.l[i]? = some a) (hi : ¬ i < n) : a ∉ io.take n := fun z => by
  rcases z with z | z
  · obtain ⟨j, hj, e⟩ := List.getElem_of_mem z
    rw [List.length_take] at hj
    rw [List.getElem_take] at e
    obtain ⟨l1, e1⟩ := List.getElem?_eq_some_iff.mp h
    have := (List.getElem_inj so.nd).mp (e.trans e1.symm)
    omega
  · exact so.dis a (List.mem_of_getElem? h) z
theorem map_some {α β : Type} {f : α → β} {o : Option α} {b : β} (h : o.map f = some b) : ∃ a, o = some a ∧ b = f a := by
  cases o with
  | none => cases h
  | some a => cases h; exact ⟨a, rfl, rfl⟩
theorem frz_rel {n : Nat} (so : StoreOk G io S H) : ∀ (k : Nat) {d d' : Dt} {v : V}, frz n S k d = some d' → RelD G io H d v → RelD G (io.take n) H d' v := by
  intro k
  induction k with
  | zero =>
    intro d d' v h r
    unfold frz at h
    split at h
    · rename_i hn
      cases h
      exact noRef_rel 0 hn r
    · cases h
  | succ k ih =>
    intro d d' v h r
    unfold frz at h
    split at h
    · rename_i hn
      cases h
      exact noRef_rel (k + 1) hn r
    · split at h
      · cases r with
        | @ref a i e =>
          split at h
          · rename_i hi
            cases h
            exact .ref (take_at e hi)
          · rename_i hi
            have na := take_not so e hi
            split at h
            · rename_i ds hs
              obtain ⟨es, e1, rfl⟩ := map_some h
              have q := so.ob _ _ _ hs e
              cases q with
              | lst h1 h2 => exact .lst h1 na (mapO_rel ih e1 h2)
            · rename_i c ns ds hs
              obtain ⟨es, e1, rfl⟩ := map_some h
              have q := so.ob _ _ _ hs e
              cases q with
              | ins h1 h2 h3 h4 => exact .ins h1 na h2 (by rw [h3, mapO_len e1]) (mapO_rel ih e1 h4)
            · rename_i ks ds hs
              obtain ⟨es, e1, rfl⟩ := map_some h
              have q := so.ob _ _ _ hs e
              cases q with
              | dct h1 h2 h3 => exact .dct h1 na (by rw [h2, mapO_len e1]) (mapO_rel ih e1 h3)
            · cases h
            · cases h
      · obtain ⟨es, e1, rfl⟩ := map_some h
        cases r with
        | tup e rs => exact .tup (e.imp (fun z => ⟨z.1, notin_take z.2⟩) id) (mapO_rel ih e1 rs)
      · obtain ⟨es, e1, rfl⟩ := map_some h
        cases r with
        | lst e n rs => exact .lst e (notin_take n) (mapO_rel ih e1 rs)
      · obtain ⟨es, e1, rfl⟩ := map_some h
        cases r with
        | ins e n c l rs => exact .ins e (notin_take n) c (by rw [l, mapO_len e1]) (mapO_rel ih e1 rs)
      · obtain ⟨es, e1, rfl⟩ := map_some h
        cases r with
        | dct e n l rs => exact .dct e (notin_take n) (by rw [l, mapO_len e1]) (mapO_rel ih e1 rs)
      · cases h
theorem mapOb_at {f : Ob → Option Ob} : ∀ {S S' : Store} {i : Nat} {o : Ob}, mapO f S = some S' → S'[i]? = some o → ∃ o0, S[i]? = some o0 ∧ f o0 = some o
  | [], _, i, o, h, e => by
    cases h
    simp at e
  | x :: xs, S', i, o, h, e => by
    unfold mapO at h
    split at h
    · rename_i y ey
      cases em : mapO f xs with
      | none => rw [em] at h; cases h
      | some l =>
        rw [em] at h
        cases h
        cases i with
        | zero =>
          cases e
          exact ⟨x, rfl, ey⟩
        | succ i =>
          obtain ⟨o0, h1, h2⟩ := mapOb_at em (i := i) (by simpa using e)
          exact ⟨o0, by simpa using h1, h2⟩
    · cases h
def deepF : Nat := 12
def exitS (n : Nat) (S : Store) : Option Store := mapO (frzO n S deepF) (S.take n)
theorem exitS_ok {n : Nat} {S2 : Store} (so : StoreOk G io S H) (h : exitS n S = some S2) (hn : n ≤ S.length) : StoreOk G (io.take n) S2 H := by
  refine ⟨so.nd.sublist (List.take_sublist _ _), ?_, fun a ha => so.dis a (List.mem_of_mem_take ha), so.hid, fun i o a h1 h2 => ?_, so.tab⟩
  · rw [← mapO_len h, List.length_take, List.length_take, so.len]
  · obtain ⟨o0, e0, e1⟩ := mapOb_at h h1
    rw [List.getElem?_take] at e0 h2
    split at e0
    · rename_i hi
      rw [if_pos hi] at h2
      have q := so.ob i o0 a e0 h2
      cases o0 with
      | lst ds =>
        obtain ⟨es, m1, rfl⟩ := map_some e1
        cases q with
        | lst k1 k2 => exact .lst k1 (mapO_rel (frz_rel so deepF) m1 k2)
      | ins c ns ds =>
        obtain ⟨es, m1, rfl⟩ := map_some e1
        cases q with
        | ins k1 k2 k3 k4 => exact .ins k1 k2 (by rw [k3, mapO_len m1]) (mapO_rel (frz_rel so deepF) m1 k4)
      | dct ks ds =>
        obtain ⟨es, m1, rfl⟩ := map_some e1
        cases q with
        | dct k1 k2 k3 => exact .dct k1 (by rw [k2, mapO_len m1]) (mapO_rel (frz_rel so deepF) m1 k3)
      | dkt ks ds =>
        obtain ⟨es, m1, rfl⟩ := map_some e1
        cases q with
        | dkt k1 k2 k3 => exact .dkt k1 (by rw [k2, mapO_len m1]) (mapO_rel (frz_rel so deepF) m1 k3)
    · cases e0
end
/-! ### defs -/
abbrev Fn := List Dt → Store → R Dt
def fin (keep : Bool) (n : Nat) (d : Dt) (S : Store) : R Dt := if keep = true ∨ S.length = n then .ok d S else match frz n S deepF d, exitS n S with
  | some d', some S' => .ok d' S'
  | _, _ => .stuck
def finX (keep : Bool) (n : Nat) (x : Ex) (S : Store) : R Dt := if keep = true ∨ S.length = n then .err x S else match mapO (frz n S deepF) x.ds, exitS n S with
  | some ds, some S' => .err ⟨x.c, x.ns, ds⟩ S'
  | _, _ => .stuck
/-- a def by its body: keep says that what it made stays an object -/
def fnRun (nl : Nat) (keep : Bool) (body : Env → Store → RS) : Fn := fun ds S => match body (ds.map some ++ List.replicate (nl - ds.length) none) S with
  | .ok (.rt d) _ S' => fin keep S.length d S'
  | .ok .nx _ S' => fin keep S.length .non S'
  | .ok _ _ _ => .stuck
  | .err x _ S' => finX keep S.length x S'
  | .stuck => .stuck
def spF (G : Gv) (np : Nat) (m : Fn) : Sp := fun vs H Q E => ∃ io S ds, StoreOk G io S H ∧ RelDs G io H ds vs ∧ ds.length = np ∧ Out G io H (fun x io' H' => ∀ cls dx, RelX G io' H' x cls dx → E cls dx H') (poE G Q) (m ds S)
theorem grow_take {io io' : Io} {H H' : Hp} (g : Grow io H io' H') : io'.take io.l.length = io ∧ Grow io H io H' := by
  obtain ⟨t, rfl⟩ := g.pre
  exact ⟨by cases io; simp [Io.take], ⟨⟨[], by simp⟩, fun b o h n nt => g.keep b o h n nt, fun a h n => absurd h n⟩⟩
theorem fin_ok {G : Gv} {io io' : Io} {H H' : Hp} {S S' : Store} {keep : Bool} {d : Dt} {v : V} {wx : Ex → Io → Hp → Prop} {Q : VK} (so : StoreOk G io S H) (g : Grow io H io' H') (so' : StoreOk G io' S' H') (r : RelD G io' H' d v)
    (h : Out G io H wx (poE G Q) (fin keep S.length d S')) : Q v H' := by
  unfold fin at h
  split at h
  · exact h io' H' g so' v r
  · split at h
    · rename_i d' S2 e1 e2
      obtain ⟨t1, t2⟩ := grow_take g
      have hn : S.length ≤ S'.length := by
        obtain ⟨t, rfl⟩ := g.pre
        rw [so.len, so'.len, List.length_append]
        omega
      have q1 := frz_rel so' deepF e1 r
      have q2 := exitS_ok so' e2 hn
      rw [so.len, t1] at q1 q2
      exact h io H' t2 q2 v q1
    · exact h.elim
theorem finX_ok {G : Gv} {io io' : Io} {H H' : Hp} {S S' : Store} {keep : Bool} {x : Ex} {cls : Value} {dx : Option Addr} {Q : VK} {E : XK} (so : StoreOk G io S H) (g : Grow io H io' H') (so' : StoreOk G io' S' H') (r : RelX G io' H' x cls dx)
    (h : Out G io H (fun x io' H' => ∀ cls dx, RelX G io' H' x cls dx → E cls dx H') (poE G Q) (finX keep S.length x S')) : E cls dx H' := by
  unfold finX at h
  split at h
  · exact h io' H' g so' cls dx r
  · split at h
    · rename_i ds S2 e1 e2
      obtain ⟨t1, t2⟩ := grow_take g
      have hn : S.length ≤ S'.length := by
        obtain ⟨t, rfl⟩ := g.pre
        rw [so.len, so'.len, List.length_append]
        omega
      have q2 := exitS_ok so' e2 hn
      rw [so.len, t1] at q2
      refine h io H' t2 q2 cls dx ?_
      obtain ⟨C, a, vs, h1, h2, h3, h4, h5, h6, h7⟩ := r
      refine ⟨C, a, vs, h1, h2, h3, h4, ?_, by rw [h6, mapO_len e1], ?_⟩
      · rw [← t1]
        exact notin_take h5
      · have q := mapO_rel (n := S.length) (frz_rel so' deepF) e1 h7
        rw [so.len, t1] at q
        exact q
    · exact h.elim
section
variable {P : Program} {w : World} {K : PySem.W.Frag} {mg : Str → Option Value} {base : Heap} {G : Gv}
theorem rel_start {io : Io} {H : Hp} {N : List Str} {ds : List Dt} {vs : List V} (r : RelDs G io H ds vs) (hl : vs.length ≤ N.length) : RelEnv G io H (ds.map some ++ List.replicate (N.length - ds.length) none) (L2.start N vs) := by
  have l := r.length
  refine ⟨by unfold L2.start; simp [l], fun i d h => ?_⟩
  unfold L2.start
  by_cases hi : i < ds.length
  · rw [List.getElem?_append_left (by simpa using hi), List.getElem?_map] at h
    cases e : ds[i]? with
    | none => rw [e] at h; cases h
    | some x =>
      rw [e] at h
      cases h
      obtain ⟨v, h1, h2⟩ := r.get e
      refine ⟨v, ?_, h2⟩
      rw [List.getElem?_append_left (by rw [List.length_map, ← l]; exact hi), List.getElem?_map, h1]
      rfl
  · rw [List.getElem?_append_right (by simpa using hi), List.getElem?_replicate] at h
    split at h <;> cases h
/-- a def whose exceptions have no context -/
theorem okN {q qual : Str} {st : Stmt} {a : Addr} {fd : FuncData} {N ps : List Str} {k : Nat} {sp : Sp} (F : Fun K q qual st a fd) (S : FnScope N ps (defScope st)) (hl : ∀ vs H Q E, sp vs H Q E → vs.length = ps.length)
    (hb : ∀ (cdv : Value) (A : Around) (outer : List PySem.Env) (s : Shared) (H : Hp) (vs : List V) (Q : VK) (E : XK), Room k (A.deeper (envOfC qual (defScope st) s.heap.objs.size a cdv)) → sp vs H Q E →
      ∃ t, PSs (cxOf (L2N.CX P w) P w K mg base N qual (defScope st) a cdv A outer s H E) (defBody st) t ∧ t { nx := fun _ z => Q .non z, rt := Q } (start N vs) H) : FnOk P w K mg base (L2N.CX P w) (k + 1) a fd ps sp := by
  obtain ⟨_, _, _, _, _, _, c, _, _, e, h1, h2⟩ := F.ex
  subst e
  exact fn_of h1 h2 S hl fun A outer s H vs Q E room hs => hb c A outer s H vs Q E room hs
/-- THE RULE for a def -/
theorem fn_ok {x qual : Str} {st : Stmt} {f : Addr} {fd : FuncData} {N ps : List Str} {k : Nat} {m : Env → Store → RS} (keep : Bool) (F : Fun K x qual st f fd) (S : FnScope N ps (defScope st))
    (hbody : ∀ (cdv : Value) (A : Around) (outer : List PySem.Env) (s : Shared) (H : Hp) (E : XK), Room k (A.deeper (envOfC qual (defScope st) s.heap.objs.size f cdv)) →
      DB G (cxOf (L2N.CX P w) P w K mg base N qual (defScope st) f cdv A outer s H E) (fun cls d _ H => E cls d H) (defBody st) m) : FnOk P w K mg base (L2N.CX P w) (k + 1) f fd ps (spF G ps.length (fnRun N.length keep m)) := by
  refine okN F S (fun vs H Q E h => ?_) (fun cdv A outer s H vs Q E hr h => ?_)
  · obtain ⟨io, St, ds, so, r, hl, _⟩ := h
    rw [← r.length]
    exact hl
  · obtain ⟨io, St, ds, so, r, hl, ho⟩ := h
    obtain ⟨t, p, q⟩ := hbody cdv A outer s H E hr
    refine ⟨t, p, ?_⟩
    have hpl : ps.length ≤ N.length := by have := congrArg List.length S.pre; rw [List.length_take] at this; omega
    have lv := r.length
    refine q io H St _ _ _ so (rel_start r (by omega)) ?_
    unfold fnRun at ho
    cases em : m (ds.map some ++ List.replicate (N.length - ds.length) none) St with
    | stuck => rw [em] at ho; exact ho
    | err x e1 S1 =>
      rw [em] at ho
      exact fun io' H' g so' σ cls dx re rx => finX_ok so g so' rx ho
    | ok fl e1 S1 =>
      rw [em] at ho
      cases fl with
      | nx => exact fun io' H' g so' σ re => fin_ok so g so' .non ho
      | bk => exact ho.elim
      | ct => exact ho.elim
      | rt d => exact fun io' H' g so' v r => fin_ok so g so' r ho
theorem takes0N {X : Cx} : L2N.Takes X (fun _ _ _ _ => False) := fun _ _ ⟨_, _, _, _, _, _, _, _, _, _, _, _, _, _, _, _, no⟩ => no.elim
/-- no def is called deeper than its level -/
theorem fn_tk {qual : Str} {st : Stmt} {f : Addr} {N : List Str} {cdv : Value} {A : Around} {outer : List PySem.Env} {s : Shared} {H : Hp} {E : XK} : L2N.Takes (cxOf (L2N.CX P w) P w K mg base N qual (defScope st) f cdv A outer s H E) (fun cls d _ H => E cls d H) := L2N.takes_of rfl rfl rfl rfl
theorem fn_po {qual : Str} {st : Stmt} {f : Addr} {N : List Str} {cdv : Value} {A : Around} {outer : List PySem.Env} {s : Shared} {H : Hp} {E : XK} : PassesOwn (model P w) (cxOf (L2N.CX P w) P w K mg base N qual (defScope st) f cdv A outer s H E).A (cxOf (L2N.CX P w) P w K mg base N qual (defScope st) f cdv A outer s H E).env (cxOf (L2N.CX P w) P w K mg base N qual (defScope st) f cdv A outer s H E).xe := passes_of (X := cxOf (L2N.CX P w) P w K mg base N qual (defScope st) f cdv A outer s H E) rfl
end
/-- f(e, ..) -/
def mCall (np : Nat) (m : Fn) (ma : Env → Store → R (List Dt)) : Env → Store → R Dt := fun en S => (ma en S).bind fun ds S1 => if ds.length = np then m ds S1 else .stuck
section
variable {G : Gv} {X : Cx} {W : WX} {k np : Nat} {f : Addr} {fd : FuncData} {ps : List Str} {x : Str} {p pos : Pos} {e : Expr} {es : List Expr} {ma : Env → Store → R (List Dt)} {m : Fn}
theorem de_call (F : FnOk X.prog X.w X.K X.mg X.base (L2N.CX X.prog X.w) k f fd ps (spF G np m)) (hr : Room k X.A) (hm : X.mg x = some (.ref f)) (hk : PySem.W.keepIn X.K (.ref f) = true) (hb : Binds X.K fd ps []) (tk : L2N.Takes X W)
    (ha : DA G X W (e :: es) ma) (hg : Gl X x := by rfl) (hdb : (x == ("__debug__" : Str)) = false := by decide) (he : starEach (e :: es) X.env = (false, eval e X.env) :: starEach es X.env := by rfl) (hpl : (backTo pos (starEach es X.env)).any (·.1) = false := by rfl) :
    DE G X W (.Call (.Name x p) (e :: es) [] pos) (mCall np m ma) := by
  obtain ⟨t, pa, qa⟩ := ha
  refine ⟨_, pe_callS (E := WE W) F hr hg hm hk hb (fun σ => L2N.passAt tk σ) pa hdb he hpl, fun io H S en σ Q so re h => ?_⟩
  refine qa io H S en σ _ so re (h.bind.imp (fun _ _ _ _ z => z) fun ds S1 i1 H1 g1 s1 k1 vs r => ?_)
  split at k1
  · rename_i hl
    exact ⟨i1, S1, ds, s1, r, hl, k1⟩
  · exact k1.elim
end
end Dv
set_option Elab.async false
set_option linter.all false
set_option maxRecDepth 100000
set_option maxHeartbeats 4000000
set_option autoImplicit false
namespace Dv
open PySem PySem.Spec PyProof.Rows L2
/-! ### what is walked -/
theorem rel_sqL {G : Gv} {io i1 : Io} {H H1 : Hp} (g : Base io H i1 H1) {a : Addr} {vs : List V} (h : (Rd H a (.lst vs) ∧ a ∉ io) ∨ KLst G.K a vs) : SqL G.K H1 a vs := by
  rcases h with ⟨h, n⟩ | h
  · exact .inl (g.rd h n).1
  · exact .inr h
theorem jok_list {G : Gv} {io : Io} {H : Hp} {a : Addr} {ds : List Dt} {vs : List V} (h : (Rd H a (.lst vs) ∧ a ∉ io) ∨ KLst G.K a vs) (r : RelDs G io H ds vs) : JOk G io H (Itl G.K a) ds := by
  have l := r.length
  refine ⟨fun i i1 H1 g hi => ?_, fun i i1 H1 g hi => ?_, fun i i1 H1 x H' g _ hi hy => ?_⟩
  · exact ⟨vs, vs[i]'(by omega), rel_sqL g h, by simp [l ▸ hi]⟩
  · exact ⟨vs, rel_sqL g h, by omega⟩
  · obtain ⟨rfl, hx⟩ := hy
    have e := hx vs (rel_sqL g h)
    obtain ⟨v, e1, e2⟩ := r.get (i := i) (d := ds[i]'hi) (by simp [hi])
    rw [e] at e1
    cases e1
    exact ⟨fun _ _ z => z, _, by simp [hi], e2.monoB g⟩
theorem jok_tup {G : Gv} {io : Io} {H : Hp} {a : Addr} {ds : List Dt} {vs : List V} (h : (H a = some (.tup vs) ∧ a ∉ io) ∨ (KTup G.K a vs ∧ G.kt = true)) (r : RelDs G io H ds vs) : JOk G io H (Itt G.K a) ds := by
  have l := r.length
  have sq : ∀ {i1 : Io} {H1 : Hp}, Base io H i1 H1 → SqT G.K H1 a vs := fun g => by
    rcases h with ⟨h, n⟩ | h
    · exact .inl (.inl (g.keep _ _ h n).1)
    · exact .inr h.1
  refine ⟨fun i i1 H1 g hi => ?_, fun i i1 H1 g hi => ?_, fun i i1 H1 x H' g _ hi hy => ?_⟩
  · exact ⟨vs, vs[i]'(by omega), sq g, by simp [l ▸ hi]⟩
  · exact ⟨vs, sq g, by omega⟩
  · obtain ⟨rfl, hx⟩ := hy
    have e := hx vs (sq g)
    obtain ⟨v, e1, e2⟩ := r.get (i := i) (d := ds[i]'hi) (by simp [hi])
    rw [e] at e1
    cases e1
    exact ⟨fun _ _ z => z, _, by simp [hi], e2.monoB g⟩
theorem pi_or {X : Cx} {tg it : Expr} {w1 w2 : TI} (h1 : PI X tg it w1) (h2 : PI X tg it w2) : PI X tg it (fun σ H R => w1 σ H R ∨ w2 σ H R) :=
  ⟨fun pins s σ H R I h => h.elim (h1.run pins s σ H R I) (h2.run pins s σ H R I)⟩
def strs1 (s : Str) : List Dt := s.cps.toList.map fun c => .str ⟨#[c]⟩
/-- the items of a value that is walked -/
def itemsD (d : Dt) : Option (List Dt) := match d with
  | .lst ds => some ds
  | .fz ds => some ds
  | .tup ds => some ds
  | _ => none
def mIt (m : Env → Store → R Dt) : Env → Store → R (List Dt) := fun en S => (m en S).bind fun d S1 => match itemsD d with
  | some ds => .ok ds S1
  | none => .stuck
section
variable {G : Gv} {X : Cx} {W : WX} {tg e : Expr} {m : Env → Store → R Dt}
theorem di_seq (he : DE G X W e m) (hK : X.K = G.K := by rfl) : DI G X W tg e (mIt m) := by
  obtain ⟨t, p, q⟩ := he
  refine ⟨_, pi_or (pi_list p) (pi_tup p), fun io H S en σ Q so re h => ?_⟩
  cases em : m en S with
  | stuck =>
    unfold mIt at h
    rw [em] at h
    exact h.elim
  | err x S1 =>
    unfold mIt at h
    rw [em] at h
    exact .inl (q io H S en σ _ so re (by rw [em]; exact h))
  | ok d S1 =>
    unfold mIt at h
    rw [em] at h
    dsimp only [R.bind] at h
    split at h
    · rename_i ds hd
      unfold itemsD at hd
      split at hd
      · cases hd
        refine .inl (q io H S en σ _ so re ?_)
        rw [em]
        intro i1 H1 g1 s1 v r
        cases r with
        | lst e n rs =>
          refine ⟨_, rfl, ⟨_, .inl (.inl e)⟩, ?_⟩
          rw [hK]
          exact h i1 H1 g1 s1 _ (jok_list (.inl ⟨.inl e, n⟩) rs)
      · cases hd
        refine .inl (q io H S en σ _ so re ?_)
        rw [em]
        intro i1 H1 g1 s1 v r
        cases r with
        | fz e rs =>
          refine ⟨_, rfl, ⟨_, by rw [hK]; exact rel_sqL Grow.refl.base e⟩, ?_⟩
          rw [hK]
          exact h i1 H1 g1 s1 _ (jok_list e rs)
      · cases hd
        refine .inr (q io H S en σ _ so re ?_)
        rw [em]
        intro i1 H1 g1 s1 v r
        cases r with
        | @tup a _ vs e rs =>
          refine ⟨_, rfl, ⟨vs, ?_⟩, ?_⟩
          · rw [hK]
            rcases e with ⟨e, _⟩ | e
            · exact .inl (.inl e)
            · exact .inr e.1
          · rw [hK]
            exact h i1 H1 g1 s1 _ (jok_tup e rs)
      · cases hd
    · exact h.elim
/-- the signs of a text -/
def mItS (m : Env → Store → R Dt) : Env → Store → R (List Dt) := fun en S => (m en S).bind fun d S1 => match d with
  | .str s => .ok (strs1 s) S1
  | _ => .stuck
theorem di_str (he : DE G X W e m) : DI G X W tg e (mItS m) := by
  obtain ⟨t, p, q⟩ := he
  refine ⟨_, pi_str p, fun io H S en σ Q so re h => ?_⟩
  refine q io H S en σ _ so re (h.bind.imp (fun _ _ _ _ z => z) fun d S1 i1 H1 g1 s1 k1 v r => ?_)
  cases r with
  | str s =>
    refine ⟨s, rfl, k1 i1 H1 Grow.refl s1 _ ⟨fun i io H g hi => ?_, fun i io H g hi => ?_, fun i io H x H' g _ hi hy => ?_⟩⟩
    · simpa [Its, strs1] using hi
    · simpa [Its, strs1] using hi
    · obtain ⟨rfl, c, hc, rfl⟩ := hy
      refine ⟨fun _ _ z => z, .str ⟨#[c]⟩, ?_, .str _⟩
      unfold strs1
      rw [List.getElem?_map, Array.getElem?_toList, hc]
      rfl
  | _ => exact k1.elim
@[irreducible] def rngOk (i : Int) : Bool := decide (-(2 ^ 62) ≤ i ∧ i < 2 ^ 62)
theorem rng_iff {i : Int} : rngOk i = true ↔ -(2 ^ 62) ≤ i ∧ i < 2 ^ 62 := by
  unfold rngOk
  exact decide_eq_true_iff
theorem rng_ok {i : Int} (h0 : -4611686018427387904 ≤ i) (h1 : i < 4611686018427387904) : rngOk i = true := rng_iff.mpr ⟨by omega, by omega⟩
def rangeD (lo : Int) (n : Nat) : List Dt := (List.range n).map fun (k : Nat) => Dt.int (lo + (k : Int))
theorem jok_range {io : Io} {H : Hp} {lo : Int} {n : Nat} : JOk G io H (Itr lo n) (rangeD lo n) := by
  refine ⟨fun i io H g hi => ?_, fun i io H g hi => ?_, fun i io H x H' g _ hi hy => ?_⟩
  · simpa [Itr, rangeD] using hi
  · simpa [Itr, rangeD] using hi
  · obtain ⟨rfl, rfl⟩ := hy
    have hi' : i < n := by simpa [rangeD] using hi
    exact ⟨fun _ _ z => z, .int (lo + i), by simp [rangeD, hi'], .int _⟩
def mRng1 (m : Env → Store → R (List Dt)) : Env → Store → R (List Dt) := fun en S => (m en S).bind fun ds S1 => match ds with
  | [.int j] => if rngOk j = true then .ok (rangeD 0 j.toNat) S1 else .stuck
  | _ => .stuck
def mRng2 (m : Env → Store → R (List Dt)) : Env → Store → R (List Dt) := fun en S => (m en S).bind fun ds S1 => match ds with
  | [.int i, .int j] => if rngOk i = true ∧ rngOk j = true then .ok (rangeD i (j - i).toNat) S1 else .stuck
  | _ => .stuck
variable {a b : Expr} {ma : Env → Store → R (List Dt)} {p pos : Pos}
theorem di_range1 (hm : X.mg "range" = none) (ha : DA G X W [a] ma) (hg : Gl X "range" := by rfl) (hs : starEach [a] X.env = [(false, eval a X.env)] := by rfl) : DI G X W tg (.Call (.Name "range" p) [a] [] pos) (mRng1 ma) := by
  obtain ⟨t, pa, qa⟩ := ha
  refine ⟨_, pi_range1 hg hm pa hs, fun io H S en σ Q so re h => ?_⟩
  refine qa io H S en σ _ so re (h.bind.imp (fun _ _ _ _ z => z) fun ds S1 i1 H1 g1 s1 k1 vs r => ?_)
  split at k1
  · rename_i j
    split at k1
    · rename_i hj
      obtain ⟨h1, h2⟩ := rng_iff.mp hj
      cases r with
      | cons r1 r2 =>
        cases r1
        cases r2
        exact ⟨j, rfl, h1, h2, k1 i1 H1 Grow.refl s1 _ jok_range⟩
    · exact k1.elim
  · exact k1.elim
end
/-! ### comprehensions -/
def wipeE (e : Env) : List Nat → Env
  | [] => e
  | v :: vs => (wipeE e vs).set v none
theorem wipe_get (σ : L2.St) (vs : List Nat) (j : Nat) : (wipe σ vs)[j]? = if j ∈ vs then (if j < σ.length then some none else none) else σ[j]? := by
  induction vs with
  | nil => simp [wipe]
  | cons v vs ih =>
    unfold wipe
    by_cases hv : v = j
    · subst hv
      rw [if_pos (List.mem_cons_self)]
      by_cases hl : v < σ.length
      · rw [List.getElem?_set_self (by rw [wipe_length]; exact hl), if_pos hl]
      · rw [if_neg hl]
        apply List.getElem?_eq_none
        rw [List.length_set, wipe_length]
        omega
    · rw [List.getElem?_set_ne hv, ih]
      have : (j ∈ v :: vs) ↔ j ∈ vs := by
        rw [List.mem_cons]
        exact ⟨fun z => z.resolve_left (fun q => hv q.symm), .inr⟩
      simp only [this]
theorem wipeE_get (σ : Env) (vs : List Nat) (j : Nat) : (wipeE σ vs)[j]? = if j ∈ vs then (if j < σ.length then some none else none) else σ[j]? := by
  have len : ∀ vs : List Nat, (wipeE σ vs).length = σ.length := fun vs => by
    induction vs with
    | nil => rfl
    | cons v vs ih =>
      unfold wipeE
      rw [List.length_set, ih]
  induction vs with
  | nil => simp [wipeE]
  | cons v vs ih =>
    unfold wipeE
    by_cases hv : v = j
    · subst hv
      rw [if_pos (List.mem_cons_self)]
      by_cases hl : v < σ.length
      · rw [List.getElem?_set_self (by rw [len]; exact hl), if_pos hl]
      · rw [if_neg hl]
        apply List.getElem?_eq_none
        rw [List.length_set, len]
        omega
    · rw [List.getElem?_set_ne hv, ih]
      have : (j ∈ v :: vs) ↔ j ∈ vs := by
        rw [List.mem_cons]
        exact ⟨fun z => z.resolve_left (fun q => hv q.symm), .inr⟩
      simp only [this]
theorem rel_wipe {G : Gv} {io : Io} {H : Hp} {e : Env} {σ : L2.St} (r : RelEnv G io H e σ) (vs : List Nat) : RelEnv G io H (wipeE e vs) (wipe σ vs) := by
  have len : ∀ vs : List Nat, (wipeE e vs).length = e.length := fun vs => by
    induction vs with
    | nil => rfl
    | cons v vs ih =>
      unfold wipeE
      rw [List.length_set, ih]
  refine ⟨by rw [len, wipe_length]; exact r.len, fun i d h => ?_⟩
  rw [wipeE_get] at h
  rw [wipe_get]
  split at h
  · split at h <;> cases h
  · rename_i hi
    rw [if_neg hi]
    exact r.at_ i d h
/-- a target of names alone that sets these slots -/
def DGw (G : Gv) (X : Cx) (tg : Expr) (sl : List Nat) (m : Dt → Env → Option Env) : Prop := ∃ g, PG X tg g ∧ ∀ io H en σ d v (Q : L2.St → Hp → Prop), RelEnv G io H en σ → RelD G io H d v →
  (match m d en with
    | some e' => ∀ σ', RelEnv G io H e' σ' → σ'.length = σ.length → (∀ j : Nat, j ∉ sl → σ'[j]? = σ[j]?) → Q σ' H
    | none => False) → g v σ H Q
def wNm (i : Nat) : Dt → Env → Option Env := fun d e => some (e.set i (some d))
section
variable {G : Gv} {X : Cx} {pos : Pos}
theorem dgw_name {i : Nat} {x : Str} (hN : X.N.Nodup) (hi : X.N[i]? = some x) (hx : Loc X.env.scope x) (hf : X.fn x = true ∨ X.env.scope.names.lookup x = some .local := by first | exact .inl rfl | exact .inr rfl | assumption) : DGw G X (.Name x pos) [i] (wNm i) :=
  ⟨_, pg_name hN hi hx hf, fun io H en σ d v Q re r h => h _ (re.set r) (by simp) fun j hj => List.getElem?_set_ne (by simpa [eq_comm] using hj)⟩
end
/-- no error leaves a comprehension -/
def R.nx {α : Type} (r : R α) : R α := match r with
  | .ok a S => .ok a S
  | _ => .stuck
abbrev W0 : WX := fun _ _ _ _ => False
def cLoop (tg : Dt → Env → Option Env) (t : Env → Store → R Bool) (m : Env → Store → R Dt) (en : Env) : List Dt → List Dt → Store → R (List Dt)
  | [], acc, S => .ok acc S
  | d :: ds, acc, S => match tg d en with
    | none => .stuck
    | some e1 => (t e1 S).nx.bind fun b S1 => if b = true then (m e1 S1).nx.bind fun x S2 => if acc.length < 1000000 then cLoop tg t m en ds (acc ++ [x]) S2 else .stuck else cLoop tg t m en ds acc S1
def mYes : Env → Store → R Bool := fun _ S => .ok true S
/-- tests of a comprehension -/
def DTs (G : Gv) (X : Cx) (W : WX) (ts : List Expr) (m : Env → Store → R Bool) : Prop := ∃ t, PTs X ts t ∧ SimT G W t m
def mLc (sl : List Nat) (mi : Env → Store → R (List Dt)) (tg : Dt → Env → Option Env) (t : Env → Store → R Bool) (m : Env → Store → R Dt) : Env → Store → R Dt := fun en S => (mi en S).bind fun items S1 => (cLoop tg t m (wipeE en sl) items [] S1).bind fun ds S2 => .ok (.lst ds) S2
section
variable {G : Gv} {X : Cx} {W : WX}
theorem dts_nil : DTs G X W [] mYes := ⟨_, pts_nil, fun io H S e σ Q so re h => h io H Grow.refl so⟩
theorem dts_one {c : Expr} {m : Env → Store → R Bool} (h : DT G X W c m) : DTs G X W [c] m := let ⟨_, p, q⟩ := h; ⟨_, pts_one p, q⟩
theorem Out.nx {io : Io} {H : Hp} {α : Type} {wx wx' : Ex → Io → Hp → Prop} {post : α → Store → Io → Hp → Prop} {r : R α} (h : Out G io H wx post r.nx) : Out G io H wx' post r := by
  cases r with
  | ok a S => exact h
  | err x S => exact h.elim
  | stuck => exact h
/-- the base stays -/
theorem Out.bind0 {io : Io} {H : Hp} {α β : Type} {wx : Ex → Io → Hp → Prop} {post : β → Store → Io → Hp → Prop} {r : R α} {f : α → Store → R β} (h : Out G io H wx post (r.bind f)) :
    Out G io H wx (fun a S _ _ => Out G io H wx post (f a S)) r := by
  cases r with
  | ok a S => exact fun io' H' g s => h
  | err x S => exact h
  | stuck => exact h
theorem wipe_eq {σ σ' : L2.St} {sl own : List Nat} (hs : ∀ j ∈ sl, j ∈ own) (l : σ'.length = (wipe σ own).length) (u : ∀ j : Nat, j ∉ sl → σ'[j]? = (wipe σ own)[j]?) : wipe σ' own = wipe σ own := by
  apply List.ext_getElem?
  intro j
  rw [wipe_get, wipe_get]
  rw [wipe_length] at l
  by_cases hj : j ∈ own
  · rw [if_pos hj, if_pos hj, l]
  · rw [if_neg hj, if_neg hj, u j fun z => hj (hs j z), wipe_get, if_neg hj]
/-- one address more is let change -/
abbrev Io.hide (io : Io) (D : Addr) : Io := ⟨io.l, D :: io.h⟩
section
variable {io i1 : Io} {H H1 : Hp} {D : Addr}
theorem hide_mem {a : Addr} : a ∈ io.hide D ↔ a = D ∨ a ∈ io := by
  constructor
  · rintro (h | h)
    · exact .inr (.inl h)
    · rcases List.mem_cons.mp h with h | h
      · exact .inl h
      · exact .inr (.inr h)
  · rintro (h | h)
    · exact .inr (List.mem_cons.mpr (.inl h))
    · rcases h with h | h
      · exact .inl h
      · exact .inr (List.mem_cons.mpr (.inr h))
mutual
theorem RelD.unhide : ∀ {d : Dt} {v : V}, RelD G (io.hide D) H d v → RelD G io H d v
  | _, _, .non => .non
  | _, _, .bl b => .bl b
  | _, _, .int i => .int i
  | _, _, .str s => .str s
  | _, _, .ty n => .ty n
  | _, _, .cls h => .cls h
  | _, _, .tup h r => .tup (h.imp (fun z => ⟨z.1, fun q => z.2 (hide_mem.mpr (.inr q))⟩) id) (RelDs.unhide r)
  | _, _, .lst h n r => .lst h (fun q => n (hide_mem.mpr (.inr q))) (RelDs.unhide r)
  | _, _, .fz h r => .fz (h.imp (fun z => ⟨z.1, fun q => z.2 (hide_mem.mpr (.inr q))⟩) id) (RelDs.unhide r)
  | _, _, .ins h n c l r => .ins h (fun q => n (hide_mem.mpr (.inr q))) c l (RelDs.unhide r)
  | _, _, .dct h n l r => .dct h (fun q => n (hide_mem.mpr (.inr q))) l (RelDs.unhide r)
  | _, _, .ref h => .ref h
  | _, _, .lam h a b => .lam h ⟨a.1, fun q => a.2.1 (hide_mem.mpr (.inr q)), a.2.2⟩ ⟨b.1, fun q => b.2.1 (hide_mem.mpr (.inr q)), b.2.2⟩
theorem RelDs.unhide : ∀ {ds : List Dt} {vs : List V}, RelDs G (io.hide D) H ds vs → RelDs G io H ds vs
  | _, _, .nil => .nil
  | _, _, .cons h r => .cons (RelD.unhide h) (RelDs.unhide r)
end
theorem base_hid {o : HO} : Base (io.hide D) H (io.hide D) (upd H D o) := by
  refine ⟨fun _ _ h => h, fun b u h n _ => ⟨?_, n⟩⟩
  rw [upd_ne fun z => n (hide_mem.mpr (.inl z))]
  exact h
mutual
theorem RelD.hide (hD : H D = none) : ∀ {d : Dt} {v : V}, RelD G io H d v → RelD G (io.hide D) H d v
  | _, _, .non => .non
  | _, _, .bl b => .bl b
  | _, _, .int i => .int i
  | _, _, .str s => .str s
  | _, _, .ty n => .ty n
  | _, _, .cls h => .cls h
  | _, _, .tup h r => .tup (h.imp (fun z => ⟨z.1, fun q => (hide_mem.mp q).elim (fun e => ne_of_none z.1 hD e) z.2⟩) id) (RelDs.hide hD r)
  | _, _, .lst h n r => .lst h (fun q => (hide_mem.mp q).elim (fun e => ne_of_none h hD e) n) (RelDs.hide hD r)
  | _, _, .fz h r => .fz (h.imp (fun z => ⟨z.1, fun q => (hide_mem.mp q).elim (fun e => z.1.elim (fun k => ne_of_none k hD e) fun ⟨_, k⟩ => ne_of_none k hD e) z.2⟩) id) (RelDs.hide hD r)
  | _, _, .ins h n c l r => .ins h (fun q => (hide_mem.mp q).elim (fun e => ne_of_none h hD e) n) c l (RelDs.hide hD r)
  | _, _, .dct h n l r => .dct h (fun q => (hide_mem.mp q).elim (fun e => ne_of_none h hD e) n) l (RelDs.hide hD r)
  | _, _, .ref h => .ref h
  | _, _, .lam h a b => .lam h ⟨a.1, fun q => (hide_mem.mp q).elim (fun e => ne_of_none a.1 hD e) a.2.1, a.2.2⟩ ⟨b.1, fun q => (hide_mem.mp q).elim (fun e => ne_of_none b.1 hD e) b.2.1, b.2.2⟩
theorem RelDs.hide (hD : H D = none) : ∀ {ds : List Dt} {vs : List V}, RelDs G io H ds vs → RelDs G (io.hide D) H ds vs
  | _, _, .nil => .nil
  | _, _, .cons h r => .cons (RelD.hide hD h) (RelDs.hide hD r)
end
theorem RelO.hide (hD : H D = none) {o : Ob} {a : Addr} (r : RelO G io H o a) : RelO G (io.hide D) H o a := by
  cases r with
  | lst h k => exact .lst h (k.hide hD)
  | ins h c l k => exact .ins h c l (k.hide hD)
  | dct h l k => exact .dct h l (k.hide hD)
  | dkt h l k => exact .dkt h l (k.hide hD)
theorem RelO.unhide {o : Ob} {a : Addr} (r : RelO G (io.hide D) H o a) : RelO G io H o a := by
  cases r with
  | lst h k => exact .lst h k.unhide
  | ins h c l k => exact .ins h c l k.unhide
  | dct h l k => exact .dct h l k.unhide
  | dkt h l k => exact .dkt h l k.unhide
/-- a new list that is being made -/
theorem so_hide {S : Store} (so : StoreOk G io S H) (hD : H D = none) {o : HO} (nt : NoTx o := by exact ⟨(fun _ e => by cases e), (fun _ e => by cases e)⟩) : StoreOk G (io.hide D) S (upd H D o) := by
  have e := ExtH.new (o := o) hD
  refine ⟨so.nd, so.len, fun a ha hh => ?_, fun a ha => ?_, fun i ob a h1 h2 => ((so.ob i ob a h1 h2).hide hD).ext e, tabs_upd so.tab (pl_none hD)⟩
  · rcases List.mem_cons.mp hh with z | z
    · rw [z] at ha
      exact so.fresh hD (.inl ha)
    · exact so.dis a ha z
  · rcases List.mem_cons.mp ha with z | z
    · rw [z]
      exact ⟨o, upd_same, nt⟩
    · obtain ⟨u, q, nt⟩ := so.hid a z
      exact ⟨u, e _ _ q, nt⟩
theorem so_unhide {S : Store} (so : StoreOk G (io.hide D) S H) : StoreOk G io S H :=
  ⟨so.nd, so.len, fun a ha hh => so.dis a ha (List.mem_cons_of_mem _ hh), fun a ha => so.hid a (List.mem_cons_of_mem _ ha), fun i ob a h1 h2 => (so.ob i ob a h1 h2).unhide, so.tab⟩
/-- the hidden list grows -/
theorem so_hid {S : Store} (so : StoreOk G (io.hide D) S H) {o : HO} (hp : ∀ o, H D = some o → PlainO o := by exact pl_some (by assumption)) (nt : NoTx o := by exact ⟨(fun _ e => by cases e), (fun _ e => by cases e)⟩) : StoreOk G (io.hide D) S (upd H D o) := by
  refine ⟨so.nd, so.len, so.dis, fun a ha => ?_, fun i ob a h1 h2 => ?_, tabs_upd so.tab hp⟩
  · by_cases z : a = D
    · rw [z]
      exact ⟨o, upd_same, nt⟩
    · rw [upd_ne z]
      exact so.hid a ha
  · have na : a ≠ D := fun z => so.dis a (List.mem_of_getElem? h2) (by rw [z]; exact List.mem_cons_self)
    have q := so.ob i ob a h1 h2
    cases q with
    | lst k1 k2 => exact .lst (by rw [upd_ne na]; exact k1) (k2.monoB base_hid)
    | ins k1 c l k2 => exact .ins (by rw [upd_ne na]; exact k1) c l (k2.monoB base_hid)
    | dct k1 l k2 => exact .dct (by rw [upd_ne na]; exact k1) l (k2.monoB base_hid)
    | dkt k1 l k2 => exact .dkt (by rw [upd_ne na]; exact k1) l (k2.monoB base_hid)
theorem grow_un (g : Grow (io.hide D) H (i1.hide D) H1) : Grow io H i1 H1 := by
  obtain ⟨t, e⟩ := g.pre
  have e1 : i1.l = io.l ++ t := congrArg Io.l e
  have e2 : i1.h = io.h := (List.cons.inj (congrArg Io.h e)).2
  exact ⟨⟨t, by cases i1; simp only at e1 e2; subst e1 e2; rfl⟩, fun b o h n nt => g.keep b o h n nt, g.new⟩
end
/-- a state with a hidden list D is one of io.hide D: how the two ends fit -/
theorem io_hide {io i1 : Io} {H H1 : Hp} {D : Addr} (g : Grow (io.hide D) H i1 H1) : ∃ i2 : Io, i1 = i2.hide D := by
  obtain ⟨t, e⟩ := g.pre
  exact ⟨⟨io.l ++ t, io.h⟩, e⟩
/-- the reading of a comprehension, from the iterator on -/
theorem lc_sim {J : It} {g : TG} {tt : TT} {te : TE} {own sl : List Nat} {io : Io} {H : Hp} {S : Store} {en : Env} {σ : L2.St} {items : List Dt} {mg : Dt → Env → Option Env} {mt : Env → Store → R Bool} {m : Env → Store → R Dt} {wx : Ex → Io → Hp → Prop} {post : List Dt → Store → Io → Hp → Prop} {D : Addr}
    (hs : ∀ j ∈ sl, j ∈ own) (jo : JOk G io H J items) (so : StoreOk G io S H) (re : RelEnv G io H en σ)
    (hg : ∀ io H en σ d v (Q : L2.St → Hp → Prop), RelEnv G io H en σ → RelD G io H d v → (match mg d en with
      | some e' => ∀ σ', RelEnv G io H e' σ' → σ'.length = σ.length → (∀ j : Nat, j ∉ sl → σ'[j]? = σ[j]?) → Q σ' H
      | none => False) → g v σ H Q) (ht : SimT G W0 tt mt) (hm : SimE G W0 te m) (hD : H D = none)
    (h : Out G io H wx post (cLoop mg mt m (wipeE en own) items [] S)) (Rf : V → Hp → Prop)
    (hq : ∀ ds acc S' (io' : Io) H', Grow io H io' H' → StoreOk G (io'.hide D) S' H' → H' D = some (.lst acc) → RelDs G (io'.hide D) H' ds acc → post ds S' io' H' → Rf (.ref D) H') :
    ∃ W : Nat → Nat → Hp → Prop, (∃ m, W 0 m (upd H D (.lst []))) ∧ ∀ i m H, W i m H →
      (J.stop i H ∧ Rf (.ref D) H) ∨ (J.go i H ∧ ∃ Nx : Hp → Prop, (∀ H', Nx H' → ∃ m', m' < m ∧ W (i + 1) m' H') ∧ ∀ x H', J.yld i H x H' → g x (wipe σ own) H' fun σ2 H2 => wipe σ2 own = wipe σ own ∧ tt σ2 H2 fun b H3 =>
        if b = true then te σ2 H3 fun y H4 => ∃ acc, H4 D = some (.lst acc) ∧ acc.length < sizeLine ∧ Nx (upd H4 D (.lst (acc ++ [y]))) else Nx H3) := by
  let Wp : Nat → Nat → Hp → Prop := fun i n H' => n = items.length - i ∧ i ≤ items.length ∧ ∃ (io' : Io) (S' : Store) (dacc : List Dt) (acc : List V), Grow io H io' H' ∧ StoreOk G (io'.hide D) S' H' ∧ H' D = some (.lst acc) ∧ RelDs G (io'.hide D) H' dacc acc ∧ Out G io H wx post (cLoop mg mt m (wipeE en own) (items.drop i) dacc S')
  have gup : ∀ {i1 : Io} {H1 : Hp} {o : HO}, Grow io H i1 H1 → Grow io H i1 (upd H1 D o) := fun {i1 H1 o} g => ⟨g.pre, fun b u hb nb nt => by
    rw [upd_ne (ne_of_none hb hD)]
    exact g.keep b u hb nb nt, g.new⟩
  have base : ∀ {i1 : Io} {H1 : Hp}, Grow io H i1 H1 → Base io H (i1.hide D) H1 := fun {i1 H1} g => ⟨fun j a e => g.at e, fun b o hb nb nt => ⟨g.kp hb nb nt, fun z => (hide_mem.mp z).elim (ne_of_none hb hD) (g.notin hb nb nt)⟩⟩
  refine ⟨Wp, ⟨items.length, rfl, Nat.zero_le _, io, S, [], [], gup Grow.refl, so_hide so hD, upd_same, .nil, by simpa using h⟩, ?_⟩
  rintro i n H2 ⟨rfl, hle, i2, S2, dacc, acc, gu, s2, hD2, ra, h2⟩
  by_cases hlt : i < items.length
  · refine .inr ⟨jo.go i _ H2 (base gu) hlt, fun H' => Wp (i + 1) (items.length - (i + 1)) H', fun H' z => ⟨_, by omega, z⟩, fun x H3 hy => ?_⟩
    obtain ⟨ex, d, hd, rd⟩ := jo.yld i _ H2 x H3 (base gu) (fun _ z => s2.fresh z) hlt hy
    have g3 : Grow (i2.hide D) H2 (i2.hide D) H3 := ex.grow
    have s3 := s2.ext ex
    have edr : items.drop i = d :: items.drop (i + 1) := by
      rw [List.drop_eq_getElem_cons hlt]
      have := (List.getElem?_eq_some_iff.mp hd).2
      rw [this]
    rw [edr] at h2
    unfold cLoop at h2
    have gu3 : Grow io H i2 H3 := gu.trans (grow_un g3)
    have re3 : RelEnv G (i2.hide D) H3 en σ := ⟨re.len, fun j d e => let ⟨v, h1, h2⟩ := re.at_ j d e; ⟨v, h1, h2.monoB (base gu3)⟩⟩
    refine hg _ H3 (wipeE en own) (wipe σ own) d x _ (rel_wipe re3 own) rd ?_
    cases em : mg d (wipeE en own) with
    | none =>
      rw [em] at h2
      exact h2
    | some e1 =>
      rw [em] at h2
      intro σ2 rσ l2 u2
      refine ⟨wipe_eq hs l2 u2, ?_⟩
      -- an end wished at the base, asked with D hidden
      have lift : ∀ {α : Type} {wx : Ex → Io → Hp → Prop} {post : α → Store → Io → Hp → Prop} {r : R α} {i4 : Io} {H4 : Hp}, Grow io H i4 H4 → Out G io H wx post r.nx → Out G (i4.hide D) H4 (fun _ _ _ => False) (fun a S i5' H5 => ∀ i5 : Io, i5' = i5.hide D → Grow i4 H4 i5 H5 → post a S i5 H5) r := by
        intro α wx post r i4 H4 g4 h
        cases r with
        | ok a S =>
          intro i5' H5 g5 s5 i5 e g5'
          subst e
          exact h i5 H5 (g4.trans g5') (so_unhide s5)
        | err x S => exact h.elim
        | stuck => exact h
      refine ht _ H3 S2 e1 σ2 _ s3 rσ ((lift gu3 h2.bind0).imp (fun _ _ _ _ z => z.elim) fun b S4 i4' H4 g4 s4 k4 => ?_)
      obtain ⟨i4, rfl⟩ := io_hide g4
      have g4' := grow_un g4
      have k4 := k4 i4 rfl g4'
      have hD4 : H4 D = some (.lst acc) := g4.keep _ _ (ex _ _ hD2) fun z => s2.dis D z List.mem_cons_self
      cases b with
      | false => exact ⟨rfl, hlt, i4, S4, dacc, acc, gu3.trans g4', s4, hD4, (ra.mono g3).mono g4, k4⟩
      | true =>
        rw [if_pos rfl] at k4
        refine iteT (B := Wp (i + 1) (items.length - (i + 1)) H4) ?_
        refine hm _ H4 S4 e1 σ2 _ s4 (rσ.mono g4) ((lift (gu3.trans g4') k4.bind0).imp (fun _ _ _ _ z => z.elim) fun y S5 i5' H5 g5 s5 k5 v rv => ?_)
        obtain ⟨i5, rfl⟩ := io_hide g5
        have g5' := grow_un g5
        have k5 := k5 i5 rfl g5'
        have hD5 : H5 D = some (.lst acc) := g5.keep _ _ hD4 fun z => s4.dis D z List.mem_cons_self
        have ra5 := ((ra.mono g3).mono g4).mono g5
        split at k5
        · rename_i hl
          have la := ra.length
          exact ⟨acc, hD5, Nat.lt_of_lt_of_le (by rw [← la]; exact hl) (by decide), rfl, hlt, i5, S5, dacc ++ [y], acc ++ [v], gup ((gu3.trans g4').trans g5'), so_hid s5, upd_same, (ra5.append (.cons rv .nil)).monoB base_hid, k5⟩
        · exact k5.elim
  · have e : i = items.length := by omega
    subst e
    rw [List.drop_length] at h2
    exact .inl ⟨jo.stop _ _ H2 (base gu) (Nat.le_refl _), hq dacc acc S2 i2 H2 gu s2 hD2 ra (h2 i2 H2 gu (so_unhide s2))⟩
variable {elt tg iter : Expr} {ifs : List Expr} {scope : Scope} {own : List (Str × Nat)} {sl : List Nat} {pos : Pos} {mi : Env → Store → R (List Dt)} {mg : Dt → Env → Option Env} {mt : Env → Store → R Bool} {m : Env → Store → R Dt}
/-! the readings that a function's result gives -/
def cE (G : Gv) (W : WX) (m : Env → Store → R Dt) : TE := fun σ H Q => ∃ io S en, StoreOk G io S H ∧ RelEnv G io H en σ ∧ Out G io H (wxE G W σ) (poE G Q) (m en S)
def cT (G : Gv) (W : WX) (m : Env → Store → R Bool) : TT := fun σ H Q => ∃ io S en, StoreOk G io S H ∧ RelEnv G io H en σ ∧ Out G io H (wxE G W σ) (poT Q) (m en S)
def cGw (G : Gv) (sl : List Nat) (m : Dt → Env → Option Env) : TG := fun v σ H Q => ∃ io en d, RelEnv G io H en σ ∧ RelD G io H d v ∧ (match m d en with
    | some e' => ∀ σ', RelEnv G io H e' σ' → σ'.length = σ.length → (∀ j : Nat, j ∉ sl → σ'[j]? = σ[j]?) → Q σ' H
    | none => False)
theorem can_e {e : Expr} (h : DE G X W e m) : PE X e (cE G W m) := by
  obtain ⟨t, p, q⟩ := h
  exact ⟨fun pins s σ H Q I ⟨io, S, en, so, re, h⟩ => p.run pins s σ H Q I (q io H S en σ Q so re h)⟩
theorem can_t {ts : List Expr} (h : DTs G X W ts mt) : PTs X ts (cT G W mt) := by
  obtain ⟨t, p, q⟩ := h
  exact ⟨fun pins s σ H Q I ⟨io, S, en, so, re, h⟩ => p.run pins s σ H Q I (q io H S en σ Q so re h)⟩
theorem can_g (h : DGw G X tg sl mg) : PG X tg (cGw G sl mg) := by
  obtain ⟨t, p, q⟩ := h
  exact ⟨fun pins s σ H v u Q I r ⟨io, en, d, re, rd, h⟩ => p.run pins s σ H v u Q I r (q io H en σ d v Q re rd h)⟩
/-- [e for x in xs if t], by value -/
theorem de_lc (own : List (Str × Nat)) (hN : X.N.Nodup) (hi : DI G X W tg iter mi) (ok : BlkOk X.N X.env.scope scope own)
    (hg : ∀ (s : Shared) (H : Hp) (C : Addr) (cl : List (Str × Addr)) (fp : List Addr), DGw G (X.blk s H scope (compEnvC scope cl C X.env) fp) tg sl mg)
    (ht : ∀ (s : Shared) (H : Hp) (C : Addr) (cl : List (Str × Addr)) (fp : List Addr), DTs G (X.blk s H scope (compEnvC scope cl C X.env) fp) W0 ifs mt)
    (he : ∀ (s : Shared) (H : Hp) (C : Addr) (cl : List (Str × Addr)) (fp : List Addr), DE G (X.blk s H scope (compEnvC scope cl C X.env) fp) W0 elt m)
    (hsl : ∀ j ∈ sl, j ∈ own.map (·.2) := by decide) (hc : X.calm = true := by rfl) (hs : ∀ x, foldedSetIterable iter X.env x = pure x := by intro _; rfl) :
    DE G X W (.ListComp elt [⟨tg, iter, ifs, 0⟩] scope pos) (mLc (own.map (·.2)) mi mg mt m) := by
  obtain ⟨wi, pi, qi⟩ := hi
  refine ⟨_, pe_lc hc hN pi ok (fun s H C cl fp => can_g (hg s H C cl fp)) (fun s H C cl fp => can_t (ht s H C cl fp)) (fun s H C cl fp => can_e (he s H C cl fp)) hs, fun io H S en σ Q so re h => ?_⟩
  refine qi io H S en σ _ so re (h.bind.imp (fun _ _ _ _ z => z) fun items S1 i1 H1 g1 s1 k1 J jo => ?_)
  intro D hD
  refine lc_sim hsl jo s1 (re.mono g1) (fun io H en σ d v Q re rd h => ⟨io, en, d, re, rd, h⟩) (fun io H S e σ Q so re h => ⟨io, S, e, so, re, h⟩) (fun io H S e σ Q so re h => ⟨io, S, e, so, re, h⟩) hD k1.bind (fun v H => Q v H) ?_
  intro ds acc S' io' H' g' s' hD' rs post
  refine post io' H' Grow.refl (so_unhide s') (.ref D) (.lst hD' (fun z => ?_) rs.unhide)
  rcases z with z | z
  · exact s'.dis D z List.mem_cons_self
  · obtain ⟨t, rfl⟩ := g'.pre
    obtain ⟨u, e, _⟩ := s1.hid D z
    rw [hD] at e
    cases e
end
end Dv
set_option Elab.async false
set_option linter.all false
set_option maxRecDepth 100000
set_option maxHeartbeats 4000000
set_option autoImplicit false
namespace Dv
open PySem PySem.Spec PyProof.Rows L2
/-! ### o[i] = v of a list of the store -/
def setIx (S : Store) (x y v : Dt) : Option Store := match x, y with
  | .ref k, .int j => match S[k]? with
    | some (.lst ds) => (ixN ds.length j).map fun n => S.set k (.lst (ds.set n v))
    | _ => none
  | _, _ => none
def gSubD (mo mi : Env → Store → R Dt) : Dt → Env → Store → Option (Env × Store) := fun d en S => match mo en S with
  | .ok x S1 => match mi en S1 with
    | .ok y S2 => (setIx S2 x y d).map fun S3 => (en, S3)
    | _ => none
  | _ => none
section
variable {G : Gv} {X : Cx} {W : WX}
theorem setIx_ok {io : Io} {H : Hp} {S S' : Store} {x y d : Dt} {vx vy v : V} (so : StoreOk G io S H) (rx : RelD G io H x vx) (ry : RelD G io H y vy) (rd : RelD G io H d v) (h : setIx S x y d = some S') :
    ∃ p xs k j, vx = .ref p ∧ vy = .int k ∧ H p = some (.lst xs) ∧ ixN xs.length k = some j ∧ Grow io H io (upd H p (.lst (xs.set j v))) ∧ StoreOk G io S' (upd H p (.lst (xs.set j v))) := by
  unfold setIx at h
  split at h
  · rename_i k j
    split at h
    · rename_i ds hs
      obtain ⟨n, hn, rfl⟩ := map_some h
      cases rx with
      | ref e =>
        cases ry
        obtain ⟨a, h1, h2⟩ := so.at_ hs
        rw [e] at h1
        cases h1
        cases h2 with
        | lst h3 h4 =>
          have l := h4.length
          have g0 := (so.write (u := .lst (List.set _ n v)) e (.lst upd_same ((RelDs.set n rd h4).monoB ⟨fun _ _ z => z, fun b o hb nb _ => ⟨by
            rw [upd_ne fun z => nb (by rw [z]; exact .inl (List.mem_of_getElem? e))]
            exact hb, nb⟩⟩)))
          exact ⟨_, _, j, n, rfl, rfl, h3, by rw [← l]; exact hn, g0.1, g0.2⟩
    · cases h
  · cases h
theorem dg_sub {o i : Expr} {mo mi : Env → Store → R Dt} {pos : Pos} (ho : DE G X W0 o mo) (hi : DE G X W0 i mi)
    (ha : ∀ v, assign (.Subscript o i pos) X.env v = (do
      let ov ← holding [v] (eval o X.env)
      let iv ← holding [v, ov] (eval i X.env)
      standAt pos
      holding [v, ov, iv] (setItem ov iv v)
      release [v, ov, iv] []) := by intro _; rfl) : DG G X (.Subscript o i pos) (gSubD mo mi) := by
  obtain ⟨t, p, q⟩ := ho
  obtain ⟨t', p', q'⟩ := hi
  refine ⟨_, pg_sub p p' set_list ha, fun io H S en σ d v Q so re r h => ?_⟩
  unfold gSubD at h
  refine q io H S en σ _ so re ?_
  cases eo : mo en S with
  | stuck => simp [eo] at h
  | err x S1 => simp [eo] at h
  | ok x S1 =>
    simp only [eo] at h
    intro i1 H1 g1 s1 vx rx
    refine q' i1 H1 S1 en σ _ s1 (re.mono g1) ?_
    cases ei : mi en S1 with
    | stuck => simp [ei] at h
    | err x S1 => simp [ei] at h
    | ok y S2 =>
      simp only [ei] at h
      intro i2 H2 g2 s2 vy ry
      cases es : setIx S2 x y d with
      | none => simp [es] at h
      | some S3 =>
        simp only [es, Option.map_some] at h
        obtain ⟨p, xs, k, j, h1, h2, h3, h4, g3, s3⟩ := setIx_ok s2 (rx.mono g2) ry (r.mono (g1.trans g2)) es
        exact ⟨p, xs, k, j, h1, h2, h3, h4, h i2 _ ((g1.trans g2).trans g3) s3 σ (re.mono ((g1.trans g2).trans g3))⟩
/-! ### methods of a list of the store -/
def mApp (S : Store) (x d : Dt) : R Dt := match x with
  | .ref k => match S[k]? with
    | some (.lst ds) => if ds.length < 1000000 then .ok .non (S.set k (.lst (ds ++ [d]))) else .stuck
    | _ => .stuck
  | _ => .stuck
def isLstR (S : Store) (x : Dt) : Bool := match x with
  | .ref k => match S[k]? with
    | some (.lst _) => true
    | _ => false
  | _ => false
def mApp1 (mo me : Env → Store → R Dt) : Env → Store → R Dt := fun en S => (mo en S).bind fun x S1 => if isLstR S1 x = true then (me en S1).bind fun d S2 => mApp S2 x d else .stuck
variable {o e : Expr} {mo me : Env → Store → R Dt} {apos cpos : Pos}
theorem isLstR_ok {io : Io} {H : Hp} {S : Store} {x : Dt} {v : V} (so : StoreOk G io S H) (r : RelD G io H x v) (h : isLstR S x = true) : ∃ k ds p xs, x = .ref k ∧ S[k]? = some (.lst ds) ∧ io.l[k]? = some p ∧ v = .ref p ∧ H p = some (.lst xs) ∧ RelDs G io H ds xs := by
  unfold isLstR at h
  split at h
  · rename_i k
    split at h
    · rename_i ds hs
      cases r with
      | ref e =>
        obtain ⟨a, h1, h2⟩ := so.at_ hs
        rw [e] at h1
        cases h1
        cases h2 with
        | lst h3 h4 => exact ⟨k, ds, _, _, rfl, hs, e, rfl, h3, h4⟩
    · cases h
  · cases h
theorem so_wr {io : Io} {H : Hp} {S : Store} {k : Nat} {p : Addr} {ds : List Dt} {xs : List V} (so : StoreOk G io S H) (hp : io.l[k]? = some p) (r : RelDs G io H ds xs) :
    Grow io H io (upd H p (.lst xs)) ∧ StoreOk G io (S.set k (.lst ds)) (upd H p (.lst xs)) :=
  so.write (u := .lst xs) hp (.lst upd_same (r.monoB ⟨fun _ _ z => z, fun b o hb nb _ => ⟨by
    rw [upd_ne fun z => nb (by rw [z]; exact .inl (List.mem_of_getElem? hp))]
    exact hb, nb⟩⟩))
/-- xs.append(e); the receiver is looked at ahead of the argument -/
theorem de_append (ho : DE G X W o mo) (he : DE G X W e me) (hK : X.K = G.K := by rfl)
    (hbase : attributeBase o "append" X.env (eval o X.env) = eval o X.env := by rfl)
    (hfew : ((backTo cpos (starEach [e] X.env)).all (fun x => !x.1) && (backToKw cpos (keywordEach [] X.env)).all (fun x => x.1.isSome)
      && decide ([e].length + ([] : List Keyword).length + (if ([] : List Keyword).isEmpty then 0 else 1) < 30)) = true := by rfl)
    (hline : (apos.endLine == cpos.line) = true := by rfl) (hs : starEach [e] X.env = (false, eval e X.env) :: starEach [] X.env := by rfl) :
    DE G X W (.Call (.Attribute o "append" apos) [e] [] cpos) (mApp1 mo me) := by
  obtain ⟨t, p, q⟩ := ho
  obtain ⟨t', p', q'⟩ := he
  refine ⟨_, pe_bm PySem.F.plainAttrs_list PySem.F.slot_list_append PySem.F.type_list_append mt_append p (pa_cons p' pa_nil hs) hbase hfew hline hs rfl, fun io H S en σ Q so re h => ?_⟩
  refine q io H S en σ _ so re (h.bind.imp (fun _ _ _ _ z => z) fun x S1 i1 H1 g1 s1 k1 v r => ?_)
  split at k1
  · rename_i hl
    obtain ⟨k, ds, a, xs, rfl, hS, ha, rfl, hH, rs⟩ := isLstR_ok s1 r hl
    refine ⟨.inl ⟨rfl, xs, .inl (.inl hH)⟩, ?_⟩
    refine q' i1 H1 S1 en σ _ s1 (re.mono g1) (k1.bind.imp (fun _ _ _ _ z => z) fun d S2 i2 H2 g2 s2 k2 vd rd => ?_)
    unfold mApp at k2
    dsimp only at k2
    split at k2
    · rename_i ds2 hS2
      split at k2
      · rename_i hlen
        have e2 := g2.at ha
        obtain ⟨a', h1, h2⟩ := s2.at_ hS2
        rw [e2] at h1
        cases h1
        cases h2 with
        | lst h3 h4 =>
          have l := h4.length
          obtain ⟨g3, s3⟩ := so_wr (ds := ds2 ++ [d]) s2 e2 (h4.append (.cons rd .nil))
          exact ⟨a, _, vd, rfl, rfl, h3, Nat.lt_of_lt_of_le (by rw [← l]; exact hlen) (by decide), k2 i2 _ g3 s3 _ .non⟩
      · exact k2.elim
    · exact k2.elim
  · exact k1.elim
/-- xs.pop() -/
def mPop (mo : Env → Store → R Dt) : Env → Store → R Dt := fun en S => (mo en S).bind fun x S1 => match x with
  | .ref k => match S1[k]? with
    | some (.lst ds) => match ds.getLast? with
      | some d => .ok d (S1.set k (.lst ds.dropLast))
      | none => .stuck
    | _ => .stuck
  | _ => .stuck
theorem rel_dropLast {io : Io} {H : Hp} {ds : List Dt} {vs : List V} (r : RelDs G io H ds vs) : RelDs G io H ds.dropLast vs.dropLast := by
  rw [List.dropLast_eq_take, List.dropLast_eq_take, ← r.length]
  exact r.take _
theorem de_pop (ho : DE G X W o mo) (hK : X.K = G.K := by rfl)
    (hbase : attributeBase o "pop" X.env (eval o X.env) = eval o X.env := by rfl) (hline : (apos.endLine == cpos.line) = true := by rfl) :
    DE G X W (.Call (.Attribute o "pop" apos) [] [] cpos) (mPop mo) := by
  obtain ⟨t, p, q⟩ := ho
  refine ⟨_, pe_bm0 PySem.F.plainAttrs_list PySem.F.slot_list_pop PySem.F.type_list_pop mt_pop p hbase hline, fun io H S en σ Q so re h => ?_⟩
  refine q io H S en σ _ so re (h.bind.imp (fun _ _ _ _ z => z) fun x S1 i1 H1 g1 s1 k1 v r => ?_)
  split at k1
  · rename_i k
    split at k1
    · rename_i ds hS
      split at k1
      · rename_i d hd
        obtain ⟨k', ds', a, xs, e0, hS', ha, rfl, hH, rs⟩ := isLstR_ok s1 r (by unfold isLstR; simp only [hS])
        cases e0
        rw [hS] at hS'
        cases hS'
        obtain ⟨g3, s3⟩ := so_wr s1 ha (rel_dropLast rs)
        have l := rs.length
        rw [List.getLast?_eq_getElem?] at hd
        obtain ⟨y, h1, h2⟩ := rs.get hd
        exact ⟨.inl ⟨rfl, xs, .inl (.inl hH)⟩, a, xs, y, rfl, rfl, hH, by rw [← l]; exact h1, k1 i1 _ g3 s3 _ (h2.mono g3)⟩
      · exact k1.elim
    · exact k1.elim
  · exact k1.elim
/-- x += e, x -= e: ints, texts -/
def mAug (i : Nat) (m : Dt → Dt → Store → R Dt) (me : Env → Store → R Dt) : Env → Store → RS := fun en S => match en[i]? with
  | some (some x) => (me en S).toS en fun y S1 => (m x y S1).toS en fun z S2 => .ok .nx (en.set i (some z)) S2
  | _ => .stuck
def mIAdd (x y : Dt) (S : Store) : R Dt := match x, y with
  | .int i, .int j => .ok (.int (i + j)) S
  | .str a, .str b => if a.length + b.length ≤ 100000 then .ok (.str (a ++ b)) S else .stuck
  | _, _ => .stuck
theorem do_iadd : DO G X (inplaceOp .Add) mIAdd := by
  refine ⟨_, (iop_add (X := X)).or iop_add_str, ?_, ?_⟩
  · intro io H S x y dx dy Q so rx ry h
    unfold mIAdd at h
    split at h
    · cases rx
      cases ry
      exact .inl ⟨_, _, rfl, rfl, h io H Grow.refl so _ (.int _)⟩
    · rename_i a b
      cases rx
      cases ry
      by_cases hl : a.length + b.length ≤ 100000
      · rw [if_pos hl] at h
        exact .inr ⟨_, _, rfl, rfl, small6 (by omega), h io H Grow.refl so _ (.str _)⟩
      · rw [if_neg hl] at h
        exact h.elim
    · exact h.elim
  · intro x y S
    unfold mIAdd
    repeat' split
    all_goals trivial
theorem ds_aug {i : Nat} {x : Str} {op : Operator} {m : Dt → Dt → Store → R Dt} {pos pos' : Pos} (hN : X.N.Nodup) (hop : DO G X (inplaceOp op) m) (he : DE G X W e me) (hi : X.N[i]? = some x := by rfl) (hx : Loc X.env.scope x := by first | exact Or.inl rfl | exact Or.inr rfl) (hf : X.fn x = true ∨ X.env.scope.names.lookup x = some .local := by first | exact .inl rfl | exact .inr rfl | assumption) :
    DS G X W (.AugAssign (.Name x pos') op e pos) (mAug i m me) := by
  obtain ⟨r, po, qo, no⟩ := hop
  obtain ⟨t, p, q⟩ := he
  refine ⟨_, ps_aug hN hi hx p (ti := fun x y H Q => r x y H Q) (fun pins s σ H x y v u Q I rx ry h => po pins s σ H x y v u Q I rx ry h) hf, fun io H S en σ D so re h => ?_⟩
  unfold mAug at h
  split at h
  · rename_i d hd
    obtain ⟨v, h1, h2⟩ := re.at_ i d hd
    refine ⟨v, h1, q io H S en σ _ so re (h.bind.imp (wx_of re) fun y S1 i1 H1 g1 s1 k1 vy ry => ?_)⟩
    refine qo i1 H1 S1 v vy d y _ s1 (h2.mono g1) ry ((k1.bind.noErr (no _ _ _)).imp (fun _ _ _ _ z => z) fun z S2 i2 H2 g2 s2 k2 vz rz => ?_)
    exact k2 i2 H2 Grow.refl s2 _ ((re.mono (g1.trans g2)).set rz)
  · exact h.elim
end
end Dv
set_option Elab.async false
set_option linter.all false
set_option maxRecDepth 100000
set_option maxHeartbeats 4000000
set_option autoImplicit false
namespace Dv
open PySem PySem.Spec PyProof.Rows L2
section
variable {G : Gv} {X : Cx} {W : WX}
theorem de_gintE {x : Str} {i : Int} {pos : Pos} (hg : Gl X x) (hm : ∃ t, X.mg x = some (.int i t)) (hd : (x == ("__debug__" : Str)) = false := by decide) : DE G X W (.Name x pos) (mC (.int i)) := by
  obtain ⟨t, hm⟩ := hm
  exact de_gint hg hm hd
theorem de_gstrE {x : Str} {i : Str} {pos : Pos} (hg : Gl X x) (hm : ∃ t, X.mg x = some (.str i t)) (hd : (x == ("__debug__" : Str)) = false := by decide) : DE G X W (.Name x pos) (mC (.str i)) := by
  obtain ⟨t, hm⟩ := hm
  exact de_gstr hg hm hd
end
section
variable {P : Program} {w : World} {K : PySem.W.Frag} {mg : Str → Option Value} {base : Heap} {G : Gv}
theorem fn_stuck {k np : Nat} {f : Addr} {fd : FuncData} {ps : List Str} : FnOk P w K mg base (L2N.CX P w) k f fd ps (spF G np fun _ _ => .stuck) :=
  ⟨fun vs H Q E ⟨_, _, _, _, _, _, h⟩ => h.elim, fun A outer s H args us vs Q E hr e0 hb rv ⟨_, _, _, _, _, _, h⟩ => h.elim⟩
def spLaw (K : PySem.W.Frag) (T : List (Addr × Str)) : Sp := fun vs H Q _ => ∃ (a : Addr) (ns : List Int), vs = [.ref a] ∧ SqL K H a (ns.map V.int) ∧ ns.length ≤ 63 ∧ LamX.Tabs T H ∧ ∀ H', Q (.bl true) H'
theorem rel_ints {io : Io} {H : Hp} : ∀ ns : List Int, RelDs G io H (ns.map Dt.int) (ns.map V.int)
  | [] => .nil
  | n :: ns => .cons (.int n) (rel_ints ns)
/-- the law's promise from what its function gives -/
theorem law_sp {k : Nat} {f : Addr} {fd : FuncData} {ps : List Str} {m : Fn} (hG : G.K = K) (F : FnOk P w K mg base (L2N.CX P w) k f fd ps (spF G 1 m)) (h : ∀ ns : List Int, ns.length ≤ 63 → ∃ S, m [.fz (ns.map Dt.int)] [] = .ok (.bl true) S) :
    FnOk P w K mg base (L2N.CX P w) k f fd ps (spLaw K G.T) := F.imp fun vs H Q E ⟨a, ns, e, hS, hl, hT, q⟩ => by
  subst e
  obtain ⟨S, hm⟩ := h ns hl
  refine ⟨⟨[], []⟩, [], [.fz (ns.map Dt.int)], ⟨List.nodup_nil, rfl, (fun _ h => by cases h), (fun _ h => by cases h), (fun i o a h => by simp at h), hT⟩, .cons (.fz ?_ (rel_ints ns)) .nil, rfl, ?_⟩
  · rw [hG]
    rcases hS with h | h
    · exact .inl ⟨h, fun z => by rcases z with z | z <;> cases z⟩
    · exact .inr h
  · rw [hm]
    intro io' H' g s v r
    cases r
    exact q H'
end
/-- a body -/
abbrev Bd := Env → Store → RS
end Dv
set_option Elab.async false
set_option linter.all false
set_option maxRecDepth 100000
set_option maxHeartbeats 4000000
set_option autoImplicit false
/-! what a function comes to, step by step: Q of a value and a store, X of an error -/
namespace Dv
open PySem L2
def Pe {α : Type} (r : R α) (Q : α → Store → Prop) (X : Ex → Store → Prop) : Prop := match r with
  | .ok a S => Q a S
  | .err x S => X x S
  | .stuck => False
def Ps (r : RS) (Q : Fl → Env → Store → Prop) (X : Ex → Env → Store → Prop) : Prop := match r with
  | .ok f e S => Q f e S
  | .err x e S => X x e S
  | .stuck => False
abbrev X0 : Ex → Store → Prop := fun _ _ => False
theorem Pe.eq {α : Type} {r : R α} {a : α} {S : Store} (h : Pe r (fun b T => b = a ∧ T = S) X0) : r = .ok a S := by
  cases r with
  | ok b T => obtain ⟨rfl, rfl⟩ := h; rfl
  | err x T => exact h.elim
  | stuck => exact h.elim
theorem Pe.of {α : Type} {r : R α} {a : α} {S : Store} {Q : α → Store → Prop} {X : Ex → Store → Prop} (e : r = .ok a S) (h : Q a S) : Pe r Q X := by
  rw [e]
  exact h
theorem Pe.imp {α : Type} {r : R α} {Q Q' : α → Store → Prop} {X X' : Ex → Store → Prop} (h : Pe r Q X) (hq : ∀ a S, Q a S → Q' a S) (hx : ∀ x S, X x S → X' x S) : Pe r Q' X' := by
  cases r with
  | ok b T => exact hq _ _ h
  | err x T => exact hx _ _ h
  | stuck => exact h.elim
theorem Pe.ex {α : Type} {r : R α} {Q : α → Store → Prop} (h : Pe r Q X0) : ∃ a S, r = .ok a S ∧ Q a S := by
  cases r with
  | ok b T => exact ⟨b, T, rfl, h⟩
  | err x T => exact h.elim
  | stuck => exact h.elim
theorem Pe.bind {α β : Type} {r : R α} {f : α → Store → R β} {Q : β → Store → Prop} {X : Ex → Store → Prop} (h : Pe r (fun a S => Pe (f a S) Q X) X) : Pe (r.bind f) Q X := by cases r <;> exact h
theorem Pe.toS {α : Type} {r : R α} {e : Env} {f : α → Store → RS} {Q : Fl → Env → Store → Prop} {X : Ex → Env → Store → Prop} (h : Pe r (fun a S => Ps (f a S) Q X) (fun x S => X x e S)) : Ps (r.toS e f) Q X := by cases r <;> exact h
theorem v_ok {α : Type} {a : α} {S : Store} {Q : α → Store → Prop} {X : Ex → Store → Prop} (h : Q a S) : Pe (.ok a S) Q X := h
theorem v_ifok {α : Type} {c : Prop} [Decidable c] {a : α} {S : Store} {Q : α → Store → Prop} {X : Ex → Store → Prop} (hc : c) (h : Q a S) : Pe (if c then R.ok a S else .stuck) Q X := by
  rw [if_pos hc]
  exact h
section
variable {en : Env} {S : Store} {Q : Dt → Store → Prop} {QA : List Dt → Store → Prop} {QB : Bool → Store → Prop} {X : Ex → Store → Prop} {QS : Fl → Env → Store → Prop} {XS : Ex → Env → Store → Prop} {ma mb mc me : Env → Store → R Dt} {ta tb : Env → Store → R Bool} {ms : Env → Store → R (List Dt)} {ba bb : Env → Store → RS}
theorem v_var {i : Nat} {d : Dt} (h : en[i]? = some (some d)) (q : Q d S) : Pe (mVar i en S) Q X := by
  unfold mVar
  rw [h]
  exact q
theorem v_c {d : Dt} (q : Q d S) : Pe (mC d en S) Q X := q
theorem v_nil (q : QA [] S) : Pe (mNil en S) QA X := q
theorem v_cons (h : Pe (ma en S) (fun d S1 => Pe (ms en S1) (fun ds S2 => QA (d :: ds) S2) X) X) : Pe (mCons ma ms en S) QA X := by
  refine Pe.bind (h.imp (fun d S1 k => ?_) fun _ _ z => z)
  exact Pe.bind k
theorem v_op {m : Dt → Dt → Store → R Dt} (h : Pe (ma en S) (fun x S1 => Pe (mb en S1) (fun y S2 => Pe (m x y S2) Q X) X) X) : Pe (mOp m ma mb en S) Q X :=
  Pe.bind (h.imp (fun _ _ k => Pe.bind k) fun _ _ z => z)
theorem v_B (h : Pe (ma en S) (fun d S1 => ∃ b, d = .bl b ∧ QB b S1) X) : Pe (mB ma en S) QB X := by
  refine Pe.bind (h.imp (fun d S1 ⟨b, e, k⟩ => ?_) fun _ _ z => z)
  subst e
  exact k
theorem v_truth (h : Pe (ma en S) (fun d S1 => ∃ b, tru S1 d = some b ∧ QB b S1) X) : Pe (mTruth ma en S) QB X := by
  refine Pe.bind (h.imp (fun d S1 ⟨b, e, k⟩ => ?_) fun _ _ z => z)
  rw [e]
  exact k
theorem v_andT (h : Pe (ta en S) (fun b S1 => if b = true then Pe (tb en S1) QB X else QB false S1) X) : Pe (mAndT ta tb en S) QB X := by
  refine Pe.bind (h.imp (fun b S1 k => ?_) fun _ _ z => z)
  cases b with
  | true => exact k
  | false => exact k
theorem v_orT (h : Pe (ta en S) (fun b S1 => if b = true then QB true S1 else Pe (tb en S1) QB X) X) : Pe (mOrT ta tb en S) QB X := by
  refine Pe.bind (h.imp (fun b S1 k => ?_) fun _ _ z => z)
  cases b with
  | true => exact k
  | false => exact k
theorem v_notT (h : Pe (ta en S) (fun b S1 => QB (!b) S1) X) : Pe (mNotT ta en S) QB X := Pe.bind h
theorem v_andV (h : Pe (ma en S) (fun d S1 => ∃ b, tru S1 d = some b ∧ if b = true then Pe (mb en S1) Q X else Q d S1) X) : Pe (mAndV ma mb en S) Q X := by
  refine Pe.bind (h.imp (fun d S1 ⟨b, e, k⟩ => ?_) fun _ _ z => z)
  cases b with
  | true => rw [e]; exact k
  | false => rw [e]; exact k
theorem v_orV (h : Pe (ma en S) (fun d S1 => ∃ b, tru S1 d = some b ∧ if b = true then Q d S1 else Pe (mb en S1) Q X) X) : Pe (mOrV ma mb en S) Q X := by
  refine Pe.bind (h.imp (fun d S1 ⟨b, e, k⟩ => ?_) fun _ _ z => z)
  cases b with
  | true => rw [e]; exact k
  | false => rw [e]; exact k
theorem v_notV (h : Pe (ma en S) (fun d S1 => ∃ b, tru S1 d = some b ∧ Q (.bl (!b)) S1) X) : Pe (mNotV ma en S) Q X := by
  refine Pe.bind (h.imp (fun d S1 ⟨b, e, k⟩ => ?_) fun _ _ z => z)
  rw [e]
  exact k
theorem v_if (h : Pe (ta en S) (fun b S1 => if b = true then Pe (ma en S1) Q X else Pe (mb en S1) Q X) X) : Pe (mIf ta ma mb en S) Q X := by
  refine Pe.bind (h.imp (fun b S1 k => ?_) fun _ _ z => z)
  cases b with
  | true => exact k
  | false => exact k
theorem v_neg (h : Pe (ma en S) (fun d S1 => ∃ i, d = .int i ∧ Q (.int (-i)) S1) X) : Pe (mNeg ma en S) Q X := by
  refine Pe.bind (h.imp (fun d S1 ⟨b, e, k⟩ => ?_) fun _ _ z => z)
  subst e
  exact k
theorem v_chain {m m' : Dt → Dt → Store → R Dt} (h : Pe (ma en S) (fun x S1 => Pe (mb en S1) (fun y S2 => Pe (m x y S2) (fun z S3 => ∃ b, z = .bl b ∧ if b = true then Pe (mc en S3) (fun w S4 => Pe (m' y w S4) Q X) X else Q (.bl false) S3) X) X) X) : Pe (mChain m m' ma mb mc en S) Q X := by
  refine Pe.bind (h.imp (fun d S1 k => Pe.bind (k.imp (fun d' S2 k => Pe.bind (k.imp (fun d2 S3 ⟨b, e, k⟩ => ?_) fun _ _ z => z)) fun _ _ z => z)) fun _ _ z => z)
  subst e
  cases b with
  | true => exact Pe.bind k
  | false => exact k
theorem v_tup (h : Pe (ms en S) (fun ds S1 => ds.length ≤ 1000 ∧ Q (.tup ds) S1) X) : Pe (mTup ms en S) Q X := by
  refine Pe.bind (h.imp (fun d S1 ⟨e, k⟩ => ?_) fun _ _ z => z)
  rw [if_pos e]
  exact k
theorem v_lst (h : Pe (ms en S) (fun ds S1 => ds.length ≤ 1000 ∧ Q (.lst ds) S1) X) : Pe (mLst ms en S) Q X := by
  refine Pe.bind (h.imp (fun d S1 ⟨e, k⟩ => ?_) fun _ _ z => z)
  rw [if_pos e]
  exact k
theorem v_lstR (h : Pe (ms en S) (fun ds S1 => ds.length ≤ 1000 ∧ Q (.ref S1.length) (S1 ++ [.lst ds])) X) : Pe (mLstR ms en S) Q X := by
  refine Pe.bind (h.imp (fun d S1 ⟨e, k⟩ => ?_) fun _ _ z => z)
  rw [if_pos e]
  exact k
theorem v_ix {x d : Dt} {i : Int} (e : ixD S x i = some d) (q : Q d S) : Pe (mIx x (.int i) S) Q X := by
  unfold mIx
  dsimp only
  rw [e]
  exact q
theorem v_noPart {QO : Option Int → Store → Prop} (q : QO none S) : Pe (mNoPart en S) QO X := q
theorem v_part {QO : Option Int → Store → Prop} (h : Pe (ma en S) (fun d S1 => ∃ i, d = .int i ∧ QO (some i) S1) X) : Pe (mPart ma en S) QO X := by
  refine Pe.bind (h.imp (fun d S1 ⟨b, e, k⟩ => ?_) fun _ _ z => z)
  subst e
  exact k
theorem v_sl {ml mh : Env → Store → R (Option Int)} (h : Pe (ma en S) (fun x S1 => Pe (ml en S1) (fun l S2 => Pe (mh en S2) (fun u S3 => ∃ d, slD S3 x l u = some d ∧ Q d S3) X) X) X) : Pe (mSl ma ml mh en S) Q X := by
  refine Pe.bind (h.imp (fun d S1 k => Pe.bind (k.imp (fun d' S2 k => Pe.bind (k.imp (fun d2 S3 ⟨b, e, k⟩ => ?_) fun _ _ z => z)) fun _ _ z => z)) fun _ _ z => z)
  rw [e]
  exact k
theorem v_CB {m : List Dt → Store → R Dt} (h : Pe (ms en S) (fun ds S1 => Pe (m ds S1) Q X) X) : Pe (mCB m ms en S) Q X := Pe.bind h
theorem v_call {np : Nat} {m : Fn} (h : Pe (ms en S) (fun ds S1 => ds.length = np ∧ Pe (m ds S1) Q X) X) : Pe (mCall np m ms en S) Q X := by
  refine Pe.bind (h.imp (fun d S1 ⟨e, k⟩ => ?_) fun _ _ z => z)
  rw [if_pos e]
  exact k
theorem v_abs {i : Int} (q : Q (.int (if i < 0 then -i else i)) S) : Pe (mAbs [.int i] S) Q X := q
theorem v_len {d : Dt} {n : Nat} (e : lenD S d = some n) (q : Q (.int n) S) : Pe (mLen [d] S) Q X := by
  unfold mLen
  dsimp only
  rw [e]
  exact q
theorem v_list {d : Dt} {ds : List Dt} (e : asS S d = some ds) (q : Q (.lst ds) S) : Pe (mList [d] S) Q X := by
  unfold mList
  dsimp only
  rw [e]
  exact q
theorem v_listR {d : Dt} {ds : List Dt} (e : asS S d = some ds) (q : Q (.ref S.length) (S ++ [.lst ds])) : Pe (mListR [d] S) Q X := by
  unfold mListR
  dsimp only
  rw [e]
  exact q
theorem v_tuple {d : Dt} {ds : List Dt} (e : asS S d = some ds) (q : Q (.tup ds) S) : Pe (mTuple [d] S) Q X := by
  unfold mTuple
  dsimp only
  rw [e]
  exact q
/-! statements -/
theorem v_seq (h : Ps (ba en S) (fun f e1 S1 => match f with | .nx => Ps (bb e1 S1) QS XS | f => QS f e1 S1) XS) : Ps (mSeq ba bb en S) QS XS := by
  unfold mSeq
  cases e : ba en S with
  | ok f e1 S1 =>
    rw [e] at h
    cases f <;> exact h
  | err x e1 S1 => rw [e] at h; exact h
  | stuck => rw [e] at h; exact h
theorem v_set {i : Nat} (h : Pe (me en S) (fun d S1 => QS .nx (en.set i (some d)) S1) (fun x S1 => XS x en S1)) : Ps (mSet i me en S) QS XS := Pe.toS h
theorem v_asg {g : Dt → Env → Store → Option (Env × Store)} (h : Pe (me en S) (fun d S1 => ∃ e' S', g d en S1 = some (e', S') ∧ QS .nx e' S') (fun x S1 => XS x en S1)) : Ps (mAsg g me en S) QS XS := by
  refine Pe.toS (h.imp (fun d S1 ⟨e', S', e, k⟩ => ?_) fun _ _ z => z)
  rw [e]
  exact k
theorem v_par {i j : Nat} (h : Pe (ms en S) (fun ds S1 => ∃ d d', ds = [d, d'] ∧ QS .nx ((en.set i (some d)).set j (some d')) S1) (fun x S1 => XS x en S1)) : Ps (mPar i j ms en S) QS XS := by
  refine Pe.toS (h.imp (fun d S1 ⟨e', S', e, k⟩ => ?_) fun _ _ z => z)
  subst e
  exact k
theorem v_drop (h : Pe (me en S) (fun _ S1 => QS .nx en S1) (fun x S1 => XS x en S1)) : Ps (mDrop me en S) QS XS := Pe.toS h
theorem v_ret (h : Pe (me en S) (fun d S1 => QS (.rt d) en S1) (fun x S1 => XS x en S1)) : Ps (mRet me en S) QS XS := Pe.toS h
theorem v_ifS (h : Pe (ta en S) (fun t S1 => if t = true then Ps (ba en S1) QS XS else Ps (bb en S1) QS XS) (fun x S1 => XS x en S1)) : Ps (mIfS ta ba bb en S) QS XS := by
  refine Pe.toS (h.imp (fun t S1 k => ?_) fun _ _ z => z)
  cases t with
  | true => exact k
  | false => exact k
theorem v_nx (q : QS .nx en S) : Ps (mNx en S) QS XS := q
theorem v_bk (q : QS .bk en S) : Ps (mBk en S) QS XS := q
theorem v_ct (q : QS .ct en S) : Ps (mCt en S) QS XS := q
theorem v_retN (q : QS (.rt .non) en S) : Ps (mRetN en S) QS XS := q
theorem v_for {mi : Env → Store → R (List Dt)} {g : Dt → Env → Store → Option (Env × Store)} (h : Pe (mi en S) (fun items S1 => Ps (fLoop g ba items en S1) QS XS) (fun x S1 => XS x en S1)) : Ps (mFor mi g ba en S) QS XS := Pe.toS h
/-- a for by its invariant over what is left -/
theorem v_loop {g : Dt → Env → Store → Option (Env × Store)} {items : List Dt} (I : List Dt → Env → Store → Prop) (h0 : I items en S)
    (hs : ∀ d ds en S, I (d :: ds) en S → ∃ e1 S1, g d en S = some (e1, S1) ∧ Ps (ba e1 S1) (fun f e2 S2 => match f with | .nx => I ds e2 S2 | .ct => I ds e2 S2 | .bk => QS .nx e2 S2 | .rt d => QS (.rt d) e2 S2) XS)
    (hd : ∀ en S, I [] en S → QS .nx en S) : Ps (fLoop g ba items en S) QS XS := by
  induction items generalizing en S with
  | nil => exact hd en S h0
  | cons d ds ih =>
    obtain ⟨e1, S1, e, k⟩ := hs d ds en S h0
    unfold fLoop
    rw [e]
    dsimp only
    cases eb : ba e1 S1 with
    | stuck => rw [eb] at k; exact k
    | err x e2 S2 => rw [eb] at k; exact k
    | ok f e2 S2 =>
      rw [eb] at k
      cases f with
      | nx => exact ih k
      | ct => exact ih k
      | bk => exact k
      | rt d => exact k
/-- a while by its invariant; n bounds the turns left -/
theorem v_while {f : Env → Store → Nat} (I : Nat → Env → Store → Prop) (h0 : I (f en S) en S)
    (hs : ∀ n en S, I n en S → ∃ k, n = k + 1 ∧ Pe (ta en S) (fun t S1 => if t = true then Ps (ba en S1) (fun f e2 S2 => match f with | .nx => I k e2 S2 | .ct => I k e2 S2 | .bk => QS .nx e2 S2 | .rt d => QS (.rt d) e2 S2) XS else QS .nx en S1) (fun x S1 => XS x en S1)) : Ps (mWhile f ta ba en S) QS XS := by
  unfold mWhile
  generalize f en S = n at h0
  induction n generalizing en S with
  | zero =>
    obtain ⟨k, e, _⟩ := hs 0 en S h0
    omega
  | succ n ih =>
    obtain ⟨k, e, p⟩ := hs _ en S h0
    have e : n = k := by omega
    subst e
    unfold wLoop
    refine Pe.toS (p.imp (fun t S1 q => ?_) fun _ _ z => z)
    cases t with
    | false => exact q
    | true =>
      rw [if_pos rfl] at q ⊢
      cases eb : ba en S1 with
      | stuck => rw [eb] at q; exact q
      | err x e2 S2 => rw [eb] at q; exact q
      | ok f e2 S2 =>
        rw [eb] at q
        cases f with
        | nx => exact ih q
        | ct => exact ih q
        | bk => exact q
        | rt d => exact q
/-- a def -/
theorem v_fn {nl : Nat} {keep : Bool} {ds : List Dt} (h : Ps (ba (ds.map some ++ List.replicate (nl - ds.length) none) S) (fun f _ S' => match f with
    | .rt d => Pe (fin keep S.length d S') Q X
    | .nx => Pe (fin keep S.length .non S') Q X
    | _ => False) (fun x _ S' => Pe (finX keep S.length x S') Q X)) : Pe (fnRun nl keep ba ds S) Q X := by
  unfold fnRun
  cases e : ba (ds.map some ++ List.replicate (nl - ds.length) none) S with
  | stuck => rw [e] at h; exact h
  | err x e1 S1 => rw [e] at h; exact h
  | ok f e1 S1 =>
    rw [e] at h
    cases f with
    | nx => exact h
    | rt d => exact h
    | bk => exact h
    | ct => exact h
theorem v_fin {keep : Bool} {n : Nat} {d : Dt} (hc : keep = true ∨ S.length = n) (q : Q d S) : Pe (fin keep n d S) Q X := by
  unfold fin
  rw [if_pos hc]
  exact q
/-! comprehensions -/
theorem v_lc {sl : List Nat} {mi : Env → Store → R (List Dt)} {g : Dt → Env → Option Env} (h : Pe (mi en S) (fun items S1 => Pe (cLoop g ta me (wipeE en sl) items [] S1) (fun ds S2 => Q (.lst ds) S2) X) X) : Pe (mLc sl mi g ta me en S) Q X :=
  Pe.bind (h.imp (fun _ _ k => Pe.bind (k.imp (fun _ _ q => q) fun _ _ z => z)) fun _ _ z => z)
theorem Pe.nx {α : Type} {r : R α} {Q : α → Store → Prop} (h : Pe r Q X0) : Pe r.nx Q X := by
  cases r with
  | ok a S => exact h
  | err x S => exact h.elim
  | stuck => exact h.elim
/-- a comprehension that keeps the store: each item gives its value, or is left out -/
theorem v_cloop {g : Dt → Env → Option Env} {items : List Dt} {acc : List Dt} (f : Dt → Option Dt)
    (hs : ∀ d ∈ items, ∃ e1, g d en = some e1 ∧ Pe (ta e1 S) (fun b S1 => S1 = S ∧ if b = true then Pe (me e1 S) (fun x S2 => S2 = S ∧ f d = some x) X0 else f d = none) X0)
    (hl : acc.length + items.length ≤ 1000000) (q : QA (acc ++ items.filterMap f) S) : Pe (cLoop g ta me en items acc S) QA X := by
  induction items generalizing acc with
  | nil =>
    rw [List.filterMap_nil, List.append_nil] at q
    exact q
  | cons d ds ih =>
    obtain ⟨e1, e, p⟩ := hs d List.mem_cons_self
    unfold cLoop
    rw [e]
    dsimp only
    rw [List.length_cons] at hl
    refine Pe.bind (Pe.nx (p.imp (fun b S1 ⟨eS, k⟩ => ?_) fun _ _ z => z))
    subst eS
    cases b with
    | false =>
      rw [if_neg Bool.false_ne_true] at k ⊢
      rw [List.filterMap_cons, k] at q
      exact ih (fun x hx => hs x (List.mem_cons_of_mem _ hx)) (by omega) q
    | true =>
      rw [if_pos rfl] at k ⊢
      refine Pe.bind (Pe.nx (k.imp (fun x S2 ⟨eS2, k2⟩ => ?_) fun _ _ z => z))
      subst eS2
      rw [if_pos (by omega)]
      rw [List.filterMap_cons, k2] at q
      refine ih (fun x hx => hs x (List.mem_cons_of_mem _ hx)) (by rw [List.length_append, List.length_singleton]; omega) ?_
      rw [List.append_assoc]
      exact q
theorem v_yes (q : QB true S) : Pe (mYes en S) QB X := q
theorem v_it {d : Dt} {ds : List Dt} (h : Pe (me en S) (fun d S1 => ∃ ds, itemsD d = some ds ∧ QA ds S1) X) : Pe (mIt me en S) QA X := by
  refine Pe.bind (h.imp (fun d S1 ⟨b, e, k⟩ => ?_) fun _ _ z => z)
  rw [e]
  exact k
theorem v_rng1 (h : Pe (ms en S) (fun ds S1 => ∃ j, ds = [.int j] ∧ rngOk j = true ∧ QA (rangeD 0 j.toNat) S1) X) : Pe (mRng1 ms en S) QA X := by
  refine Pe.bind (h.imp (fun d S1 ⟨b, e, r, k⟩ => ?_) fun _ _ z => z)
  subst e
  dsimp only
  rw [if_pos r]
  exact k
theorem v_rng2 (h : Pe (ms en S) (fun ds S1 => ∃ i j, ds = [.int i, .int j] ∧ (rngOk i = true ∧ rngOk j = true) ∧ QA (rangeD i (j - i).toNat) S1) X) : Pe (mRng2 ms en S) QA X := by
  refine Pe.bind (h.imp (fun d S1 ⟨b, b', e, r, k⟩ => ?_) fun _ _ z => z)
  subst e
  dsimp only
  rw [if_pos r]
  exact k
/-! the ways of a test -/
theorem v_dec {p A B : Prop} [Decidable p] (h1 : p → A) (h2 : ¬p → B) : if decide p = true then A else B := by
  by_cases h : p
  · rw [decide_eq_true h, if_pos rfl]
    exact h1 h
  · rw [decide_eq_false h, if_neg Bool.false_ne_true]
    exact h2 h
theorem v_ndec {p A B : Prop} [Decidable p] (h1 : ¬p → A) (h2 : p → B) : if (!decide p) = true then A else B := by
  by_cases h : p
  · rw [decide_eq_true h, if_neg (by simp)]
    exact h2 h
  · rw [decide_eq_false h, if_pos (by simp)]
    exact h1 h
theorem v_T {A B : Prop} (h : A) : if true = true then A else B := h
theorem v_F {A B : Prop} (h : B) : if false = true then A else B := h
end
section
variable {en : Env} {S : Store} {Q : Dt → Store → Prop} {X : Ex → Store → Prop}
theorem v_div {i j : Int} (h0 : j ≠ 0) (hl : j.natAbs.log2 < 9000) (q : Q (.int (i.fdiv j)) S) : Pe (mDiv (.int i) (.int j) S) Q X := by
  refine v_ifok ?_ q
  unfold divOk
  rw [Bool.and_eq_true]
  exact ⟨decide_eq_true h0, decide_eq_true hl⟩
theorem v_mod {i j : Int} (h0 : j ≠ 0) (q : Q (.int (i.fmod j)) S) : Pe (mMod (.int i) (.int j) S) Q X := v_ifok h0 q
theorem v_mulL {i j : Int} (h : i.natAbs < 2 ^ 64) (q : Q (.int (i * j)) S) : Pe (mMul (.int i) (.int j) S) Q X := by
  refine v_ifok ?_ q
  unfold mulOk
  rw [decide_eq_true h]
  rfl
theorem v_mulR {i j : Int} (h : j.natAbs < 2 ^ 64) (q : Q (.int (i * j)) S) : Pe (mMul (.int i) (.int j) S) Q X := by
  refine v_ifok ?_ q
  unfold mulOk
  rw [decide_eq_true h, Bool.or_true]
  rfl
theorem v_pow {i j : Int} (h : 0 ≤ j ∧ j ≤ 1000000 ∧ i.natAbs < 2 ^ 64) (q : Q (.int (i ^ j.toNat)) S) : Pe (mPow (.int i) (.int j) S) Q X := v_ifok (decide_eq_true h) q
theorem ixD_ref {S : Store} {k : Nat} {ds : List Dt} {i : Int} {d : Dt} (hS : S[k]? = some (.lst ds)) (h : L2.atI ds i = some d) : ixD S (.ref k) i = some d := by
  unfold ixD
  simp [asL, hS, h]
theorem lenD_ref {S : Store} {k : Nat} {ds : List Dt} (hS : S[k]? = some (.lst ds)) : lenD S (.ref k) = some ds.length := by
  unfold lenD
  simp [asL, hS]
theorem gSub_ref {mo mi : Env → Store → R Dt} {d : Dt} {k n : Nat} {j : Int} {ds : List Dt} (ho : mo en S = .ok (.ref k) S) (hi : mi en S = .ok (.int j) S) (hS : S[k]? = some (.lst ds)) (hj : ixN ds.length j = some n) :
    gSubD mo mi d en S = some (en, S.set k (.lst (ds.set n d))) := by
  unfold gSubD
  simp only [ho, hi]
  unfold setIx
  simp only [hS, hj, Option.map_some]
theorem set_same {S : Store} {k : Nat} {o o' : Ob} (h : S[k]? = some o) : (S.set k o')[k]? = some o' := List.getElem?_set_self (List.getElem?_eq_some_iff.mp h).1
/-- a store into a list: the new store by a letter -/
theorem v_gsub {mo mi : Env → Store → R Dt} {d : Dt} {k n : Nat} {j : Int} {ds : List Dt} {A : Env → Store → Prop} (ho : mo en S = .ok (.ref k) S) (hi : mi en S = .ok (.int j) S) (hS : S[k]? = some (.lst ds)) (hj : ixN ds.length j = some n)
    (q : ∀ S', S' = S.set k (.lst (ds.set n d)) → S'[k]? = some (.lst (ds.set n d)) → A en S') : ∃ e' S', gSubD mo mi d en S = some (e', S') ∧ A e' S' :=
  ⟨en, _, gSub_ref ho hi hS hj, q _ rfl (set_same hS)⟩
theorem atI_in {α : Type} {xs : List α} {j : Nat} {x : α} (h : xs[j]? = some x) : L2.atI xs (j : Int) = some x := L2.atI_nat h
end
section
variable {en : Env} {S : Store} {Q : Dt → Store → Prop} {X : Ex → Store → Prop} {QS : Fl → Env → Store → Prop} {XS : Ex → Env → Store → Prop} {i j : Int}
theorem v_add (q : Q (.int (i + j)) S) : Pe (mAdd (.int i) (.int j) S) Q X := q
theorem v_sub (q : Q (.int (i - j)) S) : Pe (mSub (.int i) (.int j) S) Q X := q
theorem v_iadd (q : Q (.int (i + j)) S) : Pe (mIAdd (.int i) (.int j) S) Q X := q
theorem v_lt (q : Q (.bl (decide (i < j))) S) : Pe (mLt (.int i) (.int j) S) Q X := q
theorem v_le (q : Q (.bl (decide (i ≤ j))) S) : Pe (mLe (.int i) (.int j) S) Q X := q
theorem v_gt (q : Q (.bl (decide (j < i))) S) : Pe (mGt (.int i) (.int j) S) Q X := q
theorem v_ge (q : Q (.bl (decide (j ≤ i))) S) : Pe (mGe (.int i) (.int j) S) Q X := q
theorem v_eqI (q : Q (.bl (decide (i = j))) S) : Pe (mEq (.int i) (.int j) S) Q X := by
  have e : (i == j) = decide (i = j) := rfl
  show Q (.bl (i == j)) S
  rw [e]
  exact q
theorem v_neI (q : Q (.bl (!decide (i = j))) S) : Pe (mNe (.int i) (.int j) S) Q X := by
  have e : (i == j) = decide (i = j) := rfl
  show Q (.bl (!(i == j))) S
  rw [e]
  exact q
theorem v_eqB {a b : Bool} (q : Q (.bl (a == b)) S) : Pe (mEq (.bl a) (.bl b) S) Q X := q
theorem v_neB {a b : Bool} (q : Q (.bl (!(a == b))) S) : Pe (mNe (.bl a) (.bl b) S) Q X := q
theorem v_aug {k : Nat} {m : Dt → Dt → Store → R Dt} {me : Env → Store → R Dt} {x : Dt} (h : en[k]? = some (some x)) (q : Pe (me en S) (fun y S1 => Pe (m x y S1) (fun z S2 => QS .nx (en.set k (some z)) S2) (fun x S => XS x en S)) (fun x S => XS x en S)) : Ps (mAug k m me en S) QS XS := by
  unfold mAug
  rw [h]
  exact Pe.toS (q.imp (fun _ _ k => Pe.toS k) fun _ _ z => z)
theorem v_isi1 {x c : Dt} {b : Bool} (hc : ∀ cs, c ≠ .tup cs) (e : ((tyS S x).bind fun t => isiT t c) = some b) (q : Q (.bl b) S) : Pe (mIsi [x, c] S) Q X := by
  unfold mIsi
  cases c with
  | tup cs => exact absurd rfl (hc cs)
  | _ =>
    dsimp only
    rw [e]
    exact q
theorem v_isiT {x : Dt} {cs : List Dt} {b : Bool} (e : ((tyS S x).bind fun t => isiAny t cs) = some b) (q : Q (.bl b) S) : Pe (mIsi [x, .tup cs] S) Q X := by
  unfold mIsi
  dsimp only
  rw [e]
  exact q
theorem v_isiTy {x : Dt} {n : String} {t : String ⊕ String} {b : Bool} (ht : tyS S x = some t) (e : isiT t (.ty n) = some b) (q : Q (.bl b) S) : Pe (mIsi [x, .ty n] S) Q X :=
  v_isi1 (fun _ z => nomatch z) (by rw [ht]; exact e) q
end
theorem v_isd {S : Store} {Q : Dt → Store → Prop} {X : Ex → Store → Prop} {n : Bool} {x y d : Dt} (e : mIs n x y S = .ok d S) (q : Q d S) : Pe (mIs n x y S) Q X := by
  rw [e]
  exact q
theorem v_bT {b : Bool} {A B : Prop} (h : b = true) (q : A) : if b = true then A else B := by
  rw [if_pos h]
  exact q
theorem v_bF {b : Bool} {A B : Prop} (h : b = false) (q : B) : if b = true then A else B := by
  rw [if_neg (by rw [h]; exact Bool.false_ne_true)]
  exact q
end Dv
set_option Elab.async false
set_option linter.all false
set_option maxRecDepth 100000
set_option maxHeartbeats 4000000
set_option autoImplicit false
namespace Dv
open PySem PySem.Spec PyProof.Rows L2
/-! instances: fields, methods, new ones -/
/-- an instance: its class, its fields -/
def insD (S : Store) (d : Dt) : Option (String × List Str × List Dt) := match d with
  | .ins c ns ds => some (c, ns, ds)
  | .ref i => match S[i]? with
    | some (.ins c ns ds) => some (c, ns, ds)
    | _ => none
  | _ => none
section
variable {G : Gv} {io : Io} {H : Hp} {S : Store}
theorem insD_ok {d : Dt} {v : V} {c : String} {ns : List Str} {ds : List Dt} (so : StoreOk G io S H) (r : RelD G io H d v) (h : insD S d = some (c, ns, ds)) :
    ∃ a C dx vs, v = .ref a ∧ H a = some (.ins C dx (ns.zip vs)) ∧ G.cl c = some C ∧ ns.length = ds.length ∧ RelDs G io H ds vs := by
  cases r with
  | ins h1 h2 h3 h4 h5 =>
    cases h
    exact ⟨_, _, _, _, rfl, h1, h3, h4, h5⟩
  | @ref a i hi =>
    unfold insD at h
    dsimp only at h
    split at h
    · rename_i c' ns' ds' hS
      cases h
      have q := so.ob i _ a hS hi
      cases q with
      | ins h1 h2 h3 h4 => exact ⟨_, _, _, _, rfl, h1, h2, h3, h4⟩
    · cases h
  | _ => cases h
theorem look_rel {f : Str} : ∀ {ns : List Str} {ds : List Dt} {vs : List V} {d : Dt}, RelDs G io H ds vs → (ns.zip ds).lookup f = some d → ∃ v, (ns.zip vs).lookup f = some v ∧ RelD G io H d v
  | [], _, _, _, _, h => by cases h
  | _ :: _, _, _, _, .nil, h => by cases h
  | n :: ns, _, _, d, .cons r rs, h => by
    rw [List.zip_cons_cons, List.lookup_cons] at h ⊢
    split at h
    · cases h
      exact ⟨_, rfl, r⟩
    · exact look_rel rs h
theorem look_none {f : Str} {α : Type} : ∀ {ns : List Str} {vs : List α}, f ∉ ns → (ns.zip vs).lookup f = none
  | [], _, _ => rfl
  | _ :: _, [], _ => rfl
  | n :: ns, v :: vs, h => by
    rw [List.zip_cons_cons, List.lookup_cons]
    have hn : (f == n) = false := by
      rw [beq_eq_false_iff_ne]
      exact fun z => h (by rw [z]; exact List.mem_cons_self)
    rw [hn]
    exact look_none fun z => h (List.mem_cons_of_mem _ z)
end
/-- o.f -/
def mFld (cs : List String) (f : Str) (m : Env → Store → R Dt) : Env → Store → R Dt := fun en S => (m en S).bind fun d S1 => match insD S1 d with
  | some (c, ns, ds) => if c ∈ cs then (match (ns.zip ds).lookup f with
    | some x => .ok x S1
    | none => .stuck) else .stuck
  | none => .stuck
section
variable {G : Gv} {X : Cx} {W : WX} {e o : Expr} {es : List Expr} {m mo me : Env → Store → R Dt} {ma : Env → Store → R (List Dt)} {f : Str} {pos apos p : Pos}
theorem de_fld (cs : List String) (ok : ClsOk G) (he : DE G X W e m) (hno : ∀ c ∈ cs, ∀ C, G.cl c = some C → NoAttr G.K C f) (hb : attributeBase e f X.env (eval e X.env) = eval e X.env := by rfl) (hK : X.K = G.K := by rfl) :
    DE G X W (.Attribute e f pos) (mFld cs f m) := by
  obtain ⟨t, pe, q⟩ := he
  refine ⟨_, pe_fld pe hb, fun io H S en σ Q so re h => ?_⟩
  refine q io H S en σ _ so re (h.bind.imp (fun _ _ _ _ z => z) fun d S1 i1 H1 g1 s1 k1 v r => ?_)
  split at k1
  · rename_i c ns ds hi
    obtain ⟨a, C, dx, vs, rfl, h1, h2, h3, h4⟩ := insD_ok s1 r hi
    split at k1
    · rename_i hc
      split at k1
      · rename_i x hx
        obtain ⟨u, hu, ru⟩ := look_rel h4 hx
        refine ⟨a, C, dx, _, u, rfl, h1, ?_, ?_, hu, ?_⟩
        · rw [hK]
          exact ok.cls c C h2
        · rw [hK]
          exact hno c hc C h2
        · exact k1 i1 H1 Grow.refl s1 u ru
      · exact k1.elim
    · exact k1.elim
  · exact k1.elim
/-! ### o.m(..) -/
def mMeth (c : String) (m : Str) (np : Nat) (fn : Fn) (mo : Env → Store → R Dt) (ma : Env → Store → R (List Dt)) : Env → Store → R Dt := fun en S => (mo en S).bind fun d S1 => match insD S1 d with
  | some (c', ns, _) => if c' = c ∧ m ∉ ns then (ma en S1).bind fun ds S2 => if ds.length + 1 = np then fn (d :: ds) S2 else .stuck else .stuck
  | none => .stuck
def tMethW (C : Addr) (m : Str) (sp : Sp) (E : L2.St → XK) (ta : TE) (t : TA) : TE := fun σ H Q => ta σ H fun x H1 => ∃ a dx fs, x = .ref a ∧ H1 a = some (.ins C dx fs) ∧ fs.lookup m = none ∧ t σ H1 fun vs H2 => sp (x :: vs) H2 Q (E σ)
variable {C fa : Addr} {k np : Nat} {fd : FuncData} {ps : List Str} {sp : Sp} {E : L2.St → XK} {ta : TE} {t : TA} {CX : CXT} {n : Str}
theorem pe_methW {pl : Sem Bool} (he : PE X o ta) (c : Cls X.K C) (hm : Meth X.K C n fa) (F : FnOk X.prog X.w X.K X.mg X.base CX k fa fd ps sp) (hr : Room k X.A) (hb : Binds X.K fd ps []) (hx : ∀ σ, PassesAt CX X σ (E σ)) (ha : PA X (e :: es) t)
    (hst : starEach (e :: es) X.env = (false, eval e X.env) :: starEach es X.env) (hpl : (backTo pos (starEach es X.env)).any (·.1) = false)
    (ht : eval (.Call (.Attribute o n apos) (e :: es) [] pos) X.env = (do
      let ov ← eval o X.env
      standAt apos.atName
      let (f, first) ← holding [ov] (getMethod ov n pl)
      callWith pos f first (backTo pos (starEach (e :: es) X.env)) (backToKw pos (keywordEach [] X.env)))) :
    PE X (.Call (.Attribute o n apos) (e :: es) [] pos) (tMethW C n sp E ta t) := by
  refine ⟨fun pins s σ H Q I h => ?_⟩
  refine PySem.W.methodCall_KW (pl := pl) (thn (he.run pins s σ H _ I h) fun u s1 ⟨x, H1, I1, rx, a, dx, fs, ex, ea, l, q⟩ => ?_) ht
  subst ex
  obtain rfl : u = Value.ref a := rx
  refine getmeth_ok I1 ea c hm l ?_
  refine PySem.W.callWith_K (first := [.ref a]) (h₀ := X.base) I.ok.mod.kin hm.kp (thn (ha.run pos pins s1 σ H1 _ I1 q) fun us s2 ⟨vs, H2, I2, r, q2⟩ => ⟨I2.kIn, ?_⟩) hst hpl
  exact run_fnS (us := .ref a :: us) (vs := .ref a :: vs) F hr hb (hx σ) I2 (.cons rfl r) q2
/-- what the function of a method gives answers the promise of its def -/
theorem sim_meth {c : String} {fn : Fn} {to : TE} (ok : ClsOk G) (hC : G.cl c = some C) (qo : SimE G W to mo) (qa : SimA G W t ma) : SimE G W (tMethW C n (spF G np fn) (WE W) to t) (mMeth c n np fn mo ma) := by
  intro io H S en σ Q so re h
  refine qo io H S en σ _ so re (h.bind.imp (fun _ _ _ _ z => z) fun d S1 i1 H1 g1 s1 k1 v r => ?_)
  split at k1
  · rename_i c' ns ds hi
    obtain ⟨a, C', dx, vs, rfl, h1, h2, h3, h4⟩ := insD_ok s1 r hi
    split at k1
    · rename_i hc
      obtain ⟨rfl, hn⟩ := hc
      rw [hC] at h2
      cases h2
      refine ⟨a, dx, _, rfl, h1, look_none hn, ?_⟩
      refine qa i1 H1 S1 en σ _ s1 (re.mono g1) (k1.bind.imp (fun _ _ _ _ z => z) fun ws S2 i2 H2 g2 s2 k2 us rs => ?_)
      split at k2
      · rename_i hl
        exact ⟨i2, S2, d :: ws, s2, .cons (r.mono g2) rs, hl, k2⟩
      · exact k2.elim
    · exact k1.elim
  · exact k1.elim
theorem de_meth {pl : Sem Bool} {c : String} {fn : Fn} (ok : ClsOk G) (hC : G.cl c = some C) (ho : DE G X W o mo) (ha : DA G X W (e :: es) ma) (hm : Meth G.K C n fa) (F : FnOk X.prog X.w X.K X.mg X.base (L2N.CX X.prog X.w) k fa fd ps (spF G np fn)) (hr : Room k X.A) (hb : Binds X.K fd ps []) (tk : L2N.Takes X W)
    (hst : starEach (e :: es) X.env = (false, eval e X.env) :: starEach es X.env := by rfl) (hpl : (backTo pos (starEach es X.env)).any (·.1) = false := by rfl)
    (ht : eval (.Call (.Attribute o n apos) (e :: es) [] pos) X.env = (do
      let ov ← eval o X.env
      standAt apos.atName
      let (f, first) ← holding [ov] (getMethod ov n pl)
      callWith pos f first (backTo pos (starEach (e :: es) X.env)) (backToKw pos (keywordEach [] X.env))) := by rfl) (hK : X.K = G.K := by rfl) :
    DE G X W (.Call (.Attribute o n apos) (e :: es) [] pos) (mMeth c n np fn mo ma) := by
  obtain ⟨to, po, qo⟩ := ho
  obtain ⟨t, pa, qa⟩ := ha
  exact ⟨_, pe_methW (E := WE W) po (by rw [hK]; exact ok.cls c C hC) (by rw [hK]; exact hm) F hr hb (fun σ => L2N.passAt tk σ) pa hst hpl ht, sim_meth ok hC qo qa⟩
/-! ### C(..) -/
def mMake (c : String) (np : Nat) (fn : Fn) (ma : Env → Store → R (List Dt)) : Env → Store → R Dt := fun en S => (ma en S).bind fun ds S1 => if ds.length + 1 = np then (fn (.ref S1.length :: ds) (S1 ++ [.ins c [] []])).bind fun r S2 => match r with
  | .non => .ok (.ref S1.length) S2
  | _ => .stuck else .stuck
def tMakeW (C : Addr) (sp : Sp) (E : L2.St → XK) (t : TA) : TE := fun σ H Q => t σ H fun vs H1 => ∀ x dx, H1 x = none → H1 dx = none → dx ≠ x →
  sp (.ref x :: vs) (upd (upd H1 dx (.own x)) x (.ins C dx [])) (fun v H2 => v = .non ∧ Q (.ref x) H2) (E σ)
theorem run_makeW {pins : List (Addr × Obj)} {σ : L2.St} {H : Hp} {s : Shared} {Q : VK} {us : List Value} {vs : List V} (M : Mk X.K C fa) (F : FnOk X.prog X.w X.K X.mg X.base CX k fa fd ps sp) (hr : Room (k + 1) X.A) (hb : Binds X.K fd ps [])
    (hx : PassesAt CX X σ (E σ)) (I : Inv X pins σ H s) (r : Vals vs us)
    (h : ∀ x dx, H x = none → H dx = none → dx ≠ x → sp (.ref x :: vs) (upd (upd H dx (.own x)) x (.ins C dx [])) (fun v H2 => v = .non ∧ Q (.ref x) H2) (E σ)) :
    wpAny (model X.prog X.w) X.A (call (.ref C) us) (EP X pins σ Q) X.xe s := by
  have hq := h (s.heap.objs.size + 1) s.heap.objs.size (I.hok.fresh (Nat.le_succ _)) (I.hok.fresh (Nat.le_refl _)) (Nat.ne_of_lt (Nat.lt_succ_self _))
  have I2 := Inv.made (C := C) I
  have r2 : Vals (V.ref (s.heap.objs.size + 1) :: vs) (Value.ref (s.heap.objs.size + 1) :: us) := .cons rfl r
  have hl : (Value.ref (s.heap.objs.size + 1) :: us).length = ps.length := by
    have e := r2.length
    rw [F.len _ _ _ _ hq] at e
    exact e.symm
  have bb := hb _ (Value.ref (s.heap.objs.size + 1) :: us) I2.kIn (by rw [List.append_nil]; exact hl)
  rw [List.append_nil] at bb
  refine wpAny_call (make_map (f := fa) I.kIn M.makes M.init (beq_iff_eq.mp M.fn) (codeAny_mono (F.run _ X.stack _ _ ⟨Value.ref (s.heap.objs.size + 1) :: us, []⟩ (Value.ref (s.heap.objs.size + 1) :: us) _ _ (E σ) (hr.make C us [])
    (I2.env0.make C us []) bb r2 hq) fun r s' hq' => ?_))
  cases r with
  | error e => exact hx pins _ _ e s' I2 hq'
  | ok fl =>
    cases fl with
    | ret u =>
      obtain ⟨v, H', I3, rv, ev, q3⟩ := I2.after hq'
      subst ev
      exact ⟨rv, ⟨V.ref (s.heap.objs.size + 1), H', I3, rfl, q3⟩⟩
    | next => exact False.elim hq'
    | brk => exact False.elim hq'
    | cont => exact False.elim hq'
variable {x : Str}
theorem pe_makeW0 (M : Mk X.K C fa) (F : FnOk X.prog X.w X.K X.mg X.base CX k fa fd ps sp) (hr : Room (k + 1) X.A) (hg : Gl X x) (hm : X.mg x = some (.ref C)) (hb : Binds X.K fd ps []) (hx : ∀ σ, PassesAt CX X σ (E σ))
    (hdb : (x == ("__debug__" : Str)) = false) : PE X (.Call (.Name x p) [] [] pos) (tMakeW C sp E tNil) := by
  refine ⟨fun pins s σ H Q I h => ?_⟩
  refine wpAny_Call_Name_kw (ld_glob I hg hm ?_ hdb)
  exact PySem.W.callWith_K0 I.kIn M.kp (run_makeW (us := []) M F hr hb (hx σ) I .nil h)
theorem sim_make {c : String} {fn : Fn} (hC : G.cl c = some C) (qa : SimA G W t ma) : SimE G W (tMakeW C (spF G np fn) (WE W) t) (mMake c np fn ma) := by
  intro io H S en σ Q so re h
  refine qa io H S en σ _ so re (h.bind.imp (fun _ _ _ _ z => z) fun ds S1 i1 H1 g1 s1 k1 vs r => ?_)
  split at k1
  · rename_i hl
    intro y dy hy hdy hne
    have e0 : ExtH H1 (upd H1 dy (.own y)) := ExtH.new hdy
    have hy2 : upd H1 dy (.own y) y = none := by rw [upd_ne (Ne.symm hne)]; exact hy
    have s2 := s1.ext e0
    obtain ⟨g3, s3⟩ := s2.push (o := .ins c [] []) (u := .ins C dy []) hy2 (.ins upd_same hC rfl .nil)
    have g4 : Grow i1 H1 (i1.push y) (upd (upd H1 dy (.own y)) y (.ins C dy [])) := e0.grow.trans g3
    have hy4 : (i1.push y).l[S1.length]? = some y := by
      rw [s1.len]
      simp
    refine ⟨i1.push y, S1 ++ [.ins c [] []], .ref S1.length :: ds, s3, .cons (.ref hy4) (r.mono g4), hl, ?_⟩
    refine (Out.from g4 k1).bind.imp (fun _ _ _ _ z => z) fun rr S5 i5 H5 g5 s5 k5 v rv => ?_
    split at k5
    · cases rv
      exact ⟨rfl, k5 i5 H5 Grow.refl s5 _ (.ref (g5.at hy4))⟩
    · exact k5.elim
  · exact k1.elim
theorem de_make0 {c : String} {fn : Fn} (hC : G.cl c = some C) (M : Mk G.K C fa) (F : FnOk X.prog X.w X.K X.mg X.base (L2N.CX X.prog X.w) k fa fd ps (spF G np fn)) (hr : Room (k + 1) X.A) (hb : Binds X.K fd ps []) (tk : L2N.Takes X W)
    (hm : X.mg x = some (.ref C)) (hg : Gl X x := by rfl) (hdb : (x == ("__debug__" : Str)) = false := by decide) (hK : X.K = G.K := by rfl) :
    DE G X W (.Call (.Name x p) [] [] pos) (mMake c np fn mNil) := by
  refine ⟨_, pe_makeW0 (E := WE W) (by rw [hK]; exact M) F hr hg hm hb (fun σ => L2N.passAt tk σ) hdb, sim_make hC fun io H S en σ Q so re h => ?_⟩
  exact h io H Grow.refl so [] .nil
/-! ### o.f = v -/
def putN (f : Str) : List Str → List Str
  | [] => [f]
  | g :: r => if g = f then g :: r else g :: putN f r
def putW {α : Type} (f : Str) (y : α) : List Str → List α → List α
  | [], _ => [y]
  | _ :: _, [] => []
  | g :: r, v :: vs => if g = f then y :: vs else v :: putW f y r vs
theorem put_zip {f : Str} {y : V} : ∀ {ns : List Str} {vs : List V}, ns.length = vs.length → putF f y (ns.zip vs) = (putN f ns).zip (putW f y ns vs)
  | [], [], _ => rfl
  | n :: ns, v :: vs, h => by
    show putF f y ((n, v) :: ns.zip vs) = _
    unfold putF putN putW
    by_cases hn : n = f
    · rw [if_pos hn, if_pos hn, if_pos hn]
      rfl
    · rw [if_neg hn, if_neg hn, if_neg hn, put_zip (by simpa using h)]
      rfl
theorem put_len {α : Type} {f : Str} {y : α} : ∀ {ns : List Str} {vs : List α}, ns.length = vs.length → (putN f ns).length = (putW f y ns vs).length
  | [], [], _ => rfl
  | n :: ns, v :: vs, h => by
    unfold putN putW
    by_cases hn : n = f
    · rw [if_pos hn, if_pos hn]
      simpa using h
    · rw [if_neg hn, if_neg hn, List.length_cons, List.length_cons, put_len (by simpa using h)]
theorem put_rel {io : Io} {H : Hp} {f : Str} {d : Dt} {y : V} (ry : RelD G io H d y) : ∀ {ns : List Str} {ds : List Dt} {vs : List V}, RelDs G io H ds vs → RelDs G io H (putW f d ns ds) (putW f y ns vs)
  | [], _, _, _ => .cons ry .nil
  | _ :: _, _, _, .nil => .nil
  | n :: ns, _, _, .cons r rs => by
    unfold putW
    by_cases hn : n = f
    · rw [if_pos hn, if_pos hn]
      exact .cons ry rs
    · rw [if_neg hn, if_neg hn]
      exact .cons r (put_rel ry rs)
/-- a field of an object of the store is written -/
def setFld (cs : List String) (f : Str) (S : Store) (x d : Dt) : Option Store := match x with
  | .ref k => match S[k]? with
    | some (.ins c ns ds) => if c ∈ cs ∧ ns.length < 1000 then some (S.set k (.ins c (putN f ns) (putW f d ns ds))) else none
    | _ => none
  | _ => none
def mFldS (cs : List String) (f : Str) (mo me : Env → Store → R Dt) : Env → Store → RS := fun en S => (me en S).toS en fun d S1 => (mo en S1).toS en fun x S2 => match setFld cs f S2 x d with
  | some S3 => .ok .nx en S3
  | none => .stuck
theorem setFld_ok {io : Io} {H : Hp} {S S' : Store} {cs : List String} {x d : Dt} {vx v : V} (so : StoreOk G io S H) (rx : RelD G io H x vx) (rd : RelD G io H d v) (h : setFld cs f S x d = some S') :
    ∃ a C dx fs c, vx = .ref a ∧ H a = some (.ins C dx fs) ∧ G.cl c = some C ∧ c ∈ cs ∧ fs.length < 1000 ∧ Grow io H io (upd H a (.ins C dx (putF f v fs))) ∧ StoreOk G io S' (upd H a (.ins C dx (putF f v fs))) := by
  unfold setFld at h
  split at h
  · rename_i k
    split at h
    · rename_i c ns ds hS
      split at h
      · rename_i hc
        cases h
        cases rx with
        | @ref a _ hi =>
          have q := so.ob k _ a hS hi
          cases q with
          | @ins _ C dx _ _ _ vs h1 h2 h3 h4 =>
            have hl : ns.length = vs.length := h3.trans h4.length
            have hm : a ∈ io.l := List.mem_of_getElem? hi
            have g : ∀ u, Grow io H io (upd H a u) := fun u => ⟨⟨[], by simp⟩, fun b o h n _ => by
              rw [upd_ne (fun z => n (by rw [z]; exact hm))]
              exact h, fun a h n => absurd h n⟩
            obtain ⟨g2, s2⟩ := so.write (o := .ins c (putN f ns) (putW f d ns ds)) (u := .ins C dx (putF f v (ns.zip vs))) hi (by
              refine RelO.ins (dx := dx) (vs := putW f v ns vs) ?_ h2 (put_len h3) ((put_rel rd h4).mono (g _))
              rw [upd_same, put_zip hl])
            refine ⟨a, C, dx, _, c, rfl, h1, h2, hc.1, ?_, g2, s2⟩
            have := hc.2
            rw [List.length_zip, ← hl, Nat.min_self]
            exact this
      · cases h
    · cases h
  · cases h
/-- o.f as a target -/
def gFldT (K : PySem.W.Frag) (to : TE) (f : Str) : TG := fun v σ H Q => to σ H fun x H1 => ∃ a C dx fs, x = .ref a ∧ H1 a = some (.ins C dx fs) ∧ Cls K C ∧ NoAttr K C f ∧ fs.length < 1000 ∧ Q σ (upd H1 a (.ins C dx (putF f v fs)))
theorem pg_fld {to : TE} (ho : PE X o to) : PG X (.Attribute o f pos) (gFldT X.K to f) := by
  refine ⟨fun pins s σ H v u Q I r h => ?_⟩
  refine PySem.W.kas_attr (thn (ho.run pins s σ H _ I h) fun ov s1 ⟨x, H1, I1, r1, a, C, dx, fs, ex, ea, c, n, l, q⟩ => ?_)
  subst ex
  obtain rfl : ov = Value.ref a := r1
  exact setattr_ok I1 ea c n l r fun s2 I2 => ⟨σ, _, I2, q⟩
def gFldD (cs : List String) (f : Str) (mo : Env → Store → R Dt) : Dt → Env → Store → Option (Env × Store) := fun d en S => match mo en S with
  | .ok x S1 => (setFld cs f S1 x d).map fun S2 => (en, S2)
  | _ => none
theorem dg_fld (cs : List String) (ok : ClsOk G) (ho : DE G X W0 o mo) (hno : ∀ c ∈ cs, ∀ C, G.cl c = some C → NoAttr G.K C f) (hK : X.K = G.K := by rfl) : DG G X (.Attribute o f pos) (gFldD cs f mo) := by
  obtain ⟨t, p, q⟩ := ho
  refine ⟨_, pg_fld p, fun io H S en σ d v Q so re r h => ?_⟩
  unfold gFldD at h
  refine q io H S en σ _ so re ?_
  cases eo : mo en S with
  | stuck => simp [eo] at h
  | err x S1 => simp [eo] at h
  | ok x S1 =>
    simp only [eo] at h
    intro i1 H1 g1 s1 vx rx
    cases es : setFld cs f S1 x d with
    | none => simp [es] at h
    | some S3 =>
      simp only [es, Option.map_some] at h
      obtain ⟨a, C, dx, fs, c, h1, h2, h3, h4, h5, g3, s3⟩ := setFld_ok s1 rx (r.mono g1) es
      refine ⟨a, C, dx, fs, h1, h2, ?_, ?_, h5, h i1 _ (g1.trans g3) s3 σ (re.mono (g1.trans g3))⟩
      · rw [hK]
        exact ok.cls c C h3
      · rw [hK]
        exact hno c h4 C h3
theorem ds_fld {pos' : Pos} (cs : List String) (ok : ClsOk G) (ho : DE G X W o mo) (he : DE G X W e me) (hno : ∀ c ∈ cs, ∀ C, G.cl c = some C → NoAttr G.K C f) (hs : swapsWith e (some (.Attribute o f pos')) pos.line X.env = pure false := by rfl) (hK : X.K = G.K := by rfl) :
    DS G X W (.Assign [.Attribute o f pos'] e pos) (mFldS cs f mo me) := by
  obtain ⟨t, p, q⟩ := he
  obtain ⟨to, po, qo⟩ := ho
  refine ⟨_, ps_fld po p hs, fun io H S en σ D so re h => ?_⟩
  refine q io H S en σ _ so re (h.bind.imp (wx_of re) fun d S1 i1 H1 g1 s1 k1 v r => ?_)
  refine qo i1 H1 S1 en σ _ s1 (re.mono g1) (k1.bind.imp (wx_of (re.mono g1)) fun x S2 i2 H2 g2 s2 k2 vx rx => ?_)
  split at k2
  · rename_i S3 es
    obtain ⟨a, C, dx, fs, c, h1, h2, h3, h4, h5, g3, s3⟩ := setFld_ok s2 rx (r.mono g2) es
    refine ⟨a, C, dx, fs, h1, h2, ?_, ?_, h5, k2 i2 _ g3 s3 σ ((re.mono (g1.trans g2)).mono g3)⟩
    · rw [hK]
      exact ok.cls c C h3
    · rw [hK]
      exact hno c h4 C h3
  · exact k2.elim
end
end Dv
set_option Elab.async false
set_option linter.all false
set_option maxRecDepth 100000
set_option maxHeartbeats 4000000
set_option autoImplicit false
namespace Dv
open PySem PySem.Spec PyProof.Rows L2
/-! exceptions of the text: an __init__ that stores a word, and at most one of its arguments -/
section
/-! ### raise -/
end
section
end
end Dv
set_option Elab.async false
set_option linter.all false
set_option maxRecDepth 100000
set_option maxHeartbeats 4000000
set_option autoImplicit false
namespace Dv
open PySem PySem.Spec PyProof.Rows L2
/-! x in xs -/
def flatD : Dt → Bool
  | .non => true
  | .bl _ => true
  | .int _ => true
  | .str _ => true
  | _ => false
section
variable {G : Gv} {io : Io} {H : Hp} {S : Store}
theorem flat_rel {d : Dt} {v : V} (r : RelD G io H d v) (h : flatD d = true) : flatV v = true := by
  cases r with
  | non => rfl
  | bl _ => rfl
  | int _ => rfl
  | str _ => rfl
  | _ => exact absurd h (by simp [flatD])
theorem flat_all {ds : List Dt} : ∀ {vs : List V}, RelDs G io H ds vs → ds.all flatD = true → vs.all flatV = true := by
  induction ds with
  | nil =>
    intro vs r _
    cases r
    rfl
  | cons d ds ih =>
    intro vs r h
    cases r with
    | cons r1 r2 =>
      rw [List.all_cons, Bool.and_eq_true] at h ⊢
      exact ⟨flat_rel r1 h.1, ih r2 h.2⟩
theorem eq_flat {d e : Dt} {v u : V} (r : RelD G io H d v) (t : RelD G io H e u) (h : flatD d = true) (k : flatD e = true) : eqV v u = eqD d e := by
  cases r with
  | non => cases t <;> first | rfl | exact absurd k (by simp [flatD])
  | bl a => cases t <;> first | rfl | (cases a <;> rfl) | exact absurd k (by simp [flatD])
  | int a => cases t <;> first | rfl | exact absurd k (by simp [flatD])
  | str a => cases t <;> first | rfl | exact absurd k (by simp [flatD])
  | _ => exact absurd h (by simp [flatD])
theorem any_flat {d : Dt} {v : V} (r : RelD G io H d v) (h : flatD d = true) {ds : List Dt} : ∀ {vs : List V}, RelDs G io H ds vs → ds.all flatD = true → inV v vs = ds.any fun y => eqD y d := by
  induction ds with
  | nil =>
    intro vs t _
    cases t
    rfl
  | cons e ds ih =>
    intro vs t k
    cases t with
    | cons t1 t2 =>
      rw [List.all_cons, Bool.and_eq_true] at k
      have q := ih t2 k.2
      unfold inV at q ⊢
      rw [List.any_cons, List.any_cons, eq_flat t1 r k.1 h, q]
end
/-- x in y: flat items of a list or tuple; a sign of a text -/
def mIn (neg : Bool) (x y : Dt) (S : Store) : R Dt := match y with
  | .str b => match x with
    | .str a => match a.cps.toList with
      | [c] => .ok (.bl (if neg then !decide (c ∈ b.cps.toList) else decide (c ∈ b.cps.toList))) S
      | _ => .stuck
    | _ => .stuck
  | y => match asS S y with
    | some ds => if flatD x = true ∧ ds.all flatD = true then .ok (.bl (if neg then !(ds.any fun z => eqD z x) else (ds.any fun z => eqD z x))) S else .stuck
    | none => .stuck
theorem str_one {a : Str} {c : Nat} (h : a.cps.toList = [c]) : a = ⟨#[c]⟩ := by
  cases a with
  | mk cps =>
    have e : cps = #[c] := by
      apply Array.toList_inj.mp
      simpa using h
    rw [e]
section
variable {G : Gv} {X : Cx}
theorem in_seq_ok {io : Io} {H : Hp} {S : Store} {x y : Dt} {vx vy : V} {ds : List Dt} {Q : VK} {neg : Bool} (so : StoreOk G io S H) (rx : RelD G io H x vx) (ry : RelD G io H y vy) (ha : asS S y = some ds) (h1 : flatD x = true) (h2 : ds.all flatD = true)
    (h : Out G io H (fun _ _ _ => False) (poE G Q) (.ok (.bl (if neg then !(ds.any fun z => eqD z x) else (ds.any fun z => eqD z x))) S)) : rIn G.K neg vx vy H Q := by
  obtain ⟨a, vs, rfl, hs, rs⟩ := asS_ok so ry ha
  refine ⟨a, vs, rfl, hs, flat_rel rx h1, flat_all rs h2, ?_⟩
  rw [any_flat rx h1 rs h2]
  exact h io H Grow.refl so _ (.bl _)
theorem sim_in {neg : Bool} : SimO G (fun x y H Q => (∃ (c : Nat) (z : Str), x = .str ⟨#[c]⟩ ∧ y = .str z ∧ Q (.bl (if neg then !decide (c ∈ z.cps.toList) else decide (c ∈ z.cps.toList))) H) ∨ rIn G.K neg x y H Q) (mIn neg) := by
  intro io H S vx vy x y Q so rx ry h
  unfold mIn at h
  split at h
  · rename_i b
    split at h
    · rename_i a
      split at h
      · rename_i c hc
        cases rx
        cases ry
        rw [str_one hc]
        exact .inl ⟨c, b, rfl, rfl, h io H Grow.refl so _ (.bl _)⟩
      · exact h.elim
    · exact h.elim
  · split at h
    · rename_i ds ha
      split at h
      · rename_i hf
        exact .inr (in_seq_ok so rx ry ha hf.1 hf.2 h)
      · exact h.elim
    · exact h.elim
theorem in_noErr {neg : Bool} (x y : Dt) (S : Store) : NoErr (mIn neg x y S) := by
  unfold mIn
  split
  · split
    · split <;> trivial
    · trivial
  · split
    · split <;> trivial
    · trivial
theorem do_in (hK : X.K = G.K := by rfl) : DO G X (compareOp .In) (mIn false) := by
  refine ⟨_, (op_in_sign (X := X)).or op_in_seq, ?_, in_noErr⟩
  rw [hK]
  exact sim_in (neg := false)
theorem do_notIn (hK : X.K = G.K := by rfl) : DO G X (compareOp .NotIn) (mIn true) := by
  refine ⟨_, (op_notIn_sign (X := X)).or op_notIn_seq, ?_, in_noErr⟩
  rw [hK]
  exact sim_in (neg := true)
end
end Dv
set_option Elab.async false
set_option linter.all false
set_option maxRecDepth 100000
set_option maxHeartbeats 4000000
set_option autoImplicit false
namespace Dv
open PySem PySem.Spec PyProof.Rows L2
/-! texts -/
section
end
end Dv
set_option Elab.async false
set_option linter.all false
set_option maxRecDepth 100000
set_option maxHeartbeats 4000000
set_option autoImplicit false
namespace Dv
open PySem PySem.Spec PyProof.Rows L2
/-! lists of the store: pop(i), clear() -/
section
variable {G : Gv} {X : Cx} {W : WX} {o e : Expr} {mo me : Env → Store → R Dt} {apos cpos : Pos}
theorem rel_erase {io : Io} {H : Hp} : ∀ {ds : List Dt} {vs : List V} (k : Nat), RelDs G io H ds vs → RelDs G io H (ds.eraseIdx k) (vs.eraseIdx k)
  | _, _, _, .nil => by simpa using RelDs.nil
  | _, _, 0, .cons r rs => rs
  | _, _, k + 1, .cons r rs => .cons r (rel_erase k rs)
/-- xs.pop(i) -/
def popAt (S : Store) (x : Dt) (i : Int) : R Dt := match x with
  | .ref k => match S[k]? with
    | some (.lst ds) => if -(2 ^ 63) ≤ i ∧ i < 2 ^ 63 then (match seqIndex? i ds.length with
      | some j => match ds[j]? with
        | some d => .ok d (S.set k (.lst (ds.eraseIdx j)))
        | none => .stuck
      | none => .stuck) else .stuck
    | _ => .stuck
  | _ => .stuck
def mPop1 (mo me : Env → Store → R Dt) : Env → Store → R Dt := fun en S => (mo en S).bind fun x S1 => if isLstR S1 x = true then (me en S1).bind fun y S2 => match y with
  | .int i => popAt S2 x i
  | _ => .stuck else .stuck
theorem de_pop1 (ho : DE G X W o mo) (he : DE G X W e me) (hK : X.K = G.K := by rfl)
    (hbase : attributeBase o "pop" X.env (eval o X.env) = eval o X.env := by rfl)
    (hfew : ((backTo cpos (starEach [e] X.env)).all (fun x => !x.1) && (backToKw cpos (keywordEach [] X.env)).all (fun x => x.1.isSome)
      && decide ([e].length + ([] : List Keyword).length + (if ([] : List Keyword).isEmpty then 0 else 1) < 30)) = true := by rfl)
    (hline : (apos.endLine == cpos.line) = true := by rfl) (hs : starEach [e] X.env = (false, eval e X.env) :: starEach [] X.env := by rfl) :
    DE G X W (.Call (.Attribute o "pop" apos) [e] [] cpos) (mPop1 mo me) := by
  obtain ⟨t, p, q⟩ := ho
  obtain ⟨t', p', q'⟩ := he
  refine ⟨_, pe_bm PySem.F.plainAttrs_list PySem.F.slot_list_pop PySem.F.type_list_pop mt_popAt p (pa_cons p' pa_nil hs) hbase hfew hline hs rfl, fun io H S en σ Q so re h => ?_⟩
  refine q io H S en σ _ so re (h.bind.imp (fun _ _ _ _ z => z) fun x S1 i1 H1 g1 s1 k1 v r => ?_)
  split at k1
  · rename_i hl
    obtain ⟨k, ds, a, xs, rfl, hS, ha, rfl, hH, rs⟩ := isLstR_ok s1 r hl
    refine ⟨.inl ⟨rfl, xs, .inl (.inl hH)⟩, ?_⟩
    refine q' i1 H1 S1 en σ _ s1 (re.mono g1) (k1.bind.imp (fun _ _ _ _ z => z) fun d S2 i2 H2 g2 s2 k2 vd rd => ?_)
    split at k2
    · rename_i i
      cases rd
      unfold popAt at k2
      dsimp only at k2
      split at k2
      · rename_i ds2 hS2
        split at k2
        · rename_i hi
          split at k2
          · rename_i j hj
            split at k2
            · rename_i d hd
              have e2 := g2.at ha
              obtain ⟨a', h1, h2⟩ := s2.at_ hS2
              rw [e2] at h1
              cases h1
              cases h2 with
              | @lst _ _ us h3 h4 =>
                have l := h4.length
                obtain ⟨g3, s3⟩ := so_wr (ds := ds2.eraseIdx j) s2 e2 (rel_erase j h4)
                obtain ⟨y, h5, h6⟩ := h4.get hd
                exact ⟨a, us, i, j, y, rfl, rfl, h3, hi.1, hi.2, by rw [← l]; exact hj, h5, k2 i2 _ g3 s3 _ (h6.mono g3)⟩
            · exact k2.elim
          · exact k2.elim
        · exact k2.elim
      · exact k2.elim
    · exact k2.elim
  · exact k1.elim
/-- xs.clear() -/
def mClear (mo : Env → Store → R Dt) : Env → Store → R Dt := fun en S => (mo en S).bind fun x S1 => match x with
  | .ref k => match S1[k]? with
    | some (.lst _) => .ok .non (S1.set k (.lst []))
    | _ => .stuck
  | _ => .stuck
theorem de_clear (ho : DE G X W o mo) (hK : X.K = G.K := by rfl)
    (hbase : attributeBase o "clear" X.env (eval o X.env) = eval o X.env := by rfl) (hline : (apos.endLine == cpos.line) = true := by rfl) :
    DE G X W (.Call (.Attribute o "clear" apos) [] [] cpos) (mClear mo) := by
  obtain ⟨t, p, q⟩ := ho
  refine ⟨_, pe_bm0 PySem.F.plainAttrs_list PySem.F.slot_list_clear PySem.F.type_list_clear mt_clear p hbase hline, fun io H S en σ Q so re h => ?_⟩
  refine q io H S en σ _ so re (h.bind.imp (fun _ _ _ _ z => z) fun x S1 i1 H1 g1 s1 k1 v r => ?_)
  split at k1
  · rename_i k
    split at k1
    · rename_i ds hS
      obtain ⟨k', ds', a, xs, e0, hS', ha, rfl, hH, rs⟩ := isLstR_ok s1 r (by unfold isLstR; simp only [hS])
      cases e0
      obtain ⟨g3, s3⟩ := so_wr (ds := []) (xs := []) s1 ha .nil
      exact ⟨.inl ⟨rfl, xs, .inl (.inl hH)⟩, a, xs, rfl, rfl, hH, k1 i1 _ g3 s3 _ .non⟩
    · exact k1.elim
  · exact k1.elim
end
end Dv
set_option Elab.async false
set_option linter.all false
set_option maxRecDepth 100000
set_option maxHeartbeats 4000000
set_option autoImplicit false
namespace Dv
open PySem PySem.Spec PyProof.Rows L2
/-! dicts with text keys: the display, reading -/
def mPs : List (Env → Store → R Dt) → Env → Store → R (List Dt)
  | [] => fun _ S => .ok [] S
  | m :: ms => fun en S => (m en S).bind fun d S1 => (mPs ms en S1).bind fun ds S2 => .ok (d :: ds) S2
/-- keys and values, from the left -/
inductive DPs (G : Gv) (X : Cx) (W : WX) : List Str → List Expr → List (TE × TE) → List (Env → Store → R Dt) → Prop
  | nil : DPs G X W [] [] [] []
  | cons {k : Str} {e : Expr} {ks : List Str} {es : List Expr} {te : TE} {ts : List (TE × TE)} {m : Env → Store → R Dt} {ms : List (Env → Store → R Dt)} (pe : PE X e te) (q : SimE G W te m) (r : DPs G X W ks es ts ms) :
    DPs G X W (k :: ks) (e :: es) ((tC (.str k), te) :: ts) (m :: ms)
section
variable {G : Gv} {X : Cx} {W : WX}
theorem dps_sim {ks : List Str} {es : List Expr} {ts : List (TE × TE)} {ms : List (Env → Store → R Dt)} (h : DPs G X W ks es ts ms) : ∀ io H S en σ (Q : List (V × V) → Hp → Prop), StoreOk G io S H → RelEnv G io H en σ →
    Out G io H (wxE G W σ) (fun ds _ io' H' => ∀ vs, RelDs G io' H' ds vs → Q ((ks.map V.str).zip vs) H') (mPs ms en S) → tPairs ts σ H Q := by
  induction h with
  | nil => exact fun io H S en σ Q so re k => k io H Grow.refl so [] .nil
  | @cons k e ks es te ts m ms pe q r ih =>
    intro io H S en σ Q so re hh
    show tPairs ((tC (V.str k), te) :: ts) σ H Q
    refine q io H S en σ _ so re (hh.bind.imp (fun _ _ _ _ z => z) fun d S1 i1 H1 g1 s1 k1 v rd => ?_)
    refine ih i1 H1 S1 en σ _ s1 (re.mono g1) (k1.bind.imp (fun _ _ _ _ z => z) fun ds S2 i2 H2 g2 s2 k2 vs rs => ?_)
    exact k2 i2 H2 Grow.refl s2 (v :: vs) (.cons (rd.mono g2) rs)
theorem dps_len {ks : List Str} {es : List Expr} {ts : List (TE × TE)} {ms : List (Env → Store → R Dt)} (h : DPs G X W ks es ts ms) : ∀ en S ds S', mPs ms en S = .ok ds S' → ds.length = ks.length := by
  induction h with
  | nil => intro en S ds S' e; cases e; rfl
  | @cons k e ks es te ts m ms pe q r ih =>
    intro en S ds S' hh
    unfold mPs at hh
    cases e1 : m en S with
    | stuck => rw [e1] at hh; cases hh
    | err x S1 => rw [e1] at hh; cases hh
    | ok d S1 =>
      rw [e1] at hh
      dsimp only [R.bind] at hh
      cases e2 : mPs ms en S1 with
      | stuck => rw [e2] at hh; cases hh
      | err x S1 => rw [e2] at hh; cases hh
      | ok es2 S2 =>
        rw [e2] at hh
        cases hh
        rw [List.length_cons, List.length_cons, ih _ _ _ _ e2]
theorem merge_new : ∀ {ks : List Key} {vs : List V} {acc : List (Key × V)}, ks.Nodup → (∀ k ∈ ks, ∀ p ∈ acc, p.1 ≠ k) → (ks.zip vs).foldl (fun acc kv => putK acc kv.1 kv.2) acc = acc ++ ks.zip vs
  | [], _, _, _, _ => by simp
  | _ :: _, [], _, _, _ => by simp
  | k :: ks, v :: vs, acc, nd, hn => by
    rw [List.zip_cons_cons, List.foldl_cons]
    have hp : putK acc k v = acc ++ [(k, v)] := by
      unfold putK
      rw [if_neg]
      intro z
      obtain ⟨p, hp, e⟩ := List.any_eq_true.mp z
      exact hn k List.mem_cons_self p hp (of_decide_eq_true e)
    rw [hp, merge_new (List.nodup_cons.mp nd).2 fun k' hk p hp => ?_]
    · simp
    · rcases List.mem_append.mp hp with z | z
      · exact hn k' (List.mem_cons_of_mem _ hk) p z
      · rw [List.mem_singleton] at z
        rw [z]
        exact fun e => (List.nodup_cons.mp nd).1 (by rw [show k = k' from e]; exact hk)
/-- {k: e, ..} with text keys -/
def mDict (ks : List Str) (ms : List (Env → Store → R Dt)) : Env → Store → R Dt := fun en S => (mPs ms en S).bind fun ds S1 => if ds.length = ks.length then .ok (.dct (ks.map Sum.inr) ds) S1 else .stuck
theorem env_hide {io : Io} {H : Hp} {p : Addr} {o : HO} {en : Env} {σ : L2.St} (hp : H p = none) (re : RelEnv G io H en σ) : RelEnv G (io.hide p) (upd H p o) en σ :=
  ⟨re.len, fun i d h => let ⟨v, h1, h2⟩ := re.at_ i d h; ⟨v, h1, (h2.hide hp).mono (ExtH.new hp).grow⟩⟩
theorem nodup_inr {ks : List Str} (h : ks.Nodup) : (ks.map (Sum.inr : Str → Key)).Nodup := by
  induction ks with
  | nil => exact List.nodup_nil
  | cons k ks ih =>
    obtain ⟨h1, h2⟩ := List.nodup_cons.mp h
    refine List.nodup_cons.mpr ⟨fun z => ?_, ih h2⟩
    obtain ⟨k', hk, e⟩ := List.mem_map.mp z
    exact h1 (by rw [← Sum.inr.inj e]; exact hk)
theorem zip_keys : ∀ (ks : List Str) (vs : List V), (ks.map V.str).zip vs = ((ks.map (Sum.inr : Str → Key)).zip vs).map fun kv => (kV kv.1, kv.2)
  | [], _ => rfl
  | _ :: _, [] => rfl
  | k :: ks, v :: vs => by
    rw [List.map_cons, List.map_cons, List.zip_cons_cons, List.zip_cons_cons, List.map_cons, zip_keys ks vs]
    rfl
theorem de_dict {pos : Pos} {keys : List (Option Expr)} {es : List Expr} {ks : List Str} {ts : List (TE × TE)} {ms : List (Env → Store → R Dt)} (h : DPs G X W ks es ts ms) (pp : PPs X pos keys es ts) (hall : keys.all (·.isSome) = true) (hl : keys.length = es.length) (h0 : keys ≠ []) (h15 : keys.length ≤ 15) (hk : ks.length ≤ 15) (nd : ks.Nodup) :
    DE G X W (.Dict keys es pos) (mDict ks ms) := by
  refine ⟨_, pe_disp pp hall hl h0 h15, fun io H S en σ Q so re hh => ?_⟩
  intro p hp
  have ex : ExtH H (upd H p (.dK [])) := ExtH.new hp
  refine dps_sim h (io.hide p) _ S en σ _ (so_hide so hp) (env_hide hp re) ?_
  have hb := hh.bind
  cases er : mPs ms en S with
  | stuck => rw [er] at hb; exact hb
  | err x S1 =>
    rw [er] at hb
    intro io' H' g s cls dx rx
    obtain ⟨i2, rfl⟩ := io_hide g
    have g2 := ex.grow.trans (grow_un g)
    obtain ⟨C, a, vs, h1, h2, h3, h4, h5, h6, h7⟩ := rx
    exact hb i2 H' g2 (so_unhide s) cls dx ⟨C, a, vs, h1, h2, h3, h4, fun z => h5 (hide_mem.mpr (.inr z)), h6, h7.unhide⟩
  | ok ds S1 =>
    rw [er] at hb
    intro io' H' g s vs rs
    obtain ⟨i2, rfl⟩ := io_hide g
    have gu := grow_un g
    have g2 := ex.grow.trans gu
    have hp2 : p ∉ io.l := fun z => so.fresh hp (.inl z)
    have h3 : H' p = some (.dK []) := gu.keep p _ upd_same hp2
    have pl : p ∉ i2.l := fun z => s.dis p z List.mem_cons_self
    have ph : p ∉ i2.h := by
      obtain ⟨t, e⟩ := g2.pre
      rw [e]
      exact fun z => so.fresh hp (.inr z)
    have len := dps_len h _ _ _ _ er
    have lv := rs.length
    refine ⟨h3, (ks.map (Sum.inr : Str → Key)).zip vs, zip_keys ks vs, ?_, ?_⟩
    · rw [List.length_zip, List.length_map]
      omega
    · have em : mergeK [] ((ks.map (Sum.inr : Str → Key)).zip vs) = (ks.map (Sum.inr : Str → Key)).zip vs := by
        unfold mergeK
        rw [merge_new (nodup_inr nd) fun _ _ p hp => by cases hp]
        rfl
      rw [em]
      have s3 := so_unhide (so_hid (o := .dK ((ks.map (Sum.inr : Str → Key)).zip vs)) s)
      have r3 := (rs.monoB (base_hid (o := .dK ((ks.map (Sum.inr : Str → Key)).zip vs)))).unhide
      have g3 : Grow io H i2 (upd H' p (.dK ((ks.map (Sum.inr : Str → Key)).zip vs))) := by
        refine ⟨g2.pre, fun b o hb nb nt => ?_, g2.new⟩
        rw [upd_ne fun z => by rw [z, hp] at hb; cases hb]
        exact g2.keep b o hb nb nt
      have k := hb i2 _ g3 s3
      dsimp only at k
      rw [if_pos len] at k
      exact k i2 _ Grow.refl s3 _ (.dct upd_same (fun z => z.elim pl ph) (by rw [List.length_map]; omega) r3)
/-! reading by a text -/
def lookK : List Key → List Dt → Key → Option Dt
  | k :: ks, d :: ds, x => if k = x then some d else lookK ks ds x
  | _, _, _ => none
theorem lookK_rel {io : Io} {H : Hp} {x : Key} : ∀ {ks : List Key} {ds : List Dt} {vs : List V} {d : Dt}, RelDs G io H ds vs → lookK ks ds x = some d → ∃ v, valV (ks.zip vs) x = some v ∧ RelD G io H d v
  | [], _, _, _, _, h => by cases h
  | _ :: _, _, _, _, .nil, h => by cases h
  | k :: ks, _, _, d, .cons r rs, h => by
    unfold lookK at h
    split at h
    · rename_i e
      cases h
      exact ⟨_, valV_pos (p := (k, _)) e, r⟩
    · rename_i e
      obtain ⟨v, h1, h2⟩ := lookK_rel rs h
      exact ⟨v, (valV_neg (p := (k, _)) e).trans h1, h2⟩
def dctD (S : Store) (d : Dt) : Option (List Key × List Dt) := match d with
  | .dct ks ds => some (ks, ds)
  | .ref i => match S[i]? with
    | some (.dct ks ds) => some (ks, ds)
    | _ => none
  | _ => none
theorem dctD_ok {io : Io} {H : Hp} {S : Store} {d : Dt} {v : V} {ks : List Key} {ds : List Dt} (so : StoreOk G io S H) (r : RelD G io H d v) (h : dctD S d = some (ks, ds)) :
    ∃ a vs, v = .ref a ∧ H a = some (.dK (ks.zip vs)) ∧ ks.length = ds.length ∧ RelDs G io H ds vs := by
  cases r with
  | dct h1 h2 h3 h4 =>
    cases h
    exact ⟨_, _, rfl, h1, h3, h4⟩
  | @ref a i hi =>
    unfold dctD at h
    dsimp only at h
    split at h
    · rename_i ks' ds' hS
      cases h
      have q := so.ob i _ a hS hi
      cases q with
      | dct h1 h2 h3 => exact ⟨_, _, rfl, h1, h2, h3⟩
    · cases h
  | _ => cases h
/-- o["k"] -/
def mGetS (k : Str) (mo : Env → Store → R Dt) : Env → Store → R Dt := fun en S => (mo en S).bind fun x S1 => match dctD S1 x with
  | some (ks, ds) => match lookK ks ds (.inr k) with
    | some d => .ok d S1
    | none => .stuck
  | none => .stuck
theorem de_getS {o : Expr} {mo : Env → Store → R Dt} {k : Str} {j : Nat} {cp pos : Pos} (hu : X.A.units + 64 < cLine) (ho : DE G X W o mo) (hs : NoSl (.Constant (.str k) j cp)) : DE G X W (.Subscript o (.Constant (.str k) j cp) pos) (mGetS k mo) := by
  obtain ⟨t, p, q⟩ := ho
  refine ⟨_, pe_dget (by omega) p pe_str hs, fun io H S en σ Q so re h => ?_⟩
  refine q io H S en σ _ so re (h.bind.imp (fun _ _ _ _ z => z) fun x S1 i1 H1 g1 s1 k1 v r => ?_)
  split at k1
  · rename_i ks ds hd
    obtain ⟨a, vs, rfl, h1, h2, h3⟩ := dctD_ok s1 r hd
    split at k1
    · rename_i d hl
      obtain ⟨u, h4, h5⟩ := lookK_rel h3 hl
      refine ⟨a, u, rfl, ?_, k1 i1 H1 Grow.refl s1 u h5⟩
      rw [← h4]
      exact DGet.k (k := .inr k) h1
    · exact k1.elim
  · exact k1.elim
/-- a display's parts, as one judgement -/
def DD (G : Gv) (X : Cx) (W : WX) (pos : Pos) (keys : List (Option Expr)) (es : List Expr) (ks : List Str) (ms : List (Env → Store → R Dt)) : Prop := ∃ ts, DPs G X W ks es ts ms ∧ PPs X pos keys es ts
theorem dd_nil {pos : Pos} : DD G X W pos [] [] [] [] := ⟨[], .nil, pps_nil⟩
theorem dd_cons {pos kp : Pos} {k : Str} {j : Nat} {e : Expr} {m : Env → Store → R Dt} {keys : List (Option Expr)} {es : List Expr} {ks : List Str} {ms : List (Env → Store → R Dt)} (he : DE G X W e m) (r : DD G X W pos keys es ks ms) :
    DD G X W pos (some (.Constant (.str k) j kp) :: keys) (e :: es) (k :: ks) (m :: ms) := by
  obtain ⟨te, pe, q⟩ := he
  obtain ⟨ts, d, p⟩ := r
  exact ⟨_, .cons pe q d, pps_cons pe_str pe p⟩
theorem de_dd {pos : Pos} {keys : List (Option Expr)} {es : List Expr} {ks : List Str} {ms : List (Env → Store → R Dt)} (h : DD G X W pos keys es ks ms) (hall : keys.all (·.isSome) = true := by rfl) (hl : keys.length = es.length := by rfl) (h0 : keys ≠ [] := by exact List.cons_ne_nil _ _) (h15 : keys.length ≤ 15 := by exact Nat.le_of_ble_eq_true rfl) (hk : ks.length ≤ 15 := by exact Nat.le_of_ble_eq_true rfl) (nd : ks.Nodup := by decide +kernel) :
    DE G X W (.Dict keys es pos) (mDict ks ms) := by
  obtain ⟨ts, d, p⟩ := h
  exact de_dict d p hall hl h0 h15 hk nd
end
end Dv
set_option Elab.async false
set_option linter.all false
set_option maxRecDepth 100000
set_option maxHeartbeats 4000000
set_option autoImplicit false
/-! targets with a star: a, b, *c = a tuple -/
namespace PySem.W
open PySem PySem.Spec PySem.Calls PyProof.Rows
section
variable {prog : Program} {w : World} {A : Around} {E : Value → Shared → Prop} {s : Shared} {env : Env} {elts : List Expr} {k : Nat} {pos : Pos}
theorem dv_starT {l : Addr} {items : Array Value} {n i : Nat} {Q : List Value → Shared → Prop} (hl : IsTup s.heap l items) (hh : A.handled = none) (hi : i < n) (hn : n ≤ items.size + 1) (hz : items.size ≤ 16384)
    (h : ∀ (h2 : Heap) (tk : Nat), (∀ b o, s.heap.get? b = some o → h2.get? b = some o) → Q (items.toList.take i ++ [.ref h2.objs.size] ++ (items.toList.drop i).drop (items.size + 1 - n)) { s with heap := h2.push { cls := .type "list", data := .seq ((items.toList.drop i).take (items.size + 1 - n)).toArray }, toks := tk }) :
    wpAny (model prog w) A (unpackItems (.ref l) n (some i)) Q E s := by
  have hlt : l ≠ s.heap.objs.size := by obtain ⟨o, ho, _⟩ := hl; exact Nat.ne_of_lt (Heap.lt_size ho)
  have hll : l < s.heap.objs.size := by obtain ⟨o, ho, _⟩ := hl; exact Heap.lt_size ho
  unfold unpackItems
  refine wpAny_bind ?_
  unfold notIterableAtAll
  refine wpAny_bind (wpAny_specialOf hl.typeIs slot_tuple_iter.lookup ?_)
  refine wpAny_pure ?_
  simp only [Bool.false_eq_true, if_false]
  refine wpAny_bind (wpAny_holding (iter_tuple hl ?_))
  refine wpAny_bind (wpAny_holding (draw_tuple hlt i 0 _ _ ⟨_, Heap.get?_push_size _ rfl, rfl, rfl⟩ (hl.push _) (by omega) fun h₁ hit₁ hs₁ => ?_))
  have hl₁ : IsTup h₁ l items := (hl.push _).extBut hs₁.extBut hlt
  rw [Nat.zero_add] at hit₁
  have hit₁' := hit₁
  obtain ⟨oi, hoi, _⟩ := hit₁'
  have hl₁' := hl₁
  obtain ⟨ol, hol, _⟩ := hl₁'
  rw [List.drop_zero]
  have hfl : (items.toList.take i).length = i := by rw [List.length_take, Array.length_toList]; omega
  rw [if_neg (show ¬ ((items.toList.take i).length < i) by rw [hfl]; omega)]
  refine wpAny_bind (wpAny_holding (kun_collect (s := { s with heap := h₁ }) (T := "tuple_iterator") (.inr (.inr (.inr rfl))) (Walks.tuple (A := A.in1) hh s.heap.objs.size l hlt items) (fun j u st => st.1.typeIs) (k := i) (by omega) ⟨hit₁, hl₁⟩ (Heap.lt_size hoi) (Heap.lt_size hol) (fun h₂ tk hk => ?_) (by rw [sizeLine_eq]; omega)))
  have hrl : (items.toList.drop i).length = items.size - i := by rw [List.length_drop, Array.length_toList]
  have hmid : (items.toList.drop i).length - (n - 1 - i) = items.size + 1 - n := by rw [hrl]; omega
  show wpAny _ _ (if (items.toList.drop i).length < n - 1 - i then _ else _) _ _ _
  rw [if_neg (by rw [hrl]; omega)]
  show wpAny _ _ (newList ((items.toList.drop i).take ((items.toList.drop i).length - (n - 1 - i))) >>= fun d => pure (items.toList.take i ++ [d] ++ (items.toList.drop i).drop ((items.toList.drop i).length - (n - 1 - i)))) _ _ _
  rw [hmid]
  have he : Heap.ExtBut s.heap.objs.size s.heap h₂ := fun b o hb e => hk b o hb (hs₁.extBut b o hb (Heap.get?_push_of_some _ e))
  exact wpAny_bind (wpAny_newList (s := { s with heap := h₂, toks := tk }) (wpAny_pure (h h₂ tk fun b o e => he b o (Nat.ne_of_lt (Heap.lt_size e)) e)))
theorem dv_assignT {l : Addr} {items : Array Value} {n i : Nat} {Q : Unit → Shared → Prop} (hl : IsTup s.heap l items) (hh : A.handled = none) (hlen : (assignEach elts env).length = n) (hstar : (assignEach elts env).findIdx? (·.1) = some i)
    (hi : i < n) (hn : n ≤ items.size + 1) (hz : items.size ≤ 16384)
    (h : ∀ (h2 : Heap) (tk : Nat), (∀ b o, s.heap.get? b = some o → h2.get? b = some o) → wpAny (model prog w) A (assignInOrder ((assignEach elts env).map (·.2)) (items.toList.take i ++ [.ref h2.objs.size] ++ (items.toList.drop i).drop (items.size + 1 - n))) Q E
      { s with heap := h2.push { cls := .type "list", data := .seq ((items.toList.drop i).take (items.size + 1 - n)).toArray }, toks := tk }) :
    wpAny (model prog w) A (assign (.Tuple elts k pos) env (.ref l)) Q E s := by
  rw [assign_Tuple]
  refine wpAny_bind (wpAny_standAt ?_)
  unfold unpack
  rw [hlen, hstar]
  exact wpAny_bind (wpAny_holding (dv_starT hl hh hi hn hz h))
end
end PySem.W
namespace Dv
open PySem PySem.Spec PyProof.Rows L2
def gStar (K : PySem.W.Frag) (n i : Nat) (t : TGs) : TG := fun v σ H Q => ∃ a xs, v = .ref a ∧ SqT K H a xs ∧ n ≤ xs.length + 1 ∧ xs.length ≤ 16384 ∧ ∀ p, H p = none → t (xs.take i ++ [.ref p] ++ (xs.drop i).drop (xs.length + 1 - n)) σ (upd H p (.lst ((xs.drop i).take (xs.length + 1 - n)))) Q
theorem vals_take {xs : List V} {us : List Value} (k : Nat) (r : Vals xs us) : Vals (xs.take k) (us.take k) := by
  induction r generalizing k with
  | nil => simpa using Paired.nil
  | cons a b ih =>
    cases k with
    | zero => exact .nil
    | succ k => exact .cons a (ih k)
theorem vals_drop {xs : List V} {us : List Value} (k : Nat) (r : Vals xs us) : Vals (xs.drop k) (us.drop k) := by
  induction r generalizing k with
  | nil => simpa using Paired.nil
  | cons a b ih =>
    cases k with
    | zero => exact .cons a b
    | succ k => exact ih k
theorem pg_star {X : Cx} {es : List Expr} {k : Nat} {t : TGs} {n i : Nat} {pos : Pos} (hc : X.calm = true) (h : PGs X es t) (hi : i < n)
    (hn : (assignEach es X.env).length = n := by rfl) (hst : (assignEach es X.env).findIdx? (·.1) = some i := by rfl) : PG X (.Tuple es k pos) (gStar X.K n i t) := by
  refine ⟨fun pins s σ H v u Q I r hw => ?_⟩
  obtain ⟨a, xs, e1, hq, hl, hz2, hw⟩ := hw
  subst e1
  cases r
  obtain ⟨its, rv, ht, hz⟩ := I.tuple hq
  have lv : xs.length = its.length := rv.length
  have ls : its.toArray.size = xs.length := by rw [List.size_toArray, lv]
  refine PySem.W.dv_assignT ht (I.ok.hd hc) hn hst hi (by omega) (by omega) fun h2 tk hx => ?_
  have I1 : Inv X pins σ H { s with heap := h2 } := I.kept (t' := s.toks) fun b o e => hx b o e
  have hf : H h2.objs.size = none := I1.hok.fresh (Nat.le_refl _)
  rw [ls]
  have I2 : Inv X pins σ (upd H h2.objs.size (.lst ((xs.drop i).take (xs.length + 1 - n)))) { s with heap := h2.push { cls := .type "list", data := .seq ((its.drop i).take (xs.length + 1 - n)).toArray }, toks := tk } := by
    refine I1.laid (t' := tk) (fun b u e => Heap.get?_push_of_some _ e) (Nat.le_refl _) ?_
    refine ⟨?_, _, 0, vals_take _ (vals_drop i rv), Heap.get?_push_size _ rfl⟩
    rw [List.length_take, List.length_drop, sizeLine_eq]
    omega
  refine h.run pins _ σ _ _ _ Q I2 ?_ (hw _ hf)
  have r1 : Vals [V.ref h2.objs.size] [Value.ref h2.objs.size] := .cons rfl .nil
  exact ((vals_take i rv).append r1).append (vals_drop _ (vals_drop i rv))
section
variable {G : Gv} {X : Cx}
theorem dgs_star {tg : Expr} {tgs : List Expr} {p : Pos} {m : Dt → Env → Store → Option (Env × Store)} {ms : List Dt → Env → Store → Option (Env × Store)} (h1 : DG G X tg m) (h2 : DGs G X tgs ms)
    (hs : (assignEach (.Starred tg p :: tgs) X.env).map (·.2) = assign tg X.env :: (assignEach tgs X.env).map (·.2) := by rfl) (hs2 : (assignEach (tg :: tgs) X.env).map (·.2) = assign tg X.env :: (assignEach tgs X.env).map (·.2) := by rfl) : DGs G X (.Starred tg p :: tgs) (gCons' m ms) := by
  obtain ⟨g', p', q'⟩ := dgs_cons h1 h2 hs2
  refine ⟨g', ⟨fun pins s σ H vs us Q I r h => ?_⟩, q'⟩
  have k := p'.run pins s σ H vs us Q I r h
  rw [hs2] at k
  rw [hs]
  exact k
def gSt (n i : Nat) (m : List Dt → Env → Store → Option (Env × Store)) : Dt → Env → Store → Option (Env × Store) := fun d e S => match d with
  | .tup ds => if n ≤ ds.length + 1 ∧ ds.length ≤ 10000 then m (ds.take i ++ [.lst ((ds.drop i).take (ds.length + 1 - n))] ++ (ds.drop i).drop (ds.length + 1 - n)) e S else none
  | _ => none
theorem dg_star {es : List Expr} {k n i : Nat} {pos : Pos} {m : List Dt → Env → Store → Option (Env × Store)} (h : DGs G X es m) (hi : i < n := by exact Nat.le_of_ble_eq_true rfl) (hc : X.calm = true := by rfl) (hn : (assignEach es X.env).length = n := by rfl) (hst : (assignEach es X.env).findIdx? (·.1) = some i := by rfl)
    (hK : X.K = G.K := by rfl) : DG G X (.Tuple es k pos) (gSt n i m) := by
  obtain ⟨g, p, q⟩ := h
  refine ⟨_, pg_star hc p hi hn hst, fun io H S en σ d v Q so re r h => ?_⟩
  unfold gSt at h
  split at h
  · rename_i e' S' em
    split at em
    · rename_i ds
      split at em
      · rename_i hl
        obtain ⟨a, vs, rfl, h1, h2⟩ := asT_ok r rfl
        have l := h2.length
        refine ⟨a, vs, rfl, by rw [hK]; exact h1, by rw [← l]; exact hl.1, by rw [← l]; omega, fun b hb => ?_⟩
        rw [← l]
        have ex : ExtH H (upd H b (.lst ((vs.drop i).take (ds.length + 1 - n)))) := ExtH.new hb
        have h3 := h2.mono ex.grow
        have mid : RelD G io (upd H b (.lst ((vs.drop i).take (ds.length + 1 - n)))) (.lst ((ds.drop i).take (ds.length + 1 - n))) (.ref b) := .lst upd_same (so.fresh hb) ((h3.drop i).take _)
        refine q io _ S en σ _ _ Q (so.ext ex) (re.mono ex.grow) (((h3.take i).append (.cons mid .nil)).append ((h3.drop i).drop _)) ?_
        rw [em]
        exact fun io' H' g s σ' re' => h io' H' (ex.grow.trans g) s σ' re'
      · cases em
    · cases em
  · exact h.elim
end
end Dv
set_option Elab.async false
set_option linter.all false
set_option maxRecDepth 100000
set_option maxHeartbeats 4000000
set_option autoImplicit false
namespace Dv
open PySem PySem.Spec PyProof.Rows L2
/-! what the head decides of an exception of the text -/
end Dv
set_option Elab.async false
set_option linter.all false
set_option maxRecDepth 100000
set_option maxHeartbeats 4000000
set_option autoImplicit false
/-! every second item from a place on; turned about -/
namespace Dv
/-- every second item -/
def evens {α : Type} : List α → List α
  | [] => []
  | [x] => [x]
  | x :: _ :: r => x :: evens r
theorem evens_pick {α : Type} : ∀ (xs : List α), (List.range ((xs.length + 1) / 2)).filterMap (fun m => xs[2 * m]?) = evens xs
  | [] => by simp [evens]
  | [x] => by simp [evens, List.range_succ]
  | x :: y :: r => by
    have e : ((x :: y :: r).length + 1) / 2 = (r.length + 1) / 2 + 1 := by
      simp only [List.length_cons]
      omega
    rw [e, List.range_succ_eq_map, List.filterMap_cons]
    simp only [Nat.mul_zero, List.getElem?_cons_zero]
    rw [List.filterMap_map]
    have e2 : ((fun m => (x :: y :: r)[2 * m]?) ∘ Nat.succ) = fun m => r[2 * m]? := by
      funext m
      show (x :: y :: r)[2 * (m + 1)]? = _
      rw [show 2 * (m + 1) = 2 * m + 1 + 1 by omega, List.getElem?_cons_succ, List.getElem?_cons_succ]
    rw [e2, evens_pick r]
    rfl
theorem evens_at {α : Type} (xs : List α) (k c : Nat) (hc : c = (xs.length - k + 1) / 2) : (List.range c).filterMap (fun m => xs[k + 2 * m]?) = evens (xs.drop k) := by
  rw [← evens_pick (xs.drop k), List.length_drop, hc]
  congr 1
  funext m
  rw [List.getElem?_drop]
theorem evens_length {α : Type} : ∀ (xs : List α), (evens xs).length ≤ xs.length
  | [] => Nat.le_refl _
  | [_] => Nat.le_refl _
  | x :: y :: r => by
    have := evens_length r
    simp only [evens, List.length_cons]
    omega
open PySem PySem.Spec PyProof.Rows L2
section
variable {prog : Program} {w : World} {A : Around} {E : Value → Shared → Prop} {s : Shared}
/-- the place at which a slice from k on begins -/
def loIx (lo : Option Int) (n : Nat) : Nat := match lo with
  | none => 0
  | some k => min k.toNat n
theorem pick2 (items : Array Value) (lo : Option Int) (h0 : ∀ k, lo = some k → 0 ≤ k) : slicePick items lo none (some 2) = (evens (items.toList.drop (loIx lo items.size))).toArray := by
  unfold slicePick
  have e : sliceBounds lo none (some 2) items.size = (((loIx lo items.size : Nat) : Int), (items.size : Int), (2 : Int)) := by
    cases lo with
    | none => simp [sliceBounds, loIx]
    | some k =>
      have := h0 k rfl
      simp only [sliceBounds, loIx, Option.getD]
      refine Prod.ext ?_ (Prod.ext ?_ rfl)
      · simp
        omega
      · simp
  rw [e]
  dsimp only
  congr 1
  unfold sliceRange
  rw [List.filterMap_map]
  have hl : loIx lo items.size ≤ items.size := by
    unfold loIx
    split <;> omega
  have e2 : ((items[·]?) ∘ fun (k : Nat) => (((loIx lo items.size : Nat) : Int) + 2 * (k : Int)).toNat) = fun m => items.toList[loIx lo items.size + 2 * m]? := by
    funext m
    show items[(((loIx lo items.size : Nat) : Int) + 2 * (m : Int)).toNat]? = _
    rw [show (((loIx lo items.size : Nat) : Int) + 2 * (m : Int)).toNat = loIx lo items.size + 2 * m by omega, Array.getElem?_toList]
  rw [e2]
  refine evens_at items.toList _ _ ?_
  rw [Array.length_toList]
  simp only [show (2 : Int) > 0 by decide, if_true]
  split <;> omega
theorem sliceApplied2 {sl : Addr} {vl vu vs : Value} {lo : Option Int} {n : Nat} {Q : Int × Int × Nat → Shared → Prop} (hs : s.heap.IsSliceOf sl vl vu vs) (pl : IsPart vl lo) (pu : IsPart vu none) (ps : IsPart vs (some 2)) (h0 : ∀ k, lo = some k → 0 ≤ k)
    (h : Q (((loIx lo n : Nat) : Int), 2, (n - loIx lo n + 1) / 2) s) : wpAny (model prog w) A (Builtin.Slice.sliceApplied (.ref sl) (pure (n : Int))) Q E s := by
  obtain ⟨os, hos, hcs, hds⟩ := id hs
  unfold Builtin.Slice.sliceApplied Builtin.Slice.sliceFields
  refine wpAny_bind (wpAny_bind (wpAny_field hos hds (x := vl) rfl (wpAny_bind (wpAny_field hos hds (x := vu) rfl (wpAny_bind (wpAny_field hos hds (x := vs) rfl (wpAny_pure ?_)))))))
  refine wpAny_bind (HT.slicePart_ ps ?_)
  show wpAny _ _ (if ((2 : Int) == 0) = true then _ else _) _ _ s
  rw [if_neg (by decide)]
  refine wpAny_bind (HT.slicePart_ pl (wpAny_bind (HT.slicePart_ pu (wpAny_bind (wpAny_pure ?_)))))
  show wpAny _ _ (match Builtin.Slice.sliceAdjust lo none 2 (n : Int) with | (lo, hi) => pure (lo, (2 : Int), Builtin.Slice.slicePlaces lo hi 2)) _ _ s
  have e : Builtin.Slice.sliceAdjust lo none 2 (n : Int) = (((loIx lo n : Nat) : Int), (n : Int)) := by
    unfold Builtin.Slice.sliceAdjust
    cases lo with
    | none => rfl
    | some k =>
      have := h0 k rfl
      refine Prod.ext ?_ rfl
      simp only [loIx]
      rw [if_neg (by omega)]
      omega
  rw [e]
  show wpAny _ _ (pure (((loIx lo n : Nat) : Int), (2 : Int), Builtin.Slice.slicePlaces ((loIx lo n : Nat) : Int) (n : Int) 2)) _ _ s
  have hl : loIx lo n ≤ n := by
    unfold loIx
    split <;> omega
  have e2 : Builtin.Slice.slicePlaces ((loIx lo n : Nat) : Int) (n : Int) 2 = (n - loIx lo n + 1) / 2 := by
    unfold Builtin.Slice.slicePlaces
    simp only [show (2 : Int) > 0 by decide, if_true]
    split <;> omega
  rw [e2]
  exact wpAny_pure h
theorem getItem_tuple2 {t sl : Addr} {items : Array Value} {vl vu vs : Value} {lo : Option Int} {Q : Value → Shared → Prop} (ht : IsTup s.heap t items) (hs : s.heap.IsSliceOf sl vl vu vs) (pl : IsPart vl lo) (pu : IsPart vu none) (ps : IsPart vs (some 2)) (h0 : ∀ k, lo = some k → 0 ≤ k)
    (h : Q (.ref s.heap.objs.size) { s with heap := s.heap.push { cls := .type "tuple", data := .seq (evens (items.toList.drop (loIx lo items.size))).toArray } })
    (hsz : items.size ≤ sizeLine) : wpAny (model prog w) A (getItem (.ref t) (.ref sl)) Q E s := by
  have htake : sizeOk (.seq (evens (items.toList.drop (loIx lo items.size))).toArray) := by
    show (evens (items.toList.drop (loIx lo items.size))).toArray.size ≤ sizeLine
    rw [List.size_toArray]
    have := evens_length (items.toList.drop (loIx lo items.size))
    rw [List.length_drop, Array.length_toList (xs := items)] at this
    omega
  obtain ⟨os, hos, hcs, hds⟩ := id hs
  have hTs : s.TypeIs (.ref sl) "slice" := ⟨os, hos, hcs⟩
  unfold getItem
  try with_reducible refine wpAny_holding ?_
  first | refine wpAny_bind (wpAny_pure ?_) | skip
  refine wpAny_bind (wpAny_sequenceKey ht.typeIs (by decide) ?_)
  refine wpAny_bind (wpAny_callSpecial?_slot (name := Str.ofString "__getitem__") ht.typeIs PyProof.Rows.slot_tuple_getitem
    (wpAny_call_entry PyProof.Rows.slot_tuple_getitem ht.typeIs entry_tuple_getitem ?_ (args_tuple_getitem _ _)))
  show wpAny _ _ (Builtin.Tuple.tupleItemsOf (.ref t) >>= _) _ _ s
  refine wpAny_bind (tupleItemsOf_ ht ?_)
  refine wpAny_bind (wpAny_typeOf hTs ?_)
  rw [if_pos (by decide)]
  refine wpAny_bind (sliceApplied2 hs pl pu ps h0 ?_)
  have hno : ¬ ((((loIx lo items.size : Nat) : Int) == 0 && (2 : Int) == 1 && (items.size - loIx lo items.size + 1) / 2 == items.size) = true) := by
    intro q
    rw [Bool.and_eq_true, Bool.and_eq_true] at q
    exact absurd q.1.2 (by decide)
  show wpAny _ _ (if (((loIx lo items.size : Nat) : Int) == 0 && (2 : Int) == 1 && (items.size - loIx lo items.size + 1) / 2 == items.size) = true then _ else _) _ _ s
  have e : ((List.range ((items.size - loIx lo items.size + 1) / 2)).filterMap fun (m : Nat) => items[(((loIx lo items.size : Nat) : Int) + (m : Int) * 2).toNat]?).toArray = (evens (items.toList.drop (loIx lo items.size))).toArray := by
    congr 1
    rw [← evens_at items.toList _ _ (by rw [Array.length_toList])]
    congr 1
    funext m
    rw [show (((loIx lo items.size : Nat) : Int) + (m : Int) * 2).toNat = loIx lo items.size + 2 * m by omega, Array.getElem?_toList]
  rw [if_neg hno, e]
  first
    | exact wpAny_bind (m := Builtin.Tuple.tupleExact _) (wpAny_newObj_type (wpAny_pure ⟨_, rfl, wpAny_pure h⟩) htake)
    | exact wpAny_bind (m := Builtin.Tuple.tupleExact _) (wpAny_newObj_type (wpAny_bind (wpAny_pure (wpAny_pure ⟨_, rfl, wpAny_pure h⟩))) htake)
    | exact wpAny_bind (wpAny_bind (m := Builtin.Tuple.tupleExact _) (wpAny_newObj_type (wpAny_pure (wpAny_pure ⟨_, rfl, wpAny_pure h⟩)) htake))
    | exact wpAny_bind (wpAny_bind (m := Builtin.Tuple.tupleExact _) (wpAny_newObj_type (wpAny_pure ⟨_, rfl, wpAny_pure h⟩) htake))
end
theorem vals_evens : ∀ {xs : List V} {us : List Value}, Vals xs us → Vals (evens xs) (evens us)
  | _, _, .nil => .nil
  | _, _, .cons h .nil => .cons h .nil
  | _, _, .cons h (.cons _ r) => .cons h (vals_evens r)
theorem rel_evens {G : Gv} {io : Io} {H : Hp} : ∀ {ds : List Dt} {vs : List V}, RelDs G io H ds vs → RelDs G io H (evens ds) (evens vs)
  | _, _, .nil => .nil
  | _, _, .cons h .nil => .cons h .nil
  | _, _, .cons h (.cons _ r) => .cons h (rel_evens r)
theorem vals_dropk {xs : List V} {us : List Value} (k : Nat) (r : Vals xs us) : Vals (xs.drop k) (us.drop k) := by
  induction k generalizing xs us with
  | zero => exact r
  | succ k ih => cases r with
    | nil => exact .nil
    | cons _ r => exact ih r
def tEv (K : PySem.W.Frag) (lo : Option Int) (te : TE) : TE := fun σ H Q => te σ H fun x H1 => ∃ a xs, x = .ref a ∧ ((SqL K H1 a xs ∧ ∀ p, H1 p = none → Q (.ref p) (upd H1 p (.lst (evens (xs.drop (loIx lo xs.length)))))) ∨ (SqT K H1 a xs ∧ ∀ p, H1 p = none → Q (.ref p) (upd H1 p (.tup (evens (xs.drop (loIx lo xs.length)))))))
theorem pe_ev {X : Cx} {e : Expr} {te : TE} {l : Option Expr} {lo : Option Int} {k : Nat} {p1 p3 pos : Pos} (he : PE X e te) (hl : ∀ pins s σ H (I : Inv X pins σ H s), ∃ t, PO X l t ∧ ∀ Q, Q lo H → t σ H Q) (h0 : ∀ k, lo = some k → 0 ≤ k) :
    PE X (.Subscript e (.Slice l none (some (.Constant (.int 2) k p1)) p3) pos) (tEv X.K lo te) := by
  refine ⟨fun pins s σ H Q I h => ?_⟩
  refine Subscript_ (thn (he.run pins s σ H _ I h) fun v s1 ⟨x, H1, I1, r1, q1⟩ => ?_)
  obtain ⟨a, xs, ex, q⟩ := q1
  subst ex
  cases r1
  have hst : PO X (some (.Constant (.int 2) k p1)) (tPart (tC (.int 2))) := po_some pe_int
  obtain ⟨t, po, ht⟩ := hl pins s1 σ H1 I1
  refine wpAny_Slice (thn (po.run pins s1 σ H1 (fun o H2 => o = lo ∧ H2 = H1) I1 (ht _ ⟨rfl, rfl⟩)) fun vl s2 ⟨l, H2, I2, pl, el, e2⟩ => ?_)
  subst el e2
  refine thn (po_none.run pins s2 σ H2 (fun o H3 => o = none ∧ H3 = H2) I2 ⟨rfl, rfl⟩) fun vu s3 ⟨u, H3, I3, pu, eu, e3⟩ => ?_
  subst eu e3
  refine thn (hst.run pins s3 σ H3 (fun o H4 => o = some 2 ∧ H4 = H3) I3 ⟨2, rfl, rfl, rfl⟩) fun vs s4 ⟨o, H4, I4, ps, eo, e4⟩ => ?_
  subst eo e4
  have I5 : Inv X pins σ H4 { s4 with heap := s4.heap.push { cls := .type "slice", data := .fields #[vl, vu, vs] } } := I4.kept (t' := s4.toks) fun b ob q => Heap.get?_push_of_some _ q
  show wpAny (model X.prog X.w) X.A (subscriptTail e (.Slice _ none (some (.Constant (.int 2) k p1)) p3) (.ref a) (.ref s4.heap.objs.size)) (EP X pins σ Q) X.xe { s4 with heap := s4.heap.push { cls := .type "slice", data := .fields #[vl, vu, vs] } }
  rcases q with ⟨hx, q⟩ | ⟨hx, q⟩
  · obtain ⟨its, r, ht, hz⟩ := I5.list hx
    have hlen := r.length
    refine tail_any (ops := [.ref a, .ref s4.heap.objs.size]) ht.isList.typeIs (PySem.slot_list_getitem.lookup) ?_ (by with_unfolding_all rfl)
    refine wpAny_getItem_list_slice ht.isList (Heap.IsSliceOf.new _ vl vu vs) pl pu ps (by decide) ?_ (by rw [List.size_toArray]; omega)
    rw [pick2 _ _ h0, show its.toArray.size = xs.length by rw [List.size_toArray, hlen]]
    refine ⟨.ref _, _, I5.laid (t' := s4.toks) (o := .lst (evens (xs.drop (loIx l xs.length)))) (fun b ob q => Heap.get?_push_of_some _ q) (Nat.le_refl _) ?_, rfl, q _ (I5.hok.fresh (Nat.le_refl _))⟩
    refine ⟨?_, _, 0, vals_evens (vals_dropk _ r), Heap.get?_push_size _ rfl⟩
    have z := evens_length (xs.drop (loIx l xs.length))
    rw [List.length_drop] at z
    omega
  · obtain ⟨its, r, ht, hz⟩ := I5.tuple hx
    have hlen := r.length
    refine tail_any (ops := [.ref a, .ref s4.heap.objs.size]) ht.typeIs (PyProof.Rows.slot_tuple_getitem.lookup) ?_ (by with_unfolding_all rfl)
    refine getItem_tuple2 ht (Heap.IsSliceOf.new _ vl vu vs) pl pu ps h0 ?_ (by rw [List.size_toArray]; omega)
    rw [show its.toArray.size = xs.length by rw [List.size_toArray, hlen]]
    refine ⟨.ref _, _, I5.laid (t' := s4.toks) (o := .tup (evens (xs.drop (loIx l xs.length)))) (fun b ob q => Heap.get?_push_of_some _ q) (Nat.le_refl _) ?_, rfl, q _ (I5.hok.fresh (Nat.le_refl _))⟩
    refine ⟨?_, _, vals_evens (vals_dropk _ r), IsTup.new _ _⟩
    have z := evens_length (xs.drop (loIx l xs.length))
    rw [List.length_drop] at z
    omega
def mEv (k : Nat) (m : Env → Store → R Dt) : Env → Store → R Dt := fun en S => (m en S).bind fun x S1 => match x with
  | .tup ds => .ok (.tup (evens (ds.drop k))) S1
  | x => match asL S1 x with
    | some ds => .ok (.lst (evens (ds.drop k))) S1
    | none => .stuck
/-- xs[::-1] -/
def mRev (m : Env → Store → R Dt) : Env → Store → R Dt := fun en S => (m en S).bind fun x S1 => match asL S1 x with
    | some ds => .ok (.lst ds.reverse) S1
    | none => .stuck
section
variable {G : Gv} {X : Cx} {W : WX} {e : Expr} {m : Env → Store → R Dt} {j1 j2 : Nat} {p1 p2 p3 p4 pos : Pos}
theorem dropIx {α : Type} (xs : List α) (k : Nat) : xs.drop (min k xs.length) = xs.drop k := by
  by_cases h : k ≤ xs.length
  · rw [Nat.min_eq_left h]
  · rw [Nat.min_eq_right (by omega), List.drop_length, List.drop_eq_nil_of_le (by omega)]
theorem simE_ev {te : TE} {lo : Option Int} {k : Nat} (hk : ∀ n : Nat, loIx lo n = min k n) (hK : X.K = G.K) (he : SimE G W te m) : SimE G W (tEv X.K lo te) (mEv k m) := by
  intro io H S en σ Q so re h
  refine he io H S en σ _ so re (h.bind.imp (fun _ _ _ _ z => z) fun x S1 i1 H1 g1 s1 k1 v rx => ?_)
  split at k1
  · rename_i ds
    obtain ⟨a, vs, rfl, h1, h2⟩ := asT_ok rx rfl
    refine ⟨a, vs, rfl, .inr ⟨by rw [hK]; exact h1, fun p hp => ?_⟩⟩
    rw [hk, dropIx]
    exact out_tup s1 (rel_evens (h2.drop k)) k1 hp
  · split at k1
    · rename_i ds hl
      obtain ⟨a, vs, rfl, h1, h2⟩ := asL_ok s1 rx hl
      refine ⟨a, vs, rfl, .inl ⟨by rw [hK]; exact h1, fun p hp => ?_⟩⟩
      rw [hk, dropIx]
      exact out_lst s1 (rel_evens (h2.drop k)) k1 hp
    · exact k1.elim
theorem de_ev (k : Nat) {i : Int} (ha : DE G X W e m) (hi : i = (k : Int) := by rfl) (hK : X.K = G.K := by rfl) : DE G X W (.Subscript e (.Slice (some (.Constant (.int i) j2 p2)) none (some (.Constant (.int 2) j1 p1)) p3) pos) (mEv k m) := by
  obtain ⟨t, p, q⟩ := ha
  refine ⟨_, pe_ev (lo := some i) p (fun pins s σ H I => ⟨_, po_some pe_int, fun Q h => ⟨i, rfl, h⟩⟩) (fun z h => by cases h; omega), simE_ev (fun n => ?_) hK q⟩
  subst hi
  simp [loIx]
end
end Dv
set_option Elab.async false
set_option linter.all false
set_option maxRecDepth 100000
set_option maxHeartbeats 4000000
set_option autoImplicit false
/-! zip of two lists of like length (strict), enumerate of a list -/
namespace Dv
open PySem PySem.Spec PyProof.Rows L2
section
end
section
end
end Dv
set_option Elab.async false
set_option linter.all false
set_option maxRecDepth 100000
set_option maxHeartbeats 4000000
set_option autoImplicit false
/-! walks over zip and enumerate -/
namespace Dv
open PySem PySem.Spec PyProof.Rows L2
/-! the layer's words -/
def pairsD (ds es : List Dt) : List Dt := List.zipWith (fun x y => .tup [x, y]) ds es
def itemsL (d : Dt) : Option (List Dt) := match d with
  | .lst ds => some ds
  | .fz ds => some ds
  | _ => none
def mZs (m : Env → Store → R (List Dt)) : Env → Store → R (List Dt) := fun en S => (m en S).bind fun ds S1 => match ds with
  | [x, y] => match itemsL x, itemsL y with
    | some xs, some ys => if xs.length = ys.length then .ok (pairsD xs ys) S1 else .stuck
    | _, _ => .stuck
  | _ => .stuck
def numbered (k : Nat) : List Dt → List Dt
  | [] => []
  | d :: ds => .tup [.int k, d] :: numbered (k + 1) ds
def mEnum (m : Env → Store → R (List Dt)) : Env → Store → R (List Dt) := fun en S => (m en S).bind fun ds S1 => match ds with
  | [x] => match itemsL x with
    | some xs => .ok (numbered 0 xs) S1
    | _ => .stuck
  | _ => .stuck
section
end
end Dv
set_option Elab.async false
set_option linter.all false
set_option maxRecDepth 100000
set_option maxHeartbeats 4000000
set_option autoImplicit false
/-! keywords; defs with defaults -/
namespace Dv
open PySem PySem.Spec PyProof.Rows L2
def pickL {α : Type} (is : List Nat) (xs : List α) : List α := is.filterMap (xs[·]?)
theorem vals_pick {vs : List V} {us : List Value} (r : Vals vs us) : ∀ is : List Nat, Vals (pickL is vs) (pickL is us)
  | [] => .nil
  | i :: is => by
    have ih := vals_pick r is
    unfold pickL at ih ⊢
    rw [List.filterMap_cons, List.filterMap_cons]
    cases hv : vs[i]? with
    | none =>
      have hu : us[i]? = none := by
        rw [List.getElem?_eq_none_iff] at hv ⊢
        rw [← r.length]
        exact hv
      rw [hu]
      exact ih
    | some v =>
      obtain ⟨u, hu, ru⟩ := r.get hv
      rw [hu]
      exact .cons ru ih
theorem rel_pick {G : Gv} {io : Io} {H : Hp} {ds : List Dt} {vs : List V} (r : RelDs G io H ds vs) : ∀ is : List Nat, RelDs G io H (pickL is ds) (pickL is vs)
  | [] => .nil
  | i :: is => by
    have ih := rel_pick r is
    unfold pickL at ih ⊢
    rw [List.filterMap_cons, List.filterMap_cons]
    cases hv : ds[i]? with
    | none =>
      have hu : vs[i]? = none := by
        rw [List.getElem?_eq_none_iff] at hv ⊢
        rw [← r.length]
        exact hv
      rw [hu]
      exact ih
    | some v =>
      obtain ⟨u, hu, ru⟩ := r.get hv
      rw [hu]
      exact .cons ru ih
section
variable {K : PySem.W.Frag} {x qual : Str} {st : Stmt} {f : Addr} {fd : FuncData} {ps ks : List Str}
theorem fun_kbn (F : Fun K x qual st f fd) (n : Nat) (is : List Nat)
    (h : ∀ (kV doc pm : Value) (an : Option Addr) (cdv ct : Value) (us ws : List Value), us.length = n → ws.length = ks.length → bindArgs (PySem.W.fnOf x qual (defArgs st) (defBody st) (defScope st) .none kV doc pm an cdv ct) ⟨us, ks.zip ws⟩ = pure (ps.zip (us ++ pickL is ws))) :
    KBn K fd ps n ks (fun us ws => us ++ pickL is ws) (fun vs zs => vs ++ pickL is zs) := by
  obtain ⟨oc, od, kV, doc, pm, an, cdv, ct, osl, rfl, lk, hcd⟩ := F.ex
  exact ⟨fun s us ws _ l1 l2 => .of_eq (h kV doc pm an cdv ct us ws l1 l2), fun r1 r2 => r1.append (vals_pick r2 is)⟩
end
def DK (G : Gv) (X : Cx) (W : WX) (k : List Keyword) (m : Env → Store → R (List Dt)) : Prop := ∃ t, PK X k t ∧ SimA G W t m
section
variable {G : Gv} {X : Cx} {W : WX} {e o : Expr} {es : List Expr} {kws : List Keyword} {m mo : Env → Store → R Dt} {ms ma mk : Env → Store → R (List Dt)} {nm : Option Str} {kpos pos apos p : Pos}
theorem dk_nil : DK G X W [] mNil := ⟨_, pk_nil, fun io H S e σ Q so re h => h io H Grow.refl so [] .nil⟩
theorem dk_cons (ha : DE G X W e m) (hr : DK G X W kws ms) : DK G X W (⟨nm, e, kpos⟩ :: kws) (mCons m ms) := by
  obtain ⟨t, p, q⟩ := ha
  obtain ⟨u, p', q'⟩ := hr
  refine ⟨_, pk_cons p p', fun io H S e σ Q so re h => ?_⟩
  refine q io H S e σ _ so re (h.bind.imp (fun _ _ _ _ z => z) fun d S1 i1 H1 g1 s1 k1 v r => ?_)
  refine q' i1 H1 S1 e σ _ s1 (re.mono g1) (k1.bind.imp (fun _ _ _ _ z => z) fun ds S2 i2 H2 g2 s2 k2 vs rs => ?_)
  exact k2 i2 H2 Grow.refl s2 _ (.cons (r.mono g2) rs)
/-! o.m(.., k = v) -/
def tMethK (C : Addr) (n : Str) (na nk : Nat) (is : List Nat) (sp : Sp) (E : L2.St → XK) (ta : TE) (t tk : TA) : TE := fun σ H Q => ta σ H fun x H1 => ∃ a dx fs, x = .ref a ∧ H1 a = some (.ins C dx fs) ∧ fs.lookup n = none ∧
  t σ H1 fun vs H2 => tk σ H2 fun zs H3 => vs.length + 1 = na ∧ zs.length = nk ∧ sp ((x :: vs) ++ pickL is zs) H3 Q (E σ)
theorem run_fnNS {CX : CXT} {k n : Nat} {f : Addr} {fd : FuncData} {ps ks : List Str} {sp : Sp} {E : L2.St → XK} {g : List Value → List Value → List Value} {gV : List V → List V → List V} {pins : List (Addr × Obj)} {σ : L2.St} {H : Hp} {s : Shared} {Q : VK} {us ws : List Value} {vs zs : List V}
    (F : FnOk X.prog X.w X.K X.mg X.base CX k f fd ps sp) (hr : Room k X.A) (hb : KBn X.K fd ps n ks g gV) (hx : PassesAt CX X σ (E σ))
    (I : Inv X pins σ H s) (r : Vals vs us) (rz : Vals zs ws) (l1 : vs.length = n) (l2 : zs.length = ks.length) (h : sp (gV vs zs) H Q (E σ)) : wpAny (model X.prog X.w) X.A (call (.ref f) us (ks.zip ws)) (EP X pins σ Q) X.xe s := by
  have r2 := hb.rel r rz
  have bt := hb.to s us ws I.kIn (r.length.symm.trans l1) (rz.length.symm.trans l2)
  refine wpAny_call (codeAny_mono (F.run X.A X.stack s H ⟨us, ks.zip ws⟩ (g us ws) (gV vs zs) Q (E σ) hr I.env0 bt r2 h) fun r s' hq => ?_)
  cases r with
  | error e => exact hx pins H s e s' I hq
  | ok fl => cases fl with
    | ret u => exact I.after hq
    | next => exact False.elim hq
    | brk => exact False.elim hq
    | cont => exact False.elim hq
theorem de_methK {pl : Sem Bool} {c : String} {C fa : Addr} {n : Str} {k na : Nat} {is : List Nat} {fd : FuncData} {ps ks : List Str} {fn : Fn} {np : Nat} (ok : ClsOk G) (hC : G.cl c = some C) (ho : DE G X W o mo) (ha : DA G X W (e :: es) ma) (hkw : DK G X W kws mk) (hm : Meth G.K C n fa)
    (F : FnOk X.prog X.w X.K X.mg X.base (L2N.CX X.prog X.w) k fa fd ps (spF G np fn)) (hr : Room k X.A) (hb : KBn X.K fd ps na ks (fun us ws => us ++ pickL is ws) (fun vs zs => vs ++ pickL is zs)) (tk : L2N.Takes X W)
    (hst : starEach (e :: es) X.env = (false, eval e X.env) :: starEach es X.env := by rfl) (hall : (backToKw pos (keywordEach kws X.env)).all (·.1.isSome) = true := by rfl) (hks : (backToKw pos (keywordEach kws X.env)).filterMap (·.1) = ks := by rfl)
    (hpl : ((backTo pos (starEach (e :: es) X.env)).any (·.1) || (backToKw pos (keywordEach kws X.env)).any (·.1.isNone)) = false := by rfl)
    (ht : eval (.Call (.Attribute o n apos) (e :: es) kws pos) X.env = (do
      let ov ← eval o X.env
      standAt apos.atName
      let (f, first) ← holding [ov] (getMethod ov n pl)
      callWith pos f first (backTo pos (starEach (e :: es) X.env)) (backToKw pos (keywordEach kws X.env))) := by rfl) (hK : X.K = G.K := by rfl) :
    DE G X W (.Call (.Attribute o n apos) (e :: es) kws pos) (fun en S => (mo en S).bind fun d S1 => match insD S1 d with
      | some (c', ns, _) => if c' = c ∧ n ∉ ns then (ma en S1).bind fun ds S2 => (mk en S2).bind fun zs S3 => if ds.length + 1 = na ∧ zs.length = ks.length ∧ (d :: ds ++ pickL is zs).length = np then fn (d :: ds ++ pickL is zs) S3 else .stuck else .stuck
      | none => .stuck) := by
  obtain ⟨to, po, qo⟩ := ho
  obtain ⟨t, pa, qa⟩ := ha
  obtain ⟨tk', pk, qk⟩ := hkw
  have cK : Cls X.K C := by rw [hK]; exact ok.cls c C hC
  have mK : Meth X.K C n fa := by rw [hK]; exact hm
  refine ⟨tMethK C n na ks.length is (spF G np fn) (WE W) to t tk', ⟨fun pins s σ H Q I h => ?_⟩, fun io H S en σ Q so re h => ?_⟩
  · refine PySem.W.methodCall_KW (pl := pl) (thn (po.run pins s σ H _ I h) fun u s1 ⟨x, H1, I1, rx, a, dx, fs, ex, ea, l, q⟩ => ?_) ht
    subst ex
    obtain rfl : u = Value.ref a := rx
    refine getmeth_ok I1 ea cK mK l ?_
    refine PySem.W.callWith_KW (first := [.ref a]) (h₀ := X.base) I.ok.mod.kin mK.kp hall (thn (pa.run pos pins s1 σ H1 _ I1 q) fun us s2 ⟨vs, H2, I2, r, q2⟩ => ?_) hpl hst
    refine thn (pk.run pos pins s2 σ H2 _ I2 q2) fun ws s3 ⟨zs, H3, I3, rz, l1, l2, q3⟩ => ⟨I3.kIn, ?_⟩
    rw [hks]
    exact run_fnNS (E := WE W) (us := .ref a :: us) (vs := .ref a :: vs) F hr hb (L2N.passAt tk σ) I3 (.cons rfl r) rz l1 l2 q3
  · refine qo io H S en σ _ so re (h.bind.imp (fun _ _ _ _ z => z) fun d S1 i1 H1 g1 s1 k1 v r => ?_)
    split at k1
    · rename_i c' ns ds hi
      obtain ⟨a, C', dx, vs, rfl, h1, h2, h3, h4⟩ := insD_ok s1 r hi
      split at k1
      · rename_i hc
        obtain ⟨rfl, hn⟩ := hc
        rw [hC] at h2
        cases h2
        refine ⟨a, dx, _, rfl, h1, look_none hn, ?_⟩
        refine qa i1 H1 S1 en σ _ s1 (re.mono g1) (k1.bind.imp (fun _ _ _ _ z => z) fun ws S2 i2 H2 g2 s2 k2 us rs => ?_)
        refine qk i2 H2 S2 en σ _ s2 ((re.mono g1).mono g2) (k2.bind.imp (fun _ _ _ _ z => z) fun zs S3 i3 H3 g3 s3 k3 xs rz => ?_)
        split at k3
        · rename_i hl
          refine ⟨by rw [← rs.length]; exact hl.1, by rw [← rz.length]; exact hl.2.1, i3, S3, _, s3, ?_, hl.2.2, k3⟩
          exact RelDs.append (.cons ((r.mono g2).mono g3) (rs.mono g3)) (rel_pick rz is)
        · exact k3.elim
      · exact k1.elim
    · exact k1.elim
end
@[reducible] def mMethK (c : String) (n : Str) (na nk np : Nat) (is : List Nat) (fn : Fn) (mo : Env → Store → R Dt) (ma mk : Env → Store → R (List Dt)) : Env → Store → R Dt := fun en S => (mo en S).bind fun d S1 => match insD S1 d with
      | some (c', ns, _) => if c' = c ∧ n ∉ ns then (ma en S1).bind fun ds S2 => (mk en S2).bind fun zs S3 => if ds.length + 1 = na ∧ zs.length = nk ∧ (d :: ds ++ pickL is zs).length = np then fn (d :: ds ++ pickL is zs) S3 else .stuck else .stuck
      | none => .stuck
/-! a def with defaults -/
section
end
end Dv
set_option Elab.async false
set_option linter.all false
set_option maxRecDepth 100000
set_option maxHeartbeats 4000000
set_option autoImplicit false
/-! what an expression made, by value -/
namespace Dv
open PySem PySem.Spec PyProof.Rows L2
def mFz (m : Env → Store → R Dt) : Env → Store → R Dt := fun en S => match m en S with
  | .ok d S' => fin false S.length d S'
  | .err x S' => finX false S.length x S'
  | .stuck => .stuck
section
variable {G : Gv} {X : Cx} {W : WX} {e : Expr} {m : Env → Store → R Dt}
theorem de_fz (he : DE G X W e m) : DE G X W e (mFz m) := by
  obtain ⟨t, p, q⟩ := he
  refine ⟨t, p, fun io H S en σ Q so re h => q io H S en σ Q so re ?_⟩
  unfold mFz at h
  cases em : m en S with
  | stuck => rw [em] at h; exact h
  | ok d S' =>
    rw [em] at h
    exact fun io' H' g so' v r => fin_ok so g so' r h
  | err x S' =>
    rw [em] at h
    refine fun io' H' g so' cls dx rx => finX_ok (keep := false) (E := fun cls dx H => W cls dx σ H) (Q := Q) so g so' rx ?_
    exact h
/-- xs + ys: an object of the store -/
def mAddR (x y : Dt) (S : Store) : R Dt := match asP S x, asP S y with
    | some xs, some ys => if xs.length + ys.length ≤ 1000000 then .ok (.ref S.length) (S ++ [.lst (xs ++ ys)]) else .stuck
    | _, _ => .stuck
theorem do_addR : DO G X (binaryOp .Add) mAddR := by
  refine ⟨_, op_cat, ?_, ?_⟩
  · intro io H S x y dx dy Q so rx ry h
    unfold mAddR at h
    split at h
    · rename_i xs ys e1 e2
      split at h
      · rename_i hl
        obtain ⟨a, vs, rfl, hs, rs⟩ := asP_ok so rx e1
        obtain ⟨b, us, rfl, ht, rt⟩ := asP_ok so ry e2
        have l1 := rs.length
        have l2 := rt.length
        exact ⟨a, b, vs, us, rfl, rfl, hs, ht, small6 (by omega), fun p hp => out_ref so (rs.append rt) h hp⟩
      · exact h.elim
    · exact h.elim
  · intro x y S
    unfold mAddR
    repeat' split
    all_goals trivial
end
end Dv
set_option Elab.async false
set_option linter.all false
set_option maxRecDepth 100000
set_option maxHeartbeats 4000000
set_option autoImplicit false
/-! what is never come to; the text's classes from the head's facts -/
namespace Dv
open PySem PySem.Spec PyProof.Rows L2
def mStop : Env → Store → RS := fun _ _ => .stuck
section
variable {G : Gv} {X : Cx} {W : WX}
theorem ds_stop {s : Stmt} : DS G X W s mStop := ⟨fun _ _ _ => False, ⟨fun _ _ _ _ _ _ h => h.elim⟩, fun io H S en σ D so re h => h.elim⟩
end
structure ClsF (K : PySem.W.Frag) (C : Addr) : Prop where
  pg : PySem.W.plainGet K C Str.empty = true
  hd : PySem.W.hasDictIn K C = true
  po : PySem.W.plainOver K C = true
  sa : PySem.W.findIn K (.ref C) "__setattr__" = some (some (.builtin "object.__setattr__"))
  ha : PySem.W.findIn K (.ref C) "__class__" = some (some (.builtin "object.__class__"))
  hm : PySem.W.mroIn K C (.type "object") = some true
theorem look_mem {L : CL} : ∀ {c : String} {C : Addr}, L.lookup c = some C → (c, C) ∈ L := by
  induction L with
  | nil => intro c C h; cases h
  | cons p L ih =>
    intro c C h
    obtain ⟨d, D⟩ := p
    rw [List.lookup_cons] at h
    split at h
    · rename_i e
      cases h
      rw [eq_of_beq e]
      exact List.mem_cons_self
    · exact List.mem_cons_of_mem _ (ih h)
theorem cls_of {K : PySem.W.Frag} {L : CL} {xl : String → Option Addr} {T : List (Addr × Str)} {kt : Bool} (h : clsB K L = true) (hF : ∀ p ∈ L, ClsF K p.2) (hn : PySem.W.specialIn K (.builtin "object.__class__") "__get__" = some (some (.builtin "getset_descriptor.__get__")))
    (htk : PySem.W.takesIn K (.builtin "object.__class__") = some true) : ClsOk ⟨K, fun c => L.lookup c, xl, T, kt⟩ := by
  have al : ∀ p ∈ L, (tys.all (fun t => PySem.W.kitOne K (.type t) (.ref p.2) == some false) = true ∧ clss.all (fun t => PySem.W.kitOne K (.ref p.2) (.type t) == some false) = true) ∧ ∀ q ∈ L, PySem.W.kitOne K (.ref p.2) (.ref q.2) = some (p.1 == q.1) := fun p hp => by
    have z := List.all_eq_true.mp h p hp
    rw [Bool.and_eq_true, Bool.and_eq_true] at z
    exact ⟨z.1, fun q hq => eq_of_beq (List.all_eq_true.mp z.2 q hq)⟩
  refine ⟨fun c C e => ?_, fun c C e => (hF _ (look_mem e)).ha, .inl hn, .inl htk, fun c C e => (hF _ (look_mem e)).hm, fun c C e t ht => ?_, fun c C e t ht => ?_, fun c C d D e1 e2 => ?_⟩
  · have f := hF _ (look_mem e)
    exact ⟨f.pg, f.hd, f.po, f.sa⟩
  · exact eq_of_beq (List.all_eq_true.mp (al _ (look_mem e)).1.1 t ht)
  · exact eq_of_beq (List.all_eq_true.mp (al _ (look_mem e)).1.2 t ht)
  · exact (al _ (look_mem e1)).2 _ (look_mem e2)
end Dv
set_option Elab.async false
set_option linter.all false
set_option maxRecDepth 100000
set_option maxHeartbeats 4000000
set_option autoImplicit false
/-! comprehensions with two clauses -/
namespace Dv
open PySem PySem.Spec PyProof.Rows L2
theorem Base.trans {io i1 i2 : Io} {H H1 H2 : Hp} (a : Base io H i1 H1) (b : Base i1 H1 i2 H2) : Base io H i2 H2 :=
  ⟨fun i x h => b.at_ i x (a.at_ i x h), fun x o h n nt => let ⟨h1, n1⟩ := a.keep x o h n nt; b.keep x o h1 n1 nt⟩
theorem Base.refl {io : Io} {H : Hp} : Base io H io H := ⟨fun _ _ h => h, fun _ _ h n _ => ⟨h, n⟩⟩
section
variable {G : Gv}
/-- for tg in items if t for tg1 in .. if t1 -/
def cLoop2 (tg : Dt → Env → Option Env) (t : Env → Store → R Bool) (mi1 : Env → Store → R (List Dt)) (own1 : List Nat) (tg1 : Dt → Env → Option Env) (t1 : Env → Store → R Bool) (m : Env → Store → R Dt) (en : Env) : List Dt → List Dt → Store → R (List Dt)
  | [], acc, S => .ok acc S
  | d :: ds, acc, S => match tg d en with
    | none => .stuck
    | some e1 => (t e1 S).nx.bind fun b S1 => if b = true then (mi1 e1 S1).nx.bind fun its S2 => (cLoop tg1 t1 m (wipeE e1 own1) its acc S2).bind fun acc2 S3 => cLoop2 tg t mi1 own1 tg1 t1 m en ds acc2 S3 else cLoop2 tg t mi1 own1 tg1 t1 m en ds acc S1
def mLc2 (sl : List Nat) (mi : Env → Store → R (List Dt)) (tg : Dt → Env → Option Env) (t : Env → Store → R Bool) (mi1 : Env → Store → R (List Dt)) (sl1 : List Nat) (tg1 : Dt → Env → Option Env) (t1 : Env → Store → R Bool) (m : Env → Store → R Dt) : Env → Store → R Dt :=
  fun en S => (mi en S).bind fun items S1 => (cLoop2 tg t mi1 sl1 tg1 t1 m (wipeE en sl) items [] S1).bind fun ds S2 => .ok (.lst ds) S2
variable {X : Cx} {W : WX} {elt tg iter tg1 iter1 : Expr} {ifs ifs1 : List Expr} {scope : Scope} {sl sl1 : List Nat} {pos : Pos} {mi mi1 : Env → Store → R (List Dt)} {mg mg1 : Dt → Env → Option Env} {mt mt1 : Env → Store → R Bool} {m : Env → Store → R Dt}
end
end Dv
set_option Elab.async false
set_option linter.all false
set_option maxRecDepth 100000
set_option maxHeartbeats 4000000
set_option autoImplicit false
/-! == and != of instances by their own __eq__; get of a dict; sum -/
namespace Dv
open PySem PySem.Spec PyProof.Rows L2
section
end
section
variable {G : Gv} {X : Cx} {W : WX} {C f : Addr} {c : String} {k : Nat} {fd : FuncData} {ps : List Str} {fn : Fn}
/-! d.get(k, x) -/
/-! sum of a list of numbers -/
def numsD : List Dt → Option (List Int)
  | [] => some []
  | .int i :: r => (numsD r).map (i :: ·)
  | _ => none
theorem nums_ok {io : Io} {H : Hp} : ∀ {ds : List Dt} {vs : List V} {bs : List Int}, RelDs G io H ds vs → numsD ds = some bs → vs = bs.map V.int
  | [], _, _, r, h => by cases r; cases h; rfl
  | d :: ds, _, bs, r, h => by
    cases r with
    | cons r1 r2 =>
      cases r1 with
      | int b =>
        simp only [numsD] at h
        cases e : numsD ds with
        | none => rw [e] at h; cases h
        | some cs =>
          rw [e] at h
          cases h
          rw [nums_ok r2 e]
          rfl
      | _ => cases h
def mSum (ds : List Dt) (S : Store) : R Dt := match ds with
  | [d] => match (asL S d).bind numsD with
    | some bs => .ok (.int bs.sum) S
    | none => .stuck
  | _ => .stuck
theorem dc_sum (hc : X.calm = true := by rfl) (hK : X.K = G.K := by rfl) : DC G X (.builtin "sum") mSum := by
  refine ⟨_, cr_sum hc, ?_, ?_⟩
  · intro io H S ds vs Q so r h
    unfold mSum at h
    split at h
    · rename_i d
      cases r with
      | cons r1 r2 =>
        cases r2
        split at h
        · rename_i bs hb
          cases el : asL S d with
          | none => rw [el] at hb; cases hb
          | some es =>
            rw [el] at hb
            obtain ⟨a, us, rfl, h1, h2⟩ := asL_ok so r1 el
            have e := nums_ok h2 hb
            subst e
            exact ⟨a, bs, rfl, by rw [hK]; exact h1, h io H Grow.refl so _ (.int _)⟩
        · exact h.elim
    · exact h.elim
  · intro ds S
    unfold mSum
    repeat' split
    all_goals trivial
end
end Dv
set_option Elab.async false
set_option linter.all false
set_option maxRecDepth 100000
set_option maxHeartbeats 4000000
set_option autoImplicit false
/-! two statements, what they made by value behind them -/
namespace Dv
open PySem PySem.Spec PyProof.Rows L2
section
end
end Dv
set_option Elab.async false
set_option linter.all false
set_option maxRecDepth 100000
set_option maxHeartbeats 4000000
set_option autoImplicit false
/-! more words -/
namespace Dv
open PySem L2
section
variable {en : Env} {S : Store} {Q : Dt → Store → Prop} {QA : List Dt → Store → Prop} {QB : Bool → Store → Prop} {X : Ex → Store → Prop} {QS : Fl → Env → Store → Prop} {XS : Ex → Env → Store → Prop} {ma mb mc me mo : Env → Store → R Dt} {ta tb : Env → Store → R Bool} {ms mk : Env → Store → R (List Dt)} {ba bb : Env → Store → RS}
theorem v_fld {cs : List String} {f : Str} (h : Pe (me en S) (fun d S1 => ∃ c ns ds x, insD S1 d = some (c, ns, ds) ∧ c ∈ cs ∧ (ns.zip ds).lookup f = some x ∧ Q x S1) X) : Pe (mFld cs f me en S) Q X := by
  refine Pe.bind (h.imp (fun d S1 ⟨c, ns, ds, x, e, hc, hl, k⟩ => ?_) fun _ _ z => z)
  rw [e]
  dsimp only
  rw [if_pos hc, hl]
  exact k
theorem v_meth {c : String} {n : Str} {np : Nat} {fn : Fn} (h : Pe (mo en S) (fun d S1 => (∃ ns ds, insD S1 d = some (c, ns, ds) ∧ n ∉ ns) ∧ Pe (ms en S1) (fun ds S2 => ds.length + 1 = np ∧ Pe (fn (d :: ds) S2) Q X) X) X) : Pe (mMeth c n np fn mo ms en S) Q X := by
  refine Pe.bind (h.imp (fun d S1 ⟨⟨ns, ds, e, hn⟩, k⟩ => ?_) fun _ _ z => z)
  rw [e]
  dsimp only
  rw [if_pos ⟨rfl, hn⟩]
  refine Pe.bind (k.imp (fun ds S2 ⟨hl, k2⟩ => ?_) fun _ _ z => z)
  rw [if_pos hl]
  exact k2
theorem v_methK {c : String} {n : Str} {na nk np : Nat} {is : List Nat} {fn : Fn} (h : Pe (mo en S) (fun d S1 => (∃ ns ds, insD S1 d = some (c, ns, ds) ∧ n ∉ ns) ∧ Pe (ms en S1) (fun ds S2 => Pe (mk en S2) (fun zs S3 => (ds.length + 1 = na ∧ zs.length = nk ∧ (d :: ds ++ pickL is zs).length = np) ∧ Pe (fn (d :: ds ++ pickL is zs) S3) Q X) X) X) X) :
    Pe (mMethK c n na nk np is fn mo ms mk en S) Q X := by
  refine Pe.bind (h.imp (fun d S1 ⟨⟨ns, ds, e, hn⟩, k⟩ => ?_) fun _ _ z => z)
  rw [e]
  dsimp only
  rw [if_pos ⟨rfl, hn⟩]
  refine Pe.bind (k.imp (fun ds S2 k2 => Pe.bind (k2.imp (fun zs S3 ⟨hl, k3⟩ => ?_) fun _ _ z => z)) fun _ _ z => z)
  rw [if_pos hl]
  exact k3
theorem v_make {c : String} {np : Nat} {fn : Fn} (h : Pe (ms en S) (fun ds S1 => ds.length + 1 = np ∧ Pe (fn (.ref S1.length :: ds) (S1 ++ [.ins c [] []])) (fun r S2 => r = .non ∧ Q (.ref S1.length) S2) X) X) : Pe (mMake c np fn ms en S) Q X := by
  refine Pe.bind (h.imp (fun ds S1 ⟨hl, k⟩ => ?_) fun _ _ z => z)
  rw [if_pos hl]
  refine Pe.bind (k.imp (fun r S2 ⟨e, k2⟩ => ?_) fun _ _ z => z)
  subst e
  exact k2
theorem v_fz (h : Pe (me en S) (fun d S1 => Pe (fin false S.length d S1) Q X) (fun x S1 => Pe (finX false S.length x S1) Q X)) : Pe (mFz me en S) Q X := by
  unfold mFz
  cases e : me en S with
  | ok d S1 => rw [e] at h; exact h
  | err x S1 => rw [e] at h; exact h
  | stuck => rw [e] at h; exact h
theorem v_fldS {cs : List String} {f : Str} (h : Pe (me en S) (fun d S1 => Pe (mo en S1) (fun x S2 => ∃ S3, setFld cs f S2 x d = some S3 ∧ QS .nx en S3) (fun x S => XS x en S)) (fun x S => XS x en S)) : Ps (mFldS cs f mo me en S) QS XS := by
  refine Pe.toS (h.imp (fun d S1 k => Pe.toS (k.imp (fun x S2 ⟨S3, e, q⟩ => ?_) fun _ _ z => z)) fun _ _ z => z)
  rw [e]
  exact q
theorem v_getS {k : Str} (h : Pe (mo en S) (fun x S1 => ∃ ks ds d, dctD S1 x = some (ks, ds) ∧ lookK ks ds (.inr k) = some d ∧ Q d S1) X) : Pe (mGetS k mo en S) Q X := by
  refine Pe.bind (h.imp (fun x S1 ⟨ks, ds, d, e1, e2, q⟩ => ?_) fun _ _ z => z)
  rw [e1]
  dsimp only
  rw [e2]
  exact q
theorem v_ev {k : Nat} (h : Pe (me en S) (fun x S1 => (∃ ds, x = .tup ds ∧ Q (.tup (evens (ds.drop k))) S1) ∨ (∃ ds, (∀ t, x ≠ .tup t) ∧ asL S1 x = some ds ∧ Q (.lst (evens (ds.drop k))) S1)) X) : Pe (mEv k me en S) Q X := by
  refine Pe.bind (h.imp (fun x S1 z => ?_) fun _ _ z => z)
  rcases z with ⟨ds, rfl, q⟩ | ⟨ds, hn, e, q⟩
  · exact q
  · split
    · rename_i t
      exact absurd rfl (hn t)
    · rw [e]
      exact q
theorem v_rev (h : Pe (me en S) (fun x S1 => ∃ ds, asL S1 x = some ds ∧ Q (.lst ds.reverse) S1) X) : Pe (mRev me en S) Q X := by
  refine Pe.bind (h.imp (fun x S1 ⟨ds, e, q⟩ => ?_) fun _ _ z => z)
  rw [e]
  exact q
theorem v_zs (h : Pe (ms en S) (fun ds S1 => ∃ x y xs ys, ds = [x, y] ∧ itemsL x = some xs ∧ itemsL y = some ys ∧ xs.length = ys.length ∧ QA (pairsD xs ys) S1) X) : Pe (mZs ms en S) QA X := by
  refine Pe.bind (h.imp (fun ds S1 ⟨x, y, xs, ys, e, e1, e2, hl, q⟩ => ?_) fun _ _ z => z)
  subst e
  dsimp only
  rw [e1, e2]
  dsimp only
  rw [if_pos hl]
  exact q
theorem v_enum (h : Pe (ms en S) (fun ds S1 => ∃ x xs, ds = [x] ∧ itemsL x = some xs ∧ QA (numbered 0 xs) S1) X) : Pe (mEnum ms en S) QA X := by
  refine Pe.bind (h.imp (fun ds S1 ⟨x, xs, e, e1, q⟩ => ?_) fun _ _ z => z)
  subst e
  dsimp only
  rw [e1]
  exact q
theorem v_lc2 {sl sl1 : List Nat} {mi mi1 : Env → Store → R (List Dt)} {g g1 : Dt → Env → Option Env} (h : Pe (mi en S) (fun items S1 => Pe (cLoop2 g ta mi1 sl1 g1 tb me (wipeE en sl) items [] S1) (fun ds S2 => Q (.lst ds) S2) X) X) : Pe (mLc2 sl mi g ta mi1 sl1 g1 tb me en S) Q X :=
  Pe.bind (h.imp (fun _ _ k => Pe.bind (k.imp (fun _ _ q => q) fun _ _ z => z)) fun _ _ z => z)
theorem v_sum {d : Dt} {ds : List Dt} {ns : List Int} (e : asL S d = some ds) (e2 : numsD ds = some ns) (q : Q (.int ns.sum) S) : Pe (mSum [d] S) Q X := by
  unfold mSum
  dsimp only
  rw [e, Option.bind_some, e2]
  exact q
theorem v_app {k : Nat} {ds : List Dt} {d : Dt} (hS : S[k]? = some (.lst ds)) (hl : ds.length < 1000000) (q : Q .non (S.set k (.lst (ds ++ [d])))) : Pe (mApp S (.ref k) d) Q X := by
  unfold mApp
  simp only [hS]
  first
  | (rw [if_pos hl]; exact q)
  | exact q
theorem v_app1K {k : Nat} {ds : List Dt} {me : Env → Store → R Dt} (ho : mo en S = .ok (.ref k) S) (hS : S[k]? = some (.lst ds)) (h : Pe (me en S) (fun d S1 => ∃ ds1, S1[k]? = some (.lst ds1) ∧ ds1.length < 1000000 ∧ Q .non (S1.set k (.lst (ds1 ++ [d])))) X) : Pe (mApp1 mo me en S) Q X := by
  unfold mApp1
  rw [ho]
  show Pe (if isLstR S (.ref k) = true then _ else _) Q X
  rw [if_pos (by unfold isLstR; simp only [hS])]
  refine Pe.bind (h.imp (fun d S1 ⟨ds1, h1, h2, q⟩ => v_app h1 h2 q) fun _ _ z => z)
theorem v_itX (h : Pe (me en S) (fun d S1 => ∃ ds, itemsD d = some ds ∧ QA ds S1) X) : Pe (mIt me en S) QA X := by
  refine Pe.bind (h.imp (fun d S1 ⟨b, e, k⟩ => ?_) fun _ _ z => z)
  rw [e]
  exact k
/-! the text's own classes, the laws' own webs -/
abbrev wF : List Str := ["places", "roads"]
abbrev kF : List Str := ["over", "line", "spots"]
abbrev mF : List Key := [.inr "yards", .inr "roads"]
abbrev webV (a b : Dt) : Dt := .ins "Web" wF [a, b]
abbrev modV (a b : Dt) : Dt := .dct mF [a, b]
theorem w_places (a b : Dt) : (wF.zip [a, b]).lookup ("places" : Str) = some a := rfl
theorem w_roads (a b : Dt) : (wF.zip [a, b]).lookup ("roads" : Str) = some b := by
  have e : (("roads" : Str) == ("places" : Str)) = false := by decide +kernel
  show List.lookup ("roads" : Str) [(("places" : Str), a), (("roads" : Str), b)] = some b
  rw [List.lookup_cons, e, List.lookup_cons, beq_self_eq_true]
theorem k_over (a b c : Dt) : (kF.zip [a, b, c]).lookup ("over" : Str) = some a := rfl
theorem k_line (a b c : Dt) : (kF.zip [a, b, c]).lookup ("line" : Str) = some b := by
  have e : (("line" : Str) == ("over" : Str)) = false := by decide +kernel
  show List.lookup ("line" : Str) [(("over" : Str), a), (("line" : Str), b), (("spots" : Str), c)] = some b
  rw [List.lookup_cons, e, List.lookup_cons, beq_self_eq_true]
theorem k_spots (a b c : Dt) : (kF.zip [a, b, c]).lookup ("spots" : Str) = some c := by
  have e : (("spots" : Str) == ("over" : Str)) = false := by decide +kernel
  have e2 : (("spots" : Str) == ("line" : Str)) = false := by decide +kernel
  show List.lookup ("spots" : Str) [(("over" : Str), a), (("line" : Str), b), (("spots" : Str), c)] = some c
  rw [List.lookup_cons, e, List.lookup_cons, e2, List.lookup_cons, beq_self_eq_true]
theorem m_yards (a b : Dt) : lookK mF [a, b] (.inr "yards") = some a := by
  unfold lookK
  rw [if_pos rfl]
theorem m_roads (a b : Dt) : lookK mF [a, b] (.inr "roads") = some b := by
  unfold lookK
  rw [if_neg (by decide +kernel)]
  unfold lookK
  rw [if_pos rfl]
theorem v_places (h : Pe (me en S) (fun d S1 => ∃ a b, insD S1 d = some ("Web", wF, [a, b]) ∧ Q a S1) X) : Pe (mFld ["Web"] "places" me en S) Q X :=
  v_fld (h.imp (fun d S1 ⟨a, b, e, q⟩ => ⟨_, _, _, _, e, List.mem_singleton.mpr rfl, w_places a b, q⟩) fun _ _ z => z)
theorem v_roads (h : Pe (me en S) (fun d S1 => ∃ a b, insD S1 d = some ("Web", wF, [a, b]) ∧ Q b S1) X) : Pe (mFld ["Web"] "roads" me en S) Q X :=
  v_fld (h.imp (fun d S1 ⟨a, b, e, q⟩ => ⟨_, _, _, _, e, List.mem_singleton.mpr rfl, w_roads a b, q⟩) fun _ _ z => z)
theorem v_over (h : Pe (me en S) (fun d S1 => ∃ a b c, insD S1 d = some ("Walk", kF, [a, b, c]) ∧ Q a S1) X) : Pe (mFld ["Walk"] "over" me en S) Q X :=
  v_fld (h.imp (fun d S1 ⟨a, b, c, e, q⟩ => ⟨_, _, _, _, e, List.mem_singleton.mpr rfl, k_over a b c, q⟩) fun _ _ z => z)
theorem v_line (h : Pe (me en S) (fun d S1 => ∃ a b c, insD S1 d = some ("Walk", kF, [a, b, c]) ∧ Q b S1) X) : Pe (mFld ["Walk"] "line" me en S) Q X :=
  v_fld (h.imp (fun d S1 ⟨a, b, c, e, q⟩ => ⟨_, _, _, _, e, List.mem_singleton.mpr rfl, k_line a b c, q⟩) fun _ _ z => z)
theorem v_spots (h : Pe (me en S) (fun d S1 => ∃ a b c, insD S1 d = some ("Walk", kF, [a, b, c]) ∧ Q c S1) X) : Pe (mFld ["Walk"] "spots" me en S) Q X :=
  v_fld (h.imp (fun d S1 ⟨a, b, c, e, q⟩ => ⟨_, _, _, _, e, List.mem_singleton.mpr rfl, k_spots a b c, q⟩) fun _ _ z => z)
theorem v_myards (h : Pe (mo en S) (fun x S1 => ∃ a b, dctD S1 x = some (mF, [a, b]) ∧ Q a S1) X) : Pe (mGetS "yards" mo en S) Q X :=
  v_getS (h.imp (fun x S1 ⟨a, b, e, q⟩ => ⟨_, _, _, e, m_yards a b, q⟩) fun _ _ z => z)
theorem v_mroads (h : Pe (mo en S) (fun x S1 => ∃ a b, dctD S1 x = some (mF, [a, b]) ∧ Q b S1) X) : Pe (mGetS "roads" mo en S) Q X :=
  v_getS (h.imp (fun x S1 ⟨a, b, e, q⟩ => ⟨_, _, _, e, m_roads a b, q⟩) fun _ _ z => z)
/-- a method of the two classes -/
theorem v_mW {n : Str} {np : Nat} {fn : Fn} (hn : n ∉ wF) (h : Pe (mo en S) (fun d S1 => (∃ a b, insD S1 d = some ("Web", wF, [a, b])) ∧ Pe (ms en S1) (fun ds S2 => ds.length + 1 = np ∧ Pe (fn (d :: ds) S2) Q X) X) X) : Pe (mMeth "Web" n np fn mo ms en S) Q X :=
  v_meth (h.imp (fun d S1 ⟨⟨a, b, e⟩, q⟩ => ⟨⟨_, _, e, hn⟩, q⟩) fun _ _ z => z)
theorem v_mK {n : Str} {np : Nat} {fn : Fn} (hn : n ∉ kF) (h : Pe (mo en S) (fun d S1 => (∃ a b c, insD S1 d = some ("Walk", kF, [a, b, c])) ∧ Pe (ms en S1) (fun ds S2 => ds.length + 1 = np ∧ Pe (fn (d :: ds) S2) Q X) X) X) : Pe (mMeth "Walk" n np fn mo ms en S) Q X :=
  v_meth (h.imp (fun d S1 ⟨⟨a, b, c, e⟩, q⟩ => ⟨⟨_, _, e, hn⟩, q⟩) fun _ _ z => z)
end
end Dv
set_option Elab.async false
set_option linter.all false
set_option maxRecDepth 100000
set_option maxHeartbeats 4000000
set_option autoImplicit false
/-! the head by one run: facts told by tests of our own -/
namespace Dv
open PySem PySem.Spec PyProof.Rows L2
section
variable {fs : List Test} {fn : List He.DefD} {K : PySem.W.Frag}
theorem SaysL.fact (c : SaysL fs fn K) (i : Nat) {f : Test} (h : fs[i]? = some f) : f K = true := by
  have c1 := (He.ba (show ((fs.all fun f => f K) && fn.all fun d => d.ok K) = true from congrArg (fun z : He.AlD => z.1) c)).1
  exact List.all_eq_true.mp c1 f (List.mem_of_getElem? h)
theorem SaysL.def_ (c : SaysL fs fn K) (i : Nat) {d : He.DefD} (h : fn[i]? = some d) : ∃ fd, FunD K d.name d.qual d.params d.body d.scope (d.dvs K) (d.kws K) (He.fAd K d.at_) fd := by
  have c2 := (He.ba (show ((fs.all fun f => f K) && fn.all fun d => d.ok K) = true from congrArg (fun z : He.AlD => z.1) c)).2
  have e : fn.map (fun d => He.fnW K d.at_) = fn.map He.DefD.val := congrArg (fun z : He.AlD => z.2) c
  have e2 : (fn.map fun d => He.fnW K d.at_)[i]? = (fn.map He.DefD.val)[i]? := by rw [e]
  rw [List.getElem?_map, List.getElem?_map, h] at e2
  exact He.DefD.funD (Option.some.inj e2) (List.all_eq_true.mp c2 d (List.mem_of_getElem? h))
end
theorem funOfD {K : PySem.W.Frag} {x qual : Str} {st : Stmt} {f : Addr} {fd : FuncData} (F : FunD K x qual (defArgs st) (defBody st) (defScope st) [] [] f fd) : Fun K x qual st f fd := by
  obtain ⟨c1, c2, v, k1, d1, p1, n1, e1, t1, sl, hf, hl, hc, hd, _⟩ := F.ex
  have hv : v = .none := by
    rcases hd with h | h
    · exact h.2
    · exact absurd rfl h.1
  subst hv
  exact ⟨⟨c1, c2, k1, d1, p1, n1, e1, t1, sl, hf, hl, hc⟩, F.kp⟩
/-- the goal that this head leaves -/
theorem walk_lawE {l : PySem.W.OpenLaw} {k : Nat} {q : Program} {loose : List Str} {XP : (Str → Option Value) → Heap → Prop} {YP : World → Heap → Prop} {d : DefRec} {x : Str}
    (hn : l.most = some 63) (hdf : d.params.defaults = []) (hr : Room k callerA)
    (F : ∀ (w : World) (mg : Str → Option Value) (fa : Addr) (h : Heap), YP w h → h.Ns mainGlobals mg → mg d.name = some (.ref fa) →
      ∃ (K : PySem.W.Frag) (fd : FuncData), K.In h ∧ (∀ (s : Shared) (u : Value), BindsTo s fd ⟨[u], []⟩ [(x, u)]) ∧ ∀ base : Heap, K.In base → base.Ns mainGlobals mg → FnOk l.prog w K mg base (L2N.CX l.prog w) k fa fd [x] (spLaw K [])) :
    PySem.W.WalkO q loose XP YP l.row.toRowW d [] (fun f vs => PySem.call f vs) := by
  refine Att.attach_call hn hdf fun w s₀ s₁ mg mb fa o pm cd doc a vs ns G Y ho hd hcd hmg hobj hints hlen hg => ?_
  obtain ⟨K, fd, KX, hb, hF⟩ := F w mg fa _ Y G.T.g hmg
  exact law_call KX G.T.g G.T.b G.T.builtins G.T.nolimit hg hobj hints (Nat.le_trans hlen (by decide)) hr hF hb (fun H _ hS => ⟨a, ns, rfl, hS, hlen, (fun _ h => (List.not_mem_nil h).elim), fun _ => rfl⟩) fun H e s' z => by
    obtain ⟨_, _, _, _, _, _, _, _, _, _, _, _, z⟩ := z
    exact z.elim
end Dv
set_option Elab.async false
set_option linter.all false
set_option maxRecDepth 100000
set_option maxHeartbeats 4000000
set_option autoImplicit false
/-! range with a step -/
namespace Dv
open PySem PySem.Spec PyProof.Rows L2
def rangeC (lo c : Int) (n : Nat) : List Dt := (List.range n).map fun (k : Nat) => Dt.int (lo + (k : Int) * c)
def rngN (i j c : Int) : Nat := (Builtin.Range.rangeSize i j c).toNat
def rngC (i j c : Int) : Bool := decide (c ≠ 0) && (decide (c.natAbs < 1073741824) && (Builtin.Range.small i j c && decide (Builtin.Range.rangeSize i j c = (rngN i j c : Int))))
def mRng3 (m : Env → Store → R (List Dt)) : Env → Store → R (List Dt) := fun en S => (m en S).bind fun ds S1 => match ds with
  | [.int i, .int j, .int c] => if rngC i j c = true then .ok (rangeC i c (rngN i j c)) S1 else .stuck
  | _ => .stuck
section
variable {G : Gv} {X : Cx} {W : WX} {tg a b c : Expr} {ma : Env → Store → R (List Dt)} {p pos : Pos}
theorem jok_rangeC {io : Io} {H : Hp} {lo k : Int} {n : Nat} : JOk G io H (Itc lo k n) (rangeC lo k n) := by
  refine ⟨fun i io H g hi => ?_, fun i io H g hi => ?_, fun i io H x H' g _ hi hy => ?_⟩
  · simpa [Itc, rangeC] using hi
  · simpa [Itc, rangeC] using hi
  · obtain ⟨rfl, rfl⟩ := hy
    have hi' : i < n := by simpa [rangeC] using hi
    exact ⟨fun _ _ z => z, .int (lo + i * k), by simp [rangeC, hi'], .int _⟩
theorem di_range3 (hm : X.mg "range" = none) (ha : DA G X W [a, b, c] ma) (hg : Gl X "range" := by rfl) (hs : starEach [a, b, c] X.env = (false, eval a X.env) :: starEach [b, c] X.env := by rfl) (hs2 : (backTo pos (starEach [b, c] X.env)).any (·.1) = false := by rfl) :
    DI G X W tg (.Call (.Name "range" p) [a, b, c] [] pos) (mRng3 ma) := by
  obtain ⟨t, pa, qa⟩ := ha
  refine ⟨_, pi_range3 hg hm pa hs hs2, fun io H S en σ Q so re h => ?_⟩
  refine qa io H S en σ _ so re (h.bind.imp (fun _ _ _ _ z => z) fun ds S1 i1 H1 g1 s1 k1 vs r => ?_)
  split at k1
  · rename_i i j k
    split at k1
    · rename_i hj
      unfold rngC at hj
      simp only [Bool.and_eq_true, decide_eq_true_eq] at hj
      obtain ⟨q1, q2, q3, q4⟩ := hj
      cases r with
      | cons r1 r2 =>
        cases r1
        cases r2 with
        | cons r2 r3 =>
          cases r2
          cases r3 with
          | cons r3 r4 =>
            cases r3
            cases r4
            exact ⟨i, j, k, _, rfl, ⟨q1, q2, q3, q4⟩, k1 i1 H1 Grow.refl s1 _ jok_rangeC⟩
    · exact k1.elim
  · exact k1.elim
theorem v_rng3 {ms : Env → Store → R (List Dt)} {en : Env} {S : Store} {QA : List Dt → Store → Prop} {XE : Ex → Store → Prop} (h : Pe (ms en S) (fun ds S1 => ∃ i j k, ds = [.int i, .int j, .int k] ∧ rngC i j k = true ∧ QA (rangeC i k (rngN i j k)) S1) XE) : Pe (mRng3 ms en S) QA XE := by
  refine Pe.bind (h.imp (fun d S1 ⟨b, b', b'', e, r, k⟩ => ?_) fun _ _ z => z)
  subst e
  dsimp only
  rw [if_pos r]
  exact k
end
end Dv
set_option Elab.async false
set_option linter.all false
set_option maxRecDepth 100000
set_option maxHeartbeats 4000000
set_option autoImplicit false
/-! a try whose body lets nothing out; C(..) with defaults left out -/
namespace Dv
open PySem PySem.Spec PyProof.Rows L2
/-- try: the body, that lets nothing out -/
def mTryN (m : Env → Store → RS) : Env → Store → RS := fun en S => match m en S with
  | .ok f e S' => .ok f e S'
  | _ => .stuck
section
variable {G : Gv} {X : Cx} {W : WX}
theorem ds_tryN {body : List Stmt} {h0 : ExceptHandler} {hs : List ExceptHandler} {pos : Pos} {m : Env → Store → RS} (hb : DB G X.nox (fun _ _ _ _ => False) body m) : DS G X W (.Try body (h0 :: hs) [] [] pos) (mTryN m) := by
  obtain ⟨t, p, q⟩ := hb
  refine ⟨t, ps_try_thru0 p, fun io H S en σ D so re h => q io H S en σ D so re ?_⟩
  unfold mTryN at h
  cases e : m en S with
  | ok f e' S' => rw [e] at h; exact h
  | err x e' S' => rw [e] at h; exact h.elim
  | stuck => rw [e] at h; exact h
theorem v_tryN {m : Env → Store → RS} {en : Env} {S : Store} {Q : Fl → Env → Store → Prop} {XE : Ex → Env → Store → Prop} (h : Ps (m en S) Q fun _ _ _ => False) : Ps (mTryN m en S) Q XE := by
  unfold mTryN
  cases e : m en S with
  | ok f e' S' => rw [e] at h; exact h
  | err x e' S' => rw [e] at h; exact h.elim
  | stuck => rw [e] at h; exact h.elim
end
/-! ### C(..), the last ones by default -/
def mMakeV (c : String) (np : Nat) (fn : Fn) (dfs : List Dt) (ma : Env → Store → R (List Dt)) : Env → Store → R Dt := fun en S => (ma en S).bind fun ds S1 => if (ds ++ dfs).length + 1 = np then (fn (.ref S1.length :: (ds ++ dfs)) (S1 ++ [.ins c [] []])).bind fun r S2 => match r with
  | .non => .ok (.ref S1.length) S2
  | _ => .stuck else .stuck
section
end
/-! words -/
section
variable {en : Env} {S : Store} {Q : Dt → Store → Prop} {XE : Ex → Store → Prop} {ms : Env → Store → R (List Dt)}
theorem v_makeV {c : String} {np : Nat} {fn : Fn} {dfs : List Dt} (h : Pe (ms en S) (fun ds S1 => (ds ++ dfs).length + 1 = np ∧ Pe (fn (.ref S1.length :: (ds ++ dfs)) (S1 ++ [.ins c [] []])) (fun r S2 => r = .non ∧ Q (.ref S1.length) S2) XE) XE) : Pe (mMakeV c np fn dfs ms en S) Q XE := by
  refine Pe.bind (h.imp (fun ds S1 ⟨hl, k⟩ => ?_) fun _ _ z => z)
  rw [if_pos hl]
  refine Pe.bind (k.imp (fun r S2 ⟨e, k2⟩ => ?_) fun _ _ z => z)
  subst e
  exact k2
end
end Dv
set_option Elab.async false
set_option linter.all false
set_option maxRecDepth 100000
set_option maxHeartbeats 4000000
set_option autoImplicit false
/-! len of an instance by its own __len__ -/
namespace Dv
open PySem PySem.Spec PyProof.Rows L2
section
end
section
end
section
end
end Dv
set_option Elab.async false
set_option linter.all false
set_option maxRecDepth 100000
set_option maxHeartbeats 4000000
set_option autoImplicit false
/-! enumerate(tuple) -/
namespace Dv
open PySem PySem.Spec PyProof.Rows L2
open PySem.Sem (wp)
open AutoSeq1 (wpAny_loadPart')
section
end
/-- the walk over enumerate(list or tuple) -/
def itemsX (d : Dt) : Option (List Dt) := match d with
  | .lst ds => some ds
  | .fz ds => some ds
  | .tup ds => some ds
  | _ => none
def mEnum2 (m : Env → Store → R (List Dt)) : Env → Store → R (List Dt) := fun en S => (m en S).bind fun ds S1 => match ds with
  | [x] => match itemsX x with
    | some xs => .ok (numbered 0 xs) S1
    | _ => .stuck
  | _ => .stuck
section
end
section
variable {en : Env} {S : Store} {QA : List Dt → Store → Prop} {XE : Ex → Store → Prop} {ms : Env → Store → R (List Dt)}
theorem v_enum2 (h : Pe (ms en S) (fun ds S1 => ∃ x xs, ds = [x] ∧ itemsX x = some xs ∧ QA (numbered 0 xs) S1) XE) : Pe (mEnum2 ms en S) QA XE := by
  refine Pe.bind (h.imp (fun ds S1 ⟨x, xs, e, e1, q⟩ => ?_) fun _ _ z => z)
  subst e
  dsimp only
  rw [e1]
  exact q
end
end Dv
set_option Elab.async false
set_option linter.all false
set_option maxRecDepth 100000
set_option maxHeartbeats 4000000
set_option autoImplicit false
/-! x in xs, the items plain data of any depth -/
namespace Dv
open PySem PySem.Spec PyProof.Rows L2
theorem okD_up1 : ∀ (k : Nat) (d : Dt), okD k d = true → okD (k + 1) d = true
  | k, .non, _ => by cases k <;> rfl
  | k, .bl _, _ => by cases k <;> rfl
  | k, .int _, _ => by cases k <;> rfl
  | 0, .str s, h => h
  | _ + 1, .str s, h => h
  | k + 1, .tup ds, h => List.all_eq_true.mpr fun x hx => okD_up1 k x (List.all_eq_true.mp h x hx)
  | k + 1, .lst ds, h => List.all_eq_true.mpr fun x hx => okD_up1 k x (List.all_eq_true.mp h x hx)
  | 0, .tup _, h => nomatch h
  | 0, .lst _, h => nomatch h
  | 0, .ty _, h => nomatch h
  | _ + 1, .ty _, h => nomatch h
  | 0, .cls _, h => nomatch h
  | _ + 1, .cls _, h => nomatch h
  | 0, .fz _, h => nomatch h
  | _ + 1, .fz _, h => nomatch h
  | 0, .ins _ _ _, h => nomatch h
  | _ + 1, .ins _ _ _, h => nomatch h
  | 0, .dct _ _, h => nomatch h
  | _ + 1, .dct _ _, h => nomatch h
  | 0, .ref _, h => nomatch h
  | _ + 1, .ref _, h => nomatch h
  | 0, .lam _ _, h => nomatch h
  | _ + 1, .lam _ _, h => nomatch h
section
end
end Dv
set_option Elab.async false
set_option linter.all false
set_option maxRecDepth 100000
set_option maxHeartbeats 4000000
set_option autoImplicit false
/-! a, b, .. = a list -/
namespace Dv
open PySem PySem.Spec PyProof.Rows L2
end Dv
set_option Elab.async false
set_option linter.all false
set_option maxRecDepth 100000
set_option maxHeartbeats 4000000
set_option autoImplicit false
/-! try with several clauses `except (A, B, ..) as e` -/
namespace Dv
open PySem PySem.Spec PyProof.Rows L2
open PySem.W (exmOne exmAny Frag Looks)
section
end
section
end
/-! ### the tests of the clauses -/
section
end
/-! ### the statement -/
section
end
end Dv
set_option Elab.async false
set_option linter.all false
set_option maxRecDepth 100000
set_option maxHeartbeats 4000000
set_option autoImplicit false
/-! x(lambda: ..), x a def that tries what it gets -/
namespace Dv
open PySem PySem.Spec PyProof.Rows L2
/-- the asked lambda's context, its exceptions with no context -/
def lamN (X : Cx) (A : Around) (outer : List PySem.Env) (s : Shared) (H : Hp) (E : XK) (scope : Scope) (f c' : Addr) : Cx := { LamX.lamCx X A outer s H E scope f c' with
  xe := fun e s' => wpAny (model X.prog X.w) (A.deeper (LamX.lamEnv X scope s.heap.objs.size f c')) (leaving (LamX.lamEnv X scope s.heap.objs.size f c') e) (fun _ z => L2N.CX X.prog X.w outer H s E e z) (fun e' z => L2N.CX X.prog X.w outer H s E e' z) s' }
section
end
section
end
end Dv
set_option Elab.async false
set_option linter.all false
set_option maxRecDepth 100000
set_option maxHeartbeats 4000000
set_option autoImplicit false
/-! the two defs that try what they get -/
namespace Dv
open PySem PySem.Spec PyProof.Rows L2
open PySem.W (exmAny)
end Dv
set_option Elab.async false
set_option linter.all false
set_option maxRecDepth 100000
set_option maxHeartbeats 4000000
set_option autoImplicit false
/-! a def that makes lambdas; the head's end with tables -/
namespace Dv
open PySem PySem.Spec PyProof.Rows L2
section
end
end Dv
set_option Elab.async false
set_option linter.all false
set_option maxRecDepth 100000
set_option maxHeartbeats 4000000
set_option autoImplicit false
/-! bool and repr of an instance -/
namespace Dv
open PySem PySem.Spec PyProof.Rows L2
section
end
section
end
section
end
end Dv
set_option Elab.async false
set_option linter.all false
set_option maxRecDepth 100000
set_option maxHeartbeats 4000000
set_option autoImplicit false
/-! == and != of an instance and a thing of a built-in class -/
namespace Dv
open PySem PySem.Spec PyProof.Rows L2
section
end
section
end
section
end
end Dv
set_option Elab.async false
set_option linter.all false
set_option maxRecDepth 100000
set_option maxHeartbeats 4000000
set_option autoImplicit false
/-! max of two numbers -/
namespace Dv
open PySem PySem.Spec PyProof.Rows L2
section
end
end Dv
set_option Elab.async false
set_option linter.all false
set_option maxRecDepth 100000
set_option maxHeartbeats 4000000
set_option autoImplicit false
/-! dicts of the store: a display, d[k] = v -/
namespace Dv
open PySem PySem.Spec PyProof.Rows L2
section
end
section
end
section
end
end Dv
set_option Elab.async false
set_option linter.all false
set_option maxRecDepth 100000
set_option maxHeartbeats 4000000
set_option autoImplicit false
/-! min of two numbers -/
namespace Dv
open PySem PySem.Spec PyProof.Rows L2
section
end
end Dv
set_option Elab.async false
set_option linter.all false
set_option maxRecDepth 100000
set_option maxHeartbeats 4000000
set_option autoImplicit false
/-! d[k] = v of a dict of the store, k a text that it has -/
namespace Dv
open PySem PySem.Spec PyProof.Rows L2
section
end
end Dv
set_option Elab.async false
set_option linter.all false
set_option maxRecDepth 100000
set_option maxHeartbeats 4000000
set_option autoImplicit false
/-! targets with a star: a, *b = a list -/
namespace PySem.W
open PySem PySem.Spec PySem.Calls PyProof.Rows
section
end
end PySem.W
namespace Dv
open PySem PySem.Spec PyProof.Rows L2
section
end
end Dv
set_option Elab.async false
set_option linter.all false
set_option maxRecDepth 100000
set_option maxHeartbeats 4000000
set_option autoImplicit false
/-! a part of a block, what it made by value behind it -/
namespace Dv
open PySem PySem.Spec PyProof.Rows L2
section
end
end Dv
set_option Elab.async false
set_option linter.all false
set_option maxRecDepth 100000
set_option maxHeartbeats 4000000
set_option autoImplicit false
/-! a def of the text called with keywords; keyword-only parameters that are left out -/
namespace Dv
open PySem PySem.Spec PyProof.Rows L2
section
end
section
end
end Dv
set_option Elab.async false
set_option linter.all false
set_option maxRecDepth 100000
set_option maxHeartbeats 4000000
set_option autoImplicit false
/-! lists that change in place: += of two lists, an item += a number, a slice that is to be changed -/
namespace Dv
open PySem PySem.Spec PyProof.Rows L2
section
end
section
end
end Dv
set_option Elab.async false
set_option linter.all false
set_option maxRecDepth 100000
set_option maxHeartbeats 4000000
set_option autoImplicit false
/-! exceptions of the text over ValueError, LookupError or IndexError, whose __init__ stores -/
namespace Dv
open PySem PySem.Spec PyProof.Rows L2 Builtin Builtin.ObjectAttr
section
end
/-! ### the rules -/
section
end
section
end
section
end
/-! what the head decides -/
end Dv
set_option Elab.async false
set_option linter.all false
set_option maxRecDepth 100000
set_option maxHeartbeats 4000000
set_option autoImplicit false
/-! the def that asks, and tells the word and the field of what it gets -/
namespace Dv
open PySem PySem.Spec PyProof.Rows L2
open PySem.W (exmAny)
/-! the clauses as they stand -/
end Dv
set_option Elab.async false
set_option linter.all false
set_option maxRecDepth 100000
set_option maxHeartbeats 4000000
set_option autoImplicit false
/-! a method called without its keyword-only parameters -/
namespace Dv
open PySem PySem.Spec PyProof.Rows L2
section
end
end Dv
set_option Elab.async false
set_option linter.all false
set_option maxRecDepth 100000
set_option maxHeartbeats 4000000
set_option autoImplicit false
/-! o[a:b] = a list, o a list of the store -/
namespace Dv
open PySem PySem.Spec PyProof.Rows L2
section
end
end Dv
set_option Elab.async false
set_option linter.all false
set_option maxRecDepth 100000
set_option maxHeartbeats 4000000
set_option autoImplicit false
/-! del o[a:b], o a list of the store -/
namespace Dv
open PySem PySem.Spec PyProof.Rows L2
section
end
section
end
/-! words of the walks -/
section
end
end Dv
set_option Elab.async false
set_option linter.all false
set_option maxRecDepth 100000
set_option maxHeartbeats 4000000
set_option autoImplicit false
/-! == of two dicts of the same two text keys, whose values are lists -/
namespace Dv
open PySem PySem.Spec PyProof.Rows L2
section
end
section
end
section
end
end Dv
set_option Elab.async false
set_option linter.all false
set_option maxRecDepth 100000
set_option maxHeartbeats 4000000
set_option autoImplicit false
/-! TABLE.get(key, z): a dict of the module with text keys and whole numbers -/
namespace Dv
open PySem PySem.Spec PyProof.Rows L2
section
end
section
end
section
end
end Dv
set_option Elab.async false
set_option linter.all false
set_option maxRecDepth 100000
set_option maxHeartbeats 4000000
set_option autoImplicit false
/-! a, b, c = x, y, z: plain names -/
namespace Dv
open PySem PySem.Spec PyProof.Rows L2
section
end
section
end
end Dv
set_option Elab.async false
set_option linter.all false
set_option maxRecDepth 100000
set_option maxHeartbeats 4000000
set_option autoImplicit false
/-! xs.insert(i, y), xs a list of the store, i not below nought -/
namespace Dv
open PySem PySem.Spec PyProof.Rows L2
section
end
end Dv
set_option Elab.async false
set_option linter.all false
set_option maxRecDepth 100000
set_option maxHeartbeats 4000000
set_option autoImplicit false
/-! try: .. except (A, B, ..): .., nothing bound -/
namespace Dv
open PySem PySem.Spec PyProof.Rows L2
open PySem.W (exmOne exmAny Frag Looks)
section
end
section
end
end Dv
set_option Elab.async false
set_option linter.all false
set_option maxRecDepth 100000
set_option maxHeartbeats 4000000
set_option autoImplicit false
/-! a tuple so often -/
namespace Dv
open PySem PySem.Spec PyProof.Rows L2
section
end
end Dv
set_option Elab.async false
set_option linter.all false
set_option maxRecDepth 100000
set_option maxHeartbeats 4000000
set_option autoImplicit false
/-! a tuple so often, also once or never -/
namespace Dv
open PySem PySem.Spec PyProof.Rows L2
section
end
section
end
end Dv
set_option Elab.async false
set_option linter.all false
set_option maxRecDepth 100000
set_option maxHeartbeats 4000000
set_option autoImplicit false
/-! for at, thing in enumerate(row), the row an object of the store that stays as it is meanwhile -/
noncomputable section
namespace Dv
open PySem PySem.Spec PyProof.Rows L2
/-- an iterator over these items while c is true of the store -/
structure JOkS (G : Gv) (c : Store → Prop) (io0 : Io) (H0 : Hp) (J : It) (items : List Dt) : Prop where
  go : ∀ i io H S, Grow io0 H0 io H → StoreOk G io S H → c S → i < items.length → J.go i H
  stop : ∀ i io H S, Grow io0 H0 io H → StoreOk G io S H → c S → items.length ≤ i → J.stop i H
  yld : ∀ i io H S x H', Grow io0 H0 io H → StoreOk G io S H → c S → (∀ a, H a = none → a ∉ io) → i < items.length → J.yld i H x H' → ExtH H H' ∧ ∃ d, items[i]? = some d ∧ RelD G io H' d x
theorem JOkS.of {G : Gv} {c : Store → Prop} {io0 : Io} {H0 : Hp} {J : It} {items : List Dt} (j : JOk G io0 H0 J items) : JOkS G c io0 H0 J items :=
  ⟨fun i io H S g _ _ h => j.go i io H g.base h, fun i io H S g _ _ h => j.stop i io H g.base h, fun i io H S x H' g _ _ f h y => j.yld i io H x H' g.base f h y⟩
section
end
section
end
end Dv
end
set_option Elab.async false
set_option linter.all false
set_option maxRecDepth 100000
set_option maxHeartbeats 4000000
set_option autoImplicit false
/-! for and [..] over a list of the store that stays as it is meanwhile -/
noncomputable section
namespace Dv
open PySem PySem.Spec PyProof.Rows L2
/-- an iterator over these items while c is true of the store -/
structure JOkB (G : Gv) (c : Store → Prop) (io0 : Io) (H0 : Hp) (J : It) (items : List Dt) : Prop where
  go : ∀ i io H S, Base io0 H0 io H → StoreOk G io S H → c S → i < items.length → J.go i H
  stop : ∀ i io H S, Base io0 H0 io H → StoreOk G io S H → c S → items.length ≤ i → J.stop i H
  yld : ∀ i io H S x H', Base io0 H0 io H → StoreOk G io S H → c S → (∀ a, H a = none → a ∉ io) → i < items.length → J.yld i H x H' → ExtH H H' ∧ ∃ d, items[i]? = some d ∧ RelD G io H' d x
theorem JOkB.of {G : Gv} {c : Store → Prop} {io0 : Io} {H0 : Hp} {J : It} {items : List Dt} (j : JOk G io0 H0 J items) : JOkB G c io0 H0 J items :=
  ⟨fun i io H S g _ _ h => j.go i io H g h, fun i io H S g _ _ h => j.stop i io H g h, fun i io H S x H' g _ _ f h y => j.yld i io H x H' g f h y⟩
section
end
section
end
section
end
end Dv
end
set_option Elab.async false
set_option linter.all false
set_option maxRecDepth 100000
set_option maxHeartbeats 4000000
set_option autoImplicit false
/-! [..] that stays an object, over a list of the store -/
noncomputable section
namespace Dv
open PySem PySem.Spec PyProof.Rows L2
section
end
section
end
end Dv
end
set_option Elab.async false
set_option linter.all false
set_option maxRecDepth 100000
set_option maxHeartbeats 4000000
set_option autoImplicit false
/-! a tuple of texts that the module names -/
namespace Dv
open PySem PySem.Spec PyProof.Rows L2
/-! max of a list of numbers -/
section
end
end Dv
set_option Elab.async false
set_option linter.all false
set_option maxRecDepth 100000
set_option maxHeartbeats 4000000
set_option autoImplicit false
/-! a lambda that is kept in a variable and handed to a def later -/
namespace Dv
open PySem PySem.Spec PyProof.Rows L2
section
end
section
end
/-- a lambda as it stands -/
structure LamE where
  ar : Arguments
  body : Expr
  sc : Scope
section
variable {G : Gv} {X : Cx} {W : WX}
structure LamD (G : Gv) (X : Cx) (k : Nat) (l : LamE) (m : Env → Store → R Dt) : Prop where
  ok : LamX.LamS X.env.scope l.sc
  bind : ∀ (q : Str) (cl : List (Str × Addr)) (pm cv ctv : Value), bindArgs (PySem.W.kla_fn "<lambda>" q l.ar l.body l.sc cl pm cv ctv) ⟨[], []⟩ = pure []
  body : ∀ (A : Around) (outer : List PySem.Env) (s : Shared) (H : Hp) (E : XK) (f c : Addr), Room k (A.deeper (LamX.lamEnv X l.sc s.heap.objs.size f c)) → DE G (lamN X A outer s H E l.sc f c) (fun cls d _ H => E cls d H) l.body m
inductive LamsD (G : Gv) (X : Cx) (k : Nat) : List LamE → List (Env → Store → R Dt) → Prop
  | nil : LamsD G X k [] []
  | cons {l : LamE} {m : Env → Store → R Dt} {ls : List LamE} {ms : List (Env → Store → R Dt)} : LamD G X k l m → LamsD G X k ls ms → LamsD G X k (l :: ls) (m :: ms)
theorem LamsD.at_ {k : Nat} {ls : List LamE} {ms : List (Env → Store → R Dt)} (h : LamsD G X k ls ms) : ∀ {n : Nat} {l : LamE} {m : Env → Store → R Dt}, ls[n]? = some l → ms[n]? = some m → LamD G X k l m := by
  induction h with
  | nil => intro n l m e; simp at e
  | cons h r ih =>
    intro n l m e1 e2
    cases n with
    | zero =>
      simp at e1 e2
      subst e1 e2
      exact h
    | succ n => exact ih (by simpa using e1) (by simpa using e2)
end
section
end
end Dv
set_option Elab.async false
set_option linter.all false
set_option maxRecDepth 100000
set_option maxHeartbeats 4000000
set_option autoImplicit false
/-! a lambda that is kept in a variable, called by the def that made it -/
namespace Dv
open PySem PySem.Spec PyProof.Rows L2
section
end
end Dv
set_option Elab.async false
set_option linter.all false
set_option maxRecDepth 100000
set_option maxHeartbeats 4000000
set_option autoImplicit false
/-! dict(d): another dict with the same entries -/
namespace Dv
open PySem PySem.Spec PyProof.Rows L2
section
end
end Dv
set_option Elab.async false
set_option linter.all false
set_option maxRecDepth 100000
set_option maxHeartbeats 4000000
set_option autoImplicit false
/-! a text so often, a long list so often -/
namespace Dv
open PySem PySem.Spec PyProof.Rows L2
section
end
end Dv
set_option Elab.async false
set_option linter.all false
set_option maxRecDepth 100000
set_option maxHeartbeats 4000000
set_option autoImplicit false
/-! slices of texts -/
namespace Dv
open PySem PySem.Spec PyProof.Rows L2
section
end
end Dv
set_option Elab.async false
set_option linter.all false
set_option maxRecDepth 100000
set_option maxHeartbeats 4000000
set_option autoImplicit false
/-! dicts of the store whose keys are tuples of numbers and texts -/
namespace Dv
open PySem PySem.Spec PyProof.Rows L2
def keyD : Dt → Option Key
  | .int i => some (.inl i)
  | .str s => some (.inr s)
  | _ => none
def lookT : List (List Key) → List Dt → List Key → Option Dt
  | k :: ks, d :: ds, x => if k = x then some d else lookT ks ds x
  | _, _, _ => none
section
end
/-- d[k] = v for a key that is not there -/
def setT (S : Store) (x : Dt) (y v : Dt) : Option Store := match x, y with
  | .ref i, .tup z => match S[i]?, mapO keyD z with
    | some (.dkt ks ds), some k => if (lookT ks ds k).isNone = true ∧ ks.length < 100000 then some (S.set i (.dkt (ks ++ [k]) (ds ++ [v]))) else none
    | _, _ => none
  | _, _ => none
section
/-! {k: v}, k a tuple -/
end
end Dv
set_option Elab.async false
set_option linter.all false
set_option maxRecDepth 100000
set_option maxHeartbeats 4000000
set_option autoImplicit false
/-! a tuple that begins with a text == a tuple of one text -/
namespace Dv
open PySem PySem.Spec PyProof.Rows L2
section
end
end Dv
set_option Elab.async false
set_option linter.all false
set_option maxRecDepth 100000
set_option maxHeartbeats 4000000
set_option autoImplicit false
/-! xs.index(x), xs.count(x), the items plain data of any depth -/
namespace Dv
open PySem PySem.Spec PyProof.Rows L2
def cntD (o x : Dt) (S : Store) : R Dt := match res S o with
  | .lst ds => if okD deep (res S x) = true ∧ okD deep (.lst ds) = true then .ok (.int ((ds.countP fun z => eqD z (res S x) : Nat) : Int)) S else .stuck
  | _ => .stuck
/-- a list's method of one argument -/
def mLM (f : Dt → Dt → Store → R Dt) (mo : Env → Store → R Dt) (ma : Env → Store → R (List Dt)) : Env → Store → R Dt := fun en S => (mo en S).bind fun o S1 => match asP S1 o with
  | some _ => (ma en S1).bind fun xs S2 => match xs with
    | [x] => f o x S2
    | _ => .stuck
  | none => .stuck
/-- l.count(x): how many are equal -/
def rCountD (K : PySem.W.Frag) : V → List V → Hp → VK → Prop := fun x xs H Q => ∃ (a : Addr) (y : V) (d : PyData) (ds : List PyData), x = V.ref a ∧ xs = [y] ∧ Dp K H (V.ref a) (.list ds) ∧ Dp K H y d ∧
  SeqAt.shaped (.list ds) = true ∧ SeqAt.shaped d = true ∧ Q (.int ((ds.countP fun z => PyData.eqv z d : Nat) : Int)) H
section
variable {G : Gv} {X : Cx} {W : WX}
theorem mt_countD (hu : X.A.units + 65 < cLine) : MtR X "list.count" (rCountD X.K) := by
  intro pins s σ H x xs v us Q I rx rxs h
  obtain ⟨a, y, d, ds, rfl, rfl, hl, hy, sl, sd, q⟩ := h
  cases rx
  cases rxs with
  | cons ry rt =>
    rename_i uy ut
    cases rt
    obtain ⟨bs, r1⟩ := Dp.reads I d y uy hy ry
    have hxs : PyData.canLayAll0 ds = true := SeqAt.canLay_of_shaped sl
    have hroom : X.A.units + 1 + min (PyData.depthAll ds) d.depth < cLine := room_in_shaped sd hu
    cases hl with
    | lst hs ha =>
      obtain ⟨its, rv, ⟨⟨cls, dd, data, sls⟩, n, ho, hc, hdn, hdt⟩, hlen⟩ := I.list hs
      simp only at hc hdt
      subst hc hdt
      obtain ⟨as, h4⟩ := Dp.readsAll I ds _ its ha rv
      have hmap : its.map (SeqAt.readOf s.heap) = ds := SeqAt.readsAll_map ds its as hxs h4
      refine call_meets PySem.F.slot_list_count ⟨_, ho, rfl⟩ PySem.F.entry_list_count (PySem.F.args_list_count_2 _ _)
        (SeqAt.list_countAt a its.toArray n dd sls uy (fun u => PyData.eqv (SeqAt.readOf s.heap u) d)) ⟨ho, SeqAt.items_eqAt (vs := its.toArray) (show ReadsAll s.heap its.toArray.toList ds as from h4) r1 hxs (SeqAt.canLay_of_shaped sd) hroom, ?_⟩
      have e : its.countP (fun u => PyData.eqv (SeqAt.readOf s.heap u) d) = ds.countP fun z => PyData.eqv z d := by
        rw [← hmap, List.countP_map]
        rfl
      show EP X pins σ Q (.int ((its.countP (fun u => PyData.eqv (SeqAt.readOf s.heap u) d) : Nat) : Int) s.toks) _
      rw [e]
      exact ⟨.int _, H, I.tok _, ⟨_, rfl⟩, q⟩
theorem toPys_ok {ds : List Dt} {d : Dt} (h1 : okD deep d = true) (h2 : okD deep (.lst ds) = true) : ∀ e ∈ ds, PyData.eqv (toPy e) (toPy d) = eqD e d := fun e he => by
  have h3 : ds.all (okD 11) = true := h2
  exact eqv_of deep e d (okD_up1 11 e (List.all_eq_true.mp h3 e he)) h1
theorem toPys_map : ∀ ds : List Dt, toPys ds = ds.map toPy
  | [] => rfl
  | d :: ds => by
    show toPy d :: toPys ds = _
    rw [toPys_map ds]
    rfl
/-- a method as it stands, by what it tells -/
def LMok (G : Gv) (X : Cx) (f : Dt → Dt → Store → R Dt) (r : V → List V → Hp → VK → Prop) : Prop := ∀ (io : Io) (H : Hp) (S : Store) (vo vx : V) (o x : Dt) (Q : VK), StoreOk G io S H → RelD G io H o vo → RelD G io H x vx → Out G io H (fun _ _ _ => False) (poE G Q) (f o x S) → r vo [vx] H Q
theorem cnt_ok (hK : X.K = G.K := by rfl) : LMok G X cntD (rCountD X.K) := by
  intro io H S vo vx o x Q so ro rx h
  unfold cntD at h
  split at h
  · rename_i ds e
    split at h
    · rename_i hc
      obtain ⟨p1, q1⟩ := res_ok so rx hc.1
      have hy : okD deep (res S o) = true := by rw [e]; exact hc.2
      obtain ⟨p2, q2⟩ := res_ok so ro hy
      have q2 := q2 (by decide)
      rw [e] at p2 q2
      have ev := toPys_ok hc.1 hc.2
      have p2 : Dp G.K H vo (.list (toPys ds)) := p2
      cases p2 with
      | @lst a xs _ k1 k2 =>
        refine ⟨a, vx, _, toPys ds, rfl, rfl, by rw [hK]; exact .lst k1 k2, by rw [hK]; exact p1, q2, q1 (by decide), ?_⟩
        have e2 : ((toPys ds).countP fun z => PyData.eqv z (toPy (res S x))) = ds.countP fun z => eqD z (res S x) := by
          rw [toPys_map, List.countP_map]
          refine List.countP_congr fun z hz => ?_
          show (PyData.eqv (toPy z) _ = true ↔ _)
          rw [ev z hz]
        rw [e2]
        exact h io H Grow.refl so _ (.int _)
    · exact h.elim
  · exact h.elim
theorem de_lm {f : Dt → Dt → Store → R Dt} {r : V → List V → Hp → VK → Prop} {o e : Expr} {mo : Env → Store → R Dt} {ma : Env → Store → R (List Dt)} {name : Str} {id : String} {apos cpos : Pos} (slot : Slot "list" name id) (hty : typeOf (.builtin id) = pure (.type "method_descriptor")) (hm : MtR X id r) (hf : LMok G X f r)
    (hn : ∀ o x S, NoErr (f o x S)) (ho : DE G X W o mo) (ha : DA G X W [e] ma) (hK : X.K = G.K := by rfl)
    (hbase : attributeBase o name X.env (eval o X.env) = eval o X.env := by rfl)
    (hfew : ((backTo cpos (starEach [e] X.env)).all (fun x => !x.1) && (backToKw cpos (keywordEach [] X.env)).all (fun x => x.1.isSome)
      && decide ([e].length + ([] : List Keyword).length + (if ([] : List Keyword).isEmpty then 0 else 1) < 30)) = true := by rfl)
    (hline : (apos.endLine == cpos.line) = true := by rfl) (hs : starEach [e] X.env = (false, eval e X.env) :: starEach [] X.env := by rfl) (hplain : (backTo cpos (starEach [] X.env)).any (·.1) = false := by rfl) :
    DE G X W (.Call (.Attribute o name apos) [e] [] cpos) (mLM f mo ma) := by
  obtain ⟨to, po, qo⟩ := ho
  obtain ⟨ta, pa, qa⟩ := ha
  refine ⟨_, pe_bm PySem.F.plainAttrs_list slot hty hm po pa hbase hfew hline hs hplain, fun io H S en σ Q so re h => ?_⟩
  refine qo io H S en σ _ so re (h.bind.imp (fun _ _ _ _ z => z) fun d S1 i1 H1 g1 s1 k1 v rv => ?_)
  split at k1
  · rename_i ds hd
    obtain ⟨a, vs, rfl, h1, h2⟩ := asP_ok s1 rv hd
    refine ⟨.inl ⟨rfl, _, .of h1⟩, ?_⟩
    refine qa i1 H1 S1 en σ _ s1 (re.mono g1) (k1.bind.imp (fun _ _ _ _ z => z) fun xs S2 i2 H2 g2 s2 k2 us ru => ?_)
    split at k2
    · rename_i x
      cases ru with
      | cons r1 r2 =>
        cases r2
        refine hf i2 H2 S2 _ _ d x _ s2 (rv.mono g2) r1 ?_
        have ne := hn d x S2
        cases er : f d x S2 with
        | ok y S3 => rw [er] at k2; exact k2
        | err y S3 => rw [er] at ne; exact ne.elim
        | stuck => rw [er] at k2; exact k2
    · exact k2.elim
  · exact k1.elim
theorem cnt_no (o x : Dt) (S : Store) : NoErr (cntD o x S) := by
  unfold cntD
  repeat' split
  all_goals trivial
theorem de_count {o e : Expr} {mo : Env → Store → R Dt} {ma : Env → Store → R (List Dt)} {apos cpos : Pos} (hu : X.A.units + 65 < cLine) (ho : DE G X W o mo) (ha : DA G X W [e] ma) (hK : X.K = G.K := by rfl)
    (hbase : attributeBase o "count" X.env (eval o X.env) = eval o X.env := by rfl)
    (hfew : ((backTo cpos (starEach [e] X.env)).all (fun x => !x.1) && (backToKw cpos (keywordEach [] X.env)).all (fun x => x.1.isSome)
      && decide ([e].length + ([] : List Keyword).length + (if ([] : List Keyword).isEmpty then 0 else 1) < 30)) = true := by rfl)
    (hline : (apos.endLine == cpos.line) = true := by rfl) (hs : starEach [e] X.env = (false, eval e X.env) :: starEach [] X.env := by rfl) (hplain : (backTo cpos (starEach [] X.env)).any (·.1) = false := by rfl) :
    DE G X W (.Call (.Attribute o "count" apos) [e] [] cpos) (mLM cntD mo ma) := de_lm PySem.F.slot_list_count PySem.F.type_list_count (mt_countD hu) (cnt_ok hK) cnt_no ho ha hK hbase hfew hline hs hplain
end
end Dv
set_option Elab.async false
set_option linter.all false
set_option maxRecDepth 100000
set_option maxHeartbeats 4000000
set_option autoImplicit false
/-! list(d.values()) as an object of the store -/
namespace Dv
open PySem PySem.Spec PyProof.Rows L2
section
end
end Dv
set_option Elab.async false
set_option linter.all false
set_option maxRecDepth 100000
set_option maxHeartbeats 4000000
set_option autoImplicit false
/-! {k: v for x in xs} as an object of the store, the keys texts, none twice -/
namespace Dv
open PySem PySem.Spec PyProof.Rows L2
section
end
section
end
end Dv
set_option Elab.async false
set_option linter.all false
set_option maxRecDepth 100000
set_option maxHeartbeats 4000000
set_option autoImplicit false
/-! xs * k as an object of the store -/
namespace Dv
open PySem PySem.Spec PyProof.Rows L2
section
end
end Dv
set_option Elab.async false
set_option linter.all false
set_option maxRecDepth 100000
set_option maxHeartbeats 4000000
set_option autoImplicit false
/-! y = {k: v for x in xs} on one line, y a local -/
namespace Dv
open PySem PySem.Spec PyProof.Rows L2
section
end
end Dv
set_option Elab.async false
set_option linter.all false
set_option maxRecDepth 100000
set_option maxHeartbeats 4000000
set_option autoImplicit false
/-! try: .. finally: .. ; the suite behind lets nothing out, the body ends at its end or raises -/
namespace Dv
open PySem PySem.Spec PyProof.Rows L2
section
end
section
end
section
end
section
end
end Dv
set_option Elab.async false
set_option linter.all false
set_option maxRecDepth 100000
set_option maxHeartbeats 4000000
set_option autoImplicit false
/-! == of an instance and an instance of another own class -/
namespace Dv
open PySem PySem.Spec PyProof.Rows L2
section
end
section
end
end Dv
set_option Elab.async false
set_option linter.all false
set_option maxRecDepth 100000
set_option maxHeartbeats 4000000
set_option autoImplicit false
/-! any(xs) of a list of truths -/
namespace Dv
open PySem PySem.Spec PyProof.Rows L2
section
end
end Dv
set_option Elab.async false
set_option linter.all false
set_option maxRecDepth 100000
set_option maxHeartbeats 4000000
set_option autoImplicit false
/-! walks over zip(xs, ys): lists of the store that stay as they are, or plain ones, of any lengths -/
noncomputable section
namespace Dv
open PySem PySem.Spec PyProof.Rows L2
section
end
section
end
end Dv
set_option Elab.async false
set_option linter.all false
set_option maxRecDepth 100000
set_option maxHeartbeats 4000000
set_option autoImplicit false
/-! (a, b, ..) = a tuple, where an exception is handled whose context is None -/
namespace Dv
open PySem PySem.Spec PyProof.Rows L2
section
end
section
end
end Dv
set_option Elab.async false
set_option linter.all false
set_option maxRecDepth 100000
set_option maxHeartbeats 4000000
set_option autoImplicit false
/-! != of two lists of the very same objects of the store -/
namespace Dv
open PySem PySem.Spec PyProof.Rows L2
section
end
section
end
end Dv
set_option Elab.async false
set_option linter.all false
set_option maxRecDepth 100000
set_option maxHeartbeats 4000000
set_option autoImplicit false
/-! sets of nested tuples that are all apart: the table -/
namespace Dv
open PySem PySem.Spec PyProof.Rows L2
section
variable {P : Program} {w : World} {A : Around} {s : Shared}
/-- of no class statement, n levels down -/
def NoClsAt (P : Program) (w : World) (n : Nat) (s : Shared) (v : Value) : Prop := ∀ (A : Around) (E : Value → Shared → Prop) (Q : Bool → Shared → Prop), Q false s → wpAny (model P w) A (ofAClassStatement n v) Q E s
/-- that it is asked by value or not moves nothing -/
def ByValAt (P : Program) (w : World) (n : Nat) (s : Shared) (v : Value) : Prop := ∀ (A : Around) (E : Value → Shared → Prop) (Q : Bool → Shared → Prop), (∀ b, Q b s) → wpAny (model P w) A (hashByValue n v) Q E s
theorem noCls_tuple {a : Addr} {o : Obj} {vs : Array Value} {n m : Nat} (ho : s.heap.get? a = some o) (hc : o.cls = .type "tuple") (hd : o.data = .seq vs m) (hq : ∀ v ∈ vs.toList, NoClsAt P w n s v) : NoClsAt P w (n + 1) s (.ref a) := fun A E Q h => by
  have hT : s.TypeIs (.ref a) "tuple" := ⟨o, ho, hc⟩
  unfold ofAClassStatement
  refine wpAny_bind (wpAny_typeOf hT ?_)
  dsimp only
  have e : (("tuple" : String) == "tuple") = true := by decide
  simp only [e, if_true, Bool.not_true, Bool.false_eq_true, if_false]
  try refine wpAny_bind (wpAny_pure ?_)
  try simp only [Bool.not_true, Bool.false_eq_true, if_false]
  show wpAny _ _ (seqItems? (.ref a) >>= _) _ _ s
  refine wpAny_bind (wpAny_seqItems ho hd ?_)
  dsimp only
  refine wpAny_bind ?_
  show wpAny _ _ (forIn vs _ _) _ _ s
  rw [← Array.forIn_toList]
  refine wpAny_forIn_list _ (fun rest r s' => r.1 = none ∧ s' = s ∧ ∀ v ∈ rest, NoClsAt P w n s v) _ ?_ ?_ _ _ ⟨rfl, rfl, hq⟩
  · rintro v rest r s' ⟨hr, rfl, hall⟩
    refine wpAny_bind (hall v List.mem_cons_self _ _ _ ?_)
    simp only [Bool.false_eq_true, if_false]
    exact wpAny_pure ⟨rfl, rfl, fun u hu => hall u (List.mem_cons_of_mem _ hu)⟩
  · rintro ⟨r1, r2⟩ s' ⟨hr, rfl, _⟩
    simp only at hr
    subst hr
    exact wpAny_pure h
theorem byVal_tuple {a : Addr} {o : Obj} {vs : Array Value} {n m : Nat} (ho : s.heap.get? a = some o) (hc : o.cls = .type "tuple") (hd : o.data = .seq vs m) (hq : ∀ v ∈ vs.toList, ByValAt P w n s v) : ByValAt P w (n + 1) s (.ref a) := fun A E Q h => by
  have hT : s.TypeIs (.ref a) "tuple" := ⟨o, ho, hc⟩
  unfold hashByValue
  refine wpAny_bind (wpAny_specialOf hT F.slot_tuple_hash.lookup ?_)
  show wpAny _ _ (seqItems? (.ref a) >>= _) _ _ s
  refine wpAny_bind (wpAny_seqItems ho hd ?_)
  refine wpAny_bind ?_
  show wpAny _ _ (forIn vs _ _) _ _ s
  rw [← Array.forIn_toList]
  refine wpAny_forIn_list _ (fun rest r s' => (r.1 = none ∨ ∃ b, r.1 = some b) ∧ s' = s ∧ ∀ v ∈ rest, ByValAt P w n s v) _ ?_ ?_ _ _ ⟨.inl rfl, rfl, hq⟩
  · rintro v rest r s' ⟨hr, rfl, hall⟩
    refine wpAny_bind (hall v List.mem_cons_self _ _ _ fun b => ?_)
    cases b
    · simp only [Bool.not_false, if_true]
      exact wpAny_pure (wpAny_pure (h false))
    · simp only [Bool.not_true, Bool.false_eq_true, if_false]
      exact wpAny_pure ⟨.inl rfl, rfl, fun u hu => hall u (List.mem_cons_of_mem _ hu)⟩
  · rintro ⟨r1, r2⟩ s' ⟨hr, rfl, _⟩
    cases r1 with
    | none => exact wpAny_pure (h true)
    | some b => exact wpAny_pure (h b)
mutual
theorem noCls_key : ∀ (k : NestedKey) (v : Value) (n : Nat) (s : Shared), NestedIs s.heap k v → k.depth ≤ n → NoClsAt P w n s v
  | .none, _, n, s, x, _ => by cases x; intro A E Q h; cases n <;> exact wpAny_pure h
  | .num i, _, n, s, x, _ => by cases x <;> (intro A E Q h; cases n <;> exact wpAny_pure h)
  | .text y, _, n, s, x, _ => by cases x; intro A E Q h; cases n <;> exact wpAny_pure h
  | .tup ks, _, n, s, x, hn => by
    cases x with
    | tup hg hc hd hk =>
      simp only [NestedKey.depth] at hn
      cases n with
      | zero => omega
      | succ n => exact noCls_tuple hg hc hd (noCls_keys ks _ n s hk (by omega))
theorem noCls_keys : ∀ (ks : List NestedKey) (vs : List Value) (n : Nat) (s : Shared), NestedAll s.heap ks vs → NestedKey.depthAll ks ≤ n → ∀ v ∈ vs, NoClsAt P w n s v
  | [], _, n, s, x, _, v, hv => by cases x; cases hv
  | k :: ks, _, n, s, x, hn, v, hv => by
    cases x with
    | cons x1 x2 =>
      simp only [NestedKey.depthAll] at hn
      rcases List.mem_cons.mp hv with e | hv
      · rw [e]; exact noCls_key k _ n s x1 (by omega)
      · exact noCls_keys ks _ n s x2 (by omega) v hv
end
mutual
theorem byVal_key : ∀ (k : NestedKey) (v : Value) (n : Nat) (s : Shared), NestedIs s.heap k v → k.depth ≤ n → ByValAt P w n s v
  | .none, _, n, s, x, _ => by cases x; intro A E Q h; cases n <;> exact wpAny_pure (h _)
  | .num i, _, n, s, x, _ => by cases x <;> (intro A E Q h; cases n <;> exact wpAny_pure (h _))
  | .text y, _, n, s, x, _ => by cases x; intro A E Q h; cases n <;> exact wpAny_pure (h _)
  | .tup ks, _, n, s, x, hn => by
    cases x with
    | tup hg hc hd hk =>
      simp only [NestedKey.depth] at hn
      cases n with
      | zero => omega
      | succ n => exact byVal_tuple hg hc hd (byVal_keys ks _ n s hk (by omega))
theorem byVal_keys : ∀ (ks : List NestedKey) (vs : List Value) (n : Nat) (s : Shared), NestedAll s.heap ks vs → NestedKey.depthAll ks ≤ n → ∀ v ∈ vs, ByValAt P w n s v
  | [], _, n, s, x, _, v, hv => by cases x; cases hv
  | k :: ks, _, n, s, x, hn, v, hv => by
    cases x with
    | cons x1 x2 =>
      simp only [NestedKey.depthAll] at hn
      rcases List.mem_cons.mp hv with e | hv
      · rw [e]; exact byVal_key k _ n s x1 (by omega)
      · exact byVal_keys ks _ n s x2 (by omega) v hv
end
end
/-- the key k stands at a -/
def NIs (h : Heap) (k : NestedKey) (a : Addr) : Prop := NestedIs h k (.ref a) ∧ k.depth ≤ 8
theorem NIs.kind {P : Program} {w : World} {h : Heap} {k : NestedKey} {a : Addr} (x : NIs h k a) : (nestedKind P w).is h k a := x
theorem NIs.keep {h h' : Heap} {k : NestedKey} {a : Addr} (x : NIs h k a) (hk : ∀ b o vs n, h.get? b = some o → o.data = .seq vs n → h'.get? b = some o) : NIs h' k a := ⟨NestedIs.at hk _ _ x.1, x.2⟩
section
variable {P : Program} {w : World} {A : Around} {E : Value → Shared → Prop} {s : Shared}
theorem seen_nest {k : NestedKey} {b : Addr} {Q : Bool → Shared → Prop} (hk : NIs s.heap k b) {ys : List Value} (hy : ∀ y ∈ ys, ∃ k' c, y = Value.ref c ∧ NIs s.heap k' c) (h : Q false s) :
    wpAny (model P w) A (searchCouldBeSeen (.ref b) ys) Q E s := by
  unfold searchCouldBeSeen
  refine wpAny_bind ?_
  refine wpAny_forIn_list _ (fun rest r s' => r.1 = none ∧ s' = s ∧ ∀ y ∈ rest, ∃ k' c, y = Value.ref c ∧ NIs s.heap k' c) _ ?_ ?_ _ _ ⟨rfl, rfl, hy⟩
  · rintro v rest r s' ⟨hr, rfl, hall⟩
    obtain ⟨k', c, rfl, hc⟩ := hall v List.mem_cons_self
    have more : ∀ y ∈ rest, ∃ k' c, y = Value.ref c ∧ NIs s'.heap k' c := fun u hu => hall u (List.mem_cons_of_mem _ hu)
    dsimp only
    by_cases hv : (b == c || (carriedByValue (.ref b) && carriedByValue (.ref c))) = true
    · refine wp_if_pos hv ?_
      exact wpAny_pure ⟨rfl, rfl, more⟩
    · refine wp_if_neg hv ?_
      refine wpAny_bind (quiet_key _ _ 8 _ hk.1 hk.2 _ _ _ ?_)
      simp only [Bool.not_true, Bool.false_eq_true, if_false]
      refine wpAny_bind (quiet_key _ _ 8 _ hc.1 hc.2 _ _ _ ?_)
      simp only [Bool.not_true, Bool.false_eq_true, if_false]
      refine wpAny_bind (noCls_key _ _ 8 _ hk.1 hk.2 _ _ _ ?_)
      simp only [Bool.false_eq_true, if_false]
      refine wpAny_bind (noCls_key _ _ 8 _ hc.1 hc.2 _ _ _ ?_)
      simp only [Bool.false_eq_true, if_false]
      exact wpAny_pure ⟨rfl, rfl, more⟩
  · rintro ⟨r1, r2⟩ s' ⟨hr, rfl, _⟩
    simp only at hr
    subst hr
    exact wpAny_pure h
/-- the rows of the table -/
def rowsN (w : World) (L : List (Addr × NestedKey)) : List (Int × Value) := L.map fun p => (p.2.hash w, Value.ref p.1)
theorem rowsN_len (w : World) (L : List (Addr × NestedKey)) : (rowsN w L).length = L.length := List.length_map ..
/-- a set of keys at a -/
structure SetN (w : World) (h : Heap) (a : Addr) (L : List (Addr × NestedKey)) (es : Array (Int × Value)) (ep : Nat) (t : SetTable) : Prop where
  ob : ∃ o, h.get? a = some o ∧ o.ExactSet ∧ o.data = .set es ep t
  rows : es.toList = rowsN w L
  tab : TabOk t (L.map fun p => p.2.hash w)
  nd : (L.map (·.2)).Nodup
  keys : ∀ p ∈ L, NIs h p.2 p.1
  room : L.length * 5 < t.mask * 3
  few : L.length ≤ 76
variable {a : Addr} {L : List (Addr × NestedKey)} {es : Array (Int × Value)} {ep : Nat} {t : SetTable}
theorem SetN.size (R : SetN w s.heap a L es ep t) : es.size = L.length := by
  rw [← Array.length_toList, R.rows, rowsN_len]
theorem SetN.fits (R : SetN w s.heap a L es ep t) : t.fits es.size = true := by
  have h1 := R.tab.sz
  rw [List.length_map] at h1
  have h2 := R.size
  have h3 := R.room
  unfold SetTable.fits SetTable.fill
  rw [R.tab.dm, Bool.and_eq_true, beq_iff_eq, decide_eq_true_eq]
  show t.place.size = es.size ∧ t.place.size + 0 ≤ t.mask
  omega
theorem SetN.entry (R : SetN w s.heap a L es ep t) {i : Nat} {p : Addr × NestedKey} (h : L[i]? = some p) : es[i]? = some (p.2.hash w, Value.ref p.1) := by
  rw [← Array.getElem?_toList, R.rows]
  show (L.map _)[i]? = _
  rw [List.getElem?_map, h]
  rfl
theorem SetN.gw (R : SetN w s.heap a L es ep t) : ¬ t.gaveWay = true := by
  unfold SetTable.gaveWay
  rw [mask_odd R.tab.mok]
  decide
abbrev stp (t : SetTable) (v : Int) (c : Nat) : SetTable.Probe := nth t.mask (runAt t.mask (SetTable.bits v % (t.mask + 1)) (SetTable.bits v)) c
theorem stp_dummy (t : SetTable) (v : Int) : ∀ c, (stp t v c).dummy = none := by
  have key : ∀ (n : Nat) (p : SetTable.Probe), p.dummy = none → (nth t.mask p n).dummy = none := by
    intro n
    induction n with
    | zero => exact fun p h => h
    | succ n ih =>
      intro p h
      refine ih (adv t.mask p) ?_
      unfold adv
      split <;> exact h
  exact fun c => key c _ rfl
/-- the search of a key that is not there: to the first free place -/
theorem searchN (R : SetN w s.heap a L es ep t) {x : Addr} {k : NestedKey} (hx : NIs s.heap k x) (hnew : k ∉ L.map (·.2)) (hu : A.units + 8 < cLine) {K : Nat} (hKf : K < 10 * SetTable.turns t.mask)
    (hK : way t.mask (k.hash w) K ∉ t.place.toList) (hKb : ∀ c, c < K → way t.mask (k.hash w) c ∈ t.place.toList) {Q : SetFound → Shared → Prop} (q : Q (.free (way t.mask (k.hash w) K) false) s) :
    ∀ (f c : Nat) (stand : Option SetTable.Probe), stand.getD (t.probeStart (k.hash w)) = stp t (k.hash w) c → c ≤ K → K - c < f → wpAny (model P w) A (setSearchFrom a (.ref x) (k.hash w) true f stand) Q E s
  | 0, c, stand, _, _, hf => absurd hf (Nat.not_lt_zero _)
  | f + 1, c, stand, hst, hc, hf => by
    obtain ⟨o, ho, hex, hd⟩ := R.ob
    rw [setSearchFrom_succ]
    refine wpAny_bind (wpAny_setState_of ho hd R.fits ?_)
    dsimp only
    refine wp_if_neg R.gw ?_
    try refine wpAny_bind (wpAny_pure ?_)
    have sh : ∀ j, nth t.mask (stp t (k.hash w) c) j = stp t (k.hash w) (c + j) := fun j => (nth_add t.mask c _ j).symm
    have e1 : ∀ j, (nth t.mask (stp t (k.hash w) c) j).j = way t.mask (k.hash w) (c + j) := fun j => congrArg SetTable.Probe.j (sh j)
    have spec := go_spec t R.tab.ris R.tab.dm (fun i => (es[i]?.map (·.1)).getD 0) (k.hash w) (10 * SetTable.turns t.mask) (K - c) _ (stp_dummy t (k.hash w) c) (by omega)
      (fun j hj => by rw [e1]; exact hKb (c + j) (by omega)) (by rw [e1, show c + (K - c) = K by omega]; exact hK)
    rcases spec with ⟨j, i, hj, hi, _, _, hpr⟩ | ⟨_, hpr⟩
    · have hpr' : t.probe (fun i => (es[i]?.map (·.1)).getD 0) (k.hash w) (stand.getD (t.probeStart (k.hash w))) = some (.candidate (way t.mask (k.hash w) (c + j)) i (stp t (k.hash w) (c + (j + 1)))) := by
        rw [hst, ← e1, ← sh]
        exact hpr
      rw [hpr']
      dsimp only
      rw [e1] at hi
      have hil : i < L.length := by
        have h1 : i < t.place.toList.length := (List.getElem?_eq_some_iff.mp hi).1
        have h2 := R.tab.sz
        rw [List.length_map] at h2
        rw [Array.length_toList] at h1
        omega
      have hp : L[i]? = some L[i] := List.getElem?_eq_getElem hil
      generalize L[i] = p at hp
      have hmem : p ∈ L := List.mem_of_getElem? hp
      have hne : p.2 ≠ k := fun e => hnew (List.mem_map.mpr ⟨p, hmem, e⟩)
      have more : wpAny (model P w) A (searchRest a (.ref x) (k.hash w) true f es t (way t.mask (k.hash w) (c + j)) i (stp t (k.hash w) (c + (j + 1)))) Q E s := by
        unfold searchRest
        rw [R.entry hp]
        dsimp only
        refine wpAny_bind (wpAny_holding ((nestedKind P w).eqBool hu (R.keys p hmem).kind hx.kind ?_))
        refine wpAny_bind (wpAny_setState_of ho hd R.fits ?_)
        dsimp only
        rw [decide_eq_false hne]
        refine wp_if_neg (by simp) ?_
        try refine wpAny_bind (wpAny_pure ?_)
        rw [sameMem]
        dsimp only
        have hsl : t.slot (way t.mask (k.hash w) (c + j)) = .live i := slot_live R.tab.ris hi
        simp only [if_true, hsl, R.entry hp]
        refine wpAny_bind (wpAny_isSame_ref_self (wpAny_bind (wpAny_pure ?_)))
        simp only [if_true]
        refine wp_if_neg (by simp) ?_
        exact searchN R hx hnew hu hKf hK hKb q f (c + (j + 1)) _ rfl (by omega) (by omega)
      by_cases hl : t.led = true
      · refine wp_if_neg (by simp [hl]) ?_
        try refine wpAny_bind (wpAny_pure ?_)
        exact more
      · refine wp_if_pos (by simp [hl]) ?_
        refine wpAny_bind (seen_nest hx (fun y hy => ?_) ?_)
        · obtain ⟨e, he, ee⟩ := List.mem_map.mp hy
          have he1 : e ∈ es ∧ e.1 = k.hash w := by simpa using he
          have he2 : e ∈ es.toList := by simpa using he1.1
          rw [R.rows] at he2
          obtain ⟨p2, hp2, e2⟩ := List.mem_map.mp he2
          exact ⟨p2.2, p2.1, by rw [← ee, ← e2], R.keys p2 hp2⟩
        · refine wp_if_neg (by decide) ?_
          try refine wpAny_bind (wpAny_pure ?_)
          exact more
    · have hpr' : t.probe (fun i => (es[i]?.map (·.1)).getD 0) (k.hash w) (stand.getD (t.probeStart (k.hash w))) = some (.empty (way t.mask (k.hash w) K) none) := by
        have e2 : way t.mask (k.hash w) K = (nth t.mask (stp t (k.hash w) c) (K - c)).j := by rw [e1, show c + (K - c) = K by omega]
        rw [hst, e2]
        exact hpr
      rw [hpr']
      dsimp only
      exact wpAny_pure q
theorem searchN_at (R : SetN w s.heap a L es ep t) {x : Addr} {k : NestedKey} (hx : NIs s.heap k x) (hnew : k ∉ L.map (·.2)) (hu : A.units + 8 < cLine) {Q : SetFound → Shared → Prop}
    (q : ∀ K, way t.mask (k.hash w) K ∉ t.place.toList → (∀ c, c < K → way t.mask (k.hash w) c ∈ t.place.toList) → Q (.free (way t.mask (k.hash w) K) false) s) :
    wpAny (model P w) A (setSearch a (.ref x) (k.hash w) true) Q E s := by
  have hroom := R.room
  obtain ⟨K, hKf, hK, hKb⟩ := R.tab.first (by rw [List.length_map]; omega) (k.hash w)
  have hbig : K < 100000 := by
    have : 10 * SetTable.turns t.mask ≤ 1420 := by
      unfold SetTable.turns
      rcases R.tab.mok with e | e | e <;> omega
    omega
  unfold setSearch
  exact searchN R hx hnew hu hKf hK hKb (q K hK hKb) 100000 0 none rfl (Nat.zero_le _) (by omega)
end
end Dv
set_option Elab.async false
set_option linter.all false
set_option maxRecDepth 100000
set_option maxHeartbeats 4000000
set_option autoImplicit false
/-! sets of nested tuples that are all apart: adding, set(xs), len(set(xs)) -/
namespace Dv
open PySem PySem.Spec PyProof.Rows L2
theorem range_some {α : Type} (L : List α) : (List.range L.length).filterMap (fun i => L[i]?) = L := by
  have e : (List.range L.length).map (fun i => L[i]?) = L.map some := by
    apply List.ext_getElem
    · simp
    · intro i h1 h2
      simp at h1 h2
      simp [h1]
  have e2 : (List.range L.length).filterMap (fun i => L[i]?) = ((List.range L.length).map fun i => L[i]?).filterMap id := by rw [List.filterMap_map]; rfl
  rw [e2, e, List.filterMap_map]
  exact List.filterMap_some
section
variable {P : Program} {w : World} {A : Around} {E : Value → Shared → Prop} {s : Shared} {a : Addr} {L : List (Addr × NestedKey)} {es : Array (Int × Value)} {ep : Nat} {t : SetTable}
theorem orderN {order : Array Nat} (hr : es.toList = rowsN w L) (hp : order.toList.Perm (List.range L.length)) :
    ∃ L2, (order.filterMap (es[·]?)).toList = rowsN w L2 ∧ L2.Perm L ∧ (L2.map fun p => p.2.hash w) = order.toList.map fun i => (es.map (·.1)).getD i 0 := by
  have ent : ∀ i : Nat, es[i]? = (L[i]?).map fun p => (p.2.hash w, Value.ref p.1) := fun i => by
    rw [← Array.getElem?_toList, hr]
    exact List.getElem?_map ..
  refine ⟨order.toList.filterMap fun i => L[i]?, ?_, ?_, ?_⟩
  · rw [Array.toList_filterMap]
    unfold rowsN
    rw [List.map_filterMap]
    exact congrArg (fun f => List.filterMap f order.toList) (funext ent)
  · have h := hp.filterMap fun i => L[i]?
    rw [range_some] at h
    exact h
  · have key : ∀ l : List Nat, (∀ i ∈ l, i < L.length) → ((l.filterMap fun i => L[i]?).map fun p => p.2.hash w) = l.map fun i => (es.map (·.1)).getD i 0 := by
      intro l
      induction l with
      | nil => exact fun _ => rfl
      | cons i l ih =>
        intro hl
        have hi := hl i List.mem_cons_self
        have e1 : L[i]? = some L[i] := List.getElem?_eq_getElem hi
        rw [List.filterMap_cons_some e1, List.map_cons, List.map_cons, ih fun j hj => hl j (List.mem_cons_of_mem _ hj)]
        have e5 : (es.map (·.1))[i]? = some ((L[i]).2.hash w) := by rw [Array.getElem?_map, ent, e1]; rfl
        have e4 : (es.map (·.1)).getD i 0 = (L[i]).2.hash w := by simp [Array.getD_eq_getD_getElem?, e5]
        rw [e4]
    exact key _ fun i hi => List.mem_range.mp (hp.mem_iff.mp hi)
theorem nis_set {h h' : Heap} {k : NestedKey} {b : Addr} {o : Obj} (x : NIs h k b) (ho : h.get? a = some o) (hd : o.data = .set es ep t) (hs : Heap.SameBut a h h') : NIs h' k b := x.keep fun c ob vs n hc hcd => by
  refine (hs.2 c fun e => ?_).trans hc
  subst e
  rw [ho] at hc
  cases hc
  rw [hd] at hcd
  cases hcd
/-- the table laid anew -/
theorem relayN {o : Obj} (ho : s.heap.get? a = some o) (hex : o.ExactSet) (hd : o.data = .set es ep t) (hrows : es.toList = rowsN w L) (hsz : t.place.size = es.size) (hdm : t.dummies = #[]) (hfl : es.size ≤ t.mask)
    (nd : (L.map (·.2)).Nodup) (keys : ∀ p ∈ L, NIs s.heap p.2 p.1) (few : L.length ≤ 76) {wanted M : Nat} (hw : SetTable.sizeAbove wanted - 1 = M) (hM : MaskOk M) (hw2 : SetTable.sizeAbove wanted ≤ 128) (hn : L.length * 5 < M * 3) {Q : Unit → Shared → Prop}
    (hQ : ∀ h' L' es' ep' t', Heap.SameBut a s.heap h' → SetN w h' a L' es' ep' t' → L'.Perm L → Q () { s with heap := h' }) : wpAny (model P w) A (setRelay a wanted) Q E s := by
  have hsl : es.size = L.length := by rw [← Array.length_toList, hrows, rowsN_len]
  have hfits : t.fits es.size = true := by
    unfold SetTable.fits SetTable.fill
    rw [hdm, Bool.and_eq_true, beq_iff_eq, decide_eq_true_eq]
    show t.place.size = es.size ∧ t.place.size + 0 ≤ t.mask
    omega
  obtain ⟨t', order, e, hp, T, em, el, ep', ed⟩ := relaid_ok t (hs := es.map (·.1)) (wanted := wanted) hw hM (by rw [Array.size_map, hsl]; omega)
  rw [Array.size_map, hsl] at hp
  obtain ⟨L2, r1, r2, r3⟩ := orderN hrows hp
  rw [← r3] at T
  have hs2 : (order.filterMap (es[·]?)).size = es.size := by rw [← Array.length_toList, r1, rowsN_len, r2.length_eq, hsl]
  rw [setRelay_eq]
  refine wpAny_bind (wpAny_setState_of ho hd hfits ?_)
  dsimp only
  refine wp_if_neg (by rw [sizeLine_eq]; omega) ?_
  try refine wpAny_bind (wpAny_pure ?_)
  rw [e]
  dsimp only
  refine wpAny_bind ?_
  refine wp_if_neg (by rw [hs2]; simp) ?_
  try refine wpAny_bind (wpAny_pure ?_)
  refine wpAny_pure ?_
  dsimp only
  refine wpAny_storeSet_of ho hd ?_ (by rw [hs2, hsl, sizeLine_eq]; omega)
  have sb : Heap.SameBut a s.heap (s.heap.update a (Obj.putSet (order.filterMap (es[·]?)) t')) := Heap.SameBut.update ..
  refine hQ _ L2 (order.filterMap (es[·]?)) (ep + 1) t' sb ⟨⟨_, store_at ho hd, ⟨hex.1, hex.2.1, hex.2.2⟩, rfl⟩, r1, T, ?_, fun p hpm => nis_set (keys p (r2.mem_iff.mp hpm)) ho hd sb, ?_, by rw [r2.length_eq]; exact few⟩ r2
  · exact (r2.map (·.2)).nodup_iff.mpr nd
  · rw [r2.length_eq, em]
    exact hn
/-- a new key is added -/
theorem addN (R : SetN w s.heap a L es ep t) {x : Addr} {k : NestedKey} (hx : NIs s.heap k x) (hnew : k ∉ L.map (·.2)) (hu : A.units + 8 < cLine) (hfew : L.length + 1 ≤ 76) {Q : Bool → Shared → Prop}
    (hQ : ∀ b h' L' es' ep' t', Heap.SameBut a s.heap h' → SetN w h' a L' es' ep' t' → L'.Perm ((x, k) :: L) → Q b { s with heap := h' }) :
    wpAny (model P w) A (setAddHashed a (.ref x) (k.hash w)) Q E s := by
  obtain ⟨o, ho, hex, hd⟩ := R.ob
  have hsl := R.size
  have hroom := R.room
  unfold setAddHashed
  refine wpAny_holding ?_
  rw [show (100000 : Nat) = 99999 + 1 from rfl, setAddHashedIn_succ]
  refine wpAny_bind (wpAny_setState_of ho hd R.fits ?_)
  dsimp only
  refine wp_if_neg (by simp [byScan, Value.scannable]) ?_
  try refine wpAny_bind (wpAny_pure ?_)
  refine wpAny_bind (searchN_at R hx hnew hu fun K hK hb => ?_)
  dsimp only
  refine wpAny_bind (wpAny_setState_of ho hd R.fits ?_)
  dsimp only
  obtain ⟨q1, q2, q3, q4, q5, q6, q7, q8, q9⟩ := R.tab.put hK hb
  generalize hpt : t.put (way t.mask (k.hash w) K) = pt at q1 q3 q4 q5 q6 q7 q8 q9 ⊢
  obtain ⟨t1, p⟩ := pt
  dsimp only at q1 q3 q4 q5 q6 q7 q8 q9 ⊢
  subst q1
  have hin : (SetTable.insertAt es (SetTable.below t.place (way t.mask (k.hash w) K)) (k.hash w, Value.ref x)).toList = rowsN w (L.take (SetTable.below t.place (way t.mask (k.hash w) K)) ++ (x, k) :: L.drop (SetTable.below t.place (way t.mask (k.hash w) K))) := by
    rw [SetTable.toList_insertAt, R.rows]
    unfold rowsN
    rw [List.map_append, List.map_cons, List.map_take, List.map_drop]
  generalize hpp : SetTable.below t.place (way t.mask (k.hash w) K) = p at q2 q3 hin ⊢
  have pm := put_perm L p (x, k)
  have hlen : (L.take p ++ (x, k) :: L.drop p).length = L.length + 1 := pm.length_eq
  have hhs : (L.take p ++ (x, k) :: L.drop p).map (fun p => p.2.hash w) = (L.map fun p => p.2.hash w).take p ++ k.hash w :: (L.map fun p => p.2.hash w).drop p := by
    rw [List.map_append, List.map_cons, List.map_take, List.map_drop]
  rw [← hhs] at q3
  have nd1 : ((L.take p ++ (x, k) :: L.drop p).map (·.2)).Nodup := by
    refine (pm.map (·.2)).nodup_iff.mpr ?_
    rw [List.map_cons]
    exact List.nodup_cons.mpr ⟨hnew, R.nd⟩
  have hes : (SetTable.insertAt es p (k.hash w, Value.ref x)).size = L.length + 1 := by rw [← Array.length_toList, hin, rowsN_len, hlen]
  generalize SetTable.insertAt es p (k.hash w, Value.ref x) = es1 at hin hes ⊢
  generalize L.take p ++ (x, k) :: L.drop p = L1 at pm hlen q3 nd1 hin
  -- what is told of its values
  have told : ∀ t2 : SetTable, t2.place = t1.place → t2.dummies = t1.dummies → t2.mask = t1.mask → wpAny (model P w) A (do
      storeSet a es1 t2
      if !false && t2.tooFull then setRelay a (SetTable.grown (es.size + 1))
      return true) Q E s := by
    intro t2 e1 e2 e3
    have T2 : TabOk t2 (L1.map fun p => p.2.hash w) := by
      refine ⟨by rw [e1]; exact q3.ris, by rw [e2]; exact q3.dm, by rw [e1]; exact q3.sz, by rw [e3]; exact q3.mok, by rw [e1, e3]; exact q3.bd, ?_⟩
      rw [e1, e3]
      exact q3.reach
    refine wpAny_bind (wpAny_storeSet_of ho hd ?_ (by rw [hes, sizeLine_eq]; omega))
    have sb : Heap.SameBut a s.heap (s.heap.update a (Obj.putSet es1 t2)) := Heap.SameBut.update ..
    have ho1 := store_at (es' := es1) (t' := t2) ho hd
    generalize s.heap.update a (Obj.putSet es1 t2) = h1 at sb ho1 ⊢
    have keys1 : ∀ p ∈ L1, NIs h1 p.2 p.1 := fun p hp => by
      rcases List.mem_cons.mp (pm.mem_iff.mp hp) with e | hp
      · rw [e]; exact nis_set hx ho hd sb
      · exact nis_set (R.keys p hp) ho hd sb
    have f9 : t2.fill = L.length + 1 := by
      show t2.place.size + t2.dummies.size = _
      have := T2.sz
      rw [List.length_map, hlen] at this
      rw [this, T2.dm]
      rfl
    by_cases hf : t2.tooFull = true
    · first
        | (refine wpAny_bind ?_; refine wp_if_pos (by simp [hf]) ?_)
        | (refine wp_if_pos (by simp [hf]) ?_; refine wpAny_bind ?_)
      have hfull : (L.length + 1) * 5 ≥ t2.mask * 3 := by
        have h := hf
        unfold SetTable.tooFull at h
        rw [decide_eq_true_eq, f9] at h
        exact h
      rw [hsl]
      have hsz1 : t2.place.size = es1.size := by
        have h := T2.sz
        rw [List.length_map, hlen] at h
        rw [h, hes]
      have cases2 : (t.mask = 7 ∧ L.length = 4) ∨ (t.mask = 31 ∧ L.length = 18) := by
        rcases R.tab.mok with e | e | e
        · left; rw [e3, q4, e] at hfull; rw [e] at hroom; exact ⟨e, by omega⟩
        · right; rw [e3, q4, e] at hfull; rw [e] at hroom; exact ⟨e, by omega⟩
        · exfalso; rw [e3, q4, e] at hfull; omega
      have go : ∀ M, SetTable.sizeAbove (SetTable.grown (L.length + 1)) - 1 = M → MaskOk M → SetTable.sizeAbove (SetTable.grown (L.length + 1)) ≤ 128 → (L.length + 1) * 5 < M * 3 →
          wpAny (model P w) A (setRelay a (SetTable.grown (L.length + 1))) (fun _ s' => wpAny (model P w) A (pure true) Q E s') E { s with heap := h1 } := fun M h1' h2' h3' h4' => by
        refine relayN (s := { s with heap := h1 }) ho1 ⟨hex.1, hex.2.1, hex.2.2⟩ rfl hin hsz1 T2.dm (by rw [hes, e3, q4]; rcases cases2 with ⟨e, e2⟩ | ⟨e, e2⟩ <;> omega) nd1 keys1 (by rw [hlen]; exact hfew) h1' h2' h3' (by rw [hlen]; exact h4') ?_
        intro h2 L2 es2 ep2 t3 sb2 R2 pm2
        exact wpAny_pure (hQ true h2 L2 es2 ep2 t3 (sb.trans sb2) R2 (pm2.trans pm))
      rcases cases2 with ⟨_, e2⟩ | ⟨_, e2⟩
      · refine go 31 (by rw [e2, size_20]) (.inr (.inl rfl)) (by rw [e2, size_20]; decide) (by omega)
      · refine go 127 (by rw [e2, size_76]) (.inr (.inr rfl)) (by rw [e2, size_76]; decide) (by omega)
    · first
        | refine wp_if_neg (by simp [hf]) ?_
        | (refine wpAny_bind ?_; refine wp_if_neg (by simp [hf]) ?_; refine wpAny_pure ?_)
      refine wpAny_pure (hQ true h1 L1 es1 (ep + 1) t2 sb ⟨⟨_, ho1, ⟨hex.1, hex.2.1, hex.2.2⟩, rfl⟩, hin, T2, nd1, keys1, ?_, by rw [hlen]; exact hfew⟩ pm)
      have h := hf
      unfold SetTable.tooFull at h
      rw [decide_eq_true_eq, f9] at h
      rw [hlen]
      omega
  by_cases hp1 : t1.plain = true
  · refine wp_if_pos hp1 (wpAny_bind ?_)
    refine byVal_key _ _ 8 _ hx.1 hx.2 _ _ _ fun b => ?_
    cases b
    · simp only [Bool.false_eq_true, if_false]
      exact told { t1 with plain := false } rfl rfl rfl
    · simp only [if_true]
      exact told t1 rfl rfl rfl
  · refine wp_if_neg hp1 (wpAny_bind ?_)
    refine wpAny_pure ?_
    simp only [if_true]
    exact told t1 rfl rfl rfl
end
end Dv
set_option Elab.async false
set_option linter.all false
set_option maxRecDepth 100000
set_option maxHeartbeats 4000000
set_option autoImplicit false
/-! set(xs), len(set(xs)) of nested tuples that are all apart -/
namespace Dv
open PySem PySem.Spec PyProof.Rows L2
theorem apart_next {α β : Type} {f : α → β} {l : List α} {i : Nat} {x : α} (nd : (l.map f).Nodup) (h : l[i]? = some x) : f x ∉ (l.take i).map f := fun hm => by
  obtain ⟨y, hy, e⟩ := List.mem_map.mp hm
  obtain ⟨j, hj⟩ := List.mem_iff_getElem?.mp hy
  rw [List.getElem?_take] at hj
  split at hj
  · rename_i hji
    have a1 : (l.map f)[j]? = some (f x) := by rw [List.getElem?_map, hj]; exact congrArg some e
    have a2 : (l.map f)[i]? = some (f x) := by rw [List.getElem?_map, h]; rfl
    have : j = i := (List.getElem?_inj (List.getElem?_eq_some_iff.mp a1).1 nd).mp (a1.trans a2.symm)
    omega
  · cases hj
section
variable {P : Program} {w : World} {A : Around} {E : Value → Shared → Prop} {s : Shared}
theorem SetN.keep {h h' : Heap} {a : Addr} {L : List (Addr × NestedKey)} {es : Array (Int × Value)} {ep : Nat} {t : SetTable} (R : SetN w h a L es ep t) (ha : ∀ o, h.get? a = some o → h'.get? a = some o) (ht : ∀ p ∈ L, NIs h' p.2 p.1) : SetN w h' a L es ep t := by
  obtain ⟨o, ho, r⟩ := R.ob
  exact ⟨⟨o, ha o ho, r⟩, R.rows, R.tab, R.nd, ht, R.room, R.few⟩
theorem setN_fresh {h : Heap} {a : Addr} (ho : h.get? a = some { cls := .type "set", dict := none, data := .set #[] 0 (.fresh 0 0 (!w.params.followText "set-order")) }) : SetN w h a [] #[] 0 (.fresh 0 0 (!w.params.followText "set-order")) where
  ob := ⟨_, ho, ⟨rfl, rfl, rfl⟩, rfl⟩
  rows := rfl
  tab := ⟨List.Pairwise.nil, rfl, rfl, .inl rfl, fun x hx => (by cases hx), fun i h j hi => (by simp at hi)⟩
  nd := List.nodup_nil
  keys := fun p hp => (by cases hp)
  room := by
    show 0 * 5 < 7 * 3
    decide
  few := Nat.zero_le _
/-- set.update's loop over keys that are all apart -/
theorem update_nest {I : Addr} {fp wr : List Addr} {G : Array GenState → Array GenState → Prop} {n : Nat} {Pv : Nat → Value → Prop} {St : Nat → Shared → Prop} {R : Result → Shared → Prop}
    (W : WalksS P w A.in1 I fp wr G n Pv St) (S : Addr) (hSf : S ∉ fp) (ks : List (Addr × NestedKey)) (hn : n = ks.length) (nd : (ks.map (·.2)).Nodup) (hfew : ks.length ≤ 76) (hval : ∀ i v, Pv i v → ∃ p, ks[i]? = some p ∧ v = .ref p.1)
    (h0 : Heap) (hk : ∀ p ∈ ks, NIs h0 p.2 p.1) (hS0 : h0.get? S = none) (hw0 : ∀ b ∈ wr, h0.get? b = none) (hu : A.in1.units + 8 < cLine) :
    ∀ (k i : Nat) (s : Shared), n - i = k → i ≤ n → St i s → (∀ b o, h0.get? b = some o → s.heap.get? b = some o) → (∃ L es ep t, SetN w s.heap S L es ep t ∧ L.Perm (ks.take i)) →
      (∀ s' L es ep t, Moved (S :: wr) G s s' → SetN w s'.heap S L es ep t → L.Perm (ks.take n) → (∀ b o, h0.get? b = some o → s'.heap.get? b = some o) → R (.ok (.ret .none)) s') →
      codeAny (model P w) A (.builtin "set.update.loop" ⟨[.ref S, .ref I], []⟩) R s := by
  have hSw : S ∉ wr := fun h => hSf (W.sub _ h)
  have hsub : ∀ b ∈ wr, b ∈ S :: wr := fun b hb => List.mem_cons_of_mem _ hb
  have keepM : ∀ {s s' : Shared}, Moved wr G s s' → (∀ b o, h0.get? b = some o → s.heap.get? b = some o) → ∀ b o, h0.get? b = some o → s'.heap.get? b = some o := fun hm hkp b o e =>
    hm.heap b o (fun hb => by rw [hw0 b hb] at e; cases e) (hkp b o e)
  have nk : ∀ {h' : Heap} {p : Addr × NestedKey}, p ∈ ks → (∀ b o, h0.get? b = some o → h'.get? b = some o) → NIs h' p.2 p.1 := fun hp hkp => (hk _ hp).keep fun b o vs m hb _ => hkp b o hb
  intro k
  induction k with
  | zero =>
    intro i s hk' hi hst hkp ⟨L, es, ep, t, hS, g⟩ hR
    have hin : i = n := by omega
    subst hin
    refine codeAny_builtin F.entry_set_update_loop ?_
    rw [Around.under_plainId F.plain_set_update_loop _]
    show wpAny _ A.in1 (pyNext (.ref I) >>= _) _ _ s
    refine wpAny_bind (W.done s _ _ hst fun s' hm => ?_)
    show wpAny _ A.in1 (ret Value.none) _ _ s'
    have hkp' := keepM hm hkp
    exact wpAny_pure (hR s' L es ep t (hm.mono hsub) (hS.keep (fun o e => hm.heap S o hSw e) fun p hp => nk (List.mem_of_mem_take (g.mem_iff.mp hp)) hkp') g hkp')
  | succ k ih =>
    intro i s hk' hi hst hkp ⟨L, es, ep, t, hS, g⟩ hR
    have hlt : i < n := by omega
    refine codeAny_builtin F.entry_set_update_loop ?_
    rw [Around.under_plainId F.plain_set_update_loop _]
    show wpAny _ A.in1 (pyNext (.ref I) >>= _) _ _ s
    refine wpAny_bind (W.item i s _ _ hlt hst fun v s' hP hst' hm => ?_)
    obtain ⟨p, hp, rfl⟩ := hval i v hP
    have hkp' := keepM hm hkp
    have hS' : SetN w s'.heap S L es ep t := hS.keep (fun o e => hm.heap S o hSw e) fun q hq => nk (List.mem_of_mem_take (g.mem_iff.mp hq)) hkp'
    have hx : NIs s'.heap p.2 p.1 := nk (List.mem_of_getElem? hp) hkp'
    have hnew : p.2 ∉ L.map (·.2) := fun hm => apart_next nd hp ((g.map (·.2)).mem_iff.mp hm)
    have hLl : L.length = i := by rw [g.length_eq, List.length_take]; omega
    show wpAny _ A.in1 (holding [Value.ref p.1] (setAdd S (.ref p.1)) >>= _) _ _ s'
    refine wpAny_bind (wpAny_holding ?_)
    unfold setAdd
    refine wpAny_holding ?_
    refine wpAny_bind ((nestedKind P w).pyHash hu hx.kind ?_)
    refine addN (s := { s' with toks := s'.toks + (nestedKind P w).draws p.2 }) hS' hx hnew hu (by omega) fun b h' L' es' ep' t' hsb hS2 c => ?_
    have g' : L'.Perm (ks.take (i + 1)) := by
      rw [take_next hp]
      exact (c.trans (g.cons _)).trans (List.perm_append_singleton _ _).symm
    have hkp2 : ∀ b o, h0.get? b = some o → h'.get? b = some o := fun b o e => (hsb.2 b (fun z => by rw [z, hS0] at e; cases e)).trans (hkp' b o e)
    refine wpAny_pure ⟨plainId_quiet F.plain_set_update_loop _, ih (i + 1) _ (by omega) hlt (W.frame _ s' _ _ hst' (Nat.le_add_right _ _) fun b hb o e => ?_) hkp2 ⟨L', es', ep', t', hS2, g'⟩ fun s'' L2 es2 ep2 t2 hm'' hS'' g'' hkp'' => ?_⟩
    · rw [hsb.2 b (fun h : b = S => hSf (by rw [← h]; exact hb))]; exact e
    · refine hR s'' L2 es2 ep2 t2 (Moved.trans W.gtrans ((hm.mono hsub).then_heap (Nat.le_add_right _ _) fun b o hb e => ?_) hm'') hS'' g'' hkp''
      rw [hsb.2 b (fun h : b = S => hb (by rw [h]; exact List.mem_cons_self))]; exact e
set_option maxHeartbeats 6400000 in
/-- set(xs), the items all apart -/
theorem call_set_nest {l : Addr} {items : Array Value} (ks : List (Addr × NestedKey)) {Q : Value → Shared → Prop} (hh : A.handled = none) (hl : s.heap.IsList l items) (hit : items.toList = ks.map fun p => Value.ref p.1)
    (hk : ∀ p ∈ ks, NIs s.heap p.2 p.1) (nd : (ks.map (·.2)).Nodup) (hfew : ks.length ≤ 76) (hu : A.units + 11 < cLine)
    (h : ∀ (h' : Heap) (tk : Nat) L es ep t, SetN w h' s.heap.objs.size L es ep t → L.length = ks.length → (∀ b o, s.heap.get? b = some o → h'.get? b = some o) → Q (.ref s.heap.objs.size) { s with heap := h', toks := tk }) :
    wpAny (model P w) A (call (.type "set") [.ref l]) Q E s := by
  have hisz : items.size = ks.length := by
    have q := congrArg List.length hit
    rw [Array.length_toList, List.length_map] at q
    exact q
  obtain ⟨c, tl, hmro⟩ := F.called_set.mro
  have hmade := F.called_set.made
  have hsub := F.called_set.sub
  refine wpAny_call (codeAny_of_tree ?_)
  show wpAny _ _ (callAny (.type "set") _) _ _ _
  refine wpAny_pure ⟨Code.quiet_builtin _ (by decide +kernel), codeAny_builtin F.entry_type_call ?_⟩
  rw [Around.under_plain (weight_type_call_type "set" [.ref l] []) rfl]
  have h1 := F.called_set.notType
  have h2 := F.called_set.canCreate
  have hct := F.typeCall_set_1 (.ref l)
  repeat (any_goals (first | assumption | wp_step))
  refine codeAny_mono (code_set_led1 (.ref l) (E := E) (Q₁ := fun obj s₁ => obj = .ref s.heap.objs.size ∧ s₁ = { s with heap := s.heap.push { cls := .type "set", dict := none, data := .set #[] 0 (.fresh 0 0 (!w.params.followText "set-order")) } }) ⟨rfl, rfl⟩) fun r s₁ hr => ?_
  cases r with
  | error e => exact hr
  | ok fl =>
    cases fl with
    | ret obj =>
      obtain ⟨rfl, rfl⟩ := hr
      have hS : (s.heap.push { cls := .type "set", dict := none, data := .set #[] 0 (.fresh 0 0 (!w.params.followText "set-order")) }).get? s.heap.objs.size = some { cls := .type "set", dict := none, data := .set #[] 0 (.fresh 0 0 (!w.params.followText "set-order")) } := Heap.get?_push_size _ rfl
      have hT : Shared.TypeIs { s with heap := s.heap.push { cls := .type "set", dict := none, data := .set #[] 0 (.fresh 0 0 (!w.params.followText "set-order")) } } (.ref s.heap.objs.size) "set" := ⟨_, hS, rfl⟩
      have hli := F.called_set.init.lookup
      have hbi := F.called_set.init.bind (.ref s.heap.objs.size)
      repeat (any_goals (first | assumption | wp_step))
      refine codeAny_mono (codeAny_call_builtin (R := wants (fun r s₂ => r = .none ∧ ∃ h' tk L es ep t, s₂ = { s with heap := h', toks := tk } ∧ SetN w h' s.heap.objs.size L es ep t ∧ L.length = ks.length ∧
          (∀ b o, s.heap.get? b = some o → h'.get? b = some o)) E) F.called_set.init.plain F.entry_set_init (check_set_init_1 hT ?_)) fun r₂ s₂ hr₂ => ?_
      · obtain ⟨ol, hol, hcl, nl, hdl⟩ := hl
        obtain ⟨ocls, odict, odata, oslots⟩ := ol
        simp only at hcl hdl
        subst hcl; subst hdl
        have hol' : (s.heap.push { cls := .type "set", dict := none, data := .set #[] 0 (.fresh 0 0 (!w.params.followText "set-order")) }).get? l = some { cls := .type "list", dict := odict, data := .seq items nl, slots := oslots } := Heap.get?_push_of_some _ hol
        have hsls := F.sub_list_set
        have hslf := F.sub_list_frozenset
        have hne : (Value.type "list" == Value.type "dict") = false := by decide
        have hl1 : (s.heap.push { cls := .type "set", dict := none, data := .set #[] 0 (.fresh 0 0 (!w.params.followText "set-order")) }).IsList l items := ⟨_, hol', rfl, nl, rfl⟩
        unfold Builtin.«set.__init__» noKeywords Builtin.Frozenset.updateFrom
        generalize hPI : pyIter = PI
        wp_walk
        subst hPI
        refine wpAny_pyIter_list hl1 ?_
        refine wpAny_bind (wpAny_runValue ?_)
        have hlS : l < s.heap.objs.size := Heap.lt_size hol
        have hh3 : A.in1.in1.in1.handled = none := by simp [hh]
        have hneI : l ≠ (s.heap.push { cls := .type "set", dict := none, data := .set #[] 0 (.fresh 0 0 (!w.params.followText "set-order")) }).objs.size := by
          rw [Heap.size_push]; exact Nat.ne_of_lt (Nat.lt_succ_of_lt hlS)
        have hSf : s.heap.objs.size ∉ [(s.heap.push { cls := .type "set", dict := none, data := .set #[] 0 (.fresh 0 0 (!w.params.followText "set-order")) }).objs.size, l] := by
          rw [Heap.size_push]; simp only [List.mem_cons, List.mem_singleton, List.not_mem_nil, or_false, not_or]
          exact ⟨Nat.ne_of_lt (Nat.lt_succ_self _), Nat.ne_of_gt hlS⟩
        have hval : ∀ (i : Nat) (v : Value), items[i]? = some v → ∃ p, ks[i]? = some p ∧ v = .ref p.1 := fun i v hv => by
          have q : items.toList[i]? = some v := by rw [Array.getElem?_toList]; exact hv
          rw [hit, List.getElem?_map] at q
          cases hq : ks[i]? with
          | none => rw [hq] at q; cases q
          | some p =>
            rw [hq] at q
            exact ⟨p, rfl, (Option.some.inj q).symm⟩
        have none_of : ∀ b, s.heap.objs.size ≤ b → s.heap.get? b = none := fun b hb => by
          cases q : s.heap.get? b with
          | none => rfl
          | some o => exact absurd (Nat.lt_of_lt_of_le (Heap.lt_size q) hb) (Nat.lt_irrefl _)
        refine update_nest ((Walks.list hh3 _ l hneI items).toS) s.heap.objs.size
          hSf ks hisz nd hfew hval s.heap hk (none_of _ (Nat.le_refl _)) (fun b hb => none_of b (by
            rw [List.mem_singleton.mp hb, Heap.size_push]
            exact Nat.le_succ _)) hu (items.size - 0) 0 _ (by omega) (Nat.zero_le _)
          ⟨⟨_, Heap.get?_push_size _ rfl, rfl, rfl⟩, (hl1.push _)⟩ (fun b o e => Heap.get?_push_of_some _ (Heap.get?_push_of_some _ e)) ?hS0 ?hR
        case hS0 =>
          have hget : ((s.heap.push { cls := .type "set", dict := none, data := .set #[] 0 (.fresh 0 0 (!w.params.followText "set-order")) }).push { cls := .type "list_iterator", data := .fields #[.ref l, .int 0 0] }).get? s.heap.objs.size
              = some { cls := .type "set", dict := none, data := .set #[] 0 (.fresh 0 0 (!w.params.followText "set-order")) } := Heap.get?_push_of_some _ hS
          exact ⟨[], #[], 0, _, setN_fresh hget, List.Perm.refl _⟩
        case hR =>
          intro s' L es ep t hm hS' g' hkp
          obtain ⟨h', g2, d', tk', os'⟩ := s'
          have eg : g2 = s.gens := hm.gens
          have ed : d' = s.drawn := hm.drawn
          have eo : os' = s.os := hm.os
          subst eg; subst ed; subst eo
          show wpAny _ _ _ _ _ _
          refine wpAny_pure ?_
          show wpAny _ _ (ret Value.none) _ _ _
          have hLn : L.length = ks.length := by rw [g'.length_eq, List.length_take, hisz]; omega
          exact wpAny_pure ⟨rfl, h', tk', L, es, ep, t, rfl, hS', hLn, hkp⟩
      · cases r₂ with
        | error e => exact hr₂
        | ok fl₂ =>
          cases fl₂ with
          | ret r =>
            obtain ⟨rfl, h', tk, L, es, ep, t, rfl, hS', g', hk'⟩ := hr₂
            repeat (any_goals (first | assumption | wp_step))
            exact h _ _ _ _ _ _ hS' g' hk'
          | _ => exact hr₂.elim
    | _ => exact hr.elim
end
end Dv
set_option Elab.async false
set_option linter.all false
set_option maxRecDepth 100000
set_option maxHeartbeats 4000000
set_option autoImplicit false
/-! len(set(xs)), xs a list of nested tuples that are all apart -/
namespace Dv
open PySem PySem.Spec PyProof.Rows L2
mutual
/-- the value is the key -/
inductive KV (K : PySem.W.Frag) (H : Hp) : NestedKey → V → Prop
  | non : KV K H .none .non
  | int {i : Int} : KV K H (.num i) (.int i)
  | str {x : Str} : KV K H (.text x) (.str x)
  | tup {b : Addr} {vs : List V} {ks : List NestedKey} : SqT K H b vs → KVs K H ks vs → KV K H (.tup ks) (.ref b)
inductive KVs (K : PySem.W.Frag) (H : Hp) : List NestedKey → List V → Prop
  | nil : KVs K H [] []
  | cons {k : NestedKey} {v : V} {ks : List NestedKey} {vs : List V} : KV K H k v → KVs K H ks vs → KVs K H (k :: ks) (v :: vs)
end
section
variable {X : Cx} {pins : List (Addr × Obj)} {s : Shared} {σ : L2.St} {H : Hp}
mutual
theorem KV.is (I : L2.Inv X pins σ H s) : ∀ (k : NestedKey) (v : V) (u : Value), KV X.K H k v → RelV v u → NestedIs s.heap k u
  | .none, _, _, h, r => by cases h; cases (show _ = Value.none from r); exact .none
  | .num i, _, _, h, r => by
    cases h
    obtain ⟨t, rfl⟩ := (show ∃ t, _ = Value.int i t from r)
    exact .int i t
  | .text x, _, _, h, r => by
    cases h
    obtain ⟨t, rfl⟩ := (show ∃ t, _ = Value.str x t from r)
    exact .text x t
  | .tup ks, _, _, h, r => by
    cases h with
    | tup hb hs =>
      rename_i b vs
      cases (show _ = Value.ref b from r)
      obtain ⟨its, rv, ⟨o, ho, hc, n, hd⟩, _⟩ := I.tuple hb
      exact .tup ho hc hd (KVs.is I ks vs its hs rv)
theorem KVs.is (I : L2.Inv X pins σ H s) : ∀ (ks : List NestedKey) (vs : List V) (us : List Value), KVs X.K H ks vs → Vals vs us → NestedAll s.heap ks us
  | [], _, _, h, r => by cases h; cases r; exact .nil
  | k :: ks, _, _, h, r => by
    cases h with
    | cons h1 h2 =>
      cases r with
      | cons r1 r2 => exact .cons (KV.is I k _ _ h1 r1) (KVs.is I ks _ _ h2 r2)
end
end
/-- plain data as a key, n levels deep at most -/
def nkD : Nat → Dt → Option NestedKey
  | _, .non => some .none
  | _, .int i => some (.num i)
  | _, .str x => some (.text x)
  | n + 1, .tup ds => (mapO (nkD n) ds).map .tup
  | _, _ => none
section
variable {G : Gv} {io : Io} {H : Hp}
theorem kv_of : ∀ (n : Nat) {d : Dt} {v : V} {k : NestedKey}, RelD G io H d v → nkD n d = some k → KV G.K H k v ∧ k.depth ≤ n := by
  have leaf : ∀ (n : Nat) {d : Dt} {v : V} {k : NestedKey}, RelD G io H d v → nkD n d = some k → (∀ ds, d ≠ .tup ds) → KV G.K H k v ∧ k.depth ≤ n := by
    intro n d v k r h hd
    cases r with
    | tup e rs => exact absurd rfl (hd _)
    | non => cases n <;> (cases h; exact ⟨.non, Nat.zero_le _⟩)
    | int i => cases n <;> (cases h; exact ⟨.int, Nat.zero_le _⟩)
    | str x => cases n <;> (cases h; exact ⟨.str, Nat.zero_le _⟩)
    | _ => cases n <;> cases h
  intro n
  induction n with
  | zero =>
    intro d v k r h
    refine leaf 0 r h fun ds e => ?_
    subst e
    cases h
  | succ n ih =>
    intro d v k r h
    by_cases hd : ∃ ds, d = .tup ds
    · obtain ⟨ds, rfl⟩ := hd
      cases r with
      | tup e rs =>
        rename_i vs b
        obtain ⟨ks, hk, rfl⟩ := Option.map_eq_some_iff.mp (show (mapO (nkD n) ds).map NestedKey.tup = some k from h)
        have all : ∀ {ds : List Dt} {vs : List V} {ks : List NestedKey}, RelDs G io H ds vs → mapO (nkD n) ds = some ks → KVs G.K H ks vs ∧ NestedKey.depthAll ks ≤ n := by
          intro ds
          induction ds with
          | nil =>
            intro vs ks r h
            cases r
            cases h
            exact ⟨.nil, Nat.zero_le _⟩
          | cons d ds ihd =>
            intro vs ks r h
            cases r with
            | cons r1 r2 =>
              unfold mapO at h
              cases e1 : nkD n d with
              | none => rw [e1] at h; cases h
              | some k =>
                rw [e1] at h
                obtain ⟨k2, h2, rfl⟩ := map_some h
                obtain ⟨a1, a2⟩ := ih r1 e1
                obtain ⟨b1, b2⟩ := ihd r2 h2
                refine ⟨.cons a1 b1, ?_⟩
                simp only [NestedKey.depthAll]
                omega
        obtain ⟨a1, a2⟩ := all rs hk
        refine ⟨.tup ?_ a1, by simp only [NestedKey.depth]; omega⟩
        rcases e with ⟨e, _⟩ | ⟨e, _⟩
        · exact .inl (.inl e)
        · exact .inr e
    · exact leaf (n + 1) r h fun ds e => hd ⟨ds, e⟩
end
def isTupK : NestedKey → Bool
  | .tup _ => true
  | _ => false
/-- len(set(xs)) -/
def tLenSetN (K : PySem.W.Frag) (ta : TE) : TE := fun σ H Q => ta σ H fun x H1 => ∃ (l : Addr) (vs : List V) (ks : List NestedKey), x = .ref l ∧ SqL K H1 l vs ∧ KVs K H1 ks vs ∧ ks.Nodup ∧ ks.length ≤ 76 ∧ (∀ k ∈ ks, isTupK k = true ∧ k.depth ≤ 8) ∧ Q (.int ks.length) H1
section
variable {X : Cx} {pins : List (Addr × Obj)} {s : Shared} {σ : L2.St} {H : Hp}
theorem kvs_pairs (I : L2.Inv X pins σ H s) : ∀ {ks : List NestedKey} {vs : List V} {us : List Value}, KVs X.K H ks vs → Vals vs us → (∀ k ∈ ks, isTupK k = true ∧ k.depth ≤ 8) →
    ∃ ps : List (Addr × NestedKey), us = ps.map (fun p => Value.ref p.1) ∧ ps.map (·.2) = ks ∧ ∀ p ∈ ps, NIs s.heap p.2 p.1
  | [], _, _, h, r, _ => by
    cases h
    cases r
    exact ⟨[], rfl, rfl, fun p hp => (by cases hp)⟩
  | k :: ks, _, _, h, r, ht => by
    cases h with
    | cons h1 h2 =>
      cases r with
      | cons r1 r2 =>
        obtain ⟨ps, rfl, rfl, hps⟩ := kvs_pairs I h2 r2 fun k hk => ht k (List.mem_cons_of_mem _ hk)
        have h0 := ht k List.mem_cons_self
        have hi := KV.is I k _ _ h1 r1
        cases h1 with
        | tup hb hs =>
          rename_i b vs ks'
          cases (show _ = Value.ref b from r1)
          exact ⟨(b, .tup ks') :: ps, rfl, rfl, fun p hp => by
            rcases List.mem_cons.mp hp with e | hp
            · rw [e]; exact ⟨hi, h0.2⟩
            · exact hps p hp⟩
        | _ => cases h0.1
theorem pe_lenSetN {a : Expr} {ta : TE} {p p2 q pos : Pos} (hu : X.A.units + 65 < cLine) (hc : X.calm = true) (hg : Gl X "len") (hm : X.mg "len" = none) (hg2 : Gl X "set") (hm2 : X.mg "set" = none) (ha : PE X a ta)
    (na : starEach [a] X.env = (false, eval a X.env) :: starEach [] X.env := by rfl) : PE X (.Call (.Name "len" p) [.Call (.Name "set" p2) [a] [] q] [] pos) (tLenSetN X.K ta) := by
  refine ⟨fun pins s σ H Q I h => ?_⟩
  refine Call_ (ld_blt I hg hm PySem.boot_len ?_)
  refine PyProof.Rows.callWith_builtin1 (PyProof.Rows.args_cons ?_ rfl) rfl rfl
  refine Call_ (ld_blt I hg2 hm2 PyProof.Rows.boot_set ?_)
  refine PyProof.Rows.callWith_type1 (PyProof.Rows.args_cons (thn (ha.run pins s σ H _ I h) fun v s1 ⟨x, H1, I1, r1, q1⟩ => PyProof.Rows.args_nil ?_) na) na rfl
  obtain ⟨l, vs, ks, rfl, hq, hk, hnd, hl, ht, q1⟩ := q1
  cases (show _ = Value.ref l from r1)
  obtain ⟨its, r, pl, hz⟩ := I1.list hq
  obtain ⟨ps, rfl, rfl, hps⟩ := kvs_pairs I1 hk r ht
  rw [List.length_map] at hl
  refine call_set_nest ps (I1.ok.hd hc) pl.isList (by simp) hps hnd hl (by omega) fun h' tk L es ep t R hL hk' => ?_
  refine PyProof.Rows.args_nil ?_
  obtain ⟨o, ho, hex, hd⟩ := R.ob
  have hf := SetN.fits (s := { s1 with heap := h', toks := tk }) R
  have hn := SetN.size (s := { s1 with heap := h', toks := tk }) R
  have I2 : L2.Inv X pins σ H1 { s1 with heap := h', toks := tk } := I1.kept hk'
  refine call_len_set ho hex hd hf (by rw [hn] <;> omega) ⟨.int (ps.map (·.2)).length, H1, I2.tok _, ⟨_, by rw [hn, hL, List.length_map]⟩, q1⟩
end
def mLenSet (me : Env → Store → R Dt) : Env → Store → R Dt := fun en S => (me en S).bind fun d S1 => match (asL S1 d).bind (mapO (nkD 8)) with
  | some ks => if ks.Nodup ∧ ks.length ≤ 76 ∧ (∀ k ∈ ks, isTupK k = true) then .ok (.int ks.length) S1 else .stuck
  | none => .stuck
theorem kvs_all {G : Gv} {io : Io} {H : Hp} : ∀ {ds : List Dt} {vs : List V} {ks : List NestedKey}, RelDs G io H ds vs → mapO (nkD 8) ds = some ks → KVs G.K H ks vs ∧ ∀ k ∈ ks, k.depth ≤ 8
  | [], _, _, r, h => by
    cases r
    cases h
    exact ⟨.nil, fun k hk => (by cases hk)⟩
  | d :: ds, _, _, r, h => by
    cases r with
    | cons r1 r2 =>
      unfold mapO at h
      cases e1 : nkD 8 d with
      | none => rw [e1] at h; cases h
      | some k =>
        rw [e1] at h
        obtain ⟨k2, h2, rfl⟩ := map_some h
        obtain ⟨a1, a2⟩ := kv_of 8 r1 e1
        obtain ⟨b1, b2⟩ := kvs_all r2 h2
        exact ⟨.cons a1 b1, fun j hj => by
          rcases List.mem_cons.mp hj with e | hj
          · rw [e]; exact a2
          · exact b2 j hj⟩
section
variable {G : Gv} {X : Cx} {W : WX}
theorem de_lenSet {a : Expr} {ma : Env → Store → R Dt} {p p2 q pos : Pos} (hu : X.A.units + 65 < cLine) (hm : X.mg "len" = none) (hm2 : X.mg "set" = none) (ha : DE G X W a ma) (hc : X.calm = true := by rfl) (hg : Gl X "len" := by rfl) (hg2 : Gl X "set" := by rfl)
    (na : starEach [a] X.env = (false, eval a X.env) :: starEach [] X.env := by rfl) (hK : X.K = G.K := by rfl) : DE G X W (.Call (.Name "len" p) [.Call (.Name "set" p2) [a] [] q] [] pos) (mLenSet ma) := by
  obtain ⟨t, pa, qa⟩ := ha
  refine ⟨_, pe_lenSetN hu hc hg hm hg2 hm2 pa na, fun io H S en σ Q so re h => ?_⟩
  refine qa io H S en σ _ so re (h.bind.imp (fun _ _ _ _ z => z) fun d S1 i1 H1 g1 s1 k1 v r => ?_)
  split at k1
  · rename_i ks hk
    split at k1
    · rename_i hcc
      obtain ⟨ds, e1, e2⟩ := Option.bind_eq_some_iff.mp hk
      obtain ⟨l, vs, rfl, h1, rs⟩ := asL_ok s1 r e1
      obtain ⟨hkv, hdep⟩ := kvs_all rs e2
      exact ⟨l, vs, ks, rfl, by rw [hK]; exact h1, by rw [hK]; exact hkv, hcc.1, hcc.2.1, fun k hk => ⟨hcc.2.2 k hk, hdep k hk⟩, k1 i1 H1 Grow.refl s1 _ (.int _)⟩
    · exact k1.elim
  · exact k1.elim
theorem v_lenSet {me : Env → Store → R Dt} {en : Env} {S : Store} {Q : Dt → Store → Prop} {Z : Ex → Store → Prop} (h : Pe (me en S) (fun d S1 => ∃ ds ks, asL S1 d = some ds ∧ mapO (nkD 8) ds = some ks ∧ ks.Nodup ∧ ks.length ≤ 76 ∧ (∀ k ∈ ks, isTupK k = true) ∧ Q (.int ks.length) S1) Z) : Pe (mLenSet me en S) Q Z := by
  refine Pe.bind (h.imp (fun d S1 ⟨ds, ks, e1, e2, h1, h2, h3, q⟩ => ?_) fun _ _ z => z)
  rw [e1]
  show Pe (match mapO (nkD 8) ds with | some ks => _ | none => _) Q Z
  rw [e2]
  dsimp only
  rw [if_pos ⟨h1, h2, h3⟩]
  exact q
end
end Dv
set_option Elab.async false
set_option linter.all false
set_option maxRecDepth 100000
set_option maxHeartbeats 4000000
set_option autoImplicit false
namespace Lw
open PySem Dv
/-! the defs as functions: printed by our gen.py -/
def b_law_laid : Bd :=
  (mSeq (mSet 2 (mLst mNil))
  (mSeq (mFor (mIt (mVar 0)) (gTp 2 (gCons' (gNm 3) (gCons' (gNm 4) gNil'))) (mSet 2 (mOp mAdd (mVar 2) (mLst (mCons (mVar 3) (mCons (mVar 4) mNil))))))
  (mRet (mOp mAdd (mVar 2) (mLst (mCons (mVar 1) mNil))))))
def m_law_laid : Fn := fnRun 5 false b_law_laid
def b_law_place_row : Bd :=
  (mRet (mCall 2 m_law_laid (mCons (mCB mList (mCons (mVar 0) mNil)) (mCons (mC (.int 0)) mNil))))
def m_law_place_row : Fn := fnRun 1 false b_law_place_row
def b_law_road : Bd :=
  (mRet (mOp mIx (mLc [2] (mIt (mGetS "roads" (mVar 0))) (wNm 2) (mB (mOp mEq (mOp mIx (mVar 2) (mC (.int 0))) (mVar 1))) (mVar 2)) (mC (.int 0))))
def m_law_road : Fn := fnRun 3 false b_law_road
def b_law_ends : Bd :=
  (mSeq (mSet 2 (mCall 2 m_law_road (mCons (mVar 0) (mCons (mOp mIx (mVar 1) (mC (.int 0))) mNil))))
  (mRet (mIf (mB (mOp mEq (mOp mIx (mVar 1) (mC (.int 1))) (mC (.int 1)))) (mTup (mCons (mOp mIx (mVar 2) (mC (.int 1))) (mCons (mOp mIx (mVar 2) (mC (.int 2))) mNil))) (mTup (mCons (mOp mIx (mVar 2) (mC (.int 2))) (mCons (mOp mIx (mVar 2) (mC (.int 1))) mNil))))))
def m_law_ends : Fn := fnRun 3 false b_law_ends
def b_law_yards_on : Bd :=
  (mSeq (mSet 3 (mLstR (mCons (mVar 1) mNil)))
  (mSeq (mFor (mIt (mEv 1 (mVar 2))) (gNm 4) (mDrop (mApp1 (mVar 3) (mOp mIx (mCall 2 m_law_ends (mCons (mVar 0) (mCons (mVar 4) mNil))) (mC (.int 1))))))
  (mRet (mVar 3))))
def m_law_yards_on : Fn := fnRun 5 false b_law_yards_on
def b_law_end_of : Bd :=
  (mRet (mOp mIx (mCall 3 m_law_yards_on (mCons (mVar 0) (mCons (mVar 1) (mCons (mCall 1 m_law_place_row (mCons (mVar 2) mNil)) mNil)))) (mNeg (mC (.int 1)))))
def m_law_end_of : Fn := fnRun 3 false b_law_end_of
def b_law_join : Bd :=
  (mRet (mOp mAdd (mOp mAdd (mSl (mVar 0) mNoPart (mPart (mNeg (mC (.int 1))))) (mLst (mCons (mOp mAdd (mOp mIx (mVar 0) (mNeg (mC (.int 1)))) (mOp mIx (mVar 1) (mC (.int 0)))) mNil))) (mSl (mVar 1) (mPart (mC (.int 1))) mNoPart)))
def m_law_join : Fn := fnRun 2 false b_law_join
def b_law_rule : Bd :=
  (mSeq (mSet 2 (mCall 2 m_law_road (mCons (mVar 0) (mCons (mOp mIx (mVar 1) (mC (.int 0))) mNil))))
  (mRet (mIf (mB (mOp mEq (mOp mIx (mVar 1) (mC (.int 1))) (mC (.int 1)))) (mTup (mCons (mOp mIx (mVar 2) (mC (.int 3))) (mCons (mOp mIx (mVar 2) (mC (.int 4))) mNil))) (mTup (mCons (mOp mIx (mVar 2) (mC (.int 4))) (mCons (mOp mIx (mVar 2) (mC (.int 3))) mNil))))))
def m_law_rule : Fn := fnRun 3 false b_law_rule
def b_law_undone : Bd :=
  (mRet (mTup (mCons (mOp mIx (mVar 0) (mC (.int 0))) (mCons (mOp mSub (mC (.int 0)) (mOp mIx (mVar 0) (mC (.int 1)))) mNil))))
def m_law_undone : Fn := fnRun 1 false b_law_undone
def b_law_settled : Bd :=
  (mSeq (mPar 2 3 (mCons (mLstR mNil) (mCons (mOp mIx (mVar 1) (mC (.int 0))) mNil)))
  (mSeq (mFor (mRng3 (mCons (mC (.int 1)) (mCons (mCB mLen (mCons (mVar 1) mNil)) (mCons (mC (.int 2)) mNil)))) (gNm 4) (mSeq (mAsg (gTp 2 (gCons' (gNm 5) (gCons' (gNm 6) gNil'))) (mCall 2 m_law_rule (mCons (mVar 0) (mCons (mOp mIx (mVar 1) (mVar 4)) mNil))))
  (mSeq (mIfS (mAndT (mB (mOp mNe (mVar 2) (mLst mNil))) (mAndT (mB (mOp mEq (mOp mIx (mOp mIx (mVar 2) (mNeg (mC (.int 1)))) (mC (.int 1))) (mCall 1 m_law_undone (mCons (mOp mIx (mVar 1) (mVar 4)) mNil)))) (mB (mOp mEq (mOp mMod (mVar 3) (mCB mAbs (mCons (mVar 5) mNil))) (mC (.int 0)))))) (mSet 3 (mOp mAdd (mOp mIx (mPop (mVar 2)) (mC (.int 0))) (mOp mMul (mOp mDiv (mVar 3) (mVar 5)) (mVar 6)))) (mSeq (mSet 7 (mOp mMod (mVar 3) (mCB mAbs (mCons (mVar 5) mNil))))
  (mSeq (mDrop (mApp1 (mVar 2) (mTup (mCons (mVar 7) (mCons (mOp mIx (mVar 1) (mVar 4)) mNil)))))
  (mSet 3 (mOp mMul (mOp mDiv (mOp mSub (mVar 3) (mVar 7)) (mVar 5)) (mVar 6))))))
  (mSet 3 (mOp mAdd (mVar 3) (mOp mIx (mVar 1) (mOp mAdd (mVar 4) (mC (.int 1)))))))))
  (mRet (mTup (mCons (mVar 2) (mCons (mVar 3) mNil))))))
def m_law_settled : Fn := fnRun 8 false b_law_settled
def b_law_place : Bd :=
  (mRet (mCB mTuple (mCons (mOp mIx (mCall 2 m_law_settled (mCons (mVar 0) (mCons (mVar 1) mNil))) (mC (.int 0))) mNil)))
def m_law_place : Fn := fnRun 2 false b_law_place
def b_law_steps_from : Bd :=
  (mSeq (mSet 2 (mLstR mNil))
  (mSeq (mFor (mIt (mGetS "roads" (mVar 0))) (gTp 5 (gCons' (gNm 3) (gCons' (gNm 4) (gCons' (gNm 5) (gCons' (gNm 6) (gCons' (gNm 7) gNil')))))) (mSeq (mIfS (mB (mOp mEq (mVar 4) (mVar 1))) (mDrop (mApp1 (mVar 2) (mTup (mCons (mVar 3) (mCons (mC (.int 1)) mNil))))) mNx)
  (mIfS (mB (mOp mEq (mVar 5) (mVar 1))) (mDrop (mApp1 (mVar 2) (mTup (mCons (mVar 3) (mCons (mNeg (mC (.int 1))) mNil))))) mNx)))
  (mRet (mVar 2))))
def m_law_steps_from : Fn := fnRun 8 false b_law_steps_from
def b_law_beside : Bd :=
  (mSeq (mSet 3 (mLstR mNil))
  (mSeq (mFor (mIt (mCall 2 m_law_steps_from (mCons (mVar 0) (mCons (mCall 3 m_law_end_of (mCons (mVar 0) (mCons (mVar 1) (mCons (mVar 2) mNil)))) mNil)))) (gNm 4) (mFor (mRng1 (mCons (mCB mAbs (mCons (mOp mIx (mCall 2 m_law_rule (mCons (mVar 0) (mCons (mVar 4) mNil))) (mC (.int 0))) mNil)) mNil)) (gNm 5) (mDrop (mApp1 (mVar 3) (mCall 2 m_law_place (mCons (mVar 0) (mCons (mCall 2 m_law_join (mCons (mCall 1 m_law_place_row (mCons (mVar 2) mNil)) (mCons (mLst (mCons (mVar 5) (mCons (mVar 4) (mCons (mC (.int 0)) mNil)))) mNil))) mNil)))))))
  (mRet (mVar 3))))
def m_law_beside : Fn := fnRun 6 false b_law_beside
def b_law_draw : Bd :=
  (mSeq (mIfS (mB (mOp mGt (mOp mIx (mVar 0) (mC (.int 2))) (mC (.int 0)))) (mSeq (mSet 2 (mOp mMod (mOp mIx (mVar 0) (mC (.int 2))) (mVar 1)))
  (mSeq (mAsg (gSubD (mVar 0) (mC (.int 2))) (mOp mDiv (mOp mIx (mVar 0) (mC (.int 2))) (mVar 1)))
  (mRet (mVar 2)))) mNx)
  (mSeq (mSet 3 (mC (.int 0)))
  (mSeq (mIfS (mB (mOp mLt (mOp mIx (mVar 0) (mC (.int 1))) (mCB mLen (mCons (mOp mIx (mVar 0) (mC (.int 0))) mNil)))) (mSet 3 (mOp mIx (mOp mIx (mVar 0) (mC (.int 0))) (mOp mIx (mVar 0) (mC (.int 1))))) mNx)
  (mSeq (mAsg (gSubD (mVar 0) (mC (.int 1))) (mOp mAdd (mOp mIx (mVar 0) (mC (.int 1))) (mC (.int 1))))
  (mSeq (mIfS (mB (mOp mGe (mCB mAbs (mCons (mVar 3) mNil)) (mOp mPow (mC (.int 10)) (mC (.int 18))))) (mSeq (mAsg (gSubD (mVar 0) (mC (.int 2))) (mOp mDiv (mCB mAbs (mCons (mVar 3) mNil)) (mVar 1)))
  (mRet (mOp mMod (mCB mAbs (mCons (mVar 3) mNil)) (mVar 1)))) mNx)
  (mSeq (mSet 4 (mOp mAdd (mOp mAdd (mOp mPow (mOp mIx (mVar 0) (mC (.int 3))) (mC (.int 3))) (mOp mMul (mOp mIx (mVar 0) (mC (.int 3))) (mC (.int 37)))) (mOp mMul (mOp mIx (mVar 0) (mC (.int 1))) (mC (.int 69621)))))
  (mSeq (mSet 4 (mOp mMod (mOp mAdd (mVar 4) (mOp mMul (mOp mMod (mVar 3) (mC (.int 2147483629))) (mC (.int 48271)))) (mC (.int 2147483647))))
  (mSeq (mAsg (gSubD (mVar 0) (mC (.int 3))) (mVar 4))
  (mRet (mOp mMod (mOp mAdd (mOp mDiv (mVar 4) (mC (.int 8192))) (mOp mMul (mOp mMod (mVar 4) (mC (.int 8191))) (mC (.int 40503)))) (mVar 1)))))))))))
def m_law_draw : Fn := fnRun 5 false b_law_draw
def b_law_names : Bd :=
  (mSeq (mSet 2 (mLstR (mCons (mC (.str "a")) (mCons (mC (.str "road")) (mCons (mC (.str "bb")) (mCons (mC (.str "gate")) (mCons (mC (.str "z")) (mCons (mC (.str "yard")) (mCons (mC (.str "one")) (mCons (mC (.str "abcdefgh")) (mCons (mC (.str "x")) (mCons (mC (.str "ford")) (mCons (mC (.str "mill")) (mCons (mC (.str "walk")) (mCons (mC (.str "ab")) mNil)))))))))))))))
  (mSeq (mSet 2 (mOp mAddR (mVar 2) (mLst (mCons (mC (.str "bridge")) (mCons (mC (.str "k")) mNil)))))
  (mSeq (mSet 3 (mLstR mNil))
  (mSeq (mFor (mRng1 (mCons (mVar 1) mNil)) (gNm 4) (mDrop (mApp1 (mVar 3) (mPop1 (mVar 2) (mCall 2 m_law_draw (mCons (mVar 0) (mCons (mCB mLen (mCons (mVar 2) mNil)) mNil)))))))
  (mRet (mVar 3))))))
def m_law_names : Fn := fnRun 5 false b_law_names
def b_law_pick : Bd :=
  (mRet (mOp mIx (mVar 1) (mCall 2 m_law_draw (mCons (mVar 0) (mCons (mCB mLen (mCons (mVar 1) mNil)) mNil)))))
def m_law_pick : Fn := fnRun 2 false b_law_pick
def b_law_number : Bd :=
  (mSeq (mSet 2 (mCall 2 m_law_draw (mCons (mVar 0) (mCons (mC (.int 3)) mNil))))
  (mSeq (mIfS (mB (mOp mEq (mVar 2) (mC (.int 0)))) (mRet (mCall 2 m_law_pick (mCons (mVar 0) (mCons (mLst (mCons (mC (.int 1)) (mCons (mNeg (mC (.int 1))) mNil))) mNil)))) mNx)
  (mRet (mOp mMul (mCall 2 m_law_pick (mCons (mVar 0) (mCons (mLst (mCons (mC (.int 1)) (mCons (mC (.int 1)) (mCons (mNeg (mC (.int 1))) mNil)))) mNil))) (mOp mAdd (mC (.int 1)) (mCall 2 m_law_draw (mCons (mVar 0) (mCons (mVar 1) mNil))))))))
def m_law_number : Fn := fnRun 3 false b_law_number
def b_law_drawn_web : Bd :=
  (mSeq (mSet 4 (mCall 2 m_law_names (mCons (mVar 0) (mCons (mOp mAdd (mVar 1) (mVar 2)) mNil))))
  (mSeq (mSet 5 (mDict ["yards", "roads"] [(mSl (mVar 4) mNoPart (mPart (mVar 1))), (mLstR mNil)]))
  (mSeq (mFor (mRng1 (mCons (mVar 2) mNil)) (gNm 6) (mSeq (mSet 7 (mCall 2 m_law_pick (mCons (mVar 0) (mCons (mGetS "yards" (mVar 5)) mNil))))
  (mSeq (mSet 8 (mCall 2 m_law_pick (mCons (mVar 0) (mCons (mGetS "yards" (mVar 5)) mNil))))
  (mSeq (mIfS (mB (mOp mLt (mOp mAdd (mVar 6) (mC (.int 1))) (mVar 1))) (mPar 7 8 (mCons (mOp mIx (mGetS "yards" (mVar 5)) (mVar 6)) (mCons (mOp mIx (mGetS "yards" (mVar 5)) (mOp mAdd (mVar 6) (mC (.int 1)))) mNil))) mNx)
  (mSeq (mSet 9 (mTup (mCons (mOp mIx (mVar 4) (mOp mAdd (mVar 1) (mVar 6))) (mCons (mVar 7) (mCons (mVar 8) (mCons (mCall 2 m_law_number (mCons (mVar 0) (mCons (mVar 3) mNil))) mNil))))))
  (mDrop (mApp1 (mGetS "roads" (mVar 5)) (mOp mAdd (mVar 9) (mTup (mCons (mCall 2 m_law_number (mCons (mVar 0) (mCons (mVar 3) mNil))) mNil))))))))))
  (mRet (mVar 5)))))
def m_law_drawn_web : Fn := fnRun 10 false b_law_drawn_web
def b_law_flow : Bd :=
  (mRet (mLstR (mCons (mCB mList (mCons (mSl (mVar 0) mNoPart (mPart (mC (.int 63)))) mNil)) (mCons (mC (.int 0)) (mCons (mC (.int 0)) (mCons (mC (.int 23)) mNil))))))
def m_law_flow : Fn := fnRun 1 true b_law_flow
def b_law_same (rc : Fn) : Bd :=
  (mSeq (mIfS (mTruth (mCB mIsi (mCons (mVar 1) (mCons (mC (.ty "bool")) mNil)))) (mRet (mAndV (mCB mIsi (mCons (mVar 0) (mCons (mC (.ty "bool")) mNil))) (mOp mEq (mVar 0) (mVar 1)))) mNx)
  (mSeq (mIfS (mB (mOp (mIs false) (mVar 1) (mC .non))) (mRet (mOp (mIs false) (mVar 0) (mC .non))) mNx)
  (mSeq (mIfS (mTruth (mCB mIsi (mCons (mVar 1) (mCons (mC (.ty "int")) mNil)))) (mRet (mAndV (mCB mIsi (mCons (mVar 0) (mCons (mC (.ty "int")) mNil))) (mAndV (mNotV (mCB mIsi (mCons (mVar 0) (mCons (mC (.ty "bool")) mNil)))) (mOp mEq (mVar 0) (mVar 1))))) mNx)
  (mSeq (mIfS (mTruth (mCB mIsi (mCons (mVar 1) (mCons (mC (.ty "str")) mNil)))) (mRet (mAndV (mCB mIsi (mCons (mVar 0) (mCons (mC (.ty "str")) mNil))) (mOp mEq (mVar 0) (mVar 1)))) mNx)
  (mSeq (mIfS (mOrT (mB (mOp mNe (mCB mIsi (mCons (mVar 1) (mCons (mC (.ty "tuple")) mNil))) (mCB mIsi (mCons (mVar 0) (mCons (mC (.ty "tuple")) mNil))))) (mB (mOp mNe (mCB mIsi (mCons (mVar 1) (mCons (mC (.ty "list")) mNil))) (mCB mIsi (mCons (mVar 0) (mCons (mC (.ty "list")) mNil)))))) (mRet (mC (.bl false))) mNx)
  (mSeq (mIfS (mOrT (mNotT (mTruth (mCB mIsi (mCons (mVar 0) (mCons (mTup (mCons (mC (.ty "tuple")) (mCons (mC (.ty "list")) mNil))) mNil))))) (mB (mOp mNe (mCB mLen (mCons (mVar 0) mNil)) (mCB mLen (mCons (mVar 1) mNil))))) (mRet (mC (.bl false))) mNx)
  (mRet (mCB mAll (mCons (mLc [2] (mRng1 (mCons (mCB mLen (mCons (mVar 1) mNil)) mNil)) (wNm 2) mYes (mCall 2 rc (mCons (mOp mIx (mVar 0) (mVar 2)) (mCons (mOp mIx (mVar 1) (mVar 2)) mNil)))) mNil)))))))))
def m_law_same : Nat → Fn
  | 0 => fun _ _ => .stuck
  | n + 1 => fnRun 3 false (b_law_same (m_law_same n))
def b_law_turns : Bd :=
  (mRet (mOp mSub (mOp mAdd (mOp mMul (mCall 2 m_law_pick (mCons (mVar 0) (mCons (mLst (mCons (mC (.int 0)) (mCons (mC (.int 0)) (mCons (mC (.int 1)) (mCons (mNeg (mC (.int 1))) mNil))))) mNil))) (mCall 2 m_law_draw (mCons (mVar 0) (mCons (mC (.int 3)) mNil)))) (mCall 2 m_law_draw (mCons (mVar 0) (mCons (mOp mAdd (mOp mMul (mC (.int 2)) (mVar 1)) (mC (.int 1))) mNil)))) (mVar 1)))
def m_law_turns : Fn := fnRun 2 false b_law_turns
def b_law_drawn_row : Bd :=
  (mSeq (mSet 5 (mVar 2))
  (mSeq (mSet 6 (mLstR (mCons (mCall 2 m_law_turns (mCons (mVar 0) (mCons (mVar 4) mNil))) mNil)))
  (mSeq (mFor (mRng1 (mCons (mVar 3) mNil)) (gNm 7) (mSeq (mSet 8 (mCall 2 m_law_steps_from (mCons (mVar 1) (mCons (mVar 5) mNil))))
  (mIfS (mB (mOp mNe (mVar 8) (mLst mNil))) (mSeq (mSet 9 (mCall 2 m_law_pick (mCons (mVar 0) (mCons (mVar 8) mNil))))
  (mSeq (mIfS (mAndT (mB (mOp mGt (mCB mLen (mCons (mVar 6) mNil)) (mC (.int 1)))) (mB (mOp mEq (mCall 2 m_law_draw (mCons (mVar 0) (mCons (mC (.int 3)) mNil))) (mC (.int 0))))) (mSeq (mSet 9 (mCall 1 m_law_undone (mCons (mOp mIx (mVar 6) (mNeg (mC (.int 2)))) mNil)))
  (mAsg (gSubD (mVar 6) (mNeg (mC (.int 1)))) (mOp mMul (mOp mIx (mCall 2 m_law_rule (mCons (mVar 1) (mCons (mVar 9) mNil))) (mC (.int 0))) (mOp mSub (mCall 2 m_law_draw (mCons (mVar 0) (mCons (mC (.int 5)) mNil))) (mC (.int 2)))))) mNx)
  (mSeq (mSet 5 (mOp mIx (mCall 2 m_law_ends (mCons (mVar 1) (mCons (mVar 9) mNil))) (mC (.int 1))))
  (mSet 6 (mOp mAddR (mVar 6) (mLst (mCons (mVar 9) (mCons (mCall 2 m_law_turns (mCons (mVar 0) (mCons (mVar 4) mNil))) mNil)))))))) mNx)))
  (mRet (mVar 6)))))
def m_law_drawn_row : Fn := fnRun 10 false b_law_drawn_row
def b_law_some_place : Bd :=
  (mRet (mCall 2 m_law_place (mCons (mVar 1) (mCons (mCall 5 m_law_drawn_row (mCons (mVar 0) (mCons (mVar 1) (mCons (mVar 2) (mCons (mCall 2 m_law_draw (mCons (mVar 0) (mCons (mOp mAdd (mVar 3) (mC (.int 1))) mNil))) (mCons (mC (.int 9)) mNil)))))) mNil))))
def m_law_some_place : Fn := fnRun 4 false b_law_some_place
def b_Web_dinit : Bd :=
  (mSeq (mFldS ["Web"] "places" (mVar 0) (mTup mNil))
  (mFldS ["Web"] "roads" (mVar 0) (mTup mNil)))
def m_Web_dinit : Fn := fnRun 1 false b_Web_dinit
def b_is_name : Bd :=
  (mRet (mAndV (mChain mLe mLe (mC (.int 1)) (mCB mLen (mCons (mVar 0) mNil)) (mC (.int 8))) (mCB mAll (mCons (mLc [1] (mItS (mVar 0)) (wNm 1) mYes (mOp (mIn false) (mVar 1) (mC (.str "abcdefghijklmnopqrstuvwxyz")))) mNil))))
def m_is_name : Fn := fnRun 2 false b_is_name
def b_Web_need_new : Bd :=
  (mSeq (mIfS (mNotT (mTruth (mCall 1 m_is_name (mCons (mVar 1) mNil)))) mStop mNx)
  (mIfS (mOrT (mB (mOp (mIn false) (mVar 1) (mFld ["Web"] "places" (mVar 0)))) (mB (mOp (mIn false) (mVar 1) (mLc [2] (mIt (mFld ["Web"] "roads" (mVar 0))) (wNm 2) mYes (mOp mIx (mVar 2) (mC (.int 0))))))) mStop mNx))
def m_Web_need_new : Fn := fnRun 3 false b_Web_need_new
def b_Web_need_yard : Bd :=
  (mIfS (mB (mOp (mIn true) (mVar 1) (mFld ["Web"] "places" (mVar 0)))) mStop mNx)
def m_Web_need_yard : Fn := fnRun 2 false b_Web_need_yard
def b_Web_turned : Bd :=
  (mSeq (mSet 3 (mMake "Web" 1 m_Web_dinit mNil))
  (mSeq (mAsg (gTp 2 (gCons' (gFldD ["Web"] "places" (mVar 3)) (gCons' (gFldD ["Web"] "roads" (mVar 3)) gNil'))) (mTup (mCons (mCB mTuple (mCons (mVar 1) mNil)) (mCons (mCB mTuple (mCons (mVar 2) mNil)) mNil))))
  (mRet (mVar 3))))
def m_Web_turned : Fn := fnRun 4 false b_Web_turned
def b_is_whole : Bd :=
  (mRet (mAndV (mCB mIsi (mCons (mVar 0) (mCons (mC (.ty "int")) mNil))) (mAndV (mNotV (mCB mIsi (mCons (mVar 0) (mCons (mC (.ty "bool")) mNil)))) (mChain mLe mLe (mVar 1) (mVar 0) (mVar 2)))))
def m_is_whole : Fn := fnRun 3 false b_is_whole
def b_need_turns : Bd :=
  (mIfS (mOrT (mB (mOp mEq (mVar 0) (mC (.int 0)))) (mNotT (mTruth (mCall 3 m_is_whole (mCons (mVar 0) (mCons (mOp mSub (mC (.int 0)) (mC (.int 99))) (mCons (mC (.int 99)) mNil))))))) mStop mNx)
def m_need_turns : Fn := fnRun 1 false b_need_turns
def b_Web_with_passage : Bd :=
  (mSeq (mDrop (mMeth "Web" "need_new" 2 m_Web_need_new (mVar 0) (mCons (mVar 1) mNil)))
  (mSeq (mFor (mIt (mTup (mCons (mVar 2) (mCons (mVar 3) mNil)))) (gNm 6) (mDrop (mMeth "Web" "need_yard" 2 m_Web_need_yard (mVar 0) (mCons (mVar 6) mNil))))
  (mSeq (mFor (mIt (mTup (mCons (mVar 4) (mCons (mVar 5) mNil)))) (gNm 7) (mDrop (mCall 1 m_need_turns (mCons (mVar 7) mNil))))
  (mSeq (mIfS (mB (mOp mGe (mCB mLen (mCons (mFld ["Web"] "roads" (mVar 0)) mNil)) (mC (.int 8)))) mStop mNx)
  (mRet (mMeth "Web" "turned" 3 m_Web_turned (mVar 0) (mCons (mFld ["Web"] "places" (mVar 0)) (mCons (mOp mAdd (mFld ["Web"] "roads" (mVar 0)) (mTup (mCons (mTup (mCons (mVar 1) (mCons (mVar 2) (mCons (mVar 3) (mCons (mVar 4) (mCons (mVar 5) mNil)))))) mNil))) mNil))))))))
def m_Web_with_passage : Fn := fnRun 8 false b_Web_with_passage
def b_Web_with_yard : Bd :=
  (mSeq (mDrop (mMeth "Web" "need_new" 2 m_Web_need_new (mVar 0) (mCons (mVar 1) mNil)))
  (mSeq (mIfS (mB (mOp mGe (mCB mLen (mCons (mFld ["Web"] "places" (mVar 0)) mNil)) (mC (.int 6)))) mStop mNx)
  (mRet (mMeth "Web" "turned" 3 m_Web_turned (mVar 0) (mCons (mOp mAdd (mFld ["Web"] "places" (mVar 0)) (mTup (mCons (mVar 1) mNil))) (mCons (mFld ["Web"] "roads" (mVar 0)) mNil))))))
def m_Web_with_yard : Fn := fnRun 2 false b_Web_with_yard
def b_law_web : Bd :=
  (mSeq (mSet 1 (mFz (mMake "Web" 1 m_Web_dinit mNil)))
  (mSeq (mFor (mIt (mGetS "yards" (mVar 0))) (gNm 2) (mSet 1 (mMeth "Web" "with_yard" 2 m_Web_with_yard (mVar 1) (mCons (mVar 2) mNil))))
  (mSeq (mFor (mIt (mGetS "roads" (mVar 0))) (gTp 5 (gCons' (gNm 3) (gCons' (gNm 4) (gCons' (gNm 5) (gCons' (gNm 6) (gCons' (gNm 7) gNil')))))) (mSet 1 (mMethK "Web" "with_passage" 4 2 6 [1, 0] m_Web_with_passage (mVar 1) (mCons (mVar 3) (mCons (mVar 4) (mCons (mVar 5) mNil))) (mCons (mVar 7) (mCons (mVar 6) mNil)))))
  (mRet (mVar 1)))))
def m_law_web : Fn := fnRun 8 false b_law_web
def b_Web_road_of : Bd :=
  (mSeq (mFor (mIt (mFld ["Web"] "roads" (mVar 0))) (gNm 2) (mIfS (mB (mOp mEq (mOp mIx (mVar 2) (mC (.int 0))) (mVar 1))) (mRet (mVar 2)) mNx))
  mStop)
def m_Web_road_of : Fn := fnRun 3 false b_Web_road_of
def b_Web_turned_so : Bd :=
  (mSeq (mAsg (gTp 2 (gCons' (gNm 3) (gCons' (gNm 4) gNil'))) (mVar 1))
  (mSeq (mSet 5 (mMeth "Web" "road_of" 2 m_Web_road_of (mVar 0) (mCons (mVar 3) mNil)))
  (mSeq (mIfS (mB (mOp (mIn true) (mVar 4) (mTup (mCons (mC (.int 1)) (mCons (mNeg (mC (.int 1))) mNil))))) mStop mNx)
  (mRet (mIf (mB (mOp mEq (mVar 4) (mC (.int 1)))) (mTup (mCons (mOp mIx (mVar 5) (mVar 2)) (mCons (mOp mIx (mVar 5) (mOp mAdd (mVar 2) (mC (.int 1)))) mNil))) (mTup (mCons (mOp mIx (mVar 5) (mOp mAdd (mVar 2) (mC (.int 1)))) (mCons (mOp mIx (mVar 5) (mVar 2)) mNil))))))))
def m_Web_turned_so : Fn := fnRun 6 false b_Web_turned_so
def b_Web_ends : Bd :=
  (mRet (mMeth "Web" "turned_so" 3 m_Web_turned_so (mVar 0) (mCons (mVar 1) (mCons (mC (.int 1)) mNil))))
def m_Web_ends : Fn := fnRun 2 false b_Web_ends
def b_Web_rule : Bd :=
  (mRet (mMeth "Web" "turned_so" 3 m_Web_turned_so (mVar 0) (mCons (mVar 1) (mCons (mC (.int 3)) mNil))))
def m_Web_rule : Fn := fnRun 2 false b_Web_rule
def b_rule_from : Bd :=
  (mSeq (mTryN (mAsg (gTp 2 (gCons' (gNm 3) (gCons' (gNm 4) gNil'))) (mMeth "Web" "ends" 2 m_Web_ends (mVar 0) (mCons (mVar 2) mNil))))
  (mRet (mIf (mB (mOp mEq (mVar 3) (mVar 1))) (mTup (mCons (mOp mIx (mMeth "Web" "rule" 2 m_Web_rule (mVar 0) (mCons (mVar 2) mNil)) (mC (.int 0))) (mCons (mVar 4) mNil))) (mC .non))))
def m_rule_from : Fn := fnRun 5 false b_rule_from
def b_undone : Bd :=
  (mSeq (mAsg (gTp 2 (gCons' (gNm 1) (gCons' (gNm 2) gNil'))) (mVar 0))
  (mRet (mTup (mCons (mVar 1) (mCons (mOp mSub (mC (.int 0)) (mVar 2)) mNil)))))
def m_undone : Fn := fnRun 3 false b_undone
def b_yard_of : Bd :=
  (mSeq (mDrop (mMeth "Web" "need_yard" 2 m_Web_need_yard (mVar 0) (mCons (mVar 1) mNil)))
  (mSeq (mIfS (mB (mOp mGt (mCB mLen (mCons (mVar 2) mNil)) (mC (.int 200)))) mStop mNx)
  (mSeq (mPar 3 4 (mCons (mVar 1) (mCons (mC .non) mNil)))
  (mSeq (mFor (mIt (mVar 2)) (gTp 2 (gCons' (gNm 5) (gCons' (gNm 6) gNil'))) (mSeq (mSet 7 (mCall 3 m_rule_from (mCons (mVar 0) (mCons (mVar 3) (mCons (mVar 6) mNil)))))
  (mSeq (mIfS (mOrT (mB (mOp (mIs false) (mVar 7) (mC .non))) (mNotT (mTruth (mCall 3 m_is_whole (mCons (mVar 5) (mCons (mC (.int 0)) (mCons (mOp mSub (mCB mAbs (mCons (mOp mIx (mVar 7) (mC (.int 0))) mNil)) (mC (.int 1))) mNil))))))) mStop mNx)
  (mSeq (mIfS (mAndT (mB (mOp (mIs true) (mVar 4) (mC .non))) (mAndT (mB (mOp mEq (mVar 5) (mC (.int 0)))) (mB (mOp mEq (mVar 6) (mCall 1 m_undone (mCons (mVar 4) mNil)))))) mStop mNx)
  (mPar 3 4 (mCons (mOp mIx (mVar 7) (mC (.int 1))) (mCons (mVar 6) mNil)))))))
  (mRet (mVar 3))))))
def m_yard_of : Fn := fnRun 8 false b_yard_of
def b_need_place : Bd :=
  (mDrop (mCall 3 m_yard_of (mCons (mVar 0) (mCons (mVar 1) (mCons (mVar 2) mNil)))))
def m_need_place : Fn := fnRun 3 false b_need_place
def b_shared : Bd :=
  (mSeq (mSet 2 (mC (.int 0)))
  (mSeq (mWhile (fun e S => 100000) (mAndT (mB (mOp mLt (mVar 2) (mCB mLen (mCons (mVar 0) mNil)))) (mAndT (mB (mOp mLt (mVar 2) (mCB mLen (mCons (mVar 1) mNil)))) (mB (mOp mEq (mOp mIx (mVar 0) (mVar 2)) (mOp mIx (mVar 1) (mVar 2)))))) (mAug 2 mIAdd (mC (.int 1))))
  (mRet (mVar 2))))
def m_shared : Fn := fnRun 3 false b_shared
def b_far : Bd :=
  (mSeq (mDrop (mCall 3 m_need_place (mCons (mVar 0) (mCons (mVar 1) (mCons (mVar 2) mNil)))))
  (mSeq (mDrop (mCall 3 m_need_place (mCons (mVar 0) (mCons (mVar 1) (mCons (mVar 3) mNil)))))
  (mRet (mOp mSub (mOp mAdd (mCB mLen (mCons (mVar 2) mNil)) (mCB mLen (mCons (mVar 3) mNil))) (mOp mMul (mC (.int 2)) (mCall 2 m_shared (mCons (mVar 2) (mCons (mVar 3) mNil))))))))
def m_far : Fn := fnRun 4 false b_far
def b_Web_steps_from : Bd :=
  (mSeq (mDrop (mMeth "Web" "need_yard" 2 m_Web_need_yard (mVar 0) (mCons (mVar 1) mNil)))
  (mSeq (mSet 2 (mLstR mNil))
  (mSeq (mFor (mIt (mFld ["Web"] "roads" (mVar 0))) (gSt 4 3 (gCons' (gNm 3) (gCons' (gNm 4) (gCons' (gNm 5) (gCons' (gNm 6) gNil'))))) (mSeq (mIfS (mB (mOp mEq (mVar 4) (mVar 1))) (mDrop (mApp1 (mVar 2) (mTup (mCons (mVar 3) (mCons (mC (.int 1)) mNil))))) mNx)
  (mIfS (mB (mOp mEq (mVar 5) (mVar 1))) (mDrop (mApp1 (mVar 2) (mTup (mCons (mVar 3) (mCons (mNeg (mC (.int 1))) mNil))))) mNx)))
  (mRet (mVar 2)))))
def m_Web_steps_from : Fn := fnRun 7 false b_Web_steps_from
def b_neighbours : Bd :=
  (mSeq (mSet 3 (mLstR mNil))
  (mSeq (mFor (mIt (mMeth "Web" "steps_from" 2 m_Web_steps_from (mVar 0) (mCons (mCall 3 m_yard_of (mCons (mVar 0) (mCons (mVar 1) (mCons (mVar 2) mNil)))) mNil))) (gNm 4) (mFor (mRng1 (mCons (mCB mAbs (mCons (mOp mIx (mMeth "Web" "rule" 2 m_Web_rule (mVar 0) (mCons (mVar 4) mNil)) (mC (.int 0))) mNil)) mNil)) (gNm 5) (mIfS (mAndT (mB (mOp mEq (mVar 5) (mC (.int 0)))) (mAndT (mB (mOp mNe (mVar 2) (mTup mNil))) (mB (mOp mEq (mVar 4) (mCall 1 m_undone (mCons (mOp mIx (mOp mIx (mVar 2) (mNeg (mC (.int 1)))) (mC (.int 1))) mNil)))))) (mDrop (mApp1 (mVar 3) (mSl (mVar 2) mNoPart (mPart (mNeg (mC (.int 1))))))) (mDrop (mApp1 (mVar 3) (mOp mAdd (mVar 2) (mTup (mCons (mTup (mCons (mVar 5) (mCons (mVar 4) mNil))) mNil))))))))
  (mRet (mVar 3))))
def m_neighbours : Fn := fnRun 6 true b_neighbours
def b_law : Bd :=
  (mSeq (mSet 1 (mCall 1 m_law_flow (mCons (mVar 0) mNil)))
  (mSeq (mFor (mRng1 (mCons (mC (.int 2)) mNil)) (gNm 2) (mSeq (mSet 3 (mCall 4 m_law_drawn_web (mCons (mVar 1) (mCons (mOp mAdd (mC (.int 1)) (mCall 2 m_law_draw (mCons (mVar 1) (mCons (mC (.int 3)) mNil)))) (mCons (mCall 2 m_law_draw (mCons (mVar 1) (mCons (mC (.int 5)) mNil))) (mCons (mCall 2 m_law_pick (mCons (mVar 1) (mCons (mLst (mCons (mC (.int 2)) (mCons (mC (.int 4)) (mCons (mC (.int 9)) mNil)))) mNil))) mNil))))))
  (mSeq (mSet 4 (mCall 1 m_law_web (mCons (mVar 3) mNil)))
  (mSeq (mSet 5 (mCall 2 m_law_pick (mCons (mVar 1) (mCons (mGetS "yards" (mVar 3)) mNil))))
  (mSeq (mSet 6 (mCall 4 m_law_some_place (mCons (mVar 1) (mCons (mVar 3) (mCons (mVar 5) (mCons (mC (.int 5)) mNil))))))
  (mSeq (mSet 7 (mCall 3 m_neighbours (mCons (mVar 4) (mCons (mVar 5) (mCons (mVar 6) mNil)))))
  (mSeq (mSet 8 (mCB mSum (mCons (mLc [9] (mIt (mCall 2 m_law_steps_from (mCons (mVar 3) (mCons (mCall 3 m_law_end_of (mCons (mVar 3) (mCons (mVar 5) (mCons (mVar 6) mNil)))) mNil)))) (wNm 9) mYes (mCB mAbs (mCons (mOp mIx (mCall 2 m_law_rule (mCons (mVar 3) (mCons (mVar 9) mNil))) (mC (.int 0))) mNil))) mNil)))
  (mSeq (mIfS (mOrT (mNotT (mTruth (mCall 2 (m_law_same 20) (mCons (mVar 7) (mCons (mCall 3 m_law_beside (mCons (mVar 3) (mCons (mVar 5) (mCons (mVar 6) mNil)))) mNil))))) (mOrT (mB (mOp mNe (mCB mLen (mCons (mVar 7) mNil)) (mVar 8))) (mB (mOp mNe (mLenSet (mVar 7)) (mVar 8))))) (mRet (mC (.bl false))) mNx)
  (mSeq (mFor (mIt (mOp mAdd (mSl (mVar 7) mNoPart (mPart (mC (.int 3)))) (mSl (mVar 7) (mPart (mNeg (mC (.int 3)))) mNoPart))) (gNm 10) (mSeq (mSet 11 (mCall 3 m_neighbours (mCons (mVar 4) (mCons (mVar 5) (mCons (mVar 10) mNil)))))
  (mSeq (mIfS (mOrT (mB (mOp mNe (mLM cntD (mVar 11) (mCons (mVar 6) mNil)) (mC (.int 1)))) (mB (mOp mNe (mCall 4 m_far (mCons (mVar 4) (mCons (mVar 5) (mCons (mVar 6) (mCons (mVar 10) mNil))))) (mC (.int 1))))) (mRet (mC (.bl false))) mNx)
  (mDrop (mClear (mVar 11))))))
  (mSeq (mDrop (mClear (mVar 7)))
  (mIfS (mB (mOp mNe (mCall 3 m_neighbours (mCons (mVar 4) (mCons (mVar 5) (mCons (mVar 6) mNil)))) (mCall 3 m_law_beside (mCons (mVar 3) (mCons (mVar 5) (mCons (mVar 6) mNil)))))) (mRet (mC (.bl false))) mNx)))))))))))
  (mRet (mC (.bl true)))))
def m_law : Fn := fnRun 12 true b_law
end Lw
set_option Elab.async false
set_option linter.all false
set_option maxRecDepth 100000
set_option maxHeartbeats 4000000
set_option autoImplicit false
namespace Lw
open PySem PySem.Spec PyProof.Rows L2 Dv
theorem units65 {k : Nat} {A : Around} (r : Room k A) : A.units + 65 < cLine := by have := r.un; omega
structure Ad where
  a_law_laid : Addr
  d_law_laid : FuncData
  a_law_place_row : Addr
  d_law_place_row : FuncData
  a_law_road : Addr
  d_law_road : FuncData
  a_law_ends : Addr
  d_law_ends : FuncData
  a_law_yards_on : Addr
  d_law_yards_on : FuncData
  a_law_end_of : Addr
  d_law_end_of : FuncData
  a_law_join : Addr
  d_law_join : FuncData
  a_law_rule : Addr
  d_law_rule : FuncData
  a_law_undone : Addr
  d_law_undone : FuncData
  a_law_settled : Addr
  d_law_settled : FuncData
  a_law_place : Addr
  d_law_place : FuncData
  a_law_steps_from : Addr
  d_law_steps_from : FuncData
  a_law_beside : Addr
  d_law_beside : FuncData
  a_law_draw : Addr
  d_law_draw : FuncData
  a_law_names : Addr
  d_law_names : FuncData
  a_law_pick : Addr
  d_law_pick : FuncData
  a_law_number : Addr
  d_law_number : FuncData
  a_law_drawn_web : Addr
  d_law_drawn_web : FuncData
  a_law_flow : Addr
  d_law_flow : FuncData
  a_law_same : Addr
  d_law_same : FuncData
  a_law_turns : Addr
  d_law_turns : FuncData
  a_law_drawn_row : Addr
  d_law_drawn_row : FuncData
  a_law_some_place : Addr
  d_law_some_place : FuncData
  a_Web_dinit : Addr
  d_Web_dinit : FuncData
  a_is_name : Addr
  d_is_name : FuncData
  a_Web_need_new : Addr
  d_Web_need_new : FuncData
  a_Web_need_yard : Addr
  d_Web_need_yard : FuncData
  a_Web_turned : Addr
  d_Web_turned : FuncData
  a_is_whole : Addr
  d_is_whole : FuncData
  a_need_turns : Addr
  d_need_turns : FuncData
  a_Web_with_passage : Addr
  d_Web_with_passage : FuncData
  a_Web_with_yard : Addr
  d_Web_with_yard : FuncData
  a_law_web : Addr
  d_law_web : FuncData
  a_Web_road_of : Addr
  d_Web_road_of : FuncData
  a_Web_turned_so : Addr
  d_Web_turned_so : FuncData
  a_Web_ends : Addr
  d_Web_ends : FuncData
  a_Web_rule : Addr
  d_Web_rule : FuncData
  a_rule_from : Addr
  d_rule_from : FuncData
  a_undone : Addr
  d_undone : FuncData
  a_yard_of : Addr
  d_yard_of : FuncData
  a_need_place : Addr
  d_need_place : FuncData
  a_shared : Addr
  d_shared : FuncData
  a_far : Addr
  d_far : FuncData
  a_Web_steps_from : Addr
  d_Web_steps_from : FuncData
  a_neighbours : Addr
  d_neighbours : FuncData
  a_law : Addr
  d_law : FuncData
  k_Web : Addr
abbrev clOf (A : Ad) : CL := [("Web", A.k_Web)]
abbrev tabsOf (A : Ad) : List (Addr × Str) := []
abbrev Gx (K : PySem.W.Frag) (A : Ad) : Gv := ⟨K, fun c => (clOf A).lookup c, fun _ => none, tabsOf A, true⟩
structure Tx (K : PySem.W.Frag) (mg : Str → Option Value) (A : Ad) : Prop where
  F_law_laid : Fun K "_law_laid" "_law_laid" s_law_laid A.a_law_laid A.d_law_laid
  g_law_laid : mg "_law_laid" = some (.ref A.a_law_laid)
  b_law_laid : Binds K A.d_law_laid ["_law_pairs", "_law_now"] []
  F_law_place_row : Fun K "_law_place_row" "_law_place_row" s_law_place_row A.a_law_place_row A.d_law_place_row
  g_law_place_row : mg "_law_place_row" = some (.ref A.a_law_place_row)
  b_law_place_row : Binds K A.d_law_place_row ["_law_place_here"] []
  F_law_road : Fun K "_law_road" "_law_road" s_law_road A.a_law_road A.d_law_road
  g_law_road : mg "_law_road" = some (.ref A.a_law_road)
  b_law_road : Binds K A.d_law_road ["_law_m", "_law_name"] []
  F_law_ends : Fun K "_law_ends" "_law_ends" s_law_ends A.a_law_ends A.d_law_ends
  g_law_ends : mg "_law_ends" = some (.ref A.a_law_ends)
  b_law_ends : Binds K A.d_law_ends ["_law_m", "_law_step"] []
  F_law_yards_on : Fun K "_law_yards_on" "_law_yards_on" s_law_yards_on A.a_law_yards_on A.d_law_yards_on
  g_law_yards_on : mg "_law_yards_on" = some (.ref A.a_law_yards_on)
  b_law_yards_on : Binds K A.d_law_yards_on ["_law_m", "_law_start", "_law_row"] []
  F_law_end_of : Fun K "_law_end_of" "_law_end_of" s_law_end_of A.a_law_end_of A.d_law_end_of
  g_law_end_of : mg "_law_end_of" = some (.ref A.a_law_end_of)
  b_law_end_of : Binds K A.d_law_end_of ["_law_m", "_law_root", "_law_place_here"] []
  F_law_join : Fun K "_law_join" "_law_join" s_law_join A.a_law_join A.d_law_join
  g_law_join : mg "_law_join" = some (.ref A.a_law_join)
  b_law_join : Binds K A.d_law_join ["_law_row", "_law_other"] []
  F_law_rule : Fun K "_law_rule" "_law_rule" s_law_rule A.a_law_rule A.d_law_rule
  g_law_rule : mg "_law_rule" = some (.ref A.a_law_rule)
  b_law_rule : Binds K A.d_law_rule ["_law_m", "_law_step"] []
  F_law_undone : Fun K "_law_undone" "_law_undone" s_law_undone A.a_law_undone A.d_law_undone
  g_law_undone : mg "_law_undone" = some (.ref A.a_law_undone)
  b_law_undone : Binds K A.d_law_undone ["_law_step"] []
  F_law_settled : Fun K "_law_settled" "_law_settled" s_law_settled A.a_law_settled A.d_law_settled
  g_law_settled : mg "_law_settled" = some (.ref A.a_law_settled)
  b_law_settled : Binds K A.d_law_settled ["_law_m", "_law_row"] []
  F_law_place : Fun K "_law_place" "_law_place" s_law_place A.a_law_place A.d_law_place
  g_law_place : mg "_law_place" = some (.ref A.a_law_place)
  b_law_place : Binds K A.d_law_place ["_law_m", "_law_row"] []
  F_law_steps_from : Fun K "_law_steps_from" "_law_steps_from" s_law_steps_from A.a_law_steps_from A.d_law_steps_from
  g_law_steps_from : mg "_law_steps_from" = some (.ref A.a_law_steps_from)
  b_law_steps_from : Binds K A.d_law_steps_from ["_law_m", "_law_yard"] []
  F_law_beside : Fun K "_law_beside" "_law_beside" s_law_beside A.a_law_beside A.d_law_beside
  g_law_beside : mg "_law_beside" = some (.ref A.a_law_beside)
  b_law_beside : Binds K A.d_law_beside ["_law_m", "_law_root", "_law_place_here"] []
  F_law_draw : Fun K "_law_draw" "_law_draw" s_law_draw A.a_law_draw A.d_law_draw
  g_law_draw : mg "_law_draw" = some (.ref A.a_law_draw)
  b_law_draw : Binds K A.d_law_draw ["_law_flow_here", "_law_size"] []
  F_law_names : Fun K "_law_names" "_law_names" s_law_names A.a_law_names A.d_law_names
  g_law_names : mg "_law_names" = some (.ref A.a_law_names)
  b_law_names : Binds K A.d_law_names ["_law_flow_here", "_law_many"] []
  F_law_pick : Fun K "_law_pick" "_law_pick" s_law_pick A.a_law_pick A.d_law_pick
  g_law_pick : mg "_law_pick" = some (.ref A.a_law_pick)
  b_law_pick : Binds K A.d_law_pick ["_law_flow_here", "_law_lot"] []
  F_law_number : Fun K "_law_number" "_law_number" s_law_number A.a_law_number A.d_law_number
  g_law_number : mg "_law_number" = some (.ref A.a_law_number)
  b_law_number : Binds K A.d_law_number ["_law_flow_here", "_law_most_now"] []
  F_law_drawn_web : Fun K "_law_drawn_web" "_law_drawn_web" s_law_drawn_web A.a_law_drawn_web A.d_law_drawn_web
  g_law_drawn_web : mg "_law_drawn_web" = some (.ref A.a_law_drawn_web)
  b_law_drawn_web : Binds K A.d_law_drawn_web ["_law_flow_here", "_law_many", "_law_more", "_law_most_now"] []
  F_law_flow : Fun K "_law_flow" "_law_flow" s_law_flow A.a_law_flow A.d_law_flow
  g_law_flow : mg "_law_flow" = some (.ref A.a_law_flow)
  b_law_flow : Binds K A.d_law_flow ["_law_script"] []
  F_law_same : Fun K "_law_same" "_law_same" s_law_same A.a_law_same A.d_law_same
  g_law_same : mg "_law_same" = some (.ref A.a_law_same)
  b_law_same : Binds K A.d_law_same ["_law_found", "_law_due"] []
  F_law_turns : Fun K "_law_turns" "_law_turns" s_law_turns A.a_law_turns A.d_law_turns
  g_law_turns : mg "_law_turns" = some (.ref A.a_law_turns)
  b_law_turns : Binds K A.d_law_turns ["_law_flow_here", "_law_far_now"] []
  F_law_drawn_row : Fun K "_law_drawn_row" "_law_drawn_row" s_law_drawn_row A.a_law_drawn_row A.d_law_drawn_row
  g_law_drawn_row : mg "_law_drawn_row" = some (.ref A.a_law_drawn_row)
  b_law_drawn_row : Binds K A.d_law_drawn_row ["_law_flow_here", "_law_m", "_law_start", "_law_many", "_law_far_now"] []
  F_law_some_place : Fun K "_law_some_place" "_law_some_place" s_law_some_place A.a_law_some_place A.d_law_some_place
  g_law_some_place : mg "_law_some_place" = some (.ref A.a_law_some_place)
  b_law_some_place : Binds K A.d_law_some_place ["_law_flow_here", "_law_m", "_law_root", "_law_most_now"] []
  F_Web_dinit : Fun K "__init__" "Web.__init__" s_Web_dinit A.a_Web_dinit A.d_Web_dinit
  mk_Web : Mk K A.k_Web A.a_Web_dinit
  b_Web_dinit : Binds K A.d_Web_dinit ["self"] []
  F_is_name : Fun K "is_name" "is_name" s_is_name A.a_is_name A.d_is_name
  g_is_name : mg "is_name" = some (.ref A.a_is_name)
  b_is_name : Binds K A.d_is_name ["text"] []
  F_Web_need_new : Fun K "need_new" "Web.need_new" s_Web_need_new A.a_Web_need_new A.d_Web_need_new
  me_Web_need_new : Meth K A.k_Web "need_new" A.a_Web_need_new
  b_Web_need_new : Binds K A.d_Web_need_new ["self", "name"] []
  F_Web_need_yard : Fun K "need_yard" "Web.need_yard" s_Web_need_yard A.a_Web_need_yard A.d_Web_need_yard
  me_Web_need_yard : Meth K A.k_Web "need_yard" A.a_Web_need_yard
  b_Web_need_yard : Binds K A.d_Web_need_yard ["self", "name"] []
  F_Web_turned : Fun K "turned" "Web.turned" s_Web_turned A.a_Web_turned A.d_Web_turned
  me_Web_turned : Meth K A.k_Web "turned" A.a_Web_turned
  b_Web_turned : Binds K A.d_Web_turned ["self", "places", "roads"] []
  F_is_whole : Fun K "is_whole" "is_whole" s_is_whole A.a_is_whole A.d_is_whole
  g_is_whole : mg "is_whole" = some (.ref A.a_is_whole)
  b_is_whole : Binds K A.d_is_whole ["thing", "low", "high"] []
  F_need_turns : Fun K "need_turns" "need_turns" s_need_turns A.a_need_turns A.d_need_turns
  g_need_turns : mg "need_turns" = some (.ref A.a_need_turns)
  b_need_turns : Binds K A.d_need_turns ["number"] []
  F_Web_with_passage : Fun K "with_passage" "Web.with_passage" s_Web_with_passage A.a_Web_with_passage A.d_Web_with_passage
  me_Web_with_passage : Meth K A.k_Web "with_passage" A.a_Web_with_passage
  F_Web_with_yard : Fun K "with_yard" "Web.with_yard" s_Web_with_yard A.a_Web_with_yard A.d_Web_with_yard
  me_Web_with_yard : Meth K A.k_Web "with_yard" A.a_Web_with_yard
  b_Web_with_yard : Binds K A.d_Web_with_yard ["self", "name"] []
  F_law_web : Fun K "_law_web" "_law_web" s_law_web A.a_law_web A.d_law_web
  g_law_web : mg "_law_web" = some (.ref A.a_law_web)
  b_law_web : Binds K A.d_law_web ["_law_m"] []
  F_Web_road_of : Fun K "road_of" "Web.road_of" s_Web_road_of A.a_Web_road_of A.d_Web_road_of
  me_Web_road_of : Meth K A.k_Web "road_of" A.a_Web_road_of
  b_Web_road_of : Binds K A.d_Web_road_of ["self", "name"] []
  F_Web_turned_so : Fun K "turned_so" "Web.turned_so" s_Web_turned_so A.a_Web_turned_so A.d_Web_turned_so
  me_Web_turned_so : Meth K A.k_Web "turned_so" A.a_Web_turned_so
  b_Web_turned_so : Binds K A.d_Web_turned_so ["self", "step", "at"] []
  F_Web_ends : Fun K "ends" "Web.ends" s_Web_ends A.a_Web_ends A.d_Web_ends
  me_Web_ends : Meth K A.k_Web "ends" A.a_Web_ends
  b_Web_ends : Binds K A.d_Web_ends ["self", "step"] []
  F_Web_rule : Fun K "rule" "Web.rule" s_Web_rule A.a_Web_rule A.d_Web_rule
  me_Web_rule : Meth K A.k_Web "rule" A.a_Web_rule
  b_Web_rule : Binds K A.d_Web_rule ["self", "step"] []
  F_rule_from : Fun K "rule_from" "rule_from" s_rule_from A.a_rule_from A.d_rule_from
  g_rule_from : mg "rule_from" = some (.ref A.a_rule_from)
  b_rule_from : Binds K A.d_rule_from ["web", "yard", "step"] []
  F_undone : Fun K "undone" "undone" s_undone A.a_undone A.d_undone
  g_undone : mg "undone" = some (.ref A.a_undone)
  b_undone : Binds K A.d_undone ["step"] []
  F_yard_of : Fun K "yard_of" "yard_of" s_yard_of A.a_yard_of A.d_yard_of
  g_yard_of : mg "yard_of" = some (.ref A.a_yard_of)
  b_yard_of : Binds K A.d_yard_of ["web", "root", "place"] []
  F_need_place : Fun K "need_place" "need_place" s_need_place A.a_need_place A.d_need_place
  g_need_place : mg "need_place" = some (.ref A.a_need_place)
  b_need_place : Binds K A.d_need_place ["web", "root", "place"] []
  F_shared : Fun K "shared" "shared" s_shared A.a_shared A.d_shared
  g_shared : mg "shared" = some (.ref A.a_shared)
  b_shared : Binds K A.d_shared ["one", "other"] []
  F_far : Fun K "far" "far" s_far A.a_far A.d_far
  g_far : mg "far" = some (.ref A.a_far)
  b_far : Binds K A.d_far ["web", "root", "one", "other"] []
  F_Web_steps_from : Fun K "steps_from" "Web.steps_from" s_Web_steps_from A.a_Web_steps_from A.d_Web_steps_from
  me_Web_steps_from : Meth K A.k_Web "steps_from" A.a_Web_steps_from
  b_Web_steps_from : Binds K A.d_Web_steps_from ["self", "yard"] []
  F_neighbours : Fun K "neighbours" "neighbours" s_neighbours A.a_neighbours A.d_neighbours
  g_neighbours : mg "neighbours" = some (.ref A.a_neighbours)
  b_neighbours : Binds K A.d_neighbours ["web", "root", "place"] []
  F_law : Fun K "law" "law" s_law A.a_law A.d_law
  g_law : mg "law" = some (.ref A.a_law)
  b_law : Binds K A.d_law ["_law_script"] []
  kb0_Web_with_passage : KBn K A.d_Web_with_passage ["self", "name", "begin", "end", "here", "there"] 4 ["there", "here"] (fun us ws => us ++ pickL [1, 0] ws) (fun vs zs => vs ++ pickL [1, 0] zs)
  g_Web : mg "Web" = some (.ref A.k_Web)
  cF_Web : ClsF K A.k_Web
  na_Web_places : NoAttr K A.k_Web "places"
  na_Web_roads : NoAttr K A.k_Web "roads"
  cb : clsB K (clOf A) = true
  hn : PySem.W.specialIn K (.builtin "object.__class__") "__get__" = some (some (.builtin "getset_descriptor.__get__"))
  htk : PySem.W.takesIn K (.builtin "object.__class__") = some true
  z_range : mg "range" = none
  z_sum : mg "sum" = none
  z_abs : mg "abs" = none
  z_len : mg "len" = none
  z_set : mg "set" = none
  z_list : mg "list" = none
  z_tuple : mg "tuple" = none
  z_isinstance : mg "isinstance" = none
  z_bool : mg "bool" = none
  z_int : mg "int" = none
  z_str : mg "str" = none
  z_all : mg "all" = none
  c_MOST_PASSAGES : ∃ t, mg "MOST_PASSAGES" = some (.int 8 t)
  c_LETTERS : ∃ t, mg "LETTERS" = some (.str "abcdefghijklmnopqrstuvwxyz" t)
  c_LONGEST_NAME : ∃ t, mg "LONGEST_NAME" = some (.int 8 t)
  c_MOST_TURNS : ∃ t, mg "MOST_TURNS" = some (.int 99 t)
  c_MOST_YARDS : ∃ t, mg "MOST_YARDS" = some (.int 6 t)
  c_LONGEST : ∃ t, mg "LONGEST" = some (.int 200 t)
theorem Tx.isi {K : PySem.W.Frag} {mg : Str → Option Value} {A : Ad} (T : Tx K mg A) : ClsOk (Gx K A) := cls_of T.cb (fun p hp => by
  simp only [clOf, List.mem_cons, List.not_mem_nil, or_false] at hp
  rcases hp with rfl
  · exact T.cF_Web) T.hn T.htk
theorem Tx.no_places {K : PySem.W.Frag} {mg : Str → Option Value} {A : Ad} (T : Tx K mg A) : ∀ c ∈ ["Web"], ∀ C, (Gx K A).cl c = some C → NoAttr (Gx K A).K C "places" := by
  intro c hc C h
  simp only [List.mem_cons, List.not_mem_nil, or_false] at hc
  rcases hc with rfl
  · obtain rfl : A.k_Web = C := Option.some.inj h
    exact T.na_Web_places
theorem Tx.no_roads {K : PySem.W.Frag} {mg : Str → Option Value} {A : Ad} (T : Tx K mg A) : ∀ c ∈ ["Web"], ∀ C, (Gx K A).cl c = some C → NoAttr (Gx K A).K C "roads" := by
  intro c hc C h
  simp only [List.mem_cons, List.not_mem_nil, or_false] at hc
  rcases hc with rfl
  · obtain rfl : A.k_Web = C := Option.some.inj h
    exact T.na_Web_roads
section
variable {P : Program} {w : World} {K : PySem.W.Frag} {mg : Str → Option Value} {base : Heap} {A : Ad}
theorem ok_law_laid (T : Tx K mg A) : FnOk P w K mg base (L2N.CX P w) 1 A.a_law_laid A.d_law_laid ["_law_pairs", "_law_now"] (spF (Gx K A) 2 m_law_laid) := by
  refine fn_ok false T.F_law_laid sc_law_laid (fun cdv A1 outer s1 H1 E1 hr => ?_)
  exact (db_cons (ds_set (i := 2) sc_law_laid.nd (de_lst da_nil))
  (db_cons (ds_for fn_po (di_seq (de_var 0)) (dg_tup (dgs_cons (dg_name sc_law_laid.nd rfl (by first | exact Or.inl rfl | exact Or.inr rfl)) (dgs_cons (dg_name sc_law_laid.nd rfl (by first | exact Or.inl rfl | exact Or.inr rfl)) dgs_nil))) (db_one (ds_set (i := 2) sc_law_laid.nd (de_op do_add (de_var 2) (de_lst (da_cons (de_var 3) (da_cons (de_var 4) da_nil)))))))
  (db_one (ds_ret (de_op do_add (de_var 2) (de_lst (da_cons (de_var 1) da_nil)))))))
theorem ok_law_place_row (T : Tx K mg A) : FnOk P w K mg base (L2N.CX P w) 2 A.a_law_place_row A.d_law_place_row ["_law_place_here"] (spF (Gx K A) 1 m_law_place_row) := by
  refine fn_ok false T.F_law_place_row sc_law_place_row (fun cdv A1 outer s1 H1 E1 hr => ?_)
  exact (db_one (ds_ret (de_call (ok_law_laid T) (hr.mono (by decide)) T.g_law_laid T.F_law_laid.kp T.b_law_laid fn_tk (da_cons (de_callTy (dc_list) rfl T.z_list boot_list (da_cons (de_var 0) da_nil)) (da_cons de_int da_nil)))))
theorem ok_law_road (T : Tx K mg A) : FnOk P w K mg base (L2N.CX P w) 1 A.a_law_road A.d_law_road ["_law_m", "_law_name"] (spF (Gx K A) 2 m_law_road) := by
  refine fn_ok false T.F_law_road sc_law_road (fun cdv A1 outer s1 H1 E1 hr => ?_)
  exact (db_one (ds_ret (de_ix (de_lc [("_law_road_here", 2)] sc_law_road.nd (di_seq (de_getS hr.units (de_var 0) (fun _ _ => rfl))) (blkOk_by (own := [("_law_road_here", 2)]) (N := ["_law_m", "_law_name", "_law_road_here"]) (sc := defScope s_law_road) (by decide +kernel)) (fun _ _ _ _ _ => (dgw_name sc_law_road.nd rfl (by first | exact Or.inl rfl | exact Or.inr rfl))) (fun _ _ _ _ _ => (dts_one (dt_cmp (do_eq hr.units) (de_ix (de_var 2) de_int) (de_var 1)))) (fun _ _ _ _ _ => (de_var 2))) de_int)))
theorem ok_law_ends (T : Tx K mg A) : FnOk P w K mg base (L2N.CX P w) 2 A.a_law_ends A.d_law_ends ["_law_m", "_law_step"] (spF (Gx K A) 2 m_law_ends) := by
  refine fn_ok false T.F_law_ends sc_law_ends (fun cdv A1 outer s1 H1 E1 hr => ?_)
  exact (db_cons (ds_set (i := 2) sc_law_ends.nd (de_call (ok_law_road T) (hr.mono (by decide)) T.g_law_road T.F_law_road.kp T.b_law_road fn_tk (da_cons (de_var 0) (da_cons (de_ix (de_var 1) de_int) da_nil))))
  (db_one (ds_ret (de_if (dt_cmp (do_eq hr.units) (de_ix (de_var 1) de_int) de_int) (de_tup (da_cons (de_ix (de_var 2) de_int) (da_cons (de_ix (de_var 2) de_int) da_nil))) (de_tup (da_cons (de_ix (de_var 2) de_int) (da_cons (de_ix (de_var 2) de_int) da_nil)))))))
theorem ok_law_yards_on (T : Tx K mg A) : FnOk P w K mg base (L2N.CX P w) 3 A.a_law_yards_on A.d_law_yards_on ["_law_m", "_law_start", "_law_row"] (spF (Gx K A) 3 m_law_yards_on) := by
  refine fn_ok false T.F_law_yards_on sc_law_yards_on (fun cdv A1 outer s1 H1 E1 hr => ?_)
  exact (db_cons (ds_set (i := 3) sc_law_yards_on.nd (de_lstR (da_cons (de_var 1) da_nil)))
  (db_cons (ds_for fn_po (di_seq (de_ev 1 (de_var 2))) (dg_name sc_law_yards_on.nd rfl (by first | exact Or.inl rfl | exact Or.inr rfl)) (db_one (ds_expr (de_append (de_var 3) (de_ix (de_call (ok_law_ends T) (hr.mono (by decide)) T.g_law_ends T.F_law_ends.kp T.b_law_ends fn_tk (da_cons (de_var 0) (da_cons (de_var 4) da_nil))) de_int)))))
  (db_one (ds_ret (de_var 3)))))
theorem ok_law_end_of (T : Tx K mg A) : FnOk P w K mg base (L2N.CX P w) 4 A.a_law_end_of A.d_law_end_of ["_law_m", "_law_root", "_law_place_here"] (spF (Gx K A) 3 m_law_end_of) := by
  refine fn_ok false T.F_law_end_of sc_law_end_of (fun cdv A1 outer s1 H1 E1 hr => ?_)
  exact (db_one (ds_ret (de_ix (de_call (ok_law_yards_on T) (hr.mono (by decide)) T.g_law_yards_on T.F_law_yards_on.kp T.b_law_yards_on fn_tk (da_cons (de_var 0) (da_cons (de_var 1) (da_cons (de_call (ok_law_place_row T) (hr.mono (by decide)) T.g_law_place_row T.F_law_place_row.kp T.b_law_place_row fn_tk (da_cons (de_var 2) da_nil)) da_nil)))) (de_neg de_int))))
theorem ok_law_join (T : Tx K mg A) : FnOk P w K mg base (L2N.CX P w) 1 A.a_law_join A.d_law_join ["_law_row", "_law_other"] (spF (Gx K A) 2 m_law_join) := by
  refine fn_ok false T.F_law_join sc_law_join (fun cdv A1 outer s1 H1 E1 hr => ?_)
  exact (db_one (ds_ret (de_op do_add (de_op do_add (de_sl (de_var 0) dp_none (dp_some (de_neg de_int))) (de_lst (da_cons (de_op do_add (de_ix (de_var 0) (de_neg de_int)) (de_ix (de_var 1) de_int)) da_nil))) (de_sl (de_var 1) (dp_some de_int) dp_none))))
theorem ok_law_rule (T : Tx K mg A) : FnOk P w K mg base (L2N.CX P w) 2 A.a_law_rule A.d_law_rule ["_law_m", "_law_step"] (spF (Gx K A) 2 m_law_rule) := by
  refine fn_ok false T.F_law_rule sc_law_rule (fun cdv A1 outer s1 H1 E1 hr => ?_)
  exact (db_cons (ds_set (i := 2) sc_law_rule.nd (de_call (ok_law_road T) (hr.mono (by decide)) T.g_law_road T.F_law_road.kp T.b_law_road fn_tk (da_cons (de_var 0) (da_cons (de_ix (de_var 1) de_int) da_nil))))
  (db_one (ds_ret (de_if (dt_cmp (do_eq hr.units) (de_ix (de_var 1) de_int) de_int) (de_tup (da_cons (de_ix (de_var 2) de_int) (da_cons (de_ix (de_var 2) de_int) da_nil))) (de_tup (da_cons (de_ix (de_var 2) de_int) (da_cons (de_ix (de_var 2) de_int) da_nil)))))))
theorem ok_law_undone (T : Tx K mg A) : FnOk P w K mg base (L2N.CX P w) 1 A.a_law_undone A.d_law_undone ["_law_step"] (spF (Gx K A) 1 m_law_undone) := by
  refine fn_ok false T.F_law_undone sc_law_undone (fun cdv A1 outer s1 H1 E1 hr => ?_)
  exact (db_one (ds_ret (de_tup (da_cons (de_ix (de_var 0) de_int) (da_cons (de_op do_sub de_int (de_ix (de_var 0) de_int)) da_nil)))))
theorem ok_law_settled (T : Tx K mg A) : FnOk P w K mg base (L2N.CX P w) 3 A.a_law_settled A.d_law_settled ["_law_m", "_law_row"] (spF (Gx K A) 2 m_law_settled) := by
  refine fn_ok false T.F_law_settled sc_law_settled (fun cdv A1 outer s1 H1 E1 hr => ?_)
  exact (db_cons (ds_par (i := 2) (j := 3) sc_law_settled.nd (da_cons (de_lstR da_nil) (da_cons (de_ix (de_var 1) de_int) da_nil)))
  (db_cons (ds_for fn_po (di_range3 T.z_range (da_cons de_int (da_cons (de_callB (dc_len) rfl T.z_len boot_len (da_cons (de_var 1) da_nil)) (da_cons de_int da_nil)))) (dg_name sc_law_settled.nd rfl (by first | exact Or.inl rfl | exact Or.inr rfl)) (db_cons (ds_asg (de_call (ok_law_rule T) (hr.mono (by decide)) T.g_law_rule T.F_law_rule.kp T.b_law_rule fn_tk (da_cons (de_var 0) (da_cons (de_ix (de_var 1) (de_var 4)) da_nil))) (dg_tup (dgs_cons (dg_name sc_law_settled.nd rfl (by first | exact Or.inl rfl | exact Or.inr rfl)) (dgs_cons (dg_name sc_law_settled.nd rfl (by first | exact Or.inl rfl | exact Or.inr rfl)) dgs_nil))))
  (db_cons (ds_if (dt_w (dw_and (dt_cmp (do_ne hr.units) (de_var 2) (de_lst da_nil)) (dw_and (dt_cmp (do_eq hr.units) (de_ix (de_ix (de_var 2) (de_neg de_int)) de_int) (de_call (ok_law_undone T) (hr.mono (by decide)) T.g_law_undone T.F_law_undone.kp T.b_law_undone fn_tk (da_cons (de_ix (de_var 1) (de_var 4)) da_nil))) (dw_and1 (dt_cmp (do_eq hr.units) (de_op do_mod (de_var 3) (de_callB (dc_abs) rfl T.z_abs boot_abs (da_cons (de_var 5) da_nil))) de_int))))) (db_one (ds_set (i := 3) sc_law_settled.nd (de_op do_add (de_ix (de_pop (de_var 2)) de_int) (de_op do_mul (de_op do_div (de_var 3) (de_var 5)) (de_var 6))))) (db_cons (ds_set (i := 7) sc_law_settled.nd (de_op do_mod (de_var 3) (de_callB (dc_abs) rfl T.z_abs boot_abs (da_cons (de_var 5) da_nil))))
  (db_cons (ds_expr (de_append (de_var 2) (de_tup (da_cons (de_var 7) (da_cons (de_ix (de_var 1) (de_var 4)) da_nil)))))
  (db_one (ds_set (i := 3) sc_law_settled.nd (de_op do_mul (de_op do_div (de_op do_sub (de_var 3) (de_var 7)) (de_var 5)) (de_var 6)))))))
  (db_one (ds_set (i := 3) sc_law_settled.nd (de_op do_add (de_var 3) (de_ix (de_var 1) (de_op do_add (de_var 4) de_int))))))))
  (db_one (ds_ret (de_tup (da_cons (de_var 2) (da_cons (de_var 3) da_nil)))))))
theorem ok_law_place (T : Tx K mg A) : FnOk P w K mg base (L2N.CX P w) 4 A.a_law_place A.d_law_place ["_law_m", "_law_row"] (spF (Gx K A) 2 m_law_place) := by
  refine fn_ok false T.F_law_place sc_law_place (fun cdv A1 outer s1 H1 E1 hr => ?_)
  exact (db_one (ds_ret (de_callTy (dc_tuple) rfl T.z_tuple boot_tuple (da_cons (de_ix (de_call (ok_law_settled T) (hr.mono (by decide)) T.g_law_settled T.F_law_settled.kp T.b_law_settled fn_tk (da_cons (de_var 0) (da_cons (de_var 1) da_nil))) de_int) da_nil))))
theorem ok_law_steps_from (T : Tx K mg A) : FnOk P w K mg base (L2N.CX P w) 1 A.a_law_steps_from A.d_law_steps_from ["_law_m", "_law_yard"] (spF (Gx K A) 2 m_law_steps_from) := by
  refine fn_ok false T.F_law_steps_from sc_law_steps_from (fun cdv A1 outer s1 H1 E1 hr => ?_)
  exact (db_cons (ds_set (i := 2) sc_law_steps_from.nd (de_lstR da_nil))
  (db_cons (ds_for fn_po (di_seq (de_getS hr.units (de_var 0) (fun _ _ => rfl))) (dg_tup (dgs_cons (dg_name sc_law_steps_from.nd rfl (by first | exact Or.inl rfl | exact Or.inr rfl)) (dgs_cons (dg_name sc_law_steps_from.nd rfl (by first | exact Or.inl rfl | exact Or.inr rfl)) (dgs_cons (dg_name sc_law_steps_from.nd rfl (by first | exact Or.inl rfl | exact Or.inr rfl)) (dgs_cons (dg_name sc_law_steps_from.nd rfl (by first | exact Or.inl rfl | exact Or.inr rfl)) (dgs_cons (dg_name sc_law_steps_from.nd rfl (by first | exact Or.inl rfl | exact Or.inr rfl)) dgs_nil)))))) (db_cons (ds_if (dt_cmp (do_eq hr.units) (de_var 4) (de_var 1)) (db_one (ds_expr (de_append (de_var 2) (de_tup (da_cons (de_var 3) (da_cons de_int da_nil)))))) db_nil)
  (db_one (ds_if (dt_cmp (do_eq hr.units) (de_var 5) (de_var 1)) (db_one (ds_expr (de_append (de_var 2) (de_tup (da_cons (de_var 3) (da_cons (de_neg de_int) da_nil)))))) db_nil))))
  (db_one (ds_ret (de_var 2)))))
theorem ok_law_beside (T : Tx K mg A) : FnOk P w K mg base (L2N.CX P w) 5 A.a_law_beside A.d_law_beside ["_law_m", "_law_root", "_law_place_here"] (spF (Gx K A) 3 m_law_beside) := by
  refine fn_ok false T.F_law_beside sc_law_beside (fun cdv A1 outer s1 H1 E1 hr => ?_)
  exact (db_cons (ds_set (i := 3) sc_law_beside.nd (de_lstR da_nil))
  (db_cons (ds_for fn_po (di_seq (de_call (ok_law_steps_from T) (hr.mono (by decide)) T.g_law_steps_from T.F_law_steps_from.kp T.b_law_steps_from fn_tk (da_cons (de_var 0) (da_cons (de_call (ok_law_end_of T) (hr.mono (by decide)) T.g_law_end_of T.F_law_end_of.kp T.b_law_end_of fn_tk (da_cons (de_var 0) (da_cons (de_var 1) (da_cons (de_var 2) da_nil)))) da_nil)))) (dg_name sc_law_beside.nd rfl (by first | exact Or.inl rfl | exact Or.inr rfl)) (db_one (ds_for fn_po (di_range1 T.z_range (da_cons (de_callB (dc_abs) rfl T.z_abs boot_abs (da_cons (de_ix (de_call (ok_law_rule T) (hr.mono (by decide)) T.g_law_rule T.F_law_rule.kp T.b_law_rule fn_tk (da_cons (de_var 0) (da_cons (de_var 4) da_nil))) de_int) da_nil)) da_nil)) (dg_name sc_law_beside.nd rfl (by first | exact Or.inl rfl | exact Or.inr rfl)) (db_one (ds_expr (de_append (de_var 3) (de_call (ok_law_place T) (hr.mono (by decide)) T.g_law_place T.F_law_place.kp T.b_law_place fn_tk (da_cons (de_var 0) (da_cons (de_call (ok_law_join T) (hr.mono (by decide)) T.g_law_join T.F_law_join.kp T.b_law_join fn_tk (da_cons (de_call (ok_law_place_row T) (hr.mono (by decide)) T.g_law_place_row T.F_law_place_row.kp T.b_law_place_row fn_tk (da_cons (de_var 2) da_nil)) (da_cons (de_lst (da_cons (de_var 5) (da_cons (de_var 4) (da_cons de_int da_nil)))) da_nil))) da_nil)))))))))
  (db_one (ds_ret (de_var 3)))))
theorem ok_law_draw (T : Tx K mg A) : FnOk P w K mg base (L2N.CX P w) 1 A.a_law_draw A.d_law_draw ["_law_flow_here", "_law_size"] (spF (Gx K A) 2 m_law_draw) := by
  refine fn_ok false T.F_law_draw sc_law_draw (fun cdv A1 outer s1 H1 E1 hr => ?_)
  exact (db_cons (ds_if (dt_cmp do_gt (de_ix (de_var 0) de_int) de_int) (db_cons (ds_set (i := 2) sc_law_draw.nd (de_op do_mod (de_ix (de_var 0) de_int) (de_var 1)))
  (db_cons (ds_asg (de_op do_div (de_ix (de_var 0) de_int) (de_var 1)) (dg_sub (de_var 0) de_int))
  (db_one (ds_ret (de_var 2))))) db_nil)
  (db_cons (ds_set (i := 3) sc_law_draw.nd de_int)
  (db_cons (ds_if (dt_cmp do_lt (de_ix (de_var 0) de_int) (de_callB (dc_len) rfl T.z_len boot_len (da_cons (de_ix (de_var 0) de_int) da_nil))) (db_one (ds_set (i := 3) sc_law_draw.nd (de_ix (de_ix (de_var 0) de_int) (de_ix (de_var 0) de_int)))) db_nil)
  (db_cons (ds_asg (de_op do_add (de_ix (de_var 0) de_int) de_int) (dg_sub (de_var 0) de_int))
  (db_cons (ds_if (dt_cmp do_ge (de_callB (dc_abs) rfl T.z_abs boot_abs (da_cons (de_var 3) da_nil)) (de_op do_pow de_int de_int)) (db_cons (ds_asg (de_op do_div (de_callB (dc_abs) rfl T.z_abs boot_abs (da_cons (de_var 3) da_nil)) (de_var 1)) (dg_sub (de_var 0) de_int))
  (db_one (ds_ret (de_op do_mod (de_callB (dc_abs) rfl T.z_abs boot_abs (da_cons (de_var 3) da_nil)) (de_var 1))))) db_nil)
  (db_cons (ds_set (i := 4) sc_law_draw.nd (de_op do_add (de_op do_add (de_op do_pow (de_ix (de_var 0) de_int) de_int) (de_op do_mul (de_ix (de_var 0) de_int) de_int)) (de_op do_mul (de_ix (de_var 0) de_int) de_int)))
  (db_cons (ds_set (i := 4) sc_law_draw.nd (de_op do_mod (de_op do_add (de_var 4) (de_op do_mul (de_op do_mod (de_var 3) de_int) de_int)) de_int))
  (db_cons (ds_asg (de_var 4) (dg_sub (de_var 0) de_int))
  (db_one (ds_ret (de_op do_mod (de_op do_add (de_op do_div (de_var 4) de_int) (de_op do_mul (de_op do_mod (de_var 4) de_int) de_int)) (de_var 1))))))))))))
theorem ok_law_names (T : Tx K mg A) : FnOk P w K mg base (L2N.CX P w) 2 A.a_law_names A.d_law_names ["_law_flow_here", "_law_many"] (spF (Gx K A) 2 m_law_names) := by
  refine fn_ok false T.F_law_names sc_law_names (fun cdv A1 outer s1 H1 E1 hr => ?_)
  exact (db_cons (ds_set (i := 2) sc_law_names.nd (de_lstR (da_cons de_str (da_cons de_str (da_cons de_str (da_cons de_str (da_cons de_str (da_cons de_str (da_cons de_str (da_cons de_str (da_cons de_str (da_cons de_str (da_cons de_str (da_cons de_str (da_cons de_str da_nil)))))))))))))))
  (db_cons (ds_set (i := 2) sc_law_names.nd (de_op do_addR (de_var 2) (de_lst (da_cons de_str (da_cons de_str da_nil)))))
  (db_cons (ds_set (i := 3) sc_law_names.nd (de_lstR da_nil))
  (db_cons (ds_for fn_po (di_range1 T.z_range (da_cons (de_var 1) da_nil)) (dg_name sc_law_names.nd rfl (by first | exact Or.inl rfl | exact Or.inr rfl)) (db_one (ds_expr (de_append (de_var 3) (de_pop1 (de_var 2) (de_call (ok_law_draw T) (hr.mono (by decide)) T.g_law_draw T.F_law_draw.kp T.b_law_draw fn_tk (da_cons (de_var 0) (da_cons (de_callB (dc_len) rfl T.z_len boot_len (da_cons (de_var 2) da_nil)) da_nil))))))))
  (db_one (ds_ret (de_var 3)))))))
theorem ok_law_pick (T : Tx K mg A) : FnOk P w K mg base (L2N.CX P w) 2 A.a_law_pick A.d_law_pick ["_law_flow_here", "_law_lot"] (spF (Gx K A) 2 m_law_pick) := by
  refine fn_ok false T.F_law_pick sc_law_pick (fun cdv A1 outer s1 H1 E1 hr => ?_)
  exact (db_one (ds_ret (de_ix (de_var 1) (de_call (ok_law_draw T) (hr.mono (by decide)) T.g_law_draw T.F_law_draw.kp T.b_law_draw fn_tk (da_cons (de_var 0) (da_cons (de_callB (dc_len) rfl T.z_len boot_len (da_cons (de_var 1) da_nil)) da_nil))))))
theorem ok_law_number (T : Tx K mg A) : FnOk P w K mg base (L2N.CX P w) 3 A.a_law_number A.d_law_number ["_law_flow_here", "_law_most_now"] (spF (Gx K A) 2 m_law_number) := by
  refine fn_ok false T.F_law_number sc_law_number (fun cdv A1 outer s1 H1 E1 hr => ?_)
  exact (db_cons (ds_set (i := 2) sc_law_number.nd (de_call (ok_law_draw T) (hr.mono (by decide)) T.g_law_draw T.F_law_draw.kp T.b_law_draw fn_tk (da_cons (de_var 0) (da_cons de_int da_nil))))
  (db_cons (ds_if (dt_cmp (do_eq hr.units) (de_var 2) de_int) (db_one (ds_ret (de_call (ok_law_pick T) (hr.mono (by decide)) T.g_law_pick T.F_law_pick.kp T.b_law_pick fn_tk (da_cons (de_var 0) (da_cons (de_lst (da_cons de_int (da_cons (de_neg de_int) da_nil))) da_nil))))) db_nil)
  (db_one (ds_ret (de_op do_mul (de_call (ok_law_pick T) (hr.mono (by decide)) T.g_law_pick T.F_law_pick.kp T.b_law_pick fn_tk (da_cons (de_var 0) (da_cons (de_lst (da_cons de_int (da_cons de_int (da_cons (de_neg de_int) da_nil)))) da_nil))) (de_op do_add de_int (de_call (ok_law_draw T) (hr.mono (by decide)) T.g_law_draw T.F_law_draw.kp T.b_law_draw fn_tk (da_cons (de_var 0) (da_cons (de_var 1) da_nil)))))))))
theorem ok_law_drawn_web (T : Tx K mg A) : FnOk P w K mg base (L2N.CX P w) 4 A.a_law_drawn_web A.d_law_drawn_web ["_law_flow_here", "_law_many", "_law_more", "_law_most_now"] (spF (Gx K A) 4 m_law_drawn_web) := by
  refine fn_ok false T.F_law_drawn_web sc_law_drawn_web (fun cdv A1 outer s1 H1 E1 hr => ?_)
  exact (db_cons (ds_set (i := 4) sc_law_drawn_web.nd (de_call (ok_law_names T) (hr.mono (by decide)) T.g_law_names T.F_law_names.kp T.b_law_names fn_tk (da_cons (de_var 0) (da_cons (de_op do_add (de_var 1) (de_var 2)) da_nil))))
  (db_cons (ds_set (i := 5) sc_law_drawn_web.nd (de_dd (dd_cons (de_sl (de_var 4) dp_none (dp_some (de_var 1))) (dd_cons (de_lstR da_nil) dd_nil))))
  (db_cons (ds_for fn_po (di_range1 T.z_range (da_cons (de_var 2) da_nil)) (dg_name sc_law_drawn_web.nd rfl (by first | exact Or.inl rfl | exact Or.inr rfl)) (db_cons (ds_set (i := 7) sc_law_drawn_web.nd (de_call (ok_law_pick T) (hr.mono (by decide)) T.g_law_pick T.F_law_pick.kp T.b_law_pick fn_tk (da_cons (de_var 0) (da_cons (de_getS hr.units (de_var 5) (fun _ _ => rfl)) da_nil))))
  (db_cons (ds_set (i := 8) sc_law_drawn_web.nd (de_call (ok_law_pick T) (hr.mono (by decide)) T.g_law_pick T.F_law_pick.kp T.b_law_pick fn_tk (da_cons (de_var 0) (da_cons (de_getS hr.units (de_var 5) (fun _ _ => rfl)) da_nil))))
  (db_cons (ds_if (dt_cmp do_lt (de_op do_add (de_var 6) de_int) (de_var 1)) (db_one (ds_par (i := 7) (j := 8) sc_law_drawn_web.nd (da_cons (de_ix (de_getS hr.units (de_var 5) (fun _ _ => rfl)) (de_var 6)) (da_cons (de_ix (de_getS hr.units (de_var 5) (fun _ _ => rfl)) (de_op do_add (de_var 6) de_int)) da_nil)))) db_nil)
  (db_cons (ds_set (i := 9) sc_law_drawn_web.nd (de_tup (da_cons (de_ix (de_var 4) (de_op do_add (de_var 1) (de_var 6))) (da_cons (de_var 7) (da_cons (de_var 8) (da_cons (de_call (ok_law_number T) (hr.mono (by decide)) T.g_law_number T.F_law_number.kp T.b_law_number fn_tk (da_cons (de_var 0) (da_cons (de_var 3) da_nil))) da_nil))))))
  (db_one (ds_expr (de_append (de_getS hr.units (de_var 5) (fun _ _ => rfl)) (de_op do_add (de_var 9) (de_tup (da_cons (de_call (ok_law_number T) (hr.mono (by decide)) T.g_law_number T.F_law_number.kp T.b_law_number fn_tk (da_cons (de_var 0) (da_cons (de_var 3) da_nil))) da_nil)))))))))))
  (db_one (ds_ret (de_var 5))))))
theorem ok_law_flow (T : Tx K mg A) : FnOk P w K mg base (L2N.CX P w) 1 A.a_law_flow A.d_law_flow ["_law_script"] (spF (Gx K A) 1 m_law_flow) := by
  refine fn_ok true T.F_law_flow sc_law_flow (fun cdv A1 outer s1 H1 E1 hr => ?_)
  exact (db_one (ds_ret (de_lstR (da_cons (de_callTy (dc_list) rfl T.z_list boot_list (da_cons (de_sl (de_var 0) dp_none (dp_some de_int)) da_nil)) (da_cons de_int (da_cons de_int (da_cons de_int da_nil)))))))
theorem ok_law_same (T : Tx K mg A) (n : Nat) : FnOk P w K mg base (L2N.CX P w) (n + 1) A.a_law_same A.d_law_same ["_law_found", "_law_due"] (spF (Gx K A) 2 (m_law_same n)) := by
  induction n with
  | zero => exact fn_stuck
  | succ n rc =>
    have hk : n + 1 ≤ n + 1 := Nat.le_refl _
    refine fn_ok false T.F_law_same sc_law_same (fun cdv A1 outer s1 H1 E1 hr => ?_)
    exact (db_cons (ds_if (dt_truth (de_callB (dc_isi T.isi) rfl T.z_isinstance boot_isinstance (da_cons (de_var 1) (da_cons (de_ty rfl T.z_bool boot_bool) da_nil)))) (db_one (ds_ret (de_and (de_callB (dc_isi T.isi) rfl T.z_isinstance boot_isinstance (da_cons (de_var 0) (da_cons (de_ty rfl T.z_bool boot_bool) da_nil))) (de_one (de_cmp (do_eq hr.units) (de_var 0) (de_var 1)))))) db_nil)
  (db_cons (ds_if (dt_cmp do_is (de_var 1) de_non) (db_one (ds_ret (de_cmp do_is (de_var 0) de_non))) db_nil)
  (db_cons (ds_if (dt_truth (de_callB (dc_isi T.isi) rfl T.z_isinstance boot_isinstance (da_cons (de_var 1) (da_cons (de_ty rfl T.z_int boot_int) da_nil)))) (db_one (ds_ret (de_and (de_callB (dc_isi T.isi) rfl T.z_isinstance boot_isinstance (da_cons (de_var 0) (da_cons (de_ty rfl T.z_int boot_int) da_nil))) (de_and (de_not (de_callB (dc_isi T.isi) rfl T.z_isinstance boot_isinstance (da_cons (de_var 0) (da_cons (de_ty rfl T.z_bool boot_bool) da_nil)))) (de_one (de_cmp (do_eq hr.units) (de_var 0) (de_var 1))))))) db_nil)
  (db_cons (ds_if (dt_truth (de_callB (dc_isi T.isi) rfl T.z_isinstance boot_isinstance (da_cons (de_var 1) (da_cons (de_ty rfl T.z_str boot_str) da_nil)))) (db_one (ds_ret (de_and (de_callB (dc_isi T.isi) rfl T.z_isinstance boot_isinstance (da_cons (de_var 0) (da_cons (de_ty rfl T.z_str boot_str) da_nil))) (de_one (de_cmp (do_eq hr.units) (de_var 0) (de_var 1)))))) db_nil)
  (db_cons (ds_if (dt_w (dw_or (dt_cmp (do_ne hr.units) (de_callB (dc_isi T.isi) rfl T.z_isinstance boot_isinstance (da_cons (de_var 1) (da_cons (de_ty rfl T.z_tuple boot_tuple) da_nil))) (de_callB (dc_isi T.isi) rfl T.z_isinstance boot_isinstance (da_cons (de_var 0) (da_cons (de_ty rfl T.z_tuple boot_tuple) da_nil)))) (dw_or1 (dt_cmp (do_ne hr.units) (de_callB (dc_isi T.isi) rfl T.z_isinstance boot_isinstance (da_cons (de_var 1) (da_cons (de_ty rfl T.z_list boot_list) da_nil))) (de_callB (dc_isi T.isi) rfl T.z_isinstance boot_isinstance (da_cons (de_var 0) (da_cons (de_ty rfl T.z_list boot_list) da_nil))))))) (db_one (ds_ret de_bl)) db_nil)
  (db_cons (ds_if (dt_w (dw_or (dt_not (dt_truth (de_callB (dc_isi T.isi) rfl T.z_isinstance boot_isinstance (da_cons (de_var 0) (da_cons (de_tup (da_cons (de_ty rfl T.z_tuple boot_tuple) (da_cons (de_ty rfl T.z_list boot_list) da_nil))) da_nil))))) (dw_or1 (dt_cmp (do_ne hr.units) (de_callB (dc_len) rfl T.z_len boot_len (da_cons (de_var 0) da_nil)) (de_callB (dc_len) rfl T.z_len boot_len (da_cons (de_var 1) da_nil)))))) (db_one (ds_ret de_bl)) db_nil)
  (db_one (ds_ret (de_callB (dc_all) rfl T.z_all boot_all (da_cons (de_lc [("_law_k", 2)] sc_law_same.nd (di_range1 T.z_range (da_cons (de_callB (dc_len) rfl T.z_len boot_len (da_cons (de_var 1) da_nil)) da_nil)) (blkOk_by (own := [("_law_k", 2)]) (N := ["_law_found", "_law_due", "_law_k"]) (sc := defScope s_law_same) (by decide +kernel)) (fun _ _ _ _ _ => (dgw_name sc_law_same.nd rfl (by first | exact Or.inl rfl | exact Or.inr rfl))) (fun _ _ _ _ _ => dts_nil) (fun _ _ _ _ _ => (de_call rc (hr.mono hk) T.g_law_same T.F_law_same.kp T.b_law_same takes0N (da_cons (de_ix (de_var 0) (de_var 2)) (da_cons (de_ix (de_var 1) (de_var 2)) da_nil))))) da_nil))))))))))
theorem ok_law_turns (T : Tx K mg A) : FnOk P w K mg base (L2N.CX P w) 3 A.a_law_turns A.d_law_turns ["_law_flow_here", "_law_far_now"] (spF (Gx K A) 2 m_law_turns) := by
  refine fn_ok false T.F_law_turns sc_law_turns (fun cdv A1 outer s1 H1 E1 hr => ?_)
  exact (db_one (ds_ret (de_op do_sub (de_op do_add (de_op do_mul (de_call (ok_law_pick T) (hr.mono (by decide)) T.g_law_pick T.F_law_pick.kp T.b_law_pick fn_tk (da_cons (de_var 0) (da_cons (de_lst (da_cons de_int (da_cons de_int (da_cons de_int (da_cons (de_neg de_int) da_nil))))) da_nil))) (de_call (ok_law_draw T) (hr.mono (by decide)) T.g_law_draw T.F_law_draw.kp T.b_law_draw fn_tk (da_cons (de_var 0) (da_cons de_int da_nil)))) (de_call (ok_law_draw T) (hr.mono (by decide)) T.g_law_draw T.F_law_draw.kp T.b_law_draw fn_tk (da_cons (de_var 0) (da_cons (de_op do_add (de_op do_mul de_int (de_var 1)) de_int) da_nil)))) (de_var 1))))
theorem ok_law_drawn_row (T : Tx K mg A) : FnOk P w K mg base (L2N.CX P w) 4 A.a_law_drawn_row A.d_law_drawn_row ["_law_flow_here", "_law_m", "_law_start", "_law_many", "_law_far_now"] (spF (Gx K A) 5 m_law_drawn_row) := by
  refine fn_ok false T.F_law_drawn_row sc_law_drawn_row (fun cdv A1 outer s1 H1 E1 hr => ?_)
  exact (db_cons (ds_set (i := 5) sc_law_drawn_row.nd (de_var 2))
  (db_cons (ds_set (i := 6) sc_law_drawn_row.nd (de_lstR (da_cons (de_call (ok_law_turns T) (hr.mono (by decide)) T.g_law_turns T.F_law_turns.kp T.b_law_turns fn_tk (da_cons (de_var 0) (da_cons (de_var 4) da_nil))) da_nil)))
  (db_cons (ds_for fn_po (di_range1 T.z_range (da_cons (de_var 3) da_nil)) (dg_name sc_law_drawn_row.nd rfl (by first | exact Or.inl rfl | exact Or.inr rfl)) (db_cons (ds_set (i := 8) sc_law_drawn_row.nd (de_call (ok_law_steps_from T) (hr.mono (by decide)) T.g_law_steps_from T.F_law_steps_from.kp T.b_law_steps_from fn_tk (da_cons (de_var 1) (da_cons (de_var 5) da_nil))))
  (db_one (ds_if (dt_cmp (do_ne hr.units) (de_var 8) (de_lst da_nil)) (db_cons (ds_set (i := 9) sc_law_drawn_row.nd (de_call (ok_law_pick T) (hr.mono (by decide)) T.g_law_pick T.F_law_pick.kp T.b_law_pick fn_tk (da_cons (de_var 0) (da_cons (de_var 8) da_nil))))
  (db_cons (ds_if (dt_w (dw_and (dt_cmp do_gt (de_callB (dc_len) rfl T.z_len boot_len (da_cons (de_var 6) da_nil)) de_int) (dw_and1 (dt_cmp (do_eq hr.units) (de_call (ok_law_draw T) (hr.mono (by decide)) T.g_law_draw T.F_law_draw.kp T.b_law_draw fn_tk (da_cons (de_var 0) (da_cons de_int da_nil))) de_int)))) (db_cons (ds_set (i := 9) sc_law_drawn_row.nd (de_call (ok_law_undone T) (hr.mono (by decide)) T.g_law_undone T.F_law_undone.kp T.b_law_undone fn_tk (da_cons (de_ix (de_var 6) (de_neg de_int)) da_nil)))
  (db_one (ds_asg (de_op do_mul (de_ix (de_call (ok_law_rule T) (hr.mono (by decide)) T.g_law_rule T.F_law_rule.kp T.b_law_rule fn_tk (da_cons (de_var 1) (da_cons (de_var 9) da_nil))) de_int) (de_op do_sub (de_call (ok_law_draw T) (hr.mono (by decide)) T.g_law_draw T.F_law_draw.kp T.b_law_draw fn_tk (da_cons (de_var 0) (da_cons de_int da_nil))) de_int)) (dg_sub (de_var 6) (de_neg de_int))))) db_nil)
  (db_cons (ds_set (i := 5) sc_law_drawn_row.nd (de_ix (de_call (ok_law_ends T) (hr.mono (by decide)) T.g_law_ends T.F_law_ends.kp T.b_law_ends fn_tk (da_cons (de_var 1) (da_cons (de_var 9) da_nil))) de_int))
  (db_one (ds_set (i := 6) sc_law_drawn_row.nd (de_op do_addR (de_var 6) (de_lst (da_cons (de_var 9) (da_cons (de_call (ok_law_turns T) (hr.mono (by decide)) T.g_law_turns T.F_law_turns.kp T.b_law_turns fn_tk (da_cons (de_var 0) (da_cons (de_var 4) da_nil))) da_nil))))))))) db_nil))))
  (db_one (ds_ret (de_var 6))))))
theorem ok_law_some_place (T : Tx K mg A) : FnOk P w K mg base (L2N.CX P w) 5 A.a_law_some_place A.d_law_some_place ["_law_flow_here", "_law_m", "_law_root", "_law_most_now"] (spF (Gx K A) 4 m_law_some_place) := by
  refine fn_ok false T.F_law_some_place sc_law_some_place (fun cdv A1 outer s1 H1 E1 hr => ?_)
  exact (db_one (ds_ret (de_call (ok_law_place T) (hr.mono (by decide)) T.g_law_place T.F_law_place.kp T.b_law_place fn_tk (da_cons (de_var 1) (da_cons (de_call (ok_law_drawn_row T) (hr.mono (by decide)) T.g_law_drawn_row T.F_law_drawn_row.kp T.b_law_drawn_row fn_tk (da_cons (de_var 0) (da_cons (de_var 1) (da_cons (de_var 2) (da_cons (de_call (ok_law_draw T) (hr.mono (by decide)) T.g_law_draw T.F_law_draw.kp T.b_law_draw fn_tk (da_cons (de_var 0) (da_cons (de_op do_add (de_var 3) de_int) da_nil))) (da_cons de_int da_nil)))))) da_nil)))))
theorem ok_Web_dinit (T : Tx K mg A) : FnOk P w K mg base (L2N.CX P w) 1 A.a_Web_dinit A.d_Web_dinit ["self"] (spF (Gx K A) 1 m_Web_dinit) := by
  refine fn_ok false T.F_Web_dinit sc_Web_dinit (fun cdv A1 outer s1 H1 E1 hr => ?_)
  exact (db_cons (ds_fld ["Web"] T.isi (de_var 0) (de_tup da_nil) T.no_places)
  (db_one (ds_fld ["Web"] T.isi (de_var 0) (de_tup da_nil) T.no_roads)))
theorem ok_is_name (T : Tx K mg A) : FnOk P w K mg base (L2N.CX P w) 1 A.a_is_name A.d_is_name ["text"] (spF (Gx K A) 1 m_is_name) := by
  refine fn_ok false T.F_is_name sc_is_name (fun cdv A1 outer s1 H1 E1 hr => ?_)
  exact (db_one (ds_ret (de_and (de_chain do_le do_le de_int (de_callB (dc_len) rfl T.z_len boot_len (da_cons (de_var 0) da_nil)) (de_gintE rfl T.c_LONGEST_NAME)) (de_one (de_callB (dc_all) rfl T.z_all boot_all (da_cons (de_lc [("sign", 1)] sc_is_name.nd (di_str (de_var 0)) (blkOk_by (own := [("sign", 1)]) (N := ["text", "sign"]) (sc := defScope s_is_name) (by decide +kernel)) (fun _ _ _ _ _ => (dgw_name sc_is_name.nd rfl (by first | exact Or.inl rfl | exact Or.inr rfl))) (fun _ _ _ _ _ => dts_nil) (fun _ _ _ _ _ => (de_cmp do_in (de_var 1) (de_gstrE rfl T.c_LETTERS)))) da_nil))))))
theorem ok_Web_need_new (T : Tx K mg A) : FnOk P w K mg base (L2N.CX P w) 2 A.a_Web_need_new A.d_Web_need_new ["self", "name"] (spF (Gx K A) 2 m_Web_need_new) := by
  refine fn_ok false T.F_Web_need_new sc_Web_need_new (fun cdv A1 outer s1 H1 E1 hr => ?_)
  exact (db_cons (ds_if (dt_not (dt_truth (de_call (ok_is_name T) (hr.mono (by decide)) T.g_is_name T.F_is_name.kp T.b_is_name fn_tk (da_cons (de_var 1) da_nil)))) (db_one ds_stop) db_nil)
  (db_one (ds_if (dt_w (dw_or (dt_cmp do_in (de_var 1) (de_fld ["Web"] T.isi (de_var 0) T.no_places)) (dw_or1 (dt_cmp do_in (de_var 1) (de_lc [("road", 2)] sc_Web_need_new.nd (di_seq (de_fld ["Web"] T.isi (de_var 0) T.no_roads)) (blkOk_by (own := [("road", 2)]) (N := ["self", "name", "road"]) (sc := defScope s_Web_need_new) (by decide +kernel)) (fun _ _ _ _ _ => (dgw_name sc_Web_need_new.nd rfl (by first | exact Or.inl rfl | exact Or.inr rfl))) (fun _ _ _ _ _ => dts_nil) (fun _ _ _ _ _ => (de_ix (de_var 2) de_int))))))) (db_one ds_stop) db_nil)))
theorem ok_Web_need_yard (T : Tx K mg A) : FnOk P w K mg base (L2N.CX P w) 1 A.a_Web_need_yard A.d_Web_need_yard ["self", "name"] (spF (Gx K A) 2 m_Web_need_yard) := by
  refine fn_ok false T.F_Web_need_yard sc_Web_need_yard (fun cdv A1 outer s1 H1 E1 hr => ?_)
  exact (db_one (ds_if (dt_cmp do_notIn (de_var 1) (de_fld ["Web"] T.isi (de_var 0) T.no_places)) (db_one ds_stop) db_nil))
theorem ok_Web_turned (T : Tx K mg A) : FnOk P w K mg base (L2N.CX P w) 3 A.a_Web_turned A.d_Web_turned ["self", "places", "roads"] (spF (Gx K A) 3 m_Web_turned) := by
  refine fn_ok false T.F_Web_turned sc_Web_turned (fun cdv A1 outer s1 H1 E1 hr => ?_)
  exact (db_cons (ds_set (i := 3) sc_Web_turned.nd (de_make0 (c := "Web") rfl T.mk_Web (ok_Web_dinit T) (hr.mono (by decide)) T.b_Web_dinit fn_tk T.g_Web))
  (db_cons (ds_asg (de_tup (da_cons (de_callTy (dc_tuple) rfl T.z_tuple boot_tuple (da_cons (de_var 1) da_nil)) (da_cons (de_callTy (dc_tuple) rfl T.z_tuple boot_tuple (da_cons (de_var 2) da_nil)) da_nil))) (dg_tup (dgs_cons (dg_fld ["Web"] T.isi (de_var 3) T.no_places) (dgs_cons (dg_fld ["Web"] T.isi (de_var 3) T.no_roads) dgs_nil))))
  (db_one (ds_ret (de_var 3)))))
theorem ok_is_whole (T : Tx K mg A) : FnOk P w K mg base (L2N.CX P w) 1 A.a_is_whole A.d_is_whole ["thing", "low", "high"] (spF (Gx K A) 3 m_is_whole) := by
  refine fn_ok false T.F_is_whole sc_is_whole (fun cdv A1 outer s1 H1 E1 hr => ?_)
  exact (db_one (ds_ret (de_and (de_callB (dc_isi T.isi) rfl T.z_isinstance boot_isinstance (da_cons (de_var 0) (da_cons (de_ty rfl T.z_int boot_int) da_nil))) (de_and (de_not (de_callB (dc_isi T.isi) rfl T.z_isinstance boot_isinstance (da_cons (de_var 0) (da_cons (de_ty rfl T.z_bool boot_bool) da_nil)))) (de_one (de_chain do_le do_le (de_var 1) (de_var 0) (de_var 2)))))))
theorem ok_need_turns (T : Tx K mg A) : FnOk P w K mg base (L2N.CX P w) 2 A.a_need_turns A.d_need_turns ["number"] (spF (Gx K A) 1 m_need_turns) := by
  refine fn_ok false T.F_need_turns sc_need_turns (fun cdv A1 outer s1 H1 E1 hr => ?_)
  exact (db_one (ds_if (dt_w (dw_or (dt_cmp (do_eq hr.units) (de_var 0) de_int) (dw_or1 (dt_not (dt_truth (de_call (ok_is_whole T) (hr.mono (by decide)) T.g_is_whole T.F_is_whole.kp T.b_is_whole fn_tk (da_cons (de_var 0) (da_cons (de_op do_sub de_int (de_gintE rfl T.c_MOST_TURNS)) (da_cons (de_gintE rfl T.c_MOST_TURNS) da_nil))))))))) (db_one ds_stop) db_nil))
theorem ok_Web_with_passage (T : Tx K mg A) : FnOk P w K mg base (L2N.CX P w) 4 A.a_Web_with_passage A.d_Web_with_passage ["self", "name", "begin", "end", "here", "there"] (spF (Gx K A) 6 m_Web_with_passage) := by
  refine fn_ok false T.F_Web_with_passage sc_Web_with_passage (fun cdv A1 outer s1 H1 E1 hr => ?_)
  exact (db_cons (ds_expr (de_meth (c := "Web") T.isi rfl (de_var 0) (da_cons (de_var 1) da_nil) T.me_Web_need_new (ok_Web_need_new T) (hr.mono (by decide)) T.b_Web_need_new fn_tk))
  (db_cons (ds_for fn_po (di_seq (de_tup (da_cons (de_var 2) (da_cons (de_var 3) da_nil)))) (dg_name sc_Web_with_passage.nd rfl (by first | exact Or.inl rfl | exact Or.inr rfl)) (db_one (ds_expr (de_meth (c := "Web") T.isi rfl (de_var 0) (da_cons (de_var 6) da_nil) T.me_Web_need_yard (ok_Web_need_yard T) (hr.mono (by decide)) T.b_Web_need_yard fn_tk))))
  (db_cons (ds_for fn_po (di_seq (de_tup (da_cons (de_var 4) (da_cons (de_var 5) da_nil)))) (dg_name sc_Web_with_passage.nd rfl (by first | exact Or.inl rfl | exact Or.inr rfl)) (db_one (ds_expr (de_call (ok_need_turns T) (hr.mono (by decide)) T.g_need_turns T.F_need_turns.kp T.b_need_turns fn_tk (da_cons (de_var 7) da_nil)))))
  (db_cons (ds_if (dt_cmp do_ge (de_callB (dc_len) rfl T.z_len boot_len (da_cons (de_fld ["Web"] T.isi (de_var 0) T.no_roads) da_nil)) (de_gintE rfl T.c_MOST_PASSAGES)) (db_one ds_stop) db_nil)
  (db_one (ds_ret (de_meth (c := "Web") T.isi rfl (de_var 0) (da_cons (de_fld ["Web"] T.isi (de_var 0) T.no_places) (da_cons (de_op do_add (de_fld ["Web"] T.isi (de_var 0) T.no_roads) (de_tup (da_cons (de_tup (da_cons (de_var 1) (da_cons (de_var 2) (da_cons (de_var 3) (da_cons (de_var 4) (da_cons (de_var 5) da_nil)))))) da_nil))) da_nil)) T.me_Web_turned (ok_Web_turned T) (hr.mono (by decide)) T.b_Web_turned fn_tk)))))))
theorem ok_Web_with_yard (T : Tx K mg A) : FnOk P w K mg base (L2N.CX P w) 4 A.a_Web_with_yard A.d_Web_with_yard ["self", "name"] (spF (Gx K A) 2 m_Web_with_yard) := by
  refine fn_ok false T.F_Web_with_yard sc_Web_with_yard (fun cdv A1 outer s1 H1 E1 hr => ?_)
  exact (db_cons (ds_expr (de_meth (c := "Web") T.isi rfl (de_var 0) (da_cons (de_var 1) da_nil) T.me_Web_need_new (ok_Web_need_new T) (hr.mono (by decide)) T.b_Web_need_new fn_tk))
  (db_cons (ds_if (dt_cmp do_ge (de_callB (dc_len) rfl T.z_len boot_len (da_cons (de_fld ["Web"] T.isi (de_var 0) T.no_places) da_nil)) (de_gintE rfl T.c_MOST_YARDS)) (db_one ds_stop) db_nil)
  (db_one (ds_ret (de_meth (c := "Web") T.isi rfl (de_var 0) (da_cons (de_op do_add (de_fld ["Web"] T.isi (de_var 0) T.no_places) (de_tup (da_cons (de_var 1) da_nil))) (da_cons (de_fld ["Web"] T.isi (de_var 0) T.no_roads) da_nil)) T.me_Web_turned (ok_Web_turned T) (hr.mono (by decide)) T.b_Web_turned fn_tk)))))
theorem ok_law_web (T : Tx K mg A) : FnOk P w K mg base (L2N.CX P w) 5 A.a_law_web A.d_law_web ["_law_m"] (spF (Gx K A) 1 m_law_web) := by
  refine fn_ok false T.F_law_web sc_law_web (fun cdv A1 outer s1 H1 E1 hr => ?_)
  exact (db_cons (ds_set (i := 1) sc_law_web.nd (de_fz (de_make0 (c := "Web") rfl T.mk_Web (ok_Web_dinit T) (hr.mono (by decide)) T.b_Web_dinit fn_tk T.g_Web)))
  (db_cons (ds_for fn_po (di_seq (de_getS hr.units (de_var 0) (fun _ _ => rfl))) (dg_name sc_law_web.nd rfl (by first | exact Or.inl rfl | exact Or.inr rfl)) (db_one (ds_set (i := 1) sc_law_web.nd (de_meth (c := "Web") T.isi rfl (de_var 1) (da_cons (de_var 2) da_nil) T.me_Web_with_yard (ok_Web_with_yard T) (hr.mono (by decide)) T.b_Web_with_yard fn_tk))))
  (db_cons (ds_for fn_po (di_seq (de_getS hr.units (de_var 0) (fun _ _ => rfl))) (dg_tup (dgs_cons (dg_name sc_law_web.nd rfl (by first | exact Or.inl rfl | exact Or.inr rfl)) (dgs_cons (dg_name sc_law_web.nd rfl (by first | exact Or.inl rfl | exact Or.inr rfl)) (dgs_cons (dg_name sc_law_web.nd rfl (by first | exact Or.inl rfl | exact Or.inr rfl)) (dgs_cons (dg_name sc_law_web.nd rfl (by first | exact Or.inl rfl | exact Or.inr rfl)) (dgs_cons (dg_name sc_law_web.nd rfl (by first | exact Or.inl rfl | exact Or.inr rfl)) dgs_nil)))))) (db_one (ds_set (i := 1) sc_law_web.nd (de_methK (is := [1, 0]) (c := "Web") T.isi rfl (de_var 1) (da_cons (de_var 3) (da_cons (de_var 4) (da_cons (de_var 5) da_nil))) (dk_cons (de_var 7) (dk_cons (de_var 6) dk_nil)) T.me_Web_with_passage (ok_Web_with_passage T) (hr.mono (by decide)) T.kb0_Web_with_passage fn_tk))))
  (db_one (ds_ret (de_var 1))))))
theorem ok_Web_road_of (T : Tx K mg A) : FnOk P w K mg base (L2N.CX P w) 1 A.a_Web_road_of A.d_Web_road_of ["self", "name"] (spF (Gx K A) 2 m_Web_road_of) := by
  refine fn_ok false T.F_Web_road_of sc_Web_road_of (fun cdv A1 outer s1 H1 E1 hr => ?_)
  exact (db_cons (ds_for fn_po (di_seq (de_fld ["Web"] T.isi (de_var 0) T.no_roads)) (dg_name sc_Web_road_of.nd rfl (by first | exact Or.inl rfl | exact Or.inr rfl)) (db_one (ds_if (dt_cmp (do_eq hr.units) (de_ix (de_var 2) de_int) (de_var 1)) (db_one (ds_ret (de_var 2))) db_nil)))
  (db_one ds_stop))
theorem ok_Web_turned_so (T : Tx K mg A) : FnOk P w K mg base (L2N.CX P w) 2 A.a_Web_turned_so A.d_Web_turned_so ["self", "step", "at"] (spF (Gx K A) 3 m_Web_turned_so) := by
  refine fn_ok false T.F_Web_turned_so sc_Web_turned_so (fun cdv A1 outer s1 H1 E1 hr => ?_)
  exact (db_cons (ds_asg (de_var 1) (dg_tup (dgs_cons (dg_name sc_Web_turned_so.nd rfl (by first | exact Or.inl rfl | exact Or.inr rfl)) (dgs_cons (dg_name sc_Web_turned_so.nd rfl (by first | exact Or.inl rfl | exact Or.inr rfl)) dgs_nil))))
  (db_cons (ds_set (i := 5) sc_Web_turned_so.nd (de_meth (c := "Web") T.isi rfl (de_var 0) (da_cons (de_var 3) da_nil) T.me_Web_road_of (ok_Web_road_of T) (hr.mono (by decide)) T.b_Web_road_of fn_tk))
  (db_cons (ds_if (dt_cmp do_notIn (de_var 4) (de_tup (da_cons de_int (da_cons (de_neg de_int) da_nil)))) (db_one ds_stop) db_nil)
  (db_one (ds_ret (de_if (dt_cmp (do_eq hr.units) (de_var 4) de_int) (de_tup (da_cons (de_ix (de_var 5) (de_var 2)) (da_cons (de_ix (de_var 5) (de_op do_add (de_var 2) de_int)) da_nil))) (de_tup (da_cons (de_ix (de_var 5) (de_op do_add (de_var 2) de_int)) (da_cons (de_ix (de_var 5) (de_var 2)) da_nil)))))))))
theorem ok_Web_ends (T : Tx K mg A) : FnOk P w K mg base (L2N.CX P w) 3 A.a_Web_ends A.d_Web_ends ["self", "step"] (spF (Gx K A) 2 m_Web_ends) := by
  refine fn_ok false T.F_Web_ends sc_Web_ends (fun cdv A1 outer s1 H1 E1 hr => ?_)
  exact (db_one (ds_ret (de_meth (c := "Web") T.isi rfl (de_var 0) (da_cons (de_var 1) (da_cons de_int da_nil)) T.me_Web_turned_so (ok_Web_turned_so T) (hr.mono (by decide)) T.b_Web_turned_so fn_tk)))
theorem ok_Web_rule (T : Tx K mg A) : FnOk P w K mg base (L2N.CX P w) 3 A.a_Web_rule A.d_Web_rule ["self", "step"] (spF (Gx K A) 2 m_Web_rule) := by
  refine fn_ok false T.F_Web_rule sc_Web_rule (fun cdv A1 outer s1 H1 E1 hr => ?_)
  exact (db_one (ds_ret (de_meth (c := "Web") T.isi rfl (de_var 0) (da_cons (de_var 1) (da_cons de_int da_nil)) T.me_Web_turned_so (ok_Web_turned_so T) (hr.mono (by decide)) T.b_Web_turned_so fn_tk)))
theorem ok_rule_from (T : Tx K mg A) : FnOk P w K mg base (L2N.CX P w) 4 A.a_rule_from A.d_rule_from ["web", "yard", "step"] (spF (Gx K A) 3 m_rule_from) := by
  refine fn_ok false T.F_rule_from sc_rule_from (fun cdv A1 outer s1 H1 E1 hr => ?_)
  exact (db_cons (ds_tryN (db_one (ds_asg (de_meth (c := "Web") T.isi rfl (de_var 0) (da_cons (de_var 2) da_nil) T.me_Web_ends (ok_Web_ends T) (hr.mono (by decide)) T.b_Web_ends takes0N) (dg_tup (dgs_cons (dg_name sc_rule_from.nd rfl (by first | exact Or.inl rfl | exact Or.inr rfl)) (dgs_cons (dg_name sc_rule_from.nd rfl (by first | exact Or.inl rfl | exact Or.inr rfl)) dgs_nil))))))
  (db_one (ds_ret (de_if (dt_cmp (do_eq hr.units) (de_var 3) (de_var 1)) (de_tup (da_cons (de_ix (de_meth (c := "Web") T.isi rfl (de_var 0) (da_cons (de_var 2) da_nil) T.me_Web_rule (ok_Web_rule T) (hr.mono (by decide)) T.b_Web_rule fn_tk) de_int) (da_cons (de_var 4) da_nil))) de_non))))
theorem ok_undone (T : Tx K mg A) : FnOk P w K mg base (L2N.CX P w) 1 A.a_undone A.d_undone ["step"] (spF (Gx K A) 1 m_undone) := by
  refine fn_ok false T.F_undone sc_undone (fun cdv A1 outer s1 H1 E1 hr => ?_)
  exact (db_cons (ds_asg (de_var 0) (dg_tup (dgs_cons (dg_name sc_undone.nd rfl (by first | exact Or.inl rfl | exact Or.inr rfl)) (dgs_cons (dg_name sc_undone.nd rfl (by first | exact Or.inl rfl | exact Or.inr rfl)) dgs_nil))))
  (db_one (ds_ret (de_tup (da_cons (de_var 1) (da_cons (de_op do_sub de_int (de_var 2)) da_nil))))))
theorem ok_yard_of (T : Tx K mg A) : FnOk P w K mg base (L2N.CX P w) 5 A.a_yard_of A.d_yard_of ["web", "root", "place"] (spF (Gx K A) 3 m_yard_of) := by
  refine fn_ok false T.F_yard_of sc_yard_of (fun cdv A1 outer s1 H1 E1 hr => ?_)
  exact (db_cons (ds_expr (de_meth (c := "Web") T.isi rfl (de_var 0) (da_cons (de_var 1) da_nil) T.me_Web_need_yard (ok_Web_need_yard T) (hr.mono (by decide)) T.b_Web_need_yard fn_tk))
  (db_cons (ds_if (dt_cmp do_gt (de_callB (dc_len) rfl T.z_len boot_len (da_cons (de_var 2) da_nil)) (de_gintE rfl T.c_LONGEST)) (db_one ds_stop) db_nil)
  (db_cons (ds_par (i := 3) (j := 4) sc_yard_of.nd (da_cons (de_var 1) (da_cons de_non da_nil)))
  (db_cons (ds_for fn_po (di_seq (de_var 2)) (dg_tup (dgs_cons (dg_name sc_yard_of.nd rfl (by first | exact Or.inl rfl | exact Or.inr rfl)) (dgs_cons (dg_name sc_yard_of.nd rfl (by first | exact Or.inl rfl | exact Or.inr rfl)) dgs_nil))) (db_cons (ds_set (i := 7) sc_yard_of.nd (de_call (ok_rule_from T) (hr.mono (by decide)) T.g_rule_from T.F_rule_from.kp T.b_rule_from fn_tk (da_cons (de_var 0) (da_cons (de_var 3) (da_cons (de_var 6) da_nil)))))
  (db_cons (ds_if (dt_w (dw_or (dt_cmp do_is (de_var 7) de_non) (dw_or1 (dt_not (dt_truth (de_call (ok_is_whole T) (hr.mono (by decide)) T.g_is_whole T.F_is_whole.kp T.b_is_whole fn_tk (da_cons (de_var 5) (da_cons de_int (da_cons (de_op do_sub (de_callB (dc_abs) rfl T.z_abs boot_abs (da_cons (de_ix (de_var 7) de_int) da_nil)) de_int) da_nil))))))))) (db_one ds_stop) db_nil)
  (db_cons (ds_if (dt_w (dw_and (dt_cmp do_isNot (de_var 4) de_non) (dw_and (dt_cmp (do_eq hr.units) (de_var 5) de_int) (dw_and1 (dt_cmp (do_eq hr.units) (de_var 6) (de_call (ok_undone T) (hr.mono (by decide)) T.g_undone T.F_undone.kp T.b_undone fn_tk (da_cons (de_var 4) da_nil))))))) (db_one ds_stop) db_nil)
  (db_one (ds_par (i := 3) (j := 4) sc_yard_of.nd (da_cons (de_ix (de_var 7) de_int) (da_cons (de_var 6) da_nil))))))))
  (db_one (ds_ret (de_var 3)))))))
theorem ok_need_place (T : Tx K mg A) : FnOk P w K mg base (L2N.CX P w) 6 A.a_need_place A.d_need_place ["web", "root", "place"] (spF (Gx K A) 3 m_need_place) := by
  refine fn_ok false T.F_need_place sc_need_place (fun cdv A1 outer s1 H1 E1 hr => ?_)
  exact (db_one (ds_expr (de_call (ok_yard_of T) (hr.mono (by decide)) T.g_yard_of T.F_yard_of.kp T.b_yard_of fn_tk (da_cons (de_var 0) (da_cons (de_var 1) (da_cons (de_var 2) da_nil))))))
theorem ok_shared (T : Tx K mg A) : FnOk P w K mg base (L2N.CX P w) 1 A.a_shared A.d_shared ["one", "other"] (spF (Gx K A) 2 m_shared) := by
  refine fn_ok false T.F_shared sc_shared (fun cdv A1 outer s1 H1 E1 hr => ?_)
  exact (db_cons (ds_set (i := 2) sc_shared.nd de_int)
  (db_cons (ds_while (fun e S => 100000) fn_po (dt_w (dw_and (dt_cmp do_lt (de_var 2) (de_callB (dc_len) rfl T.z_len boot_len (da_cons (de_var 0) da_nil))) (dw_and (dt_cmp do_lt (de_var 2) (de_callB (dc_len) rfl T.z_len boot_len (da_cons (de_var 1) da_nil))) (dw_and1 (dt_cmp (do_eq hr.units) (de_ix (de_var 0) (de_var 2)) (de_ix (de_var 1) (de_var 2))))))) (db_one (ds_aug (i := 2) sc_shared.nd do_iadd de_int)))
  (db_one (ds_ret (de_var 2)))))
theorem ok_far (T : Tx K mg A) : FnOk P w K mg base (L2N.CX P w) 7 A.a_far A.d_far ["web", "root", "one", "other"] (spF (Gx K A) 4 m_far) := by
  refine fn_ok false T.F_far sc_far (fun cdv A1 outer s1 H1 E1 hr => ?_)
  exact (db_cons (ds_expr (de_call (ok_need_place T) (hr.mono (by decide)) T.g_need_place T.F_need_place.kp T.b_need_place fn_tk (da_cons (de_var 0) (da_cons (de_var 1) (da_cons (de_var 2) da_nil)))))
  (db_cons (ds_expr (de_call (ok_need_place T) (hr.mono (by decide)) T.g_need_place T.F_need_place.kp T.b_need_place fn_tk (da_cons (de_var 0) (da_cons (de_var 1) (da_cons (de_var 3) da_nil)))))
  (db_one (ds_ret (de_op do_sub (de_op do_add (de_callB (dc_len) rfl T.z_len boot_len (da_cons (de_var 2) da_nil)) (de_callB (dc_len) rfl T.z_len boot_len (da_cons (de_var 3) da_nil))) (de_op do_mul de_int (de_call (ok_shared T) (hr.mono (by decide)) T.g_shared T.F_shared.kp T.b_shared fn_tk (da_cons (de_var 2) (da_cons (de_var 3) da_nil)))))))))
theorem ok_Web_steps_from (T : Tx K mg A) : FnOk P w K mg base (L2N.CX P w) 2 A.a_Web_steps_from A.d_Web_steps_from ["self", "yard"] (spF (Gx K A) 2 m_Web_steps_from) := by
  refine fn_ok false T.F_Web_steps_from sc_Web_steps_from (fun cdv A1 outer s1 H1 E1 hr => ?_)
  exact (db_cons (ds_expr (de_meth (c := "Web") T.isi rfl (de_var 0) (da_cons (de_var 1) da_nil) T.me_Web_need_yard (ok_Web_need_yard T) (hr.mono (by decide)) T.b_Web_need_yard fn_tk))
  (db_cons (ds_set (i := 2) sc_Web_steps_from.nd (de_lstR da_nil))
  (db_cons (ds_for fn_po (di_seq (de_fld ["Web"] T.isi (de_var 0) T.no_roads)) (dg_star (n := 4) (i := 3) (dgs_cons (dg_name sc_Web_steps_from.nd rfl (by first | exact Or.inl rfl | exact Or.inr rfl)) (dgs_cons (dg_name sc_Web_steps_from.nd rfl (by first | exact Or.inl rfl | exact Or.inr rfl)) (dgs_cons (dg_name sc_Web_steps_from.nd rfl (by first | exact Or.inl rfl | exact Or.inr rfl)) (dgs_star (dg_name sc_Web_steps_from.nd rfl (by first | exact Or.inl rfl | exact Or.inr rfl)) dgs_nil))))) (db_cons (ds_if (dt_cmp (do_eq hr.units) (de_var 4) (de_var 1)) (db_one (ds_expr (de_append (de_var 2) (de_tup (da_cons (de_var 3) (da_cons de_int da_nil)))))) db_nil)
  (db_one (ds_if (dt_cmp (do_eq hr.units) (de_var 5) (de_var 1)) (db_one (ds_expr (de_append (de_var 2) (de_tup (da_cons (de_var 3) (da_cons (de_neg de_int) da_nil)))))) db_nil))))
  (db_one (ds_ret (de_var 2))))))
theorem ok_neighbours (T : Tx K mg A) : FnOk P w K mg base (L2N.CX P w) 6 A.a_neighbours A.d_neighbours ["web", "root", "place"] (spF (Gx K A) 3 m_neighbours) := by
  refine fn_ok true T.F_neighbours sc_neighbours (fun cdv A1 outer s1 H1 E1 hr => ?_)
  exact (db_cons (ds_set (i := 3) sc_neighbours.nd (de_lstR da_nil))
  (db_cons (ds_for fn_po (di_seq (de_meth (c := "Web") T.isi rfl (de_var 0) (da_cons (de_call (ok_yard_of T) (hr.mono (by decide)) T.g_yard_of T.F_yard_of.kp T.b_yard_of fn_tk (da_cons (de_var 0) (da_cons (de_var 1) (da_cons (de_var 2) da_nil)))) da_nil) T.me_Web_steps_from (ok_Web_steps_from T) (hr.mono (by decide)) T.b_Web_steps_from fn_tk)) (dg_name sc_neighbours.nd rfl (by first | exact Or.inl rfl | exact Or.inr rfl)) (db_one (ds_for fn_po (di_range1 T.z_range (da_cons (de_callB (dc_abs) rfl T.z_abs boot_abs (da_cons (de_ix (de_meth (c := "Web") T.isi rfl (de_var 0) (da_cons (de_var 4) da_nil) T.me_Web_rule (ok_Web_rule T) (hr.mono (by decide)) T.b_Web_rule fn_tk) de_int) da_nil)) da_nil)) (dg_name sc_neighbours.nd rfl (by first | exact Or.inl rfl | exact Or.inr rfl)) (db_one (ds_if (dt_w (dw_and (dt_cmp (do_eq hr.units) (de_var 5) de_int) (dw_and (dt_cmp (do_ne hr.units) (de_var 2) (de_tup da_nil)) (dw_and1 (dt_cmp (do_eq hr.units) (de_var 4) (de_call (ok_undone T) (hr.mono (by decide)) T.g_undone T.F_undone.kp T.b_undone fn_tk (da_cons (de_ix (de_ix (de_var 2) (de_neg de_int)) de_int) da_nil))))))) (db_one (ds_expr (de_append (de_var 3) (de_sl (de_var 2) dp_none (dp_some (de_neg de_int)))))) (db_one (ds_expr (de_append (de_var 3) (de_op do_add (de_var 2) (de_tup (da_cons (de_tup (da_cons (de_var 5) (da_cons (de_var 4) da_nil))) da_nil)))))))))))
  (db_one (ds_ret (de_var 3)))))
theorem ok_law (T : Tx K mg A) : FnOk P w K mg base (L2N.CX P w) 22 A.a_law A.d_law ["_law_script"] (spF (Gx K A) 1 m_law) := by
  refine fn_ok true T.F_law sc_law (fun cdv A1 outer s1 H1 E1 hr => ?_)
  exact (db_cons (ds_set (i := 1) sc_law.nd (de_call (ok_law_flow T) (hr.mono (by decide)) T.g_law_flow T.F_law_flow.kp T.b_law_flow fn_tk (da_cons (de_var 0) da_nil)))
  (db_cons (ds_for fn_po (di_range1 T.z_range (da_cons de_int da_nil)) (dg_name sc_law.nd rfl (by first | exact Or.inl rfl | exact Or.inr rfl)) (db_cons (ds_set (i := 3) sc_law.nd (de_call (ok_law_drawn_web T) (hr.mono (by decide)) T.g_law_drawn_web T.F_law_drawn_web.kp T.b_law_drawn_web fn_tk (da_cons (de_var 1) (da_cons (de_op do_add de_int (de_call (ok_law_draw T) (hr.mono (by decide)) T.g_law_draw T.F_law_draw.kp T.b_law_draw fn_tk (da_cons (de_var 1) (da_cons de_int da_nil)))) (da_cons (de_call (ok_law_draw T) (hr.mono (by decide)) T.g_law_draw T.F_law_draw.kp T.b_law_draw fn_tk (da_cons (de_var 1) (da_cons de_int da_nil))) (da_cons (de_call (ok_law_pick T) (hr.mono (by decide)) T.g_law_pick T.F_law_pick.kp T.b_law_pick fn_tk (da_cons (de_var 1) (da_cons (de_lst (da_cons de_int (da_cons de_int (da_cons de_int da_nil)))) da_nil))) da_nil))))))
  (db_cons (ds_set (i := 4) sc_law.nd (de_call (ok_law_web T) (hr.mono (by decide)) T.g_law_web T.F_law_web.kp T.b_law_web fn_tk (da_cons (de_var 3) da_nil)))
  (db_cons (ds_set (i := 5) sc_law.nd (de_call (ok_law_pick T) (hr.mono (by decide)) T.g_law_pick T.F_law_pick.kp T.b_law_pick fn_tk (da_cons (de_var 1) (da_cons (de_getS hr.units (de_var 3) (fun _ _ => rfl)) da_nil))))
  (db_cons (ds_set (i := 6) sc_law.nd (de_call (ok_law_some_place T) (hr.mono (by decide)) T.g_law_some_place T.F_law_some_place.kp T.b_law_some_place fn_tk (da_cons (de_var 1) (da_cons (de_var 3) (da_cons (de_var 5) (da_cons de_int da_nil))))))
  (db_cons (ds_set (i := 7) sc_law.nd (de_call (ok_neighbours T) (hr.mono (by decide)) T.g_neighbours T.F_neighbours.kp T.b_neighbours fn_tk (da_cons (de_var 4) (da_cons (de_var 5) (da_cons (de_var 6) da_nil)))))
  (db_cons (ds_set (i := 8) sc_law.nd (de_callB (dc_sum) rfl T.z_sum boot_sum (da_cons (de_lc [("_law_step", 9)] sc_law.nd (di_seq (de_call (ok_law_steps_from T) (hr.mono (by decide)) T.g_law_steps_from T.F_law_steps_from.kp T.b_law_steps_from fn_tk (da_cons (de_var 3) (da_cons (de_call (ok_law_end_of T) (hr.mono (by decide)) T.g_law_end_of T.F_law_end_of.kp T.b_law_end_of fn_tk (da_cons (de_var 3) (da_cons (de_var 5) (da_cons (de_var 6) da_nil)))) da_nil)))) (blkOk_by (own := [("_law_step", 9)]) (N := ["_law_script", "_law_flow_here", "_law_turn", "_law_m", "_law_web_here", "_law_root", "_law_place_here", "_law_found", "_law_many", "_law_step", "_law_other", "_law_back"]) (sc := defScope s_law) (by decide +kernel)) (fun _ _ _ _ _ => (dgw_name sc_law.nd rfl (by first | exact Or.inl rfl | exact Or.inr rfl))) (fun _ _ _ _ _ => dts_nil) (fun _ _ _ _ _ => (de_callB (dc_abs) rfl T.z_abs boot_abs (da_cons (de_ix (de_call (ok_law_rule T) (hr.mono (by decide)) T.g_law_rule T.F_law_rule.kp T.b_law_rule takes0N (da_cons (de_var 3) (da_cons (de_var 9) da_nil))) de_int) da_nil)))) da_nil)))
  (db_cons (ds_if (dt_w (dw_or (dt_not (dt_truth (de_call (ok_law_same T 20) (hr.mono (by decide)) T.g_law_same T.F_law_same.kp T.b_law_same fn_tk (da_cons (de_var 7) (da_cons (de_call (ok_law_beside T) (hr.mono (by decide)) T.g_law_beside T.F_law_beside.kp T.b_law_beside fn_tk (da_cons (de_var 3) (da_cons (de_var 5) (da_cons (de_var 6) da_nil)))) da_nil))))) (dw_or (dt_cmp (do_ne hr.units) (de_callB (dc_len) rfl T.z_len boot_len (da_cons (de_var 7) da_nil)) (de_var 8)) (dw_or1 (dt_cmp (do_ne hr.units) (de_lenSet (units65 hr) T.z_len T.z_set (de_var 7)) (de_var 8)))))) (db_one (ds_ret de_bl)) db_nil)
  (db_cons (ds_for fn_po (di_seq (de_op do_add (de_sl (de_var 7) dp_none (dp_some de_int)) (de_sl (de_var 7) (dp_some (de_neg de_int)) dp_none))) (dg_name sc_law.nd rfl (by first | exact Or.inl rfl | exact Or.inr rfl)) (db_cons (ds_set (i := 11) sc_law.nd (de_call (ok_neighbours T) (hr.mono (by decide)) T.g_neighbours T.F_neighbours.kp T.b_neighbours fn_tk (da_cons (de_var 4) (da_cons (de_var 5) (da_cons (de_var 10) da_nil)))))
  (db_cons (ds_if (dt_w (dw_or (dt_cmp (do_ne hr.units) (de_count (units65 hr) (de_var 11) (da_cons (de_var 6) da_nil)) de_int) (dw_or1 (dt_cmp (do_ne hr.units) (de_call (ok_far T) (hr.mono (by decide)) T.g_far T.F_far.kp T.b_far fn_tk (da_cons (de_var 4) (da_cons (de_var 5) (da_cons (de_var 6) (da_cons (de_var 10) da_nil))))) de_int)))) (db_one (ds_ret de_bl)) db_nil)
  (db_one (ds_expr (de_clear (de_var 11)))))))
  (db_cons (ds_expr (de_clear (de_var 7)))
  (db_one (ds_if (dt_cmp (do_ne hr.units) (de_call (ok_neighbours T) (hr.mono (by decide)) T.g_neighbours T.F_neighbours.kp T.b_neighbours fn_tk (da_cons (de_var 4) (da_cons (de_var 5) (da_cons (de_var 6) da_nil)))) (de_call (ok_law_beside T) (hr.mono (by decide)) T.g_law_beside T.F_law_beside.kp T.b_law_beside fn_tk (da_cons (de_var 3) (da_cons (de_var 5) (da_cons (de_var 6) da_nil))))) (db_one (ds_ret de_bl)) db_nil))))))))))))
  (db_one (ds_ret de_bl))))
end
end Lw
set_option Elab.async false
set_option linter.all false
set_option maxRecDepth 100000
set_option maxHeartbeats 4000000
set_option autoImplicit false
namespace Lw
open PySem Dv
/-! steps of our own words -/
local macro_rules | `(tactic| walk_at "num") => `(tactic| first | assumption | decide | omega)
local macro_rules | `(tactic| walk_at "dv0") => `(tactic| with_reducible first
  | refine v_seq ?_ | refine v_ifS ?_ | refine v_set ?_ | refine v_ret ?_ | refine v_asg ?_ | refine v_par ?_ | refine v_drop ?_ | refine v_nx ?_ | refine v_bk ?_ | refine v_ct ?_ | refine v_retN ?_ | refine v_for ?_
  | refine v_c ?_ | refine v_nil ?_ | refine v_cons ?_ | refine v_op ?_ | refine v_B ?_ | refine v_truth ?_ | refine v_andT ?_ | refine v_orT ?_ | refine v_notT ?_
  | refine v_andV ?_ | refine v_orV ?_ | refine v_notV ?_ | refine v_if ?_ | refine v_neg ?_ | refine v_chain ?_ | refine v_tup ?_ | refine v_lst ?_ | refine v_lstR ?_ | refine v_noPart ?_ | refine v_part ?_ | refine v_sl ?_
  | refine v_CB ?_ | refine v_call ?_ | refine v_abs ?_ | refine v_lc ?_ | refine v_yes ?_ | refine v_it ?_ | refine v_rng1 ?_ | refine v_rng2 ?_ | refine v_rng3 ?_ | refine v_T ?_ | refine v_F ?_
  | refine v_add ?_ | refine v_sub ?_ | refine v_iadd ?_ | refine v_lt ?_ | refine v_le ?_ | refine v_gt ?_ | refine v_ge ?_ | refine v_eqI ?_ | refine v_neI ?_ | refine v_eqB ?_ | refine v_neB ?_)
local macro_rules | `(tactic| walk_at "dv1") => `(tactic| first
  | (with_reducible refine' v_var ?h ?_); (case h => rfl)
  | (with_reducible refine' v_aug ?h ?_); (case h => rfl)
  | (with_reducible refine' v_div ?h1 ?h2 ?_); (case h1 => walk_at "num"); (case h2 => walk_at "num")
  | (with_reducible refine' v_mod ?h1 ?_); (case h1 => walk_at "num")
  | (with_reducible refine' v_pow ?h1 ?_); (case h1 => walk_at "num")
  | (with_reducible refine' v_mulR ?h1 ?_); (case h1 => walk_at "num")
  | (with_reducible refine' v_mulL ?h1 ?_); (case h1 => walk_at "num")
  | (with_reducible refine' v_fin ?h1 ?_); (case h1 => first | exact Or.inl rfl | exact Or.inr rfl | (refine Or.inr ?_; simp only [List.length_set, *]; done))
  | (with_reducible refine' v_ix ?h1 ?_); (case h1 => first | exact ixD_ref (by assumption) (by rfl) | rfl)
  | (with_reducible refine' v_len ?h1 ?_); (case h1 => first | exact lenD_ref (by assumption) | rfl)
  | (with_reducible refine' v_list ?h1 ?_); (case h1 => rfl)
  | (with_reducible refine' v_listR ?h1 ?_); (case h1 => rfl)
  | (with_reducible refine' v_tuple ?h1 ?_); (case h1 => rfl)
  | (with_reducible refine' v_isd ?h1 ?_); (case h1 => rfl)
  | (with_reducible refine' v_isiTy ?h1 ?h2 ?_); (case h1 => rfl); (case h2 => rfl)
  | (with_reducible refine' v_isiT ?h1 ?_); (case h1 => rfl))
local macro_rules | `(tactic| walk_at "dv2") => `(tactic| first
  | refine v_gsub (by rfl) (by rfl) (by assumption) (by rfl) (fun _ _ _ => ?_) | refine ⟨_, rfl, ?_⟩ | (with_reducible refine' ⟨rng_ok ?h1 ?h2, ?_⟩); (case h1 => omega); (case h2 => omega) | refine ⟨rfl, ?_⟩ | refine ⟨_, _, rfl, ?_⟩ | refine ⟨Nat.le_of_ble_eq_true rfl, ?_⟩)
local macro_rules | `(tactic| walk_at "dv3") => `(tactic| first
  | (with_reducible refine' v_dec (fun _ => ?_) (fun hn => absurd ?h hn)); (case h => first | assumption | omega | decide)
  | (with_reducible refine' v_dec (fun hn => absurd hn ?h) (fun _ => ?_)); (case h => first | assumption | omega | decide)
  | (with_reducible refine' v_ndec (fun _ => ?_) (fun hn => absurd hn ?h)); (case h => first | assumption | omega | decide)
  | (with_reducible refine' v_ndec (fun hn => absurd ?h hn) (fun _ => ?_)); (case h => first | assumption | omega | decide)
  | (with_reducible refine' v_bT ?h ?_); (case h => first | assumption | rfl)
  | (with_reducible refine' v_bF ?h ?_); (case h => first | assumption | rfl))
local macro_rules | `(tactic| walk_at "dv4") => `(tactic| with_reducible first
  | refine v_places ?_ | refine v_roads ?_ | refine v_over ?_ | refine v_line ?_ | refine v_spots ?_ | refine v_myards ?_ | refine v_mroads ?_ | refine v_mW (by decide +kernel) ?_ | refine v_mK (by decide +kernel) ?_
  | refine v_itX ?_ | refine v_ev ?_ | refine v_rev ?_ | refine v_zs ?_ | refine v_enum ?_ | refine v_enum2 ?_ | refine v_makeV ?_ | refine v_tryN ?_ | refine v_lc2 ?_ | refine v_fz ?_ | refine v_make ?_ | refine v_fldS ?_)
local macro_rules | `(tactic| walk_at "dv5") => `(tactic| first
  | refine ⟨_, _, rfl, rfl, ?_⟩ | refine ⟨⟨_, _, rfl⟩, ?_⟩ | refine ⟨⟨_, _, _, rfl⟩, ?_⟩ | refine ⟨_, _, _, rfl, ?_⟩ | refine Or.inl ⟨_, rfl, ?_⟩ | refine Or.inr ⟨_, (fun _ z => by cases z), rfl, ?_⟩)
local macro_rules | `(tactic| walk_at "dv") => `(tactic| repeat (first | walk_at "dv0" | walk_at "dv4" | walk_at "dv1" | walk_at "dv3" | walk_at "dv2" | walk_at "dv5"))
structure Fw where
  cells : List Int
  pos : Nat
  rest : Nat
  base : Nat
abbrev Fw.ds (f : Fw) : List Dt := [.lst (f.cells.map Dt.int), .int f.pos, .int f.rest, .int f.base]
abbrev Fw.ob (f : Fw) : Ob := .lst f.ds
/-- a draw gives a number from 0 on, below the size; the flow stays a flow -/
def Drawn (S : Store) (i : Nat) (n : Int) (d : Dt) (S' : Store) : Prop := ∃ (v : Int) (f' : Fw), d = .int v ∧ 0 ≤ v ∧ v < n ∧ f'.base < 2147483647 ∧ S' = S.set i f'.ob
theorem draw_rest {S : Store} {i : Nat} {f : Fw} {n : Int} (hS : S[i]? = some f.ob) (hn : 0 < n) (hl : n.natAbs.log2 < 9000) (h : 0 < f.rest) (hb : f.base < 2147483647) :
    Pe (m_law_draw [.ref i, .int n] S) (Drawn S i n) X0 := by
  refine v_fn ?_
  unfold b_law_draw
  walk_at "dv"
  refine ⟨_, { f with rest := ((f.rest : Int).fdiv n).toNat }, rfl, Int.fmod_nonneg_of_pos _ hn, Int.fmod_lt_of_pos _ hn, hb, ?_⟩
  rename_i S1 e1 e2
  rw [e1]
  have z : ((((f.rest : Int).fdiv n).toNat : Nat) : Int) = (f.rest : Int).fdiv n := Int.toNat_of_nonneg (Int.fdiv_nonneg (by omega) (by omega))
  simp [Fw.ob, Fw.ds, z]
theorem draw_cell {S : Store} {i : Nat} {f : Fw} {n : Int} (hS : S[i]? = some f.ob) (hn : 0 < n) (hl : n.natAbs.log2 < 9000) (h : f.rest = 0) (hb : f.base < 2147483647) :
    Pe (m_law_draw [.ref i, .int n] S) (Drawn S i n) X0 := by
  -- what both ways come to
  have fin1 : ∀ (S1 S2 : Store) (x r : Int), S1 = S.set i (.lst (f.ds.set (Int.toNat 1) (.int (f.pos + 1)))) → S2 = S1.set i (.lst ((f.ds.set (Int.toNat 1) (.int (f.pos + 1))).set (Int.toNat 3) (.int (x.fmod 2147483647)))) → Drawn S i n (.int (r.fmod n)) S2 := by
    intro S1 S2 x r e1 e2
    have h0 := Int.fmod_nonneg_of_pos x (b := 2147483647) (by decide)
    have h1 := Int.fmod_lt_of_pos x (b := 2147483647) (by decide)
    refine ⟨_, { f with pos := f.pos + 1, base := (x.fmod 2147483647).toNat }, rfl, Int.fmod_nonneg_of_pos _ hn, Int.fmod_lt_of_pos _ hn, ?_, ?_⟩
    · show (x.fmod 2147483647).toNat < 2147483647
      omega
    · rw [e2, e1, List.set_set]
      simp [Fw.ob, Fw.ds, Int.toNat_of_nonneg h0]
  have fin2 : ∀ (S1 S2 : Store) (a : Int), 0 ≤ a → S1 = S.set i (.lst (f.ds.set (Int.toNat 1) (.int (f.pos + 1)))) → S2 = S1.set i (.lst ((f.ds.set (Int.toNat 1) (.int (f.pos + 1))).set (Int.toNat 2) (.int (a.fdiv n)))) → Drawn S i n (.int (a.fmod n)) S2 := by
    intro S1 S2 a h0 e1 e2
    refine ⟨_, { f with pos := f.pos + 1, rest := (a.fdiv n).toNat }, rfl, Int.fmod_nonneg_of_pos _ hn, Int.fmod_lt_of_pos _ hn, hb, ?_⟩
    have z : (((a.fdiv n).toNat : Nat) : Int) = a.fdiv n := Int.toNat_of_nonneg (Int.fdiv_nonneg h0 (by omega))
    rw [e2, e1, List.set_set]
    simp [Fw.ob, Fw.ds, z]
  refine v_fn ?_
  unfold b_law_draw
  walk_at "dv"
  refine v_dec (fun hc => ?_) (fun hc => ?_)
  · obtain ⟨c, hcell⟩ : ∃ c, (f.cells.map Dt.int)[f.pos]? = some (.int c) := ⟨f.cells[f.pos]'(by simpa using hc), by simp⟩
    walk_at "dv"
    refine v_ix (atI_in hcell) ?_
    walk_at "dv"
    refine v_dec (fun hg => ?_) (fun hg => ?_)
    · walk_at "dv"
      exact fin2 _ _ _ (by split <;> omega) (by assumption) (by assumption)
    · walk_at "dv"
      exact fin1 _ _ _ _ (by assumption) (by assumption)
  · walk_at "dv"
    exact fin1 _ _ _ _ (by assumption) (by assumption)
theorem draw_spec {S : Store} {i : Nat} {f : Fw} {n : Int} (hS : S[i]? = some f.ob) (hb : f.base < 2147483647) (hn : 0 < n) (hl : n.natAbs.log2 < 9000) : Pe (m_law_draw [.ref i, .int n] S) (Drawn S i n) X0 := by
  by_cases h : 0 < f.rest
  · exact draw_rest hS hn hl h hb
  · exact draw_cell hS hn hl (by omega) hb
/-! ### the flow in a store -/
def FlowAt (S : Store) (i : Nat) : Prop := ∃ f : Fw, S[i]? = some f.ob ∧ f.base < 2147483647
/-- a store that differs in the flow alone -/
structure Fz (i : Nat) (S S' : Store) : Prop where
  len : S'.length = S.length
  oth : ∀ j : Nat, j ≠ i → S'[j]? = S[j]?
  flow : FlowAt S' i
theorem Fz.refl {i : Nat} {S : Store} (h : FlowAt S i) : Fz i S S := ⟨rfl, fun _ _ => rfl, h⟩
theorem Fz.trans {i : Nat} {S S1 S2 : Store} (a : Fz i S S1) (b : Fz i S1 S2) : Fz i S S2 := ⟨b.len.trans a.len, fun j h => (b.oth j h).trans (a.oth j h), b.flow⟩
theorem draw_fz {S : Store} {i : Nat} {n : Int} {Q : Dt → Store → Prop} {X : Ex → Store → Prop} (hF : FlowAt S i) (hn : 0 < n) (hl : n.natAbs.log2 < 9000) (q : ∀ v S', 0 ≤ v → v < n → Fz i S S' → Q (.int v) S') : Pe (m_law_draw [.ref i, .int n] S) Q X := by
  obtain ⟨f, h1, h2⟩ := hF
  refine (draw_spec h1 h2 hn hl).imp (fun d S' ⟨v, f', e, v0, v1, b, eS⟩ => ?_) fun _ _ z => z.elim
  subst e
  have hi := (List.getElem?_eq_some_iff.mp h1).1
  subst eS
  exact q v _ v0 v1 ⟨by simp, fun j hj => List.getElem?_set_ne (Ne.symm hj), f', List.getElem?_set_self hi, b⟩
theorem pick_fz {S : Store} {i : Nat} {ds : List Dt} {Q : Dt → Store → Prop} {X : Ex → Store → Prop} (hF : FlowAt S i) (h0 : 0 < ds.length) (h1 : ds.length < 2 ^ 64) (q : ∀ d S', d ∈ ds → Fz i S S' → Q d S') : Pe (m_law_pick [.ref i, .lst ds] S) Q X := by
  refine v_fn ?_
  unfold b_law_pick
  walk_at "dv"
  refine draw_fz hF (by omega) ?_ fun v S' v0 v1 hz => ?_
  · have := Nat.log2_lt (n := ds.length) (k := 64) (by omega)
    simp only [Int.natAbs_natCast]
    omega
  · have hv : v.toNat < ds.length := by omega
    refine v_ix (d := ds[v.toNat]) ?_ ?_
    · have z : L2.atI ds ((v.toNat : Nat) : Int) = some ds[v.toNat] := atI_in (by simp [hv])
      rw [Int.toNat_of_nonneg v0] at z
      exact z
    · walk_at "dv"
      refine v_fin (.inr hz.len) ?_
      exact q _ _ (List.getElem_mem hv) hz
/-! the law -/
theorem cut_take {α : Type} (xs : List α) (k : Nat) : cutA xs none (some (k : Int)) = xs.take k := by
  unfold cutA
  rw [HT.sIx_nat, HT.sIx_none]
  simp only [List.drop_zero, Nat.sub_zero, Nat.min_def]
  split
  · rfl
  · rw [List.take_length, List.take_of_length_le (by omega)]
theorem flow_new {S : Store} {ns : List Int} {Q : Dt → Store → Prop} {X : Ex → Store → Prop} (q : ∀ S', S'.length = S.length + 1 → (∀ j : Nat, j < S.length → S'[j]? = S[j]?) → FlowAt S' S.length → Q (.ref S.length) S') : Pe (m_law_flow [.fz (ns.map Dt.int)] S) Q X := by
  refine v_fn ?_
  unfold b_law_flow
  walk_at "dv"
  refine q _ (by simp) (fun j hj => List.getElem?_append_left hj) ⟨⟨ns.take 63, 0, 0, 23⟩, ?_, show 23 < 2147483647 by decide⟩
  have e : cutA (List.map Dt.int ns) none (some 63) = (ns.take 63).map Dt.int := by
    rw [show (63 : Int) = ((63 : Nat) : Int) from rfl, cut_take, List.map_take]
  rw [List.getElem?_append_right (Nat.le_refl _), Nat.sub_self, e]
  rfl
/-! ### the same data are the same -/
theorem all_true : ∀ n : Nat, bools (List.replicate n (Dt.bl true)) = some (List.replicate n true)
  | 0 => rfl
  | n + 1 => by
    rw [List.replicate_succ, List.replicate_succ]
    show (bools (List.replicate n (Dt.bl true))).map (true :: ·) = _
    rw [all_true n]
    rfl
theorem range_mem {n : Nat} {d : Dt} (h : d ∈ rangeD 0 n) : ∃ k : Nat, k < n ∧ d = .int (0 + (k : Int)) := by
  unfold rangeD at h
  obtain ⟨k, hk, rfl⟩ := List.mem_map.mp h
  exact ⟨k, List.mem_range.mp hk, rfl⟩
theorem range_const (n : Nat) (x : Dt) : (rangeD 0 n).filterMap (fun _ => some x) = List.replicate n x := by
  unfold rangeD
  rw [List.filterMap_map]
  have e : ((fun _ => some x) ∘ fun (k : Nat) => Dt.int (0 + (k : Int))) = (fun k => some ((fun _ : Nat => x) k)) := rfl
  rw [e, List.filterMap_eq_map']
  simp [List.map_const']
theorem same_seq {S : Store} {k : Nat} {ds : List Dt} {x : Dt} (hx : x = .tup ds ∨ x = .lst ds) (hn : ds.length ≤ 100000) (ih : ∀ d ∈ ds, m_law_same k [d, d] S = .ok (.bl true) S) : Pe (m_law_same (k + 1) [x, x] S) (fun d S' => d = .bl true ∧ S' = S) X0 := by
  refine v_fn ?_
  unfold b_law_same
  have elem : ∀ (x : Dt) (j : Nat) (e1 : Dv.Env), (x = .tup ds ∨ x = .lst ds) → j < ds.length → e1 = [some x, some x, some (.int (0 + (j : Int)))] → Pe (mCall 2 (m_law_same k) (mCons (mOp mIx (mVar 0) (mVar 2)) (mCons (mOp mIx (mVar 1) (mVar 2)) mNil)) e1 S) (fun x S2 => S2 = S ∧ some (Dt.bl true) = some x) X0 := by
    intro x j e1 hx hj he
    subst he
    have ej : ds[j]? = some ds[j] := by simp [hj]
    have z : L2.atI ds (0 + (j : Int)) = some ds[j] := by
      rw [Int.zero_add]
      exact atI_in ej
    have zz : ixD S x (0 + (j : Int)) = some ds[j] := by rcases hx with rfl | rfl <;> exact z
    walk_at "dv"
    refine v_ix zz ?_
    walk_at "dv"
    refine v_ix zz ?_
    walk_at "dv"
    exact Pe.of (ih _ (List.getElem_mem hj)) ⟨rfl, rfl⟩
  have rest : ∀ {x : Dt} {en : Dv.Env} {Q : List Dt → Store → Prop} {X : Ex → Store → Prop}, (x = .tup ds ∨ x = .lst ds) → en = [some x, some x, none] → Q (List.replicate ds.length (.bl true)) S → Pe (cLoop (wNm 2) mYes
      (mCall 2 (m_law_same k) (mCons (mOp mIx (mVar 0) (mVar 2)) (mCons (mOp mIx (mVar 1) (mVar 2)) mNil))) en (rangeD 0 (ds.length : Int).toNat) [] S) Q X := by
    intro x en Q X hx he q
    subst he
    refine v_cloop (fun _ => some (.bl true)) (fun d hd => ?_) ?_ ?_
    · obtain ⟨j, hj, rfl⟩ := range_mem hd
      refine ⟨_, rfl, v_yes ⟨rfl, v_T ?_⟩⟩
      exact elem x j _ hx (by simpa using hj) rfl
    · simp [rangeD]
      omega
    · rw [List.nil_append, Int.toNat_natCast, range_const]
      exact q
  have fin : ∀ {Q : Dt → Store → Prop} {X : Ex → Store → Prop}, Q (.bl true) S → Pe (mAll [.lst (List.replicate ds.length (.bl true))] S) Q X := by
    intro Q X q
    unfold mAll
    simp only [asL, Option.bind_some, all_true]
    refine v_ok ?_
    have e : (List.replicate ds.length true).all (fun b => b) = true := by simp
    rw [e]
    exact q
  rcases hx with rfl | rfl
  · walk_at "dv"
    refine rest (.inl rfl) rfl ?_
    walk_at "dv"
    refine fin ?_
    walk_at "dv"
    rfl
  · walk_at "dv"
    refine rest (.inr rfl) rfl ?_
    walk_at "dv"
    refine fin ?_
    walk_at "dv"
    rfl
theorem same_int {S : Store} {k : Nat} {i : Int} : m_law_same (k + 1) [.int i, .int i] S = .ok (.bl true) S := by
  refine Pe.eq ?_
  refine v_fn ?_
  unfold b_law_same
  walk_at "dv"
  simp
/-! ### stores of pure objects, with others behind them -/
def pureO : Ob → Bool
  | .lst ds => ds.all (noRef 11)
  | .ins _ _ ds => ds.all (noRef 11)
  | .dct _ ds => ds.all (noRef 11)
  | .dkt _ ds => ds.all (noRef 11)
def PureS (S : Store) : Prop := ∀ o ∈ S, pureO o = true
theorem noRef_up : ∀ (k : Nat) (d : Dt), noRef k d = true → noRef (k + 1) d = true := by
  intro k
  induction k with
  | zero =>
    intro d h
    cases d <;> first | rfl | exact absurd h (by simp [noRef])
  | succ k ih =>
    intro d h
    have al : ∀ ds : List Dt, ds.all (noRef k) = true → ds.all (noRef (k + 1)) = true := fun ds h => List.all_eq_true.mpr fun x hx => ih x (List.all_eq_true.mp h x hx)
    cases d with
    | tup ds => exact al ds h
    | lst ds => exact al ds h
    | fz ds => exact al ds h
    | ins c ns ds => exact al ds h
    | dct ks ds => exact al ds h
    | ref i => exact absurd h (by simp [noRef])
    | _ => first | rfl | exact absurd h (by simp [noRef])
theorem mapO_pure {n : Nat} {S : Store} {k : Nat} : ∀ {ds : List Dt}, ds.all (noRef k) = true → mapO (frz n S k) ds = some ds
  | [], _ => rfl
  | d :: ds, h => by
    rw [List.all_cons, Bool.and_eq_true] at h
    unfold mapO
    rw [frz_pure h.1, mapO_pure h.2]
    rfl
theorem all_up {k : Nat} {ds : List Dt} (h : ds.all (noRef k) = true) : ds.all (noRef (k + 1)) = true := List.all_eq_true.mpr fun x hx => noRef_up k x (List.all_eq_true.mp h x hx)
theorem frzO_pure {n : Nat} {S : Store} {o : Ob} (h : pureO o = true) : frzO n S deepF o = some o := by
  cases o with
  | lst ds => simp [frzO, mapO_pure (show ds.all (noRef deepF) = true from all_up h)]
  | ins c ns ds => simp [frzO, mapO_pure (show ds.all (noRef deepF) = true from all_up h)]
  | dct ks ds => simp [frzO, mapO_pure (show ds.all (noRef deepF) = true from all_up h)]
  | dkt ks ds => simp [frzO, mapO_pure (show ds.all (noRef deepF) = true from all_up h)]
theorem mapOb_pure {n : Nat} {S : Store} : ∀ {T : Store}, PureS T → mapO (frzO n S deepF) T = some T
  | [], _ => rfl
  | o :: T, h => by
    unfold mapO
    rw [frzO_pure (h o List.mem_cons_self), mapOb_pure fun x hx => h x (List.mem_cons_of_mem _ hx)]
    rfl
theorem exit_pure {n : Nat} {S : Store} (h : PureS (S.take n)) : exitS n S = some (S.take n) := mapOb_pure h
theorem frz_ref {n k : Nat} {S : Store} {ds : List Dt} (hS : S[k]? = some (.lst ds)) (hk : n ≤ k) (h : ds.all (noRef 11) = true) : frz n S deepF (.ref k) = some (.lst ds) := by
  show frz n S (11 + 1) (.ref k) = _
  unfold frz
  rw [if_neg (by simp [noRef])]
  dsimp only
  rw [if_neg (by omega), hS]
  dsimp only
  rw [mapO_pure h]
  rfl
theorem v_finL {n : Nat} {d d' : Dt} {S : Store} {Q : Dt → Store → Prop} {X : Ex → Store → Prop} (hf : frz n S deepF d = some d') (hl : n < S.length) (h : PureS (S.take n)) (q : Q d' (S.take n)) : Pe (fin false n d S) Q X := by
  unfold fin
  rw [if_neg (by
    rintro (z | z)
    · cases z
    · omega), hf, exit_pure h]
  exact q
/-- S with junk behind it -/
structure Jz (S T : Store) : Prop where
  le : S.length ≤ T.length
  eq : T.take S.length = S
theorem Jz.refl {S : Store} : Jz S S := ⟨Nat.le_refl _, List.take_length⟩
theorem Jz.push {S T : Store} {o : Ob} (j : Jz S T) : Jz S (T ++ [o]) := ⟨by rw [List.length_append]; have := j.le; omega, by rw [List.take_append_of_le_length j.le]; exact j.eq⟩
theorem Jz.set {S T : Store} {k : Nat} {o : Ob} (j : Jz S T) (hk : S.length ≤ k) : Jz S (T.set k o) := ⟨by rw [List.length_set]; exact j.le, by rw [List.take_set_of_le hk]; exact j.eq⟩
/-- the list at k, by value -/
theorem v_finJ {S T : Store} {k : Nat} {ds : List Dt} {Q : Dt → Store → Prop} {X : Ex → Store → Prop} (j : Jz S T) (hp : PureS S) (hT : T[k]? = some (.lst ds)) (hk : S.length ≤ k) (h : ds.all (noRef 11) = true) (q : Q (.lst ds) S) : Pe (fin false S.length (.ref k) T) Q X := by
  have hl : k < T.length := (List.getElem?_eq_some_iff.mp hT).1
  refine v_finL (frz_ref hT hk h) (by omega) ?_ ?_
  · rw [j.eq]
    exact hp
  · rw [j.eq]
    exact q
theorem Fw.pure (f : Fw) : pureO f.ob = true := by
  simp [Fw.ob, Fw.ds, pureO, noRef]
theorem Fz.pure {i : Nat} {S S' : Store} (z : Fz i S S') (h : PureS S) : PureS S' := by
  intro o ho
  obtain ⟨j, hj, e⟩ := List.getElem_of_mem ho
  by_cases hi : j = i
  · subst hi
    obtain ⟨f, h1, _⟩ := z.flow
    rw [List.getElem?_eq_getElem hj] at h1
    rw [← e]
    have h3 := Option.some.inj h1
    have h4 := f.pure
    rw [← h3] at h4
    exact h4
  · have h2 := z.oth j hi
    rw [List.getElem?_eq_getElem hj] at h2
    rw [← e]
    exact h _ (List.mem_of_getElem? h2.symm)
/-- S, its flow drawn from, with junk behind it -/
structure Bz (i : Nat) (S T : Store) : Prop where
  lt : i < S.length
  le : S.length ≤ T.length
  fz : Fz i S (T.take S.length)
theorem FlowAt.lt {i : Nat} {S : Store} (h : FlowAt S i) : i < S.length := by
  obtain ⟨f, h1, _⟩ := h
  exact (List.getElem?_eq_some_iff.mp h1).1
theorem Bz.refl {i : Nat} {S : Store} (h : FlowAt S i) : Bz i S S := ⟨h.lt, Nat.le_refl _, by rw [List.take_length]; exact Fz.refl h⟩
theorem Bz.flow {i : Nat} {S T : Store} (b : Bz i S T) : FlowAt T i := by
  obtain ⟨f, h1, h2⟩ := b.fz.flow
  rw [List.getElem?_take_of_lt b.lt] at h1
  exact ⟨f, h1, h2⟩
theorem Bz.push {i : Nat} {S T : Store} {o : Ob} (b : Bz i S T) : Bz i S (T ++ [o]) := ⟨b.lt, by rw [List.length_append]; have := b.le; omega, by rw [List.take_append_of_le_length b.le]; exact b.fz⟩
theorem Bz.set {i : Nat} {S T : Store} {k : Nat} {o : Ob} (b : Bz i S T) (hk : S.length ≤ k) : Bz i S (T.set k o) := ⟨b.lt, by rw [List.length_set]; exact b.le, by rw [List.take_set_of_le hk]; exact b.fz⟩
theorem Bz.draw {i : Nat} {S T T' : Store} (b : Bz i S T) (z : Fz i T T') : Bz i S T' := by
  refine ⟨b.lt, by rw [z.len]; exact b.le, ?_, fun j hj => ?_, ?_⟩
  · rw [List.length_take, z.len, Nat.min_eq_left b.le]
  · by_cases hl : j < S.length
    · rw [List.getElem?_take_of_lt hl, z.oth j hj, ← b.fz.oth j hj, List.getElem?_take_of_lt hl]
    · rw [List.getElem?_eq_none (by rw [List.length_take]; omega), List.getElem?_eq_none (by omega)]
  · obtain ⟨f, h1, h2⟩ := z.flow
    exact ⟨f, by rw [List.getElem?_take_of_lt b.lt]; exact h1, h2⟩
theorem v_finB {i : Nat} {S T : Store} {k : Nat} {ds : List Dt} {Q : Dt → Store → Prop} {X : Ex → Store → Prop} (b : Bz i S T) (hp : PureS S) (hT : T[k]? = some (.lst ds)) (hk : S.length ≤ k) (h : ds.all (noRef 11) = true) (q : ∀ S', Fz i S S' → Q (.lst ds) S') : Pe (fin false S.length (.ref k) T) Q X := by
  have hl : k < T.length := (List.getElem?_eq_some_iff.mp hT).1
  exact v_finL (frz_ref hT hk h) (by omega) (b.fz.pure hp) (q _ b.fz)
end Lw
set_option Elab.async false
set_option linter.all false
set_option maxRecDepth 100000
set_option maxHeartbeats 4000000
set_option autoImplicit false
namespace Lw
open PySem Dv
/-! steps of our own words -/
local macro_rules | `(tactic| walk_at "num") => `(tactic| first | assumption | decide | omega)
local macro_rules | `(tactic| walk_at "dv0") => `(tactic| with_reducible first
  | refine v_seq ?_ | refine v_ifS ?_ | refine v_set ?_ | refine v_ret ?_ | refine v_asg ?_ | refine v_par ?_ | refine v_drop ?_ | refine v_nx ?_ | refine v_bk ?_ | refine v_ct ?_ | refine v_retN ?_ | refine v_for ?_
  | refine v_c ?_ | refine v_nil ?_ | refine v_cons ?_ | refine v_op ?_ | refine v_B ?_ | refine v_truth ?_ | refine v_andT ?_ | refine v_orT ?_ | refine v_notT ?_
  | refine v_andV ?_ | refine v_orV ?_ | refine v_notV ?_ | refine v_if ?_ | refine v_neg ?_ | refine v_chain ?_ | refine v_tup ?_ | refine v_lst ?_ | refine v_lstR ?_ | refine v_noPart ?_ | refine v_part ?_ | refine v_sl ?_
  | refine v_CB ?_ | refine v_call ?_ | refine v_abs ?_ | refine v_lc ?_ | refine v_yes ?_ | refine v_it ?_ | refine v_rng1 ?_ | refine v_rng2 ?_ | refine v_rng3 ?_ | refine v_T ?_ | refine v_F ?_
  | refine v_add ?_ | refine v_sub ?_ | refine v_iadd ?_ | refine v_lt ?_ | refine v_le ?_ | refine v_gt ?_ | refine v_ge ?_ | refine v_eqI ?_ | refine v_neI ?_ | refine v_eqB ?_ | refine v_neB ?_)
local macro_rules | `(tactic| walk_at "dv1") => `(tactic| first
  | (with_reducible refine' v_var ?h ?_); (case h => rfl)
  | (with_reducible refine' v_aug ?h ?_); (case h => rfl)
  | (with_reducible refine' v_div ?h1 ?h2 ?_); (case h1 => walk_at "num"); (case h2 => walk_at "num")
  | (with_reducible refine' v_mod ?h1 ?_); (case h1 => walk_at "num")
  | (with_reducible refine' v_pow ?h1 ?_); (case h1 => walk_at "num")
  | (with_reducible refine' v_mulR ?h1 ?_); (case h1 => walk_at "num")
  | (with_reducible refine' v_mulL ?h1 ?_); (case h1 => walk_at "num")
  | (with_reducible refine' v_fin ?h1 ?_); (case h1 => first | exact Or.inl rfl | exact Or.inr rfl | (refine Or.inr ?_; simp only [List.length_set, *]; done))
  | (with_reducible refine' v_ix ?h1 ?_); (case h1 => first | exact ixD_ref (by assumption) (by rfl) | rfl)
  | (with_reducible refine' v_len ?h1 ?_); (case h1 => first | exact lenD_ref (by assumption) | rfl)
  | (with_reducible refine' v_list ?h1 ?_); (case h1 => rfl)
  | (with_reducible refine' v_listR ?h1 ?_); (case h1 => rfl)
  | (with_reducible refine' v_tuple ?h1 ?_); (case h1 => rfl)
  | (with_reducible refine' v_isd ?h1 ?_); (case h1 => rfl)
  | (with_reducible refine' v_isiTy ?h1 ?h2 ?_); (case h1 => rfl); (case h2 => rfl)
  | (with_reducible refine' v_isiT ?h1 ?_); (case h1 => rfl))
local macro_rules | `(tactic| walk_at "dv2") => `(tactic| first
  | refine v_gsub (by rfl) (by rfl) (by assumption) (by rfl) (fun _ _ _ => ?_) | refine ⟨_, rfl, ?_⟩ | (with_reducible refine' ⟨rng_ok ?h1 ?h2, ?_⟩); (case h1 => omega); (case h2 => omega) | refine ⟨rfl, ?_⟩ | refine ⟨_, _, rfl, ?_⟩ | refine ⟨Nat.le_of_ble_eq_true rfl, ?_⟩)
local macro_rules | `(tactic| walk_at "dv3") => `(tactic| first
  | (with_reducible refine' v_dec (fun _ => ?_) (fun hn => absurd ?h hn)); (case h => first | assumption | omega | decide)
  | (with_reducible refine' v_dec (fun hn => absurd hn ?h) (fun _ => ?_)); (case h => first | assumption | omega | decide)
  | (with_reducible refine' v_ndec (fun _ => ?_) (fun hn => absurd hn ?h)); (case h => first | assumption | omega | decide)
  | (with_reducible refine' v_ndec (fun hn => absurd ?h hn) (fun _ => ?_)); (case h => first | assumption | omega | decide)
  | (with_reducible refine' v_bT ?h ?_); (case h => first | assumption | rfl)
  | (with_reducible refine' v_bF ?h ?_); (case h => first | assumption | rfl))
local macro_rules | `(tactic| walk_at "dv4") => `(tactic| with_reducible first
  | refine v_places ?_ | refine v_roads ?_ | refine v_over ?_ | refine v_line ?_ | refine v_spots ?_ | refine v_myards ?_ | refine v_mroads ?_ | refine v_mW (by decide +kernel) ?_ | refine v_mK (by decide +kernel) ?_
  | refine v_itX ?_ | refine v_ev ?_ | refine v_rev ?_ | refine v_zs ?_ | refine v_enum ?_ | refine v_enum2 ?_ | refine v_makeV ?_ | refine v_tryN ?_ | refine v_lc2 ?_ | refine v_fz ?_ | refine v_make ?_ | refine v_fldS ?_)
local macro_rules | `(tactic| walk_at "dv5") => `(tactic| first
  | refine ⟨_, _, rfl, rfl, ?_⟩ | refine ⟨⟨_, _, rfl⟩, ?_⟩ | refine ⟨⟨_, _, _, rfl⟩, ?_⟩ | refine ⟨_, _, _, rfl, ?_⟩ | refine Or.inl ⟨_, rfl, ?_⟩ | refine Or.inr ⟨_, (fun _ z => by cases z), rfl, ?_⟩)
local macro_rules | `(tactic| walk_at "dv") => `(tactic| repeat (first | walk_at "dv0" | walk_at "dv4" | walk_at "dv1" | walk_at "dv3" | walk_at "dv2" | walk_at "dv5"))
/-! ### webs as data -/
structure Road where
  n : Str
  b : Str
  e : Str
  h : Int
  t : Int
abbrev Road.d (r : Road) : Dt := .tup [.str r.n, .str r.b, .str r.e, .int r.h, .int r.t]
structure Mod where
  ys : List Str
  rs : List Road
abbrev Mod.ysD (m : Mod) : List Dt := m.ys.map Dt.str
abbrev Mod.rsD (m : Mod) : List Dt := m.rs.map Road.d
abbrev Mod.d (m : Mod) : Dt := modV (.lst m.ysD) (.lst m.rsD)
abbrev Mod.w (m : Mod) : Dt := webV (.tup m.ysD) (.tup m.rsD)
abbrev Step := Str × Int
abbrev stD (s : Step) : Dt := .tup [.str s.1, .int s.2]
def und (s : Step) : Step := (s.1, 0 - s.2)
def Mod.road (m : Mod) (n : Str) : Option Road := m.rs.find? fun r => decide (r.n = n)
def Road.ends (r : Road) (w : Int) : Str × Str := if w = 1 then (r.b, r.e) else (r.e, r.b)
def Road.rule (r : Road) (w : Int) : Int × Int := if w = 1 then (r.h, r.t) else (r.t, r.h)
structure Mod.Ok (m : Mod) : Prop where
  sr : ∀ r ∈ m.rs, PyData.strOk r.n = true ∧ PyData.strOk r.b = true ∧ PyData.strOk r.e = true
  sy : ∀ y ∈ m.ys, PyData.strOk y = true
  nd : (m.ys ++ m.rs.map Road.n).Nodup
  en : ∀ r ∈ m.rs, r.b ∈ m.ys ∧ r.e ∈ m.ys
  th : ∀ r ∈ m.rs, (r.h ≠ 0 ∧ r.h.natAbs ≤ 99) ∧ (r.t ≠ 0 ∧ r.t.natAbs ≤ 99)
  ly : m.ys.length ≤ 6
  lr : m.rs.length ≤ 8
theorem str_eq (a b : Str) : (a == b) = decide (a = b) := by
  by_cases h : a = b
  · subst h
    rw [decide_eq_true rfl]
    exact beq_self_eq_true a
  · rw [decide_eq_false h]
    exact beq_eq_false_iff_ne.mpr h
theorem v_eqS {a b : Str} {S : Store} {Q : Dt → Store → Prop} {X : Ex → Store → Prop} (ha : PyData.strOk a = true) (hb : PyData.strOk b = true) (q : Q (.bl (decide (a = b))) S) : Pe (mEq (.str a) (.str b) S) Q X := by
  refine v_ifok ⟨ha, hb⟩ ?_
  show Q (.bl (a == b)) S
  rw [str_eq]
  exact q
theorem eqD_st (s t : Step) : eqD (stD s) (stD t) = decide (s = t) := by
  obtain ⟨a, i⟩ := s
  obtain ⟨b, j⟩ := t
  show ((a == b) && ((i == j) && true)) = _
  rw [str_eq]
  have e : (i == j) = decide (i = j) := rfl
  rw [e, Bool.and_true, ← Bool.decide_and]
  congr 1
  simp [Prod.ext_iff]
theorem okD_st {s : Step} (h : PyData.strOk s.1 = true) (k : Nat) : okD (k + 1) (stD s) = true := by
  show [Dt.str s.1, Dt.int s.2].all (okD k) = true
  simp only [List.all_cons, List.all_nil, Bool.and_true]
  cases k <;> simp [okD, h]
theorem v_eqT {s t : Step} {S : Store} {Q : Dt → Store → Prop} {X : Ex → Store → Prop} (hs : PyData.strOk s.1 = true) (ht : PyData.strOk t.1 = true) (q : Q (.bl (decide (s = t))) S) : Pe (mEq (stD s) (stD t) S) Q X := by
  refine v_ifok ⟨okD_st hs 11, okD_st ht 11⟩ ?_
  show Q (.bl (eqD (stD s) (stD t))) S
  rw [eqD_st]
  exact q
theorem ix_zero (x : Dt) (l : List Dt) {S : Store} : ixD S (.lst (x :: l)) 0 = some x := atI_in (j := 0) (xs := x :: l) rfl
section
variable {m : Mod} {S : Store}
theorem road_in {n : Str} {r : Road} (h : m.road n = some r) : r ∈ m.rs ∧ r.n = n := by
  unfold Mod.road at h
  exact ⟨List.mem_of_find?_eq_some h, by simpa using List.find?_some h⟩
theorem road_of (ok : m.Ok) {r : Road} (h : r ∈ m.rs) : m.road r.n = some r := by
  have nd : (m.rs.map Road.n).Nodup := (List.nodup_append.mp ok.nd).2.1
  unfold Mod.road
  generalize m.rs = l at h nd
  induction l with
  | nil => cases h
  | cons x l ih =>
    rw [List.map_cons, List.nodup_cons] at nd
    rw [List.find?_cons]
    rcases List.mem_cons.mp h with e | h'
    · subst e
      simp
    · have hne : ¬ x.n = r.n := fun z => nd.1 (by rw [z]; exact List.mem_map_of_mem h')
      simp only [hne, decide_false]
      exact ih h' nd.2
def gRoad (n : Str) : Dt → Option Dt
  | .tup (.str a :: l) => if a = n then some (.tup (.str a :: l)) else none
  | _ => none
theorem gRoad_map (n : Str) : ∀ l : List Road, (l.map Road.d).filterMap (gRoad n) = (l.filter fun r => decide (r.n = n)).map Road.d
  | [] => rfl
  | r :: l => by
    rw [List.map_cons, List.filterMap_cons, List.filter_cons]
    by_cases h : r.n = n
    · have e : gRoad n r.d = some r.d := if_pos h
      rw [e, decide_eq_true h, if_pos rfl, gRoad_map n l]
      rfl
    · have e : gRoad n r.d = none := if_neg h
      rw [e, decide_eq_false h, if_neg Bool.false_ne_true, gRoad_map n l]
theorem law_road_ok (ok : m.Ok) {n : Str} {r : Road} (h : m.road n = some r) : m_law_road [m.d, .str n] S = .ok r.d S := by
  obtain ⟨hr, rfl⟩ := road_in h
  refine Pe.eq (v_fn ?_)
  unfold b_law_road
  walk_at "dv"
  refine v_cloop (gRoad r.n) (fun d hd => ?_) ?_ ?_
  · obtain ⟨x, hx, rfl⟩ := List.mem_map.mp hd
    refine ⟨_, rfl, ?_⟩
    walk_at "dv"
    refine v_eqS (ok.sr x hx).1 (ok.sr r hr).1 ?_
    refine ⟨_, rfl, rfl, ?_⟩
    refine v_dec (fun e => ?_) (fun e => ?_)
    · refine v_var rfl ⟨rfl, if_pos e⟩
    · exact if_neg e
  · have := ok.lr
    simp
    omega
  · rw [List.nil_append, gRoad_map]
    have hh : (m.rs.filter fun x => decide (x.n = r.n)).head? = some r := by
      rw [List.head?_filter]
      exact h
    cases hf : m.rs.filter fun x => decide (x.n = r.n) with
    | nil => rw [hf] at hh; cases hh
    | cons y l =>
      rw [hf] at hh
      cases hh
      walk_at "dv"
      refine v_ix (ix_zero _ _) ?_
      walk_at "dv"
      first | exact ⟨rfl, rfl⟩ | exact rfl
theorem law_ends_ok (ok : m.Ok) {s : Step} {r : Road} (h : m.road s.1 = some r) : m_law_ends [m.d, stD s] S = .ok (.tup [.str (r.ends s.2).1, .str (r.ends s.2).2]) S := by
  refine Pe.eq (v_fn ?_)
  unfold b_law_ends
  walk_at "dv"
  refine Pe.of (law_road_ok ok h) ?_
  walk_at "dv"
  unfold Road.ends
  refine v_dec (fun e => ?_) (fun e => ?_)
  · walk_at "dv"
    rw [if_pos e]
    first | exact ⟨rfl, rfl⟩ | exact rfl
  · walk_at "dv"
    rw [if_neg e]
    first | exact ⟨rfl, rfl⟩ | exact rfl
theorem law_rule_ok (ok : m.Ok) {s : Step} {r : Road} (h : m.road s.1 = some r) : m_law_rule [m.d, stD s] S = .ok (.tup [.int (r.rule s.2).1, .int (r.rule s.2).2]) S := by
  refine Pe.eq (v_fn ?_)
  unfold b_law_rule
  walk_at "dv"
  refine Pe.of (law_road_ok ok h) ?_
  walk_at "dv"
  unfold Road.rule
  refine v_dec (fun e => ?_) (fun e => ?_)
  · walk_at "dv"
    rw [if_pos e]
    first | exact ⟨rfl, rfl⟩ | exact rfl
  · walk_at "dv"
    rw [if_neg e]
    first | exact ⟨rfl, rfl⟩ | exact rfl
theorem law_undone_ok {s : Step} : m_law_undone [stD s] S = .ok (stD (und s)) S := by
  refine Pe.eq (v_fn ?_)
  unfold b_law_undone
  walk_at "dv"
  first | exact ⟨rfl, rfl⟩ | exact rfl
theorem web_road_ok (ok : m.Ok) {n : Str} {r : Road} (h : m.road n = some r) : m_Web_road_of [m.w, .str n] S = .ok r.d S := by
  obtain ⟨hr, rfl⟩ := road_in h
  refine Pe.eq (v_fn ?_)
  unfold b_Web_road_of
  walk_at "dv"
  refine v_loop (fun ds en S' => ∃ (l : List Road) (x : Option Dt), ds = l.map Road.d ∧ (∀ y ∈ l, y ∈ m.rs) ∧ l.find? (fun y => decide (y.n = r.n)) = some r ∧ en = [some m.w, some (.str r.n), x] ∧ S' = S) ⟨m.rs, _, rfl, fun _ h => h, h, rfl, rfl⟩ ?_ ?_
  · rintro d ds en S' ⟨l, x, e1, hm, hf, rfl, rfl⟩
    cases l with
    | nil => cases e1
    | cons y l =>
      cases e1
      refine ⟨_, _, rfl, ?_⟩
      walk_at "dv"
      refine v_eqS (ok.sr y (hm y List.mem_cons_self)).1 (ok.sr r hr).1 ?_
      refine ⟨_, rfl, ?_⟩
      rw [List.find?_cons] at hf
      refine v_dec (fun e => ?_) (fun e => ?_)
      · rw [decide_eq_true e] at hf
        cases hf
        walk_at "dv"
        first | exact ⟨rfl, rfl⟩ | exact rfl
      · rw [decide_eq_false e] at hf
        walk_at "dv"
        exact ⟨l, _, rfl, fun z hz => hm z (List.mem_cons_of_mem _ hz), hf, rfl, rfl⟩
  · rintro en S' ⟨l, x, e1, hm, hf, rfl, rfl⟩
    cases l with
    | nil => cases hf
    | cons y l => cases e1
theorem web_so_ok (ok : m.Ok) {s : Step} {r : Road} (h : m.road s.1 = some r) (hw : s.2 = 1 ∨ s.2 = -1) : m_Web_turned_so [m.w, stD s, .int 1] S = .ok (.tup [.str (r.ends s.2).1, .str (r.ends s.2).2]) S ∧ m_Web_turned_so [m.w, stD s, .int 3] S = .ok (.tup [.int (r.rule s.2).1, .int (r.rule s.2).2]) S := by
  have go : ∀ (at_ : Int) (a b : Dt), (∀ S, ixD S r.d at_ = some a ∧ ixD S r.d (at_ + 1) = some b) → m_Web_turned_so [m.w, stD s, .int at_] S = .ok (if s.2 = 1 then .tup [a, b] else .tup [b, a]) S := by
    intro at_ a b hab
    refine Pe.eq (v_fn ?_)
    unfold b_Web_turned_so
    walk_at "dv"
    refine Pe.of (web_road_ok ok h) ?_
    walk_at "dv"
    refine v_bF (by rcases hw with e | e <;> rw [e] <;> rfl) ?_
    walk_at "dv"
    refine v_dec (fun e => ?_) (fun e => ?_)
    · walk_at "dv"
      refine v_ix (hab S).1 ?_
      walk_at "dv"
      refine v_ix (hab S).2 ?_
      walk_at "dv"
      rw [if_pos e]
      first | exact ⟨rfl, rfl⟩ | exact rfl
    · walk_at "dv"
      refine v_ix (hab S).2 ?_
      walk_at "dv"
      refine v_ix (hab S).1 ?_
      walk_at "dv"
      rw [if_neg e]
      first | exact ⟨rfl, rfl⟩ | exact rfl
  constructor
  · rw [go 1 (.str r.b) (.str r.e) fun S => ⟨rfl, rfl⟩]
    unfold Road.ends
    split <;> rfl
  · rw [go 3 (.int r.h) (.int r.t) fun S => ⟨rfl, rfl⟩]
    unfold Road.rule
    split <;> rfl
theorem web_ends_ok (ok : m.Ok) {s : Step} {r : Road} (h : m.road s.1 = some r) (hw : s.2 = 1 ∨ s.2 = -1) : m_Web_ends [m.w, stD s] S = .ok (.tup [.str (r.ends s.2).1, .str (r.ends s.2).2]) S := by
  refine Pe.eq (v_fn ?_)
  unfold b_Web_ends
  walk_at "dv"
  refine Pe.of (web_so_ok ok h hw).1 ?_
  walk_at "dv"
  first | exact ⟨rfl, rfl⟩ | exact rfl
theorem web_rule_ok (ok : m.Ok) {s : Step} {r : Road} (h : m.road s.1 = some r) (hw : s.2 = 1 ∨ s.2 = -1) : m_Web_rule [m.w, stD s] S = .ok (.tup [.int (r.rule s.2).1, .int (r.rule s.2).2]) S := by
  refine Pe.eq (v_fn ?_)
  unfold b_Web_rule
  walk_at "dv"
  refine Pe.of (web_so_ok ok h hw).2 ?_
  walk_at "dv"
  first | exact ⟨rfl, rfl⟩ | exact rfl
end
end Lw
set_option Elab.async false
set_option linter.all false
set_option maxRecDepth 100000
set_option maxHeartbeats 4000000
set_option autoImplicit false
namespace Lw
open PySem Dv
/-! steps of our own words -/
local macro_rules | `(tactic| walk_at "num") => `(tactic| first | assumption | decide | omega)
local macro_rules | `(tactic| walk_at "dv0") => `(tactic| with_reducible first
  | refine v_seq ?_ | refine v_ifS ?_ | refine v_set ?_ | refine v_ret ?_ | refine v_asg ?_ | refine v_par ?_ | refine v_drop ?_ | refine v_nx ?_ | refine v_bk ?_ | refine v_ct ?_ | refine v_retN ?_ | refine v_for ?_
  | refine v_c ?_ | refine v_nil ?_ | refine v_cons ?_ | refine v_op ?_ | refine v_B ?_ | refine v_truth ?_ | refine v_andT ?_ | refine v_orT ?_ | refine v_notT ?_
  | refine v_andV ?_ | refine v_orV ?_ | refine v_notV ?_ | refine v_if ?_ | refine v_neg ?_ | refine v_chain ?_ | refine v_tup ?_ | refine v_lst ?_ | refine v_lstR ?_ | refine v_noPart ?_ | refine v_part ?_ | refine v_sl ?_
  | refine v_CB ?_ | refine v_call ?_ | refine v_abs ?_ | refine v_lc ?_ | refine v_yes ?_ | refine v_it ?_ | refine v_rng1 ?_ | refine v_rng2 ?_ | refine v_rng3 ?_ | refine v_T ?_ | refine v_F ?_
  | refine v_add ?_ | refine v_sub ?_ | refine v_iadd ?_ | refine v_lt ?_ | refine v_le ?_ | refine v_gt ?_ | refine v_ge ?_ | refine v_eqI ?_ | refine v_neI ?_ | refine v_eqB ?_ | refine v_neB ?_)
local macro_rules | `(tactic| walk_at "dv1") => `(tactic| first
  | (with_reducible refine' v_var ?h ?_); (case h => rfl)
  | (with_reducible refine' v_aug ?h ?_); (case h => rfl)
  | (with_reducible refine' v_div ?h1 ?h2 ?_); (case h1 => walk_at "num"); (case h2 => walk_at "num")
  | (with_reducible refine' v_mod ?h1 ?_); (case h1 => walk_at "num")
  | (with_reducible refine' v_pow ?h1 ?_); (case h1 => walk_at "num")
  | (with_reducible refine' v_mulR ?h1 ?_); (case h1 => walk_at "num")
  | (with_reducible refine' v_mulL ?h1 ?_); (case h1 => walk_at "num")
  | (with_reducible refine' v_fin ?h1 ?_); (case h1 => first | exact Or.inl rfl | exact Or.inr rfl | (refine Or.inr ?_; simp only [List.length_set, *]; done))
  | (with_reducible refine' v_ix ?h1 ?_); (case h1 => first | exact ixD_ref (by assumption) (by rfl) | rfl)
  | (with_reducible refine' v_len ?h1 ?_); (case h1 => first | exact lenD_ref (by assumption) | rfl)
  | (with_reducible refine' v_list ?h1 ?_); (case h1 => rfl)
  | (with_reducible refine' v_listR ?h1 ?_); (case h1 => rfl)
  | (with_reducible refine' v_tuple ?h1 ?_); (case h1 => rfl)
  | (with_reducible refine' v_isd ?h1 ?_); (case h1 => rfl)
  | (with_reducible refine' v_isiTy ?h1 ?h2 ?_); (case h1 => rfl); (case h2 => rfl)
  | (with_reducible refine' v_isiT ?h1 ?_); (case h1 => rfl))
local macro_rules | `(tactic| walk_at "dv2") => `(tactic| first
  | refine v_gsub (by rfl) (by rfl) (by assumption) (by rfl) (fun _ _ _ => ?_) | refine ⟨_, rfl, ?_⟩ | (with_reducible refine' ⟨rng_ok ?h1 ?h2, ?_⟩); (case h1 => omega); (case h2 => omega) | refine ⟨rfl, ?_⟩ | refine ⟨_, _, rfl, ?_⟩ | refine ⟨Nat.le_of_ble_eq_true rfl, ?_⟩)
local macro_rules | `(tactic| walk_at "dv3") => `(tactic| first
  | (with_reducible refine' v_dec (fun _ => ?_) (fun hn => absurd ?h hn)); (case h => first | assumption | omega | decide)
  | (with_reducible refine' v_dec (fun hn => absurd hn ?h) (fun _ => ?_)); (case h => first | assumption | omega | decide)
  | (with_reducible refine' v_ndec (fun _ => ?_) (fun hn => absurd hn ?h)); (case h => first | assumption | omega | decide)
  | (with_reducible refine' v_ndec (fun hn => absurd ?h hn) (fun _ => ?_)); (case h => first | assumption | omega | decide)
  | (with_reducible refine' v_bT ?h ?_); (case h => first | assumption | rfl)
  | (with_reducible refine' v_bF ?h ?_); (case h => first | assumption | rfl))
local macro_rules | `(tactic| walk_at "dv4") => `(tactic| with_reducible first
  | refine v_places ?_ | refine v_roads ?_ | refine v_over ?_ | refine v_line ?_ | refine v_spots ?_ | refine v_myards ?_ | refine v_mroads ?_ | refine v_mW (by decide +kernel) ?_ | refine v_mK (by decide +kernel) ?_
  | refine v_itX ?_ | refine v_ev ?_ | refine v_rev ?_ | refine v_zs ?_ | refine v_enum ?_ | refine v_enum2 ?_ | refine v_makeV ?_ | refine v_tryN ?_ | refine v_lc2 ?_ | refine v_fz ?_ | refine v_make ?_ | refine v_fldS ?_)
local macro_rules | `(tactic| walk_at "dv5") => `(tactic| first
  | refine ⟨_, _, rfl, rfl, ?_⟩ | refine ⟨⟨_, _, rfl⟩, ?_⟩ | refine ⟨⟨_, _, _, rfl⟩, ?_⟩ | refine ⟨_, _, _, rfl, ?_⟩ | refine Or.inl ⟨_, rfl, ?_⟩ | refine Or.inr ⟨_, (fun _ z => by cases z), rfl, ?_⟩)
local macro_rules | `(tactic| walk_at "dv") => `(tactic| repeat (first | walk_at "dv0" | walk_at "dv4" | walk_at "dv1" | walk_at "dv3" | walk_at "dv2" | walk_at "dv5"))
/-! ### webs that are built -/
theorem v_loop0 {g : Dt → Dv.Env → Store → Option (Dv.Env × Store)} {ba : Dv.Env → Store → RS} {en : Dv.Env} {S : Store} {QS : Fl → Dv.Env → Store → Prop} {XS : Ex → Dv.Env → Store → Prop} (q : QS .nx en S) : Ps (fLoop g ba [] en S) QS XS := q
theorem v_loop1 {g : Dt → Dv.Env → Store → Option (Dv.Env × Store)} {ba : Dv.Env → Store → RS} {en : Dv.Env} {S : Store} {d : Dt} {ds : List Dt} {QS : Fl → Dv.Env → Store → Prop} {XS : Ex → Dv.Env → Store → Prop}
    (h : ∃ e1 S1, g d en S = some (e1, S1) ∧ Ps (ba e1 S1) (fun f e2 S2 => match f with | .nx => Ps (fLoop g ba ds e2 S2) QS XS | .ct => Ps (fLoop g ba ds e2 S2) QS XS | .bk => QS .nx e2 S2 | .rt d => QS (.rt d) e2 S2) XS) : Ps (fLoop g ba (d :: ds) en S) QS XS := by
  obtain ⟨e1, S1, e, k⟩ := h
  unfold fLoop
  rw [e]
  dsimp only
  cases eb : ba e1 S1 with
  | stuck => rw [eb] at k; exact k
  | err x e2 S2 => rw [eb] at k; exact k
  | ok f e2 S2 =>
    rw [eb] at k
    cases f <;> exact k
theorem setFld_ins {S : Store} {k : Nat} {c : String} {ns : List Str} {ds : List Dt} {f : Str} {d : Dt} {cs : List String} (hS : S[k]? = some (.ins c ns ds)) (hc : c ∈ cs) (hl : ns.length < 1000) : setFld cs f S (.ref k) d = some (S.set k (.ins c (putN f ns) (putW f d ns ds))) := by
  unfold setFld
  simp only [hS]
  rw [if_pos ⟨hc, hl⟩]
theorem putN_r : putN ("roads" : Str) [("places" : Str)] = wF := by decide +kernel
theorem putW_r (a b : Dt) : putW ("roads" : Str) b [("places" : Str)] [a] = [a, b] := by
  unfold putW
  rw [if_neg (by decide +kernel)]
  rfl
theorem putN_p2 : putN ("places" : Str) wF = wF := by decide +kernel
theorem putW_p2 (a b x : Dt) : putW ("places" : Str) x wF [a, b] = [x, b] := by
  unfold putW
  rw [if_pos rfl]
theorem putN_r2 : putN ("roads" : Str) wF = wF := by decide +kernel
theorem putW_r2 (a b x : Dt) : putW ("roads" : Str) x wF [a, b] = [a, x] := by
  unfold putW
  rw [if_neg (by decide +kernel)]
  unfold putW
  rw [if_pos rfl]
theorem frz_refI {n k : Nat} {S : Store} {c : String} {ns : List Str} {ds : List Dt} (hS : S[k]? = some (.ins c ns ds)) (hk : n ≤ k) (h : ds.all (noRef 11) = true) : frz n S deepF (.ref k) = some (.ins c ns ds) := by
  show frz n S (11 + 1) (.ref k) = _
  unfold frz
  rw [if_neg (by simp [noRef])]
  dsimp only
  rw [if_neg (by omega), hS]
  dsimp only
  rw [mapO_pure h]
  rfl
/-- the instance at k, by value -/
theorem v_finI {S T : Store} {k : Nat} {c : String} {ns : List Str} {ds : List Dt} {Q : Dt → Store → Prop} {X : Ex → Store → Prop} (j : Jz S T) (hp : PureS S) (hT : T[k]? = some (.ins c ns ds)) (hk : S.length ≤ k) (h : ds.all (noRef 11) = true) (q : Q (.ins c ns ds) S) : Pe (fin false S.length (.ref k) T) Q X := by
  have hl : k < T.length := (List.getElem?_eq_some_iff.mp hT).1
  refine v_finL (frz_refI hT hk h) (by omega) ?_ ?_
  · rw [j.eq]
    exact hp
  · rw [j.eq]
    exact q
theorem last_at {S : Store} {o : Ob} : (S ++ [o])[S.length]? = some o := by simp
theorem strs_pure (l : List Str) (k : Nat) : (l.map Dt.str).all (noRef k) = true := by
  rw [List.all_eq_true]
  intro x hx
  obtain ⟨s, _, rfl⟩ := List.mem_map.mp hx
  cases k <;> rfl
theorem road_pure (r : Road) (k : Nat) : noRef (k + 1) r.d = true := by
  show [Dt.str r.n, .str r.b, .str r.e, .int r.h, .int r.t].all (noRef k) = true
  cases k <;> rfl
theorem roads_pure (l : List Road) (k : Nat) : (l.map Road.d).all (noRef (k + 1)) = true := by
  rw [List.all_eq_true]
  intro x hx
  obtain ⟨s, _, rfl⟩ := List.mem_map.mp hx
  exact road_pure s k
theorem mod_pure (m : Mod) : [Dt.tup m.ysD, .tup m.rsD].all (noRef 11) = true := by
  simp only [List.all_cons, List.all_nil, Bool.and_true, Bool.and_eq_true]
  exact ⟨strs_pure m.ys 10, roads_pure m.rs 9⟩
section
variable {m : Mod} {S : Store}
theorem web_init_ok {k : Nat} (hS : S[k]? = some (.ins "Web" [] [])) {Q : Dt → Store → Prop} {X : Ex → Store → Prop} (q : Q .non (S.set k (.ins "Web" wF [.tup [], .tup []]))) : Pe (m_Web_dinit [.ref k] S) Q X := by
  refine v_fn ?_
  unfold b_Web_dinit
  walk_at "dv"
  refine ⟨_, setFld_ins hS (List.mem_singleton.mpr rfl) (by decide), ?_⟩
  walk_at "dv"
  refine ⟨_, setFld_ins (set_same hS) (List.mem_singleton.mpr rfl) (by decide), ?_⟩
  dsimp only
  refine v_fin (.inr (by simp)) ?_
  rw [List.set_set, show putN ("roads" : Str) (putN ("places" : Str) []) = wF from putN_r, show putW ("roads" : Str) (Dt.tup []) (putN ("places" : Str) []) (putW ("places" : Str) (Dt.tup []) [] []) = [Dt.tup [], Dt.tup []] from putW_r _ _]
  exact q
theorem turned_ok (hp : PureS S) {x a b : Dt} {ys : List Str} {rs : List Road} (ha : asS S a = some (ys.map Dt.str)) (hb : asS S b = some (rs.map Road.d)) (ht : ∀ T, asS (S ++ T) a = asS S a ∧ asS (S ++ T) b = asS S b) : m_Web_turned [x, a, b] S = .ok (Mod.mk ys rs).w S := by
  refine Pe.eq (v_fn ?_)
  unfold b_Web_turned
  walk_at "dv"
  refine web_init_ok last_at ⟨rfl, ?_⟩
  have e0 : (S ++ [Ob.ins "Web" [] []]).set S.length (.ins "Web" wF [.tup [], .tup []]) = S ++ [.ins "Web" wF [.tup [], .tup []]] := by
    rw [List.set_append_right _ _ (Nat.le_refl _), Nat.sub_self]
    rfl
  rw [e0]
  walk_at "dv"
  refine v_tuple ((ht _).1.trans ha) ?_
  walk_at "dv"
  refine v_tuple ((ht _).2.trans hb) ?_
  walk_at "dv"
  refine ⟨[some x, some a, some b, some (.ref S.length)], S ++ [.ins "Web" wF [.tup (ys.map Dt.str), .tup (rs.map Road.d)]], ?_, ?_⟩
  · have s1 : gFldD ["Web"] "places" (mVar 3) (.tup (ys.map Dt.str)) [some x, some a, some b, some (.ref S.length)] (S ++ [.ins "Web" wF [.tup [], .tup []]]) = some ([some x, some a, some b, some (.ref S.length)], S ++ [.ins "Web" wF [.tup (ys.map Dt.str), .tup []]]) := by
      unfold gFldD
      show (setFld ["Web"] "places" _ (.ref S.length) _).map _ = _
      rw [setFld_ins last_at (List.mem_singleton.mpr rfl) (by decide), putN_p2, putW_p2, List.set_append_right _ _ (Nat.le_refl _), Nat.sub_self]
      rfl
    have s2 : gFldD ["Web"] "roads" (mVar 3) (.tup (rs.map Road.d)) [some x, some a, some b, some (.ref S.length)] (S ++ [.ins "Web" wF [.tup (ys.map Dt.str), .tup []]]) = some ([some x, some a, some b, some (.ref S.length)], S ++ [.ins "Web" wF [.tup (ys.map Dt.str), .tup (rs.map Road.d)]]) := by
      unfold gFldD
      show (setFld ["Web"] "roads" _ (.ref S.length) _).map _ = _
      rw [setFld_ins last_at (List.mem_singleton.mpr rfl) (by decide), putN_r2, putW_r2, List.set_append_right _ _ (Nat.le_refl _), Nat.sub_self]
      rfl
    show (match gFldD ["Web"] "places" (mVar 3) (.tup (ys.map Dt.str)) [some x, some a, some b, some (.ref S.length)] (S ++ [.ins "Web" wF [.tup [], .tup []]]) with | some (e1, S1) => _ | none => none) = _
    rw [s1]
    show (match gFldD ["Web"] "roads" (mVar 3) (.tup (rs.map Road.d)) [some x, some a, some b, some (.ref S.length)] (S ++ [.ins "Web" wF [.tup (ys.map Dt.str), .tup []]]) with | some (e1, S1) => _ | none => none) = _
    rw [s2]
    rfl
  · walk_at "dv"
    exact v_finI Jz.refl.push hp last_at (Nat.le_refl _) (mod_pure ⟨ys, rs⟩) ⟨rfl, rfl⟩
end
end Lw
set_option Elab.async false
set_option linter.all false
set_option maxRecDepth 100000
set_option maxHeartbeats 4000000
set_option autoImplicit false
namespace Lw
open PySem Dv
/-! steps of our own words -/
local macro_rules | `(tactic| walk_at "num") => `(tactic| first | assumption | decide | omega)
local macro_rules | `(tactic| walk_at "dv0") => `(tactic| with_reducible first
  | refine v_seq ?_ | refine v_ifS ?_ | refine v_set ?_ | refine v_ret ?_ | refine v_asg ?_ | refine v_par ?_ | refine v_drop ?_ | refine v_nx ?_ | refine v_bk ?_ | refine v_ct ?_ | refine v_retN ?_ | refine v_for ?_
  | refine v_c ?_ | refine v_nil ?_ | refine v_cons ?_ | refine v_op ?_ | refine v_B ?_ | refine v_truth ?_ | refine v_andT ?_ | refine v_orT ?_ | refine v_notT ?_
  | refine v_andV ?_ | refine v_orV ?_ | refine v_notV ?_ | refine v_if ?_ | refine v_neg ?_ | refine v_chain ?_ | refine v_tup ?_ | refine v_lst ?_ | refine v_lstR ?_ | refine v_noPart ?_ | refine v_part ?_ | refine v_sl ?_
  | refine v_CB ?_ | refine v_call ?_ | refine v_abs ?_ | refine v_lc ?_ | refine v_yes ?_ | refine v_it ?_ | refine v_rng1 ?_ | refine v_rng2 ?_ | refine v_rng3 ?_ | refine v_T ?_ | refine v_F ?_
  | refine v_add ?_ | refine v_sub ?_ | refine v_iadd ?_ | refine v_lt ?_ | refine v_le ?_ | refine v_gt ?_ | refine v_ge ?_ | refine v_eqI ?_ | refine v_neI ?_ | refine v_eqB ?_ | refine v_neB ?_)
local macro_rules | `(tactic| walk_at "dv1") => `(tactic| first
  | (with_reducible refine' v_var ?h ?_); (case h => rfl)
  | (with_reducible refine' v_aug ?h ?_); (case h => rfl)
  | (with_reducible refine' v_div ?h1 ?h2 ?_); (case h1 => walk_at "num"); (case h2 => walk_at "num")
  | (with_reducible refine' v_mod ?h1 ?_); (case h1 => walk_at "num")
  | (with_reducible refine' v_pow ?h1 ?_); (case h1 => walk_at "num")
  | (with_reducible refine' v_mulR ?h1 ?_); (case h1 => walk_at "num")
  | (with_reducible refine' v_mulL ?h1 ?_); (case h1 => walk_at "num")
  | (with_reducible refine' v_fin ?h1 ?_); (case h1 => first | exact Or.inl rfl | exact Or.inr rfl | (refine Or.inr ?_; simp only [List.length_set, *]; done))
  | (with_reducible refine' v_ix ?h1 ?_); (case h1 => first | exact ixD_ref (by assumption) (by rfl) | rfl)
  | (with_reducible refine' v_len ?h1 ?_); (case h1 => first | exact lenD_ref (by assumption) | rfl)
  | (with_reducible refine' v_list ?h1 ?_); (case h1 => rfl)
  | (with_reducible refine' v_listR ?h1 ?_); (case h1 => rfl)
  | (with_reducible refine' v_tuple ?h1 ?_); (case h1 => rfl)
  | (with_reducible refine' v_isd ?h1 ?_); (case h1 => rfl)
  | (with_reducible refine' v_isiTy ?h1 ?h2 ?_); (case h1 => rfl); (case h2 => rfl)
  | (with_reducible refine' v_isiT ?h1 ?_); (case h1 => rfl))
local macro_rules | `(tactic| walk_at "dv2") => `(tactic| first
  | refine v_gsub (by rfl) (by rfl) (by assumption) (by rfl) (fun _ _ _ => ?_) | refine ⟨_, rfl, ?_⟩ | (with_reducible refine' ⟨rng_ok ?h1 ?h2, ?_⟩); (case h1 => omega); (case h2 => omega) | refine ⟨rfl, ?_⟩ | refine ⟨_, _, rfl, ?_⟩ | refine ⟨Nat.le_of_ble_eq_true rfl, ?_⟩)
local macro_rules | `(tactic| walk_at "dv3") => `(tactic| first
  | (with_reducible refine' v_dec (fun _ => ?_) (fun hn => absurd ?h hn)); (case h => first | assumption | omega | decide)
  | (with_reducible refine' v_dec (fun hn => absurd hn ?h) (fun _ => ?_)); (case h => first | assumption | omega | decide)
  | (with_reducible refine' v_ndec (fun _ => ?_) (fun hn => absurd hn ?h)); (case h => first | assumption | omega | decide)
  | (with_reducible refine' v_ndec (fun hn => absurd ?h hn) (fun _ => ?_)); (case h => first | assumption | omega | decide)
  | (with_reducible refine' v_bT ?h ?_); (case h => first | assumption | rfl)
  | (with_reducible refine' v_bF ?h ?_); (case h => first | assumption | rfl))
local macro_rules | `(tactic| walk_at "dv4") => `(tactic| with_reducible first
  | refine v_places ?_ | refine v_roads ?_ | refine v_over ?_ | refine v_line ?_ | refine v_spots ?_ | refine v_myards ?_ | refine v_mroads ?_ | refine v_mW (by decide +kernel) ?_ | refine v_mK (by decide +kernel) ?_
  | refine v_itX ?_ | refine v_ev ?_ | refine v_rev ?_ | refine v_zs ?_ | refine v_enum ?_ | refine v_enum2 ?_ | refine v_makeV ?_ | refine v_tryN ?_ | refine v_lc2 ?_ | refine v_fz ?_ | refine v_make ?_ | refine v_fldS ?_)
local macro_rules | `(tactic| walk_at "dv5") => `(tactic| first
  | refine ⟨_, _, rfl, rfl, ?_⟩ | refine ⟨⟨_, _, rfl⟩, ?_⟩ | refine ⟨⟨_, _, _, rfl⟩, ?_⟩ | refine ⟨_, _, _, rfl, ?_⟩ | refine Or.inl ⟨_, rfl, ?_⟩ | refine Or.inr ⟨_, (fun _ z => by cases z), rfl, ?_⟩)
local macro_rules | `(tactic| walk_at "dv") => `(tactic| repeat (first | walk_at "dv0" | walk_at "dv4" | walk_at "dv1" | walk_at "dv3" | walk_at "dv2" | walk_at "dv5"))
/-! ### names, yards and passages more -/
def letters : Str := "abcdefghijklmnopqrstuvwxyz"
def nameOk (s : Str) : Bool := decide (1 ≤ s.length) && decide (s.length ≤ 8) && s.cps.toList.all fun c => decide (c ∈ letters.cps.toList)
theorem signs_true (l : List Nat) : (l.map fun c => Dt.str ⟨#[c]⟩).filterMap (fun _ => some (Dt.bl true)) = List.replicate l.length (Dt.bl true) := by
  induction l with
  | nil => rfl
  | cons c l ih =>
    rw [List.map_cons, List.filterMap_cons, ih]
    rfl
theorem len_cps (s : Str) : s.cps.toList.length = s.length := by
  rw [Array.length_toList]
  rfl
section
variable {m : Mod} {S : Store}
theorem is_name_ok {s : Str} (h : nameOk s = true) : m_is_name [.str s] S = .ok (.bl true) S := by
  unfold nameOk at h
  rw [Bool.and_eq_true, Bool.and_eq_true] at h
  have h1 : 1 ≤ s.length := of_decide_eq_true h.1.1
  have h2 : s.length ≤ 8 := of_decide_eq_true h.1.2
  refine Pe.eq (v_fn ?_)
  unfold b_is_name
  walk_at "dv"
  refine v_len (n := s.length) (if_pos (by omega)) ?_
  refine v_le ?_
  refine ⟨true, by rw [decide_eq_true (by omega : (1 : Int) ≤ (s.length : Int))], ?_⟩
  walk_at "dv"
  refine v_cloop (fun _ => some (.bl true)) (fun d hd => ?_) ?_ ?_
  · obtain ⟨c, hc, rfl⟩ := List.mem_map.mp hd
    refine ⟨_, rfl, v_yes ⟨rfl, v_T ?_⟩⟩
    walk_at "dv"
    have hin : c ∈ letters.cps.toList := of_decide_eq_true (List.all_eq_true.mp h.2 c hc)
    show some (Dt.bl true) = some (Dt.bl (decide (c ∈ letters.cps.toList)))
    rw [decide_eq_true hin]
  · unfold strs1
    rw [List.length_map, len_cps, List.length_nil]
    omega
  · rw [List.nil_append, strs1, signs_true]
    walk_at "dv"
    unfold mAll
    simp only [asL, Option.bind_some, all_true]
    refine v_ok ?_
    walk_at "dv"
    simp
theorem in_strs (x : Str) : ∀ l : List Str, ((l.map Dt.str).any fun z => eqD z (.str x)) = decide (x ∈ l)
  | [] => rfl
  | y :: l => by
    rw [List.map_cons, List.any_cons, in_strs x l]
    show ((y == x) || _) = _
    rw [str_eq, ← Bool.decide_or]
    congr 1
    simp only [List.mem_cons, eq_comm]
theorem flat_strs (l : List Str) : (l.map Dt.str).all flatD = true := by
  rw [List.all_eq_true]
  intro d hd
  obtain ⟨s, _, rfl⟩ := List.mem_map.mp hd
  rfl
theorem v_inS {neg : Bool} {x : Str} {l : List Str} {y : Dt} {Q : Dt → Store → Prop} {X : Ex → Store → Prop} (hy : ∀ s, y ≠ .str s) (ha : asS S y = some (l.map Dt.str)) (q : Q (.bl (if neg then !decide (x ∈ l) else decide (x ∈ l))) S) : Pe (mIn neg (.str x) y S) Q X := by
  have e : mIn neg (.str x) y S = .ok (.bl (if neg then !decide (x ∈ l) else decide (x ∈ l))) S := by
    unfold mIn
    split
    · rename_i b
      exact absurd rfl (hy b)
    · rw [ha]
      dsimp only
      rw [if_pos ⟨rfl, flat_strs l⟩, in_strs]
  rw [e]
  exact q
theorem need_yard_ok {y : Str} (h : y ∈ m.ys) : m_Web_need_yard [m.w, .str y] S = .ok .non S := by
  refine Pe.eq (v_fn ?_)
  unfold b_Web_need_yard
  walk_at "dv"
  refine v_inS (l := m.ys) (fun s z => by cases z) rfl ?_
  refine ⟨_, rfl, ?_⟩
  refine v_bF (by rw [decide_eq_true h]; rfl) ?_
  walk_at "dv"
  first | exact ⟨rfl, rfl⟩ | exact rfl
theorem need_new_ok {y : Str} (hl : m.rs.length ≤ 100) (hn : nameOk y = true) (h1 : y ∉ m.ys) (h2 : y ∉ m.rs.map Road.n) : m_Web_need_new [m.w, .str y] S = .ok .non S := by
  refine Pe.eq (v_fn ?_)
  unfold b_Web_need_new
  walk_at "dv"
  refine Pe.of (is_name_ok hn) ?_
  walk_at "dv"
  refine v_inS (l := m.ys) (fun s z => by cases z) rfl ?_
  refine ⟨_, rfl, ?_⟩
  refine v_bF (by rw [decide_eq_false h1]; rfl) ?_
  walk_at "dv"
  refine v_cloop (fun d => match d with | .tup (x :: _) => some x | _ => none) (fun d hd => ?_) ?_ ?_
  · obtain ⟨r, hr, rfl⟩ := List.mem_map.mp hd
    refine ⟨_, rfl, v_yes ⟨rfl, v_T ?_⟩⟩
    walk_at "dv"
    first | exact ⟨rfl, rfl⟩ | exact rfl
  · simp
    omega
  · have e : m.rsD.filterMap (fun d => match d with | .tup (x :: _) => some x | _ => none) = (m.rs.map Road.n).map Dt.str := by
      show (m.rs.map Road.d).filterMap _ = _
      induction m.rs with
      | nil => rfl
      | cons r l ih =>
        rw [List.map_cons, List.filterMap_cons, ih]
        rfl
    rw [List.nil_append, e]
    refine v_inS (l := m.rs.map Road.n) (fun s z => by cases z) rfl ?_
    refine ⟨_, rfl, ?_⟩
    refine v_bF (by rw [decide_eq_false h2]; rfl) ?_
    walk_at "dv"
    first | exact ⟨rfl, rfl⟩ | exact rfl
theorem with_yard_ok (hp : PureS S) {y : Str} (hl : m.rs.length ≤ 100) (hn : nameOk y = true) (h1 : y ∉ m.ys) (h2 : y ∉ m.rs.map Road.n) (h6 : m.ys.length < 6) : m_Web_with_yard [m.w, .str y] S = .ok (Mod.mk (m.ys ++ [y]) m.rs).w S := by
  refine Pe.eq (v_fn ?_)
  unfold b_Web_with_yard
  walk_at "dv"
  refine Pe.of (need_new_ok hl hn h1 h2) ?_
  walk_at "dv"
  refine v_dec (fun z => ?_) (fun _ => ?_)
  · exfalso
    simp at z
    omega
  walk_at "dv"
  refine v_ifok (by simp; omega) ?_
  walk_at "dv"
  refine Pe.of (turned_ok hp (ys := m.ys ++ [y]) (rs := m.rs) (by simp [asS]) rfl fun T => ⟨rfl, rfl⟩) ?_
  walk_at "dv"
  first | exact ⟨rfl, rfl⟩ | exact rfl
theorem is_whole_ok {i lo hi : Int} (h1 : lo ≤ i) (h2 : i ≤ hi) : m_is_whole [.int i, .int lo, .int hi] S = .ok (.bl true) S := by
  refine Pe.eq (v_fn ?_)
  unfold b_is_whole
  walk_at "dv"
  rw [decide_eq_true h2]
  exact ⟨rfl, rfl⟩
theorem need_turns_ok {i : Int} (h0 : i ≠ 0) (h : i.natAbs ≤ 99) : m_need_turns [.int i] S = .ok .non S := by
  refine Pe.eq (v_fn ?_)
  unfold b_need_turns
  walk_at "dv"
  refine Pe.of (is_whole_ok (by omega) (by omega)) ?_
  walk_at "dv"
  first | exact ⟨rfl, rfl⟩ | exact rfl
end
end Lw
set_option Elab.async false
set_option linter.all false
set_option maxRecDepth 100000
set_option maxHeartbeats 4000000
set_option autoImplicit false
namespace Lw
open PySem Dv
/-! steps of our own words -/
local macro_rules | `(tactic| walk_at "num") => `(tactic| first | assumption | decide | omega)
local macro_rules | `(tactic| walk_at "dv0") => `(tactic| with_reducible first
  | refine v_seq ?_ | refine v_ifS ?_ | refine v_set ?_ | refine v_ret ?_ | refine v_asg ?_ | refine v_par ?_ | refine v_drop ?_ | refine v_nx ?_ | refine v_bk ?_ | refine v_ct ?_ | refine v_retN ?_ | refine v_for ?_
  | refine v_c ?_ | refine v_nil ?_ | refine v_cons ?_ | refine v_op ?_ | refine v_B ?_ | refine v_truth ?_ | refine v_andT ?_ | refine v_orT ?_ | refine v_notT ?_
  | refine v_andV ?_ | refine v_orV ?_ | refine v_notV ?_ | refine v_if ?_ | refine v_neg ?_ | refine v_chain ?_ | refine v_tup ?_ | refine v_lst ?_ | refine v_lstR ?_ | refine v_noPart ?_ | refine v_part ?_ | refine v_sl ?_
  | refine v_CB ?_ | refine v_call ?_ | refine v_abs ?_ | refine v_lc ?_ | refine v_yes ?_ | refine v_it ?_ | refine v_rng1 ?_ | refine v_rng2 ?_ | refine v_rng3 ?_ | refine v_T ?_ | refine v_F ?_
  | refine v_add ?_ | refine v_sub ?_ | refine v_iadd ?_ | refine v_lt ?_ | refine v_le ?_ | refine v_gt ?_ | refine v_ge ?_ | refine v_eqI ?_ | refine v_neI ?_ | refine v_eqB ?_ | refine v_neB ?_)
local macro_rules | `(tactic| walk_at "dv1") => `(tactic| first
  | (with_reducible refine' v_var ?h ?_); (case h => rfl)
  | (with_reducible refine' v_aug ?h ?_); (case h => rfl)
  | (with_reducible refine' v_div ?h1 ?h2 ?_); (case h1 => walk_at "num"); (case h2 => walk_at "num")
  | (with_reducible refine' v_mod ?h1 ?_); (case h1 => walk_at "num")
  | (with_reducible refine' v_pow ?h1 ?_); (case h1 => walk_at "num")
  | (with_reducible refine' v_mulR ?h1 ?_); (case h1 => walk_at "num")
  | (with_reducible refine' v_mulL ?h1 ?_); (case h1 => walk_at "num")
  | (with_reducible refine' v_fin ?h1 ?_); (case h1 => first | exact Or.inl rfl | exact Or.inr rfl | (refine Or.inr ?_; simp only [List.length_set, *]; done))
  | (with_reducible refine' v_ix ?h1 ?_); (case h1 => first | exact ixD_ref (by assumption) (by rfl) | rfl)
  | (with_reducible refine' v_len ?h1 ?_); (case h1 => first | exact lenD_ref (by assumption) | rfl)
  | (with_reducible refine' v_list ?h1 ?_); (case h1 => rfl)
  | (with_reducible refine' v_listR ?h1 ?_); (case h1 => rfl)
  | (with_reducible refine' v_tuple ?h1 ?_); (case h1 => rfl)
  | (with_reducible refine' v_isd ?h1 ?_); (case h1 => rfl)
  | (with_reducible refine' v_isiTy ?h1 ?h2 ?_); (case h1 => rfl); (case h2 => rfl)
  | (with_reducible refine' v_isiT ?h1 ?_); (case h1 => rfl))
local macro_rules | `(tactic| walk_at "dv2") => `(tactic| first
  | refine v_gsub (by rfl) (by rfl) (by assumption) (by rfl) (fun _ _ _ => ?_) | refine ⟨_, rfl, ?_⟩ | (with_reducible refine' ⟨rng_ok ?h1 ?h2, ?_⟩); (case h1 => omega); (case h2 => omega) | refine ⟨rfl, ?_⟩ | refine ⟨_, _, rfl, ?_⟩ | refine ⟨Nat.le_of_ble_eq_true rfl, ?_⟩)
local macro_rules | `(tactic| walk_at "dv3") => `(tactic| first
  | (with_reducible refine' v_dec (fun _ => ?_) (fun hn => absurd ?h hn)); (case h => first | assumption | omega | decide)
  | (with_reducible refine' v_dec (fun hn => absurd hn ?h) (fun _ => ?_)); (case h => first | assumption | omega | decide)
  | (with_reducible refine' v_ndec (fun _ => ?_) (fun hn => absurd hn ?h)); (case h => first | assumption | omega | decide)
  | (with_reducible refine' v_ndec (fun hn => absurd ?h hn) (fun _ => ?_)); (case h => first | assumption | omega | decide)
  | (with_reducible refine' v_bT ?h ?_); (case h => first | assumption | rfl)
  | (with_reducible refine' v_bF ?h ?_); (case h => first | assumption | rfl))
local macro_rules | `(tactic| walk_at "dv4") => `(tactic| with_reducible first
  | refine v_places ?_ | refine v_roads ?_ | refine v_over ?_ | refine v_line ?_ | refine v_spots ?_ | refine v_myards ?_ | refine v_mroads ?_ | refine v_mW (by decide +kernel) ?_ | refine v_mK (by decide +kernel) ?_
  | refine v_itX ?_ | refine v_ev ?_ | refine v_rev ?_ | refine v_zs ?_ | refine v_enum ?_ | refine v_enum2 ?_ | refine v_makeV ?_ | refine v_tryN ?_ | refine v_lc2 ?_ | refine v_fz ?_ | refine v_make ?_ | refine v_fldS ?_)
local macro_rules | `(tactic| walk_at "dv5") => `(tactic| first
  | refine ⟨_, _, rfl, rfl, ?_⟩ | refine ⟨⟨_, _, rfl⟩, ?_⟩ | refine ⟨⟨_, _, _, rfl⟩, ?_⟩ | refine ⟨_, _, _, rfl, ?_⟩ | refine Or.inl ⟨_, rfl, ?_⟩ | refine Or.inr ⟨_, (fun _ z => by cases z), rfl, ?_⟩)
local macro_rules | `(tactic| walk_at "dv") => `(tactic| repeat (first | walk_at "dv0" | walk_at "dv4" | walk_at "dv1" | walk_at "dv3" | walk_at "dv2" | walk_at "dv5"))
/-! ### whole webs -/
structure Mod.Nm (m : Mod) : Prop where
  ny : ∀ y ∈ m.ys, nameOk y = true
  nr : ∀ r ∈ m.rs, nameOk r.n = true
section
variable {m : Mod} {S : Store}
theorem with_passage_ok (hp : PureS S) {r : Road} (hn : nameOk r.n = true) (h1 : r.n ∉ m.ys) (h2 : r.n ∉ m.rs.map Road.n) (hb : r.b ∈ m.ys) (he : r.e ∈ m.ys) (hh : r.h ≠ 0 ∧ r.h.natAbs ≤ 99) (ht : r.t ≠ 0 ∧ r.t.natAbs ≤ 99) (h8 : m.rs.length < 8) :
    m_Web_with_passage [m.w, .str r.n, .str r.b, .str r.e, .int r.h, .int r.t] S = .ok (Mod.mk m.ys (m.rs ++ [r])).w S := by
  refine Pe.eq (v_fn ?_)
  unfold b_Web_with_passage
  walk_at "dv"
  refine Pe.of (need_new_ok (by omega) hn h1 h2) ?_
  walk_at "dv"
  refine v_loop1 ⟨_, _, rfl, ?_⟩
  walk_at "dv"
  refine Pe.of (need_yard_ok hb) ?_
  refine v_loop1 ⟨_, _, rfl, ?_⟩
  walk_at "dv"
  refine Pe.of (need_yard_ok he) ?_
  refine v_loop0 ?_
  walk_at "dv"
  refine v_loop1 ⟨_, _, rfl, ?_⟩
  walk_at "dv"
  refine Pe.of (need_turns_ok hh.1 hh.2) ?_
  refine v_loop1 ⟨_, _, rfl, ?_⟩
  walk_at "dv"
  refine Pe.of (need_turns_ok ht.1 ht.2) ?_
  refine v_loop0 ?_
  walk_at "dv"
  refine v_dec (fun z => ?_) (fun _ => ?_)
  · exfalso
    simp at z
    omega
  walk_at "dv"
  refine v_ifok (by simp; omega) ?_
  walk_at "dv"
  refine Pe.of (turned_ok hp (ys := m.ys) (rs := m.rs ++ [r]) rfl (by simp [asS]) fun T => ⟨rfl, rfl⟩) ?_
  walk_at "dv"
  first | exact ⟨rfl, rfl⟩ | exact rfl
theorem law_web_ok (ok : m.Ok) (nm : m.Nm) (hp : PureS S) : m_law_web [m.d] S = .ok m.w S := by
  have nd := List.nodup_append.mp ok.nd
  refine Pe.eq (v_fn ?_)
  unfold b_law_web
  walk_at "dv"
  refine web_init_ok last_at ⟨rfl, ?_⟩
  refine v_finI (Jz.refl.push.set (Nat.le_refl _)) hp (set_same last_at) (Nat.le_refl _) (mod_pure ⟨[], []⟩) ?_
  walk_at "dv"
  refine v_loop (fun ds en S' => ∃ (a b : List Str) (x : Option Dt), m.ys = a ++ b ∧ ds = b.map Dt.str ∧ en = [some m.d, some (Mod.mk a []).w, x, none, none, none, none, none] ∧ S = S') ⟨[], m.ys, _, rfl, rfl, rfl, rfl⟩ ?_ ?_
  · rintro d ds en S' ⟨a, b, x, e1, e2, rfl, rfl⟩
    cases b with
    | nil => cases e2
    | cons y b =>
      cases e2
      have hy : y ∈ m.ys := by rw [e1]; simp
      have hna : y ∉ a := fun z => by
        have q := nd.1
        rw [e1, List.nodup_append] at q
        exact q.2.2 y z y List.mem_cons_self rfl
      have hl : a.length < 6 := by
        have := ok.ly
        rw [e1, List.length_append, List.length_cons] at this
        omega
      refine ⟨_, _, rfl, ?_⟩
      walk_at "dv"
      refine Pe.of (with_yard_ok (m := ⟨a, []⟩) hp (by simp) (nm.ny y hy) hna (by simp) hl) ?_
      refine ⟨a ++ [y], b, _, by rw [e1]; simp, rfl, rfl, rfl⟩
  · rintro en S' ⟨a, b, x, e1, e2, rfl, rfl⟩
    have hb : b = [] := by simpa using e2.symm
    subst hb
    rw [List.append_nil] at e1
    subst e1
    walk_at "dv"
    refine v_loop (fun ds en S' => ∃ (a b : List Road) (x1 x2 x3 x4 x5 x6 : Option Dt), m.rs = a ++ b ∧ ds = b.map Road.d ∧ en = [some m.d, some (Mod.mk m.ys a).w, x1, x2, x3, x4, x5, x6] ∧ S = S') ⟨[], m.rs, _, _, _, _, _, _, rfl, rfl, rfl, rfl⟩ ?_ ?_
    · rintro d ds en S' ⟨a, b, x1, x2, x3, x4, x5, x6, e1, e2, rfl, rfl⟩
      cases b with
      | nil => cases e2
      | cons r b =>
        cases e2
        have hr : r ∈ m.rs := by rw [e1]; simp
        have h1 : r.n ∉ m.ys := fun z => nd.2.2 _ z _ (List.mem_map_of_mem hr) rfl
        have h2 : r.n ∉ a.map Road.n := fun z => by
          have q := nd.2.1
          rw [e1, List.map_append, List.nodup_append] at q
          exact q.2.2 _ z _ (List.mem_map_of_mem List.mem_cons_self) rfl
        have hl : a.length < 8 := by
          have := ok.lr
          rw [e1, List.length_append, List.length_cons] at this
          omega
        refine ⟨_, _, rfl, ?_⟩
        walk_at "dv"
        refine v_methK ?_
        walk_at "dv"
        refine ⟨⟨_, _, rfl, by decide +kernel⟩, ?_⟩
        walk_at "dv"
        refine ⟨⟨rfl, rfl, rfl⟩, ?_⟩
        refine Pe.of (with_passage_ok (m := ⟨m.ys, a⟩) (r := r) hp (nm.nr r hr) h1 h2 (ok.en r hr).1 (ok.en r hr).2 (ok.th r hr).1 (ok.th r hr).2 hl) ?_
        exact ⟨a ++ [r], b, _, _, _, _, _, _, by rw [e1]; simp, rfl, rfl, rfl⟩
    · rintro en S' ⟨a, b, x1, x2, x3, x4, x5, x6, e1, e2, rfl, rfl⟩
      have hb : b = [] := by simpa using e2.symm
      subst hb
      rw [List.append_nil] at e1
      walk_at "dv"
      refine ⟨?_, rfl⟩
      rw [← e1]
end
end Lw
set_option Elab.async false
set_option linter.all false
set_option maxRecDepth 100000
set_option maxHeartbeats 4000000
set_option autoImplicit false
namespace Lw
open PySem Dv
/-! steps of our own words -/
local macro_rules | `(tactic| walk_at "num") => `(tactic| first | assumption | decide | omega)
local macro_rules | `(tactic| walk_at "dv0") => `(tactic| with_reducible first
  | refine v_seq ?_ | refine v_ifS ?_ | refine v_set ?_ | refine v_ret ?_ | refine v_asg ?_ | refine v_par ?_ | refine v_drop ?_ | refine v_nx ?_ | refine v_bk ?_ | refine v_ct ?_ | refine v_retN ?_ | refine v_for ?_
  | refine v_c ?_ | refine v_nil ?_ | refine v_cons ?_ | refine v_op ?_ | refine v_B ?_ | refine v_truth ?_ | refine v_andT ?_ | refine v_orT ?_ | refine v_notT ?_
  | refine v_andV ?_ | refine v_orV ?_ | refine v_notV ?_ | refine v_if ?_ | refine v_neg ?_ | refine v_chain ?_ | refine v_tup ?_ | refine v_lst ?_ | refine v_lstR ?_ | refine v_noPart ?_ | refine v_part ?_ | refine v_sl ?_
  | refine v_CB ?_ | refine v_call ?_ | refine v_abs ?_ | refine v_lc ?_ | refine v_yes ?_ | refine v_it ?_ | refine v_rng1 ?_ | refine v_rng2 ?_ | refine v_rng3 ?_ | refine v_T ?_ | refine v_F ?_
  | refine v_add ?_ | refine v_sub ?_ | refine v_iadd ?_ | refine v_lt ?_ | refine v_le ?_ | refine v_gt ?_ | refine v_ge ?_ | refine v_eqI ?_ | refine v_neI ?_ | refine v_eqB ?_ | refine v_neB ?_)
local macro_rules | `(tactic| walk_at "dv1") => `(tactic| first
  | (with_reducible refine' v_var ?h ?_); (case h => rfl)
  | (with_reducible refine' v_aug ?h ?_); (case h => rfl)
  | (with_reducible refine' v_div ?h1 ?h2 ?_); (case h1 => walk_at "num"); (case h2 => walk_at "num")
  | (with_reducible refine' v_mod ?h1 ?_); (case h1 => walk_at "num")
  | (with_reducible refine' v_pow ?h1 ?_); (case h1 => walk_at "num")
  | (with_reducible refine' v_mulR ?h1 ?_); (case h1 => walk_at "num")
  | (with_reducible refine' v_mulL ?h1 ?_); (case h1 => walk_at "num")
  | (with_reducible refine' v_fin ?h1 ?_); (case h1 => first | exact Or.inl rfl | exact Or.inr rfl | (refine Or.inr ?_; simp only [List.length_set, *]; done))
  | (with_reducible refine' v_ix ?h1 ?_); (case h1 => first | exact ixD_ref (by assumption) (by rfl) | rfl)
  | (with_reducible refine' v_len ?h1 ?_); (case h1 => first | exact lenD_ref (by assumption) | rfl)
  | (with_reducible refine' v_list ?h1 ?_); (case h1 => rfl)
  | (with_reducible refine' v_listR ?h1 ?_); (case h1 => rfl)
  | (with_reducible refine' v_tuple ?h1 ?_); (case h1 => rfl)
  | (with_reducible refine' v_isd ?h1 ?_); (case h1 => rfl)
  | (with_reducible refine' v_isiTy ?h1 ?h2 ?_); (case h1 => rfl); (case h2 => rfl)
  | (with_reducible refine' v_isiT ?h1 ?_); (case h1 => rfl))
local macro_rules | `(tactic| walk_at "dv2") => `(tactic| first
  | refine v_gsub (by rfl) (by rfl) (by assumption) (by rfl) (fun _ _ _ => ?_) | refine ⟨_, rfl, ?_⟩ | (with_reducible refine' ⟨rng_ok ?h1 ?h2, ?_⟩); (case h1 => omega); (case h2 => omega) | refine ⟨rfl, ?_⟩ | refine ⟨_, _, rfl, ?_⟩ | refine ⟨Nat.le_of_ble_eq_true rfl, ?_⟩)
local macro_rules | `(tactic| walk_at "dv3") => `(tactic| first
  | (with_reducible refine' v_dec (fun _ => ?_) (fun hn => absurd ?h hn)); (case h => first | assumption | omega | decide)
  | (with_reducible refine' v_dec (fun hn => absurd hn ?h) (fun _ => ?_)); (case h => first | assumption | omega | decide)
  | (with_reducible refine' v_ndec (fun _ => ?_) (fun hn => absurd hn ?h)); (case h => first | assumption | omega | decide)
  | (with_reducible refine' v_ndec (fun hn => absurd ?h hn) (fun _ => ?_)); (case h => first | assumption | omega | decide)
  | (with_reducible refine' v_bT ?h ?_); (case h => first | assumption | rfl)
  | (with_reducible refine' v_bF ?h ?_); (case h => first | assumption | rfl))
local macro_rules | `(tactic| walk_at "dv4") => `(tactic| with_reducible first
  | refine v_places ?_ | refine v_roads ?_ | refine v_over ?_ | refine v_line ?_ | refine v_spots ?_ | refine v_myards ?_ | refine v_mroads ?_ | refine v_mW (by decide +kernel) ?_ | refine v_mK (by decide +kernel) ?_
  | refine v_itX ?_ | refine v_ev ?_ | refine v_rev ?_ | refine v_zs ?_ | refine v_enum ?_ | refine v_enum2 ?_ | refine v_makeV ?_ | refine v_tryN ?_ | refine v_lc2 ?_ | refine v_fz ?_ | refine v_make ?_ | refine v_fldS ?_)
local macro_rules | `(tactic| walk_at "dv5") => `(tactic| first
  | refine ⟨_, _, rfl, rfl, ?_⟩ | refine ⟨⟨_, _, rfl⟩, ?_⟩ | refine ⟨⟨_, _, _, rfl⟩, ?_⟩ | refine ⟨_, _, _, rfl, ?_⟩ | refine Or.inl ⟨_, rfl, ?_⟩ | refine Or.inr ⟨_, (fun _ z => by cases z), rfl, ?_⟩)
local macro_rules | `(tactic| walk_at "dv") => `(tactic| repeat (first | walk_at "dv0" | walk_at "dv4" | walk_at "dv1" | walk_at "dv3" | walk_at "dv2" | walk_at "dv5"))
/-! ### rows and walks -/
abbrev Seg := List (Step × Int)
def segD (l : Seg) : List Dt := l.flatMap fun p => [stD p.1, .int p.2]
abbrev rowD (t : Int) (l : Seg) : List Dt := .int t :: segD l
theorem segD_cons (p : Step × Int) (l : Seg) : segD (p :: l) = stD p.1 :: rowD p.2 l := rfl
theorem segD_len (l : Seg) : (segD l).length = 2 * l.length := by
  induction l with
  | nil => rfl
  | cons p l ih =>
    rw [segD_cons, List.length_cons, List.length_cons, ih, List.length_cons]
    omega
theorem segD_app (a b : Seg) : segD (a ++ b) = segD a ++ segD b := by
  unfold segD
  rw [List.flatMap_append]
inductive Path (m : Mod) : Str → Seg → Str → Prop
  | nil (y : Str) : Path m y [] y
  | cons {y : Str} {s : Step} {t : Int} {l : Seg} {z : Str} {r : Road} : m.road s.1 = some r → (s.2 = 1 ∨ s.2 = -1) → (r.ends s.2).1 = y → Path m (r.ends s.2).2 l z → Path m y ((s, t) :: l) z
def goes (m : Mod) (s : Step) : Str := match m.road s.1 with
  | some r => (r.ends s.2).2
  | none => s.1
def spots (m : Mod) (y : Str) (l : Seg) : List Str := y :: l.map fun p => goes m p.1
/-- the turns stay within -/
def Within (B : Nat) (l : Seg) : Prop := ∀ p ∈ l, p.2.natAbs ≤ B
theorem Path.app {m : Mod} {y z w : Str} {a b : Seg} (h : Path m y a z) (k : Path m z b w) : Path m y (a ++ b) w := by
  induction h with
  | nil y => exact k
  | cons h1 h2 h3 _ ih => exact .cons h1 h2 h3 (ih k)
theorem Path.one {m : Mod} {y : Str} {s : Step} {t : Int} {r : Road} (h1 : m.road s.1 = some r) (h2 : s.2 = 1 ∨ s.2 = -1) (h3 : (r.ends s.2).1 = y) : Path m y [(s, t)] (r.ends s.2).2 := .cons h1 h2 h3 (.nil _)
theorem Path.str {m : Mod} {y z : Str} {l : Seg} (h : Path m y l z) (ok : m.Ok) : ∀ p ∈ l, PyData.strOk p.1.1 = true := by
  induction h with
  | nil y => intro p hp; cases hp
  | cons h1 h2 h3 _ ih =>
    intro p hp
    rcases List.mem_cons.mp hp with e | hp
    · subst e
      obtain ⟨hr, e⟩ := road_in h1
      rw [← e]
      exact (ok.sr _ hr).1
    · exact ih p hp
theorem ends_in {m : Mod} (ok : m.Ok) {n : Str} {r : Road} (h : m.road n = some r) (w : Int) : (r.ends w).1 ∈ m.ys ∧ (r.ends w).2 ∈ m.ys := by
  obtain ⟨hr, _⟩ := road_in h
  have := ok.en r hr
  unfold Road.ends
  split
  · exact this
  · exact ⟨this.2, this.1⟩
theorem Path.to_in {m : Mod} (ok : m.Ok) {y z : Str} {l : Seg} (h : Path m y l z) (hy : y ∈ m.ys) : z ∈ m.ys := by
  induction h with
  | nil y => exact hy
  | cons h1 h2 h3 _ ih => exact ih (ends_in ok h1 _).2
theorem spots_last {m : Mod} {y z : Str} {l : Seg} (h : Path m y l z) : (spots m y l).getLast? = some z := by
  induction h with
  | nil y => rfl
  | @cons y s t l z r h1 h2 h3 p ih =>
    have e : goes m s = (r.ends s.2).2 := by simp [goes, h1]
    show (y :: goes m s :: l.map fun p => goes m p.1).getLast? = some z
    rw [e, List.getLast?_cons_cons]
    exact ih
theorem segD_pure (l : Seg) (k : Nat) : (segD l).all (noRef (k + 1)) = true := by
  rw [List.all_eq_true]
  intro x hx
  obtain ⟨p, _, h⟩ := List.mem_flatMap.mp hx
  simp only [List.mem_cons, List.not_mem_nil, or_false] at h
  rcases h with rfl | rfl
  · show [Dt.str p.1.1, .int p.1.2].all (noRef k) = true
    cases k <;> rfl
  · rfl
theorem rowD_pure (t : Int) (l : Seg) (k : Nat) : (rowD t l).all (noRef (k + 1)) = true := by
  rw [List.all_cons, segD_pure]
  rfl
section
variable {m : Mod} {S : Store}
theorem last_ix {xs : List Dt} {x : Dt} (h : xs.getLast? = some x) : L2.atI xs (-1) = some x := by
  have hn : xs ≠ [] := by rintro rfl; cases h
  have hl := List.length_pos_iff.mpr hn
  rw [List.getLast?_eq_getElem?] at h
  have e : L2.ixN xs.length (-1) = some (xs.length - 1) := by
    unfold L2.ixN
    rw [if_neg (by decide)]
    rw [if_pos (by omega)]
    congr 1
    omega
  unfold L2.atI
  rw [e]
  exact h
end
end Lw
set_option Elab.async false
set_option linter.all false
set_option maxRecDepth 100000
set_option maxHeartbeats 4000000
set_option autoImplicit false
namespace Lw
open PySem Dv
/-! steps of our own words -/
local macro_rules | `(tactic| walk_at "num") => `(tactic| first | assumption | decide | omega)
local macro_rules | `(tactic| walk_at "dv0") => `(tactic| with_reducible first
  | refine v_seq ?_ | refine v_ifS ?_ | refine v_set ?_ | refine v_ret ?_ | refine v_asg ?_ | refine v_par ?_ | refine v_drop ?_ | refine v_nx ?_ | refine v_bk ?_ | refine v_ct ?_ | refine v_retN ?_ | refine v_for ?_
  | refine v_c ?_ | refine v_nil ?_ | refine v_cons ?_ | refine v_op ?_ | refine v_B ?_ | refine v_truth ?_ | refine v_andT ?_ | refine v_orT ?_ | refine v_notT ?_
  | refine v_andV ?_ | refine v_orV ?_ | refine v_notV ?_ | refine v_if ?_ | refine v_neg ?_ | refine v_chain ?_ | refine v_tup ?_ | refine v_lst ?_ | refine v_lstR ?_ | refine v_noPart ?_ | refine v_part ?_ | refine v_sl ?_
  | refine v_CB ?_ | refine v_call ?_ | refine v_abs ?_ | refine v_lc ?_ | refine v_yes ?_ | refine v_it ?_ | refine v_rng1 ?_ | refine v_rng2 ?_ | refine v_rng3 ?_ | refine v_T ?_ | refine v_F ?_
  | refine v_add ?_ | refine v_sub ?_ | refine v_iadd ?_ | refine v_lt ?_ | refine v_le ?_ | refine v_gt ?_ | refine v_ge ?_ | refine v_eqI ?_ | refine v_neI ?_ | refine v_eqB ?_ | refine v_neB ?_)
local macro_rules | `(tactic| walk_at "dv1") => `(tactic| first
  | (with_reducible refine' v_var ?h ?_); (case h => rfl)
  | (with_reducible refine' v_aug ?h ?_); (case h => rfl)
  | (with_reducible refine' v_div ?h1 ?h2 ?_); (case h1 => walk_at "num"); (case h2 => walk_at "num")
  | (with_reducible refine' v_mod ?h1 ?_); (case h1 => walk_at "num")
  | (with_reducible refine' v_pow ?h1 ?_); (case h1 => walk_at "num")
  | (with_reducible refine' v_mulR ?h1 ?_); (case h1 => walk_at "num")
  | (with_reducible refine' v_mulL ?h1 ?_); (case h1 => walk_at "num")
  | (with_reducible refine' v_fin ?h1 ?_); (case h1 => first | exact Or.inl rfl | exact Or.inr rfl | (refine Or.inr ?_; simp only [List.length_set, *]; done))
  | (with_reducible refine' v_ix ?h1 ?_); (case h1 => first | exact ixD_ref (by assumption) (by rfl) | rfl)
  | (with_reducible refine' v_len ?h1 ?_); (case h1 => first | exact lenD_ref (by assumption) | rfl)
  | (with_reducible refine' v_list ?h1 ?_); (case h1 => rfl)
  | (with_reducible refine' v_listR ?h1 ?_); (case h1 => rfl)
  | (with_reducible refine' v_tuple ?h1 ?_); (case h1 => rfl)
  | (with_reducible refine' v_isd ?h1 ?_); (case h1 => rfl)
  | (with_reducible refine' v_isiTy ?h1 ?h2 ?_); (case h1 => rfl); (case h2 => rfl)
  | (with_reducible refine' v_isiT ?h1 ?_); (case h1 => rfl))
local macro_rules | `(tactic| walk_at "dv2") => `(tactic| first
  | refine v_gsub (by rfl) (by rfl) (by assumption) (by rfl) (fun _ _ _ => ?_) | refine ⟨_, rfl, ?_⟩ | (with_reducible refine' ⟨rng_ok ?h1 ?h2, ?_⟩); (case h1 => omega); (case h2 => omega) | refine ⟨rfl, ?_⟩ | refine ⟨_, _, rfl, ?_⟩ | refine ⟨Nat.le_of_ble_eq_true rfl, ?_⟩)
local macro_rules | `(tactic| walk_at "dv3") => `(tactic| first
  | (with_reducible refine' v_dec (fun _ => ?_) (fun hn => absurd ?h hn)); (case h => first | assumption | omega | decide)
  | (with_reducible refine' v_dec (fun hn => absurd hn ?h) (fun _ => ?_)); (case h => first | assumption | omega | decide)
  | (with_reducible refine' v_ndec (fun _ => ?_) (fun hn => absurd hn ?h)); (case h => first | assumption | omega | decide)
  | (with_reducible refine' v_ndec (fun hn => absurd ?h hn) (fun _ => ?_)); (case h => first | assumption | omega | decide)
  | (with_reducible refine' v_bT ?h ?_); (case h => first | assumption | rfl)
  | (with_reducible refine' v_bF ?h ?_); (case h => first | assumption | rfl))
local macro_rules | `(tactic| walk_at "dv4") => `(tactic| with_reducible first
  | refine v_places ?_ | refine v_roads ?_ | refine v_over ?_ | refine v_line ?_ | refine v_spots ?_ | refine v_myards ?_ | refine v_mroads ?_ | refine v_mW (by decide +kernel) ?_ | refine v_mK (by decide +kernel) ?_
  | refine v_itX ?_ | refine v_ev ?_ | refine v_rev ?_ | refine v_zs ?_ | refine v_enum ?_ | refine v_enum2 ?_ | refine v_makeV ?_ | refine v_tryN ?_ | refine v_lc2 ?_ | refine v_fz ?_ | refine v_make ?_ | refine v_fldS ?_)
local macro_rules | `(tactic| walk_at "dv5") => `(tactic| first
  | refine ⟨_, _, rfl, rfl, ?_⟩ | refine ⟨⟨_, _, rfl⟩, ?_⟩ | refine ⟨⟨_, _, _, rfl⟩, ?_⟩ | refine ⟨_, _, _, rfl, ?_⟩ | refine Or.inl ⟨_, rfl, ?_⟩ | refine Or.inr ⟨_, (fun _ z => by cases z), rfl, ?_⟩)
local macro_rules | `(tactic| walk_at "dv") => `(tactic| repeat (first | walk_at "dv0" | walk_at "dv4" | walk_at "dv1" | walk_at "dv3" | walk_at "dv2" | walk_at "dv5"))
/-! ### walks that are made; what they tell -/
theorem PureS.push {S : Store} {o : Ob} (h : PureS S) (ho : pureO o = true) : PureS (S ++ [o]) := by
  intro x hx
  rcases List.mem_append.mp hx with z | z
  · exact h x z
  · rw [List.mem_singleton.mp z]
    exact ho
theorem set_last {S : Store} {o o' : Ob} : (S ++ [o]).set S.length o' = S ++ [o'] := by
  rw [List.set_append_right _ _ (Nat.le_refl _), Nat.sub_self]
  rfl
section
variable {m : Mod} {S : Store}
theorem ix_last {xs : List Dt} {x : Dt} (h : xs.getLast? = some x) {S : Store} : ixD S (.lst xs) (-1) = some x := last_ix h
/-! ### the steps from a yard -/
def stepsOf (y : Str) (l : List Road) : List Step := l.flatMap fun r => (if r.b = y then [(r.n, (1 : Int))] else []) ++ if r.e = y then [(r.n, (-1 : Int))] else []
theorem stepsOf_cons {y : Str} (r : Road) (l : List Road) : stepsOf y (r :: l) = ((if r.b = y then [(r.n, (1 : Int))] else []) ++ if r.e = y then [(r.n, (-1 : Int))] else []) ++ stepsOf y l := by
  unfold stepsOf
  rw [List.flatMap_cons]
theorem stepsOf_len {y : Str} : ∀ l : List Road, (stepsOf y l).length ≤ 2 * l.length
  | [] => Nat.le_refl _
  | r :: l => by
    have ih := stepsOf_len (y := y) l
    rw [stepsOf_cons, List.length_append, List.length_append, List.length_cons]
    have h1 : (if r.b = y then [(r.n, (1 : Int))] else []).length ≤ 1 := by split <;> simp
    have h2 : (if r.e = y then [(r.n, (-1 : Int))] else []).length ≤ 1 := by split <;> simp
    omega
theorem stepsOf_mem {y : Str} {s : Step} (ok : m.Ok) (h : s ∈ stepsOf y m.rs) : ∃ r, m.road s.1 = some r ∧ (s.2 = 1 ∨ s.2 = -1) ∧ (r.ends s.2).1 = y := by
  unfold stepsOf at h
  obtain ⟨r, hr, hs⟩ := List.mem_flatMap.mp h
  rcases List.mem_append.mp hs with q | q
  · split at q
    · rename_i e
      rw [List.mem_singleton.mp q]
      exact ⟨r, road_of ok hr, .inl rfl, e⟩
    · cases q
  · split at q
    · rename_i e
      rw [List.mem_singleton.mp q]
      exact ⟨r, road_of ok hr, .inr rfl, e⟩
    · cases q
theorem steps_pure (l : List Step) (k : Nat) : (l.map stD).all (noRef (k + 1)) = true := by
  rw [List.all_eq_true]
  intro x hx
  obtain ⟨s, _, rfl⟩ := List.mem_map.mp hx
  show [Dt.str s.1, .int s.2].all (noRef k) = true
  cases k <;> rfl
theorem law_steps_ok (ok : m.Ok) (hp : PureS S) {y : Str} (hy : PyData.strOk y = true) : m_law_steps_from [m.d, .str y] S = .ok (.lst ((stepsOf y m.rs).map stD)) S := by
  refine Pe.eq (v_fn ?_)
  unfold b_law_steps_from
  walk_at "dv"
  refine v_loop (fun ds en T => (∃ x3 x4 x5 x6 x7, en = [some m.d, some (.str y), some (.ref S.length), x3, x4, x5, x6, x7]) ∧ Jz S T ∧ ∃ a b : List Road, m.rs = a ++ b ∧ ds = b.map Road.d ∧ T[S.length]? = some (.lst ((stepsOf y a).map stD))) ⟨⟨_, _, _, _, _, rfl⟩, Jz.refl.push, [], m.rs, rfl, rfl, last_at⟩ ?_ ?_
  · rintro d ds en T ⟨⟨x3, x4, x5, x6, x7, rfl⟩, jz, a, b, el, e2, hT⟩
    cases b with
    | nil => cases e2
    | cons r b =>
      cases e2
      have hr : r ∈ m.rs := by rw [el]; simp
      have hle : (stepsOf y a).length ≤ 100 := by
        have h1 : a.length ≤ 8 := by
          have := ok.lr
          rw [el, List.length_append] at this
          omega
        have := stepsOf_len (y := y) a
        omega
      refine ⟨_, _, rfl, ?_⟩
      walk_at "dv"
      refine v_eqS (ok.sr r hr).2.1 hy ?_
      refine ⟨_, rfl, ?_⟩
      have second : ∀ (T1 : Store) (l1 : List Step), Jz S T1 → T1[S.length]? = some (.lst ((stepsOf y a ++ l1).map stD)) → l1 = (if r.b = y then [(r.n, (1 : Int))] else []) → l1.length ≤ 1 → Ps (mIfS (mB (mOp mEq (mVar 5) (mVar 1))) (mDrop (mApp1 (mVar 2) (mTup (mCons (mVar 3) (mCons (mNeg (mC (.int 1))) mNil))))) mNx [some m.d, some (.str y), some (.ref S.length), some (.str r.n), some (.str r.b), some (.str r.e), some (.int r.h), some (.int r.t)] T1)
          (fun f e2 S2 => match f with | .nx => (∃ x3 x4 x5 x6 x7, e2 = [some m.d, some (.str y), some (.ref S.length), x3, x4, x5, x6, x7]) ∧ Jz S S2 ∧ ∃ a b' : List Road, m.rs = a ++ b' ∧ b.map Road.d = b'.map Road.d ∧ S2[S.length]? = some (.lst ((stepsOf y a).map stD)) | _ => False) (fun _ _ _ => False) := by
        intro T1 l1 j1 hT1 el1 hl1
        walk_at "dv"
        refine v_eqS (ok.sr r hr).2.2 hy ?_
        refine ⟨_, rfl, ?_⟩
        refine v_dec (fun e => ?_) (fun e => ?_)
        · walk_at "dv"
          refine v_app1K rfl hT1 ?_
          walk_at "dv"
          refine ⟨_, hT1, by rw [List.length_map, List.length_append]; omega, ?_⟩
          refine ⟨⟨_, _, _, _, _, rfl⟩, j1.set (Nat.le_refl _), a ++ [r], b, by rw [el]; simp, rfl, ?_⟩
          rw [set_same hT1]
          have z : stepsOf y (a ++ [r]) = stepsOf y a ++ l1 ++ [(r.n, (-1 : Int))] := by
            unfold stepsOf
            rw [List.flatMap_append, List.flatMap_cons, List.flatMap_nil, List.append_nil, if_pos e, el1, List.append_assoc]
          rw [z]
          simp
        · walk_at "dv"
          refine ⟨⟨_, _, _, _, _, rfl⟩, j1, a ++ [r], b, by rw [el]; simp, rfl, ?_⟩
          have z : stepsOf y (a ++ [r]) = stepsOf y a ++ l1 := by
            unfold stepsOf
            rw [List.flatMap_append, List.flatMap_cons, List.flatMap_nil, List.append_nil, if_neg e, el1, List.append_nil]
          rw [z]
          exact hT1
      have fin2 : ∀ {r : RS} {P : Dv.Env → Store → Prop} {QS : Fl → Dv.Env → Store → Prop} {XS : Ex → Dv.Env → Store → Prop}, Ps r (fun f e2 S2 => match f with | .nx => P e2 S2 | _ => False) (fun _ _ _ => False) → (∀ e2 S2, P e2 S2 → QS .nx e2 S2) → Ps r QS XS := by
        intro r P QS XS h hq
        cases r with
        | ok f e2 S2 =>
          cases f with
          | nx => exact hq _ _ h
          | _ => exact h.elim
        | err x e S => exact h.elim
        | stuck => exact h.elim
      refine v_dec (fun e => ?_) (fun e => ?_)
      · walk_at "dv"
        refine v_app1K rfl hT ?_
        walk_at "dv"
        refine ⟨_, hT, by rw [List.length_map]; omega, ?_⟩
        refine fin2 (second _ [(r.n, 1)] (jz.set (Nat.le_refl _)) (by rw [set_same hT]; simp) (by rw [if_pos e]) (Nat.le_refl _)) fun _ _ z => z
      · walk_at "dv0"
        refine fin2 (second _ [] jz (by rw [List.append_nil]; exact hT) (by rw [if_neg e]) (Nat.zero_le _)) fun _ _ z => z
  · rintro en T ⟨⟨x3, x4, x5, x6, x7, rfl⟩, jz, a, b, el, e2, hT⟩
    have hb : b = [] := by simpa using e2.symm
    subst hb
    rw [List.append_nil] at el
    walk_at "dv"
    rw [← el] at hT
    refine v_finJ jz hp hT (Nat.le_refl _) (steps_pure _ 10) ?_
    exact ⟨rfl, rfl⟩
end
/-! ### a walk made, by value -/
section
end
end Lw
set_option Elab.async false
set_option linter.all false
set_option maxRecDepth 100000
set_option maxHeartbeats 4000000
set_option autoImplicit false
namespace Lw
open PySem Dv
/-! steps of our own words -/
local macro_rules | `(tactic| walk_at "num") => `(tactic| first | assumption | decide | omega)
local macro_rules | `(tactic| walk_at "dv0") => `(tactic| with_reducible first
  | refine v_seq ?_ | refine v_ifS ?_ | refine v_set ?_ | refine v_ret ?_ | refine v_asg ?_ | refine v_par ?_ | refine v_drop ?_ | refine v_nx ?_ | refine v_bk ?_ | refine v_ct ?_ | refine v_retN ?_ | refine v_for ?_
  | refine v_c ?_ | refine v_nil ?_ | refine v_cons ?_ | refine v_op ?_ | refine v_B ?_ | refine v_truth ?_ | refine v_andT ?_ | refine v_orT ?_ | refine v_notT ?_
  | refine v_andV ?_ | refine v_orV ?_ | refine v_notV ?_ | refine v_if ?_ | refine v_neg ?_ | refine v_chain ?_ | refine v_tup ?_ | refine v_lst ?_ | refine v_lstR ?_ | refine v_noPart ?_ | refine v_part ?_ | refine v_sl ?_
  | refine v_CB ?_ | refine v_call ?_ | refine v_abs ?_ | refine v_lc ?_ | refine v_yes ?_ | refine v_it ?_ | refine v_rng1 ?_ | refine v_rng2 ?_ | refine v_rng3 ?_ | refine v_T ?_ | refine v_F ?_
  | refine v_add ?_ | refine v_sub ?_ | refine v_iadd ?_ | refine v_lt ?_ | refine v_le ?_ | refine v_gt ?_ | refine v_ge ?_ | refine v_eqI ?_ | refine v_neI ?_ | refine v_eqB ?_ | refine v_neB ?_)
local macro_rules | `(tactic| walk_at "dv1") => `(tactic| first
  | (with_reducible refine' v_var ?h ?_); (case h => rfl)
  | (with_reducible refine' v_aug ?h ?_); (case h => rfl)
  | (with_reducible refine' v_div ?h1 ?h2 ?_); (case h1 => walk_at "num"); (case h2 => walk_at "num")
  | (with_reducible refine' v_mod ?h1 ?_); (case h1 => walk_at "num")
  | (with_reducible refine' v_pow ?h1 ?_); (case h1 => walk_at "num")
  | (with_reducible refine' v_mulR ?h1 ?_); (case h1 => walk_at "num")
  | (with_reducible refine' v_mulL ?h1 ?_); (case h1 => walk_at "num")
  | (with_reducible refine' v_fin ?h1 ?_); (case h1 => first | exact Or.inl rfl | exact Or.inr rfl | (refine Or.inr ?_; simp only [List.length_set, *]; done))
  | (with_reducible refine' v_ix ?h1 ?_); (case h1 => first | exact ixD_ref (by assumption) (by rfl) | rfl)
  | (with_reducible refine' v_len ?h1 ?_); (case h1 => first | exact lenD_ref (by assumption) | rfl)
  | (with_reducible refine' v_list ?h1 ?_); (case h1 => rfl)
  | (with_reducible refine' v_listR ?h1 ?_); (case h1 => rfl)
  | (with_reducible refine' v_tuple ?h1 ?_); (case h1 => rfl)
  | (with_reducible refine' v_isd ?h1 ?_); (case h1 => rfl)
  | (with_reducible refine' v_isiTy ?h1 ?h2 ?_); (case h1 => rfl); (case h2 => rfl)
  | (with_reducible refine' v_isiT ?h1 ?_); (case h1 => rfl))
local macro_rules | `(tactic| walk_at "dv2") => `(tactic| first
  | refine v_gsub (by rfl) (by rfl) (by assumption) (by rfl) (fun _ _ _ => ?_) | refine ⟨_, rfl, ?_⟩ | (with_reducible refine' ⟨rng_ok ?h1 ?h2, ?_⟩); (case h1 => omega); (case h2 => omega) | refine ⟨rfl, ?_⟩ | refine ⟨_, _, rfl, ?_⟩ | refine ⟨Nat.le_of_ble_eq_true rfl, ?_⟩)
local macro_rules | `(tactic| walk_at "dv3") => `(tactic| first
  | (with_reducible refine' v_dec (fun _ => ?_) (fun hn => absurd ?h hn)); (case h => first | assumption | omega | decide)
  | (with_reducible refine' v_dec (fun hn => absurd hn ?h) (fun _ => ?_)); (case h => first | assumption | omega | decide)
  | (with_reducible refine' v_ndec (fun _ => ?_) (fun hn => absurd hn ?h)); (case h => first | assumption | omega | decide)
  | (with_reducible refine' v_ndec (fun hn => absurd ?h hn) (fun _ => ?_)); (case h => first | assumption | omega | decide)
  | (with_reducible refine' v_bT ?h ?_); (case h => first | assumption | rfl)
  | (with_reducible refine' v_bF ?h ?_); (case h => first | assumption | rfl))
local macro_rules | `(tactic| walk_at "dv4") => `(tactic| with_reducible first
  | refine v_places ?_ | refine v_roads ?_ | refine v_over ?_ | refine v_line ?_ | refine v_spots ?_ | refine v_myards ?_ | refine v_mroads ?_ | refine v_mW (by decide +kernel) ?_ | refine v_mK (by decide +kernel) ?_
  | refine v_itX ?_ | refine v_ev ?_ | refine v_rev ?_ | refine v_zs ?_ | refine v_enum ?_ | refine v_enum2 ?_ | refine v_makeV ?_ | refine v_tryN ?_ | refine v_lc2 ?_ | refine v_fz ?_ | refine v_make ?_ | refine v_fldS ?_)
local macro_rules | `(tactic| walk_at "dv5") => `(tactic| first
  | refine ⟨_, _, rfl, rfl, ?_⟩ | refine ⟨⟨_, _, rfl⟩, ?_⟩ | refine ⟨⟨_, _, _, rfl⟩, ?_⟩ | refine ⟨_, _, _, rfl, ?_⟩ | refine Or.inl ⟨_, rfl, ?_⟩ | refine Or.inr ⟨_, (fun _ z => by cases z), rfl, ?_⟩)
local macro_rules | `(tactic| walk_at "dv") => `(tactic| repeat (first | walk_at "dv0" | walk_at "dv4" | walk_at "dv1" | walk_at "dv3" | walk_at "dv2" | walk_at "dv5"))
/-! ### rows that are drawn -/
theorem v_addR {x y : Dt} {xs ys : List Dt} {S : Store} {Q : Dt → Store → Prop} {X : Ex → Store → Prop} (h1 : asP S x = some xs) (h2 : asP S y = some ys) (hl : xs.length + ys.length ≤ 1000000) (q : Q (.ref S.length) (S ++ [.lst (xs ++ ys)])) : Pe (mAddR x y S) Q X := by
  unfold mAddR
  rw [h1, h2]
  dsimp only
  rw [if_pos hl]
  exact q
theorem PureS.set {S : Store} {k : Nat} {o : Ob} (h : PureS S) (ho : pureO o = true) : PureS (S.set k o) := by
  intro x hx
  rcases List.mem_or_eq_of_mem_set hx with z | z
  · exact h x z
  · rw [z]
    exact ho
theorem okD_steps {l : List Step} (h : ∀ s ∈ l, PyData.strOk s.1 = true) (k : Nat) : okD (k + 2) (.lst (l.map stD)) = true := by
  show (l.map stD).all (okD (k + 1)) = true
  rw [List.all_eq_true]
  intro x hx
  obtain ⟨s, hs, rfl⟩ := List.mem_map.mp hx
  exact okD_st (h s hs) k
theorem v_neNil {l : List Step} {S : Store} {Q : Dt → Store → Prop} {X : Ex → Store → Prop} (h : ∀ s ∈ l, PyData.strOk s.1 = true) (q : Q (.bl (!decide (l = []))) S) : Pe (mNe (.lst (l.map stD)) (.lst []) S) Q X := by
  refine v_ifok ⟨okD_steps h 10, rfl⟩ ?_
  have e : eqD (.lst (l.map stD)) (.lst []) = decide (l = []) := by
    cases l with
    | nil => rfl
    | cons s l => rfl
  show Q (.bl (!eqD (.lst (l.map stD)) (.lst []))) S
  rw [e]
  exact q
theorem und_ends (r : Road) {w : Int} (h : w = 1 ∨ w = -1) : r.ends (0 - w) = ((r.ends w).2, (r.ends w).1) := by
  rcases h with rfl | rfl <;> rfl
theorem Path.snoc {m : Mod} {y z : Str} {l : Seg} {s : Step} {t : Int} (h : Path m y (l ++ [(s, t)]) z) : ∃ r w, Path m y l w ∧ m.road s.1 = some r ∧ (s.2 = 1 ∨ s.2 = -1) ∧ (r.ends s.2).1 = w ∧ (r.ends s.2).2 = z := by
  induction l generalizing y with
  | nil =>
    cases h with
    | cons h1 h2 h3 p =>
      cases p
      exact ⟨_, _, .nil _, h1, h2, h3, rfl⟩
  | cons q l ih =>
    cases h with
    | cons h1 h2 h3 p =>
      obtain ⟨r, w, p', h4⟩ := ih p
      exact ⟨r, w, .cons h1 h2 h3 p', h4⟩
theorem Path.turns {m : Mod} {y z : Str} {l : Seg} {s : Step} {t u : Int} (h : Path m y (l ++ [(s, t)]) z) : Path m y (l ++ [(s, u)]) z := by
  obtain ⟨r, w, p, h1, h2, h3, h4⟩ := h.snoc
  rw [← h4]
  exact p.app (Path.one h1 h2 h3)
theorem rule_b {m : Mod} (ok : m.Ok) {n : Str} {r : Road} (h : m.road n = some r) (w : Int) : ((r.rule w).1 ≠ 0 ∧ (r.rule w).1.natAbs ≤ 99) ∧ (r.rule w).2 ≠ 0 ∧ (r.rule w).2.natAbs ≤ 99 := by
  obtain ⟨hr, _⟩ := road_in h
  have := ok.th r hr
  unfold Road.rule
  split
  · exact this
  · exact ⟨this.2, this.1⟩
theorem row_snoc (t : Int) (l : Seg) (s : Step) (u : Int) : rowD t (l ++ [(s, u)]) = (.int t :: (segD l ++ [stD s])) ++ [.int u] := by
  show Dt.int t :: segD (l ++ [(s, u)]) = _
  rw [segD_app]
  simp [segD]
theorem row_len (t : Int) (l : Seg) : (rowD t l).length = 2 * l.length + 1 := by rw [List.length_cons, segD_len]
theorem row_at2 (t : Int) (l : Seg) (s : Step) (u : Int) : L2.atI (rowD t (l ++ [(s, u)])) (-2) = some (stD s) := by
  have hl := row_len t (l ++ [(s, u)])
  rw [List.length_append, List.length_singleton] at hl
  have e : L2.ixN (rowD t (l ++ [(s, u)])).length (-2) = some (2 * l.length + 1) := by
    rw [hl]
    unfold L2.ixN
    rw [if_neg (by decide), if_pos (by omega)]
    congr 1
    omega
  unfold L2.atI
  rw [e]
  show (rowD t (l ++ [(s, u)]))[2 * l.length + 1]? = some (stD s)
  rw [row_snoc, List.cons_append, List.getElem?_cons_succ, List.append_assoc, List.getElem?_append_right (by rw [segD_len]; exact Nat.le_refl _), segD_len, Nat.sub_self]
  rfl
theorem row_ixl (t : Int) (l : Seg) (s : Step) (u : Int) : L2.ixN (rowD t (l ++ [(s, u)])).length (-1) = some (2 * l.length + 2) := by
  rw [row_len, List.length_append, List.length_singleton]
  unfold L2.ixN
  rw [if_neg (by decide), if_pos (by omega)]
  congr 1
  omega
theorem row_setl (t : Int) (l : Seg) (s : Step) (u v : Int) : (rowD t (l ++ [(s, u)])).set (2 * l.length + 2) (.int v) = rowD t (l ++ [(s, v)]) := by
  rw [row_snoc, row_snoc, List.set_append_right _ _ (by simp [segD_len])]
  simp [segD_len]
theorem row_add (t : Int) (l : Seg) (s : Step) (u : Int) : rowD t l ++ [stD s, .int u] = rowD t (l ++ [(s, u)]) := by
  rw [row_snoc]
  simp
theorem rowD_pure_o (t : Int) (l : Seg) : pureO (.lst (rowD t l)) = true := rowD_pure t l 10
section
variable {m : Mod} {S : Store} {i : Nat}
theorem turns_ok (hF : FlowAt S i) {far : Int} (h0 : 0 ≤ far) (h1 : far ≤ 10000) {Q : Dt → Store → Prop} {X : Ex → Store → Prop} (q : ∀ v S', v.natAbs ≤ far.natAbs + 2 → Fz i S S' → Q (.int v) S') : Pe (m_law_turns [.ref i, .int far] S) Q X := by
  refine v_fn ?_
  unfold b_law_turns
  walk_at "dv"
  refine pick_fz hF (Nat.le_of_ble_eq_true rfl) (Nat.le_of_ble_eq_true rfl) fun d S1 hd z1 => ?_
  obtain ⟨a, rfl, ha⟩ : ∃ a : Int, d = .int a ∧ a.natAbs ≤ 1 := by
    simp only [List.mem_cons, List.not_mem_nil, or_false] at hd
    rcases hd with rfl | rfl | rfl | rfl <;> exact ⟨_, rfl, by decide⟩
  walk_at "dv"
  refine draw_fz z1.flow (by decide) (by decide) fun b S2 b0 b1 z2 => ?_
  walk_at "dv"
  refine draw_fz z2.flow (by omega) ?_ fun c S3 c0 c1 z3 => ?_
  · have := Nat.log2_lt (n := (2 * far + 1).natAbs) (k := 64) (by omega)
    omega
  walk_at "dv"
  refine v_fin (.inr (((z1.trans z2).trans z3).len)) ?_
  refine q _ _ ?_ ((z1.trans z2).trans z3)
  have : (a * b).natAbs ≤ 2 := by
    rw [Int.natAbs_mul]
    have := Nat.mul_le_mul ha (show b.natAbs ≤ 2 by omega)
    omega
  omega
theorem drawn_row_ok (ok : m.Ok) (hp : PureS S) (hF : FlowAt S i) {y : Str} (hy : y ∈ m.ys) {many far : Int} (hm0 : 0 ≤ many) (hm1 : many ≤ 1000) (h0 : 0 ≤ far) (h1 : far ≤ 10000) {Q : Dt → Store → Prop} {X : Ex → Store → Prop}
    (q : ∀ t l z S', Path m y l z → l.length ≤ many.natAbs → t.natAbs ≤ far.natAbs + 200 → Within (far.natAbs + 200) l → Fz i S S' → Q (.lst (rowD t l)) S') : Pe (m_law_drawn_row [.ref i, m.d, .str y, .int many, .int far] S) Q X := by
  refine v_fn ?_
  unfold b_law_drawn_row
  walk_at "dv"
  refine turns_ok hF h0 h1 fun t0 S1 ht0 z1 => ?_
  walk_at "dv"
  refine v_loop (fun ds en T => ∃ (k : Nat) (x7 x8 x9 : Option Dt) (w : Str) (t : Int) (l : Seg), en = [some (.ref i), some m.d, some (.str y), some (.int many), some (.int far), some (.str w), some (.ref k), x7, x8, x9] ∧ Bz i S T ∧ PureS T ∧ S.length ≤ k ∧ T[k]? = some (.lst (rowD t l)) ∧
      Path m y l w ∧ ds.length + l.length ≤ many.natAbs ∧ t.natAbs ≤ far.natAbs + 200 ∧ Within (far.natAbs + 200) l)
    ⟨S1.length, _, _, _, y, t0, [], rfl, ((Bz.refl hF).draw z1).push, (z1.pure hp).push rfl, by rw [z1.len]; exact Nat.le_refl _, last_at, .nil y, by simp [rangeD]; omega, by omega, fun p hp => by cases hp⟩ ?_ ?_
  · rintro d ds en T ⟨k, x7, x8, x9, w, t, l, rfl, bz, pT, hk, hT, pl, hlen, ht, hw⟩
    have hwy : w ∈ m.ys := pl.to_in ok hy
    have hlen' : ds.length + l.length + 1 ≤ many.natAbs := by
      rw [List.length_cons] at hlen
      omega
    refine ⟨_, _, rfl, ?_⟩
    walk_at "dv"
    refine Pe.of (law_steps_ok ok pT (ok.sy w hwy)) ?_
    walk_at "dv"
    refine v_neNil (fun s hs => by
      obtain ⟨r, h1, _⟩ := stepsOf_mem ok hs
      obtain ⟨hr, e⟩ := road_in h1
      rw [← e]
      exact (ok.sr r hr).1) ?_
    refine ⟨_, rfl, ?_⟩
    refine v_ndec (fun hne => ?_) (fun hnil => ?_)
    · walk_at "dv"
      refine pick_fz bz.flow (by rw [List.length_map]; exact List.length_pos_iff.mpr hne) (by rw [List.length_map]; have := stepsOf_len (y := w) m.rs; have := ok.lr; omega) fun d T1 hd z2 => ?_
      obtain ⟨s, hs, rfl⟩ := List.mem_map.mp hd
      obtain ⟨r, hr, hsw, hse⟩ := stepsOf_mem ok hs
      have hki : k ≠ i := by have := bz.lt; omega
      have hT1 : T1[k]? = some (.lst (rowD t l)) := (z2.oth k hki).trans hT
      -- behind the step's choice
      have rest : ∀ (T2 : Store) (s : Step) (r : Road) (t : Int) (l : Seg) (x : Option Dt), m.road s.1 = some r → (s.2 = 1 ∨ s.2 = -1) → (r.ends s.2).1 = w → Bz i S T2 → PureS T2 → T2[k]? = some (.lst (rowD t l)) → Path m y l w → ds.length + l.length + 1 ≤ many.natAbs → t.natAbs ≤ far.natAbs + 200 → Within (far.natAbs + 200) l →
          ∀ {QS : Fl → Dv.Env → Store → Prop} {XS : Ex → Dv.Env → Store → Prop}, (∀ e T3, (∃ (k : Nat) (x7 x8 x9 : Option Dt) (w : Str) (t : Int) (l : Seg), e = [some (.ref i), some m.d, some (.str y), some (.int many), some (.int far), some (.str w), some (.ref k), x7, x8, x9] ∧ Bz i S T3 ∧ PureS T3 ∧ S.length ≤ k ∧ T3[k]? = some (.lst (rowD t l)) ∧
            Path m y l w ∧ ds.length + l.length ≤ many.natAbs ∧ t.natAbs ≤ far.natAbs + 200 ∧ Within (far.natAbs + 200) l) → QS .nx e T3) →
          Ps (mSeq (mSet 5 (mOp mIx (mCall 2 m_law_ends (mCons (mVar 1) (mCons (mVar 9) mNil))) (mC (.int 1))))
            (mSet 6 (mOp mAddR (mVar 6) (mLst (mCons (mVar 9) (mCons (mCall 2 m_law_turns (mCons (mVar 0) (mCons (mVar 4) mNil))) mNil))))) [some (.ref i), some m.d, some (.str y), some (.int many), some (.int far), some (.str w), some (.ref k), x, some (.lst ((stepsOf w m.rs).map stD)), some (stD s)] T2) QS XS := by
        intro T2 s r t l x hr hsw hse b2 p2 hT2 pl hlen ht hw QS XS qq
        walk_at "dv"
        refine Pe.of (law_ends_ok ok hr) ?_
        walk_at "dv"
        refine turns_ok b2.flow h0 h1 fun u T3 hu z3 => ?_
        walk_at "dv"
        have hT3 : T3[k]? = some (.lst (rowD t l)) := (z3.oth k hki).trans hT2
        have hll := row_len t l
        refine v_addR (xs := rowD t l) (ys := [stD s, .int u]) (by simp [asP, hT3]) rfl (by rw [hll]; simp; omega) ?_
        refine qq _ _ ⟨T3.length, _, _, _, (r.ends s.2).2, t, l ++ [(s, u)], rfl, (b2.draw z3).push, (z3.pure p2).push (by rw [row_add]; exact rowD_pure_o _ _), ?_, ?_, pl.app (by rw [← hse]; exact Path.one hr hsw rfl), ?_, ht, ?_⟩
        · have := (b2.draw z3).le
          exact this
        · rw [last_at, row_add]
        · rw [List.length_append, List.length_singleton]
          omega
        · intro p hp
          rcases List.mem_append.mp hp with z | z
          · exact hw p z
          · rw [List.mem_singleton.mp z]
            show u.natAbs ≤ _
            omega
      generalize hR : (mSeq (mSet 5 (mOp mIx (mCall 2 m_law_ends (mCons (mVar 1) (mCons (mVar 9) mNil))) (mC (.int 1)))) (mSet 6 (mOp mAddR (mVar 6) (mLst (mCons (mVar 9) (mCons (mCall 2 m_law_turns (mCons (mVar 0) (mCons (mVar 4) mNil))) mNil)))))) = R at rest ⊢
      rcases List.eq_nil_or_concat l with hl | ⟨l', ⟨s0, u0⟩, hl⟩
      · subst hl
        walk_at "dv"
        exact rest T1 s r t [] _ hr hsw hse (bz.draw z2) (z2.pure pT) hT1 pl hlen' ht hw fun e T3 z => z
      · rw [List.concat_eq_append] at hl
        subst hl
        obtain ⟨r0, w0, p0, h01, h02, h03, h04⟩ := pl.snoc
        have hlen1 : ((rowD t (l' ++ [(s0, u0)])).length : Int) = 2 * l'.length + 3 := by
          rw [row_len, List.length_append, List.length_singleton]
          omega
        walk_at "dv"
        · refine draw_fz (bz.draw z2).flow (by decide) (by decide) fun c T2 c0 c1 z3 => ?_
          have hT2 : T2[k]? = some (.lst (rowD t (l' ++ [(s0, u0)]))) := (z3.oth k hki).trans hT1
          have b2 := (bz.draw z2).draw z3
          have p2 := z3.pure (z2.pure pT)
          walk_at "dv"
          refine v_dec (fun _ => ?_) (fun _ => ?_)
          · walk_at "dv"
            refine v_ix (ixD_ref hT2 (row_at2 t l' s0 u0)) ?_
            walk_at "dv"
            refine Pe.of law_undone_ok ?_
            have hu : m.road (und s0).1 = some r0 := h01
            walk_at "dv"
            refine Pe.of (law_rule_ok ok hu) ?_
            walk_at "dv"
            refine draw_fz b2.flow (by decide) (by decide) fun f T4 f0 f1 z4 => ?_
            have hT4 : T4[k]? = some (.lst (rowD t (l' ++ [(s0, u0)]))) := (z4.oth k hki).trans hT2
            have hb := (rule_b ok hu (und s0).2).1.2
            have hf : (f - 2).natAbs ≤ 2 := by omega
            refine v_c (v_sub ?_)
            refine v_mulL (by omega) ?_
            refine v_gsub (n := 2 * l'.length + 2) rfl rfl hT4 (row_ixl t l' s0 u0) fun T5 e5 h5 => ?_
            have hB : ((r0.rule (und s0).2).1 * (f - 2)).natAbs ≤ far.natAbs + 200 := by
              rw [Int.natAbs_mul]
              have := Nat.mul_le_mul hb hf
              omega
            rw [row_setl] at h5 e5
            rw [e5] at h5 ⊢
            refine rest _ (und s0) r0 t (l' ++ [(s0, (r0.rule (und s0).2).1 * (f - 2))]) _ hu ?_ ?_ ((b2.draw z4).set hk) ((z4.pure p2).set (rowD_pure_o _ _)) h5 pl.turns ?_ ht ?_ fun e T3 z => z
            · rcases h02 with e | e
              · exact .inr (by show 0 - s0.2 = -1; rw [e]; rfl)
              · exact .inl (by show 0 - s0.2 = 1; rw [e]; rfl)
            · show (r0.ends (0 - s0.2)).1 = w
              rw [und_ends r0 h02]
              exact h04
            · rw [List.length_append, List.length_singleton] at hlen' ⊢
              exact hlen'
            · intro p hp
              rcases List.mem_append.mp hp with z | z
              · exact hw p (List.mem_append.mpr (.inl z))
              · rw [List.mem_singleton.mp z]
                exact hB
          · walk_at "dv0"
            exact rest T2 s r t _ _ hr hsw hse b2 p2 hT2 pl hlen' ht hw fun e T3 z => z
    · walk_at "dv0"
      exact ⟨k, _, _, _, w, t, l, rfl, bz, pT, hk, hT, pl, by omega, ht, hw⟩
  · rintro en T ⟨k, x7, x8, x9, w, t, l, rfl, bz, pT, hk, hT, pl, hlen, ht, hw⟩
    walk_at "dv"
    refine v_finB bz hp hT hk (rowD_pure t l 10) fun S' zz => ?_
    exact q t l w S' pl (by simp at hlen; omega) ht hw zz
end
end Lw
set_option Elab.async false
set_option linter.all false
set_option maxRecDepth 100000
set_option maxHeartbeats 4000000
set_option autoImplicit false
namespace Lw
open PySem Dv
/-! steps of our own words -/
local macro_rules | `(tactic| walk_at "num") => `(tactic| first | assumption | decide | omega)
local macro_rules | `(tactic| walk_at "dv0") => `(tactic| with_reducible first
  | refine v_seq ?_ | refine v_ifS ?_ | refine v_set ?_ | refine v_ret ?_ | refine v_asg ?_ | refine v_par ?_ | refine v_drop ?_ | refine v_nx ?_ | refine v_bk ?_ | refine v_ct ?_ | refine v_retN ?_ | refine v_for ?_
  | refine v_c ?_ | refine v_nil ?_ | refine v_cons ?_ | refine v_op ?_ | refine v_B ?_ | refine v_truth ?_ | refine v_andT ?_ | refine v_orT ?_ | refine v_notT ?_
  | refine v_andV ?_ | refine v_orV ?_ | refine v_notV ?_ | refine v_if ?_ | refine v_neg ?_ | refine v_chain ?_ | refine v_tup ?_ | refine v_lst ?_ | refine v_lstR ?_ | refine v_noPart ?_ | refine v_part ?_ | refine v_sl ?_
  | refine v_CB ?_ | refine v_call ?_ | refine v_abs ?_ | refine v_lc ?_ | refine v_yes ?_ | refine v_it ?_ | refine v_rng1 ?_ | refine v_rng2 ?_ | refine v_rng3 ?_ | refine v_T ?_ | refine v_F ?_
  | refine v_add ?_ | refine v_sub ?_ | refine v_iadd ?_ | refine v_lt ?_ | refine v_le ?_ | refine v_gt ?_ | refine v_ge ?_ | refine v_eqI ?_ | refine v_neI ?_ | refine v_eqB ?_ | refine v_neB ?_)
local macro_rules | `(tactic| walk_at "dv1") => `(tactic| first
  | (with_reducible refine' v_var ?h ?_); (case h => rfl)
  | (with_reducible refine' v_aug ?h ?_); (case h => rfl)
  | (with_reducible refine' v_div ?h1 ?h2 ?_); (case h1 => walk_at "num"); (case h2 => walk_at "num")
  | (with_reducible refine' v_mod ?h1 ?_); (case h1 => walk_at "num")
  | (with_reducible refine' v_pow ?h1 ?_); (case h1 => walk_at "num")
  | (with_reducible refine' v_mulR ?h1 ?_); (case h1 => walk_at "num")
  | (with_reducible refine' v_mulL ?h1 ?_); (case h1 => walk_at "num")
  | (with_reducible refine' v_fin ?h1 ?_); (case h1 => first | exact Or.inl rfl | exact Or.inr rfl | (refine Or.inr ?_; simp only [List.length_set, *]; done))
  | (with_reducible refine' v_ix ?h1 ?_); (case h1 => first | exact ixD_ref (by assumption) (by rfl) | rfl)
  | (with_reducible refine' v_len ?h1 ?_); (case h1 => first | exact lenD_ref (by assumption) | rfl)
  | (with_reducible refine' v_list ?h1 ?_); (case h1 => rfl)
  | (with_reducible refine' v_listR ?h1 ?_); (case h1 => rfl)
  | (with_reducible refine' v_tuple ?h1 ?_); (case h1 => rfl)
  | (with_reducible refine' v_isd ?h1 ?_); (case h1 => rfl)
  | (with_reducible refine' v_isiTy ?h1 ?h2 ?_); (case h1 => rfl); (case h2 => rfl)
  | (with_reducible refine' v_isiT ?h1 ?_); (case h1 => rfl))
local macro_rules | `(tactic| walk_at "dv2") => `(tactic| first
  | refine v_gsub (by rfl) (by rfl) (by assumption) (by rfl) (fun _ _ _ => ?_) | refine ⟨_, rfl, ?_⟩ | (with_reducible refine' ⟨rng_ok ?h1 ?h2, ?_⟩); (case h1 => omega); (case h2 => omega) | refine ⟨rfl, ?_⟩ | refine ⟨_, _, rfl, ?_⟩ | refine ⟨Nat.le_of_ble_eq_true rfl, ?_⟩)
local macro_rules | `(tactic| walk_at "dv3") => `(tactic| first
  | (with_reducible refine' v_dec (fun _ => ?_) (fun hn => absurd ?h hn)); (case h => first | assumption | omega | decide)
  | (with_reducible refine' v_dec (fun hn => absurd hn ?h) (fun _ => ?_)); (case h => first | assumption | omega | decide)
  | (with_reducible refine' v_ndec (fun _ => ?_) (fun hn => absurd hn ?h)); (case h => first | assumption | omega | decide)
  | (with_reducible refine' v_ndec (fun hn => absurd ?h hn) (fun _ => ?_)); (case h => first | assumption | omega | decide)
  | (with_reducible refine' v_bT ?h ?_); (case h => first | assumption | rfl)
  | (with_reducible refine' v_bF ?h ?_); (case h => first | assumption | rfl))
local macro_rules | `(tactic| walk_at "dv4") => `(tactic| with_reducible first
  | refine v_places ?_ | refine v_roads ?_ | refine v_over ?_ | refine v_line ?_ | refine v_spots ?_ | refine v_myards ?_ | refine v_mroads ?_ | refine v_mW (by decide +kernel) ?_ | refine v_mK (by decide +kernel) ?_
  | refine v_itX ?_ | refine v_ev ?_ | refine v_rev ?_ | refine v_zs ?_ | refine v_enum ?_ | refine v_enum2 ?_ | refine v_makeV ?_ | refine v_tryN ?_ | refine v_lc2 ?_ | refine v_fz ?_ | refine v_make ?_ | refine v_fldS ?_)
local macro_rules | `(tactic| walk_at "dv5") => `(tactic| first
  | refine ⟨_, _, rfl, rfl, ?_⟩ | refine ⟨⟨_, _, rfl⟩, ?_⟩ | refine ⟨⟨_, _, _, rfl⟩, ?_⟩ | refine ⟨_, _, _, rfl, ?_⟩ | refine Or.inl ⟨_, rfl, ?_⟩ | refine Or.inr ⟨_, (fun _ z => by cases z), rfl, ?_⟩)
local macro_rules | `(tactic| walk_at "dv") => `(tactic| repeat (first | walk_at "dv0" | walk_at "dv4" | walk_at "dv1" | walk_at "dv3" | walk_at "dv2" | walk_at "dv5"))
/-! ### exchanges of rows -/
theorem evens_seg : ∀ l : Seg, evens (segD l) = l.map fun p => stD p.1
  | [] => rfl
  | p :: l => by
    show evens (stD p.1 :: .int p.2 :: segD l) = _
    rw [evens, evens_seg l]
    rfl
def turnAt (t : Int) (l : Seg) : Nat → Int
  | 0 => t
  | j + 1 => match l[j]? with
    | some p => p.2
    | none => 0
theorem row_turn (t : Int) : ∀ (l : Seg) (j : Nat), j ≤ l.length → (rowD t l)[2 * j]? = some (.int (turnAt t l j))
  | l, 0, _ => rfl
  | [], j + 1, h => by simp at h
  | p :: l, j + 1, h => by
    have ih := row_turn p.2 l j (by simpa using h)
    show (.int t :: stD p.1 :: rowD p.2 l)[2 * (j + 1)]? = _
    rw [show 2 * (j + 1) = 2 * j + 1 + 1 by omega, List.getElem?_cons_succ, List.getElem?_cons_succ, ih]
    cases j with
    | zero => rfl
    | succ j => rfl
theorem row_step (t : Int) : ∀ (l : Seg) (j : Nat) (p : Step × Int), l[j]? = some p → (rowD t l)[2 * j + 1]? = some (stD p.1)
  | [], j, p, h => by simp at h
  | q :: l, 0, p, h => by
    cases h
    rfl
  | q :: l, j + 1, p, h => by
    have ih := row_step q.2 l j p (by simpa using h)
    show (.int t :: stD q.1 :: rowD q.2 l)[2 * (j + 1) + 1]? = _
    rw [show 2 * (j + 1) + 1 = 2 * j + 1 + 1 + 1 by omega, List.getElem?_cons_succ, List.getElem?_cons_succ, ih]
inductive Exch where
  | pass (at_ : Nat) (many : Int) | fold (at_ : Nat) | unfold (at_ : Nat) (s : Step) (many : Int)
def Exch.d : Exch → Dt
  | .pass k n => .tup [.str "pass", .int k, .int n]
  | .fold k => .tup [.str "fold", .int k]
  | .unfold k s n => .tup [.str "unfold", .int k, stD s, .int n]
section
variable {m : Mod} {S : Store} {i : Nat}
theorem law_yards_ok (ok : m.Ok) (hp : PureS S) {y z : Str} {t : Int} {l : Seg} (h : Path m y l z) (hl : l.length ≤ 100000) : m_law_yards_on [m.d, .str y, .lst (rowD t l)] S = .ok (.lst ((spots m y l).map Dt.str)) S := by
  refine Pe.eq (v_fn ?_)
  unfold b_law_yards_on
  walk_at "dv"
  rw [show evens (List.drop 1 (rowD t l)) = l.map fun p => stD p.1 from evens_seg l]
  refine v_loop (fun ds en T => (∃ x4, en = [some m.d, some (.str y), some (.lst (rowD t l)), some (.ref S.length), x4]) ∧ Jz S T ∧ ∃ (a b : Seg) (w : Str), l = a ++ b ∧ ds = b.map (fun p => stD p.1) ∧ Path m w b z ∧ T[S.length]? = some (.lst ((spots m y a).map Dt.str)))
    ⟨⟨_, rfl⟩, Jz.refl.push, [], l, y, rfl, rfl, h, last_at⟩ ?_ ?_
  · rintro d ds en T ⟨⟨x4, rfl⟩, jz, a, b, w, el, e2, pb, hT⟩
    cases pb with
    | nil => cases e2
    | @cons _ s u b' _ r h1 h2 h3 p' =>
      cases e2
      refine ⟨_, _, rfl, ?_⟩
      walk_at "dv0"
      refine v_app1K rfl hT ?_
      walk_at "dv"
      refine Pe.of (law_ends_ok ok h1) ?_
      walk_at "dv"
      have hle : (spots m y a).length ≤ 100001 := by
        have : a.length ≤ l.length := by rw [el, List.length_append]; omega
        simp [spots]
        omega
      refine ⟨_, hT, by rw [List.length_map]; omega, ?_⟩
      have e2 : goes m s = (r.ends s.2).2 := by simp [goes, h1]
      refine ⟨⟨_, rfl⟩, jz.set (Nat.le_refl _), a ++ [(s, u)], b', (r.ends s.2).2, by rw [el]; simp, rfl, p', ?_⟩
      rw [set_same hT]
      simp [spots, e2]
  · rintro en T ⟨⟨x4, rfl⟩, jz, a, b, w, el, e2, pb, hT⟩
    have hb : b = [] := by simpa using e2.symm
    subst hb
    rw [List.append_nil] at el
    subst el
    walk_at "dv"
    exact v_finJ jz hp hT (Nat.le_refl _) (strs_pure _ _) ⟨rfl, rfl⟩
end
end Lw
set_option Elab.async false
set_option linter.all false
set_option maxRecDepth 100000
set_option maxHeartbeats 4000000
set_option autoImplicit false
namespace Lw
open PySem Dv
/-! steps of our own words -/
local macro_rules | `(tactic| walk_at "num") => `(tactic| first | assumption | decide | omega)
local macro_rules | `(tactic| walk_at "dv0") => `(tactic| with_reducible first
  | refine v_seq ?_ | refine v_ifS ?_ | refine v_set ?_ | refine v_ret ?_ | refine v_asg ?_ | refine v_par ?_ | refine v_drop ?_ | refine v_nx ?_ | refine v_bk ?_ | refine v_ct ?_ | refine v_retN ?_ | refine v_for ?_
  | refine v_c ?_ | refine v_nil ?_ | refine v_cons ?_ | refine v_op ?_ | refine v_B ?_ | refine v_truth ?_ | refine v_andT ?_ | refine v_orT ?_ | refine v_notT ?_
  | refine v_andV ?_ | refine v_orV ?_ | refine v_notV ?_ | refine v_if ?_ | refine v_neg ?_ | refine v_chain ?_ | refine v_tup ?_ | refine v_lst ?_ | refine v_lstR ?_ | refine v_noPart ?_ | refine v_part ?_ | refine v_sl ?_
  | refine v_CB ?_ | refine v_call ?_ | refine v_abs ?_ | refine v_lc ?_ | refine v_yes ?_ | refine v_it ?_ | refine v_rng1 ?_ | refine v_rng2 ?_ | refine v_rng3 ?_ | refine v_T ?_ | refine v_F ?_
  | refine v_add ?_ | refine v_sub ?_ | refine v_iadd ?_ | refine v_lt ?_ | refine v_le ?_ | refine v_gt ?_ | refine v_ge ?_ | refine v_eqI ?_ | refine v_neI ?_ | refine v_eqB ?_ | refine v_neB ?_)
local macro_rules | `(tactic| walk_at "dv1") => `(tactic| first
  | (with_reducible refine' v_var ?h ?_); (case h => rfl)
  | (with_reducible refine' v_aug ?h ?_); (case h => rfl)
  | (with_reducible refine' v_div ?h1 ?h2 ?_); (case h1 => walk_at "num"); (case h2 => walk_at "num")
  | (with_reducible refine' v_mod ?h1 ?_); (case h1 => walk_at "num")
  | (with_reducible refine' v_pow ?h1 ?_); (case h1 => walk_at "num")
  | (with_reducible refine' v_mulR ?h1 ?_); (case h1 => walk_at "num")
  | (with_reducible refine' v_mulL ?h1 ?_); (case h1 => walk_at "num")
  | (with_reducible refine' v_fin ?h1 ?_); (case h1 => first | exact Or.inl rfl | exact Or.inr rfl | (refine Or.inr ?_; simp only [List.length_set, *]; done))
  | (with_reducible refine' v_ix ?h1 ?_); (case h1 => first | exact ixD_ref (by assumption) (by rfl) | rfl)
  | (with_reducible refine' v_len ?h1 ?_); (case h1 => first | exact lenD_ref (by assumption) | rfl)
  | (with_reducible refine' v_list ?h1 ?_); (case h1 => rfl)
  | (with_reducible refine' v_listR ?h1 ?_); (case h1 => rfl)
  | (with_reducible refine' v_tuple ?h1 ?_); (case h1 => rfl)
  | (with_reducible refine' v_isd ?h1 ?_); (case h1 => rfl)
  | (with_reducible refine' v_isiTy ?h1 ?h2 ?_); (case h1 => rfl); (case h2 => rfl)
  | (with_reducible refine' v_isiT ?h1 ?_); (case h1 => rfl))
local macro_rules | `(tactic| walk_at "dv2") => `(tactic| first
  | refine v_gsub (by rfl) (by rfl) (by assumption) (by rfl) (fun _ _ _ => ?_) | refine ⟨_, rfl, ?_⟩ | (with_reducible refine' ⟨rng_ok ?h1 ?h2, ?_⟩); (case h1 => omega); (case h2 => omega) | refine ⟨rfl, ?_⟩ | refine ⟨_, _, rfl, ?_⟩ | refine ⟨Nat.le_of_ble_eq_true rfl, ?_⟩)
local macro_rules | `(tactic| walk_at "dv3") => `(tactic| first
  | (with_reducible refine' v_dec (fun _ => ?_) (fun hn => absurd ?h hn)); (case h => first | assumption | omega | decide)
  | (with_reducible refine' v_dec (fun hn => absurd hn ?h) (fun _ => ?_)); (case h => first | assumption | omega | decide)
  | (with_reducible refine' v_ndec (fun _ => ?_) (fun hn => absurd hn ?h)); (case h => first | assumption | omega | decide)
  | (with_reducible refine' v_ndec (fun hn => absurd ?h hn) (fun _ => ?_)); (case h => first | assumption | omega | decide)
  | (with_reducible refine' v_bT ?h ?_); (case h => first | assumption | rfl)
  | (with_reducible refine' v_bF ?h ?_); (case h => first | assumption | rfl))
local macro_rules | `(tactic| walk_at "dv4") => `(tactic| with_reducible first
  | refine v_places ?_ | refine v_roads ?_ | refine v_over ?_ | refine v_line ?_ | refine v_spots ?_ | refine v_myards ?_ | refine v_mroads ?_ | refine v_mW (by decide +kernel) ?_ | refine v_mK (by decide +kernel) ?_
  | refine v_itX ?_ | refine v_ev ?_ | refine v_rev ?_ | refine v_zs ?_ | refine v_enum ?_ | refine v_enum2 ?_ | refine v_makeV ?_ | refine v_tryN ?_ | refine v_lc2 ?_ | refine v_fz ?_ | refine v_make ?_ | refine v_fldS ?_)
local macro_rules | `(tactic| walk_at "dv5") => `(tactic| first
  | refine ⟨_, _, rfl, rfl, ?_⟩ | refine ⟨⟨_, _, rfl⟩, ?_⟩ | refine ⟨⟨_, _, _, rfl⟩, ?_⟩ | refine ⟨_, _, _, rfl, ?_⟩ | refine Or.inl ⟨_, rfl, ?_⟩ | refine Or.inr ⟨_, (fun _ z => by cases z), rfl, ?_⟩)
local macro_rules | `(tactic| walk_at "dv") => `(tactic| repeat (first | walk_at "dv0" | walk_at "dv4" | walk_at "dv1" | walk_at "dv3" | walk_at "dv2" | walk_at "dv5"))
/-! ### rows cut at a place -/
def preD (t : Int) : Seg → List Dt
  | [] => []
  | p :: a => .int t :: stD p.1 :: preD p.2 a
def lastT (t : Int) : Seg → Int
  | [] => t
  | p :: a => lastT p.2 a
def setT (t : Int) (a : Seg) (v : Int) : Int × Seg := match a with
  | [] => (v, [])
  | p :: a => (t, (p.1, (setT p.2 a v).1) :: (setT p.2 a v).2)
theorem preD_len (t : Int) : ∀ a : Seg, (preD t a).length = 2 * a.length
  | [] => rfl
  | p :: a => by
    rw [preD, List.length_cons, List.length_cons, preD_len p.2 a, List.length_cons]
    omega
theorem row_split (t : Int) : ∀ a b : Seg, rowD t (a ++ b) = preD t a ++ .int (lastT t a) :: segD b
  | [], b => rfl
  | p :: a, b => by
    have ih := row_split p.2 a b
    show Dt.int t :: stD p.1 :: rowD p.2 (a ++ b) = _
    rw [ih]
    rfl
theorem row_set (t : Int) : ∀ (a b : Seg) (v : Int), rowD (setT t a v).1 ((setT t a v).2 ++ b) = preD t a ++ .int v :: segD b
  | [], b, v => rfl
  | p :: a, b, v => by
    have ih := row_set p.2 a b v
    show Dt.int t :: stD p.1 :: rowD (setT p.2 a v).1 ((setT p.2 a v).2 ++ b) = _
    rw [ih]
    rfl
theorem setT_len (t : Int) : ∀ (a : Seg) (v : Int), (setT t a v).2.length = a.length
  | [], v => rfl
  | p :: a, v => by
    show ((p.1, (setT p.2 a v).1) :: (setT p.2 a v).2).length = _
    rw [List.length_cons, setT_len p.2 a v, List.length_cons]
theorem setT_path {m : Mod} {w : Str} : ∀ {a : Seg} {y : Str} {t v : Int}, Path m y a w → Path m y (setT t a v).2 w
  | [], _, _, _, h => h
  | p :: a, y, t, v, h => by
    cases h with
    | cons h1 h2 h3 p' => exact .cons h1 h2 h3 (setT_path p')
theorem Path.split {m : Mod} {z : Str} : ∀ {a b : Seg} {y : Str}, Path m y (a ++ b) z → ∃ w, Path m y a w ∧ Path m w b z ∧ (spots m y (a ++ b))[a.length]? = some w
  | [], b, y, h => ⟨y, .nil y, h, rfl⟩
  | p :: a, b, y, h => by
    cases h with
    | @cons _ s u l' _ r h1 h2 h3 p' =>
      obtain ⟨w, q1, q2, q3⟩ := Path.split p'
      refine ⟨w, .cons h1 h2 h3 q1, q2, ?_⟩
      have e : goes m s = (r.ends s.2).2 := by simp [goes, h1]
      show (y :: goes m s :: (a ++ b).map fun p => goes m p.1)[a.length + 1]? = some w
      rw [e]
      exact q3
theorem cut_drop {α : Type} (xs : List α) (k : Nat) : cutA xs (some (k : Int)) none = xs.drop k := by
  unfold cutA
  rw [HT.sIx_nat, HT.sIx_none, dropIx]
  rw [List.take_of_length_le]
  rw [List.length_drop]
  omega
theorem v_ps1 {en : Dv.Env} {S : Store} {m : Dv.Env → Store → R Dt} {ms : List (Dv.Env → Store → R Dt)} {QA : List Dt → Store → Prop} {X : Ex → Store → Prop} (h : Pe (m en S) (fun d S1 => Pe (mPs ms en S1) (fun ds S2 => QA (d :: ds) S2) X) X) : Pe (mPs (m :: ms) en S) QA X :=
  Pe.bind (h.imp (fun d S1 k => Pe.bind (k.imp (fun _ _ q => q) fun _ _ z => z)) fun _ _ z => z)
theorem v_dict {en : Dv.Env} {S : Store} {ks : List Str} {ms : List (Dv.Env → Store → R Dt)} {Q : Dt → Store → Prop} {X : Ex → Store → Prop} (h : Pe (mPs ms en S) (fun ds S1 => ds.length = ks.length ∧ Q (.dct (ks.map Sum.inr) ds) S1) X) : Pe (mDict ks ms en S) Q X := by
  refine Pe.bind (h.imp (fun ds S1 ⟨hl, q⟩ => ?_) fun _ _ z => z)
  rw [if_pos hl]
  exact q
end Lw
set_option Elab.async false
set_option linter.all false
set_option maxRecDepth 100000
set_option maxHeartbeats 4000000
set_option autoImplicit false
namespace Lw
open PySem Dv
/-! steps of our own words -/
local macro_rules | `(tactic| walk_at "num") => `(tactic| first | assumption | decide | omega)
local macro_rules | `(tactic| walk_at "dv0") => `(tactic| with_reducible first
  | refine v_seq ?_ | refine v_ifS ?_ | refine v_set ?_ | refine v_ret ?_ | refine v_asg ?_ | refine v_par ?_ | refine v_drop ?_ | refine v_nx ?_ | refine v_bk ?_ | refine v_ct ?_ | refine v_retN ?_ | refine v_for ?_
  | refine v_c ?_ | refine v_nil ?_ | refine v_cons ?_ | refine v_op ?_ | refine v_B ?_ | refine v_truth ?_ | refine v_andT ?_ | refine v_orT ?_ | refine v_notT ?_
  | refine v_andV ?_ | refine v_orV ?_ | refine v_notV ?_ | refine v_if ?_ | refine v_neg ?_ | refine v_chain ?_ | refine v_tup ?_ | refine v_lst ?_ | refine v_lstR ?_ | refine v_noPart ?_ | refine v_part ?_ | refine v_sl ?_
  | refine v_CB ?_ | refine v_call ?_ | refine v_abs ?_ | refine v_lc ?_ | refine v_yes ?_ | refine v_it ?_ | refine v_rng1 ?_ | refine v_rng2 ?_ | refine v_rng3 ?_ | refine v_T ?_ | refine v_F ?_
  | refine v_add ?_ | refine v_sub ?_ | refine v_iadd ?_ | refine v_lt ?_ | refine v_le ?_ | refine v_gt ?_ | refine v_ge ?_ | refine v_eqI ?_ | refine v_neI ?_ | refine v_eqB ?_ | refine v_neB ?_)
local macro_rules | `(tactic| walk_at "dv1") => `(tactic| first
  | (with_reducible refine' v_var ?h ?_); (case h => rfl)
  | (with_reducible refine' v_aug ?h ?_); (case h => rfl)
  | (with_reducible refine' v_div ?h1 ?h2 ?_); (case h1 => walk_at "num"); (case h2 => walk_at "num")
  | (with_reducible refine' v_mod ?h1 ?_); (case h1 => walk_at "num")
  | (with_reducible refine' v_pow ?h1 ?_); (case h1 => walk_at "num")
  | (with_reducible refine' v_mulR ?h1 ?_); (case h1 => walk_at "num")
  | (with_reducible refine' v_mulL ?h1 ?_); (case h1 => walk_at "num")
  | (with_reducible refine' v_fin ?h1 ?_); (case h1 => first | exact Or.inl rfl | exact Or.inr rfl | (refine Or.inr ?_; simp only [List.length_set, *]; done))
  | (with_reducible refine' v_ix ?h1 ?_); (case h1 => first | exact ixD_ref (by assumption) (by rfl) | rfl)
  | (with_reducible refine' v_len ?h1 ?_); (case h1 => first | exact lenD_ref (by assumption) | rfl)
  | (with_reducible refine' v_list ?h1 ?_); (case h1 => rfl)
  | (with_reducible refine' v_listR ?h1 ?_); (case h1 => rfl)
  | (with_reducible refine' v_tuple ?h1 ?_); (case h1 => rfl)
  | (with_reducible refine' v_isd ?h1 ?_); (case h1 => rfl)
  | (with_reducible refine' v_isiTy ?h1 ?h2 ?_); (case h1 => rfl); (case h2 => rfl)
  | (with_reducible refine' v_isiT ?h1 ?_); (case h1 => rfl))
local macro_rules | `(tactic| walk_at "dv2") => `(tactic| first
  | refine v_gsub (by rfl) (by rfl) (by assumption) (by rfl) (fun _ _ _ => ?_) | refine ⟨_, rfl, ?_⟩ | (with_reducible refine' ⟨rng_ok ?h1 ?h2, ?_⟩); (case h1 => omega); (case h2 => omega) | refine ⟨rfl, ?_⟩ | refine ⟨_, _, rfl, ?_⟩ | refine ⟨Nat.le_of_ble_eq_true rfl, ?_⟩)
local macro_rules | `(tactic| walk_at "dv3") => `(tactic| first
  | (with_reducible refine' v_dec (fun _ => ?_) (fun hn => absurd ?h hn)); (case h => first | assumption | omega | decide)
  | (with_reducible refine' v_dec (fun hn => absurd hn ?h) (fun _ => ?_)); (case h => first | assumption | omega | decide)
  | (with_reducible refine' v_ndec (fun _ => ?_) (fun hn => absurd hn ?h)); (case h => first | assumption | omega | decide)
  | (with_reducible refine' v_ndec (fun hn => absurd ?h hn) (fun _ => ?_)); (case h => first | assumption | omega | decide)
  | (with_reducible refine' v_bT ?h ?_); (case h => first | assumption | rfl)
  | (with_reducible refine' v_bF ?h ?_); (case h => first | assumption | rfl))
local macro_rules | `(tactic| walk_at "dv4") => `(tactic| with_reducible first
  | refine v_places ?_ | refine v_roads ?_ | refine v_over ?_ | refine v_line ?_ | refine v_spots ?_ | refine v_myards ?_ | refine v_mroads ?_ | refine v_mW (by decide +kernel) ?_ | refine v_mK (by decide +kernel) ?_
  | refine v_itX ?_ | refine v_ev ?_ | refine v_rev ?_ | refine v_zs ?_ | refine v_enum ?_ | refine v_enum2 ?_ | refine v_makeV ?_ | refine v_tryN ?_ | refine v_lc2 ?_ | refine v_fz ?_ | refine v_make ?_ | refine v_fldS ?_)
local macro_rules | `(tactic| walk_at "dv5") => `(tactic| first
  | refine ⟨_, _, rfl, rfl, ?_⟩ | refine ⟨⟨_, _, rfl⟩, ?_⟩ | refine ⟨⟨_, _, _, rfl⟩, ?_⟩ | refine ⟨_, _, _, rfl, ?_⟩ | refine Or.inl ⟨_, rfl, ?_⟩ | refine Or.inr ⟨_, (fun _ z => by cases z), rfl, ?_⟩)
local macro_rules | `(tactic| walk_at "dv") => `(tactic| repeat (first | walk_at "dv0" | walk_at "dv4" | walk_at "dv1" | walk_at "dv3" | walk_at "dv2" | walk_at "dv5"))
/-! ### exchanges done -/
theorem cut_n {α : Type} (xs : List α) (k : Nat) (i : Int) (h : i = k := by rfl) : cutA xs (some i) none = xs.drop k := by
  rw [h]
  exact cut_drop xs k
theorem v_addL {xs ys : List Dt} {S : Store} {Q : Dt → Store → Prop} {X : Ex → Store → Prop} (hl : xs.length + ys.length ≤ 1000000) (q : Q (.lst (xs ++ ys)) S) : Pe (mAdd (.lst xs) (.lst ys) S) Q X := v_ifok hl q
section
end
/-! ### lists of the store, compared and popped -/
theorem v_popX {k : Nat} {ds : List Dt} {d : Dt} {mo : Dv.Env → Store → R Dt} {en : Dv.Env} {S : Store} {Q : Dt → Store → Prop} {X : Ex → Store → Prop} (ho : mo en S = .ok (.ref k) S) (hS : S[k]? = some (.lst ds)) (hd : ds.getLast? = some d) (q : Q d (S.set k (.lst ds.dropLast))) : Pe (mPop mo en S) Q X := by
  have e : mPop mo en S = .ok d (S.set k (.lst ds.dropLast)) := by
    unfold mPop
    rw [ho]
    show (match S[k]? with
      | some (.lst ds) => match ds.getLast? with
        | some d => R.ok d (S.set k (.lst ds.dropLast))
        | none => .stuck
      | _ => .stuck) = _
    rw [hS]
    dsimp only
    rw [hd]
  rw [e]
  exact q
theorem v_neRN {α : Type} {f : α → Dt} {l : List α} {k : Nat} {S : Store} {Q : Dt → Store → Prop} {X : Ex → Store → Prop} (hS : S[k]? = some (.lst (l.map f))) (h : (l.map f).all (okD 11) = true) (q : Q (.bl (!l.isEmpty)) S) : Pe (mNe (.ref k) (.lst []) S) Q X := by
  have e1 : res S (.ref k) = .lst (l.map f) := by
    simp [res, hS]
  refine v_ifok ⟨by rw [e1]; exact h, rfl⟩ ?_
  have e : eqD (.lst (l.map f)) (.lst []) = l.isEmpty := by
    cases l with
    | nil => rfl
    | cons s l => rfl
  rw [e1]
  show Q (.bl (!eqD (.lst (l.map f)) (.lst []))) S
  rw [e]
  exact q
theorem eqDs_map {α : Type} [DecidableEq α] {f : α → Dt} (h : ∀ a b, eqD (f a) (f b) = decide (a = b)) : ∀ l l' : List α, eqDs (l.map f) (l'.map f) = decide (l = l')
  | [], [] => rfl
  | [], b :: l' => rfl
  | a :: l, [] => rfl
  | a :: l, b :: l' => by
    show (eqD (f a) (f b) && eqDs (l.map f) (l'.map f)) = _
    rw [h, eqDs_map h, ← Bool.decide_and]
    congr 1
    simp
theorem all_map {α : Type} {p : Dt → Bool} {f : α → Dt} {l : List α} (h : ∀ a ∈ l, p (f a) = true) : (l.map f).all p = true := by
  rw [List.all_eq_true]
  intro x hx
  obtain ⟨s, hs, rfl⟩ := List.mem_map.mp hx
  exact h s hs
end Lw
set_option Elab.async false
set_option linter.all false
set_option maxRecDepth 100000
set_option maxHeartbeats 4000000
set_option autoImplicit false
namespace Lw
open PySem Dv
/-! steps of our own words -/
local macro_rules | `(tactic| walk_at "num") => `(tactic| first | assumption | decide | omega)
local macro_rules | `(tactic| walk_at "dv0") => `(tactic| with_reducible first
  | refine v_seq ?_ | refine v_ifS ?_ | refine v_set ?_ | refine v_ret ?_ | refine v_asg ?_ | refine v_par ?_ | refine v_drop ?_ | refine v_nx ?_ | refine v_bk ?_ | refine v_ct ?_ | refine v_retN ?_ | refine v_for ?_
  | refine v_c ?_ | refine v_nil ?_ | refine v_cons ?_ | refine v_op ?_ | refine v_B ?_ | refine v_truth ?_ | refine v_andT ?_ | refine v_orT ?_ | refine v_notT ?_
  | refine v_andV ?_ | refine v_orV ?_ | refine v_notV ?_ | refine v_if ?_ | refine v_neg ?_ | refine v_chain ?_ | refine v_tup ?_ | refine v_lst ?_ | refine v_lstR ?_ | refine v_noPart ?_ | refine v_part ?_ | refine v_sl ?_
  | refine v_CB ?_ | refine v_call ?_ | refine v_abs ?_ | refine v_lc ?_ | refine v_yes ?_ | refine v_it ?_ | refine v_rng1 ?_ | refine v_rng2 ?_ | refine v_rng3 ?_ | refine v_T ?_ | refine v_F ?_
  | refine v_add ?_ | refine v_sub ?_ | refine v_iadd ?_ | refine v_lt ?_ | refine v_le ?_ | refine v_gt ?_ | refine v_ge ?_ | refine v_eqI ?_ | refine v_neI ?_ | refine v_eqB ?_ | refine v_neB ?_)
local macro_rules | `(tactic| walk_at "dv1") => `(tactic| first
  | (with_reducible refine' v_var ?h ?_); (case h => rfl)
  | (with_reducible refine' v_aug ?h ?_); (case h => rfl)
  | (with_reducible refine' v_div ?h1 ?h2 ?_); (case h1 => walk_at "num"); (case h2 => walk_at "num")
  | (with_reducible refine' v_mod ?h1 ?_); (case h1 => walk_at "num")
  | (with_reducible refine' v_pow ?h1 ?_); (case h1 => walk_at "num")
  | (with_reducible refine' v_mulR ?h1 ?_); (case h1 => walk_at "num")
  | (with_reducible refine' v_mulL ?h1 ?_); (case h1 => walk_at "num")
  | (with_reducible refine' v_fin ?h1 ?_); (case h1 => first | exact Or.inl rfl | exact Or.inr rfl | (refine Or.inr ?_; simp only [List.length_set, *]; done))
  | (with_reducible refine' v_ix ?h1 ?_); (case h1 => first | exact ixD_ref (by assumption) (by rfl) | rfl)
  | (with_reducible refine' v_len ?h1 ?_); (case h1 => first | exact lenD_ref (by assumption) | rfl)
  | (with_reducible refine' v_list ?h1 ?_); (case h1 => rfl)
  | (with_reducible refine' v_listR ?h1 ?_); (case h1 => rfl)
  | (with_reducible refine' v_tuple ?h1 ?_); (case h1 => rfl)
  | (with_reducible refine' v_isd ?h1 ?_); (case h1 => rfl)
  | (with_reducible refine' v_isiTy ?h1 ?h2 ?_); (case h1 => rfl); (case h2 => rfl)
  | (with_reducible refine' v_isiT ?h1 ?_); (case h1 => rfl))
local macro_rules | `(tactic| walk_at "dv2") => `(tactic| first
  | refine v_gsub (by rfl) (by rfl) (by assumption) (by rfl) (fun _ _ _ => ?_) | refine ⟨_, rfl, ?_⟩ | (with_reducible refine' ⟨rng_ok ?h1 ?h2, ?_⟩); (case h1 => omega); (case h2 => omega) | refine ⟨rfl, ?_⟩ | refine ⟨_, _, rfl, ?_⟩ | refine ⟨Nat.le_of_ble_eq_true rfl, ?_⟩)
local macro_rules | `(tactic| walk_at "dv3") => `(tactic| first
  | (with_reducible refine' v_dec (fun _ => ?_) (fun hn => absurd ?h hn)); (case h => first | assumption | omega | decide)
  | (with_reducible refine' v_dec (fun hn => absurd hn ?h) (fun _ => ?_)); (case h => first | assumption | omega | decide)
  | (with_reducible refine' v_ndec (fun _ => ?_) (fun hn => absurd hn ?h)); (case h => first | assumption | omega | decide)
  | (with_reducible refine' v_ndec (fun hn => absurd ?h hn) (fun _ => ?_)); (case h => first | assumption | omega | decide)
  | (with_reducible refine' v_bT ?h ?_); (case h => first | assumption | rfl)
  | (with_reducible refine' v_bF ?h ?_); (case h => first | assumption | rfl))
local macro_rules | `(tactic| walk_at "dv4") => `(tactic| with_reducible first
  | refine v_places ?_ | refine v_roads ?_ | refine v_over ?_ | refine v_line ?_ | refine v_spots ?_ | refine v_myards ?_ | refine v_mroads ?_ | refine v_mW (by decide +kernel) ?_ | refine v_mK (by decide +kernel) ?_
  | refine v_itX ?_ | refine v_ev ?_ | refine v_rev ?_ | refine v_zs ?_ | refine v_enum ?_ | refine v_enum2 ?_ | refine v_makeV ?_ | refine v_tryN ?_ | refine v_lc2 ?_ | refine v_fz ?_ | refine v_make ?_ | refine v_fldS ?_)
local macro_rules | `(tactic| walk_at "dv5") => `(tactic| first
  | refine ⟨_, _, rfl, rfl, ?_⟩ | refine ⟨⟨_, _, rfl⟩, ?_⟩ | refine ⟨⟨_, _, _, rfl⟩, ?_⟩ | refine ⟨_, _, _, rfl, ?_⟩ | refine Or.inl ⟨_, rfl, ?_⟩ | refine Or.inr ⟨_, (fun _ z => by cases z), rfl, ?_⟩)
local macro_rules | `(tactic| walk_at "dv") => `(tactic| repeat (first | walk_at "dv0" | walk_at "dv4" | walk_at "dv1" | walk_at "dv3" | walk_at "dv2" | walk_at "dv5"))
/-! ### any good exchange; walks led on -/
theorem cut_at {α : Type} {l : List α} {k : Nat} {p : α} (h : l[k]? = some p) : ∃ a b, l = a ++ p :: b ∧ a.length = k := by
  have hl : k < l.length := (List.getElem?_eq_some_iff.mp h).1
  have e : l[k] = p := (List.getElem?_eq_some_iff.mp h).2
  refine ⟨l.take k, l.drop (k + 1), ?_, by rw [List.length_take]; omega⟩
  rw [← e, ← List.drop_eq_getElem_cons hl, List.take_append_drop]
theorem Within.app {B : Nat} {a b : Seg} : Within B (a ++ b) ↔ Within B a ∧ Within B b := by
  constructor
  · exact fun h => ⟨fun p hp => h p (List.mem_append.mpr (.inl hp)), fun p hp => h p (List.mem_append.mpr (.inr hp))⟩
  · rintro ⟨h, k⟩ p hp
    rcases List.mem_append.mp hp with z | z
    · exact h p z
    · exact k p z
theorem Within.cons {B : Nat} {p : Step × Int} {b : Seg} : Within B (p :: b) ↔ p.2.natAbs ≤ B ∧ Within B b := by
  constructor
  · exact fun h => ⟨h p List.mem_cons_self, fun q hq => h q (List.mem_cons_of_mem _ hq)⟩
  · rintro ⟨h, k⟩ q hq
    rcases List.mem_cons.mp hq with z | z
    · rw [z]
      exact h
    · exact k q z
section
end
end Lw
set_option Elab.async false
set_option linter.all false
set_option maxRecDepth 100000
set_option maxHeartbeats 4000000
set_option autoImplicit false
namespace Lw
open PySem Dv
/-! steps of our own words -/
local macro_rules | `(tactic| walk_at "num") => `(tactic| first | assumption | decide | omega)
local macro_rules | `(tactic| walk_at "dv0") => `(tactic| with_reducible first
  | refine v_seq ?_ | refine v_ifS ?_ | refine v_set ?_ | refine v_ret ?_ | refine v_asg ?_ | refine v_par ?_ | refine v_drop ?_ | refine v_nx ?_ | refine v_bk ?_ | refine v_ct ?_ | refine v_retN ?_ | refine v_for ?_
  | refine v_c ?_ | refine v_nil ?_ | refine v_cons ?_ | refine v_op ?_ | refine v_B ?_ | refine v_truth ?_ | refine v_andT ?_ | refine v_orT ?_ | refine v_notT ?_
  | refine v_andV ?_ | refine v_orV ?_ | refine v_notV ?_ | refine v_if ?_ | refine v_neg ?_ | refine v_chain ?_ | refine v_tup ?_ | refine v_lst ?_ | refine v_lstR ?_ | refine v_noPart ?_ | refine v_part ?_ | refine v_sl ?_
  | refine v_CB ?_ | refine v_call ?_ | refine v_abs ?_ | refine v_lc ?_ | refine v_yes ?_ | refine v_it ?_ | refine v_rng1 ?_ | refine v_rng2 ?_ | refine v_rng3 ?_ | refine v_T ?_ | refine v_F ?_
  | refine v_add ?_ | refine v_sub ?_ | refine v_iadd ?_ | refine v_lt ?_ | refine v_le ?_ | refine v_gt ?_ | refine v_ge ?_ | refine v_eqI ?_ | refine v_neI ?_ | refine v_eqB ?_ | refine v_neB ?_)
local macro_rules | `(tactic| walk_at "dv1") => `(tactic| first
  | (with_reducible refine' v_var ?h ?_); (case h => rfl)
  | (with_reducible refine' v_aug ?h ?_); (case h => rfl)
  | (with_reducible refine' v_div ?h1 ?h2 ?_); (case h1 => walk_at "num"); (case h2 => walk_at "num")
  | (with_reducible refine' v_mod ?h1 ?_); (case h1 => walk_at "num")
  | (with_reducible refine' v_pow ?h1 ?_); (case h1 => walk_at "num")
  | (with_reducible refine' v_mulR ?h1 ?_); (case h1 => walk_at "num")
  | (with_reducible refine' v_mulL ?h1 ?_); (case h1 => walk_at "num")
  | (with_reducible refine' v_fin ?h1 ?_); (case h1 => first | exact Or.inl rfl | exact Or.inr rfl | (refine Or.inr ?_; simp only [List.length_set, *]; done))
  | (with_reducible refine' v_ix ?h1 ?_); (case h1 => first | exact ixD_ref (by assumption) (by rfl) | rfl)
  | (with_reducible refine' v_len ?h1 ?_); (case h1 => first | exact lenD_ref (by assumption) | rfl)
  | (with_reducible refine' v_list ?h1 ?_); (case h1 => rfl)
  | (with_reducible refine' v_listR ?h1 ?_); (case h1 => rfl)
  | (with_reducible refine' v_tuple ?h1 ?_); (case h1 => rfl)
  | (with_reducible refine' v_isd ?h1 ?_); (case h1 => rfl)
  | (with_reducible refine' v_isiTy ?h1 ?h2 ?_); (case h1 => rfl); (case h2 => rfl)
  | (with_reducible refine' v_isiT ?h1 ?_); (case h1 => rfl))
local macro_rules | `(tactic| walk_at "dv2") => `(tactic| first
  | refine v_gsub (by rfl) (by rfl) (by assumption) (by rfl) (fun _ _ _ => ?_) | refine ⟨_, rfl, ?_⟩ | (with_reducible refine' ⟨rng_ok ?h1 ?h2, ?_⟩); (case h1 => omega); (case h2 => omega) | refine ⟨rfl, ?_⟩ | refine ⟨_, _, rfl, ?_⟩ | refine ⟨Nat.le_of_ble_eq_true rfl, ?_⟩)
local macro_rules | `(tactic| walk_at "dv3") => `(tactic| first
  | (with_reducible refine' v_dec (fun _ => ?_) (fun hn => absurd ?h hn)); (case h => first | assumption | omega | decide)
  | (with_reducible refine' v_dec (fun hn => absurd hn ?h) (fun _ => ?_)); (case h => first | assumption | omega | decide)
  | (with_reducible refine' v_ndec (fun _ => ?_) (fun hn => absurd hn ?h)); (case h => first | assumption | omega | decide)
  | (with_reducible refine' v_ndec (fun hn => absurd ?h hn) (fun _ => ?_)); (case h => first | assumption | omega | decide)
  | (with_reducible refine' v_bT ?h ?_); (case h => first | assumption | rfl)
  | (with_reducible refine' v_bF ?h ?_); (case h => first | assumption | rfl))
local macro_rules | `(tactic| walk_at "dv4") => `(tactic| with_reducible first
  | refine v_places ?_ | refine v_roads ?_ | refine v_over ?_ | refine v_line ?_ | refine v_spots ?_ | refine v_myards ?_ | refine v_mroads ?_ | refine v_mW (by decide +kernel) ?_ | refine v_mK (by decide +kernel) ?_
  | refine v_itX ?_ | refine v_ev ?_ | refine v_rev ?_ | refine v_zs ?_ | refine v_enum ?_ | refine v_enum2 ?_ | refine v_makeV ?_ | refine v_tryN ?_ | refine v_lc2 ?_ | refine v_fz ?_ | refine v_make ?_ | refine v_fldS ?_)
local macro_rules | `(tactic| walk_at "dv5") => `(tactic| first
  | refine ⟨_, _, rfl, rfl, ?_⟩ | refine ⟨⟨_, _, rfl⟩, ?_⟩ | refine ⟨⟨_, _, _, rfl⟩, ?_⟩ | refine ⟨_, _, _, rfl, ?_⟩ | refine Or.inl ⟨_, rfl, ?_⟩ | refine Or.inr ⟨_, (fun _ z => by cases z), rfl, ?_⟩)
local macro_rules | `(tactic| walk_at "dv") => `(tactic| repeat (first | walk_at "dv0" | walk_at "dv4" | walk_at "dv1" | walk_at "dv3" | walk_at "dv2" | walk_at "dv5"))
/-! ### names drawn -/
theorem v_pop1 {k : Nat} {ds : List Dt} {mo me : Dv.Env → Store → R Dt} {en : Dv.Env} {S : Store} {Q : Dt → Store → Prop} {X : Ex → Store → Prop} (ho : mo en S = .ok (.ref k) S) (hS : S[k]? = some (.lst ds))
    (h : Pe (me en S) (fun y S1 => ∃ (j : Nat) (d : Dt) (ds1 : List Dt), y = .int j ∧ j < 1000000 ∧ S1[k]? = some (.lst ds1) ∧ ds1[j]? = some d ∧ Q d (S1.set k (.lst (ds1.eraseIdx j)))) X) : Pe (mPop1 mo me en S) Q X := by
  unfold mPop1
  rw [ho]
  show Pe (if isLstR S (.ref k) = true then _ else _) Q X
  rw [if_pos (by unfold isLstR; simp only [hS])]
  refine Pe.bind (h.imp (fun y S1 ⟨j, d, ds1, e, hj, h1, h2, q⟩ => ?_) fun _ _ z => z)
  subst e
  have hj2 : j < ds1.length := (List.getElem?_eq_some_iff.mp h2).1
  have hi : L2.ixN ds1.length (j : Int) = some j := by
    unfold L2.ixN
    rw [if_pos (by omega), if_pos (by omega)]
    rfl
  show Pe (popAt S1 (.ref k) j) Q X
  unfold popAt
  simp only [h1]
  rw [if_pos (by omega)]
  simp only [(L2.ixN_seq hi).1, h2]
  exact q
abbrev words15 : List Str := ["a", "road", "bb", "gate", "z", "yard", "one", "abcdefgh", "x", "ford", "mill", "walk", "ab", "bridge", "k"]
section
variable {S : Store} {i : Nat}
theorem names_ok (hp : PureS S) (hF : FlowAt S i) {many : Int} (hm0 : 0 ≤ many) (hm1 : many ≤ 15) {Q : Dt → Store → Prop} {X : Ex → Store → Prop}
    (q : ∀ (fs : List Str) S', fs.Nodup → (∀ x ∈ fs, x ∈ words15) → fs.length = many.natAbs → Fz i S S' → Q (.lst (fs.map Dt.str)) S') : Pe (m_law_names [.ref i, .int many] S) Q X := by
  refine v_fn ?_
  unfold b_law_names
  walk_at "dv"
  refine v_addR (xs := (words15.take 13).map Dt.str) (ys := (words15.drop 13).map Dt.str) (by simp [asP]) rfl (by decide) ?_
  walk_at "dv"
  refine v_loop (fun ds en T => ∃ (k f : Nat) (x4 : Option Dt) (ws fs : List Str), en = [some (.ref i), some (.int many), some (.ref k), some (.ref f), x4] ∧ Bz i S T ∧ PureS T ∧ S.length ≤ k ∧ S.length ≤ f ∧ k ≠ f ∧ T[k]? = some (.lst (ws.map Dt.str)) ∧ T[f]? = some (.lst (fs.map Dt.str)) ∧
      (ws ++ fs).Nodup ∧ (∀ x ∈ ws ++ fs, x ∈ words15) ∧ ws.length + fs.length = 15 ∧ fs.length + ds.length = many.natAbs)
    ⟨_, _, _, words15, [], rfl, (((Bz.refl hF).push).push).push, ((hp.push (by decide +kernel)).push (by decide +kernel)).push rfl, by simp, by simp, by simp, by simp, by simp, by decide +kernel, fun x hx => by simpa using hx, rfl, by simp [rangeD]; omega⟩ ?_ ?_
  · rintro d ds en T ⟨k, f, x4, ws, fs, rfl, bz, pT, hk, hf, hkf, hT, hTf, nd, hx, hl, hlen⟩
    have hlen' : fs.length + ds.length + 1 = many.natAbs := by
      rw [List.length_cons] at hlen
      omega
    have ib := bz.lt
    refine ⟨_, _, rfl, ?_⟩
    walk_at "dv"
    refine v_app1K rfl hTf ?_
    refine v_pop1 rfl hT ?_
    walk_at "dv"
    rw [List.length_map]
    refine draw_fz bz.flow (by omega) ?_ fun v T2 v0 v1 zz => ?_
    · have := Nat.log2_lt (n := ((ws.length : Nat) : Int).natAbs) (k := 64) (by omega)
      omega
    have hT2 : T2[k]? = some (.lst (ws.map Dt.str)) := (zz.oth _ (by omega)).trans hT
    have hTf2 : T2[f]? = some (.lst (fs.map Dt.str)) := (zz.oth _ (by omega)).trans hTf
    have hv : v.toNat < ws.length := by omega
    obtain ⟨a, b, e, ha⟩ := cut_at (List.getElem?_eq_getElem hv)
    generalize ws[v.toNat] = x at e
    subst e
    have ee : (((a ++ x :: b).map Dt.str).eraseIdx a.length) = (a ++ b).map Dt.str := by
      rw [List.map_append, List.map_cons, List.eraseIdx_append_of_length_le (by simp)]
      simp
    have pm : ((a ++ x :: b) ++ fs).Perm ((a ++ b) ++ (fs ++ [x])) := by
      have p1 : ((a ++ x :: b) ++ fs).Perm (x :: ((a ++ b) ++ fs)) := (List.perm_middle (a := x) (l₁ := a) (l₂ := b)).append_right fs
      have p2 : ((a ++ b) ++ (fs ++ [x])).Perm (x :: ((a ++ b) ++ fs)) := by
        rw [← List.append_assoc]
        exact List.perm_append_singleton x _
      exact p1.trans p2.symm
    have ln : (a ++ x :: b).length = (a ++ b).length + 1 := by simp; omega
    refine ⟨a.length, .str x, _, by rw [ha, Int.toNat_of_nonneg v0], by omega, hT2, by simp, ?_⟩
    rw [ee]
    refine ⟨_, (List.getElem?_set_ne hkf).trans hTf2, by rw [List.length_map]; omega, ?_⟩
    refine ⟨k, f, _, a ++ b, fs ++ [x], rfl, ((bz.draw zz).set hk).set hf, ((zz.pure pT).set (show pureO (.lst ((a ++ b).map Dt.str)) = true from strs_pure _ 11)).set ?_, hk, hf, hkf, ?_, ?_, pm.nodup_iff.mp nd, fun y hy => hx y (pm.mem_iff.mpr hy), ?_, ?_⟩
    · show (fs.map Dt.str ++ [Dt.str x]).all (noRef 11) = true
      rw [show fs.map Dt.str ++ [Dt.str x] = (fs ++ [x]).map Dt.str by simp]
      exact strs_pure _ _
    · rw [List.getElem?_set_ne hkf.symm, set_same hT2]
    · rw [set_same ((List.getElem?_set_ne hkf).trans hTf2)]
      simp
    · simp at hl ⊢
      omega
    · rw [List.length_append, List.length_singleton]
      omega
  · rintro en T ⟨k, f, x4, ws, fs, rfl, bz, pT, hk, hf, hkf, hT, hTf, nd, hx, hl, hlen⟩
    walk_at "dv"
    refine v_finB bz hp hTf hf (strs_pure _ _) fun S' zz => q fs S' (List.nodup_append.mp nd).2.1 (fun x h => hx x (List.mem_append.mpr (.inr h))) (by simpa using hlen) zz
end
end Lw
set_option Elab.async false
set_option linter.all false
set_option maxRecDepth 100000
set_option maxHeartbeats 4000000
set_option autoImplicit false
namespace Lw
open PySem Dv
/-! steps of our own words -/
local macro_rules | `(tactic| walk_at "num") => `(tactic| first | assumption | decide | omega)
local macro_rules | `(tactic| walk_at "dv0") => `(tactic| with_reducible first
  | refine v_seq ?_ | refine v_ifS ?_ | refine v_set ?_ | refine v_ret ?_ | refine v_asg ?_ | refine v_par ?_ | refine v_drop ?_ | refine v_nx ?_ | refine v_bk ?_ | refine v_ct ?_ | refine v_retN ?_ | refine v_for ?_
  | refine v_c ?_ | refine v_nil ?_ | refine v_cons ?_ | refine v_op ?_ | refine v_B ?_ | refine v_truth ?_ | refine v_andT ?_ | refine v_orT ?_ | refine v_notT ?_
  | refine v_andV ?_ | refine v_orV ?_ | refine v_notV ?_ | refine v_if ?_ | refine v_neg ?_ | refine v_chain ?_ | refine v_tup ?_ | refine v_lst ?_ | refine v_lstR ?_ | refine v_noPart ?_ | refine v_part ?_ | refine v_sl ?_
  | refine v_CB ?_ | refine v_call ?_ | refine v_abs ?_ | refine v_lc ?_ | refine v_yes ?_ | refine v_it ?_ | refine v_rng1 ?_ | refine v_rng2 ?_ | refine v_rng3 ?_ | refine v_T ?_ | refine v_F ?_
  | refine v_add ?_ | refine v_sub ?_ | refine v_iadd ?_ | refine v_lt ?_ | refine v_le ?_ | refine v_gt ?_ | refine v_ge ?_ | refine v_eqI ?_ | refine v_neI ?_ | refine v_eqB ?_ | refine v_neB ?_)
local macro_rules | `(tactic| walk_at "dv1") => `(tactic| first
  | (with_reducible refine' v_var ?h ?_); (case h => rfl)
  | (with_reducible refine' v_aug ?h ?_); (case h => rfl)
  | (with_reducible refine' v_div ?h1 ?h2 ?_); (case h1 => walk_at "num"); (case h2 => walk_at "num")
  | (with_reducible refine' v_mod ?h1 ?_); (case h1 => walk_at "num")
  | (with_reducible refine' v_pow ?h1 ?_); (case h1 => walk_at "num")
  | (with_reducible refine' v_mulR ?h1 ?_); (case h1 => walk_at "num")
  | (with_reducible refine' v_mulL ?h1 ?_); (case h1 => walk_at "num")
  | (with_reducible refine' v_fin ?h1 ?_); (case h1 => first | exact Or.inl rfl | exact Or.inr rfl | (refine Or.inr ?_; simp only [List.length_set, *]; done))
  | (with_reducible refine' v_ix ?h1 ?_); (case h1 => first | exact ixD_ref (by assumption) (by rfl) | rfl)
  | (with_reducible refine' v_len ?h1 ?_); (case h1 => first | exact lenD_ref (by assumption) | rfl)
  | (with_reducible refine' v_list ?h1 ?_); (case h1 => rfl)
  | (with_reducible refine' v_listR ?h1 ?_); (case h1 => rfl)
  | (with_reducible refine' v_tuple ?h1 ?_); (case h1 => rfl)
  | (with_reducible refine' v_isd ?h1 ?_); (case h1 => rfl)
  | (with_reducible refine' v_isiTy ?h1 ?h2 ?_); (case h1 => rfl); (case h2 => rfl)
  | (with_reducible refine' v_isiT ?h1 ?_); (case h1 => rfl))
local macro_rules | `(tactic| walk_at "dv2") => `(tactic| first
  | refine v_gsub (by rfl) (by rfl) (by assumption) (by rfl) (fun _ _ _ => ?_) | refine ⟨_, rfl, ?_⟩ | (with_reducible refine' ⟨rng_ok ?h1 ?h2, ?_⟩); (case h1 => omega); (case h2 => omega) | refine ⟨rfl, ?_⟩ | refine ⟨_, _, rfl, ?_⟩ | refine ⟨Nat.le_of_ble_eq_true rfl, ?_⟩)
local macro_rules | `(tactic| walk_at "dv3") => `(tactic| first
  | (with_reducible refine' v_dec (fun _ => ?_) (fun hn => absurd ?h hn)); (case h => first | assumption | omega | decide)
  | (with_reducible refine' v_dec (fun hn => absurd hn ?h) (fun _ => ?_)); (case h => first | assumption | omega | decide)
  | (with_reducible refine' v_ndec (fun _ => ?_) (fun hn => absurd hn ?h)); (case h => first | assumption | omega | decide)
  | (with_reducible refine' v_ndec (fun hn => absurd ?h hn) (fun _ => ?_)); (case h => first | assumption | omega | decide)
  | (with_reducible refine' v_bT ?h ?_); (case h => first | assumption | rfl)
  | (with_reducible refine' v_bF ?h ?_); (case h => first | assumption | rfl))
local macro_rules | `(tactic| walk_at "dv4") => `(tactic| with_reducible first
  | refine v_places ?_ | refine v_roads ?_ | refine v_over ?_ | refine v_line ?_ | refine v_spots ?_ | refine v_myards ?_ | refine v_mroads ?_ | refine v_mW (by decide +kernel) ?_ | refine v_mK (by decide +kernel) ?_
  | refine v_itX ?_ | refine v_ev ?_ | refine v_rev ?_ | refine v_zs ?_ | refine v_enum ?_ | refine v_enum2 ?_ | refine v_makeV ?_ | refine v_tryN ?_ | refine v_lc2 ?_ | refine v_fz ?_ | refine v_make ?_ | refine v_fldS ?_)
local macro_rules | `(tactic| walk_at "dv5") => `(tactic| first
  | refine ⟨_, _, rfl, rfl, ?_⟩ | refine ⟨⟨_, _, rfl⟩, ?_⟩ | refine ⟨⟨_, _, _, rfl⟩, ?_⟩ | refine ⟨_, _, _, rfl, ?_⟩ | refine Or.inl ⟨_, rfl, ?_⟩ | refine Or.inr ⟨_, (fun _ z => by cases z), rfl, ?_⟩)
local macro_rules | `(tactic| walk_at "dv") => `(tactic| repeat (first | walk_at "dv0" | walk_at "dv4" | walk_at "dv1" | walk_at "dv3" | walk_at "dv2" | walk_at "dv5"))
/-! law_drawn_web in parts -/
def b_law_drawn_web_1 : Bd := (mSeq (mSet 9 (mTup (mCons (mOp mIx (mVar 4) (mOp mAdd (mVar 1) (mVar 6))) (mCons (mVar 7) (mCons (mVar 8) (mCons (mCall 2 m_law_number (mCons (mVar 0) (mCons (mVar 3) mNil))) mNil)))))) (mDrop (mApp1 (mGetS "roads" (mVar 5)) (mOp mAdd (mVar 9) (mTup (mCons (mCall 2 m_law_number (mCons (mVar 0) (mCons (mVar 3) mNil))) mNil))))))
theorem b_law_drawn_web_eq : b_law_drawn_web = (mSeq (mSet 4 (mCall 2 m_law_names (mCons (mVar 0) (mCons (mOp mAdd (mVar 1) (mVar 2)) mNil)))) (mSeq (mSet 5 (mDict ["yards", "roads"] [(mSl (mVar 4) mNoPart (mPart (mVar 1))), (mLstR mNil)])) (mSeq (mFor (mRng1 (mCons (mVar 2) mNil)) (gNm 6) (mSeq (mSet 7 (mCall 2 m_law_pick (mCons (mVar 0) (mCons (mGetS "yards" (mVar 5)) mNil)))) (mSeq (mSet 8 (mCall 2 m_law_pick (mCons (mVar 0) (mCons (mGetS "yards" (mVar 5)) mNil)))) (mSeq (mIfS (mB (mOp mLt (mOp mAdd (mVar 6) (mC (.int 1))) (mVar 1))) (mPar 7 8 (mCons (mOp mIx (mGetS "yards" (mVar 5)) (mVar 6)) (mCons (mOp mIx (mGetS "yards" (mVar 5)) (mOp mAdd (mVar 6) (mC (.int 1)))) mNil))) mNx) b_law_drawn_web_1)))) (mRet (mVar 5))))) := rfl
/-! ### webs drawn -/
theorem v_addT {xs ys : List Dt} {S : Store} {Q : Dt → Store → Prop} {X : Ex → Store → Prop} (hl : xs.length + ys.length ≤ 1000000) (q : Q (.tup (xs ++ ys)) S) : Pe (mAdd (.tup xs) (.tup ys) S) Q X := v_ifok hl q
theorem rangeD_drop {n k : Nat} (h : k < n) : (rangeD 0 n).drop k = .int (k : Int) :: (rangeD 0 n).drop (k + 1) := by
  have hl : k < (rangeD 0 n).length := by simp [rangeD, h]
  rw [List.drop_eq_getElem_cons hl]
  simp [rangeD]
theorem rangeD_end (n : Nat) : (rangeD 0 n).drop n = [] := by
  rw [List.drop_eq_nil_iff]
  simp [rangeD]
theorem frz_modR {n k : Nat} {T : Store} {a : Dt} {ds : List Dt} (ha : noRef 11 a = true) (hT : T[k]? = some (.lst ds)) (hk : n ≤ k) (h : ds.all (noRef 10) = true) : frz n T deepF (.dct mF [a, .ref k]) = some (.dct mF [a, .lst ds]) := by
  show frz n T (11 + 1) _ = _
  unfold frz
  rw [if_neg (by simp [noRef])]
  dsimp only
  have e : frz n T 11 (.ref k) = some (.lst ds) := by
    show frz n T (10 + 1) (.ref k) = _
    unfold frz
    rw [if_neg (by simp [noRef])]
    dsimp only
    rw [if_neg (by omega), hT]
    dsimp only
    rw [mapO_pure h]
    rfl
  unfold mapO
  rw [frz_pure ha]
  unfold mapO
  rw [e]
  rfl
theorem getS_roads {en : Dv.Env} {S : Store} {a b : Dt} {i : Nat} (h : en[i]? = some (some (modV a b))) : mGetS "roads" (mVar i) en S = .ok b S := by
  have e : mVar i en S = .ok (modV a b) S := by
    unfold mVar
    rw [h]
  unfold mGetS
  rw [e]
  show (match lookK mF [a, b] (.inr "roads") with
    | some d => R.ok d S
    | none => .stuck) = _
  rw [m_roads]
theorem word_ok : ∀ x ∈ words15, nameOk x = true ∧ PyData.strOk x = true := by decide +kernel
theorem str_ix {l : List Str} {k : Nat} (h : k < l.length) : L2.atI (l.map Dt.str) (k : Int) = some (.str l[k]) := atI_in (by simp [h])
theorem log_lt {n : Int} (h : n.natAbs < 2 ^ 64) (h0 : n ≠ 0) : n.natAbs.log2 < 9000 := by
  have := Nat.log2_lt (n := n.natAbs) (k := 64) (by omega)
  omega
/-- a web as drawn: its passages' numbers within most -/
structure Mod.Drawn (m : Mod) (most : Nat) : Prop where
  ok : m.Ok
  nm : m.Nm
  nb : ∀ r ∈ m.rs, r.h.natAbs ≤ most ∧ r.t.natAbs ≤ most
  y0 : m.ys ≠ []
  wd : ∀ x ∈ m.ys ++ m.rs.map Road.n, x ∈ words15
section
variable {S : Store} {i : Nat}
theorem number_ok (hF : FlowAt S i) {most : Int} (h0 : 1 ≤ most) (h1 : most ≤ 1000) {Q : Dt → Store → Prop} {X : Ex → Store → Prop} (q : ∀ v S', v ≠ 0 → v.natAbs ≤ most.natAbs → Fz i S S' → Q (.int v) S') : Pe (m_law_number [.ref i, .int most] S) Q X := by
  refine v_fn ?_
  unfold b_law_number
  walk_at "dv"
  refine draw_fz hF (by decide) (by decide) fun a S1 a0 a1 z1 => ?_
  walk_at "dv"
  refine v_dec (fun _ => ?_) (fun _ => ?_)
  · walk_at "dv"
    refine pick_fz z1.flow (Nat.le_of_ble_eq_true rfl) (Nat.le_of_ble_eq_true rfl) fun v S2 hv z2 => ?_
    simp only [List.mem_cons, List.not_mem_nil, or_false] at hv
    have zz := z1.trans z2
    rcases hv with rfl | rfl
    · exact v_fin (.inr zz.len) (q _ _ (by decide) (by omega) zz)
    · exact v_fin (.inr zz.len) (q _ _ (by decide) (by omega) zz)
  · walk_at "dv"
    refine pick_fz z1.flow (Nat.le_of_ble_eq_true rfl) (Nat.le_of_ble_eq_true rfl) fun v S2 hv z2 => ?_
    have zz := z1.trans z2
    obtain ⟨v, rfl, hva⟩ : ∃ a : Int, v = .int a ∧ (a = 1 ∨ a = -1) := by
      simp only [List.mem_cons, List.not_mem_nil, or_false] at hv
      rcases hv with rfl | rfl | rfl
      · exact ⟨_, rfl, .inl rfl⟩
      · exact ⟨_, rfl, .inl rfl⟩
      · exact ⟨_, rfl, .inr rfl⟩
    clear hv
    walk_at "dv"
    refine draw_fz zz.flow (by omega) (log_lt (by omega) (by omega)) fun w S3 w0 w1 z3 => ?_
    have zz := zz.trans z3
    walk_at "dv"
    refine v_fin (.inr zz.len) (q _ _ ?_ ?_ zz)
    · rcases hva with rfl | rfl <;> omega
    · rcases hva with rfl | rfl <;> omega
theorem drawn_web_ok (hp : PureS S) (hF : FlowAt S i) {ny nr : Nat} {most : Int} (hy0 : 1 ≤ ny) (hy : ny ≤ 6) (hr : nr ≤ 8) (h0 : 1 ≤ most) (h1 : most ≤ 99) {Q : Dt → Store → Prop} {X : Ex → Store → Prop}
    (q : ∀ (m : Mod) S', m.Drawn most.natAbs → m.ys.length = ny → m.rs.length = nr → Fz i S S' → Q m.d S') : Pe (m_law_drawn_web [.ref i, .int ny, .int nr, .int most] S) Q X := by
  refine v_fn ?_
  rw [b_law_drawn_web_eq]
  walk_at "dv"
  refine names_ok hp hF (by omega) (by omega) fun fs S1 nd hw hlen z1 => ?_
  walk_at "dv"
  refine v_dict ?_
  refine v_ps1 ?_
  walk_at "dv"
  dsimp only
  rw [cut_take, ← List.map_take]
  have hfs : fs.length = ny + nr := by omega
  obtain ⟨ys, ns, rfl, hys⟩ : ∃ ys ns : List Str, fs = ys ++ ns ∧ ys.length = ny := ⟨fs.take ny, fs.drop ny, (List.take_append_drop _ _).symm, by rw [List.length_take]; omega⟩
  have hns : ns.length = nr := by
    rw [List.length_append] at hfs
    omega
  rw [List.take_left' hys]
  walk_at "dv"
  have p1 := z1.pure hp
  have ib : S.length ≤ S1.length := by rw [z1.len]; exact Nat.le_refl _
  have ilt : i < S.length := hF.lt
  refine v_loop (fun ds en T => ∃ (x6 x7 x8 x9 : Option Dt) (rs : List Road) (rest : List Str), en = [some (.ref i), some (.int ny), some (.int nr), some (.int most), some (.lst ((ys ++ ns).map Dt.str)), some (modV (.lst (ys.map Dt.str)) (.ref S1.length)), x6, x7, x8, x9] ∧ Bz i S T ∧ PureS T ∧ T[S1.length]? = some (.lst (rs.map Road.d)) ∧
      ns = rs.map Road.n ++ rest ∧ ds = (rangeD 0 nr).drop rs.length ∧ ∀ r ∈ rs, (r.b ∈ ys ∧ r.e ∈ ys) ∧ (r.h ≠ 0 ∧ r.h.natAbs ≤ most.natAbs) ∧ r.t ≠ 0 ∧ r.t.natAbs ≤ most.natAbs)
    ⟨_, _, _, _, [], ns, rfl, ((Bz.refl hF).draw z1).push, p1.push rfl, last_at, rfl, rfl, fun r hr => (List.not_mem_nil hr).elim⟩ ?_ ?_
  · rintro d ds en T ⟨x6, x7, x8, x9, rs, rest, rfl, bz, pT, hT, hn, hd, hrs⟩
    cases rest with
    | nil =>
      have e := congrArg List.length hn
      rw [List.append_nil, List.length_map, hns] at e
      rw [← e, rangeD_end] at hd
      cases hd
    | cons n rest =>
      have hlt : rs.length < nr := by
        have e := congrArg List.length hn
        rw [List.length_append, List.length_map, List.length_cons, hns] at e
        omega
      rw [rangeD_drop hlt] at hd
      obtain ⟨rfl, rfl⟩ := List.cons.inj hd
      refine ⟨_, _, rfl, ?_⟩
      walk_at "dv"
      have py : 0 < (ys.map Dt.str).length := by rw [List.length_map]; omega
      have py2 : (ys.map Dt.str).length < 2 ^ 64 := by rw [List.length_map]; omega
      refine pick_fz bz.flow py py2 fun o T1 ho z2 => ?_
      obtain ⟨o, hoy, rfl⟩ := List.mem_map.mp ho
      walk_at "dv"
      refine pick_fz z2.flow py py2 fun o' T2 ho' z3 => ?_
      obtain ⟨o', hoy', rfl⟩ := List.mem_map.mp ho'
      have z23 := z2.trans z3
      walk_at "dv"
      have tail : ∀ (o o' : Str), o ∈ ys → o' ∈ ys → ∀ {QS : Fl → Dv.Env → Store → Prop} {XS : Ex → Dv.Env → Store → Prop}, (∀ (x9 : Option Dt) (r : Road) (T4 : Store), r.n = n → r.b = o → r.e = o' → (r.h ≠ 0 ∧ r.h.natAbs ≤ most.natAbs) → (r.t ≠ 0 ∧ r.t.natAbs ≤ most.natAbs) → Fz i T2 T4 → QS .nx [some (.ref i), some (.int ny), some (.int nr), some (.int most), some (.lst ((ys ++ ns).map Dt.str)), some (modV (.lst (ys.map Dt.str)) (.ref S1.length)), some (.int rs.length), some (.str o), some (.str o'), x9] (T4.set S1.length (.lst ((rs.map Road.d) ++ [r.d])))) →
          Ps (b_law_drawn_web_1 [some (.ref i), some (.int ny), some (.int nr), some (.int most), some (.lst ((ys ++ ns).map Dt.str)), some (modV (.lst (ys.map Dt.str)) (.ref S1.length)), some (.int rs.length), some (.str o), some (.str o'), x9] T2) QS XS := by
        intro o o' ho ho' QS XS q
        unfold b_law_drawn_web_1
        have xn : L2.atI ((ys ++ ns).map Dt.str) ((ny : Int) + (rs.length : Int)) = some (.str n) := by
          rw [show (ny : Int) + (rs.length : Int) = ((ny + rs.length : Nat) : Int) by omega]
          refine atI_in ?_
          rw [List.getElem?_map, List.getElem?_append_right (by omega), hn, List.getElem?_append_right (by rw [List.length_map]; omega), List.length_map, show ny + rs.length - ys.length - rs.length = 0 by omega]
          rfl
        walk_at "dv"
        refine v_ix xn ?_
        walk_at "dv"
        refine number_ok z3.flow h0 (by omega) fun h T3 hh hh2 z4 => ?_
        walk_at "dv"
        have z34 := z23.trans z4
        have i1 : S1.length ≠ i := by rw [z1.len]; omega
        have hT3 : T3[S1.length]? = some (.lst (rs.map Road.d)) := (z34.oth _ i1).trans hT
        refine v_app1K (getS_roads rfl) hT3 ?_
        walk_at "dv"
        refine number_ok z4.flow h0 (by omega) fun t T4 ht ht2 z5 => ?_
        walk_at "dv"
        refine v_addT (Nat.le_of_ble_eq_true rfl) ?_
        refine ⟨_, (z5.oth _ i1).trans hT3, by rw [List.length_map]; omega, ?_⟩
        exact q _ ⟨n, o, o', h, t⟩ T4 rfl rfl rfl ⟨hh, hh2⟩ ⟨ht, ht2⟩ (z4.trans z5)
      have fin : ∀ (x9 : Option Dt) (o o' : Str) (r : Road) (T4 : Store), o ∈ ys → o' ∈ ys → r.n = n → r.b = o → r.e = o' → (r.h ≠ 0 ∧ r.h.natAbs ≤ most.natAbs) → (r.t ≠ 0 ∧ r.t.natAbs ≤ most.natAbs) → Fz i T2 T4 → ∃ (x6 x7 x8 x9' : Option Dt) (rs' : List Road) (rest : List Str), [some (Dt.ref i), some (.int ny), some (.int nr), some (.int most), some (.lst ((ys ++ ns).map Dt.str)), some (modV (.lst (ys.map Dt.str)) (.ref S1.length)), some (.int rs.length), some (.str o), some (.str o'), x9] = [some (.ref i), some (.int ny), some (.int nr), some (.int most), some (.lst ((ys ++ ns).map Dt.str)), some (modV (.lst (ys.map Dt.str)) (.ref S1.length)), x6, x7, x8, x9'] ∧ Bz i S (T4.set S1.length (.lst ((rs.map Road.d) ++ [r.d]))) ∧ PureS (T4.set S1.length (.lst ((rs.map Road.d) ++ [r.d]))) ∧ (T4.set S1.length (.lst ((rs.map Road.d) ++ [r.d])))[S1.length]? = some (.lst (rs'.map Road.d)) ∧
          ns = rs'.map Road.n ++ rest ∧ (rangeD 0 nr).drop (rs.length + 1) = (rangeD 0 nr).drop rs'.length ∧ ∀ r ∈ rs', (r.b ∈ ys ∧ r.e ∈ ys) ∧ (r.h ≠ 0 ∧ r.h.natAbs ≤ most.natAbs) ∧ r.t ≠ 0 ∧ r.t.natAbs ≤ most.natAbs := by
        intro x9 o o' r T4 ho ho' en eb ee hh ht z4
        have z34 := z23.trans z4
        have i1 : S1.length ≠ i := by rw [z1.len]; omega
        have er : (rs.map Road.d) ++ [r.d] = (rs ++ [r]).map Road.d := by rw [List.map_append]; rfl
        refine ⟨_, _, _, _, rs ++ [r], rest, rfl, (bz.draw z34).set ib, (z34.pure pT).set ?_, ?_, ?_, by rw [List.length_append]; rfl, ?_⟩
        · rw [er]
          exact roads_pure _ 10
        · rw [set_same ((z34.oth _ i1).trans hT), er]
        · rw [hn, List.map_append, List.append_assoc, ← en]
          rfl
        · intro r' hr'
          rcases List.mem_append.mp hr' with z | z
          · exact hrs r' z
          · rw [List.mem_singleton.mp z, eb, ee]
            exact ⟨⟨ho, ho'⟩, hh, ht⟩
      refine v_dec (fun hk => ?_) (fun hk => ?_)
      · have hk1 : rs.length < ys.length := by omega
        have hk2 : rs.length + 1 < ys.length := by omega
        walk_at "dv"
        refine v_ix (str_ix hk1) ?_
        walk_at "dv"
        refine v_ix (str_ix (k := rs.length + 1) hk2) ?_
        walk_at "dv"
        exact tail _ _ (List.getElem_mem hk1) (List.getElem_mem hk2) fun x9 r T4 e1 e2 e3 hh ht z4 => fin x9 _ _ r T4 (List.getElem_mem hk1) (List.getElem_mem hk2) e1 e2 e3 hh ht z4
      · walk_at "dv0"
        exact tail _ _ hoy hoy' fun x9 r T4 e1 e2 e3 hh ht z4 => fin x9 _ _ r T4 hoy hoy' e1 e2 e3 hh ht z4
  · rintro en T ⟨x6, x7, x8, x9, rs, rest, rfl, bz, pT, hT, hn, hd, hrs⟩
    have hle : nr ≤ rs.length := by
      have e := congrArg List.length hd
      simp [rangeD] at e
      omega
    have hrest : rest = [] := by
      have e := congrArg List.length hn
      rw [List.length_append, List.length_map, hns] at e
      exact List.length_eq_zero_iff.mp (by omega)
    subst hrest
    rw [List.append_nil] at hn
    subst hn
    rw [List.length_map] at hns
    walk_at "dv"
    have hl0 : S1.length < T.length := (List.getElem?_eq_some_iff.mp hT).1
    refine v_finL (frz_modR (show noRef 11 (.lst (ys.map Dt.str)) = true from strs_pure ys 10) hT (by omega) (roads_pure rs 9)) (by omega) (bz.fz.pure hp) ?_
    have wk : ∀ x ∈ ys ++ rs.map Road.n, nameOk x = true ∧ PyData.strOk x = true := fun x hx => word_ok x (hw x hx)
    refine q ⟨ys, rs⟩ _ ⟨⟨fun r hr => ⟨?_, ?_, ?_⟩, fun y hy => (wk y (List.mem_append_left _ hy)).2, nd, fun r hr => (hrs r hr).1, fun r hr => ⟨⟨(hrs r hr).2.1.1, ?_⟩, (hrs r hr).2.2.1, ?_⟩, by show ys.length ≤ 6; omega, by show rs.length ≤ 8; omega⟩, ⟨fun y hy => (wk y (List.mem_append_left _ hy)).1, fun r hr => (wk r.n (List.mem_append_right _ (List.mem_map_of_mem hr))).1⟩, fun r hr => ⟨(hrs r hr).2.1.2, (hrs r hr).2.2.2⟩, ?_, hw⟩ hys hns bz.fz
    · exact (wk r.n (List.mem_append_right _ (List.mem_map_of_mem hr))).2
    · exact (wk r.b (List.mem_append_left _ (hrs r hr).1.1)).2
    · exact (wk r.e (List.mem_append_left _ (hrs r hr).1.2)).2
    · have := (hrs r hr).2.1.2
      omega
    · have := (hrs r hr).2.2.2
      omega
    · intro e
      have e : ys = [] := e
      rw [e] at hys
      simp at hys
      omega
end
end Lw
set_option Elab.async false
set_option linter.all false
set_option maxRecDepth 100000
set_option maxHeartbeats 4000000
set_option autoImplicit false
namespace Lw
open PySem Dv
/-! steps of our own words -/
local macro_rules | `(tactic| walk_at "num") => `(tactic| first | assumption | decide | omega)
local macro_rules | `(tactic| walk_at "dv0") => `(tactic| with_reducible first
  | refine v_seq ?_ | refine v_ifS ?_ | refine v_set ?_ | refine v_ret ?_ | refine v_asg ?_ | refine v_par ?_ | refine v_drop ?_ | refine v_nx ?_ | refine v_bk ?_ | refine v_ct ?_ | refine v_retN ?_ | refine v_for ?_
  | refine v_c ?_ | refine v_nil ?_ | refine v_cons ?_ | refine v_op ?_ | refine v_B ?_ | refine v_truth ?_ | refine v_andT ?_ | refine v_orT ?_ | refine v_notT ?_
  | refine v_andV ?_ | refine v_orV ?_ | refine v_notV ?_ | refine v_if ?_ | refine v_neg ?_ | refine v_chain ?_ | refine v_tup ?_ | refine v_lst ?_ | refine v_lstR ?_ | refine v_noPart ?_ | refine v_part ?_ | refine v_sl ?_
  | refine v_CB ?_ | refine v_call ?_ | refine v_abs ?_ | refine v_lc ?_ | refine v_yes ?_ | refine v_it ?_ | refine v_rng1 ?_ | refine v_rng2 ?_ | refine v_rng3 ?_ | refine v_T ?_ | refine v_F ?_
  | refine v_add ?_ | refine v_sub ?_ | refine v_iadd ?_ | refine v_lt ?_ | refine v_le ?_ | refine v_gt ?_ | refine v_ge ?_ | refine v_eqI ?_ | refine v_neI ?_ | refine v_eqB ?_ | refine v_neB ?_)
local macro_rules | `(tactic| walk_at "dv1") => `(tactic| first
  | (with_reducible refine' v_var ?h ?_); (case h => rfl)
  | (with_reducible refine' v_aug ?h ?_); (case h => rfl)
  | (with_reducible refine' v_div ?h1 ?h2 ?_); (case h1 => walk_at "num"); (case h2 => walk_at "num")
  | (with_reducible refine' v_mod ?h1 ?_); (case h1 => walk_at "num")
  | (with_reducible refine' v_pow ?h1 ?_); (case h1 => walk_at "num")
  | (with_reducible refine' v_mulR ?h1 ?_); (case h1 => walk_at "num")
  | (with_reducible refine' v_mulL ?h1 ?_); (case h1 => walk_at "num")
  | (with_reducible refine' v_fin ?h1 ?_); (case h1 => first | exact Or.inl rfl | exact Or.inr rfl | (refine Or.inr ?_; simp only [List.length_set, *]; done))
  | (with_reducible refine' v_ix ?h1 ?_); (case h1 => first | exact ixD_ref (by assumption) (by rfl) | rfl)
  | (with_reducible refine' v_len ?h1 ?_); (case h1 => first | exact lenD_ref (by assumption) | rfl)
  | (with_reducible refine' v_list ?h1 ?_); (case h1 => rfl)
  | (with_reducible refine' v_listR ?h1 ?_); (case h1 => rfl)
  | (with_reducible refine' v_tuple ?h1 ?_); (case h1 => rfl)
  | (with_reducible refine' v_isd ?h1 ?_); (case h1 => rfl)
  | (with_reducible refine' v_isiTy ?h1 ?h2 ?_); (case h1 => rfl); (case h2 => rfl)
  | (with_reducible refine' v_isiT ?h1 ?_); (case h1 => rfl))
local macro_rules | `(tactic| walk_at "dv2") => `(tactic| first
  | refine v_gsub (by rfl) (by rfl) (by assumption) (by rfl) (fun _ _ _ => ?_) | refine ⟨_, rfl, ?_⟩ | (with_reducible refine' ⟨rng_ok ?h1 ?h2, ?_⟩); (case h1 => omega); (case h2 => omega) | refine ⟨rfl, ?_⟩ | refine ⟨_, _, rfl, ?_⟩ | refine ⟨Nat.le_of_ble_eq_true rfl, ?_⟩)
local macro_rules | `(tactic| walk_at "dv3") => `(tactic| first
  | (with_reducible refine' v_dec (fun _ => ?_) (fun hn => absurd ?h hn)); (case h => first | assumption | omega | decide)
  | (with_reducible refine' v_dec (fun hn => absurd hn ?h) (fun _ => ?_)); (case h => first | assumption | omega | decide)
  | (with_reducible refine' v_ndec (fun _ => ?_) (fun hn => absurd hn ?h)); (case h => first | assumption | omega | decide)
  | (with_reducible refine' v_ndec (fun hn => absurd ?h hn) (fun _ => ?_)); (case h => first | assumption | omega | decide)
  | (with_reducible refine' v_bT ?h ?_); (case h => first | assumption | rfl)
  | (with_reducible refine' v_bF ?h ?_); (case h => first | assumption | rfl))
local macro_rules | `(tactic| walk_at "dv4") => `(tactic| with_reducible first
  | refine v_places ?_ | refine v_roads ?_ | refine v_over ?_ | refine v_line ?_ | refine v_spots ?_ | refine v_myards ?_ | refine v_mroads ?_ | refine v_mW (by decide +kernel) ?_ | refine v_mK (by decide +kernel) ?_
  | refine v_itX ?_ | refine v_ev ?_ | refine v_rev ?_ | refine v_zs ?_ | refine v_enum ?_ | refine v_enum2 ?_ | refine v_makeV ?_ | refine v_tryN ?_ | refine v_lc2 ?_ | refine v_fz ?_ | refine v_make ?_ | refine v_fldS ?_)
local macro_rules | `(tactic| walk_at "dv5") => `(tactic| first
  | refine ⟨_, _, rfl, rfl, ?_⟩ | refine ⟨⟨_, _, rfl⟩, ?_⟩ | refine ⟨⟨_, _, _, rfl⟩, ?_⟩ | refine ⟨_, _, _, rfl, ?_⟩ | refine Or.inl ⟨_, rfl, ?_⟩ | refine Or.inr ⟨_, (fun _ z => by cases z), rfl, ?_⟩)
local macro_rules | `(tactic| walk_at "dv") => `(tactic| repeat (first | walk_at "dv0" | walk_at "dv4" | walk_at "dv1" | walk_at "dv3" | walk_at "dv2" | walk_at "dv5"))
/-! ### settled -/
abbrev Pairs := List (Int × Step)
abbrev prD (p : Int × Step) : Dt := .tup [.int p.1, stD p.2]
def ruleOf (m : Mod) (s : Step) : Int × Int := match m.road s.1 with
  | some r => r.rule s.2
  | none => (1, 1)
def pushS (h : Int × Int) (ps : Pairs) (x : Int) (s : Step) : Pairs × Int := (ps ++ [(x.fmod h.1.natAbs, s)], (x - x.fmod h.1.natAbs).fdiv h.1 * h.2)
def stl1 (h : Int × Int) (ps : Pairs) (x : Int) (s : Step) : Pairs × Int := match ps.getLast? with
  | some p => if p.2 = und s ∧ x.fmod h.1 = 0 then (ps.dropLast, p.1 + x.fdiv h.1 * h.2) else pushS h ps x s
  | none => pushS h ps x s
def stl (m : Mod) (ps : Pairs) (x : Int) : Seg → Pairs × Int
  | [] => (ps, x)
  | (s, u) :: l => stl m (stl1 (ruleOf m s) ps x s).1 ((stl1 (ruleOf m s) ps x s).2 + u) l
section
variable {m : Mod} {S : Store}
theorem undone_ok {s : Step} : m_undone [stD s] S = .ok (stD (und s)) S := by
  refine Pe.eq (v_fn ?_)
  unfold b_undone
  walk_at "dv"
  first | exact ⟨rfl, rfl⟩ | exact rfl
theorem okD_pr {p : Int × Step} (h : PyData.strOk p.2.1 = true) (k : Nat) : okD (k + 2) (prD p) = true := by
  show [Dt.int p.1, stD p.2].all (okD (k + 1)) = true
  simp only [List.all_cons, List.all_nil, Bool.and_true, Bool.and_eq_true]
  exact ⟨by simp [okD], okD_st h k⟩
theorem stl1_mem {h : Int × Int} {ps : Pairs} {x : Int} {s : Step} {p : Int × Step} (hp : p ∈ (stl1 h ps x s).1) : p ∈ ps ∨ p.2 = s := by
  unfold stl1 pushS at hp
  split at hp
  · split at hp
    · exact .inl (List.dropLast_subset _ hp)
    · rcases List.mem_append.mp hp with z | z
      · exact .inl z
      · rw [List.mem_singleton.mp z]
        exact .inr rfl
  · rcases List.mem_append.mp hp with z | z
    · exact .inl z
    · rw [List.mem_singleton.mp z]
      exact .inr rfl
theorem stl1_len (h : Int × Int) (ps : Pairs) (x : Int) (s : Step) : (stl1 h ps x s).1.length ≤ ps.length + 1 := by
  unfold stl1 pushS
  split
  · split
    · rw [List.length_dropLast]
      omega
    · simp
  · simp
theorem frz_pair2 {n k : Nat} {T : Store} {d : Dt} {ds : List Dt} (hd : noRef 11 d = true) (hT : T[k]? = some (.lst ds)) (hk : n ≤ k) (h : ds.all (noRef 10) = true) : frz n T deepF (.tup [.ref k, d]) = some (.tup [.lst ds, d]) := by
  show frz n T (11 + 1) _ = _
  unfold frz
  rw [if_neg (by simp [noRef])]
  dsimp only
  have e : frz n T 11 (.ref k) = some (.lst ds) := by
    show frz n T (10 + 1) (.ref k) = _
    unfold frz
    rw [if_neg (by simp [noRef])]
    dsimp only
    rw [if_neg (by omega), hT]
    dsimp only
    rw [mapO_pure h]
    rfl
  unfold mapO
  rw [e]
  unfold mapO
  rw [frz_pure hd]
  rfl
end
end Lw
set_option Elab.async false
set_option linter.all false
set_option maxRecDepth 100000
set_option maxHeartbeats 4000000
set_option autoImplicit false
namespace Lw
open PySem Dv
/-! steps of our own words -/
local macro_rules | `(tactic| walk_at "num") => `(tactic| first | assumption | decide | omega)
local macro_rules | `(tactic| walk_at "dv0") => `(tactic| with_reducible first
  | refine v_seq ?_ | refine v_ifS ?_ | refine v_set ?_ | refine v_ret ?_ | refine v_asg ?_ | refine v_par ?_ | refine v_drop ?_ | refine v_nx ?_ | refine v_bk ?_ | refine v_ct ?_ | refine v_retN ?_ | refine v_for ?_
  | refine v_c ?_ | refine v_nil ?_ | refine v_cons ?_ | refine v_op ?_ | refine v_B ?_ | refine v_truth ?_ | refine v_andT ?_ | refine v_orT ?_ | refine v_notT ?_
  | refine v_andV ?_ | refine v_orV ?_ | refine v_notV ?_ | refine v_if ?_ | refine v_neg ?_ | refine v_chain ?_ | refine v_tup ?_ | refine v_lst ?_ | refine v_lstR ?_ | refine v_noPart ?_ | refine v_part ?_ | refine v_sl ?_
  | refine v_CB ?_ | refine v_call ?_ | refine v_abs ?_ | refine v_lc ?_ | refine v_yes ?_ | refine v_it ?_ | refine v_rng1 ?_ | refine v_rng2 ?_ | refine v_rng3 ?_ | refine v_T ?_ | refine v_F ?_
  | refine v_add ?_ | refine v_sub ?_ | refine v_iadd ?_ | refine v_lt ?_ | refine v_le ?_ | refine v_gt ?_ | refine v_ge ?_ | refine v_eqI ?_ | refine v_neI ?_ | refine v_eqB ?_ | refine v_neB ?_)
local macro_rules | `(tactic| walk_at "dv1") => `(tactic| first
  | (with_reducible refine' v_var ?h ?_); (case h => rfl)
  | (with_reducible refine' v_aug ?h ?_); (case h => rfl)
  | (with_reducible refine' v_div ?h1 ?h2 ?_); (case h1 => walk_at "num"); (case h2 => walk_at "num")
  | (with_reducible refine' v_mod ?h1 ?_); (case h1 => walk_at "num")
  | (with_reducible refine' v_pow ?h1 ?_); (case h1 => walk_at "num")
  | (with_reducible refine' v_mulR ?h1 ?_); (case h1 => walk_at "num")
  | (with_reducible refine' v_mulL ?h1 ?_); (case h1 => walk_at "num")
  | (with_reducible refine' v_fin ?h1 ?_); (case h1 => first | exact Or.inl rfl | exact Or.inr rfl | (refine Or.inr ?_; simp only [List.length_set, *]; done))
  | (with_reducible refine' v_ix ?h1 ?_); (case h1 => first | exact ixD_ref (by assumption) (by rfl) | rfl)
  | (with_reducible refine' v_len ?h1 ?_); (case h1 => first | exact lenD_ref (by assumption) | rfl)
  | (with_reducible refine' v_list ?h1 ?_); (case h1 => rfl)
  | (with_reducible refine' v_listR ?h1 ?_); (case h1 => rfl)
  | (with_reducible refine' v_tuple ?h1 ?_); (case h1 => rfl)
  | (with_reducible refine' v_isd ?h1 ?_); (case h1 => rfl)
  | (with_reducible refine' v_isiTy ?h1 ?h2 ?_); (case h1 => rfl); (case h2 => rfl)
  | (with_reducible refine' v_isiT ?h1 ?_); (case h1 => rfl))
local macro_rules | `(tactic| walk_at "dv2") => `(tactic| first
  | refine v_gsub (by rfl) (by rfl) (by assumption) (by rfl) (fun _ _ _ => ?_) | refine ⟨_, rfl, ?_⟩ | (with_reducible refine' ⟨rng_ok ?h1 ?h2, ?_⟩); (case h1 => omega); (case h2 => omega) | refine ⟨rfl, ?_⟩ | refine ⟨_, _, rfl, ?_⟩ | refine ⟨Nat.le_of_ble_eq_true rfl, ?_⟩)
local macro_rules | `(tactic| walk_at "dv3") => `(tactic| first
  | (with_reducible refine' v_dec (fun _ => ?_) (fun hn => absurd ?h hn)); (case h => first | assumption | omega | decide)
  | (with_reducible refine' v_dec (fun hn => absurd hn ?h) (fun _ => ?_)); (case h => first | assumption | omega | decide)
  | (with_reducible refine' v_ndec (fun _ => ?_) (fun hn => absurd hn ?h)); (case h => first | assumption | omega | decide)
  | (with_reducible refine' v_ndec (fun hn => absurd ?h hn) (fun _ => ?_)); (case h => first | assumption | omega | decide)
  | (with_reducible refine' v_bT ?h ?_); (case h => first | assumption | rfl)
  | (with_reducible refine' v_bF ?h ?_); (case h => first | assumption | rfl))
local macro_rules | `(tactic| walk_at "dv4") => `(tactic| with_reducible first
  | refine v_places ?_ | refine v_roads ?_ | refine v_over ?_ | refine v_line ?_ | refine v_spots ?_ | refine v_myards ?_ | refine v_mroads ?_ | refine v_mW (by decide +kernel) ?_ | refine v_mK (by decide +kernel) ?_
  | refine v_itX ?_ | refine v_ev ?_ | refine v_rev ?_ | refine v_zs ?_ | refine v_enum ?_ | refine v_enum2 ?_ | refine v_makeV ?_ | refine v_tryN ?_ | refine v_lc2 ?_ | refine v_fz ?_ | refine v_make ?_ | refine v_fldS ?_)
local macro_rules | `(tactic| walk_at "dv5") => `(tactic| first
  | refine ⟨_, _, rfl, rfl, ?_⟩ | refine ⟨⟨_, _, rfl⟩, ?_⟩ | refine ⟨⟨_, _, _, rfl⟩, ?_⟩ | refine ⟨_, _, _, rfl, ?_⟩ | refine Or.inl ⟨_, rfl, ?_⟩ | refine Or.inr ⟨_, (fun _ z => by cases z), rfl, ?_⟩)
local macro_rules | `(tactic| walk_at "dv") => `(tactic| repeat (first | walk_at "dv0" | walk_at "dv4" | walk_at "dv1" | walk_at "dv3" | walk_at "dv2" | walk_at "dv5"))
/-! ### alike and plain -/
theorem eqD_pr (p q : Int × Step) : eqD (prD p) (prD q) = decide (p = q) := by
  obtain ⟨i, s⟩ := p
  obtain ⟨j, t⟩ := q
  show ((i == j) && (eqD (stD s) (stD t) && true)) = _
  rw [eqD_st]
  have e : (i == j) = decide (i = j) := rfl
  rw [e, Bool.and_true, ← Bool.decide_and]
  congr 1
  simp [Prod.ext_iff]
theorem v_eqB {x y : Dt} {b : Bool} {S : Store} {Q : Dt → Store → Prop} {X : Ex → Store → Prop} (h : okD 12 (res S x) = true) (h' : okD 12 (res S y) = true) (e : eqD (res S x) (res S y) = b) (q : Q (.bl b) S) : Pe (mEq x y S) Q X := by
  refine v_ifok ⟨h, h'⟩ ?_
  rw [e]
  exact q
section
variable {m : Mod} {S : Store}
abbrev stlD (q : Pairs × Int) : Dt := .tup [.lst (q.1.map prD), .int q.2]
end
section
end
end Lw
set_option Elab.async false
set_option linter.all false
set_option maxRecDepth 100000
set_option maxHeartbeats 4000000
set_option autoImplicit false
namespace Lw
open PySem Dv
/-! steps of our own words -/
local macro_rules | `(tactic| walk_at "num") => `(tactic| first | assumption | decide | omega)
local macro_rules | `(tactic| walk_at "dv0") => `(tactic| with_reducible first
  | refine v_seq ?_ | refine v_ifS ?_ | refine v_set ?_ | refine v_ret ?_ | refine v_asg ?_ | refine v_par ?_ | refine v_drop ?_ | refine v_nx ?_ | refine v_bk ?_ | refine v_ct ?_ | refine v_retN ?_ | refine v_for ?_
  | refine v_c ?_ | refine v_nil ?_ | refine v_cons ?_ | refine v_op ?_ | refine v_B ?_ | refine v_truth ?_ | refine v_andT ?_ | refine v_orT ?_ | refine v_notT ?_
  | refine v_andV ?_ | refine v_orV ?_ | refine v_notV ?_ | refine v_if ?_ | refine v_neg ?_ | refine v_chain ?_ | refine v_tup ?_ | refine v_lst ?_ | refine v_lstR ?_ | refine v_noPart ?_ | refine v_part ?_ | refine v_sl ?_
  | refine v_CB ?_ | refine v_call ?_ | refine v_abs ?_ | refine v_lc ?_ | refine v_yes ?_ | refine v_it ?_ | refine v_rng1 ?_ | refine v_rng2 ?_ | refine v_rng3 ?_ | refine v_T ?_ | refine v_F ?_
  | refine v_add ?_ | refine v_sub ?_ | refine v_iadd ?_ | refine v_lt ?_ | refine v_le ?_ | refine v_gt ?_ | refine v_ge ?_ | refine v_eqI ?_ | refine v_neI ?_ | refine v_eqB ?_ | refine v_neB ?_)
local macro_rules | `(tactic| walk_at "dv1") => `(tactic| first
  | (with_reducible refine' v_var ?h ?_); (case h => rfl)
  | (with_reducible refine' v_aug ?h ?_); (case h => rfl)
  | (with_reducible refine' v_div ?h1 ?h2 ?_); (case h1 => walk_at "num"); (case h2 => walk_at "num")
  | (with_reducible refine' v_mod ?h1 ?_); (case h1 => walk_at "num")
  | (with_reducible refine' v_pow ?h1 ?_); (case h1 => walk_at "num")
  | (with_reducible refine' v_mulR ?h1 ?_); (case h1 => walk_at "num")
  | (with_reducible refine' v_mulL ?h1 ?_); (case h1 => walk_at "num")
  | (with_reducible refine' v_fin ?h1 ?_); (case h1 => first | exact Or.inl rfl | exact Or.inr rfl | (refine Or.inr ?_; simp only [List.length_set, *]; done))
  | (with_reducible refine' v_ix ?h1 ?_); (case h1 => first | exact ixD_ref (by assumption) (by rfl) | rfl)
  | (with_reducible refine' v_len ?h1 ?_); (case h1 => first | exact lenD_ref (by assumption) | rfl)
  | (with_reducible refine' v_list ?h1 ?_); (case h1 => rfl)
  | (with_reducible refine' v_listR ?h1 ?_); (case h1 => rfl)
  | (with_reducible refine' v_tuple ?h1 ?_); (case h1 => rfl)
  | (with_reducible refine' v_isd ?h1 ?_); (case h1 => rfl)
  | (with_reducible refine' v_isiTy ?h1 ?h2 ?_); (case h1 => rfl); (case h2 => rfl)
  | (with_reducible refine' v_isiT ?h1 ?_); (case h1 => rfl))
local macro_rules | `(tactic| walk_at "dv2") => `(tactic| first
  | refine v_gsub (by rfl) (by rfl) (by assumption) (by rfl) (fun _ _ _ => ?_) | refine ⟨_, rfl, ?_⟩ | (with_reducible refine' ⟨rng_ok ?h1 ?h2, ?_⟩); (case h1 => omega); (case h2 => omega) | refine ⟨rfl, ?_⟩ | refine ⟨_, _, rfl, ?_⟩ | refine ⟨Nat.le_of_ble_eq_true rfl, ?_⟩)
local macro_rules | `(tactic| walk_at "dv3") => `(tactic| first
  | (with_reducible refine' v_dec (fun _ => ?_) (fun hn => absurd ?h hn)); (case h => first | assumption | omega | decide)
  | (with_reducible refine' v_dec (fun hn => absurd hn ?h) (fun _ => ?_)); (case h => first | assumption | omega | decide)
  | (with_reducible refine' v_ndec (fun _ => ?_) (fun hn => absurd hn ?h)); (case h => first | assumption | omega | decide)
  | (with_reducible refine' v_ndec (fun hn => absurd ?h hn) (fun _ => ?_)); (case h => first | assumption | omega | decide)
  | (with_reducible refine' v_bT ?h ?_); (case h => first | assumption | rfl)
  | (with_reducible refine' v_bF ?h ?_); (case h => first | assumption | rfl))
local macro_rules | `(tactic| walk_at "dv4") => `(tactic| with_reducible first
  | refine v_places ?_ | refine v_roads ?_ | refine v_over ?_ | refine v_line ?_ | refine v_spots ?_ | refine v_myards ?_ | refine v_mroads ?_ | refine v_mW (by decide +kernel) ?_ | refine v_mK (by decide +kernel) ?_
  | refine v_itX ?_ | refine v_ev ?_ | refine v_rev ?_ | refine v_zs ?_ | refine v_enum ?_ | refine v_enum2 ?_ | refine v_makeV ?_ | refine v_tryN ?_ | refine v_lc2 ?_ | refine v_fz ?_ | refine v_make ?_ | refine v_fldS ?_)
local macro_rules | `(tactic| walk_at "dv5") => `(tactic| first
  | refine ⟨_, _, rfl, rfl, ?_⟩ | refine ⟨⟨_, _, rfl⟩, ?_⟩ | refine ⟨⟨_, _, _, rfl⟩, ?_⟩ | refine ⟨_, _, _, rfl, ?_⟩ | refine Or.inl ⟨_, rfl, ?_⟩ | refine Or.inr ⟨_, (fun _ z => by cases z), rfl, ?_⟩)
local macro_rules | `(tactic| walk_at "dv") => `(tactic| repeat (first | walk_at "dv0" | walk_at "dv4" | walk_at "dv1" | walk_at "dv3" | walk_at "dv2" | walk_at "dv5"))
/-! ### one step on a plain walk's pairs: an action -/
theorem fmod_abs {x q : Int} (h : q ≠ 0) : ∃ y, x = x.fmod q.natAbs + y * q ∧ (x - x.fmod q.natAbs).fdiv q = y ∧ 0 ≤ x.fmod q.natAbs ∧ x.fmod q.natAbs < q.natAbs := by
  have hq : (0 : Int) < q.natAbs := by omega
  have e1 := Int.fmod_add_mul_fdiv x (q.natAbs : Int)
  have h1 := Int.fmod_nonneg_of_pos x hq
  have h2 := Int.fmod_lt_of_pos x hq
  rcases Int.natAbs_eq q with e | e
  · refine ⟨x.fdiv q.natAbs, ?_, ?_, h1, h2⟩
    · rw [Int.mul_comm]
      rw [← e] at e1 ⊢
      omega
    · have e3 : x - x.fmod q.natAbs = q * x.fdiv q.natAbs := by
        rw [← e] at e1 ⊢
        omega
      rw [e3, Int.mul_fdiv_cancel_left _ h]
  · refine ⟨-(x.fdiv q.natAbs), ?_, ?_, h1, h2⟩
    · have e2 : -(x.fdiv q.natAbs) * q = (q.natAbs : Int) * x.fdiv q.natAbs := by
        rw [Int.neg_mul, Int.mul_comm, ← Int.neg_mul]
        congr 1
        omega
      rw [e2]
      omega
    · have e3 : x - x.fmod q.natAbs = q * -(x.fdiv q.natAbs) := by
        rw [Int.mul_neg, ← Int.neg_mul, show -q = (q.natAbs : Int) by omega]
        omega
      rw [e3, Int.mul_fdiv_cancel_left _ h]
/-- the rest is told by any way to write it -/
theorem rest_uni {x q r y : Int} (h : q ≠ 0) (e : x = r + y * q) (h0 : 0 ≤ r) (h1 : r < q.natAbs) : x.fmod q.natAbs = r ∧ (x - x.fmod q.natAbs).fdiv q = y := by
  obtain ⟨z, e1, e2, e3, e4⟩ := fmod_abs (x := x) h
  generalize x.fmod q.natAbs = ρ at *
  have hz : (z - y) * q = r - ρ := by
    rw [Int.sub_mul]
    omega
  have key : z - y = 0 := by
    apply Classical.byContradiction
    intro hn
    have : q.natAbs ≤ ((z - y) * q).natAbs := by
      rw [Int.natAbs_mul]
      exact Nat.le_mul_of_pos_left _ (by omega)
    omega
  rw [key, Int.zero_mul] at hz
  exact ⟨by omega, by rw [e2]; omega⟩
theorem rest_zero {x q : Int} (h : q ≠ 0) : x.fmod q = 0 ↔ x.fmod q.natAbs = 0 := by
  obtain ⟨z, e1, e2, e3, e4⟩ := fmod_abs (x := x) h
  constructor
  · intro h0
    have e := Int.fmod_add_mul_fdiv x q
    rw [h0, Int.zero_add, Int.mul_comm] at e
    exact (rest_uni (r := 0) (y := x.fdiv q) h (by omega) (by omega) (by omega)).1
  · intro h0
    rw [h0, Int.zero_add] at e1
    rw [e1]
    exact Int.mul_fmod_left _ _
def WayOk (s : Step) : Prop := s.2 = 1 ∨ s.2 = -1
theorem und_und (s : Step) : und (und s) = s := by
  obtain ⟨n, w⟩ := s
  show (n, 0 - (0 - w)) = (n, w)
  rw [show 0 - (0 - w) = w by omega]
theorem rule_ne {m : Mod} (ok : m.Ok) (s : Step) : ((ruleOf m s).1 ≠ 0 ∧ (ruleOf m s).1.natAbs ≤ 99) ∧ (ruleOf m s).2 ≠ 0 ∧ (ruleOf m s).2.natAbs ≤ 99 := by
  unfold ruleOf
  cases e : m.road s.1 with
  | none => exact ⟨⟨show (1 : Int) ≠ 0 by decide, show (1 : Int).natAbs ≤ 99 by decide⟩, show (1 : Int) ≠ 0 by decide, show (1 : Int).natAbs ≤ 99 by decide⟩
  | some r => exact rule_b ok e s.2
theorem ruleOf_road {m : Mod} {s : Step} {r : Road} (h : m.road s.1 = some r) : ruleOf m s = r.rule s.2 := by
  unfold ruleOf
  rw [h]
/-- the pairs of a plain walk -/
inductive Pl (m : Mod) : Pairs → Prop
  | nil : Pl m []
  | push {ps : Pairs} {r : Int} {s : Step} : Pl m ps → 0 ≤ r → r < (ruleOf m s).1.natAbs → WayOk s → (∀ p, ps.getLast? = some p → p.2 = und s → r ≠ 0) → Pl m (ps ++ [(r, s)])
abbrev G (m : Mod) (s : Step) (ps : Pairs) (x : Int) : Pairs × Int := stl1 (ruleOf m s) ps x s
theorem G_pop {m : Mod} {s : Step} {ps : Pairs} {r x : Int} (h : x.fmod (ruleOf m s).1 = 0) : G m s (ps ++ [(r, und s)]) x = (ps, r + x.fdiv (ruleOf m s).1 * (ruleOf m s).2) := by
  unfold G stl1
  simp [h]
theorem G_push {m : Mod} {s : Step} {ps : Pairs} {x : Int} (h : ∀ p, ps.getLast? = some p → p.2 = und s → x.fmod (ruleOf m s).1 ≠ 0) : G m s ps x = (ps ++ [(x.fmod (ruleOf m s).1.natAbs, s)], (x - x.fmod (ruleOf m s).1.natAbs).fdiv (ruleOf m s).1 * (ruleOf m s).2) := by
  unfold G stl1
  split
  · rename_i p hp
    rw [if_neg fun z => h p hp z.1 z.2]
    rfl
  · rfl
/-- either of the two -/
theorem G_two {m : Mod} (s : Step) (ps : Pairs) (x : Int) : (∃ qs r, ps = qs ++ [(r, und s)] ∧ x.fmod (ruleOf m s).1 = 0) ∨ ∀ p, ps.getLast? = some p → p.2 = und s → x.fmod (ruleOf m s).1 ≠ 0 := by
  by_cases h : ∃ qs r, ps = qs ++ [(r, und s)] ∧ x.fmod (ruleOf m s).1 = 0
  · exact .inl h
  · refine .inr fun p hp e h0 => h ?_
    obtain ⟨qs, rfl⟩ := List.getLast?_eq_some_iff.mp hp
    exact ⟨qs, p.1, by rw [← e], h0⟩
theorem Pl.last {m : Mod} {ps : Pairs} {r : Int} {s : Step} (h : Pl m (ps ++ [(r, s)])) : Pl m ps ∧ 0 ≤ r ∧ r < (ruleOf m s).1.natAbs ∧ WayOk s ∧ ∀ p, ps.getLast? = some p → p.2 = und s → r ≠ 0 := by
  generalize e : ps ++ [(r, s)] = qs at h
  cases h with
  | nil => simp at e
  | @push ps' r' s' h1 h2 h3 h4 h5 =>
    obtain ⟨e1, e2⟩ := List.append_inj' e rfl
    obtain ⟨rfl, rfl⟩ := Prod.mk.injEq .. ▸ List.cons.inj e2 |>.1
    subst e1
    exact ⟨h1, h2, h3, h4, h5⟩
section
variable {m : Mod}
theorem G_pl (ok : m.Ok) {s : Step} (hs : WayOk s) {ps : Pairs} (h : Pl m ps) (x : Int) : Pl m (G m s ps x).1 := by
  rcases G_two (m := m) s ps x with ⟨qs, r, rfl, h0⟩ | h0
  · rw [G_pop h0]
    exact h.last.1
  · rw [G_push h0]
    have n0 := (rule_ne ok s).1.1
    obtain ⟨_, _, _, h1, h2⟩ := fmod_abs (x := x) n0
    exact .push h h1 h2 hs fun p hp e z => h0 p hp e ((rest_zero n0).mpr z)
end
/-! ### rows act on plain pairs; exchanges keep what they do -/
section
variable {m : Mod}
theorem stl_cons (ps : Pairs) (x : Int) (s : Step) (u : Int) (l : Seg) : stl m ps x ((s, u) :: l) = stl m (G m s ps x).1 ((G m s ps x).2 + u) l := rfl
theorem stl_app : ∀ (a b : Seg) (ps : Pairs) (x : Int), stl m ps x (a ++ b) = stl m (stl m ps x a).1 (stl m ps x a).2 b
  | [], _, _, _ => rfl
  | (s, u) :: a, b, ps, x => stl_app a b _ _
theorem stl_set : ∀ (a : Seg) (ps : Pairs) (x t v : Int), stl m ps (x + (setT t a v).1) (setT t a v).2 = ((stl m ps (x + t) a).1, (stl m ps (x + t) a).2 - lastT t a + v)
  | [], ps, x, t, v => by
    show (ps, x + v) = (ps, x + t - t + v)
    rw [Int.add_sub_cancel]
  | (s, u) :: a, ps, x, t, v => stl_set a (G m s ps (x + t)).1 (G m s ps (x + t)).2 u v
def Ways (l : Seg) : Prop := ∀ p ∈ l, WayOk p.1
theorem Path.ways {y z : Str} {l : Seg} (h : Path m y l z) : Ways l := by
  induction h with
  | nil y => exact fun p hp => (List.not_mem_nil hp).elim
  | cons h1 h2 h3 _ ih =>
    intro p hp
    rcases List.mem_cons.mp hp with rfl | hp
    · exact h2
    · exact ih p hp
theorem Ways.cons {p : Step × Int} {l : Seg} : Ways (p :: l) ↔ WayOk p.1 ∧ Ways l := by
  unfold Ways
  simp
theorem Ways.app {a b : Seg} : Ways (a ++ b) ↔ Ways a ∧ Ways b := by
  unfold Ways
  constructor
  · exact fun h => ⟨fun p hp => h p (List.mem_append_left _ hp), fun p hp => h p (List.mem_append_right _ hp)⟩
  · rintro ⟨h1, h2⟩ p hp
    rcases List.mem_append.mp hp with z | z
    · exact h1 p z
    · exact h2 p z
theorem stl_pl (ok : m.Ok) : ∀ {l : Seg} {ps : Pairs} {x : Int}, Ways l → Pl m ps → Pl m (stl m ps x l).1
  | [], _, _, _, h => h
  | (s, u) :: l, ps, x, hw, h => by
    rw [stl_cons]
    exact stl_pl ok (Ways.cons.mp hw).2 (G_pl ok (Ways.cons.mp hw).1 h x)
/-- a row undone -/
def bk (t : Int) : Seg → Int × Seg
  | [] => (0 - t, [])
  | (s, u) :: l => ((bk u l).1, (bk u l).2 ++ [(und s, 0 - t)])
/-- a row and another one behind it -/
def jn (t : Int) (l : Seg) (t' : Int) (l' : Seg) : Int × Seg := ((setT t l (lastT t l + t')).1, (setT t l (lastT t l + t')).2 ++ l')
theorem jn_len (t : Int) (l : Seg) (t' : Int) (l' : Seg) : (jn t l t' l').2.length = l.length + l'.length := by
  show ((setT t l (lastT t l + t')).2 ++ l').length = _
  rw [List.length_append, setT_len]
theorem stl_jn (ps : Pairs) (x t t' : Int) (l l' : Seg) : stl m ps (x + (jn t l t' l').1) (jn t l t' l').2 = stl m (stl m ps (x + t) l).1 ((stl m ps (x + t) l).2 + t') l' := by
  unfold jn
  rw [stl_app, stl_set]
  dsimp only
  rw [show (stl m ps (x + t) l).2 - lastT t l + (lastT t l + t') = (stl m ps (x + t) l).2 + t' by omega]
theorem jn_path {y z w : Str} {t t' : Int} {l l' : Seg} (h : Path m y l z) (h' : Path m z l' w) : Path m y (jn t l t' l').2 w := (setT_path h).app h'
end
end Lw
set_option Elab.async false
set_option linter.all false
set_option maxRecDepth 100000
set_option maxHeartbeats 4000000
set_option autoImplicit false
namespace Lw
open PySem Dv
/-! steps of our own words -/
local macro_rules | `(tactic| walk_at "num") => `(tactic| first | assumption | decide | omega)
local macro_rules | `(tactic| walk_at "dv0") => `(tactic| with_reducible first
  | refine v_seq ?_ | refine v_ifS ?_ | refine v_set ?_ | refine v_ret ?_ | refine v_asg ?_ | refine v_par ?_ | refine v_drop ?_ | refine v_nx ?_ | refine v_bk ?_ | refine v_ct ?_ | refine v_retN ?_ | refine v_for ?_
  | refine v_c ?_ | refine v_nil ?_ | refine v_cons ?_ | refine v_op ?_ | refine v_B ?_ | refine v_truth ?_ | refine v_andT ?_ | refine v_orT ?_ | refine v_notT ?_
  | refine v_andV ?_ | refine v_orV ?_ | refine v_notV ?_ | refine v_if ?_ | refine v_neg ?_ | refine v_chain ?_ | refine v_tup ?_ | refine v_lst ?_ | refine v_lstR ?_ | refine v_noPart ?_ | refine v_part ?_ | refine v_sl ?_
  | refine v_CB ?_ | refine v_call ?_ | refine v_abs ?_ | refine v_lc ?_ | refine v_yes ?_ | refine v_it ?_ | refine v_rng1 ?_ | refine v_rng2 ?_ | refine v_rng3 ?_ | refine v_T ?_ | refine v_F ?_
  | refine v_add ?_ | refine v_sub ?_ | refine v_iadd ?_ | refine v_lt ?_ | refine v_le ?_ | refine v_gt ?_ | refine v_ge ?_ | refine v_eqI ?_ | refine v_neI ?_ | refine v_eqB ?_ | refine v_neB ?_)
local macro_rules | `(tactic| walk_at "dv1") => `(tactic| first
  | (with_reducible refine' v_var ?h ?_); (case h => rfl)
  | (with_reducible refine' v_aug ?h ?_); (case h => rfl)
  | (with_reducible refine' v_div ?h1 ?h2 ?_); (case h1 => walk_at "num"); (case h2 => walk_at "num")
  | (with_reducible refine' v_mod ?h1 ?_); (case h1 => walk_at "num")
  | (with_reducible refine' v_pow ?h1 ?_); (case h1 => walk_at "num")
  | (with_reducible refine' v_mulR ?h1 ?_); (case h1 => walk_at "num")
  | (with_reducible refine' v_mulL ?h1 ?_); (case h1 => walk_at "num")
  | (with_reducible refine' v_fin ?h1 ?_); (case h1 => first | exact Or.inl rfl | exact Or.inr rfl | (refine Or.inr ?_; simp only [List.length_set, *]; done))
  | (with_reducible refine' v_ix ?h1 ?_); (case h1 => first | exact ixD_ref (by assumption) (by rfl) | rfl)
  | (with_reducible refine' v_len ?h1 ?_); (case h1 => first | exact lenD_ref (by assumption) | rfl)
  | (with_reducible refine' v_list ?h1 ?_); (case h1 => rfl)
  | (with_reducible refine' v_listR ?h1 ?_); (case h1 => rfl)
  | (with_reducible refine' v_tuple ?h1 ?_); (case h1 => rfl)
  | (with_reducible refine' v_isd ?h1 ?_); (case h1 => rfl)
  | (with_reducible refine' v_isiTy ?h1 ?h2 ?_); (case h1 => rfl); (case h2 => rfl)
  | (with_reducible refine' v_isiT ?h1 ?_); (case h1 => rfl))
local macro_rules | `(tactic| walk_at "dv2") => `(tactic| first
  | refine v_gsub (by rfl) (by rfl) (by assumption) (by rfl) (fun _ _ _ => ?_) | refine ⟨_, rfl, ?_⟩ | (with_reducible refine' ⟨rng_ok ?h1 ?h2, ?_⟩); (case h1 => omega); (case h2 => omega) | refine ⟨rfl, ?_⟩ | refine ⟨_, _, rfl, ?_⟩ | refine ⟨Nat.le_of_ble_eq_true rfl, ?_⟩)
local macro_rules | `(tactic| walk_at "dv3") => `(tactic| first
  | (with_reducible refine' v_dec (fun _ => ?_) (fun hn => absurd ?h hn)); (case h => first | assumption | omega | decide)
  | (with_reducible refine' v_dec (fun hn => absurd hn ?h) (fun _ => ?_)); (case h => first | assumption | omega | decide)
  | (with_reducible refine' v_ndec (fun _ => ?_) (fun hn => absurd hn ?h)); (case h => first | assumption | omega | decide)
  | (with_reducible refine' v_ndec (fun hn => absurd ?h hn) (fun _ => ?_)); (case h => first | assumption | omega | decide)
  | (with_reducible refine' v_bT ?h ?_); (case h => first | assumption | rfl)
  | (with_reducible refine' v_bF ?h ?_); (case h => first | assumption | rfl))
local macro_rules | `(tactic| walk_at "dv4") => `(tactic| with_reducible first
  | refine v_places ?_ | refine v_roads ?_ | refine v_over ?_ | refine v_line ?_ | refine v_spots ?_ | refine v_myards ?_ | refine v_mroads ?_ | refine v_mW (by decide +kernel) ?_ | refine v_mK (by decide +kernel) ?_
  | refine v_itX ?_ | refine v_ev ?_ | refine v_rev ?_ | refine v_zs ?_ | refine v_enum ?_ | refine v_enum2 ?_ | refine v_makeV ?_ | refine v_tryN ?_ | refine v_lc2 ?_ | refine v_fz ?_ | refine v_make ?_ | refine v_fldS ?_)
local macro_rules | `(tactic| walk_at "dv5") => `(tactic| first
  | refine ⟨_, _, rfl, rfl, ?_⟩ | refine ⟨⟨_, _, rfl⟩, ?_⟩ | refine ⟨⟨_, _, _, rfl⟩, ?_⟩ | refine ⟨_, _, _, rfl, ?_⟩ | refine Or.inl ⟨_, rfl, ?_⟩ | refine Or.inr ⟨_, (fun _ z => by cases z), rfl, ?_⟩)
local macro_rules | `(tactic| walk_at "dv") => `(tactic| repeat (first | walk_at "dv0" | walk_at "dv4" | walk_at "dv1" | walk_at "dv3" | walk_at "dv2" | walk_at "dv5"))
/-! ### walks undone, joined -/
theorem cut_one {α : Type} (x : α) (l : List α) : cutA (x :: l) (some 1) none = l := cut_n (x :: l) 1 1
theorem lastT_pre (t : Int) (l : Seg) : cutA (rowD t l) none (some (-1)) = preD t l := by
  have e := row_split t l []
  rw [List.append_nil] at e
  rw [e]
  have hn : (preD t l ++ Dt.int (lastT t l) :: segD []).length = (preD t l).length + 1 := by
    rw [List.length_append]
    rfl
  have hs : HT.sIx (preD t l ++ Dt.int (lastT t l) :: segD []).length (preD t l ++ Dt.int (lastT t l) :: segD []).length (some (-1)) = (preD t l).length := by
    unfold HT.sIx
    dsimp only
    rw [if_pos (by decide), hn]
    omega
  unfold cutA
  rw [HT.sIx_none, hs, List.drop_zero, Nat.sub_zero, List.take_left]
theorem row_lastT (t : Int) (l : Seg) {S : Store} : ixD S (.lst (rowD t l)) (-1) = some (.int (lastT t l)) := by
  have e := row_split t l []
  rw [List.append_nil] at e
  rw [e]
  exact last_ix (by simp [segD])
theorem row_jn (t : Int) (l : Seg) (t' : Int) (l' : Seg) : preD t l ++ [Dt.int (lastT t l + t')] ++ segD l' = rowD (jn t l t' l').1 (jn t l t' l').2 := by
  unfold jn
  rw [row_set, List.append_assoc]
  rfl
section
end
end Lw
set_option Elab.async false
set_option linter.all false
set_option maxRecDepth 100000
set_option maxHeartbeats 4000000
set_option autoImplicit false
namespace Lw
open PySem Dv
/-! steps of our own words -/
local macro_rules | `(tactic| walk_at "num") => `(tactic| first | assumption | decide | omega)
local macro_rules | `(tactic| walk_at "dv0") => `(tactic| with_reducible first
  | refine v_seq ?_ | refine v_ifS ?_ | refine v_set ?_ | refine v_ret ?_ | refine v_asg ?_ | refine v_par ?_ | refine v_drop ?_ | refine v_nx ?_ | refine v_bk ?_ | refine v_ct ?_ | refine v_retN ?_ | refine v_for ?_
  | refine v_c ?_ | refine v_nil ?_ | refine v_cons ?_ | refine v_op ?_ | refine v_B ?_ | refine v_truth ?_ | refine v_andT ?_ | refine v_orT ?_ | refine v_notT ?_
  | refine v_andV ?_ | refine v_orV ?_ | refine v_notV ?_ | refine v_if ?_ | refine v_neg ?_ | refine v_chain ?_ | refine v_tup ?_ | refine v_lst ?_ | refine v_lstR ?_ | refine v_noPart ?_ | refine v_part ?_ | refine v_sl ?_
  | refine v_CB ?_ | refine v_call ?_ | refine v_abs ?_ | refine v_lc ?_ | refine v_yes ?_ | refine v_it ?_ | refine v_rng1 ?_ | refine v_rng2 ?_ | refine v_rng3 ?_ | refine v_T ?_ | refine v_F ?_
  | refine v_add ?_ | refine v_sub ?_ | refine v_iadd ?_ | refine v_lt ?_ | refine v_le ?_ | refine v_gt ?_ | refine v_ge ?_ | refine v_eqI ?_ | refine v_neI ?_ | refine v_eqB ?_ | refine v_neB ?_)
local macro_rules | `(tactic| walk_at "dv1") => `(tactic| first
  | (with_reducible refine' v_var ?h ?_); (case h => rfl)
  | (with_reducible refine' v_aug ?h ?_); (case h => rfl)
  | (with_reducible refine' v_div ?h1 ?h2 ?_); (case h1 => walk_at "num"); (case h2 => walk_at "num")
  | (with_reducible refine' v_mod ?h1 ?_); (case h1 => walk_at "num")
  | (with_reducible refine' v_pow ?h1 ?_); (case h1 => walk_at "num")
  | (with_reducible refine' v_mulR ?h1 ?_); (case h1 => walk_at "num")
  | (with_reducible refine' v_mulL ?h1 ?_); (case h1 => walk_at "num")
  | (with_reducible refine' v_fin ?h1 ?_); (case h1 => first | exact Or.inl rfl | exact Or.inr rfl | (refine Or.inr ?_; simp only [List.length_set, *]; done))
  | (with_reducible refine' v_ix ?h1 ?_); (case h1 => first | exact ixD_ref (by assumption) (by rfl) | rfl)
  | (with_reducible refine' v_len ?h1 ?_); (case h1 => first | exact lenD_ref (by assumption) | rfl)
  | (with_reducible refine' v_list ?h1 ?_); (case h1 => rfl)
  | (with_reducible refine' v_listR ?h1 ?_); (case h1 => rfl)
  | (with_reducible refine' v_tuple ?h1 ?_); (case h1 => rfl)
  | (with_reducible refine' v_isd ?h1 ?_); (case h1 => rfl)
  | (with_reducible refine' v_isiTy ?h1 ?h2 ?_); (case h1 => rfl); (case h2 => rfl)
  | (with_reducible refine' v_isiT ?h1 ?_); (case h1 => rfl))
local macro_rules | `(tactic| walk_at "dv2") => `(tactic| first
  | refine v_gsub (by rfl) (by rfl) (by assumption) (by rfl) (fun _ _ _ => ?_) | refine ⟨_, rfl, ?_⟩ | (with_reducible refine' ⟨rng_ok ?h1 ?h2, ?_⟩); (case h1 => omega); (case h2 => omega) | refine ⟨rfl, ?_⟩ | refine ⟨_, _, rfl, ?_⟩ | refine ⟨Nat.le_of_ble_eq_true rfl, ?_⟩)
local macro_rules | `(tactic| walk_at "dv3") => `(tactic| first
  | (with_reducible refine' v_dec (fun _ => ?_) (fun hn => absurd ?h hn)); (case h => first | assumption | omega | decide)
  | (with_reducible refine' v_dec (fun hn => absurd hn ?h) (fun _ => ?_)); (case h => first | assumption | omega | decide)
  | (with_reducible refine' v_ndec (fun _ => ?_) (fun hn => absurd hn ?h)); (case h => first | assumption | omega | decide)
  | (with_reducible refine' v_ndec (fun hn => absurd ?h hn) (fun _ => ?_)); (case h => first | assumption | omega | decide)
  | (with_reducible refine' v_bT ?h ?_); (case h => first | assumption | rfl)
  | (with_reducible refine' v_bF ?h ?_); (case h => first | assumption | rfl))
local macro_rules | `(tactic| walk_at "dv4") => `(tactic| with_reducible first
  | refine v_places ?_ | refine v_roads ?_ | refine v_over ?_ | refine v_line ?_ | refine v_spots ?_ | refine v_myards ?_ | refine v_mroads ?_ | refine v_mW (by decide +kernel) ?_ | refine v_mK (by decide +kernel) ?_
  | refine v_itX ?_ | refine v_ev ?_ | refine v_rev ?_ | refine v_zs ?_ | refine v_enum ?_ | refine v_enum2 ?_ | refine v_makeV ?_ | refine v_tryN ?_ | refine v_lc2 ?_ | refine v_fz ?_ | refine v_make ?_ | refine v_fldS ?_)
local macro_rules | `(tactic| walk_at "dv5") => `(tactic| first
  | refine ⟨_, _, rfl, rfl, ?_⟩ | refine ⟨⟨_, _, rfl⟩, ?_⟩ | refine ⟨⟨_, _, _, rfl⟩, ?_⟩ | refine ⟨_, _, _, rfl, ?_⟩ | refine Or.inl ⟨_, rfl, ?_⟩ | refine Or.inr ⟨_, (fun _ z => by cases z), rfl, ?_⟩)
local macro_rules | `(tactic| walk_at "dv") => `(tactic| repeat (first | walk_at "dv0" | walk_at "dv4" | walk_at "dv1" | walk_at "dv3" | walk_at "dv2" | walk_at "dv5"))
/-! ### the greatest common measure -/
theorem abs_if (a : Int) : (if a < 0 then -a else a) = (a.natAbs : Int) := by split <;> omega
/-! ### range(1, len(row), 2) -/
theorem rng_row (n : Nat) (hn : n ≤ 1000) : rngN 1 ((2 * n + 1 : Nat) : Int) 2 = n ∧ rngC 1 ((2 * n + 1 : Nat) : Int) 2 = true := by
  have e : Builtin.Range.rangeSize 1 ((2 * n + 1 : Nat) : Int) 2 = n := by
    unfold Builtin.Range.rangeSize
    rw [if_pos (by decide)]
    split
    · omega
    · omega
  have e2 : rngN 1 ((2 * n + 1 : Nat) : Int) 2 = n := by
    unfold rngN
    rw [e]
    rfl
  refine ⟨e2, ?_⟩
  have e3 : Builtin.Range.small 1 ((2 * n + 1 : Nat) : Int) 2 = true := by
    have f : ∀ x : Int, -100000 ≤ x → x ≤ 100000 → Builtin.Range.rangeFitsLong x = true := by
      intro x h1 h2
      unfold Builtin.Range.rangeFitsLong
      simp only [Bool.and_eq_true, decide_eq_true_eq]
      omega
    unfold Builtin.Range.small
    rw [e, f 1 (by decide) (by decide), f 2 (by decide) (by decide), f _ (by omega) (by omega), f n (by omega) (by omega)]
    simp only [Bool.and_self, Bool.true_and]
    rw [if_pos (by decide), f _ (by omega) (by omega), Bool.or_true]
  unfold rngC
  rw [e, e2, e3]
  simp
theorem range_drop {n k : Nat} (h : k < n) : (rangeC 1 2 n).drop k = .int (1 + (k : Int) * 2) :: (rangeC 1 2 n).drop (k + 1) := by
  have hl : k < (rangeC 1 2 n).length := by simp [rangeC, h]
  rw [List.drop_eq_getElem_cons hl]
  simp [rangeC]
/-! ### the law's own settling -/
section
variable {m : Mod} {S : Store}
theorem law_settled_ok (ok : m.Ok) (hp : PureS S) {y z : Str} {t : Int} {l : Seg} (h : Path m y l z) (hl : l.length ≤ 900) : m_law_settled [m.d, .lst (rowD t l)] S = .ok (stlD (stl m [] t l)) S := by
  refine Pe.eq (v_fn ?_)
  unfold b_law_settled
  generalize hR : mRng3 = R
  walk_at "dv"
  refine v_ix (ix_zero _ _) ?_
  walk_at "dv"
  subst hR
  with_reducible refine v_rng3 ?_
  refine Pe.of (show (mCons (mC (.int 1)) (mCons (mCB mLen (mCons (mVar 1) mNil)) (mCons (mC (.int 2)) mNil))) [some m.d, some (.lst (rowD t l)), some (.ref S.length), some (.int t), none, none, none, none] (S ++ [.lst []]) = R.ok [.int 1, .int ((rowD t l).length : Nat), .int 2] (S ++ [.lst []]) from rfl) ?_
  have hr := rng_row l.length (by omega)
  rw [← row_len t l] at hr
  refine ⟨_, _, _, rfl, hr.2, ?_⟩
  rw [hr.1]
  refine v_loop (fun ds en T => ∃ (x4 x5 x6 x7 : Option Dt) (a b : Seg) (w : Str) (ps : Pairs) (x : Int), l = a ++ b ∧ ds = (rangeC 1 2 l.length).drop a.length ∧ en = [some m.d, some (.lst (rowD t l)), some (.ref S.length), some (.int x), x4, x5, x6, x7] ∧ Jz S T ∧ T[S.length]? = some (.lst (ps.map prD)) ∧
      Path m w b z ∧ stl m ps x b = stl m [] t l ∧ ps.length + b.length ≤ 900 ∧ (∀ p ∈ ps, PyData.strOk p.2.1 = true))
    ⟨_, _, _, _, [], l, y, [], t, rfl, rfl, rfl, Jz.refl.push, last_at, h, rfl, by simpa using hl, fun p hp => (List.not_mem_nil hp).elim⟩ ?_ ?_
  · rintro d ds en T ⟨x4, x5, x6, x7, a, b, w, ps, x, el, ed, rfl, jz, hT, pb, es, hlen, hst⟩
    cases pb with
    | nil =>
      have := congrArg List.length ed
      have e2 := congrArg List.length el
      simp [rangeC] at this
      simp at e2
      omega
    | @cons _ s u b' _ r h1 h2 h3 p' =>
      have hk : a.length < l.length := by
        rw [el, List.length_append, List.length_cons]
        omega
      rw [range_drop hk] at ed
      obtain ⟨rfl, rfl⟩ := List.cons.inj ed
      have so : PyData.strOk s.1 = true := by
        have := (road_in h1)
        rw [← this.2]
        exact (ok.sr r this.1).1
      have er : ruleOf m s = r.rule s.2 := by simp [ruleOf, h1]
      have rb := rule_b ok h1 s.2
      rw [List.length_cons] at hlen
      have hp0 : l[a.length]? = some (s, u) := by rw [el, List.getElem?_append_right (Nat.le_refl _), Nat.sub_self]; rfl
      have x1 : ∀ T : Store, ixD T (.lst (rowD t l)) (1 + (a.length : Int) * 2) = some (stD s) := fun T => by
        have e : L2.atI (rowD t l) ((2 * a.length + 1 : Nat) : Int) = some (stD s) := atI_in (row_step t l a.length _ hp0)
        rw [show ((2 * a.length + 1 : Nat) : Int) = 1 + (a.length : Int) * 2 by omega] at e
        exact e
      have x2 : ∀ T : Store, ixD T (.lst (rowD t l)) (1 + (a.length : Int) * 2 + 1) = some (.int u) := fun T => by
        have e : L2.atI (rowD t l) ((2 * (a.length + 1) : Nat) : Int) = some (.int (turnAt t l (a.length + 1))) := atI_in (row_turn t l (a.length + 1) (by omega))
        rw [show ((2 * (a.length + 1) : Nat) : Int) = 1 + (a.length : Int) * 2 + 1 by omega] at e
        have e2 : turnAt t l (a.length + 1) = u := by simp [turnAt, hp0]
        rw [e2] at e
        exact e
      have h0 : (r.rule s.2).1 ≠ 0 := rb.1.1
      have h0' : ((r.rule s.2).1.natAbs : Int) ≠ 0 := by omega
      have hh : (r.rule s.2).2.natAbs < 2 ^ 64 := by omega
      have hlg : (r.rule s.2).1.natAbs.log2 < 9000 := log_lt (by omega) h0
      refine ⟨_, _, rfl, ?_⟩
      generalize hP : (mSeq (mSet 7 (mOp mMod (mVar 3) (mCB mAbs (mCons (mVar 5) mNil)))) (mSeq (mDrop (mApp1 (mVar 2) (mTup (mCons (mVar 7) (mCons (mOp mIx (mVar 1) (mVar 4)) mNil))))) (mSet 3 (mOp mMul (mOp mDiv (mOp mSub (mVar 3) (mVar 7)) (mVar 5)) (mVar 6))))) = P
      generalize hL : mSet 3 (mOp mAdd (mVar 3) (mOp mIx (mVar 1) (mOp mAdd (mVar 4) (mC (.int 1))))) = L
      walk_at "dv"
      refine v_ix (x1 _) ?_
      walk_at "dv"
      refine Pe.of (law_rule_ok ok h1) ?_
      walk_at "dv"
      have okps : (ps.map prD).all (okD 11) = true := all_map fun p hp => okD_pr (hst p hp) 9
      refine v_neRN hT okps ?_
      refine ⟨_, rfl, ?_⟩
      have next : ∀ (T2 : Store) (x7 : Option Dt) (v : Int), Jz S T2 → T2[S.length]? = some (.lst ((stl1 (r.rule s.2) ps x s).1.map prD)) → v = (stl1 (r.rule s.2) ps x s).2 →
          ∀ {QS : Fl → Dv.Env → Store → Prop} {XS : Ex → Dv.Env → Store → Prop}, ((∃ (x4' x5' x6' x7' : Option Dt) (a' b : Seg) (w : Str) (ps : Pairs) (x : Int), l = a' ++ b ∧ (rangeC 1 2 l.length).drop (a.length + 1) = (rangeC 1 2 l.length).drop a'.length ∧ [some m.d, some (Dt.lst (rowD t l)), some (.ref S.length), some (.int (v + u)), some (.int (1 + (a.length : Int) * 2)), some (.int (r.rule s.2).1), some (.int (r.rule s.2).2), x7] = [some m.d, some (.lst (rowD t l)), some (.ref S.length), some (.int x), x4', x5', x6', x7'] ∧ Jz S T2 ∧ T2[S.length]? = some (.lst (ps.map prD)) ∧ Path m w b z ∧ stl m ps x b = stl m [] t l ∧ ps.length + b.length ≤ 900 ∧ (∀ p ∈ ps, PyData.strOk p.2.1 = true)) → QS .nx [some m.d, some (Dt.lst (rowD t l)), some (.ref S.length), some (.int (v + u)), some (.int (1 + (a.length : Int) * 2)), some (.int (r.rule s.2).1), some (.int (r.rule s.2).2), x7] T2) → Ps (L [some m.d, some (Dt.lst (rowD t l)), some (.ref S.length), some (.int v), some (.int (1 + (a.length : Int) * 2)), some (.int (r.rule s.2).1), some (.int (r.rule s.2).2), x7] T2) QS XS := by
        intro T2 x7 v j2 hT2 ev QS XS q
        subst hL
        walk_at "dv"
        refine v_ix (x2 _) ?_
        walk_at "dv"
        refine q ⟨_, _, _, _, a ++ [(s, u)], b', _, (stl1 (r.rule s.2) ps x s).1, v + u, by rw [el]; simp, by simp, rfl, j2, hT2, p', ?_, ?_, fun p hp => ?_⟩
        · rw [← es, ev, ← er]
          rfl
        · have := stl1_len (r.rule s.2) ps x s
          omega
        · rcases stl1_mem hp with z | z
          · exact hst p z
          · rw [z]
            exact so
      have push : ∀ (x7 : Option Dt), stl1 (r.rule s.2) ps x s = pushS (r.rule s.2) ps x s → ∀ {QS : Fl → Dv.Env → Store → Prop} {XS : Ex → Dv.Env → Store → Prop},
          (∀ x7, QS .nx [some m.d, some (Dt.lst (rowD t l)), some (.ref S.length), some (.int (stl1 (r.rule s.2) ps x s).2), some (.int (1 + (a.length : Int) * 2)), some (.int (r.rule s.2).1), some (.int (r.rule s.2).2), x7] (T.set S.length (.lst ((stl1 (r.rule s.2) ps x s).1.map prD)))) →
          Ps (P [some m.d, some (Dt.lst (rowD t l)), some (.ref S.length), some (.int x), some (.int (1 + (a.length : Int) * 2)), some (.int (r.rule s.2).1), some (.int (r.rule s.2).2), x7] T) QS XS := by
        intro x7 ep QS XS q
        subst hP
        rw [ep] at q
        walk_at "dv"
        rw [abs_if]
        refine v_app1K rfl hT ?_
        walk_at "dv"
        refine v_ix (x1 _) ?_
        walk_at "dv"
        refine ⟨_, hT, by rw [List.length_map]; omega, ?_⟩
        walk_at "dv"
        have := q (some (.int (x.fmod (r.rule s.2).1.natAbs)))
        unfold pushS at this
        rw [List.map_append] at this
        exact this
      rcases List.eq_nil_or_concat ps with rfl | ⟨ps', p, rfl⟩
      · refine v_bF rfl ?_
        refine push _ rfl fun x7 => ?_
        exact next _ _ _ (jz.set (Nat.le_refl _)) (set_same hT) rfl fun z => z
      · rw [List.concat_eq_append] at *
        have hpp := hst p (by simp)
        have hlast : (ps' ++ [p]).getLast? = some p := by simp
        refine v_bT (by simp) ?_
        walk_at "dv"
        refine v_ix (ixD_ref hT (last_ix (x := prD p) (by simp))) ?_
        walk_at "dv"
        refine v_ix (x1 _) ?_
        walk_at "dv"
        refine Pe.of law_undone_ok ?_
        refine v_eqT hpp so ?_
        refine ⟨_, rfl, ?_⟩
        refine v_dec (fun e => ?_) (fun e => ?_)
        · walk_at "dv"
          rw [abs_if]
          refine v_dec (fun e2 => ?_) (fun e2 => ?_)
          · have e2 := (rest_zero h0).mpr e2
            walk_at "dv"
            refine v_popX rfl hT (d := prD p) (by simp) ?_
            walk_at "dv"
            refine next _ _ _ (jz.set (Nat.le_refl _)) ?_ ?_ fun z => z
            · rw [set_same hT]
              simp [stl1, hlast, e, e2]
            · simp [stl1, hlast, e, e2]
          · have e2 : ¬ x.fmod (r.rule s.2).1 = 0 := fun z => e2 ((rest_zero h0).mp z)
            refine push _ (by simp [stl1, hlast, e, e2]) fun x7 => ?_
            exact next _ _ _ (jz.set (Nat.le_refl _)) (set_same hT) rfl fun z => z
        · refine push _ (by simp [stl1, hlast, e]) fun x7 => ?_
          exact next _ _ _ (jz.set (Nat.le_refl _)) (set_same hT) rfl fun z => z
  · rintro en T ⟨x4, x5, x6, x7, a, b, w, ps, x, el, ed, rfl, jz, hT, pb, es, hlen, hst⟩
    have hb : b = [] := by
      have := congrArg List.length ed
      have e2 := congrArg List.length el
      simp [rangeC] at this
      rw [List.length_append] at e2
      exact List.length_eq_zero_iff.mp (by omega)
    subst hb
    walk_at "dv"
    have hl0 : S.length < T.length := (List.getElem?_eq_some_iff.mp hT).1
    refine v_finL (frz_pair2 rfl hT (Nat.le_refl _) (all_map fun p _ => by simp [noRef])) hl0 (by rw [jz.eq]; exact hp) ?_
    rw [jz.eq, ← es]
    first | exact ⟨rfl, rfl⟩ | exact rfl
end
end Lw
set_option Elab.async false
set_option linter.all false
set_option maxRecDepth 100000
set_option maxHeartbeats 4000000
set_option autoImplicit false
namespace Lw
open PySem Dv
/-! steps of our own words -/
local macro_rules | `(tactic| walk_at "num") => `(tactic| first | assumption | decide | omega)
local macro_rules | `(tactic| walk_at "dv0") => `(tactic| with_reducible first
  | refine v_seq ?_ | refine v_ifS ?_ | refine v_set ?_ | refine v_ret ?_ | refine v_asg ?_ | refine v_par ?_ | refine v_drop ?_ | refine v_nx ?_ | refine v_bk ?_ | refine v_ct ?_ | refine v_retN ?_ | refine v_for ?_
  | refine v_c ?_ | refine v_nil ?_ | refine v_cons ?_ | refine v_op ?_ | refine v_B ?_ | refine v_truth ?_ | refine v_andT ?_ | refine v_orT ?_ | refine v_notT ?_
  | refine v_andV ?_ | refine v_orV ?_ | refine v_notV ?_ | refine v_if ?_ | refine v_neg ?_ | refine v_chain ?_ | refine v_tup ?_ | refine v_lst ?_ | refine v_lstR ?_ | refine v_noPart ?_ | refine v_part ?_ | refine v_sl ?_
  | refine v_CB ?_ | refine v_call ?_ | refine v_abs ?_ | refine v_lc ?_ | refine v_yes ?_ | refine v_it ?_ | refine v_rng1 ?_ | refine v_rng2 ?_ | refine v_rng3 ?_ | refine v_T ?_ | refine v_F ?_
  | refine v_add ?_ | refine v_sub ?_ | refine v_iadd ?_ | refine v_lt ?_ | refine v_le ?_ | refine v_gt ?_ | refine v_ge ?_ | refine v_eqI ?_ | refine v_neI ?_ | refine v_eqB ?_ | refine v_neB ?_)
local macro_rules | `(tactic| walk_at "dv1") => `(tactic| first
  | (with_reducible refine' v_var ?h ?_); (case h => rfl)
  | (with_reducible refine' v_aug ?h ?_); (case h => rfl)
  | (with_reducible refine' v_div ?h1 ?h2 ?_); (case h1 => walk_at "num"); (case h2 => walk_at "num")
  | (with_reducible refine' v_mod ?h1 ?_); (case h1 => walk_at "num")
  | (with_reducible refine' v_pow ?h1 ?_); (case h1 => walk_at "num")
  | (with_reducible refine' v_mulR ?h1 ?_); (case h1 => walk_at "num")
  | (with_reducible refine' v_mulL ?h1 ?_); (case h1 => walk_at "num")
  | (with_reducible refine' v_fin ?h1 ?_); (case h1 => first | exact Or.inl rfl | exact Or.inr rfl | (refine Or.inr ?_; simp only [List.length_set, *]; done))
  | (with_reducible refine' v_ix ?h1 ?_); (case h1 => first | exact ixD_ref (by assumption) (by rfl) | rfl)
  | (with_reducible refine' v_len ?h1 ?_); (case h1 => first | exact lenD_ref (by assumption) | rfl)
  | (with_reducible refine' v_list ?h1 ?_); (case h1 => rfl)
  | (with_reducible refine' v_listR ?h1 ?_); (case h1 => rfl)
  | (with_reducible refine' v_tuple ?h1 ?_); (case h1 => rfl)
  | (with_reducible refine' v_isd ?h1 ?_); (case h1 => rfl)
  | (with_reducible refine' v_isiTy ?h1 ?h2 ?_); (case h1 => rfl); (case h2 => rfl)
  | (with_reducible refine' v_isiT ?h1 ?_); (case h1 => rfl))
local macro_rules | `(tactic| walk_at "dv2") => `(tactic| first
  | refine v_gsub (by rfl) (by rfl) (by assumption) (by rfl) (fun _ _ _ => ?_) | refine ⟨_, rfl, ?_⟩ | (with_reducible refine' ⟨rng_ok ?h1 ?h2, ?_⟩); (case h1 => omega); (case h2 => omega) | refine ⟨rfl, ?_⟩ | refine ⟨_, _, rfl, ?_⟩ | refine ⟨Nat.le_of_ble_eq_true rfl, ?_⟩)
local macro_rules | `(tactic| walk_at "dv3") => `(tactic| first
  | (with_reducible refine' v_dec (fun _ => ?_) (fun hn => absurd ?h hn)); (case h => first | assumption | omega | decide)
  | (with_reducible refine' v_dec (fun hn => absurd hn ?h) (fun _ => ?_)); (case h => first | assumption | omega | decide)
  | (with_reducible refine' v_ndec (fun _ => ?_) (fun hn => absurd hn ?h)); (case h => first | assumption | omega | decide)
  | (with_reducible refine' v_ndec (fun hn => absurd ?h hn) (fun _ => ?_)); (case h => first | assumption | omega | decide)
  | (with_reducible refine' v_bT ?h ?_); (case h => first | assumption | rfl)
  | (with_reducible refine' v_bF ?h ?_); (case h => first | assumption | rfl))
local macro_rules | `(tactic| walk_at "dv4") => `(tactic| with_reducible first
  | refine v_places ?_ | refine v_roads ?_ | refine v_over ?_ | refine v_line ?_ | refine v_spots ?_ | refine v_myards ?_ | refine v_mroads ?_ | refine v_mW (by decide +kernel) ?_ | refine v_mK (by decide +kernel) ?_
  | refine v_itX ?_ | refine v_ev ?_ | refine v_rev ?_ | refine v_zs ?_ | refine v_enum ?_ | refine v_enum2 ?_ | refine v_makeV ?_ | refine v_tryN ?_ | refine v_lc2 ?_ | refine v_fz ?_ | refine v_make ?_ | refine v_fldS ?_)
local macro_rules | `(tactic| walk_at "dv5") => `(tactic| first
  | refine ⟨_, _, rfl, rfl, ?_⟩ | refine ⟨⟨_, _, rfl⟩, ?_⟩ | refine ⟨⟨_, _, _, rfl⟩, ?_⟩ | refine ⟨_, _, _, rfl, ?_⟩ | refine Or.inl ⟨_, rfl, ?_⟩ | refine Or.inr ⟨_, (fun _ z => by cases z), rfl, ?_⟩)
local macro_rules | `(tactic| walk_at "dv") => `(tactic| repeat (first | walk_at "dv0" | walk_at "dv4" | walk_at "dv1" | walk_at "dv3" | walk_at "dv2" | walk_at "dv5"))
/-! ### the same, told of bools, texts and rows -/
theorem same_bool {S : Store} {k : Nat} {b : Bool} : m_law_same (k + 1) [.bl b, .bl b] S = .ok (.bl true) S := by
  refine Pe.eq (v_fn ?_)
  unfold b_law_same
  walk_at "dv"
  refine v_eqB (b := true) (by simp [okD, res]) (by simp [okD, res]) (by cases b <;> rfl) ?_
  walk_at "dv"
  first | exact ⟨rfl, rfl⟩ | exact rfl
theorem same_str {S : Store} {k : Nat} {s : Str} (h : PyData.strOk s = true) : m_law_same (k + 1) [.str s, .str s] S = .ok (.bl true) S := by
  refine Pe.eq (v_fn ?_)
  unfold b_law_same
  walk_at "dv"
  refine v_eqS h h ?_
  walk_at "dv"
  first | exact ⟨rfl, rfl⟩ | exact rfl | exact ⟨by simp, rfl⟩
/-! ### the same, told of any plain data -/
theorem same_non {S : Store} {k : Nat} : m_law_same (k + 1) [.non, .non] S = .ok (.bl true) S := by
  refine Pe.eq (v_fn ?_)
  unfold b_law_same
  walk_at "dv"
  first | exact ⟨rfl, rfl⟩ | exact rfl
def sok : Nat → Dt → Bool
  | 0, _ => false
  | k + 1, d => match d with
    | .non => true
    | .bl _ => true
    | .int _ => true
    | .str s => PyData.strOk s
    | .tup ds => decide (ds.length ≤ 100000) && ds.all (sok k)
    | .lst ds => decide (ds.length ≤ 100000) && ds.all (sok k)
    | _ => false
theorem same_all {S : Store} : ∀ (k : Nat) (d : Dt), sok k d = true → m_law_same k [d, d] S = .ok (.bl true) S
  | 0, _, h => nomatch h
  | k + 1, d, h => by
    unfold sok at h
    split at h
    · exact same_non
    · exact same_bool
    · exact same_int
    · exact same_str h
    · rename_i ds
      rw [Bool.and_eq_true] at h
      refine Pe.eq (same_seq (.inl rfl) (of_decide_eq_true h.1) fun d hd => same_all k d (List.all_eq_true.mp h.2 d hd))
    · rename_i ds
      rw [Bool.and_eq_true] at h
      refine Pe.eq (same_seq (.inr rfl) (of_decide_eq_true h.1) fun d hd => same_all k d (List.all_eq_true.mp h.2 d hd))
    · cases h
/-! ### == of plain data with itself -/
theorem sok_ok : ∀ (k : Nat) (d : Dt), sok k d = true → okD k d = true
  | 0, _, h => nomatch h
  | k + 1, d, h => by
    unfold sok at h
    split at h
    · rfl
    · rfl
    · rfl
    · exact h
    · rename_i ds
      rw [Bool.and_eq_true] at h
      exact List.all_eq_true.mpr fun x hx => sok_ok k x (List.all_eq_true.mp h.2 x hx)
    · rename_i ds
      rw [Bool.and_eq_true] at h
      exact List.all_eq_true.mpr fun x hx => sok_ok k x (List.all_eq_true.mp h.2 x hx)
    · cases h
theorem eqDs_refl : ∀ {ds : List Dt}, (∀ d ∈ ds, eqD d d = true) → eqDs ds ds = true
  | [], _ => rfl
  | d :: ds, h => by
    show (eqD d d && eqDs ds ds) = true
    rw [h d List.mem_cons_self, eqDs_refl fun x hx => h x (List.mem_cons_of_mem _ hx)]
    rfl
theorem sok_eq : ∀ (k : Nat) (d : Dt), sok k d = true → eqD d d = true
  | 0, _, h => nomatch h
  | k + 1, d, h => by
    unfold sok at h
    split at h
    · rfl
    · rename_i b
      show (b == b) = true
      simp
    · rename_i b
      show (b == b) = true
      simp
    · rename_i b
      show (b == b) = true
      simp
    · rename_i ds
      rw [Bool.and_eq_true] at h
      exact eqDs_refl fun x hx => sok_eq k x (List.all_eq_true.mp h.2 x hx)
    · rename_i ds
      rw [Bool.and_eq_true] at h
      exact eqDs_refl fun x hx => sok_eq k x (List.all_eq_true.mp h.2 x hx)
    · cases h
theorem sok_up : ∀ (k : Nat) (d : Dt), sok k d = true → sok (k + 1) d = true
  | 0, _, h => nomatch h
  | k + 1, d, h => by
    unfold sok at h ⊢
    split at h
    · rfl
    · rfl
    · rfl
    · exact h
    · rename_i ds
      rw [Bool.and_eq_true] at h
      show (decide (ds.length ≤ 100000) && ds.all (sok (k + 1))) = true
      rw [h.1]
      exact List.all_eq_true.mpr fun x hx => sok_up k x (List.all_eq_true.mp h.2 x hx)
    · rename_i ds
      rw [Bool.and_eq_true] at h
      show (decide (ds.length ≤ 100000) && ds.all (sok (k + 1))) = true
      rw [h.1]
      exact List.all_eq_true.mpr fun x hx => sok_up k x (List.all_eq_true.mp h.2 x hx)
    · cases h
theorem sok_le {k n : Nat} {d : Dt} (h : sok k d = true) (hk : k ≤ n) : sok n d = true := by
  obtain ⟨j, rfl⟩ := Nat.exists_eq_add_of_le hk
  induction j with
  | zero => exact h
  | succ j ih => exact sok_up _ _ (ih (by omega))
theorem res_sok {k : Nat} {d : Dt} {S : Store} (h : sok k d = true) : res S d = d := by
  cases k with
  | zero => cases h
  | succ k => cases d <;> first | rfl | cases h
theorem sok_list {ds : List Dt} {k : Nat} (hl : ds.length ≤ 100000) (h : ∀ d ∈ ds, sok k d = true) : sok (k + 1) (.lst ds) = true ∧ sok (k + 1) (.tup ds) = true := by
  have e : (decide (ds.length ≤ 100000) && ds.all (sok k)) = true := by
    rw [Bool.and_eq_true]
    exact ⟨decide_eq_true hl, List.all_eq_true.mpr h⟩
  exact ⟨e, e⟩
theorem sok_pr {p : Int × Step} (h : PyData.strOk p.2.1 = true) (k : Nat) : sok (k + 3) (prD p) = true := by simp [sok, h]
theorem sok_prs {ps : Pairs} (h : ∀ p ∈ ps, PyData.strOk p.2.1 = true) (hl : ps.length ≤ 1000) (k : Nat) : sok (k + 4) (.lst (ps.map prD)) = true ∧ sok (k + 4) (.tup (ps.map prD)) = true := by
  refine sok_list (by rw [List.length_map]; omega) fun d hd => ?_
  obtain ⟨p, hp, rfl⟩ := List.mem_map.mp hd
  exact sok_pr (h p hp) k
section
end
section
variable {m : Mod} {S : Store}
/-! ### pairs as a row -/
def unp (x : Int) : Pairs → Int × Seg
  | [] => (x, [])
  | (r, s) :: ps => (r, (s, (unp x ps).1) :: (unp x ps).2)
theorem unp_row (x : Int) : ∀ ps : Pairs, rowD (unp x ps).1 (unp x ps).2 = ps.flatMap (fun p => [Dt.int p.1, stD p.2]) ++ [.int x]
  | [] => rfl
  | (r, s) :: ps => by
    show Dt.int r :: stD s :: rowD (unp x ps).1 (unp x ps).2 = _
    rw [unp_row x ps]
    rfl
theorem unp_steps (x : Int) : ∀ ps : Pairs, (unp x ps).2.map (·.1) = ps.map (·.2)
  | [] => rfl
  | (r, s) :: ps => by
    show s :: (unp x ps).2.map (·.1) = s :: ps.map (·.2)
    rw [unp_steps x ps]
end
/-! ### the plain walk, made -/
theorem unp_len (x : Int) : ∀ ps : Pairs, (unp x ps).2.length = ps.length
  | [] => rfl
  | (r, s) :: ps => by
    show (unp x ps).2.length + 1 = ps.length + 1
    rw [unp_len x ps]
section
end
/-! ### plain walks: their way, how great they are -/
theorem Path.same {m : Mod} {z : Str} : ∀ {a b : Seg} {y : Str}, Path m y a z → a.map (·.1) = b.map (·.1) → Path m y b z
  | [], [], _, h, _ => h
  | [], _ :: _, _, _, e => by cases e
  | _ :: _, [], _, _, e => by cases e
  | (s, t) :: a, (s', u) :: b, y, h, e => by
    have e1 : s = s' := (List.cons.inj e).1
    have e2 : a.map (·.1) = b.map (·.1) := (List.cons.inj e).2
    subst e1
    cases h with
    | cons h1 h2 h3 p => exact .cons h1 h2 h3 (p.same e2)
section
variable {m : Mod}
def prS (ps : Pairs) : Seg := ps.map fun p => (p.2, (0 : Int))
theorem G_path {y w v : Str} {s : Step} {u x : Int} {ps : Pairs} (h : Path m y (prS ps) w) (k : Path m w [(s, u)] v) : Path m y (prS (G m s ps x).1) v := by
  rcases G_two (m := m) s ps x with ⟨qs, r, rfl, h0⟩ | h0
  · rw [G_pop h0]
    have e : prS (qs ++ [(r, und s)]) = prS qs ++ [(und s, 0)] := by simp [prS]
    rw [e] at h
    obtain ⟨r', w', p1, p2, p3, p4, p5⟩ := h.snoc
    cases k with
    | @cons _ _ _ _ _ r2 h1 h2 h3 h4 =>
      cases h4
      have er : r' = r2 := Option.some.inj (p2.symm.trans h1)
      subst er
      have ew : (r'.ends s.2).2 = w' := by
        rw [← p4]
        show _ = (r'.ends (0 - s.2)).1
        rw [und_ends r' h2]
      rw [ew]
      exact p1
  · rw [G_push h0]
    have e : prS (ps ++ [(x.fmod (ruleOf m s).1.natAbs, s)]) = prS ps ++ [(s, 0)] := by simp [prS]
    rw [e]
    refine h.app ?_
    cases k with
    | cons h1 h2 h3 h4 => exact .cons h1 h2 h3 h4
theorem stl_path {z : Str} : ∀ {l : Seg} {y w : Str} {ps : Pairs} {x : Int}, Path m y (prS ps) w → Path m w l z → Path m y (prS (stl m ps x l).1) z
  | [], _, _, _, _, h, k => by
    cases k
    exact h
  | (s, u) :: l, _, _, ps, x, h, k => by
    cases k with
    | cons h1 h2 h3 h4 =>
      rw [stl_cons]
      exact stl_path (G_path (u := u) h (.cons h1 h2 h3 (.nil _))) h4
theorem stl_len (ps : Pairs) (x : Int) (l : Seg) : (stl m ps x l).1.length ≤ ps.length + l.length := by
  induction l generalizing ps x with
  | nil => exact Nat.le_refl _
  | cons p l ih =>
    have h1 := stl1_len (ruleOf m p.1) ps x p.1
    have h2 := ih (G m p.1 ps x).1 ((G m p.1 ps x).2 + p.2)
    show (stl m (G m p.1 ps x).1 ((G m p.1 ps x).2 + p.2) l).1.length ≤ ps.length + (l.length + 1)
    have h1 : (G m p.1 ps x).1.length ≤ ps.length + 1 := h1
    omega
theorem unp_path {y z : Str} {ps : Pairs} (h : Path m y (prS ps) z) (x : Int) : Path m y (unp x ps).2 z := by
  refine h.same ?_
  rw [unp_steps]
  unfold prS
  rw [List.map_map]
  rfl
end
end Lw
set_option Elab.async false
set_option linter.all false
set_option maxRecDepth 100000
set_option maxHeartbeats 4000000
set_option autoImplicit false
namespace Lw
open PySem Dv
/-! steps of our own words -/
local macro_rules | `(tactic| walk_at "num") => `(tactic| first | assumption | decide | omega)
local macro_rules | `(tactic| walk_at "dv0") => `(tactic| with_reducible first
  | refine v_seq ?_ | refine v_ifS ?_ | refine v_set ?_ | refine v_ret ?_ | refine v_asg ?_ | refine v_par ?_ | refine v_drop ?_ | refine v_nx ?_ | refine v_bk ?_ | refine v_ct ?_ | refine v_retN ?_ | refine v_for ?_
  | refine v_c ?_ | refine v_nil ?_ | refine v_cons ?_ | refine v_op ?_ | refine v_B ?_ | refine v_truth ?_ | refine v_andT ?_ | refine v_orT ?_ | refine v_notT ?_
  | refine v_andV ?_ | refine v_orV ?_ | refine v_notV ?_ | refine v_if ?_ | refine v_neg ?_ | refine v_chain ?_ | refine v_tup ?_ | refine v_lst ?_ | refine v_lstR ?_ | refine v_noPart ?_ | refine v_part ?_ | refine v_sl ?_
  | refine v_CB ?_ | refine v_call ?_ | refine v_abs ?_ | refine v_lc ?_ | refine v_yes ?_ | refine v_it ?_ | refine v_rng1 ?_ | refine v_rng2 ?_ | refine v_rng3 ?_ | refine v_T ?_ | refine v_F ?_
  | refine v_add ?_ | refine v_sub ?_ | refine v_iadd ?_ | refine v_lt ?_ | refine v_le ?_ | refine v_gt ?_ | refine v_ge ?_ | refine v_eqI ?_ | refine v_neI ?_ | refine v_eqB ?_ | refine v_neB ?_)
local macro_rules | `(tactic| walk_at "dv1") => `(tactic| first
  | (with_reducible refine' v_var ?h ?_); (case h => rfl)
  | (with_reducible refine' v_aug ?h ?_); (case h => rfl)
  | (with_reducible refine' v_div ?h1 ?h2 ?_); (case h1 => walk_at "num"); (case h2 => walk_at "num")
  | (with_reducible refine' v_mod ?h1 ?_); (case h1 => walk_at "num")
  | (with_reducible refine' v_pow ?h1 ?_); (case h1 => walk_at "num")
  | (with_reducible refine' v_mulR ?h1 ?_); (case h1 => walk_at "num")
  | (with_reducible refine' v_mulL ?h1 ?_); (case h1 => walk_at "num")
  | (with_reducible refine' v_fin ?h1 ?_); (case h1 => first | exact Or.inl rfl | exact Or.inr rfl | (refine Or.inr ?_; simp only [List.length_set, *]; done))
  | (with_reducible refine' v_ix ?h1 ?_); (case h1 => first | exact ixD_ref (by assumption) (by rfl) | rfl)
  | (with_reducible refine' v_len ?h1 ?_); (case h1 => first | exact lenD_ref (by assumption) | rfl)
  | (with_reducible refine' v_list ?h1 ?_); (case h1 => rfl)
  | (with_reducible refine' v_listR ?h1 ?_); (case h1 => rfl)
  | (with_reducible refine' v_tuple ?h1 ?_); (case h1 => rfl)
  | (with_reducible refine' v_isd ?h1 ?_); (case h1 => rfl)
  | (with_reducible refine' v_isiTy ?h1 ?h2 ?_); (case h1 => rfl); (case h2 => rfl)
  | (with_reducible refine' v_isiT ?h1 ?_); (case h1 => rfl))
local macro_rules | `(tactic| walk_at "dv2") => `(tactic| first
  | refine v_gsub (by rfl) (by rfl) (by assumption) (by rfl) (fun _ _ _ => ?_) | refine ⟨_, rfl, ?_⟩ | (with_reducible refine' ⟨rng_ok ?h1 ?h2, ?_⟩); (case h1 => omega); (case h2 => omega) | refine ⟨rfl, ?_⟩ | refine ⟨_, _, rfl, ?_⟩ | refine ⟨Nat.le_of_ble_eq_true rfl, ?_⟩)
local macro_rules | `(tactic| walk_at "dv3") => `(tactic| first
  | (with_reducible refine' v_dec (fun _ => ?_) (fun hn => absurd ?h hn)); (case h => first | assumption | omega | decide)
  | (with_reducible refine' v_dec (fun hn => absurd hn ?h) (fun _ => ?_)); (case h => first | assumption | omega | decide)
  | (with_reducible refine' v_ndec (fun _ => ?_) (fun hn => absurd hn ?h)); (case h => first | assumption | omega | decide)
  | (with_reducible refine' v_ndec (fun hn => absurd ?h hn) (fun _ => ?_)); (case h => first | assumption | omega | decide)
  | (with_reducible refine' v_bT ?h ?_); (case h => first | assumption | rfl)
  | (with_reducible refine' v_bF ?h ?_); (case h => first | assumption | rfl))
local macro_rules | `(tactic| walk_at "dv4") => `(tactic| with_reducible first
  | refine v_places ?_ | refine v_roads ?_ | refine v_over ?_ | refine v_line ?_ | refine v_spots ?_ | refine v_myards ?_ | refine v_mroads ?_ | refine v_mW (by decide +kernel) ?_ | refine v_mK (by decide +kernel) ?_
  | refine v_itX ?_ | refine v_ev ?_ | refine v_rev ?_ | refine v_zs ?_ | refine v_enum ?_ | refine v_enum2 ?_ | refine v_makeV ?_ | refine v_tryN ?_ | refine v_lc2 ?_ | refine v_fz ?_ | refine v_make ?_ | refine v_fldS ?_)
local macro_rules | `(tactic| walk_at "dv5") => `(tactic| first
  | refine ⟨_, _, rfl, rfl, ?_⟩ | refine ⟨⟨_, _, rfl⟩, ?_⟩ | refine ⟨⟨_, _, _, rfl⟩, ?_⟩ | refine ⟨_, _, _, rfl, ?_⟩ | refine Or.inl ⟨_, rfl, ?_⟩ | refine Or.inr ⟨_, (fun _ z => by cases z), rfl, ?_⟩)
local macro_rules | `(tactic| walk_at "dv") => `(tactic| repeat (first | walk_at "dv0" | walk_at "dv4" | walk_at "dv1" | walk_at "dv3" | walk_at "dv2" | walk_at "dv5"))
/-! ### the law's own laying out of pairs -/
section
variable {m : Mod} {S : Store}
theorem flat_len (qs : Pairs) : (qs.flatMap fun p => [Dt.int p.1, stD p.2]).length = 2 * qs.length := by
  induction qs with
  | nil => rfl
  | cons q qs ih =>
    rw [List.flatMap_cons, List.length_append, ih]
    show 2 + 2 * qs.length = 2 * (qs.length + 1)
    omega
theorem laid_ok {ps : Pairs} {x : Int} (hl : ps.length ≤ 1000) : m_law_laid [.lst (ps.map prD), .int x] S = .ok (.lst (rowD (unp x ps).1 (unp x ps).2)) S := by
  refine Pe.eq (v_fn ?_)
  unfold b_law_laid
  walk_at "dv"
  refine v_loop (fun ds en T => T = S ∧ ∃ (x3 x4 : Option Dt) (a b : Pairs), ps = a ++ b ∧ ds = b.map prD ∧ en = [some (.lst (ps.map prD)), some (.int x), some (.lst (a.flatMap fun p => [Dt.int p.1, stD p.2])), x3, x4])
    ⟨rfl, _, _, [], ps, rfl, rfl, rfl⟩ ?_ ?_
  · rintro d ds en T ⟨rfl, x3, x4, a, b, e, ed, rfl⟩
    cases b with
    | nil => cases ed
    | cons p b =>
      obtain ⟨rfl, rfl⟩ := List.cons.inj ed
      have la : a.length ≤ 1000 := by
        rw [e, List.length_append] at hl
        omega
      refine ⟨_, _, rfl, ?_⟩
      walk_at "dv"
      refine v_addL (by rw [flat_len]; simp; omega) ?_
      walk_at "dv"
      have ef : (a ++ [p]).flatMap (fun p => [Dt.int p.1, stD p.2]) = a.flatMap (fun p => [Dt.int p.1, stD p.2]) ++ [Dt.int p.1, stD p.2] := by
        rw [List.flatMap_append]
        rfl
      refine ⟨some (.int p.1), some (stD p.2), a ++ [p], b, by rw [e]; simp, rfl, ?_⟩
      rw [ef]
      rfl
  · rintro en T ⟨rfl, x3, x4, a, b, e, ed, rfl⟩
    have hb : b = [] := by simpa using ed.symm
    subst hb
    rw [List.append_nil] at e
    subst e
    walk_at "dv"
    refine v_addL (by rw [flat_len]; simp; omega) ?_
    rw [← unp_row]
    walk_at "dv"
    first | exact ⟨rfl, rfl⟩ | exact rfl
theorem law_place_ok (ok : m.Ok) (hp : PureS S) {y z : Str} {t : Int} {l : Seg} (h : Path m y l z) (hl : l.length ≤ 900) : m_law_place [m.d, .lst (rowD t l)] S = .ok (.tup ((stl m [] t l).1.map prD)) S := by
  refine Pe.eq (v_fn ?_)
  unfold b_law_place
  walk_at "dv"
  refine Pe.of (law_settled_ok ok hp h hl) ?_
  walk_at "dv"
  first | exact ⟨rfl, rfl⟩ | exact rfl
theorem law_place_row_ok {ps : Pairs} (hl : ps.length ≤ 1000) : m_law_place_row [.tup (ps.map prD)] S = .ok (.lst (rowD (unp 0 ps).1 (unp 0 ps).2)) S := by
  refine Pe.eq (v_fn ?_)
  unfold b_law_place_row
  walk_at "dv"
  refine Pe.of (laid_ok hl) ?_
  walk_at "dv"
  first | exact ⟨rfl, rfl⟩ | exact rfl
end
/-! ### places -/
section
variable {m : Mod}
theorem Pl.pre : ∀ {qs : Pairs}, Pl m qs → ∀ {a b : Pairs}, qs = a ++ b → Pl m a := by
  intro qs h
  induction h with
  | nil =>
    intro a b e
    have e1 : a = [] := (List.append_eq_nil_iff.mp e.symm).1
    rw [e1]
    exact .nil
  | @push ps r s h1 h2 h3 h4 h5 ih =>
    intro a b e
    rcases List.eq_nil_or_concat b with rfl | ⟨b', p, rfl⟩
    · rw [List.append_nil] at e
      rw [← e]
      exact .push h1 h2 h3 h4 h5
    · rw [List.concat_eq_append, ← List.append_assoc] at e
      exact ih (List.append_inj' e rfl).1
theorem Pl.at_ {a b : Pairs} {r : Int} {s : Step} (h : Pl m (a ++ (r, s) :: b)) : 0 ≤ r ∧ r < (ruleOf m s).1.natAbs ∧ WayOk s ∧ ∀ p, a.getLast? = some p → p.2 = und s → r ≠ 0 := by
  have h1 : Pl m (a ++ [(r, s)]) := h.pre (b := b) (by simp)
  obtain ⟨_, k1, k2, k3, k4⟩ := h1.last
  exact ⟨k1, k2, k3, k4⟩
theorem Pl.b (ok : m.Ok) {ps : Pairs} (h : Pl m ps) : ∀ p ∈ ps, p.1.natAbs ≤ 99 := by
  intro p hp
  obtain ⟨a, b, rfl⟩ := List.append_of_mem hp
  obtain ⟨h1, h2, _⟩ := h.at_
  have := (rule_ne ok p.2).1.2
  omega
theorem prS_app (a b : Pairs) : prS (a ++ b) = prS a ++ prS b := by
  unfold prS
  exact List.map_append
end
section
variable {m : Mod} {S : Store}
theorem rule_from_ok (ok : m.Ok) {s : Step} {r : Road} (h : m.road s.1 = some r) (hw : WayOk s) : m_rule_from [m.w, .str (r.ends s.2).1, stD s] S = .ok (.tup [.int (ruleOf m s).1, .str (r.ends s.2).2]) S := by
  have hs : PyData.strOk (r.ends s.2).1 = true := ok.sy _ (ends_in ok h s.2).1
  rw [ruleOf_road h]
  refine Pe.eq (v_fn ?_)
  unfold b_rule_from
  with_reducible refine v_seq ?_
  with_reducible refine v_tryN ?_
  walk_at "dv"
  refine Pe.of (web_ends_ok ok h hw) ?_
  walk_at "dv"
  refine v_eqS hs hs ?_
  refine ⟨_, rfl, ?_⟩
  refine v_bT (by simp) ?_
  walk_at "dv"
  refine Pe.of (web_rule_ok ok h hw) ?_
  walk_at "dv"
  first | exact ⟨rfl, rfl⟩ | exact rfl
theorem yard_of_ok (ok : m.Ok) {y z : Str} {ps : Pairs} (h : Pl m ps) (hp : Path m y (prS ps) z) (hy : y ∈ m.ys) (hl : ps.length ≤ 200) : m_yard_of [m.w, .str y, .tup (ps.map prD)] S = .ok (.str z) S := by
  refine Pe.eq (v_fn ?_)
  unfold b_yard_of
  have ll : (ps.map prD).length = ps.length := List.length_map ..
  walk_at "dv"
  refine Pe.of (need_yard_ok hy) ?_
  walk_at "dv"
  refine v_loop (fun ds en T => T = S ∧ ∃ (x5 x6 x7 : Option Dt) (a b : Pairs) (w : Str), ps = a ++ b ∧ ds = b.map prD ∧ en = [some m.w, some (.str y), some (.tup (ps.map prD)), some (.str w), some (match a.getLast? with | none => .non | some p => stD p.2), x5, x6, x7] ∧ Path m w (prS b) z)
    ⟨rfl, _, _, _, [], ps, y, rfl, rfl, rfl, hp⟩ ?_ ?_
  · rintro d ds en T ⟨rfl, x5, x6, x7, a, b, w, e, ed, rfl, pb⟩
    cases b with
    | nil => cases ed
    | cons p b =>
      obtain ⟨t, s⟩ := p
      obtain ⟨rfl, rfl⟩ := List.cons.inj ed
      rw [e] at h
      obtain ⟨k1, k2, k3, k4⟩ := h.at_
      have pb : Path m w ((s, 0) :: prS b) z := pb
      cases pb with
      | @cons _ _ _ _ _ r h1 h2 h3 h4 =>
        subst h3
        have so : PyData.strOk s.1 = true := by
          have := road_in h1
          rw [← this.2]
          exact (ok.sr r this.1).1
        refine ⟨_, _, rfl, ?_⟩
        walk_at "dv"
        refine Pe.of (rule_from_ok ok h1 h2) ?_
        walk_at "dv"
        rw [abs_if]
        refine Pe.of (is_whole_ok (by omega) (by omega)) ?_
        walk_at "dv"
        have done : ∃ (x5' x6' x7' : Option Dt) (a' b' : Pairs) (w' : Str), ps = a' ++ b' ∧ b.map prD = b'.map prD ∧ [some m.w, some (Dt.str y), some (.tup (ps.map prD)), some (.str (r.ends s.2).2), some (stD s), some (.int t), some (stD s), some (.tup [.int (ruleOf m s).1, .str (r.ends s.2).2])] = [some m.w, some (.str y), some (.tup (ps.map prD)), some (.str w'), some (match a'.getLast? with | none => .non | some p => stD p.2), x5', x6', x7'] ∧ Path m w' (prS b') z :=
          ⟨some (.int t), some (stD s), some (.tup [.int (ruleOf m s).1, .str (r.ends s.2).2]), a ++ [(t, s)], b, (r.ends s.2).2, by rw [e]; simp, rfl, by simp, h4⟩
        cases hq : a.getLast? with
        | none =>
          walk_at "dv"
          exact done
        | some q =>
          obtain ⟨qt, qs⟩ := q
          have sq : PyData.strOk qs.1 = true := by
            obtain ⟨a0, rfl⟩ := List.getLast?_eq_some_iff.mp hq
            have pa : Path m y (prS (a0 ++ (qt, qs) :: (t, s) :: b)) z := by
              rw [show a0 ++ (qt, qs) :: (t, s) :: b = a0 ++ [(qt, qs)] ++ (t, s) :: b by simp, ← e]
              exact hp
            exact pa.str ok (qs, 0) (by simp [prS])
          walk_at "dv"
          refine v_dec (fun ht => ?_) (fun ht => ?_)
          · walk_at "dv"
            refine Pe.of undone_ok ?_
            refine v_eqT so sq ?_
            refine ⟨_, rfl, ?_⟩
            refine v_bF (decide_eq_false fun es => k4 _ hq (by have e2 : s = und qs := es; show qs = und s; rw [e2, und_und]) ht) ?_
            walk_at "dv"
            exact done
          · walk_at "dv"
            exact done
  · rintro en T ⟨rfl, x5, x6, x7, a, b, w, e, ed, rfl, pb⟩
    have hb : b = [] := by simpa using ed.symm
    subst hb
    cases pb
    walk_at "dv"
    first | exact ⟨rfl, rfl⟩ | exact rfl
theorem need_place_ok (ok : m.Ok) {y z : Str} {ps : Pairs} (h : Pl m ps) (hp : Path m y (prS ps) z) (hy : y ∈ m.ys) (hl : ps.length ≤ 200) : m_need_place [m.w, .str y, .tup (ps.map prD)] S = .ok .non S := by
  refine Pe.eq (v_fn ?_)
  unfold b_need_place
  walk_at "dv"
  refine Pe.of (yard_of_ok ok h hp hy hl) ?_
  walk_at "dv"
  first | exact ⟨rfl, rfl⟩ | exact rfl
end
/-! ### a plain row settles to itself -/
section
variable {m : Mod}
theorem stl_unp (ok : m.Ok) (x : Int) : ∀ {ps qs : Pairs}, Pl m (qs ++ ps) → stl m qs (unp x ps).1 (unp x ps).2 = (qs ++ ps, x)
  | [], qs, _ => by
    show (qs, x) = _
    rw [List.append_nil]
  | (r, s) :: ps, qs, h => by
    obtain ⟨k1, k2, k3, k4⟩ := h.at_
    have n0 := (rule_ne ok s).1.1
    obtain ⟨u1, u2⟩ := rest_uni (x := r) (r := r) (y := 0) n0 (by rw [Int.zero_mul, Int.add_zero]) k1 k2
    show stl m qs r ((s, (unp x ps).1) :: (unp x ps).2) = _
    rw [stl_cons, G_push (fun p hp e z => k4 p hp e (by rw [rest_zero n0, u1] at z; exact z)), u2, u1, Int.zero_mul]
    show stl m (qs ++ [(r, s)]) (0 + (unp x ps).1) (unp x ps).2 = _
    rw [Int.zero_add, stl_unp ok x (by rw [List.append_assoc]; exact h), List.append_assoc]
    rfl
end
end Lw
set_option Elab.async false
set_option linter.all false
set_option maxRecDepth 100000
set_option maxHeartbeats 4000000
set_option autoImplicit false
namespace Lw
open PySem Dv
/-! steps of our own words -/
local macro_rules | `(tactic| walk_at "num") => `(tactic| first | assumption | decide | omega)
local macro_rules | `(tactic| walk_at "dv0") => `(tactic| with_reducible first
  | refine v_seq ?_ | refine v_ifS ?_ | refine v_set ?_ | refine v_ret ?_ | refine v_asg ?_ | refine v_par ?_ | refine v_drop ?_ | refine v_nx ?_ | refine v_bk ?_ | refine v_ct ?_ | refine v_retN ?_ | refine v_for ?_
  | refine v_c ?_ | refine v_nil ?_ | refine v_cons ?_ | refine v_op ?_ | refine v_B ?_ | refine v_truth ?_ | refine v_andT ?_ | refine v_orT ?_ | refine v_notT ?_
  | refine v_andV ?_ | refine v_orV ?_ | refine v_notV ?_ | refine v_if ?_ | refine v_neg ?_ | refine v_chain ?_ | refine v_tup ?_ | refine v_lst ?_ | refine v_lstR ?_ | refine v_noPart ?_ | refine v_part ?_ | refine v_sl ?_
  | refine v_CB ?_ | refine v_call ?_ | refine v_abs ?_ | refine v_lc ?_ | refine v_yes ?_ | refine v_it ?_ | refine v_rng1 ?_ | refine v_rng2 ?_ | refine v_rng3 ?_ | refine v_T ?_ | refine v_F ?_
  | refine v_add ?_ | refine v_sub ?_ | refine v_iadd ?_ | refine v_lt ?_ | refine v_le ?_ | refine v_gt ?_ | refine v_ge ?_ | refine v_eqI ?_ | refine v_neI ?_ | refine v_eqB ?_ | refine v_neB ?_)
local macro_rules | `(tactic| walk_at "dv1") => `(tactic| first
  | (with_reducible refine' v_var ?h ?_); (case h => rfl)
  | (with_reducible refine' v_aug ?h ?_); (case h => rfl)
  | (with_reducible refine' v_div ?h1 ?h2 ?_); (case h1 => walk_at "num"); (case h2 => walk_at "num")
  | (with_reducible refine' v_mod ?h1 ?_); (case h1 => walk_at "num")
  | (with_reducible refine' v_pow ?h1 ?_); (case h1 => walk_at "num")
  | (with_reducible refine' v_mulR ?h1 ?_); (case h1 => walk_at "num")
  | (with_reducible refine' v_mulL ?h1 ?_); (case h1 => walk_at "num")
  | (with_reducible refine' v_fin ?h1 ?_); (case h1 => first | exact Or.inl rfl | exact Or.inr rfl | (refine Or.inr ?_; simp only [List.length_set, *]; done))
  | (with_reducible refine' v_ix ?h1 ?_); (case h1 => first | exact ixD_ref (by assumption) (by rfl) | rfl)
  | (with_reducible refine' v_len ?h1 ?_); (case h1 => first | exact lenD_ref (by assumption) | rfl)
  | (with_reducible refine' v_list ?h1 ?_); (case h1 => rfl)
  | (with_reducible refine' v_listR ?h1 ?_); (case h1 => rfl)
  | (with_reducible refine' v_tuple ?h1 ?_); (case h1 => rfl)
  | (with_reducible refine' v_isd ?h1 ?_); (case h1 => rfl)
  | (with_reducible refine' v_isiTy ?h1 ?h2 ?_); (case h1 => rfl); (case h2 => rfl)
  | (with_reducible refine' v_isiT ?h1 ?_); (case h1 => rfl))
local macro_rules | `(tactic| walk_at "dv2") => `(tactic| first
  | refine v_gsub (by rfl) (by rfl) (by assumption) (by rfl) (fun _ _ _ => ?_) | refine ⟨_, rfl, ?_⟩ | (with_reducible refine' ⟨rng_ok ?h1 ?h2, ?_⟩); (case h1 => omega); (case h2 => omega) | refine ⟨rfl, ?_⟩ | refine ⟨_, _, rfl, ?_⟩ | refine ⟨Nat.le_of_ble_eq_true rfl, ?_⟩)
local macro_rules | `(tactic| walk_at "dv3") => `(tactic| first
  | (with_reducible refine' v_dec (fun _ => ?_) (fun hn => absurd ?h hn)); (case h => first | assumption | omega | decide)
  | (with_reducible refine' v_dec (fun hn => absurd hn ?h) (fun _ => ?_)); (case h => first | assumption | omega | decide)
  | (with_reducible refine' v_ndec (fun _ => ?_) (fun hn => absurd hn ?h)); (case h => first | assumption | omega | decide)
  | (with_reducible refine' v_ndec (fun hn => absurd ?h hn) (fun _ => ?_)); (case h => first | assumption | omega | decide)
  | (with_reducible refine' v_bT ?h ?_); (case h => first | assumption | rfl)
  | (with_reducible refine' v_bF ?h ?_); (case h => first | assumption | rfl))
local macro_rules | `(tactic| walk_at "dv4") => `(tactic| with_reducible first
  | refine v_places ?_ | refine v_roads ?_ | refine v_over ?_ | refine v_line ?_ | refine v_spots ?_ | refine v_myards ?_ | refine v_mroads ?_ | refine v_mW (by decide +kernel) ?_ | refine v_mK (by decide +kernel) ?_
  | refine v_itX ?_ | refine v_ev ?_ | refine v_rev ?_ | refine v_zs ?_ | refine v_enum ?_ | refine v_enum2 ?_ | refine v_makeV ?_ | refine v_tryN ?_ | refine v_lc2 ?_ | refine v_fz ?_ | refine v_make ?_ | refine v_fldS ?_)
local macro_rules | `(tactic| walk_at "dv5") => `(tactic| first
  | refine ⟨_, _, rfl, rfl, ?_⟩ | refine ⟨⟨_, _, rfl⟩, ?_⟩ | refine ⟨⟨_, _, _, rfl⟩, ?_⟩ | refine ⟨_, _, _, rfl, ?_⟩ | refine Or.inl ⟨_, rfl, ?_⟩ | refine Or.inr ⟨_, (fun _ z => by cases z), rfl, ?_⟩)
local macro_rules | `(tactic| walk_at "dv") => `(tactic| repeat (first | walk_at "dv0" | walk_at "dv4" | walk_at "dv1" | walk_at "dv3" | walk_at "dv2" | walk_at "dv5"))
/-! ### places as lists: how far, which ways -/
def lcp : Pairs → Pairs → Nat
  | p :: a, q :: b => if p = q then lcp a b + 1 else 0
  | _, _ => 0
theorem lcp_le : ∀ a b : Pairs, lcp a b ≤ a.length ∧ lcp a b ≤ b.length
  | [], b => by cases b <;> exact ⟨Nat.zero_le _, Nat.zero_le _⟩
  | _ :: _, [] => ⟨Nat.zero_le _, Nat.zero_le _⟩
  | p :: a, q :: b => by
    have := lcp_le a b
    unfold lcp
    split
    · rw [List.length_cons, List.length_cons]
      omega
    · exact ⟨Nat.zero_le _, Nat.zero_le _⟩
theorem lcp_comm : ∀ a b : Pairs, lcp a b = lcp b a
  | [], b => by cases b <;> rfl
  | _ :: _, [] => rfl
  | p :: a, q :: b => by
    unfold lcp
    by_cases h : p = q
    · rw [if_pos h, if_pos h.symm, lcp_comm a b]
    · rw [if_neg h, if_neg fun z => h z.symm]
theorem le_lcp : ∀ (k : Nat) (a b : Pairs), k ≤ a.length → k ≤ b.length → a.take k = b.take k → k ≤ lcp a b
  | 0, _, _, _, _, _ => Nat.zero_le _
  | k + 1, [], _, h, _, _ => by simp at h
  | k + 1, _ :: _, [], _, h, _ => by simp at h
  | k + 1, p :: a, q :: b, h1, h2, e => by
    rw [List.take_succ_cons, List.take_succ_cons] at e
    obtain ⟨e1, e2⟩ := List.cons.inj e
    have := le_lcp k a b (by simpa using h1) (by simpa using h2) e2
    unfold lcp
    rw [if_pos e1]
    omega
theorem lcp_take : ∀ (k : Nat) (a b : Pairs), k ≤ a.length → lcp b (a.take k) = min k (lcp b a)
  | 0, a, b, _ => by
    rw [List.take_zero, Nat.zero_min]
    cases b <;> rfl
  | k + 1, [], _, h => by simp at h
  | k + 1, p :: a, [], _ => by
    show 0 = min (k + 1) 0
    omega
  | k + 1, p :: a, q :: b, h => by
    have ih := lcp_take k a b (by simpa using h)
    rw [List.take_succ_cons]
    unfold lcp
    by_cases e : q = p
    · rw [if_pos e, if_pos e, ih]
      omega
    · rw [if_neg e, if_neg e]
      omega
def dst (a b : Pairs) : Int := (a.length : Int) + b.length - 2 * (lcp a b : Int)
theorem dst_comm (a b : Pairs) : dst a b = dst b a := by
  unfold dst
  rw [lcp_comm]
  omega
/-! ### far, way -/
section
variable {m : Mod} {S : Store}
abbrev plD (P : Pairs) : Dt := .tup (P.map prD)
theorem ix_tup {S : Store} {xs : List Dt} {j : Nat} {x : Dt} (h : xs[j]? = some x) : ixD S (.tup xs) (j : Int) = some x := by
  show L2.atI xs (j : Int) = some x
  exact atI_in h
theorem shared_ok {a b : Pairs} (ha : ∀ p ∈ a, PyData.strOk p.2.1 = true) (hb : ∀ p ∈ b, PyData.strOk p.2.1 = true) (hl : a.length ≤ 1000) (hl' : b.length ≤ 1000) : m_shared [plD a, plD b] S = .ok (.int (lcp a b : Nat)) S := by
  refine Pe.eq (v_fn ?_)
  unfold b_shared
  walk_at "dv"
  refine v_while (fun n en T => T = S ∧ ∃ k : Nat, n + k = 100000 ∧ en = [some (plD a), some (plD b), some (.int (k : Nat))] ∧ k ≤ a.length ∧ k ≤ b.length ∧ lcp a b = lcp (a.drop k) (b.drop k) + k)
    ⟨rfl, 0, rfl, rfl, Nat.zero_le _, Nat.zero_le _, rfl⟩ ?_
  rintro n en T ⟨rfl, k, hn, rfl, h1, h2, h3⟩
  refine ⟨n - 1, by omega, ?_⟩
  have la : (a.map prD).length = a.length := List.length_map ..
  have lb : (b.map prD).length = b.length := List.length_map ..
  have stop : lcp (a.drop k) (b.drop k) = 0 → lcp a b = k := fun z => by rw [h3, z, Nat.zero_add]
  walk_at "dv"
  rw [la]
  refine v_dec (fun k1 => ?_) (fun k1 => ?_)
  · walk_at "dv"
    rw [lb]
    refine v_dec (fun k2 => ?_) (fun k2 => ?_)
    · have q1 : k < a.length := by omega
      have q2 : k < b.length := by omega
      walk_at "dv"
      refine v_ix (ix_tup (x := prD a[k]) (by simp [q1])) ?_
      walk_at "dv"
      refine v_ix (ix_tup (x := prD b[k]) (by simp [q2])) ?_
      have s1 := ha _ (List.getElem_mem q1)
      have s2 := hb _ (List.getElem_mem q2)
      refine v_eqB (b := decide (a[k] = b[k])) (okD_pr s1 10) (okD_pr s2 10) (eqD_pr _ _) ?_
      refine ⟨_, rfl, ?_⟩
      have e1 := List.drop_eq_getElem_cons q1
      have e2 := List.drop_eq_getElem_cons q2
      refine v_dec (fun e => ?_) (fun e => ?_)
      · walk_at "dv"
        refine ⟨k + 1, by omega, rfl, by omega, by omega, ?_⟩
        rw [h3, e1, e2]
        have el : lcp (a[k] :: a.drop (k + 1)) (b[k] :: b.drop (k + 1)) = lcp (a.drop (k + 1)) (b.drop (k + 1)) + 1 := if_pos e
        rw [el]
        omega
      · walk_at "dv"
        have : lcp a b = k := stop (by
          rw [e1, e2]
          exact if_neg e)
        rw [this]
        first | exact ⟨rfl, rfl⟩ | exact rfl
    · walk_at "dv"
      have : lcp a b = k := stop (by
        have : b.drop k = [] := List.drop_eq_nil_iff.mpr (by omega)
        rw [this]
        cases a.drop k <;> rfl)
      rw [this]
      first | exact ⟨rfl, rfl⟩ | exact rfl
  · walk_at "dv"
    have : lcp a b = k := stop (by
      have : a.drop k = [] := List.drop_eq_nil_iff.mpr (by omega)
      rw [this]
      rfl)
    rw [this]
    first | exact ⟨rfl, rfl⟩ | exact rfl
/-- a place of the tree from y -/
structure Plc (m : Mod) (y : Str) (a : Pairs) : Prop where
  pl : Pl m a
  way : ∃ z, Path m y (prS a) z
theorem Plc.str {y : Str} {a : Pairs} (h : Plc m y a) (ok : m.Ok) : ∀ p ∈ a, PyData.strOk p.2.1 = true := fun p hp => by
  obtain ⟨z, hz⟩ := h.way
  exact hz.str ok (p.2, 0) (List.mem_map_of_mem hp)
theorem Plc.take {y : Str} {a : Pairs} (h : Plc m y a) (k : Nat) : Plc m y (a.take k) := by
  refine ⟨h.pl.pre (b := a.drop k) (List.take_append_drop k a).symm, ?_⟩
  obtain ⟨z, hz⟩ := h.way
  rw [← List.take_append_drop k a, prS_app] at hz
  obtain ⟨w, h1, _⟩ := hz.split
  exact ⟨w, h1⟩
theorem far_ok (ok : m.Ok) {y : Str} {a b : Pairs} (ha : Plc m y a) (hb : Plc m y b) (hy : y ∈ m.ys) (hl : a.length ≤ 200) (hl' : b.length ≤ 200) : m_far [m.w, .str y, plD a, plD b] S = .ok (.int (dst a b)) S := by
  obtain ⟨za, pa⟩ := ha.way
  obtain ⟨zb, pb⟩ := hb.way
  have la : (a.map prD).length = a.length := List.length_map ..
  have lb : (b.map prD).length = b.length := List.length_map ..
  refine Pe.eq (v_fn ?_)
  unfold b_far
  walk_at "dv"
  refine Pe.of (need_place_ok ok ha.pl pa hy hl) ?_
  walk_at "dv"
  refine Pe.of (need_place_ok ok hb.pl pb hy hl') ?_
  walk_at "dv"
  refine Pe.of (shared_ok (ha.str ok) (hb.str ok) (by omega) (by omega)) ?_
  walk_at "dv"
  rw [la, lb]
  first | exact ⟨rfl, rfl⟩ | exact rfl
end
end Lw
set_option Elab.async false
set_option linter.all false
set_option maxRecDepth 100000
set_option maxHeartbeats 4000000
set_option autoImplicit false
namespace Lw
open PySem Dv
/-! steps of our own words -/
local macro_rules | `(tactic| walk_at "num") => `(tactic| first | assumption | decide | omega)
local macro_rules | `(tactic| walk_at "dv0") => `(tactic| with_reducible first
  | refine v_seq ?_ | refine v_ifS ?_ | refine v_set ?_ | refine v_ret ?_ | refine v_asg ?_ | refine v_par ?_ | refine v_drop ?_ | refine v_nx ?_ | refine v_bk ?_ | refine v_ct ?_ | refine v_retN ?_ | refine v_for ?_
  | refine v_c ?_ | refine v_nil ?_ | refine v_cons ?_ | refine v_op ?_ | refine v_B ?_ | refine v_truth ?_ | refine v_andT ?_ | refine v_orT ?_ | refine v_notT ?_
  | refine v_andV ?_ | refine v_orV ?_ | refine v_notV ?_ | refine v_if ?_ | refine v_neg ?_ | refine v_chain ?_ | refine v_tup ?_ | refine v_lst ?_ | refine v_lstR ?_ | refine v_noPart ?_ | refine v_part ?_ | refine v_sl ?_
  | refine v_CB ?_ | refine v_call ?_ | refine v_abs ?_ | refine v_lc ?_ | refine v_yes ?_ | refine v_it ?_ | refine v_rng1 ?_ | refine v_rng2 ?_ | refine v_rng3 ?_ | refine v_T ?_ | refine v_F ?_
  | refine v_add ?_ | refine v_sub ?_ | refine v_iadd ?_ | refine v_lt ?_ | refine v_le ?_ | refine v_gt ?_ | refine v_ge ?_ | refine v_eqI ?_ | refine v_neI ?_ | refine v_eqB ?_ | refine v_neB ?_)
local macro_rules | `(tactic| walk_at "dv1") => `(tactic| first
  | (with_reducible refine' v_var ?h ?_); (case h => rfl)
  | (with_reducible refine' v_aug ?h ?_); (case h => rfl)
  | (with_reducible refine' v_div ?h1 ?h2 ?_); (case h1 => walk_at "num"); (case h2 => walk_at "num")
  | (with_reducible refine' v_mod ?h1 ?_); (case h1 => walk_at "num")
  | (with_reducible refine' v_pow ?h1 ?_); (case h1 => walk_at "num")
  | (with_reducible refine' v_mulR ?h1 ?_); (case h1 => walk_at "num")
  | (with_reducible refine' v_mulL ?h1 ?_); (case h1 => walk_at "num")
  | (with_reducible refine' v_fin ?h1 ?_); (case h1 => first | exact Or.inl rfl | exact Or.inr rfl | (refine Or.inr ?_; simp only [List.length_set, *]; done))
  | (with_reducible refine' v_ix ?h1 ?_); (case h1 => first | exact ixD_ref (by assumption) (by rfl) | rfl)
  | (with_reducible refine' v_len ?h1 ?_); (case h1 => first | exact lenD_ref (by assumption) | rfl)
  | (with_reducible refine' v_list ?h1 ?_); (case h1 => rfl)
  | (with_reducible refine' v_listR ?h1 ?_); (case h1 => rfl)
  | (with_reducible refine' v_tuple ?h1 ?_); (case h1 => rfl)
  | (with_reducible refine' v_isd ?h1 ?_); (case h1 => rfl)
  | (with_reducible refine' v_isiTy ?h1 ?h2 ?_); (case h1 => rfl); (case h2 => rfl)
  | (with_reducible refine' v_isiT ?h1 ?_); (case h1 => rfl))
local macro_rules | `(tactic| walk_at "dv2") => `(tactic| first
  | refine v_gsub (by rfl) (by rfl) (by assumption) (by rfl) (fun _ _ _ => ?_) | refine ⟨_, rfl, ?_⟩ | (with_reducible refine' ⟨rng_ok ?h1 ?h2, ?_⟩); (case h1 => omega); (case h2 => omega) | refine ⟨rfl, ?_⟩ | refine ⟨_, _, rfl, ?_⟩ | refine ⟨Nat.le_of_ble_eq_true rfl, ?_⟩)
local macro_rules | `(tactic| walk_at "dv3") => `(tactic| first
  | (with_reducible refine' v_dec (fun _ => ?_) (fun hn => absurd ?h hn)); (case h => first | assumption | omega | decide)
  | (with_reducible refine' v_dec (fun hn => absurd hn ?h) (fun _ => ?_)); (case h => first | assumption | omega | decide)
  | (with_reducible refine' v_ndec (fun _ => ?_) (fun hn => absurd hn ?h)); (case h => first | assumption | omega | decide)
  | (with_reducible refine' v_ndec (fun hn => absurd ?h hn) (fun _ => ?_)); (case h => first | assumption | omega | decide)
  | (with_reducible refine' v_bT ?h ?_); (case h => first | assumption | rfl)
  | (with_reducible refine' v_bF ?h ?_); (case h => first | assumption | rfl))
local macro_rules | `(tactic| walk_at "dv4") => `(tactic| with_reducible first
  | refine v_places ?_ | refine v_roads ?_ | refine v_over ?_ | refine v_line ?_ | refine v_spots ?_ | refine v_myards ?_ | refine v_mroads ?_ | refine v_mW (by decide +kernel) ?_ | refine v_mK (by decide +kernel) ?_
  | refine v_itX ?_ | refine v_ev ?_ | refine v_rev ?_ | refine v_zs ?_ | refine v_enum ?_ | refine v_enum2 ?_ | refine v_makeV ?_ | refine v_tryN ?_ | refine v_lc2 ?_ | refine v_fz ?_ | refine v_make ?_ | refine v_fldS ?_)
local macro_rules | `(tactic| walk_at "dv5") => `(tactic| first
  | refine ⟨_, _, rfl, rfl, ?_⟩ | refine ⟨⟨_, _, rfl⟩, ?_⟩ | refine ⟨⟨_, _, _, rfl⟩, ?_⟩ | refine ⟨_, _, _, rfl, ?_⟩ | refine Or.inl ⟨_, rfl, ?_⟩ | refine Or.inr ⟨_, (fun _ z => by cases z), rfl, ?_⟩)
local macro_rules | `(tactic| walk_at "dv") => `(tactic| repeat (first | walk_at "dv0" | walk_at "dv4" | walk_at "dv1" | walk_at "dv3" | walk_at "dv2" | walk_at "dv5"))
/-! ### the law's own joining -/
theorem law_join_ok {S : Store} {t t' : Int} {l l' : Seg} (hl : l.length ≤ 100000) (hl' : l'.length ≤ 100000) : m_law_join [.lst (rowD t l), .lst (rowD t' l')] S = .ok (.lst (rowD (jn t l t' l').1 (jn t l t' l').2)) S := by
  refine Pe.eq (v_fn ?_)
  unfold b_law_join
  walk_at "dv"
  refine v_ix (row_lastT _ _) ?_
  walk_at "dv"
  refine v_ix (ix_zero _ _) ?_
  walk_at "dv"
  dsimp only
  rw [lastT_pre]
  have pl := preD_len t l
  have sl := segD_len l'
  refine v_addL (by rw [pl]; simp; omega) ?_
  walk_at "dv"
  dsimp only
  rw [cut_one]
  refine v_addL (by rw [List.length_append, pl, sl]; simp; omega) ?_
  rw [row_jn]
  walk_at "dv"
  first | exact ⟨rfl, rfl⟩ | exact rfl
end Lw
set_option Elab.async false
set_option linter.all false
set_option maxRecDepth 100000
set_option maxHeartbeats 4000000
set_option autoImplicit false
namespace Lw
open PySem Dv
/-! steps of our own words -/
local macro_rules | `(tactic| walk_at "num") => `(tactic| first | assumption | decide | omega)
local macro_rules | `(tactic| walk_at "dv0") => `(tactic| with_reducible first
  | refine v_seq ?_ | refine v_ifS ?_ | refine v_set ?_ | refine v_ret ?_ | refine v_asg ?_ | refine v_par ?_ | refine v_drop ?_ | refine v_nx ?_ | refine v_bk ?_ | refine v_ct ?_ | refine v_retN ?_ | refine v_for ?_
  | refine v_c ?_ | refine v_nil ?_ | refine v_cons ?_ | refine v_op ?_ | refine v_B ?_ | refine v_truth ?_ | refine v_andT ?_ | refine v_orT ?_ | refine v_notT ?_
  | refine v_andV ?_ | refine v_orV ?_ | refine v_notV ?_ | refine v_if ?_ | refine v_neg ?_ | refine v_chain ?_ | refine v_tup ?_ | refine v_lst ?_ | refine v_lstR ?_ | refine v_noPart ?_ | refine v_part ?_ | refine v_sl ?_
  | refine v_CB ?_ | refine v_call ?_ | refine v_abs ?_ | refine v_lc ?_ | refine v_yes ?_ | refine v_it ?_ | refine v_rng1 ?_ | refine v_rng2 ?_ | refine v_rng3 ?_ | refine v_T ?_ | refine v_F ?_
  | refine v_add ?_ | refine v_sub ?_ | refine v_iadd ?_ | refine v_lt ?_ | refine v_le ?_ | refine v_gt ?_ | refine v_ge ?_ | refine v_eqI ?_ | refine v_neI ?_ | refine v_eqB ?_ | refine v_neB ?_)
local macro_rules | `(tactic| walk_at "dv1") => `(tactic| first
  | (with_reducible refine' v_var ?h ?_); (case h => rfl)
  | (with_reducible refine' v_aug ?h ?_); (case h => rfl)
  | (with_reducible refine' v_div ?h1 ?h2 ?_); (case h1 => walk_at "num"); (case h2 => walk_at "num")
  | (with_reducible refine' v_mod ?h1 ?_); (case h1 => walk_at "num")
  | (with_reducible refine' v_pow ?h1 ?_); (case h1 => walk_at "num")
  | (with_reducible refine' v_mulR ?h1 ?_); (case h1 => walk_at "num")
  | (with_reducible refine' v_mulL ?h1 ?_); (case h1 => walk_at "num")
  | (with_reducible refine' v_fin ?h1 ?_); (case h1 => first | exact Or.inl rfl | exact Or.inr rfl | (refine Or.inr ?_; simp only [List.length_set, *]; done))
  | (with_reducible refine' v_ix ?h1 ?_); (case h1 => first | exact ixD_ref (by assumption) (by rfl) | rfl)
  | (with_reducible refine' v_len ?h1 ?_); (case h1 => first | exact lenD_ref (by assumption) | rfl)
  | (with_reducible refine' v_list ?h1 ?_); (case h1 => rfl)
  | (with_reducible refine' v_listR ?h1 ?_); (case h1 => rfl)
  | (with_reducible refine' v_tuple ?h1 ?_); (case h1 => rfl)
  | (with_reducible refine' v_isd ?h1 ?_); (case h1 => rfl)
  | (with_reducible refine' v_isiTy ?h1 ?h2 ?_); (case h1 => rfl); (case h2 => rfl)
  | (with_reducible refine' v_isiT ?h1 ?_); (case h1 => rfl))
local macro_rules | `(tactic| walk_at "dv2") => `(tactic| first
  | refine v_gsub (by rfl) (by rfl) (by assumption) (by rfl) (fun _ _ _ => ?_) | refine ⟨_, rfl, ?_⟩ | (with_reducible refine' ⟨rng_ok ?h1 ?h2, ?_⟩); (case h1 => omega); (case h2 => omega) | refine ⟨rfl, ?_⟩ | refine ⟨_, _, rfl, ?_⟩ | refine ⟨Nat.le_of_ble_eq_true rfl, ?_⟩)
local macro_rules | `(tactic| walk_at "dv3") => `(tactic| first
  | (with_reducible refine' v_dec (fun _ => ?_) (fun hn => absurd ?h hn)); (case h => first | assumption | omega | decide)
  | (with_reducible refine' v_dec (fun hn => absurd hn ?h) (fun _ => ?_)); (case h => first | assumption | omega | decide)
  | (with_reducible refine' v_ndec (fun _ => ?_) (fun hn => absurd hn ?h)); (case h => first | assumption | omega | decide)
  | (with_reducible refine' v_ndec (fun hn => absurd ?h hn) (fun _ => ?_)); (case h => first | assumption | omega | decide)
  | (with_reducible refine' v_bT ?h ?_); (case h => first | assumption | rfl)
  | (with_reducible refine' v_bF ?h ?_); (case h => first | assumption | rfl))
local macro_rules | `(tactic| walk_at "dv4") => `(tactic| with_reducible first
  | refine v_places ?_ | refine v_roads ?_ | refine v_over ?_ | refine v_line ?_ | refine v_spots ?_ | refine v_myards ?_ | refine v_mroads ?_ | refine v_mW (by decide +kernel) ?_ | refine v_mK (by decide +kernel) ?_
  | refine v_itX ?_ | refine v_ev ?_ | refine v_rev ?_ | refine v_zs ?_ | refine v_enum ?_ | refine v_enum2 ?_ | refine v_makeV ?_ | refine v_tryN ?_ | refine v_lc2 ?_ | refine v_fz ?_ | refine v_make ?_ | refine v_fldS ?_)
local macro_rules | `(tactic| walk_at "dv5") => `(tactic| first
  | refine ⟨_, _, rfl, rfl, ?_⟩ | refine ⟨⟨_, _, rfl⟩, ?_⟩ | refine ⟨⟨_, _, _, rfl⟩, ?_⟩ | refine ⟨_, _, _, rfl, ?_⟩ | refine Or.inl ⟨_, rfl, ?_⟩ | refine Or.inr ⟨_, (fun _ z => by cases z), rfl, ?_⟩)
local macro_rules | `(tactic| walk_at "dv") => `(tactic| repeat (first | walk_at "dv0" | walk_at "dv4" | walk_at "dv1" | walk_at "dv3" | walk_at "dv2" | walk_at "dv5"))
/-! ### the steps that a web tells -/
theorem Ps.imp {r : RS} {QS QS' : Fl → Dv.Env → Store → Prop} {XS XS' : Ex → Dv.Env → Store → Prop} (h : Ps r QS XS) (hq : ∀ f e S, QS f e S → QS' f e S) (hx : ∀ x e S, XS x e S → XS' x e S) : Ps r QS' XS' := by
  cases r with
  | ok f e S => exact hq _ _ _ h
  | err x e S => exact hx _ _ _ h
  | stuck => exact h.elim
section
variable {m : Mod} {S : Store}
theorem web_steps_b (ok : m.Ok) {y : Str} (hy : y ∈ m.ys) : Ps (b_Web_steps_from [some m.w, some (.str y), none, none, none, none, none] S) (fun f _ T => f = .rt (.ref S.length) ∧ T = S ++ [.lst ((stepsOf y m.rs).map stD)]) (fun _ _ _ => False) := by
  have hs := ok.sy y hy
  unfold b_Web_steps_from
  walk_at "dv"
  refine Pe.of (need_yard_ok hy) ?_
  walk_at "dv"
  refine v_loop (fun ds en T => ∃ (x3 x4 x5 x6 : Option Dt) (a b : List Road), en = [some m.w, some (.str y), some (.ref S.length), x3, x4, x5, x6] ∧ m.rs = a ++ b ∧ ds = b.map Road.d ∧ T = S ++ [.lst ((stepsOf y a).map stD)]) ⟨_, _, _, _, [], m.rs, rfl, rfl, rfl, rfl⟩ ?_ ?_
  · rintro d ds en T ⟨x3, x4, x5, x6, a, b, rfl, el, e2, rfl⟩
    cases b with
    | nil => cases e2
    | cons r b =>
      obtain ⟨rfl, rfl⟩ := List.cons.inj e2
      have hr : r ∈ m.rs := by rw [el]; simp
      have hle : (stepsOf y a).length ≤ 100 := by
        have h1 : a.length ≤ 8 := by
          have := ok.lr
          rw [el, List.length_append] at this
          omega
        have := stepsOf_len (y := y) a
        omega
      refine ⟨_, _, rfl, ?_⟩
      have second : ∀ (l1 : List Step), l1 = (if r.b = y then [(r.n, (1 : Int))] else []) → l1.length ≤ 1 → Ps (mIfS (mB (mOp mEq (mVar 5) (mVar 1))) (mDrop (mApp1 (mVar 2) (mTup (mCons (mVar 3) (mCons (mNeg (mC (.int 1))) mNil))))) mNx [some m.w, some (.str y), some (.ref S.length), some (.str r.n), some (.str r.b), some (.str r.e), some (.lst [.int r.h, .int r.t])] (S ++ [.lst ((stepsOf y a ++ l1).map stD)]))
          (fun f e2 S2 => match f with | .nx => ∃ (x3 x4 x5 x6 : Option Dt) (a b' : List Road), e2 = [some m.w, some (.str y), some (.ref S.length), x3, x4, x5, x6] ∧ m.rs = a ++ b' ∧ b.map Road.d = b'.map Road.d ∧ S2 = S ++ [.lst ((stepsOf y a).map stD)] | _ => False) (fun _ _ _ => False) := by
        intro l1 el1 hl1
        walk_at "dv"
        refine v_eqS (ok.sr r hr).2.2 hs ?_
        refine ⟨_, rfl, ?_⟩
        refine v_dec (fun e => ?_) (fun e => ?_)
        · walk_at "dv"
          refine v_app1K rfl last_at ?_
          walk_at "dv"
          refine ⟨_, last_at, by rw [List.length_map, List.length_append]; omega, ?_⟩
          refine ⟨_, _, _, _, a ++ [r], b, rfl, by rw [el]; simp, rfl, ?_⟩
          rw [set_last]
          have z : stepsOf y (a ++ [r]) = stepsOf y a ++ l1 ++ [(r.n, (-1 : Int))] := by
            unfold stepsOf
            rw [List.flatMap_append, List.flatMap_cons, List.flatMap_nil, List.append_nil, if_pos e, el1, List.append_assoc]
          rw [z]
          simp only [List.map_append, List.map_cons, List.map_nil]
        · walk_at "dv"
          refine ⟨_, _, _, _, a ++ [r], b, rfl, by rw [el]; simp, rfl, ?_⟩
          have z : stepsOf y (a ++ [r]) = stepsOf y a ++ l1 := by
            unfold stepsOf
            rw [List.flatMap_append, List.flatMap_cons, List.flatMap_nil, List.append_nil, if_neg e, el1, List.append_nil]
          rw [z]
      have fin2 : ∀ {r : RS} {P : Dv.Env → Store → Prop} {QS : Fl → Dv.Env → Store → Prop} {XS : Ex → Dv.Env → Store → Prop}, Ps r (fun f e2 S2 => match f with | .nx => P e2 S2 | _ => False) (fun _ _ _ => False) → (∀ e2 S2, P e2 S2 → QS .nx e2 S2) → Ps r QS XS := by
        intro r P QS XS h hq
        cases r with
        | stuck => exact h.elim
        | err x e s => exact h.elim
        | ok f e s =>
          cases f with
          | nx => exact hq _ _ h
          | _ => exact h.elim
      walk_at "dv"
      refine v_eqS (ok.sr r hr).2.1 hs ?_
      refine ⟨_, rfl, ?_⟩
      refine v_dec (fun e => ?_) (fun e => ?_)
      · walk_at "dv"
        refine v_app1K rfl last_at ?_
        walk_at "dv"
        refine ⟨_, last_at, by rw [List.length_map]; omega, ?_⟩
        rw [set_last]
        have h := second [(r.n, 1)] (by rw [if_pos e]) (Nat.le_refl _)
        rw [List.map_append] at h
        exact fin2 h fun _ _ z => z
      · walk_at "dv0"
        have h := second [] (by rw [if_neg e]) (Nat.zero_le _)
        rw [List.append_nil] at h
        exact fin2 h fun _ _ z => z
  · rintro en T ⟨x3, x4, x5, x6, a, b, rfl, el, e2, rfl⟩
    have hb : b = [] := by simpa using e2.symm
    subst hb
    rw [List.append_nil] at el
    rw [← el]
    walk_at "dv"
    first | exact ⟨rfl, rfl⟩ | exact rfl
end
section
variable {m : Mod} {S : Store} {en : Dv.Env}
theorem web_steps_ok (ok : m.Ok) (hp : PureS S) {y : Str} (hy : y ∈ m.ys) : m_Web_steps_from [m.w, .str y] S = .ok (.lst ((stepsOf y m.rs).map stD)) S := by
  refine Pe.eq (v_fn (Ps.imp (web_steps_b ok hy) (fun f en T h => ?_) fun _ _ _ h => h.elim))
  obtain ⟨rfl, rfl⟩ := h
  exact v_finJ Jz.refl.push hp last_at (Nat.le_refl _) (steps_pure _ 10) ⟨rfl, rfl⟩
end
/-! ### k07: the law -/
theorem cut_init {α : Type} (xs : List α) : cutA xs none (some (-1)) = xs.dropLast := by
  unfold cutA
  simp only [HT.sIx]
  rw [if_pos (by decide), List.drop_zero, Nat.sub_zero, List.dropLast_eq_take]
  congr 1
  omega
/-! ### the places beside a place -/
section
variable {m : Mod} {S : Store}
theorem cut_lastD (xs : List Dt) (d : Dt) : cutA (xs ++ [d]) none (some (-1)) = xs := by
  rw [cut_init]
  simp
theorem atI_lastD (xs : List Dt) (d : Dt) : L2.atI (xs ++ [d]) (-1) = some d := last_ix (by simp)
/-- the place beside, by a step behind so many turns -/
abbrev nbE (m : Mod) (P : Pairs) (s : Step) (j : Nat) : Pairs := (G m s P j).1
def nbL (m : Mod) (P : Pairs) (s : Step) : List Pairs := (List.range (ruleOf m s).1.natAbs).map (nbE m P s)
def nbs (m : Mod) (P : Pairs) (ss : List Step) : List Pairs := ss.flatMap (nbL m P)
theorem nb_push {P : Pairs} {s : Step} {j : Nat} (hj : j < (ruleOf m s).1.natAbs) (h : ∀ p, P.getLast? = some p → p.2 = und s → j ≠ 0) : nbE m P s j = P ++ [((j : Int), s)] := by
  have n0 : (ruleOf m s).1 ≠ 0 := by omega
  obtain ⟨u1, u2⟩ := rest_uni (x := (j : Int)) (r := (j : Int)) (y := 0) n0 (by rw [Int.zero_mul, Int.add_zero]) (by omega) (by omega)
  show (G m s P j).1 = _
  rw [G_push (fun p hp e z => h p hp e (by rw [rest_zero n0, u1] at z; omega)), u1]
theorem nb_pop {P : Pairs} {s : Step} {r : Int} : nbE m (P ++ [(r, und s)]) s 0 = P := by
  show (G m s (P ++ [(r, und s)]) 0).1 = _
  rw [G_pop (Int.zero_fmod _)]
theorem nbE_len (P : Pairs) (s : Step) (j : Nat) : (nbE m P s j).length ≤ P.length + 1 := stl1_len (ruleOf m s) P j s
theorem nbE_str {P : Pairs} {s : Step} {j : Nat} (hP : ∀ p ∈ P, PyData.strOk p.2.1 = true) (hs : PyData.strOk s.1 = true) : ∀ p ∈ nbE m P s j, PyData.strOk p.2.1 = true := fun p hp => by
  rcases stl1_mem (h := ruleOf m s) hp with h | h
  · exact hP p h
  · rw [h]; exact hs
theorem pl_pure (a : Pairs) (k : Nat) : noRef (k + 3) (plD a) = true := by
  show (a.map prD).all (noRef (k + 2)) = true
  exact all_map fun p _ => by simp [prD, noRef, stD]
theorem pls_pure (L : List Pairs) : (L.map plD).all (noRef 11) = true := all_map fun a _ => pl_pure a 8
theorem nbL_take {P : Pairs} {s : Step} {j : Nat} (hj : j < (ruleOf m s).1.natAbs) : (nbL m P s).take (j + 1) = (nbL m P s).take j ++ [nbE m P s j] := by
  unfold nbL
  rw [← List.map_take, ← List.map_take, List.take_range, List.take_range, Nat.min_eq_left (by omega), Nat.min_eq_left (by omega), List.range_succ, List.map_append]
  rfl
theorem nbL_all (P : Pairs) (s : Step) {j : Nat} (hj : (ruleOf m s).1.natAbs ≤ j) : (nbL m P s).take j = nbL m P s := List.take_of_length_le (by unfold nbL; simp; omega)
theorem nbL_len (P : Pairs) (s : Step) : (nbL m P s).length = (ruleOf m s).1.natAbs := by simp [nbL]
theorem nbs_len (ok : m.Ok) (P : Pairs) : ∀ ss : List Step, (nbs m P ss).length ≤ 99 * ss.length
  | [] => Nat.le_refl _
  | s :: ss => by
    have := nbs_len ok P ss
    have r := (rule_ne ok s).1.2
    show (nbL m P s ++ nbs m P ss).length ≤ _
    rw [List.length_append, nbL_len, List.length_cons]
    omega
theorem neighbours_ok (ok : m.Ok) (hp : PureS S) {y z : Str} {P : Pairs} (h : Pl m P) (pz : Path m y (prS P) z) (hl : P.length ≤ 200) (hy : y ∈ m.ys) : m_neighbours [m.w, .str y, plD P] S = .ok (.ref S.length) (S ++ [.lst ((nbs m P (stepsOf z m.rs)).map plD)]) := by
  have hz : z ∈ m.ys := pz.to_in ok hy
  have hstr : ∀ p ∈ P, PyData.strOk p.2.1 = true := fun p hp => pz.str ok (p.2, 0) (List.mem_map_of_mem hp)
  have hlr := ok.lr
  have hsl := stepsOf_len (y := z) m.rs
  refine Pe.eq (v_fn ?_)
  unfold b_neighbours
  walk_at "dv"
  have p1 : PureS (S ++ [Ob.lst []]) := hp.push rfl
  refine Pe.of (yard_of_ok ok h pz hy hl) ?_
  walk_at "dv"
  refine Pe.of (web_steps_ok ok p1 hz) ?_
  refine ⟨_, rfl, ?_⟩
  refine v_loop (fun ds en T => ∃ (x4 x5 : Option Dt) (s1 ss : List Step), ds = ss.map stD ∧ stepsOf z m.rs = s1 ++ ss ∧ en = [some m.w, some (.str y), some (plD P), some (.ref S.length), x4, x5] ∧ T = S ++ [.lst ((nbs m P s1).map plD)])
    ⟨_, _, [], stepsOf z m.rs, rfl, rfl, rfl, rfl⟩ ?_ ?_
  · rintro d ds en T ⟨x4, x5, s1, ss, e, es, rfl, rfl⟩
    cases ss with
    | nil => cases e
    | cons s ss =>
      obtain ⟨rfl, rfl⟩ := List.cons.inj e
      obtain ⟨r, hr, hw, hb⟩ := stepsOf_mem ok (s := s) (by rw [es]; simp)
      have rb := rule_b ok hr s.2
      have er : ruleOf m s = r.rule s.2 := ruleOf_road hr
      have so : PyData.strOk s.1 = true := by
        obtain ⟨hri, e⟩ := road_in hr
        rw [← e]
        exact (ok.sr r hri).1
      have hN := nbs_len ok P s1
      have hs1 : s1.length ≤ 16 := by
        have := congrArg List.length es
        rw [List.length_append] at this
        omega
      refine ⟨_, _, rfl, ?_⟩
      walk_at "dv"
      refine Pe.of (web_rule_ok ok hr hw) ?_
      walk_at "dv"
      rw [abs_if]
      rw [Int.toNat_natCast]
      refine v_loop (fun ds en T => ∃ (x5 : Option Dt) (j : Nat), ds = (rangeD 0 (r.rule s.2).1.natAbs).drop j ∧ j ≤ 99 ∧ en = [some m.w, some (.str y), some (plD P), some (.ref S.length), some (stD s), x5] ∧ T = S ++ [.lst ((nbs m P s1 ++ (nbL m P s).take j).map plD)])
        ⟨_, 0, rfl, by omega, rfl, by simp⟩ ?_ ?_
      · rintro d ds en T ⟨x5, j, e, hj, rfl, rfl⟩
        have hlt : j < (r.rule s.2).1.natAbs := by
          by_cases c : j < (r.rule s.2).1.natAbs
          · exact c
          · rw [List.drop_of_length_le (by simp [rangeD]; omega)] at e
            cases e
        rw [rangeD_drop hlt] at e
        obtain ⟨rfl, rfl⟩ := List.cons.inj e
        have hlt' : j < (ruleOf m s).1.natAbs := by rw [er]; exact hlt
        have hlen : ((nbs m P s1 ++ (nbL m P s).take j).map plD).length < 1000000 := by
          rw [List.length_map, List.length_append, List.length_take]
          omega
        have nxt : ∀ Q : Pairs, nbE m P s j = Q → ∃ (x5 : Option Dt) (j' : Nat), (rangeD 0 (r.rule s.2).1.natAbs).drop (j + 1) = (rangeD 0 (r.rule s.2).1.natAbs).drop j' ∧ j' ≤ 99 ∧ [some m.w, some (.str y), some (plD P), some (.ref S.length), some (stD s), some (.int j)] = [some m.w, some (.str y), some (plD P), some (.ref S.length), some (stD s), x5] ∧ S ++ [.lst ((nbs m P s1 ++ (nbL m P s).take j).map plD ++ [plD Q])] = S ++ [.lst ((nbs m P s1 ++ (nbL m P s).take j').map plD)] := fun Q e => by
          refine ⟨_, j + 1, rfl, by omega, rfl, ?_⟩
          rw [nbL_take hlt', ← List.append_assoc, List.map_append (l₂ := [nbE m P s j]), e]
          rfl
        have add : ∀ {QS : Fl → Dv.Env → Store → Prop} {XS : Ex → Dv.Env → Store → Prop}, QS .nx [some m.w, some (.str y), some (plD P), some (.ref S.length), some (stD s), some (.int j)] (S ++ [.lst ((nbs m P s1 ++ (nbL m P s).take j).map plD ++ [plD (P ++ [((j : Int), s)])])]) →
            Ps (mDrop (mApp1 (mVar 3) (mOp mAdd (mVar 2) (mTup (mCons (mTup (mCons (mVar 5) (mCons (mVar 4) mNil))) mNil)))) [some m.w, some (.str y), some (plD P), some (.ref S.length), some (stD s), some (.int j)] (S ++ [.lst ((nbs m P s1 ++ (nbL m P s).take j).map plD)])) QS XS := by
          intro QS XS q
          refine v_drop (v_app1K rfl last_at ?_)
          refine v_op (v_var rfl (v_tup (v_cons (v_tup (v_cons (v_var rfl (v_cons (v_var rfl (v_nil ⟨Nat.le_of_ble_eq_true rfl, v_nil ⟨Nat.le_of_ble_eq_true rfl, ?_⟩⟩)))))))))
          refine v_addT (by simp; omega) ?_
          refine ⟨_, last_at, hlen, ?_⟩
          rw [set_last]
          have eq0 : plD (P ++ [((j : Int), s)]) = Dt.tup (P.map prD ++ [prD ((j : Int), s)]) := congrArg Dt.tup (by simp)
          rw [eq0] at q
          exact q
        refine ⟨_, _, rfl, ?_⟩
        refine v_ifS (v_andT (v_B (v_op (v_var rfl (v_c (v_eqI ⟨_, rfl, ?_⟩))))))
        refine v_dec (fun c0 => ?_) (fun c0 => ?_)
        · have j0 : j = 0 := by omega
          subst j0
          have ne : ∀ {Q : Dt → Store → Prop} {X : Ex → Store → Prop} {T : Store}, Q (.bl (!decide (P = []))) T → Pe (mNe (plD P) (.tup []) T) Q X := by
            intro Q X T q
            refine v_ifok ⟨sok_ok 12 _ (sok_prs hstr (by omega) 8).2, rfl⟩ ?_
            have e : eqD (plD P) (.tup []) = decide (P = []) := by cases P <;> rfl
            show Q (.bl (!eqD (plD P) (.tup []))) _
            rw [e]
            exact q
          refine v_andT (v_B (v_op (v_var rfl (v_tup (v_nil ⟨Nat.le_of_ble_eq_true rfl, ne ⟨_, rfl, ?_⟩⟩)))))
          refine v_ndec (fun hne => ?_) (fun hne => ?_)
          · obtain ⟨P0, q, rfl⟩ : ∃ P0 q, P = P0 ++ [q] := ⟨P.dropLast, P.getLast hne, (List.dropLast_concat_getLast hne).symm⟩
            obtain ⟨qt, qs⟩ := q
            have sq : PyData.strOk qs.1 = true := hstr (qt, qs) (by simp)
            have ei : ∀ {T : Store}, ixD T (plD (P0 ++ [(qt, qs)])) (-1) = some (prD (qt, qs)) := fun {T} => by
              show L2.atI ((P0 ++ [(qt, qs)]).map prD) (-1) = _
              rw [List.map_append]
              exact atI_lastD _ _
            refine v_B (v_op (v_var rfl (v_call (v_cons (v_op (v_op (v_var rfl (v_neg (v_c ⟨_, rfl, v_ix ei (v_c (v_ix (d := stD qs) (atI_in (j := 1) rfl) (v_nil ⟨rfl, ?_⟩)))⟩)))))))))
            refine Pe.of undone_ok ?_
            refine v_eqT so sq ⟨_, rfl, ?_⟩
            refine v_dec (fun es' => ?_) (fun es' => ?_)
            · refine v_drop (v_app1K rfl last_at ?_)
              refine v_sl (v_var rfl (v_noPart (v_part (v_neg (v_c ⟨_, rfl, ⟨_, rfl, ?_⟩⟩)))))
              refine ⟨plD P0, ?_, _, last_at, hlen, ?_⟩
              · show some (Dt.tup (cutA ((P0 ++ [(qt, qs)]).map prD) none (some (-1)))) = _
                rw [List.map_append]
                exact congrArg (fun x => some (Dt.tup x)) (cut_lastD _ _)
              rw [set_last]
              refine nxt P0 ?_
              have eq' : qs = und s := by rw [show s = und qs from es', und_und]
              rw [eq']
              exact nb_pop
            · refine add (nxt _ (nb_push hlt' fun p hp' e' => absurd ?_ es'))
              rw [List.getLast?_concat] at hp'
              cases hp'
              show s = und qs
              rw [show qs = und s from e', und_und]
          · refine add (nxt _ (nb_push hlt' fun p hp' e' => ?_))
            rw [hne] at hp'
            cases hp'
        · refine v_F ?_
          exact add (nxt _ (nb_push hlt' fun p hp' e' => fun z => c0 (by omega)))
      · rintro en T ⟨x5, j, e, hj, rfl, rfl⟩
        have hge : (ruleOf m s).1.natAbs ≤ j := by
          rw [er]
          by_cases c : j < (r.rule s.2).1.natAbs
          · rw [rangeD_drop c] at e
            cases e
          · omega
        refine ⟨_, _, s1 ++ [s], ss, rfl, by rw [es]; simp, rfl, ?_⟩
        rw [nbL_all P s hge]
        unfold nbs
        rw [List.flatMap_append, List.flatMap_singleton]
  · rintro en T ⟨x4, x5, s1, ss, e, es, rfl, rfl⟩
    have hs : ss = [] := by simpa using e.symm
    subst hs
    rw [List.append_nil] at es
    subst es
    walk_at "dv"
    rfl
end
theorem same_ref {S : Store} {k k0 : Nat} {ds : List Dt} (hT : S[k0]? = some (.lst ds)) (hn : ds.length ≤ 100000) (ih : ∀ d ∈ ds, m_law_same k [d, d] S = .ok (.bl true) S) : Pe (m_law_same (k + 1) [.ref k0, .lst ds] S) (fun d S' => d = .bl true ∧ S' = S) X0 := by
  refine v_fn ?_
  unfold b_law_same
  have elem : ∀ (j : Nat) (e1 : Dv.Env), j < ds.length → e1 = [some (.ref k0), some (.lst ds), some (.int (0 + (j : Int)))] → Pe (mCall 2 (m_law_same k) (mCons (mOp mIx (mVar 0) (mVar 2)) (mCons (mOp mIx (mVar 1) (mVar 2)) mNil)) e1 S) (fun x S2 => S2 = S ∧ some (Dt.bl true) = some x) X0 := by
    intro j e1 hj he
    subst he
    have ej : ds[j]? = some ds[j] := by simp [hj]
    have z : L2.atI ds (0 + (j : Int)) = some ds[j] := by
      rw [Int.zero_add]
      exact atI_in ej
    walk_at "dv"
    refine v_ix (ixD_ref hT z) ?_
    walk_at "dv"
    refine v_ix (d := ds[j]) z ?_
    walk_at "dv"
    exact Pe.of (ih _ (List.getElem_mem hj)) ⟨rfl, rfl⟩
  have rest : ∀ {en : Dv.Env} {Q : List Dt → Store → Prop} {X : Ex → Store → Prop}, en = [some (.ref k0), some (.lst ds), none] → Q (List.replicate ds.length (.bl true)) S → Pe (cLoop (wNm 2) mYes
      (mCall 2 (m_law_same k) (mCons (mOp mIx (mVar 0) (mVar 2)) (mCons (mOp mIx (mVar 1) (mVar 2)) mNil))) en (rangeD 0 (ds.length : Int).toNat) [] S) Q X := by
    intro en Q X he q
    subst he
    refine v_cloop (fun _ => some (.bl true)) (fun d hd => ?_) ?_ ?_
    · obtain ⟨j, hj, rfl⟩ := range_mem hd
      refine ⟨_, rfl, v_yes ⟨rfl, v_T ?_⟩⟩
      exact elem j _ (by simpa using hj) rfl
    · simp [rangeD]
      omega
    · rw [List.nil_append, Int.toNat_natCast, range_const]
      exact q
  have fin : ∀ {Q : Dt → Store → Prop} {X : Ex → Store → Prop}, Q (.bl true) S → Pe (mAll [.lst (List.replicate ds.length (.bl true))] S) Q X := by
    intro Q X q
    unfold mAll
    simp only [asL, Option.bind_some, all_true]
    refine v_ok ?_
    have e : (List.replicate ds.length true).all (fun b => b) = true := by simp
    rw [e]
    exact q
  have ht : tyS S (.ref k0) = some (.inl "list") := by
    unfold tyS
    simp only [hT]
  walk_at "dv"
  refine v_isiTy ht rfl ?_
  walk_at "dv"
  refine v_isiTy ht rfl ?_
  walk_at "dv"
  refine v_isiT (by rw [ht]; rfl) ?_
  walk_at "dv"
  refine rest rfl ?_
  walk_at "dv"
  refine fin ?_
  walk_at "dv"
  rfl
theorem v_sameR {k0 : Nat} {ds ds' : List Dt} {S : Store} {Q : Dt → Store → Prop} {X : Ex → Store → Prop} (hT : S[k0]? = some (.lst ds)) (e : ds = ds') (h : sok 20 (.lst ds) = true) (q : Q (.bl true) S) : Pe (m_law_same 20 [.ref k0, .lst ds'] S) Q X := by
  subst e
  have h : (decide (ds.length ≤ 100000) && ds.all (sok 19)) = true := h
  rw [Bool.and_eq_true] at h
  exact Pe.of (Pe.eq (same_ref hT (of_decide_eq_true h.1) fun d hd => same_all 19 d (List.all_eq_true.mp h.2 d hd))) q
end Lw
set_option Elab.async false
set_option linter.all false
set_option maxRecDepth 100000
set_option maxHeartbeats 4000000
set_option autoImplicit false
namespace Lw
open PySem Dv
/-! steps of our own words -/
local macro_rules | `(tactic| walk_at "num") => `(tactic| first | assumption | decide | omega)
local macro_rules | `(tactic| walk_at "dv0") => `(tactic| with_reducible first
  | refine v_seq ?_ | refine v_ifS ?_ | refine v_set ?_ | refine v_ret ?_ | refine v_asg ?_ | refine v_par ?_ | refine v_drop ?_ | refine v_nx ?_ | refine v_bk ?_ | refine v_ct ?_ | refine v_retN ?_ | refine v_for ?_
  | refine v_c ?_ | refine v_nil ?_ | refine v_cons ?_ | refine v_op ?_ | refine v_B ?_ | refine v_truth ?_ | refine v_andT ?_ | refine v_orT ?_ | refine v_notT ?_
  | refine v_andV ?_ | refine v_orV ?_ | refine v_notV ?_ | refine v_if ?_ | refine v_neg ?_ | refine v_chain ?_ | refine v_tup ?_ | refine v_lst ?_ | refine v_lstR ?_ | refine v_noPart ?_ | refine v_part ?_ | refine v_sl ?_
  | refine v_CB ?_ | refine v_call ?_ | refine v_abs ?_ | refine v_lc ?_ | refine v_yes ?_ | refine v_it ?_ | refine v_rng1 ?_ | refine v_rng2 ?_ | refine v_rng3 ?_ | refine v_T ?_ | refine v_F ?_
  | refine v_add ?_ | refine v_sub ?_ | refine v_iadd ?_ | refine v_lt ?_ | refine v_le ?_ | refine v_gt ?_ | refine v_ge ?_ | refine v_eqI ?_ | refine v_neI ?_ | refine v_eqB ?_ | refine v_neB ?_)
local macro_rules | `(tactic| walk_at "dv1") => `(tactic| first
  | (with_reducible refine' v_var ?h ?_); (case h => rfl)
  | (with_reducible refine' v_aug ?h ?_); (case h => rfl)
  | (with_reducible refine' v_div ?h1 ?h2 ?_); (case h1 => walk_at "num"); (case h2 => walk_at "num")
  | (with_reducible refine' v_mod ?h1 ?_); (case h1 => walk_at "num")
  | (with_reducible refine' v_pow ?h1 ?_); (case h1 => walk_at "num")
  | (with_reducible refine' v_mulR ?h1 ?_); (case h1 => walk_at "num")
  | (with_reducible refine' v_mulL ?h1 ?_); (case h1 => walk_at "num")
  | (with_reducible refine' v_fin ?h1 ?_); (case h1 => first | exact Or.inl rfl | exact Or.inr rfl | (refine Or.inr ?_; simp only [List.length_set, *]; done))
  | (with_reducible refine' v_ix ?h1 ?_); (case h1 => first | exact ixD_ref (by assumption) (by rfl) | rfl)
  | (with_reducible refine' v_len ?h1 ?_); (case h1 => first | exact lenD_ref (by assumption) | rfl)
  | (with_reducible refine' v_list ?h1 ?_); (case h1 => rfl)
  | (with_reducible refine' v_listR ?h1 ?_); (case h1 => rfl)
  | (with_reducible refine' v_tuple ?h1 ?_); (case h1 => rfl)
  | (with_reducible refine' v_isd ?h1 ?_); (case h1 => rfl)
  | (with_reducible refine' v_isiTy ?h1 ?h2 ?_); (case h1 => rfl); (case h2 => rfl)
  | (with_reducible refine' v_isiT ?h1 ?_); (case h1 => rfl))
local macro_rules | `(tactic| walk_at "dv2") => `(tactic| first
  | refine v_gsub (by rfl) (by rfl) (by assumption) (by rfl) (fun _ _ _ => ?_) | refine ⟨_, rfl, ?_⟩ | (with_reducible refine' ⟨rng_ok ?h1 ?h2, ?_⟩); (case h1 => omega); (case h2 => omega) | refine ⟨rfl, ?_⟩ | refine ⟨_, _, rfl, ?_⟩ | refine ⟨Nat.le_of_ble_eq_true rfl, ?_⟩)
local macro_rules | `(tactic| walk_at "dv3") => `(tactic| first
  | (with_reducible refine' v_dec (fun _ => ?_) (fun hn => absurd ?h hn)); (case h => first | assumption | omega | decide)
  | (with_reducible refine' v_dec (fun hn => absurd hn ?h) (fun _ => ?_)); (case h => first | assumption | omega | decide)
  | (with_reducible refine' v_ndec (fun _ => ?_) (fun hn => absurd hn ?h)); (case h => first | assumption | omega | decide)
  | (with_reducible refine' v_ndec (fun hn => absurd ?h hn) (fun _ => ?_)); (case h => first | assumption | omega | decide)
  | (with_reducible refine' v_bT ?h ?_); (case h => first | assumption | rfl)
  | (with_reducible refine' v_bF ?h ?_); (case h => first | assumption | rfl))
local macro_rules | `(tactic| walk_at "dv4") => `(tactic| with_reducible first
  | refine v_places ?_ | refine v_roads ?_ | refine v_over ?_ | refine v_line ?_ | refine v_spots ?_ | refine v_myards ?_ | refine v_mroads ?_ | refine v_mW (by decide +kernel) ?_ | refine v_mK (by decide +kernel) ?_
  | refine v_itX ?_ | refine v_ev ?_ | refine v_rev ?_ | refine v_zs ?_ | refine v_enum ?_ | refine v_enum2 ?_ | refine v_makeV ?_ | refine v_tryN ?_ | refine v_lc2 ?_ | refine v_fz ?_ | refine v_make ?_ | refine v_fldS ?_)
local macro_rules | `(tactic| walk_at "dv5") => `(tactic| first
  | refine ⟨_, _, rfl, rfl, ?_⟩ | refine ⟨⟨_, _, rfl⟩, ?_⟩ | refine ⟨⟨_, _, _, rfl⟩, ?_⟩ | refine ⟨_, _, _, rfl, ?_⟩ | refine Or.inl ⟨_, rfl, ?_⟩ | refine Or.inr ⟨_, (fun _ z => by cases z), rfl, ?_⟩)
local macro_rules | `(tactic| walk_at "dv") => `(tactic| repeat (first | walk_at "dv0" | walk_at "dv4" | walk_at "dv1" | walk_at "dv3" | walk_at "dv2" | walk_at "dv5"))
/-! law_beside in parts -/
def b_law_beside_1 : Bd := (mFor (mRng1 (mCons (mCB mAbs (mCons (mOp mIx (mCall 2 m_law_rule (mCons (mVar 0) (mCons (mVar 4) mNil))) (mC (.int 0))) mNil)) mNil)) (gNm 5) (mDrop (mApp1 (mVar 3) (mCall 2 m_law_place (mCons (mVar 0) (mCons (mCall 2 m_law_join (mCons (mCall 1 m_law_place_row (mCons (mVar 2) mNil)) (mCons (mLst (mCons (mVar 5) (mCons (mVar 4) (mCons (mC (.int 0)) mNil)))) mNil))) mNil))))))
def b_law_beside_2 : Bd := (mSeq (mFor (mIt (mCall 2 m_law_steps_from (mCons (mVar 0) (mCons (mCall 3 m_law_end_of (mCons (mVar 0) (mCons (mVar 1) (mCons (mVar 2) mNil)))) mNil)))) (gNm 4) b_law_beside_1) (mRet (mVar 3)))
theorem b_law_beside_eq : b_law_beside = (mSeq (mSet 3 (mLstR mNil)) b_law_beside_2) := rfl
/-! ### the law's own places beside -/
section
variable {m : Mod} {S : Store}
theorem end_of_ok (ok : m.Ok) (hp : PureS S) {y z : Str} {a : Pairs} (h : Path m y (prS a) z) (hl : a.length ≤ 900) : m_law_end_of [m.d, .str y, plD a] S = .ok (.str z) S := by
  have ul := unp_len 0 a
  refine Pe.eq (v_fn ?_)
  unfold b_law_end_of
  walk_at "dv"
  refine Pe.of (law_place_row_ok (by omega)) ?_
  walk_at "dv"
  refine Pe.of (law_yards_ok ok hp (unp_path h 0) (by omega)) ?_
  walk_at "dv"
  have sl := spots_last (unp_path h 0)
  refine v_ix (ix_last (x := .str z) (by rw [List.getLast?_map, sl]; rfl)) ?_
  walk_at "dv"
  first | exact ⟨rfl, rfl⟩ | exact rfl
theorem nb_settled (ok : m.Ok) {P : Pairs} (hP : Pl m P) (s : Step) (j : Nat) : (stl m [] (jn (unp 0 P).1 (unp 0 P).2 (j : Int) [(s, 0)]).1 (jn (unp 0 P).1 (unp 0 P).2 (j : Int) [(s, 0)]).2).1 = nbE m P s j := by
  have e := stl_jn (m := m) [] 0 (unp 0 P).1 (j : Int) (unp 0 P).2 [(s, 0)]
  rw [Int.zero_add, Int.zero_add, stl_unp ok 0 (qs := []) hP] at e
  rw [e]
  show (stl m P (0 + (j : Int)) [(s, 0)]).1 = _
  rw [Int.zero_add]
  rfl
theorem law_beside_ok (ok : m.Ok) (hp : PureS S) {y z : Str} {P : Pairs} (h : Pl m P) (pz : Path m y (prS P) z) (hl : P.length ≤ 200) (hy : y ∈ m.ys) : m_law_beside [m.d, .str y, plD P] S = .ok (.lst ((nbs m P (stepsOf z m.rs)).map plD)) S := by
  have hz : z ∈ m.ys := pz.to_in ok hy
  have hlr := ok.lr
  have hsl := stepsOf_len (y := z) m.rs
  have ul := unp_len 0 P
  refine Pe.eq (v_fn ?_)
  rw [b_law_beside_eq]
  refine v_seq (v_set (v_lstR (v_nil ⟨Nat.le_of_ble_eq_true rfl, ?_⟩)))
  unfold b_law_beside_2
  have p1 : PureS (S ++ [Ob.lst []]) := hp.push rfl
  walk_at "dv"
  refine Pe.of (end_of_ok ok p1 pz (by omega)) ?_
  walk_at "dv"
  refine Pe.of (law_steps_ok ok p1 (ok.sy z hz)) ?_
  refine ⟨_, rfl, ?_⟩
  refine v_loop (fun ds en T => ∃ (x4 x5 : Option Dt) (s1 ss : List Step), ds = ss.map stD ∧ stepsOf z m.rs = s1 ++ ss ∧ en = [some m.d, some (.str y), some (plD P), some (.ref S.length), x4, x5] ∧ T = S ++ [.lst ((nbs m P s1).map plD)])
    ⟨_, _, [], stepsOf z m.rs, rfl, rfl, rfl, rfl⟩ ?_ ?_
  · rintro d ds en T ⟨x4, x5, s1, ss, e, es, rfl, rfl⟩
    cases ss with
    | nil => cases e
    | cons s ss =>
      obtain ⟨rfl, rfl⟩ := List.cons.inj e
      obtain ⟨r, hr, hw, hb⟩ := stepsOf_mem ok (s := s) (by rw [es]; simp)
      have rb := rule_b ok hr s.2
      have er : ruleOf m s = r.rule s.2 := ruleOf_road hr
      have hN := nbs_len ok P s1
      have hs1 : s1.length ≤ 16 := by
        have := congrArg List.length es
        rw [List.length_append] at this
        omega
      refine ⟨_, _, rfl, ?_⟩
      unfold b_law_beside_1
      walk_at "dv"
      refine Pe.of (law_rule_ok ok hr) ?_
      walk_at "dv"
      rw [abs_if]
      rw [Int.toNat_natCast]
      refine v_loop (fun ds en T => ∃ (x5 : Option Dt) (j : Nat), ds = (rangeD 0 (r.rule s.2).1.natAbs).drop j ∧ j ≤ 99 ∧ en = [some m.d, some (.str y), some (plD P), some (.ref S.length), some (stD s), x5] ∧ T = S ++ [.lst ((nbs m P s1 ++ (nbL m P s).take j).map plD)])
        ⟨_, 0, rfl, by omega, rfl, by simp⟩ ?_ ?_
      · rintro d ds en T ⟨x5, j, e, hj, rfl, rfl⟩
        have hlt : j < (r.rule s.2).1.natAbs := by
          by_cases c : j < (r.rule s.2).1.natAbs
          · exact c
          · rw [List.drop_of_length_le (by simp [rangeD]; omega)] at e
            cases e
        rw [rangeD_drop hlt] at e
        obtain ⟨rfl, rfl⟩ := List.cons.inj e
        have hlt' : j < (ruleOf m s).1.natAbs := by rw [er]; exact hlt
        have hlen : ((nbs m P s1 ++ (nbL m P s).take j).map plD).length < 1000000 := by
          rw [List.length_map, List.length_append, List.length_take]
          omega
        have pT : PureS (S ++ [.lst ((nbs m P s1 ++ (nbL m P s).take j).map plD)]) := hp.push (pls_pure _)
        refine ⟨_, _, rfl, ?_⟩
        refine v_drop (v_app1K rfl last_at ?_)
        refine v_call (v_cons (v_var rfl (v_cons (v_call (v_cons (v_call (v_cons (v_var rfl (v_nil ⟨rfl, ?_⟩)))))))))
        refine Pe.of (law_place_row_ok (ps := P) (by omega)) (v_cons (v_lst (v_cons (v_var rfl (v_cons (v_var rfl (v_cons (v_c (v_nil ⟨Nat.le_of_ble_eq_true rfl, v_nil ⟨rfl, ?_⟩⟩)))))))))
        refine Pe.of (law_join_ok (t' := (j : Int)) (l' := [(s, 0)]) (by omega) (by simp)) (v_nil ⟨rfl, ?_⟩)
        have pj := jn_path (t := (unp 0 P).1) (t' := (j : Int)) (unp_path pz 0) (.cons (t := 0) hr hw hb (.nil _))
        refine Pe.of (law_place_ok ok pT pj (by rw [jn_len]; simp; omega)) ?_
        rw [nb_settled ok h s j]
        refine ⟨_, last_at, hlen, ?_⟩
        rw [set_last]
        refine ⟨_, j + 1, rfl, by omega, rfl, ?_⟩
        rw [nbL_take hlt', ← List.append_assoc, List.map_append (l₂ := [nbE m P s j])]
        rfl
      · rintro en T ⟨x5, j, e, hj, rfl, rfl⟩
        have hge : (ruleOf m s).1.natAbs ≤ j := by
          rw [er]
          by_cases c : j < (r.rule s.2).1.natAbs
          · rw [rangeD_drop c] at e
            cases e
          · omega
        refine ⟨_, _, s1 ++ [s], ss, rfl, by rw [es]; simp, rfl, ?_⟩
        rw [nbL_all P s hge]
        unfold nbs
        rw [List.flatMap_append, List.flatMap_singleton]
  · rintro en T ⟨x4, x5, s1, ss, e, es, rfl, rfl⟩
    have hs : ss = [] := by simpa using e.symm
    subst hs
    rw [List.append_nil] at es
    subst es
    walk_at "dv"
    exact v_finJ Jz.refl.push hp last_at (Nat.le_refl _) (pls_pure _) ⟨rfl, rfl⟩
end
/-! ### a way, place by place -/
end Lw
set_option Elab.async false
set_option linter.all false
set_option maxRecDepth 100000
set_option maxHeartbeats 4000000
set_option autoImplicit false
namespace Lw
open PySem Dv
/-! steps of our own words -/
local macro_rules | `(tactic| walk_at "num") => `(tactic| first | assumption | decide | omega)
local macro_rules | `(tactic| walk_at "dv0") => `(tactic| with_reducible first
  | refine v_seq ?_ | refine v_ifS ?_ | refine v_set ?_ | refine v_ret ?_ | refine v_asg ?_ | refine v_par ?_ | refine v_drop ?_ | refine v_nx ?_ | refine v_bk ?_ | refine v_ct ?_ | refine v_retN ?_ | refine v_for ?_
  | refine v_c ?_ | refine v_nil ?_ | refine v_cons ?_ | refine v_op ?_ | refine v_B ?_ | refine v_truth ?_ | refine v_andT ?_ | refine v_orT ?_ | refine v_notT ?_
  | refine v_andV ?_ | refine v_orV ?_ | refine v_notV ?_ | refine v_if ?_ | refine v_neg ?_ | refine v_chain ?_ | refine v_tup ?_ | refine v_lst ?_ | refine v_lstR ?_ | refine v_noPart ?_ | refine v_part ?_ | refine v_sl ?_
  | refine v_CB ?_ | refine v_call ?_ | refine v_abs ?_ | refine v_lc ?_ | refine v_yes ?_ | refine v_it ?_ | refine v_rng1 ?_ | refine v_rng2 ?_ | refine v_rng3 ?_ | refine v_T ?_ | refine v_F ?_
  | refine v_add ?_ | refine v_sub ?_ | refine v_iadd ?_ | refine v_lt ?_ | refine v_le ?_ | refine v_gt ?_ | refine v_ge ?_ | refine v_eqI ?_ | refine v_neI ?_ | refine v_eqB ?_ | refine v_neB ?_)
local macro_rules | `(tactic| walk_at "dv1") => `(tactic| first
  | (with_reducible refine' v_var ?h ?_); (case h => rfl)
  | (with_reducible refine' v_aug ?h ?_); (case h => rfl)
  | (with_reducible refine' v_div ?h1 ?h2 ?_); (case h1 => walk_at "num"); (case h2 => walk_at "num")
  | (with_reducible refine' v_mod ?h1 ?_); (case h1 => walk_at "num")
  | (with_reducible refine' v_pow ?h1 ?_); (case h1 => walk_at "num")
  | (with_reducible refine' v_mulR ?h1 ?_); (case h1 => walk_at "num")
  | (with_reducible refine' v_mulL ?h1 ?_); (case h1 => walk_at "num")
  | (with_reducible refine' v_fin ?h1 ?_); (case h1 => first | exact Or.inl rfl | exact Or.inr rfl | (refine Or.inr ?_; simp only [List.length_set, *]; done))
  | (with_reducible refine' v_ix ?h1 ?_); (case h1 => first | exact ixD_ref (by assumption) (by rfl) | rfl)
  | (with_reducible refine' v_len ?h1 ?_); (case h1 => first | exact lenD_ref (by assumption) | rfl)
  | (with_reducible refine' v_list ?h1 ?_); (case h1 => rfl)
  | (with_reducible refine' v_listR ?h1 ?_); (case h1 => rfl)
  | (with_reducible refine' v_tuple ?h1 ?_); (case h1 => rfl)
  | (with_reducible refine' v_isd ?h1 ?_); (case h1 => rfl)
  | (with_reducible refine' v_isiTy ?h1 ?h2 ?_); (case h1 => rfl); (case h2 => rfl)
  | (with_reducible refine' v_isiT ?h1 ?_); (case h1 => rfl))
local macro_rules | `(tactic| walk_at "dv2") => `(tactic| first
  | refine v_gsub (by rfl) (by rfl) (by assumption) (by rfl) (fun _ _ _ => ?_) | refine ⟨_, rfl, ?_⟩ | (with_reducible refine' ⟨rng_ok ?h1 ?h2, ?_⟩); (case h1 => omega); (case h2 => omega) | refine ⟨rfl, ?_⟩ | refine ⟨_, _, rfl, ?_⟩ | refine ⟨Nat.le_of_ble_eq_true rfl, ?_⟩)
local macro_rules | `(tactic| walk_at "dv3") => `(tactic| first
  | (with_reducible refine' v_dec (fun _ => ?_) (fun hn => absurd ?h hn)); (case h => first | assumption | omega | decide)
  | (with_reducible refine' v_dec (fun hn => absurd hn ?h) (fun _ => ?_)); (case h => first | assumption | omega | decide)
  | (with_reducible refine' v_ndec (fun _ => ?_) (fun hn => absurd hn ?h)); (case h => first | assumption | omega | decide)
  | (with_reducible refine' v_ndec (fun hn => absurd ?h hn) (fun _ => ?_)); (case h => first | assumption | omega | decide)
  | (with_reducible refine' v_bT ?h ?_); (case h => first | assumption | rfl)
  | (with_reducible refine' v_bF ?h ?_); (case h => first | assumption | rfl))
local macro_rules | `(tactic| walk_at "dv4") => `(tactic| with_reducible first
  | refine v_places ?_ | refine v_roads ?_ | refine v_over ?_ | refine v_line ?_ | refine v_spots ?_ | refine v_myards ?_ | refine v_mroads ?_ | refine v_mW (by decide +kernel) ?_ | refine v_mK (by decide +kernel) ?_
  | refine v_itX ?_ | refine v_ev ?_ | refine v_rev ?_ | refine v_zs ?_ | refine v_enum ?_ | refine v_enum2 ?_ | refine v_makeV ?_ | refine v_tryN ?_ | refine v_lc2 ?_ | refine v_fz ?_ | refine v_make ?_ | refine v_fldS ?_)
local macro_rules | `(tactic| walk_at "dv5") => `(tactic| first
  | refine ⟨_, _, rfl, rfl, ?_⟩ | refine ⟨⟨_, _, rfl⟩, ?_⟩ | refine ⟨⟨_, _, _, rfl⟩, ?_⟩ | refine ⟨_, _, _, rfl, ?_⟩ | refine Or.inl ⟨_, rfl, ?_⟩ | refine Or.inr ⟨_, (fun _ z => by cases z), rfl, ?_⟩)
local macro_rules | `(tactic| walk_at "dv") => `(tactic| repeat (first | walk_at "dv0" | walk_at "dv4" | walk_at "dv1" | walk_at "dv3" | walk_at "dv2" | walk_at "dv5"))
/-! ### a place's neighbours; keys; ways turned about -/
section
variable {m : Mod} {y : Str}
theorem steps_in {r : Road} (hr : r ∈ m.rs) {w : Int} (hw : w = 1 ∨ w = -1) : (r.n, w) ∈ stepsOf (r.ends w).1 m.rs := by
  unfold stepsOf
  refine List.mem_flatMap.mpr ⟨r, hr, ?_⟩
  rcases hw with rfl | rfl
  · refine List.mem_append_left _ ?_
    rw [show (r.ends 1).1 = r.b from rfl, if_pos rfl]
    exact List.mem_cons_self
  · refine List.mem_append_right _ ?_
    rw [show (r.ends (-1)).1 = r.e from rfl, if_pos rfl]
    exact List.mem_cons_self
theorem one_step {v w : Str} {s : Step} (h : Path m v [(s, 0)] w) : ∃ r : Road, m.road s.1 = some r ∧ (s.2 = 1 ∨ s.2 = -1) ∧ (r.ends s.2).1 = v ∧ w = (r.ends s.2).2 := by
  cases h with
  | @cons _ _ _ _ _ ro h1 h2 h3 h4 =>
    cases h4
    exact ⟨ro, h1, h2, h3, rfl⟩
/-- a place and the place behind one pair more are beside each other -/
theorem nb_two (ok : m.Ok) {p : Pairs} {r : Int} {s : Step} (h : Plc m y (p ++ [(r, s)])) : ∃ z w, Path m y (prS p) z ∧ Path m y (prS (p ++ [(r, s)])) w ∧ p ++ [(r, s)] ∈ nbs m p (stepsOf z m.rs) ∧ p ∈ nbs m (p ++ [(r, s)]) (stepsOf w m.rs) := by
  obtain ⟨w, hw⟩ := h.way
  have hw0 := hw
  rw [prS_app] at hw
  obtain ⟨z, hz, hs, _⟩ := hw.split
  obtain ⟨ro, h1, h2, h3, rfl⟩ := one_step (show Path m z [(s, 0)] w from hs)
  obtain ⟨hr, hn⟩ := road_in h1
  obtain ⟨_, r0, r1, _, hl⟩ := h.pl.last
  have s1 : s ∈ stepsOf z m.rs := by
    have := steps_in hr h2
    rw [hn, h3] at this
    exact this
  have s2 : und s ∈ stepsOf (ro.ends s.2).2 m.rs := by
    have hu : (und s).2 = 1 ∨ (und s).2 = -1 := by
      show 0 - s.2 = 1 ∨ 0 - s.2 = -1
      omega
    have := steps_in hr hu
    have e : (ro.ends (und s).2).1 = (ro.ends s.2).2 := by
      show (ro.ends (0 - s.2)).1 = _
      rcases h2 with e | e <;> rw [e] <;> rfl
    rw [e, hn] at this
    exact this
  refine ⟨z, _, hz, hw0, ?_, ?_⟩
  · refine List.mem_flatMap.mpr ⟨s, s1, ?_⟩
    unfold nbL
    refine List.mem_map.mpr ⟨r.toNat, List.mem_range.mpr (by omega), ?_⟩
    rw [nb_push (by omega) fun p hp e z => hl p hp e (by omega), Int.toNat_of_nonneg r0]
  · refine List.mem_flatMap.mpr ⟨und s, s2, ?_⟩
    unfold nbL
    have n0 := (rule_ne ok (und s)).1.1
    refine List.mem_map.mpr ⟨0, List.mem_range.mpr (by omega), ?_⟩
    have e := nb_pop (m := m) (P := p) (s := und s) (r := r)
    rw [und_und] at e
    exact e
end
/-! ### ways -/
theorem dst_take1 (a : Pairs) {j : Nat} (h : j < a.length) : dst (a.take (j + 1)) (a.take j) = 1 := by
  have self : ∀ x : Pairs, lcp x x = x.length := fun x => by
    have h1 := lcp_le x x
    have h2 := le_lcp x.length x x (Nat.le_refl _) (Nat.le_refl _) rfl
    omega
  have e := lcp_take (j) a (a.take (j + 1)) (by omega)
  rw [lcp_comm (a.take (j + 1)) a, lcp_take (j + 1) a a (by omega), self] at e
  unfold dst
  rw [e, List.length_take, List.length_take]
  omega
/-! ### places as keys -/
def prK (p : Int × Step) : NestedKey := .tup [.num p.1, .tup [.text p.2.1, .num p.2.2]]
def plK (P : Pairs) : NestedKey := .tup (P.map prK)
theorem prK_inj {p q : Int × Step} (h : prK p = prK q) : p = q := by
  obtain ⟨r, n, e⟩ := p
  obtain ⟨r', n', e'⟩ := q
  unfold prK at h
  simp only [NestedKey.tup.injEq, List.cons.injEq, NestedKey.num.injEq, NestedKey.text.injEq, and_true] at h
  obtain ⟨h1, h2, h3⟩ := h
  rw [h1, h2, h3]
theorem plK_inj {P Q : Pairs} (h : plK P = plK Q) : P = Q := by
  unfold plK at h
  rw [NestedKey.tup.injEq] at h
  exact (List.map_inj_right fun a b e => prK_inj e).mp h
theorem nkD_pr (p : Int × Step) (n : Nat) : nkD (n + 2) (prD p) = some (prK p) := by
  obtain ⟨r, x, e⟩ := p
  simp [nkD, mapO, prK]
theorem nkD_pl : ∀ (P : Pairs) (n : Nat), nkD (n + 3) (plD P) = some (plK P) := by
  intro P n
  have h : ∀ P : Pairs, mapO (nkD (n + 2)) (P.map prD) = some (P.map prK) := by
    intro P
    induction P with
    | nil => rfl
    | cons p P ih =>
      rw [List.map_cons]
      unfold mapO
      rw [nkD_pr, ih]
      rfl
  show (mapO (nkD (n + 2)) (P.map prD)).map NestedKey.tup = _
  rw [h]
  rfl
theorem nkD_pls : ∀ L : List Pairs, mapO (nkD 8) (L.map plD) = some (L.map plK)
  | [] => rfl
  | P :: L => by
    rw [List.map_cons]
    unfold mapO
    rw [nkD_pl, nkD_pls L]
    rfl
/-! ### a place's neighbours are all apart -/
section
variable {m : Mod} {y : Str}
theorem nodup_flat {α β : Type} {l : List α} {f : α → List β} (nd : l.Nodup) (h1 : ∀ a ∈ l, (f a).Nodup) (h2 : ∀ a ∈ l, ∀ b ∈ l, a ≠ b → ∀ x ∈ f a, x ∉ f b) : (l.flatMap f).Nodup := by
  rw [List.nodup_iff_pairwise_ne, List.pairwise_flatMap]
  refine ⟨fun a ha => List.nodup_iff_pairwise_ne.mp (h1 a ha), ?_⟩
  exact (List.nodup_iff_pairwise_ne.mp nd).imp_of_mem fun {a b} ha hb hne x hx z hz e => h2 a ha b hb hne x hx (e ▸ hz)
theorem steps_nodup (ok : m.Ok) : (stepsOf y m.rs).Nodup := by
  have nd : (m.rs.map Road.n).Nodup := (List.nodup_append.mp ok.nd).2.1
  have nr : m.rs.Nodup := by
    rw [List.nodup_iff_pairwise_ne, List.pairwise_map] at nd
    rw [List.nodup_iff_pairwise_ne]
    exact nd.imp fun h e => h (by rw [e])
  have nm : ∀ a ∈ m.rs, ∀ b ∈ m.rs, a ≠ b → a.n ≠ b.n := by
    intro a ha b hb hne e
    have h1 := road_of ok ha
    have h2 := road_of ok hb
    rw [e, h2] at h1
    exact hne (Option.some.inj h1).symm
  have of : ∀ (r : Road), ∀ s ∈ (if r.b = y then [(r.n, (1 : Int))] else []) ++ (if r.e = y then [(r.n, (-1 : Int))] else []), s.1 = r.n := by
    intro r s hs
    rcases List.mem_append.mp hs with h | h
    · split at h
      · rw [List.mem_singleton.mp h]
      · cases h
    · split at h
      · rw [List.mem_singleton.mp h]
      · cases h
  unfold stepsOf
  refine nodup_flat nr (fun r _ => ?_) fun a ha b hb hne x hx hxb => nm a ha b hb hne ((of a x hx).symm.trans (of b x hxb))
  by_cases c1 : r.b = y
  · by_cases c2 : r.e = y
    · rw [if_pos c1, if_pos c2]
      exact List.nodup_cons.mpr ⟨fun h => (by simp at h), List.nodup_cons.mpr ⟨fun h => (by simp at h), List.nodup_nil⟩⟩
    · rw [if_pos c1, if_neg c2]
      exact List.nodup_cons.mpr ⟨fun h => (by simp at h), List.nodup_nil⟩
  · by_cases c2 : r.e = y
    · rw [if_neg c1, if_pos c2]
      exact List.nodup_cons.mpr ⟨fun h => (by simp at h), List.nodup_nil⟩
    · rw [if_neg c1, if_neg c2]
      exact List.nodup_nil
theorem nbE_cases {P : Pairs} {s : Step} {j : Nat} (hj : j < (ruleOf m s).1.natAbs) : (∃ P0 r, P = P0 ++ [(r, und s)] ∧ j = 0 ∧ nbE m P s j = P0) ∨ nbE m P s j = P ++ [((j : Int), s)] := by
  by_cases c : ∃ P0 r, P = P0 ++ [(r, und s)] ∧ j = 0
  · obtain ⟨P0, r, rfl, rfl⟩ := c
    exact .inl ⟨P0, r, rfl, rfl, nb_pop⟩
  · refine .inr (nb_push hj fun p hp e z => c ?_)
    obtain ⟨L, b, rfl⟩ : ∃ L b, P = L ++ [b] := by
      cases h : P with
      | nil => rw [h] at hp; cases hp
      | cons x P' => exact ⟨(x :: P').dropLast, (x :: P').getLast (by simp), (List.dropLast_concat_getLast (by simp)).symm⟩
    rw [List.getLast?_concat] at hp
    cases hp
    exact ⟨L, p.1, by rw [← e], z⟩
theorem nbE_inj {P : Pairs} {s s' : Step} {j j' : Nat} (hj : j < (ruleOf m s).1.natAbs) (hj' : j' < (ruleOf m s').1.natAbs) (e : nbE m P s j = nbE m P s' j') : s = s' ∧ j = j' := by
  rcases nbE_cases (P := P) hj with ⟨P0, r, h1, h2, h3⟩ | h3
  · rcases nbE_cases (P := P) hj' with ⟨P0', r', h1', h2', h3'⟩ | h3'
    · rw [h1] at h1'
      have := (List.append_inj' h1' rfl).2
      simp only [List.cons.injEq, Prod.mk.injEq, and_true] at this
      refine ⟨?_, by omega⟩
      have h := congrArg und this.2
      rw [und_und, und_und] at h
      exact h
    · exfalso
      rw [h3, h3'] at e
      have h4 := congrArg List.length e
      have h5 := congrArg List.length h1
      simp at h4 h5
      omega
  · rcases nbE_cases (P := P) hj' with ⟨P0', r', h1', h2', h3'⟩ | h3'
    · exfalso
      rw [h3, h3'] at e
      have h4 := congrArg List.length e
      have h5 := congrArg List.length h1'
      simp at h4 h5
      omega
    · rw [h3, h3'] at e
      have := (List.append_inj' e rfl).2
      simp only [List.cons.injEq, Prod.mk.injEq, and_true] at this
      exact ⟨this.2, by omega⟩
theorem nbs_nodup (ok : m.Ok) (P : Pairs) (z : Str) : (nbs m P (stepsOf z m.rs)).Nodup := by
  unfold nbs
  refine nodup_flat (steps_nodup ok) (fun s _ => ?_) fun s _ s' _ hne x hx hx' => ?_
  · unfold nbL
    rw [List.nodup_iff_pairwise_ne, List.pairwise_map]
    refine (List.nodup_iff_pairwise_ne.mp List.nodup_range).imp_of_mem ?_
    intro i j hi hj hne e
    exact hne (nbE_inj (List.mem_range.mp hi) (List.mem_range.mp hj) e).2
  · unfold nbL at hx hx'
    obtain ⟨i, hi, rfl⟩ := List.mem_map.mp hx
    obtain ⟨j, hj, e⟩ := List.mem_map.mp hx'
    exact hne (nbE_inj (List.mem_range.mp hj) (List.mem_range.mp hi) e).1.symm
theorem nbs_length (P : Pairs) (ss : List Step) : (nbs m P ss).length = (ss.map fun s => (ruleOf m s).1.natAbs).sum := by
  unfold nbs
  rw [List.length_flatMap]
  exact congrArg List.sum (List.map_congr_left fun s _ => nbL_len P s)
theorem sum_le {α : Type} {f : α → Nat} {k : Nat} : ∀ l : List α, (∀ a ∈ l, f a ≤ k) → (l.map f).sum ≤ k * l.length
  | [], _ => Nat.zero_le _
  | a :: l, h => by
    have h1 := h a List.mem_cons_self
    have h2 := sum_le l fun b hb => h b (List.mem_cons_of_mem _ hb)
    rw [List.map_cons, List.sum_cons, List.length_cons, Nat.mul_succ]
    omega
theorem rule_le {most : Nat} (dm : m.Drawn most) (h1 : 1 ≤ most) (s : Step) : (ruleOf m s).1.natAbs ≤ most := by
  unfold ruleOf
  cases h : m.road s.1 with
  | none => exact h1
  | some r =>
    have := dm.nb r (road_in h).1
    show (r.rule s.2).1.natAbs ≤ most
    unfold Road.rule
    split <;> dsimp only <;> omega
theorem nbs_few {most : Nat} (dm : m.Drawn most) (h1 : 1 ≤ most) (h9 : most ≤ 9) (h4 : m.rs.length ≤ 4) (P : Pairs) (z : Str) : (nbs m P (stepsOf z m.rs)).length ≤ 72 := by
  have l := stepsOf_len (y := z) m.rs
  have e := sum_le (f := fun s => (ruleOf m s).1.natAbs) (k := most) (stepsOf z m.rs) fun s _ => rule_le dm h1 s
  rw [nbs_length]
  have : most * (stepsOf z m.rs).length ≤ 9 * 8 := Nat.mul_le_mul h9 (by omega)
  omega
/-- a neighbour is a place too, and has the place as its neighbour -/
theorem nb_sym (ok : m.Ok) {P q : Pairs} {z : Str} (h : Plc m y P) (pz : Path m y (prS P) z) (hq : q ∈ nbs m P (stepsOf z m.rs)) : ∃ w, Plc m y q ∧ Path m y (prS q) w ∧ P ∈ nbs m q (stepsOf w m.rs) ∧ dst P q = 1 ∧ q.length ≤ P.length + 1 := by
  have one : ∀ (A : Pairs) (x : Int × Step), dst (A ++ [x]) A = 1 := fun A x => by
    have h1 := dst_take1 (A ++ [x]) (j := A.length) (by simp)
    rw [List.take_left' rfl, List.take_of_length_le (by simp)] at h1
    exact h1
  obtain ⟨s, hs, hq⟩ := List.mem_flatMap.mp hq
  unfold nbL at hq
  obtain ⟨j, hj, rfl⟩ := List.mem_map.mp hq
  rcases nbE_cases (P := P) (List.mem_range.mp hj) with ⟨P0, r, rfl, rfl, e⟩ | e
  · rw [e]
    obtain ⟨z0, _, hz0, _, _, h2⟩ := nb_two ok h
    have h0 := h.take P0.length
    rw [List.take_left' rfl] at h0
    obtain ⟨z1, _, hz1, _, h3, _⟩ := nb_two ok h
    exact ⟨z1, h0, hz1, h3, one _ _, by simp; omega⟩
  · obtain ⟨r, h1, h2, h3⟩ := stepsOf_mem ok hs
    have ps : Path m z [(s, 0)] (r.ends s.2).2 := .cons h1 h2 h3 (.nil _)
    have ee : nbE m P s j = (stl m P (j : Int) [(s, 0)]).1 := rfl
    have hq : Plc m y (P ++ [((j : Int), s)]) := by
      rw [← e, ee]
      exact ⟨stl_pl ok ps.ways h.pl, _, stl_path pz ps⟩
    rw [e]
    obtain ⟨_, w, _, hw, _, h4⟩ := nb_two ok hq
    exact ⟨w, hq, hw, h4, by rw [dst_comm]; exact one _ _, by simp⟩
end
end Lw
set_option Elab.async false
set_option linter.all false
set_option maxRecDepth 100000
set_option maxHeartbeats 4000000
set_option autoImplicit false
namespace Lw
open PySem Dv
/-! steps of our own words -/
local macro_rules | `(tactic| walk_at "num") => `(tactic| first | assumption | decide | omega)
local macro_rules | `(tactic| walk_at "dv0") => `(tactic| with_reducible first
  | refine v_seq ?_ | refine v_ifS ?_ | refine v_set ?_ | refine v_ret ?_ | refine v_asg ?_ | refine v_par ?_ | refine v_drop ?_ | refine v_nx ?_ | refine v_bk ?_ | refine v_ct ?_ | refine v_retN ?_ | refine v_for ?_
  | refine v_c ?_ | refine v_nil ?_ | refine v_cons ?_ | refine v_op ?_ | refine v_B ?_ | refine v_truth ?_ | refine v_andT ?_ | refine v_orT ?_ | refine v_notT ?_
  | refine v_andV ?_ | refine v_orV ?_ | refine v_notV ?_ | refine v_if ?_ | refine v_neg ?_ | refine v_chain ?_ | refine v_tup ?_ | refine v_lst ?_ | refine v_lstR ?_ | refine v_noPart ?_ | refine v_part ?_ | refine v_sl ?_
  | refine v_CB ?_ | refine v_call ?_ | refine v_abs ?_ | refine v_lc ?_ | refine v_yes ?_ | refine v_it ?_ | refine v_rng1 ?_ | refine v_rng2 ?_ | refine v_rng3 ?_ | refine v_T ?_ | refine v_F ?_
  | refine v_add ?_ | refine v_sub ?_ | refine v_iadd ?_ | refine v_lt ?_ | refine v_le ?_ | refine v_gt ?_ | refine v_ge ?_ | refine v_eqI ?_ | refine v_neI ?_ | refine v_eqB ?_ | refine v_neB ?_)
local macro_rules | `(tactic| walk_at "dv1") => `(tactic| first
  | (with_reducible refine' v_var ?h ?_); (case h => rfl)
  | (with_reducible refine' v_aug ?h ?_); (case h => rfl)
  | (with_reducible refine' v_div ?h1 ?h2 ?_); (case h1 => walk_at "num"); (case h2 => walk_at "num")
  | (with_reducible refine' v_mod ?h1 ?_); (case h1 => walk_at "num")
  | (with_reducible refine' v_pow ?h1 ?_); (case h1 => walk_at "num")
  | (with_reducible refine' v_mulR ?h1 ?_); (case h1 => walk_at "num")
  | (with_reducible refine' v_mulL ?h1 ?_); (case h1 => walk_at "num")
  | (with_reducible refine' v_fin ?h1 ?_); (case h1 => first | exact Or.inl rfl | exact Or.inr rfl | (refine Or.inr ?_; simp only [List.length_set, *]; done))
  | (with_reducible refine' v_ix ?h1 ?_); (case h1 => first | exact ixD_ref (by assumption) (by rfl) | rfl)
  | (with_reducible refine' v_len ?h1 ?_); (case h1 => first | exact lenD_ref (by assumption) | rfl)
  | (with_reducible refine' v_list ?h1 ?_); (case h1 => rfl)
  | (with_reducible refine' v_listR ?h1 ?_); (case h1 => rfl)
  | (with_reducible refine' v_tuple ?h1 ?_); (case h1 => rfl)
  | (with_reducible refine' v_isd ?h1 ?_); (case h1 => rfl)
  | (with_reducible refine' v_isiTy ?h1 ?h2 ?_); (case h1 => rfl); (case h2 => rfl)
  | (with_reducible refine' v_isiT ?h1 ?_); (case h1 => rfl))
local macro_rules | `(tactic| walk_at "dv2") => `(tactic| first
  | refine v_gsub (by rfl) (by rfl) (by assumption) (by rfl) (fun _ _ _ => ?_) | refine ⟨_, rfl, ?_⟩ | (with_reducible refine' ⟨rng_ok ?h1 ?h2, ?_⟩); (case h1 => omega); (case h2 => omega) | refine ⟨rfl, ?_⟩ | refine ⟨_, _, rfl, ?_⟩ | refine ⟨Nat.le_of_ble_eq_true rfl, ?_⟩)
local macro_rules | `(tactic| walk_at "dv3") => `(tactic| first
  | (with_reducible refine' v_dec (fun _ => ?_) (fun hn => absurd ?h hn)); (case h => first | assumption | omega | decide)
  | (with_reducible refine' v_dec (fun hn => absurd hn ?h) (fun _ => ?_)); (case h => first | assumption | omega | decide)
  | (with_reducible refine' v_ndec (fun _ => ?_) (fun hn => absurd hn ?h)); (case h => first | assumption | omega | decide)
  | (with_reducible refine' v_ndec (fun hn => absurd ?h hn) (fun _ => ?_)); (case h => first | assumption | omega | decide)
  | (with_reducible refine' v_bT ?h ?_); (case h => first | assumption | rfl)
  | (with_reducible refine' v_bF ?h ?_); (case h => first | assumption | rfl))
local macro_rules | `(tactic| walk_at "dv4") => `(tactic| with_reducible first
  | refine v_places ?_ | refine v_roads ?_ | refine v_over ?_ | refine v_line ?_ | refine v_spots ?_ | refine v_myards ?_ | refine v_mroads ?_ | refine v_mW (by decide +kernel) ?_ | refine v_mK (by decide +kernel) ?_
  | refine v_itX ?_ | refine v_ev ?_ | refine v_rev ?_ | refine v_zs ?_ | refine v_enum ?_ | refine v_enum2 ?_ | refine v_makeV ?_ | refine v_tryN ?_ | refine v_lc2 ?_ | refine v_fz ?_ | refine v_make ?_ | refine v_fldS ?_)
local macro_rules | `(tactic| walk_at "dv5") => `(tactic| first
  | refine ⟨_, _, rfl, rfl, ?_⟩ | refine ⟨⟨_, _, rfl⟩, ?_⟩ | refine ⟨⟨_, _, _, rfl⟩, ?_⟩ | refine ⟨_, _, _, rfl, ?_⟩ | refine Or.inl ⟨_, rfl, ?_⟩ | refine Or.inr ⟨_, (fun _ z => by cases z), rfl, ?_⟩)
local macro_rules | `(tactic| walk_at "dv") => `(tactic| repeat (first | walk_at "dv0" | walk_at "dv4" | walk_at "dv1" | walk_at "dv3" | walk_at "dv2" | walk_at "dv5"))
/-! law in parts -/
def b_law_1 : Bd := (mIfS (mB (mOp mNe (mCall 3 m_neighbours (mCons (mVar 4) (mCons (mVar 5) (mCons (mVar 6) mNil)))) (mCall 3 m_law_beside (mCons (mVar 3) (mCons (mVar 5) (mCons (mVar 6) mNil)))))) (mRet (mC (.bl false))) mNx)
def b_law_2 : Bd := (mSeq (mIfS (mOrT (mB (mOp mNe (mLM cntD (mVar 11) (mCons (mVar 6) mNil)) (mC (.int 1)))) (mB (mOp mNe (mCall 4 m_far (mCons (mVar 4) (mCons (mVar 5) (mCons (mVar 6) (mCons (mVar 10) mNil))))) (mC (.int 1))))) (mRet (mC (.bl false))) mNx) (mDrop (mClear (mVar 11))))
def b_law_3 : Bd := (mSeq (mSet 11 (mCall 3 m_neighbours (mCons (mVar 4) (mCons (mVar 5) (mCons (mVar 10) mNil))))) b_law_2)
def b_law_4 : Bd := (mSeq (mDrop (mClear (mVar 7))) b_law_1)
def b_law_5 : Bd := (mSeq (mFor (mIt (mOp mAdd (mSl (mVar 7) mNoPart (mPart (mC (.int 3)))) (mSl (mVar 7) (mPart (mNeg (mC (.int 3)))) mNoPart))) (gNm 10) b_law_3) b_law_4)
def b_law_6 : Bd := (mSeq (mIfS (mOrT (mNotT (mTruth (mCall 2 (m_law_same 20) (mCons (mVar 7) (mCons (mCall 3 m_law_beside (mCons (mVar 3) (mCons (mVar 5) (mCons (mVar 6) mNil)))) mNil))))) (mOrT (mB (mOp mNe (mCB mLen (mCons (mVar 7) mNil)) (mVar 8))) (mB (mOp mNe (mLenSet (mVar 7)) (mVar 8))))) (mRet (mC (.bl false))) mNx) b_law_5)
def b_law_7 : Bd := (mSeq (mSet 8 (mCB mSum (mCons (mLc [9] (mIt (mCall 2 m_law_steps_from (mCons (mVar 3) (mCons (mCall 3 m_law_end_of (mCons (mVar 3) (mCons (mVar 5) (mCons (mVar 6) mNil)))) mNil)))) (wNm 9) mYes (mCB mAbs (mCons (mOp mIx (mCall 2 m_law_rule (mCons (mVar 3) (mCons (mVar 9) mNil))) (mC (.int 0))) mNil))) mNil))) b_law_6)
def b_law_8 : Bd := (mSeq (mSet 7 (mCall 3 m_neighbours (mCons (mVar 4) (mCons (mVar 5) (mCons (mVar 6) mNil))))) b_law_7)
def b_law_9 : Bd := (mSeq (mSet 6 (mCall 4 m_law_some_place (mCons (mVar 1) (mCons (mVar 3) (mCons (mVar 5) (mCons (mC (.int 5)) mNil)))))) b_law_8)
def b_law_10 : Bd := (mSeq (mSet 5 (mCall 2 m_law_pick (mCons (mVar 1) (mCons (mGetS "yards" (mVar 3)) mNil)))) b_law_9)
def b_law_11 : Bd := (mSeq (mSet 4 (mCall 1 m_law_web (mCons (mVar 3) mNil))) b_law_10)
def b_law_12 : Bd := (mSeq (mSet 3 (mCall 4 m_law_drawn_web (mCons (mVar 1) (mCons (mOp mAdd (mC (.int 1)) (mCall 2 m_law_draw (mCons (mVar 1) (mCons (mC (.int 3)) mNil)))) (mCons (mCall 2 m_law_draw (mCons (mVar 1) (mCons (mC (.int 5)) mNil))) (mCons (mCall 2 m_law_pick (mCons (mVar 1) (mCons (mLst (mCons (mC (.int 2)) (mCons (mC (.int 4)) (mCons (mC (.int 9)) mNil)))) mNil))) mNil)))))) b_law_11)
def b_law_13 : Bd := (mSeq (mFor (mRng1 (mCons (mC (.int 2)) mNil)) (gNm 2) b_law_12) (mRet (mC (.bl true))))
theorem b_law_eq : b_law = (mSeq (mSet 1 (mCall 1 m_law_flow (mCons (mVar 0) mNil))) b_law_13) := rfl
/-! ### the law -/
theorem v_clear {mo : Dv.Env → Store → R Dt} {en : Dv.Env} {S : Store} {Q : Dt → Store → Prop} {X : Ex → Store → Prop} {k : Nat} {ds : List Dt} (hm : mo en S = .ok (.ref k) S) (h1 : S[k]? = some (.lst ds)) (q : Q .non (S.set k (.lst []))) : Pe (mClear mo en S) Q X := by
  refine Pe.bind (Pe.of hm ?_)
  dsimp only
  rw [h1]
  exact q
theorem nums_map {α : Type} (f : α → Int) : ∀ l : List α, numsD (l.map fun c => Dt.int (f c)) = some (l.map f)
  | [] => rfl
  | c :: l => by
    show (numsD (l.map fun c => Dt.int (f c))).map (f c :: ·) = _
    rw [nums_map f l]
    rfl
theorem sum_cast : ∀ l : List Nat, ((l.map fun n : Nat => (n : Int)).sum) = ((l.sum : Nat) : Int)
  | [] => rfl
  | n :: l => by
    rw [List.map_cons, List.sum_cons, sum_cast l, List.sum_cons]
    omega
theorem eqD_pl (a b : Pairs) : eqD (plD a) (plD b) = decide (a = b) := eqDs_map eqD_pr a b
theorem v_lm {S : Store} {f : Dt → Dt → Store → R Dt} {mo : Dv.Env → Store → R Dt} {ma : Dv.Env → Store → R (List Dt)} {en : Dv.Env} {o x : Dt} {xs : List Dt} {Q : Dt → Store → Prop} {X : Ex → Store → Prop} (ho : mo en S = .ok o S) (hp : asP S o = some xs) (ha : ma en S = .ok [x] S) (h : Pe (f o x S) Q X) : Pe (mLM f mo ma en S) Q X := by
  have e : mLM f mo ma en S = f o x S := by
    unfold mLM
    rw [ho]
    show (match asP S o with
      | some _ => (ma en S).bind fun xs S2 => (match xs with
        | [x] => f o x S2
        | _ => R.stuck)
      | none => .stuck) = _
    rw [hp]
    dsimp only
    rw [ha]
  rw [e]
  exact h
theorem count_one {p : Pairs} : ∀ {L : List Pairs}, L.Nodup → p ∈ L → L.count p = 1
  | [], _, h => (List.not_mem_nil h).elim
  | a :: L, nd, h => by
    obtain ⟨n1, n2⟩ := List.nodup_cons.mp nd
    rw [List.count_cons]
    by_cases c : a = p
    · rw [c] at n1
      rw [List.count_eq_zero_of_not_mem n1, c]
      simp
    · rcases List.mem_cons.mp h with e | h
      · exact absurd e.symm c
      · rw [count_one n2 h]
        simp [c]
theorem v_it2 {me : Dv.Env → Store → R Dt} {en : Dv.Env} {S : Store} {QA : List Dt → Store → Prop} {X : Ex → Store → Prop} (h : Pe (me en S) (fun d S1 => ∃ ds, itemsD d = some ds ∧ QA ds S1) X) : Pe (mIt me en S) QA X := v_it (d := .non) (ds := []) h
/-- of a list of places: how many are this one -/
theorem v_cntPl {k : Nat} {L : List Pairs} {p : Pairs} {S : Store} {Q : Dt → Store → Prop} {X : Ex → Store → Prop} (hT : S[k]? = some (.lst (L.map plD))) (nd : L.Nodup) (hm : p ∈ L) (h1 : okD deep (plD p) = true) (h2 : okD deep (.lst (L.map plD)) = true) (q : Q (.int 1) S) : Pe (cntD (.ref k) (plD p) S) Q X := by
  have er : res S (.ref k) = .lst (L.map plD) := by
    unfold res
    simp only [hT]
  have ec : ∀ M : List Pairs, ((M.map plD).countP fun z => eqD z (plD p)) = M.count p := by
    intro M
    induction M with
    | nil => rfl
    | cons a M ih =>
      rw [List.map_cons, List.countP_cons, ih, List.count_cons, eqD_pl]
      by_cases c : a = p
      · simp [c]
      · simp [c]
  have e1 : L.count p = 1 := count_one nd hm
  unfold cntD
  rw [er]
  dsimp only
  rw [if_pos ⟨h1, h2⟩]
  show Q (.int ((((L.map plD).countP fun z => eqD z (plD p)) : Nat) : Int)) S
  rw [ec, e1]
  exact q
/-- len(set(places)), an object of the store -/
theorem v_lenPlR {k : Nat} {L : List Pairs} (nd : L.Nodup) (hl : L.length ≤ 76) {me : Dv.Env → Store → R Dt} {en : Dv.Env} {S : Store} {Q : Dt → Store → Prop} {X : Ex → Store → Prop} (hm : me en S = .ok (.ref k) S) (hT : S[k]? = some (.lst (L.map plD))) (q : Q (.int L.length) S) : Pe (mLenSet me en S) Q X := by
  have e : asL S (.ref k) = some (L.map plD) := by
    unfold asL
    simp only [hT]
  refine v_lenSet (Pe.of hm ⟨_, _, e, nkD_pls L, ?_, by rw [List.length_map]; exact hl, fun k hk => ?_, by rw [List.length_map]; exact q⟩)
  · rw [List.nodup_iff_pairwise_ne, List.pairwise_map]
    exact (List.nodup_iff_pairwise_ne.mp nd).imp fun hne e => hne (plK_inj e)
  · obtain ⟨P, _, rfl⟩ := List.mem_map.mp hk
    rfl
theorem cut_mem {α : Type} {xs : List α} {lo hi : Option Int} {x : α} (h : x ∈ cutA xs lo hi) : x ∈ xs := List.mem_of_mem_drop (List.mem_of_mem_take h)
theorem cut_le {α : Type} (xs : List α) (lo hi : Option Int) : (cutA xs lo hi).length ≤ xs.length := by
  unfold cutA
  rw [List.length_take, List.length_drop]
  omega
theorem v_neRefL {k : Nat} {ds : List Dt} {S : Store} {Q : Dt → Store → Prop} {X : Ex → Store → Prop} (hT : S[k]? = some (.lst ds)) (h : sok 12 (.lst ds) = true) (q : Q (.bl false) S) : Pe (mNe (.ref k) (.lst ds) S) Q X := by
  have er : res S (.ref k) = .lst ds := by
    unfold res
    simp only [hT]
  refine v_ifok ?_ ?_
  · rw [er, res_sok h]
    exact ⟨sok_ok 12 _ h, sok_ok 12 _ h⟩
  · rw [er, res_sok h, sok_eq 12 _ h]
    exact q
section
variable {m : Mod} {S : Store} {i : Nat}
theorem plc_of (ok : m.Ok) {y z : Str} {t : Int} {l : Seg} (h : Path m y l z) : Plc m y (stl m [] t l).1 := ⟨stl_pl ok h.ways .nil, z, stl_path (ps := ([] : Pairs)) (.nil y) h⟩
theorem okD_pl {y : Str} {a : Pairs} (ok : m.Ok) (h : Plc m y a) (hl : a.length ≤ 1000) : sok 11 (plD a) = true := (sok_prs (h.str ok) hl 7).2
theorem some_place_ok (ok : m.Ok) (hp : PureS S) (hF : FlowAt S i) {z : Str} (hz : z ∈ m.ys) {most : Int} (hm0 : 0 ≤ most) (hm1 : most ≤ 900) {Q : Dt → Store → Prop} {X : Ex → Store → Prop}
    (q : ∀ P S', Plc m z P → P.length ≤ most.natAbs → Fz i S S' → Q (plD P) S') : Pe (m_law_some_place [.ref i, m.d, .str z, .int most] S) Q X := by
  refine v_fn ?_
  unfold b_law_some_place
  walk_at "dv"
  refine draw_fz hF (by omega) (Nat.lt_of_le_of_lt (Nat.log2_le_self _) (by omega)) fun c S1 c0 c1 z1 => ?_
  walk_at "dv"
  refine drawn_row_ok ok (z1.pure hp) z1.flow hz c0 (by omega) (by decide) (by decide) fun t l w S2 h hl ht hw z2 => ?_
  have z12 := z1.trans z2
  walk_at "dv"
  refine Pe.of (law_place_ok ok (z12.pure hp) h (by omega)) ?_
  walk_at "dv"
  have sl := stl_len (m := m) [] t l
  rw [List.length_nil, Nat.zero_add] at sl
  exact v_fin (.inr z12.len) (q _ _ (plc_of ok h) (by omega) z12)
end
abbrev qE (a0 x2 : Option Dt) (m : Mod) (y : Str) (P : Pairs) (x7 x8 x9 x10 x11 : Option Dt) : Dv.Env := [a0, some (.ref 0), x2, some m.d, some m.w, some (.str y), some (plD P), x7, x8, x9, x10, x11]
section
variable {m : Mod} {S : Store} {y : Str} {a P : Pairs} {a0 x2 x7 x8 x9 x10 x11 : Option Dt} {QS : Fl → Dv.Env → Store → Prop} {XS : Ex → Dv.Env → Store → Prop}
theorem okD_nbs (ok : m.Ok) {z : Str} (ha : Plc m y a) (hla : a.length ≤ 20) : sok 12 (.lst ((nbs m a (stepsOf z m.rs)).map plD)) = true := by
  have l := nbs_len ok a (stepsOf z m.rs)
  have l2 := stepsOf_len (y := z) m.rs
  have l3 := ok.lr
  refine (sok_list (by rw [List.length_map]; omega) fun d hd => ?_).1
  obtain ⟨p, hp, rfl⟩ := List.mem_map.mp hd
  obtain ⟨s, hs, hp⟩ := List.mem_flatMap.mp hp
  unfold nbL at hp
  obtain ⟨j, _, rfl⟩ := List.mem_map.mp hp
  obtain ⟨r, h1, _⟩ := stepsOf_mem ok hs
  obtain ⟨hr, e⟩ := road_in h1
  have so : PyData.strOk s.1 = true := by
    rw [← e]
    exact (ok.sr r hr).1
  have hl := nbE_len (m := m) a s j
  exact (sok_prs (nbE_str (ha.str ok) so) (by omega) 7).2
/-- the flow goes on, all below stays -/
structure Nx (S T : Store) : Prop where
  flow : FlowAt T 0
  pure : PureS T
  le : S.length ≤ T.length
  oth : ∀ x, x < S.length → T[x]? = S[x]?
theorem Nx.junk {T : Store} (h : Nx S T) {ds : List Dt} (h0 : 0 < S.length) (hd : ds.all (noRef 11) = true) : Nx S ((T ++ [Ob.lst ds]).set T.length (Ob.lst [])) := by
  have l := h.le
  refine ⟨?_, PureS.set (h.pure.push hd) rfl, by simp; omega, fun x hx => ?_⟩
  · obtain ⟨f, f1, f2⟩ := h.flow
    exact ⟨f, by rw [List.getElem?_set_ne (by omega), List.getElem?_append_left (by omega)]; exact f1, f2⟩
  · rw [List.getElem?_set_ne (by omega), List.getElem?_append_left (by omega)]
    exact h.oth x hx
theorem turn24 {most : Nat} (dm : m.Drawn most) (h1 : 1 ≤ most) (h9 : most ≤ 9) (h4 : m.rs.length ≤ 4) (hp : PureS S) (hF : FlowAt S 0) (hy : y ∈ m.ys) (h : Plc m y P) (hl : P.length ≤ 5) (q : ∀ x7 x8 x9 x10 x11 S', FlowAt S' 0 → PureS S' → QS .nx (qE a0 x2 m y P x7 x8 x9 x10 x11) S') :
    Ps (b_law_8 (qE a0 x2 m y P x7 x8 x9 x10 x11) S) QS XS := by
  have ok := dm.ok
  obtain ⟨z, pz⟩ := h.way
  have hzy := pz.to_in ok hy
  have l0 : 0 < S.length := hF.lt
  have nd := nbs_nodup ok P z
  have few := nbs_few dm h1 h9 h4 P z
  have okN := okD_nbs (z := z) ok h (by omega)
  have sP := okD_pl ok h (by omega)
  unfold b_law_8
  refine v_seq (v_set (v_call (v_cons (v_var rfl (v_cons (v_var rfl (v_cons (v_var rfl (v_nil ⟨rfl, ?_⟩)))))))))
  refine Pe.of (neighbours_ok ok hp h.pl pz (by omega) hy) ?_
  have n1 : Nx S (S ++ [.lst ((nbs m P (stepsOf z m.rs)).map plD)]) := by
    refine ⟨?_, hp.push (pls_pure _), by simp, fun x hx => List.getElem?_append_left hx⟩
    obtain ⟨f, f1, f2⟩ := hF
    exact ⟨f, by rw [List.getElem?_append_left l0]; exact f1, f2⟩
  have t1 : (S ++ [Ob.lst ((nbs m P (stepsOf z m.rs)).map plD)])[S.length]? = some (.lst ((nbs m P (stepsOf z m.rs)).map plD)) := last_at
  have gl : S.length < (S ++ [Ob.lst ((nbs m P (stepsOf z m.rs)).map plD)]).length := by simp
  generalize S ++ [Ob.lst ((nbs m P (stepsOf z m.rs)).map plD)] = S1 at *
  unfold b_law_7
  refine v_seq (v_set (v_CB (v_cons (v_lc (v_it (d := .lst ((stepsOf z m.rs).map stD)) (ds := (stepsOf z m.rs).map stD) (v_call (v_cons (v_var rfl (v_cons (v_call (v_cons (v_var rfl (v_cons (v_var rfl (v_cons (v_var rfl (v_nil ⟨rfl, ?_⟩)))))))))))))))))
  refine Pe.of (end_of_ok ok n1.pure pz (by omega)) (v_nil ⟨rfl, ?_⟩)
  refine Pe.of (law_steps_ok ok n1.pure (ok.sy z hzy)) ⟨_, rfl, ?_⟩
  refine v_cloop (fun d => match d with | .tup [.str n, .int w] => some (.int (((ruleOf m (n, w)).1.natAbs : Nat) : Int)) | _ => none) (fun d hd => ?_) ?_ ?_
  · obtain ⟨s, hs, rfl⟩ := List.mem_map.mp hd
    obtain ⟨r, hr, hw, hb⟩ := stepsOf_mem ok hs
    refine ⟨_, rfl, ?_⟩
    walk_at "dv"
    refine Pe.of (law_rule_ok ok hr) ?_
    walk_at "dv"
    rw [abs_if]
    show some (Dt.int (((ruleOf m s).1.natAbs : Nat) : Int)) = _
    rw [ruleOf_road hr]
  · have := stepsOf_len (y := z) m.rs
    simp
    omega
  have ef : ((stepsOf z m.rs).map stD).filterMap (fun d => match d with | .tup [.str n, .int w] => some (.int (((ruleOf m (n, w)).1.natAbs : Nat) : Int)) | _ => none) = (stepsOf z m.rs).map fun s => Dt.int (((ruleOf m s).1.natAbs : Nat) : Int) := by
    rw [List.filterMap_map]
    generalize stepsOf z m.rs = l
    induction l with
    | nil => rfl
    | cons s l ih =>
      rw [List.filterMap_cons]
      show Dt.int (((ruleOf m s).1.natAbs : Nat) : Int) :: List.filterMap _ l = _
      rw [ih, List.map_cons]
  rw [List.nil_append, ef]
  refine v_nil (v_sum rfl (nums_map _ _) ?_)
  have es : ((stepsOf z m.rs).map fun s => (((ruleOf m s).1.natAbs : Nat) : Int)).sum = ((nbs m P (stepsOf z m.rs)).length : Int) := by
    rw [nbs_length, ← sum_cast, List.map_map]
    rfl
  rw [es]
  have lenR : ∀ {T : Store}, T[S.length]? = some (.lst ((nbs m P (stepsOf z m.rs)).map plD)) → lenD T (.ref S.length) = some (nbs m P (stepsOf z m.rs)).length := fun hT => (lenD_ref hT).trans (by rw [List.length_map])
  unfold b_law_6
  refine v_seq (v_ifS (v_orT (v_notT (v_truth (v_call (v_cons (v_var rfl (v_cons (v_call (v_cons (v_var rfl (v_cons (v_var rfl (v_cons (v_var rfl (v_nil ⟨rfl, ?_⟩))))))))))))))))
  refine Pe.of (law_beside_ok ok n1.pure h.pl pz (by omega) hy) (v_nil ⟨rfl, ?_⟩)
  refine v_sameR t1 rfl (sok_le okN (by omega)) ⟨_, rfl, ?_⟩
  refine v_F (v_orT (v_B (v_op (v_CB (v_cons (v_var rfl (v_nil (v_len (lenR t1) (v_var rfl (v_neI ⟨_, rfl, ?_⟩))))))))))
  rw [decide_eq_true rfl]
  refine v_F (v_B (v_op (v_lenPlR nd (by omega) rfl t1 (v_var rfl (v_neI ⟨_, rfl, ?_⟩)))))
  rw [decide_eq_true rfl]
  refine v_F (v_nx ?_)
  unfold b_law_5
  have asR : ∀ {T : Store}, T[S.length]? = some (.lst ((nbs m P (stepsOf z m.rs)).map plD)) → ∀ lo hi, slD T (.ref S.length) lo hi = some (.lst (cutA ((nbs m P (stepsOf z m.rs)).map plD) lo hi)) := fun {T} hT lo hi => by
    have e : asL T (.ref S.length) = some ((nbs m P (stepsOf z m.rs)).map plD) := by
      unfold asL
      simp only [hT]
    show (asL T (.ref S.length)).map _ = _
    rw [e]
    rfl
  have c1 := cut_le ((nbs m P (stepsOf z m.rs)).map plD) none (some 3)
  have c2 := cut_le ((nbs m P (stepsOf z m.rs)).map plD) (some (-3)) none
  rw [List.length_map] at c1 c2
  refine v_seq (v_for (v_it2 (v_op (v_sl (v_var rfl (v_noPart (v_part (v_c ⟨_, rfl, _, asR t1 none (some 3), ?_⟩))))))))
  refine v_sl (v_var rfl (v_part (v_neg (v_c ⟨_, rfl, _, rfl, v_noPart ⟨_, asR t1 (some (-3)) none, ?_⟩⟩))))
  refine v_addL (by omega) ⟨_, rfl, ?_⟩
  refine v_loop (fun ds en T => ∃ x10 x11, (∀ d ∈ ds, d ∈ (nbs m P (stepsOf z m.rs)).map plD) ∧ Nx S1 T ∧ en = qE a0 x2 m y P (some (.ref S.length)) (some (.int ((nbs m P (stepsOf z m.rs)).length : Int))) x9 x10 x11) ⟨_, _, fun d hd => ?_, ⟨n1.flow, n1.pure, Nat.le_refl _, fun _ _ => rfl⟩, rfl⟩ ?_ ?_
  · rcases List.mem_append.mp hd with hd | hd
    · exact cut_mem hd
    · exact cut_mem hd
  · rintro d ds en T ⟨x10, x11, hds, nx, rfl⟩
    obtain ⟨o, ho, rfl⟩ := List.mem_map.mp (hds d List.mem_cons_self)
    obtain ⟨w, hq, pw, hin, hdst, hol⟩ := nb_sym ok h pz ho
    have okO := okD_nbs (z := w) ok hq (by omega)
    refine ⟨_, _, rfl, ?_⟩
    unfold b_law_3
    refine v_seq (v_set (v_call (v_cons (v_var rfl (v_cons (v_var rfl (v_cons (v_var rfl (v_nil ⟨rfl, ?_⟩)))))))))
    refine Pe.of (neighbours_ok ok nx.pure hq.pl pw (by omega) hy) ?_
    have tT : (T ++ [Ob.lst ((nbs m o (stepsOf w m.rs)).map plD)])[T.length]? = some (.lst ((nbs m o (stepsOf w m.rs)).map plD)) := last_at
    have aT : asP (T ++ [Ob.lst ((nbs m o (stepsOf w m.rs)).map plD)]) (.ref T.length) = some ((nbs m o (stepsOf w m.rs)).map plD) := by
      unfold asP
      simp only [tT]
    unfold b_law_2
    refine v_seq (v_ifS (v_orT (v_B (v_op (v_lm rfl aT rfl (v_cntPl tT (nbs_nodup ok o w) hin (sok_ok _ _ (sok_up _ _ sP)) (sok_ok _ _ okO) (v_c (v_neI ⟨_, rfl, ?_⟩))))))))
    rw [decide_eq_true rfl]
    refine v_F (v_B (v_op (v_call (v_cons (v_var rfl (v_cons (v_var rfl (v_cons (v_var rfl (v_cons (v_var rfl (v_nil ⟨rfl, ?_⟩))))))))))))
    refine Pe.of (far_ok ok h hq hy (by omega) (by omega)) ?_
    rw [hdst]
    refine v_c (v_neI ⟨_, rfl, ?_⟩)
    rw [decide_eq_true rfl]
    refine v_F (v_nx ?_)
    refine v_drop (v_clear rfl tT ?_)
    exact ⟨some (plD o), some (.ref T.length), fun d hd => hds d (List.mem_cons_of_mem _ hd), nx.junk (by omega) (pls_pure _), rfl⟩
  · rintro en T ⟨x10, x11, _, nx, rfl⟩
    have t2 : T[S.length]? = some (.lst ((nbs m P (stepsOf z m.rs)).map plD)) := (nx.oth _ gl).trans t1
    unfold b_law_4
    refine v_seq (v_drop (v_clear rfl t2 ?_))
    have p3 : PureS (T.set S.length (.lst [])) := PureS.set nx.pure rfl
    have f3 : FlowAt (T.set S.length (.lst [])) 0 := by
      obtain ⟨f, f1, f2⟩ := nx.flow
      exact ⟨f, by rw [List.getElem?_set_ne (by omega)]; exact f1, f2⟩
    generalize T.set S.length (.lst []) = T3 at p3 f3
    unfold b_law_1
    refine v_ifS (v_B (v_op (v_call (v_cons (v_var rfl (v_cons (v_var rfl (v_cons (v_var rfl (v_nil ⟨rfl, ?_⟩))))))))))
    refine Pe.of (neighbours_ok ok p3 h.pl pz (by omega) hy) ?_
    have p4 : PureS (T3 ++ [.lst ((nbs m P (stepsOf z m.rs)).map plD)]) := p3.push (pls_pure _)
    have f4 : FlowAt (T3 ++ [.lst ((nbs m P (stepsOf z m.rs)).map plD)]) 0 := by
      obtain ⟨f, f1, f2⟩ := f3
      exact ⟨f, by rw [List.getElem?_append_left ((List.getElem?_eq_some_iff.mp f1).1)]; exact f1, f2⟩
    have t4 : (T3 ++ [Ob.lst ((nbs m P (stepsOf z m.rs)).map plD)])[T3.length]? = some (.lst ((nbs m P (stepsOf z m.rs)).map plD)) := last_at
    refine v_call (v_cons (v_var rfl (v_cons (v_var rfl (v_cons (v_var rfl (v_nil ⟨rfl, ?_⟩)))))))
    refine Pe.of (law_beside_ok ok p4 h.pl pz (by omega) hy) ?_
    refine v_neRefL t4 okN ⟨_, rfl, ?_⟩
    refine v_F (v_nx ?_)
    exact q _ _ _ _ _ _ f4 p4
end
theorem law_true (ns : List Int) (hn : ns.length ≤ 63) : ∃ S, m_law [.fz (ns.map Dt.int)] [] = .ok (.bl true) S := by
  suffices h : Pe (m_law [.fz (ns.map Dt.int)] []) (fun d _ => d = .bl true) X0 by
    obtain ⟨a, S, e, rfl⟩ := h.ex
    exact ⟨S, e⟩
  refine v_fn ?_
  rw [b_law_eq]
  walk_at "dv"
  refine flow_new fun S1 hl1 _ hf => ?_
  have hl : S1.length = 1 := hl1
  have hf : FlowAt S1 0 := hf
  have hp : PureS S1 := by
    obtain ⟨f, h1, _⟩ := hf
    match S1, hl, h1 with
    | [o], _, h1 =>
      intro o' ho'
      rw [List.mem_singleton.mp ho', Option.some.inj h1]
      exact f.pure
  unfold b_law_13
  refine v_seq (v_for (v_rng1 (v_cons (v_c (v_nil ⟨_, rfl, rng_ok (by decide) (by decide), ?_⟩)))))
  refine v_loop (fun ds en T => PureS T ∧ FlowAt T 0 ∧ ∃ a0 x2 x3 x4 x5 x6 x7 x8 x9 x10 x11, en = [a0, some (.ref 0), x2, x3, x4, x5, x6, x7, x8, x9, x10, x11]) ⟨hp, hf, _, _, _, _, _, _, _, _, _, _, _, rfl⟩ ?_ ?_
  · rintro d ds en T ⟨hp, hF, a0, x2, x3, x4, x5, x6, x7, x8, x9, x10, x11, rfl⟩
    refine ⟨_, _, rfl, ?_⟩
    unfold b_law_12
    refine v_seq (v_set (v_call (v_cons (v_var rfl (v_cons (v_op (v_c (v_call (v_cons (v_var rfl (v_cons (v_c (v_nil ⟨rfl, ?_⟩)))))))))))))
    refine draw_fz hF (by decide) (by decide) fun n S1 n0 n1 z1 => ?_
    obtain ⟨n, rfl⟩ : ∃ j : Nat, n = j := ⟨n.toNat, by omega⟩
    refine v_add (v_cons (v_call (v_cons (v_var rfl (v_cons (v_c (v_nil ⟨rfl, ?_⟩)))))))
    refine draw_fz z1.flow (by decide) (by decide) fun r S2 r0 r1 z2 => ?_
    obtain ⟨r, rfl⟩ : ∃ j : Nat, r = j := ⟨r.toNat, by omega⟩
    refine v_cons (v_call (v_cons (v_var rfl (v_cons (v_lst (v_cons (v_c (v_cons (v_c (v_cons (v_c (v_nil ⟨Nat.le_of_ble_eq_true rfl, v_nil ⟨rfl, ?_⟩⟩))))))))))))
    refine pick_fz z2.flow (Nat.le_of_ble_eq_true rfl) (Nat.le_of_ble_eq_true rfl) fun w S3 hw z3 => ?_
    have hv : ∃ i : Int, w = .int i ∧ (i = 2 ∨ i = 4 ∨ i = 9) := by
      simp only [List.mem_cons, List.not_mem_nil, or_false] at hw
      rcases hw with rfl | rfl | rfl
      · exact ⟨_, rfl, by simp⟩
      · exact ⟨_, rfl, by simp⟩
      · exact ⟨_, rfl, by simp⟩
    clear hw
    obtain ⟨w, rfl, hw⟩ := hv
    rw [show (1 : Int) + (n : Int) = ((1 + n : Nat) : Int) by omega]
    refine v_nil ⟨rfl, ?_⟩
    refine drawn_web_ok (z3.pure (z2.pure (z1.pure hp))) z3.flow (by omega) (by omega) (by omega) (by omega) (by omega) fun m S4 dm hyl hrl z4 => ?_
    have ok := dm.ok
    have nm := dm.nm
    have z14 := ((z1.trans z2).trans z3).trans z4
    have p4 := z14.pure hp
    unfold b_law_11
    refine v_seq (v_set (v_call (v_cons (v_var rfl (v_nil ⟨rfl, ?_⟩)))))
    refine Pe.of (law_web_ok ok nm p4) ?_
    unfold b_law_10
    walk_at "dv"
    refine pick_fz z14.flow (by rw [List.length_map]; exact List.length_pos_iff.mpr dm.y0) (by rw [List.length_map]; have := ok.ly; omega) fun d S5 hd z5 => ?_
    obtain ⟨y, hy, rfl⟩ := List.mem_map.mp hd
    have p5 := z5.pure p4
    unfold b_law_9
    refine v_seq (v_set (v_call (v_cons (v_var rfl (v_cons (v_var rfl (v_cons (v_var rfl (v_cons (v_c (v_nil ⟨rfl, ?_⟩)))))))))))
    refine some_place_ok ok p5 z5.flow hy (by decide) (by decide) fun a S6 ha hla z6 => ?_
    exact turn24 dm (by omega) (by omega) (by omega) (z6.pure p5) z6.flow hy ha hla fun x7 x8 x9 x10 x11 S' f p => ⟨p, f, _, _, _, _, _, _, _, _, _, _, _, rfl⟩
  · rintro en T ⟨hp, hF, a0, x2, x3, x4, x5, x6, x7, x8, x9, x10, x11, rfl⟩
    refine v_ret (v_c ?_)
    exact v_fin (.inl rfl) rfl
end Lw
set_option Elab.async false
set_option linter.all false
set_option maxRecDepth 100000
set_option maxHeartbeats 4000000
set_option autoImplicit false
namespace Lw
open PySem PySem.Spec PyProof.Rows L2 Dv
theorem all_of {l : PySem.W.OpenLaw} {w : World} {K : PySem.W.Frag} {h : Heap} {mg : Str → Option Value} {fa : Addr} (X : K.In h) (G : h.Ns mainGlobals mg) (hfa : mg "law" = some (.ref fa)) (c : SaysL hTests hDefs K) :
    ∃ fd : FuncData, (∀ (s : Shared) (v : Value), BindsTo s fd ⟨[v], []⟩ [("_law_script", v)]) ∧ ∀ base : Heap, K.In base → base.Ns mainGlobals mg → FnOk l.prog w K mg base (L2N.CX l.prog w) 22 fa fd ["_law_script"] (spLaw K []) := by
  have a1 : PySem.W.nsIn K mainGlobals "_law_laid" = some (some (.ref (He.fAd K ("_law_laid", none)))) := He.eqO_ok (c.fact 0 rfl)
  have a2 : PySem.W.nsIn K mainGlobals "_law_place_row" = some (some (.ref (He.fAd K ("_law_place_row", none)))) := He.eqO_ok (c.fact 1 rfl)
  have a3 : PySem.W.nsIn K mainGlobals "_law_road" = some (some (.ref (He.fAd K ("_law_road", none)))) := He.eqO_ok (c.fact 2 rfl)
  have a4 : PySem.W.nsIn K mainGlobals "_law_ends" = some (some (.ref (He.fAd K ("_law_ends", none)))) := He.eqO_ok (c.fact 3 rfl)
  have a5 : PySem.W.nsIn K mainGlobals "_law_yards_on" = some (some (.ref (He.fAd K ("_law_yards_on", none)))) := He.eqO_ok (c.fact 4 rfl)
  have a6 : PySem.W.nsIn K mainGlobals "_law_end_of" = some (some (.ref (He.fAd K ("_law_end_of", none)))) := He.eqO_ok (c.fact 5 rfl)
  have a7 : PySem.W.nsIn K mainGlobals "_law_join" = some (some (.ref (He.fAd K ("_law_join", none)))) := He.eqO_ok (c.fact 6 rfl)
  have a8 : PySem.W.nsIn K mainGlobals "_law_rule" = some (some (.ref (He.fAd K ("_law_rule", none)))) := He.eqO_ok (c.fact 7 rfl)
  have a9 : PySem.W.nsIn K mainGlobals "_law_undone" = some (some (.ref (He.fAd K ("_law_undone", none)))) := He.eqO_ok (c.fact 8 rfl)
  have a10 : PySem.W.nsIn K mainGlobals "_law_settled" = some (some (.ref (He.fAd K ("_law_settled", none)))) := He.eqO_ok (c.fact 9 rfl)
  have a11 : PySem.W.nsIn K mainGlobals "_law_place" = some (some (.ref (He.fAd K ("_law_place", none)))) := He.eqO_ok (c.fact 10 rfl)
  have a12 : PySem.W.nsIn K mainGlobals "_law_steps_from" = some (some (.ref (He.fAd K ("_law_steps_from", none)))) := He.eqO_ok (c.fact 11 rfl)
  have a13 : PySem.W.nsIn K mainGlobals "_law_beside" = some (some (.ref (He.fAd K ("_law_beside", none)))) := He.eqO_ok (c.fact 12 rfl)
  have a14 : PySem.W.nsIn K mainGlobals "_law_draw" = some (some (.ref (He.fAd K ("_law_draw", none)))) := He.eqO_ok (c.fact 13 rfl)
  have a15 : PySem.W.nsIn K mainGlobals "_law_names" = some (some (.ref (He.fAd K ("_law_names", none)))) := He.eqO_ok (c.fact 14 rfl)
  have a16 : PySem.W.nsIn K mainGlobals "_law_pick" = some (some (.ref (He.fAd K ("_law_pick", none)))) := He.eqO_ok (c.fact 15 rfl)
  have a17 : PySem.W.nsIn K mainGlobals "_law_number" = some (some (.ref (He.fAd K ("_law_number", none)))) := He.eqO_ok (c.fact 16 rfl)
  have a18 : PySem.W.nsIn K mainGlobals "_law_drawn_web" = some (some (.ref (He.fAd K ("_law_drawn_web", none)))) := He.eqO_ok (c.fact 17 rfl)
  have a19 : PySem.W.nsIn K mainGlobals "_law_flow" = some (some (.ref (He.fAd K ("_law_flow", none)))) := He.eqO_ok (c.fact 18 rfl)
  have a20 : PySem.W.nsIn K mainGlobals "_law_same" = some (some (.ref (He.fAd K ("_law_same", none)))) := He.eqO_ok (c.fact 19 rfl)
  have a21 : PySem.W.nsIn K mainGlobals "_law_turns" = some (some (.ref (He.fAd K ("_law_turns", none)))) := He.eqO_ok (c.fact 20 rfl)
  have a22 : PySem.W.nsIn K mainGlobals "_law_drawn_row" = some (some (.ref (He.fAd K ("_law_drawn_row", none)))) := He.eqO_ok (c.fact 21 rfl)
  have a23 : PySem.W.nsIn K mainGlobals "_law_some_place" = some (some (.ref (He.fAd K ("_law_some_place", none)))) := He.eqO_ok (c.fact 22 rfl)
  have a24 : PySem.W.findIn K (.ref (He.ga K "Web")) "__init__" = some (some (.ref (He.fAd K ("Web", some "__init__")))) := He.eqO_ok (c.fact 23 rfl)
  have i24 : PySem.W.isFn K (.ref (He.fAd K ("Web", some "__init__"))) = true := c.fact 24 rfl
  have a25 : PySem.W.nsIn K mainGlobals "is_name" = some (some (.ref (He.fAd K ("is_name", none)))) := He.eqO_ok (c.fact 25 rfl)
  have a26 : PySem.W.findIn K (.ref (He.ga K "Web")) "need_new" = some (some (.ref (He.fAd K ("Web", some "need_new")))) := He.eqO_ok (c.fact 26 rfl)
  have i26 : PySem.W.isFn K (.ref (He.fAd K ("Web", some "need_new"))) = true := c.fact 27 rfl
  have a27 : PySem.W.findIn K (.ref (He.ga K "Web")) "need_yard" = some (some (.ref (He.fAd K ("Web", some "need_yard")))) := He.eqO_ok (c.fact 28 rfl)
  have i27 : PySem.W.isFn K (.ref (He.fAd K ("Web", some "need_yard"))) = true := c.fact 29 rfl
  have a28 : PySem.W.findIn K (.ref (He.ga K "Web")) "turned" = some (some (.ref (He.fAd K ("Web", some "turned")))) := He.eqO_ok (c.fact 30 rfl)
  have i28 : PySem.W.isFn K (.ref (He.fAd K ("Web", some "turned"))) = true := c.fact 31 rfl
  have a29 : PySem.W.nsIn K mainGlobals "is_whole" = some (some (.ref (He.fAd K ("is_whole", none)))) := He.eqO_ok (c.fact 32 rfl)
  have a30 : PySem.W.nsIn K mainGlobals "need_turns" = some (some (.ref (He.fAd K ("need_turns", none)))) := He.eqO_ok (c.fact 33 rfl)
  have a31 : PySem.W.findIn K (.ref (He.ga K "Web")) "with_passage" = some (some (.ref (He.fAd K ("Web", some "with_passage")))) := He.eqO_ok (c.fact 34 rfl)
  have i31 : PySem.W.isFn K (.ref (He.fAd K ("Web", some "with_passage"))) = true := c.fact 35 rfl
  have a32 : PySem.W.findIn K (.ref (He.ga K "Web")) "with_yard" = some (some (.ref (He.fAd K ("Web", some "with_yard")))) := He.eqO_ok (c.fact 36 rfl)
  have i32 : PySem.W.isFn K (.ref (He.fAd K ("Web", some "with_yard"))) = true := c.fact 37 rfl
  have a33 : PySem.W.nsIn K mainGlobals "_law_web" = some (some (.ref (He.fAd K ("_law_web", none)))) := He.eqO_ok (c.fact 38 rfl)
  have a34 : PySem.W.findIn K (.ref (He.ga K "Web")) "road_of" = some (some (.ref (He.fAd K ("Web", some "road_of")))) := He.eqO_ok (c.fact 39 rfl)
  have i34 : PySem.W.isFn K (.ref (He.fAd K ("Web", some "road_of"))) = true := c.fact 40 rfl
  have a35 : PySem.W.findIn K (.ref (He.ga K "Web")) "turned_so" = some (some (.ref (He.fAd K ("Web", some "turned_so")))) := He.eqO_ok (c.fact 41 rfl)
  have i35 : PySem.W.isFn K (.ref (He.fAd K ("Web", some "turned_so"))) = true := c.fact 42 rfl
  have a36 : PySem.W.findIn K (.ref (He.ga K "Web")) "ends" = some (some (.ref (He.fAd K ("Web", some "ends")))) := He.eqO_ok (c.fact 43 rfl)
  have i36 : PySem.W.isFn K (.ref (He.fAd K ("Web", some "ends"))) = true := c.fact 44 rfl
  have a37 : PySem.W.findIn K (.ref (He.ga K "Web")) "rule" = some (some (.ref (He.fAd K ("Web", some "rule")))) := He.eqO_ok (c.fact 45 rfl)
  have i37 : PySem.W.isFn K (.ref (He.fAd K ("Web", some "rule"))) = true := c.fact 46 rfl
  have a38 : PySem.W.nsIn K mainGlobals "rule_from" = some (some (.ref (He.fAd K ("rule_from", none)))) := He.eqO_ok (c.fact 47 rfl)
  have a39 : PySem.W.nsIn K mainGlobals "undone" = some (some (.ref (He.fAd K ("undone", none)))) := He.eqO_ok (c.fact 48 rfl)
  have a40 : PySem.W.nsIn K mainGlobals "yard_of" = some (some (.ref (He.fAd K ("yard_of", none)))) := He.eqO_ok (c.fact 49 rfl)
  have a41 : PySem.W.nsIn K mainGlobals "need_place" = some (some (.ref (He.fAd K ("need_place", none)))) := He.eqO_ok (c.fact 50 rfl)
  have a42 : PySem.W.nsIn K mainGlobals "shared" = some (some (.ref (He.fAd K ("shared", none)))) := He.eqO_ok (c.fact 51 rfl)
  have a43 : PySem.W.nsIn K mainGlobals "far" = some (some (.ref (He.fAd K ("far", none)))) := He.eqO_ok (c.fact 52 rfl)
  have a44 : PySem.W.findIn K (.ref (He.ga K "Web")) "steps_from" = some (some (.ref (He.fAd K ("Web", some "steps_from")))) := He.eqO_ok (c.fact 53 rfl)
  have i44 : PySem.W.isFn K (.ref (He.fAd K ("Web", some "steps_from"))) = true := c.fact 54 rfl
  have a45 : PySem.W.nsIn K mainGlobals "neighbours" = some (some (.ref (He.fAd K ("neighbours", none)))) := He.eqO_ok (c.fact 55 rfl)
  have a46 : PySem.W.nsIn K mainGlobals "law" = some (some (.ref (He.fAd K ("law", none)))) := He.eqO_ok (c.fact 56 rfl)
  have gWeb : PySem.W.nsIn K mainGlobals "Web" = some (some (.ref (He.ga K "Web"))) := He.eqO_ok (c.fact 57 rfl)
  have pgWeb : PySem.W.plainGet K (He.ga K "Web") Str.empty = true := c.fact 58 rfl
  have hdWeb : PySem.W.hasDictIn K (He.ga K "Web") = true := c.fact 59 rfl
  have poWeb : PySem.W.plainOver K (He.ga K "Web") = true := c.fact 60 rfl
  have saWeb : PySem.W.findIn K (.ref (He.ga K "Web")) "__setattr__" = some (some (.builtin "object.__setattr__")) := He.eqO_ok (c.fact 61 rfl)
  have haWeb : PySem.W.findIn K (.ref (He.ga K "Web")) "__class__" = some (some (.builtin "object.__class__")) := He.eqO_ok (c.fact 62 rfl)
  have hmWeb : PySem.W.mroIn K (He.ga K "Web") (.type "object") = some true := of_decide_eq_true (c.fact 63 rfl)
  have miWeb : PySem.W.makesIn K (He.ga K "Web") = true := c.fact 64 rfl
  have kcWeb : PySem.W.keepIn K (.ref (He.ga K "Web")) = true := c.fact 65 rfl
  have na_Web_places : PySem.W.findIn K (.ref (He.ga K "Web")) "places" = some none := He.eqO_ok (c.fact 66 rfl)
  have na_Web_roads : PySem.W.findIn K (.ref (He.ga K "Web")) "roads" = some none := He.eqO_ok (c.fact 67 rfl)
  have hn : PySem.W.specialIn K (.builtin "object.__class__") "__get__" = some (some (.builtin "getset_descriptor.__get__")) := He.eqO_ok (c.fact 68 rfl)
  have htk : PySem.W.takesIn K (.builtin "object.__class__") = some true := of_decide_eq_true (c.fact 69 rfl)
  have cb : clsB K [("Web", (He.ga K "Web"))] = true := c.fact 70 rfl
  have zrange : PySem.W.nsIn K mainGlobals "range" = some none := He.eqO_ok (c.fact 71 rfl)
  have zsum : PySem.W.nsIn K mainGlobals "sum" = some none := He.eqO_ok (c.fact 72 rfl)
  have zabs : PySem.W.nsIn K mainGlobals "abs" = some none := He.eqO_ok (c.fact 73 rfl)
  have zlen : PySem.W.nsIn K mainGlobals "len" = some none := He.eqO_ok (c.fact 74 rfl)
  have zset : PySem.W.nsIn K mainGlobals "set" = some none := He.eqO_ok (c.fact 75 rfl)
  have zlist : PySem.W.nsIn K mainGlobals "list" = some none := He.eqO_ok (c.fact 76 rfl)
  have ztuple : PySem.W.nsIn K mainGlobals "tuple" = some none := He.eqO_ok (c.fact 77 rfl)
  have zisinstance : PySem.W.nsIn K mainGlobals "isinstance" = some none := He.eqO_ok (c.fact 78 rfl)
  have zbool : PySem.W.nsIn K mainGlobals "bool" = some none := He.eqO_ok (c.fact 79 rfl)
  have zint : PySem.W.nsIn K mainGlobals "int" = some none := He.eqO_ok (c.fact 80 rfl)
  have zstr : PySem.W.nsIn K mainGlobals "str" = some none := He.eqO_ok (c.fact 81 rfl)
  have zall : PySem.W.nsIn K mainGlobals "all" = some none := He.eqO_ok (c.fact 82 rfl)
  have cMOST_PASSAGES := He.int_ok X G (c.fact 83 rfl)
  have cLETTERS := He.str_ok X G (c.fact 84 rfl)
  have cLONGEST_NAME := He.int_ok X G (c.fact 85 rfl)
  have cMOST_TURNS := He.int_ok X G (c.fact 86 rfl)
  have cMOST_YARDS := He.int_ok X G (c.fact 87 rfl)
  have cLONGEST := He.int_ok X G (c.fact 88 rfl)
  have e := hfa.symm.trans (PySem.W.mg_of X G a46)
  have e2 : (He.fAd K ("law", none)) = fa := by cases e; rfl
  subst e2
  obtain ⟨d1, FD1⟩ := c.def_ 0 rfl
  have F1 : Fun K "_law_laid" "_law_laid" s_law_laid (He.fAd K ("_law_laid", none)) d1 := funOfD FD1
  have b1 := F1.binds (ps := ["_law_pairs", "_law_now"]) fun _ _ _ _ _ _ us hl => match us, hl with | [_, _], _ => rfl
  obtain ⟨d2, FD2⟩ := c.def_ 1 rfl
  have F2 : Fun K "_law_place_row" "_law_place_row" s_law_place_row (He.fAd K ("_law_place_row", none)) d2 := funOfD FD2
  have b2 := F2.binds (ps := ["_law_place_here"]) fun _ _ _ _ _ _ us hl => match us, hl with | [_], _ => rfl
  obtain ⟨d3, FD3⟩ := c.def_ 2 rfl
  have F3 : Fun K "_law_road" "_law_road" s_law_road (He.fAd K ("_law_road", none)) d3 := funOfD FD3
  have b3 := F3.binds (ps := ["_law_m", "_law_name"]) fun _ _ _ _ _ _ us hl => match us, hl with | [_, _], _ => rfl
  obtain ⟨d4, FD4⟩ := c.def_ 3 rfl
  have F4 : Fun K "_law_ends" "_law_ends" s_law_ends (He.fAd K ("_law_ends", none)) d4 := funOfD FD4
  have b4 := F4.binds (ps := ["_law_m", "_law_step"]) fun _ _ _ _ _ _ us hl => match us, hl with | [_, _], _ => rfl
  obtain ⟨d5, FD5⟩ := c.def_ 4 rfl
  have F5 : Fun K "_law_yards_on" "_law_yards_on" s_law_yards_on (He.fAd K ("_law_yards_on", none)) d5 := funOfD FD5
  have b5 := F5.binds (ps := ["_law_m", "_law_start", "_law_row"]) fun _ _ _ _ _ _ us hl => match us, hl with | [_, _, _], _ => rfl
  obtain ⟨d6, FD6⟩ := c.def_ 5 rfl
  have F6 : Fun K "_law_end_of" "_law_end_of" s_law_end_of (He.fAd K ("_law_end_of", none)) d6 := funOfD FD6
  have b6 := F6.binds (ps := ["_law_m", "_law_root", "_law_place_here"]) fun _ _ _ _ _ _ us hl => match us, hl with | [_, _, _], _ => rfl
  obtain ⟨d7, FD7⟩ := c.def_ 6 rfl
  have F7 : Fun K "_law_join" "_law_join" s_law_join (He.fAd K ("_law_join", none)) d7 := funOfD FD7
  have b7 := F7.binds (ps := ["_law_row", "_law_other"]) fun _ _ _ _ _ _ us hl => match us, hl with | [_, _], _ => rfl
  obtain ⟨d8, FD8⟩ := c.def_ 7 rfl
  have F8 : Fun K "_law_rule" "_law_rule" s_law_rule (He.fAd K ("_law_rule", none)) d8 := funOfD FD8
  have b8 := F8.binds (ps := ["_law_m", "_law_step"]) fun _ _ _ _ _ _ us hl => match us, hl with | [_, _], _ => rfl
  obtain ⟨d9, FD9⟩ := c.def_ 8 rfl
  have F9 : Fun K "_law_undone" "_law_undone" s_law_undone (He.fAd K ("_law_undone", none)) d9 := funOfD FD9
  have b9 := F9.binds (ps := ["_law_step"]) fun _ _ _ _ _ _ us hl => match us, hl with | [_], _ => rfl
  obtain ⟨d10, FD10⟩ := c.def_ 9 rfl
  have F10 : Fun K "_law_settled" "_law_settled" s_law_settled (He.fAd K ("_law_settled", none)) d10 := funOfD FD10
  have b10 := F10.binds (ps := ["_law_m", "_law_row"]) fun _ _ _ _ _ _ us hl => match us, hl with | [_, _], _ => rfl
  obtain ⟨d11, FD11⟩ := c.def_ 10 rfl
  have F11 : Fun K "_law_place" "_law_place" s_law_place (He.fAd K ("_law_place", none)) d11 := funOfD FD11
  have b11 := F11.binds (ps := ["_law_m", "_law_row"]) fun _ _ _ _ _ _ us hl => match us, hl with | [_, _], _ => rfl
  obtain ⟨d12, FD12⟩ := c.def_ 11 rfl
  have F12 : Fun K "_law_steps_from" "_law_steps_from" s_law_steps_from (He.fAd K ("_law_steps_from", none)) d12 := funOfD FD12
  have b12 := F12.binds (ps := ["_law_m", "_law_yard"]) fun _ _ _ _ _ _ us hl => match us, hl with | [_, _], _ => rfl
  obtain ⟨d13, FD13⟩ := c.def_ 12 rfl
  have F13 : Fun K "_law_beside" "_law_beside" s_law_beside (He.fAd K ("_law_beside", none)) d13 := funOfD FD13
  have b13 := F13.binds (ps := ["_law_m", "_law_root", "_law_place_here"]) fun _ _ _ _ _ _ us hl => match us, hl with | [_, _, _], _ => rfl
  obtain ⟨d14, FD14⟩ := c.def_ 13 rfl
  have F14 : Fun K "_law_draw" "_law_draw" s_law_draw (He.fAd K ("_law_draw", none)) d14 := funOfD FD14
  have b14 := F14.binds (ps := ["_law_flow_here", "_law_size"]) fun _ _ _ _ _ _ us hl => match us, hl with | [_, _], _ => rfl
  obtain ⟨d15, FD15⟩ := c.def_ 14 rfl
  have F15 : Fun K "_law_names" "_law_names" s_law_names (He.fAd K ("_law_names", none)) d15 := funOfD FD15
  have b15 := F15.binds (ps := ["_law_flow_here", "_law_many"]) fun _ _ _ _ _ _ us hl => match us, hl with | [_, _], _ => rfl
  obtain ⟨d16, FD16⟩ := c.def_ 15 rfl
  have F16 : Fun K "_law_pick" "_law_pick" s_law_pick (He.fAd K ("_law_pick", none)) d16 := funOfD FD16
  have b16 := F16.binds (ps := ["_law_flow_here", "_law_lot"]) fun _ _ _ _ _ _ us hl => match us, hl with | [_, _], _ => rfl
  obtain ⟨d17, FD17⟩ := c.def_ 16 rfl
  have F17 : Fun K "_law_number" "_law_number" s_law_number (He.fAd K ("_law_number", none)) d17 := funOfD FD17
  have b17 := F17.binds (ps := ["_law_flow_here", "_law_most_now"]) fun _ _ _ _ _ _ us hl => match us, hl with | [_, _], _ => rfl
  obtain ⟨d18, FD18⟩ := c.def_ 17 rfl
  have F18 : Fun K "_law_drawn_web" "_law_drawn_web" s_law_drawn_web (He.fAd K ("_law_drawn_web", none)) d18 := funOfD FD18
  have b18 := F18.binds (ps := ["_law_flow_here", "_law_many", "_law_more", "_law_most_now"]) fun _ _ _ _ _ _ us hl => match us, hl with | [_, _, _, _], _ => rfl
  obtain ⟨d19, FD19⟩ := c.def_ 18 rfl
  have F19 : Fun K "_law_flow" "_law_flow" s_law_flow (He.fAd K ("_law_flow", none)) d19 := funOfD FD19
  have b19 := F19.binds (ps := ["_law_script"]) fun _ _ _ _ _ _ us hl => match us, hl with | [_], _ => rfl
  obtain ⟨d20, FD20⟩ := c.def_ 19 rfl
  have F20 : Fun K "_law_same" "_law_same" s_law_same (He.fAd K ("_law_same", none)) d20 := funOfD FD20
  have b20 := F20.binds (ps := ["_law_found", "_law_due"]) fun _ _ _ _ _ _ us hl => match us, hl with | [_, _], _ => rfl
  obtain ⟨d21, FD21⟩ := c.def_ 20 rfl
  have F21 : Fun K "_law_turns" "_law_turns" s_law_turns (He.fAd K ("_law_turns", none)) d21 := funOfD FD21
  have b21 := F21.binds (ps := ["_law_flow_here", "_law_far_now"]) fun _ _ _ _ _ _ us hl => match us, hl with | [_, _], _ => rfl
  obtain ⟨d22, FD22⟩ := c.def_ 21 rfl
  have F22 : Fun K "_law_drawn_row" "_law_drawn_row" s_law_drawn_row (He.fAd K ("_law_drawn_row", none)) d22 := funOfD FD22
  have b22 := F22.binds (ps := ["_law_flow_here", "_law_m", "_law_start", "_law_many", "_law_far_now"]) fun _ _ _ _ _ _ us hl => match us, hl with | [_, _, _, _, _], _ => rfl
  obtain ⟨d23, FD23⟩ := c.def_ 22 rfl
  have F23 : Fun K "_law_some_place" "_law_some_place" s_law_some_place (He.fAd K ("_law_some_place", none)) d23 := funOfD FD23
  have b23 := F23.binds (ps := ["_law_flow_here", "_law_m", "_law_root", "_law_most_now"]) fun _ _ _ _ _ _ us hl => match us, hl with | [_, _, _, _], _ => rfl
  obtain ⟨d24, FD24⟩ := c.def_ 23 rfl
  have F24 : Fun K "__init__" "Web.__init__" s_Web_dinit (He.fAd K ("Web", some "__init__")) d24 := funOfD FD24
  have b24 := F24.binds (ps := ["self"]) fun _ _ _ _ _ _ us hl => match us, hl with | [_], _ => rfl
  obtain ⟨d25, FD25⟩ := c.def_ 24 rfl
  have F25 : Fun K "is_name" "is_name" s_is_name (He.fAd K ("is_name", none)) d25 := funOfD FD25
  have b25 := F25.binds (ps := ["text"]) fun _ _ _ _ _ _ us hl => match us, hl with | [_], _ => rfl
  obtain ⟨d26, FD26⟩ := c.def_ 25 rfl
  have F26 : Fun K "need_new" "Web.need_new" s_Web_need_new (He.fAd K ("Web", some "need_new")) d26 := funOfD FD26
  have b26 := F26.binds (ps := ["self", "name"]) fun _ _ _ _ _ _ us hl => match us, hl with | [_, _], _ => rfl
  obtain ⟨d27, FD27⟩ := c.def_ 26 rfl
  have F27 : Fun K "need_yard" "Web.need_yard" s_Web_need_yard (He.fAd K ("Web", some "need_yard")) d27 := funOfD FD27
  have b27 := F27.binds (ps := ["self", "name"]) fun _ _ _ _ _ _ us hl => match us, hl with | [_, _], _ => rfl
  obtain ⟨d28, FD28⟩ := c.def_ 27 rfl
  have F28 : Fun K "turned" "Web.turned" s_Web_turned (He.fAd K ("Web", some "turned")) d28 := funOfD FD28
  have b28 := F28.binds (ps := ["self", "places", "roads"]) fun _ _ _ _ _ _ us hl => match us, hl with | [_, _, _], _ => rfl
  obtain ⟨d29, FD29⟩ := c.def_ 28 rfl
  have F29 : Fun K "is_whole" "is_whole" s_is_whole (He.fAd K ("is_whole", none)) d29 := funOfD FD29
  have b29 := F29.binds (ps := ["thing", "low", "high"]) fun _ _ _ _ _ _ us hl => match us, hl with | [_, _, _], _ => rfl
  obtain ⟨d30, FD30⟩ := c.def_ 29 rfl
  have F30 : Fun K "need_turns" "need_turns" s_need_turns (He.fAd K ("need_turns", none)) d30 := funOfD FD30
  have b30 := F30.binds (ps := ["number"]) fun _ _ _ _ _ _ us hl => match us, hl with | [_], _ => rfl
  obtain ⟨d31, FD31⟩ := c.def_ 30 rfl
  have F31 : Fun K "with_passage" "Web.with_passage" s_Web_with_passage (He.fAd K ("Web", some "with_passage")) d31 := funOfD FD31
  obtain ⟨d32, FD32⟩ := c.def_ 31 rfl
  have F32 : Fun K "with_yard" "Web.with_yard" s_Web_with_yard (He.fAd K ("Web", some "with_yard")) d32 := funOfD FD32
  have b32 := F32.binds (ps := ["self", "name"]) fun _ _ _ _ _ _ us hl => match us, hl with | [_, _], _ => rfl
  obtain ⟨d33, FD33⟩ := c.def_ 32 rfl
  have F33 : Fun K "_law_web" "_law_web" s_law_web (He.fAd K ("_law_web", none)) d33 := funOfD FD33
  have b33 := F33.binds (ps := ["_law_m"]) fun _ _ _ _ _ _ us hl => match us, hl with | [_], _ => rfl
  obtain ⟨d34, FD34⟩ := c.def_ 33 rfl
  have F34 : Fun K "road_of" "Web.road_of" s_Web_road_of (He.fAd K ("Web", some "road_of")) d34 := funOfD FD34
  have b34 := F34.binds (ps := ["self", "name"]) fun _ _ _ _ _ _ us hl => match us, hl with | [_, _], _ => rfl
  obtain ⟨d35, FD35⟩ := c.def_ 34 rfl
  have F35 : Fun K "turned_so" "Web.turned_so" s_Web_turned_so (He.fAd K ("Web", some "turned_so")) d35 := funOfD FD35
  have b35 := F35.binds (ps := ["self", "step", "at"]) fun _ _ _ _ _ _ us hl => match us, hl with | [_, _, _], _ => rfl
  obtain ⟨d36, FD36⟩ := c.def_ 35 rfl
  have F36 : Fun K "ends" "Web.ends" s_Web_ends (He.fAd K ("Web", some "ends")) d36 := funOfD FD36
  have b36 := F36.binds (ps := ["self", "step"]) fun _ _ _ _ _ _ us hl => match us, hl with | [_, _], _ => rfl
  obtain ⟨d37, FD37⟩ := c.def_ 36 rfl
  have F37 : Fun K "rule" "Web.rule" s_Web_rule (He.fAd K ("Web", some "rule")) d37 := funOfD FD37
  have b37 := F37.binds (ps := ["self", "step"]) fun _ _ _ _ _ _ us hl => match us, hl with | [_, _], _ => rfl
  obtain ⟨d38, FD38⟩ := c.def_ 37 rfl
  have F38 : Fun K "rule_from" "rule_from" s_rule_from (He.fAd K ("rule_from", none)) d38 := funOfD FD38
  have b38 := F38.binds (ps := ["web", "yard", "step"]) fun _ _ _ _ _ _ us hl => match us, hl with | [_, _, _], _ => rfl
  obtain ⟨d39, FD39⟩ := c.def_ 38 rfl
  have F39 : Fun K "undone" "undone" s_undone (He.fAd K ("undone", none)) d39 := funOfD FD39
  have b39 := F39.binds (ps := ["step"]) fun _ _ _ _ _ _ us hl => match us, hl with | [_], _ => rfl
  obtain ⟨d40, FD40⟩ := c.def_ 39 rfl
  have F40 : Fun K "yard_of" "yard_of" s_yard_of (He.fAd K ("yard_of", none)) d40 := funOfD FD40
  have b40 := F40.binds (ps := ["web", "root", "place"]) fun _ _ _ _ _ _ us hl => match us, hl with | [_, _, _], _ => rfl
  obtain ⟨d41, FD41⟩ := c.def_ 40 rfl
  have F41 : Fun K "need_place" "need_place" s_need_place (He.fAd K ("need_place", none)) d41 := funOfD FD41
  have b41 := F41.binds (ps := ["web", "root", "place"]) fun _ _ _ _ _ _ us hl => match us, hl with | [_, _, _], _ => rfl
  obtain ⟨d42, FD42⟩ := c.def_ 41 rfl
  have F42 : Fun K "shared" "shared" s_shared (He.fAd K ("shared", none)) d42 := funOfD FD42
  have b42 := F42.binds (ps := ["one", "other"]) fun _ _ _ _ _ _ us hl => match us, hl with | [_, _], _ => rfl
  obtain ⟨d43, FD43⟩ := c.def_ 42 rfl
  have F43 : Fun K "far" "far" s_far (He.fAd K ("far", none)) d43 := funOfD FD43
  have b43 := F43.binds (ps := ["web", "root", "one", "other"]) fun _ _ _ _ _ _ us hl => match us, hl with | [_, _, _, _], _ => rfl
  obtain ⟨d44, FD44⟩ := c.def_ 43 rfl
  have F44 : Fun K "steps_from" "Web.steps_from" s_Web_steps_from (He.fAd K ("Web", some "steps_from")) d44 := funOfD FD44
  have b44 := F44.binds (ps := ["self", "yard"]) fun _ _ _ _ _ _ us hl => match us, hl with | [_, _], _ => rfl
  obtain ⟨d45, FD45⟩ := c.def_ 44 rfl
  have F45 : Fun K "neighbours" "neighbours" s_neighbours (He.fAd K ("neighbours", none)) d45 := funOfD FD45
  have b45 := F45.binds (ps := ["web", "root", "place"]) fun _ _ _ _ _ _ us hl => match us, hl with | [_, _, _], _ => rfl
  obtain ⟨d46, FD46⟩ := c.def_ 45 rfl
  have F46 : Fun K "law" "law" s_law (He.fAd K ("law", none)) d46 := funOfD FD46
  have b46 := F46.binds (ps := ["_law_script"]) fun _ _ _ _ _ _ us hl => match us, hl with | [_], _ => rfl
  have kb0_Web_with_passage := fun_kbn (ps := ["self", "name", "begin", "end", "here", "there"]) (ks := ["there", "here"]) F31 4 [1, 0] fun _ _ _ _ _ _ us ws hl hw => match us, hl with | [_, _, _, _], _ => match ws, hw with | [_, _], _ => rfl
  have T : Tx K mg ⟨(He.fAd K ("_law_laid", none)), d1, (He.fAd K ("_law_place_row", none)), d2, (He.fAd K ("_law_road", none)), d3, (He.fAd K ("_law_ends", none)), d4, (He.fAd K ("_law_yards_on", none)), d5, (He.fAd K ("_law_end_of", none)), d6, (He.fAd K ("_law_join", none)), d7, (He.fAd K ("_law_rule", none)), d8, (He.fAd K ("_law_undone", none)), d9, (He.fAd K ("_law_settled", none)), d10, (He.fAd K ("_law_place", none)), d11, (He.fAd K ("_law_steps_from", none)), d12, (He.fAd K ("_law_beside", none)), d13, (He.fAd K ("_law_draw", none)), d14, (He.fAd K ("_law_names", none)), d15, (He.fAd K ("_law_pick", none)), d16, (He.fAd K ("_law_number", none)), d17, (He.fAd K ("_law_drawn_web", none)), d18, (He.fAd K ("_law_flow", none)), d19, (He.fAd K ("_law_same", none)), d20, (He.fAd K ("_law_turns", none)), d21, (He.fAd K ("_law_drawn_row", none)), d22, (He.fAd K ("_law_some_place", none)), d23, (He.fAd K ("Web", some "__init__")), d24, (He.fAd K ("is_name", none)), d25, (He.fAd K ("Web", some "need_new")), d26, (He.fAd K ("Web", some "need_yard")), d27, (He.fAd K ("Web", some "turned")), d28, (He.fAd K ("is_whole", none)), d29, (He.fAd K ("need_turns", none)), d30, (He.fAd K ("Web", some "with_passage")), d31, (He.fAd K ("Web", some "with_yard")), d32, (He.fAd K ("_law_web", none)), d33, (He.fAd K ("Web", some "road_of")), d34, (He.fAd K ("Web", some "turned_so")), d35, (He.fAd K ("Web", some "ends")), d36, (He.fAd K ("Web", some "rule")), d37, (He.fAd K ("rule_from", none)), d38, (He.fAd K ("undone", none)), d39, (He.fAd K ("yard_of", none)), d40, (He.fAd K ("need_place", none)), d41, (He.fAd K ("shared", none)), d42, (He.fAd K ("far", none)), d43, (He.fAd K ("Web", some "steps_from")), d44, (He.fAd K ("neighbours", none)), d45, (He.fAd K ("law", none)), d46, He.ga K "Web"⟩ := {
    F_law_laid := F1, g_law_laid := PySem.W.mg_of X G a1, b_law_laid := b1,
    F_law_place_row := F2, g_law_place_row := PySem.W.mg_of X G a2, b_law_place_row := b2,
    F_law_road := F3, g_law_road := PySem.W.mg_of X G a3, b_law_road := b3,
    F_law_ends := F4, g_law_ends := PySem.W.mg_of X G a4, b_law_ends := b4,
    F_law_yards_on := F5, g_law_yards_on := PySem.W.mg_of X G a5, b_law_yards_on := b5,
    F_law_end_of := F6, g_law_end_of := PySem.W.mg_of X G a6, b_law_end_of := b6,
    F_law_join := F7, g_law_join := PySem.W.mg_of X G a7, b_law_join := b7,
    F_law_rule := F8, g_law_rule := PySem.W.mg_of X G a8, b_law_rule := b8,
    F_law_undone := F9, g_law_undone := PySem.W.mg_of X G a9, b_law_undone := b9,
    F_law_settled := F10, g_law_settled := PySem.W.mg_of X G a10, b_law_settled := b10,
    F_law_place := F11, g_law_place := PySem.W.mg_of X G a11, b_law_place := b11,
    F_law_steps_from := F12, g_law_steps_from := PySem.W.mg_of X G a12, b_law_steps_from := b12,
    F_law_beside := F13, g_law_beside := PySem.W.mg_of X G a13, b_law_beside := b13,
    F_law_draw := F14, g_law_draw := PySem.W.mg_of X G a14, b_law_draw := b14,
    F_law_names := F15, g_law_names := PySem.W.mg_of X G a15, b_law_names := b15,
    F_law_pick := F16, g_law_pick := PySem.W.mg_of X G a16, b_law_pick := b16,
    F_law_number := F17, g_law_number := PySem.W.mg_of X G a17, b_law_number := b17,
    F_law_drawn_web := F18, g_law_drawn_web := PySem.W.mg_of X G a18, b_law_drawn_web := b18,
    F_law_flow := F19, g_law_flow := PySem.W.mg_of X G a19, b_law_flow := b19,
    F_law_same := F20, g_law_same := PySem.W.mg_of X G a20, b_law_same := b20,
    F_law_turns := F21, g_law_turns := PySem.W.mg_of X G a21, b_law_turns := b21,
    F_law_drawn_row := F22, g_law_drawn_row := PySem.W.mg_of X G a22, b_law_drawn_row := b22,
    F_law_some_place := F23, g_law_some_place := PySem.W.mg_of X G a23, b_law_some_place := b23,
    F_Web_dinit := F24, mk_Web := ⟨miWeb, a24, i24, kcWeb⟩, b_Web_dinit := b24,
    F_is_name := F25, g_is_name := PySem.W.mg_of X G a25, b_is_name := b25,
    F_Web_need_new := F26, me_Web_need_new := ⟨a26, i26, F26.kp⟩, b_Web_need_new := b26,
    F_Web_need_yard := F27, me_Web_need_yard := ⟨a27, i27, F27.kp⟩, b_Web_need_yard := b27,
    F_Web_turned := F28, me_Web_turned := ⟨a28, i28, F28.kp⟩, b_Web_turned := b28,
    F_is_whole := F29, g_is_whole := PySem.W.mg_of X G a29, b_is_whole := b29,
    F_need_turns := F30, g_need_turns := PySem.W.mg_of X G a30, b_need_turns := b30,
    F_Web_with_passage := F31, me_Web_with_passage := ⟨a31, i31, F31.kp⟩,
    F_Web_with_yard := F32, me_Web_with_yard := ⟨a32, i32, F32.kp⟩, b_Web_with_yard := b32,
    F_law_web := F33, g_law_web := PySem.W.mg_of X G a33, b_law_web := b33,
    F_Web_road_of := F34, me_Web_road_of := ⟨a34, i34, F34.kp⟩, b_Web_road_of := b34,
    F_Web_turned_so := F35, me_Web_turned_so := ⟨a35, i35, F35.kp⟩, b_Web_turned_so := b35,
    F_Web_ends := F36, me_Web_ends := ⟨a36, i36, F36.kp⟩, b_Web_ends := b36,
    F_Web_rule := F37, me_Web_rule := ⟨a37, i37, F37.kp⟩, b_Web_rule := b37,
    F_rule_from := F38, g_rule_from := PySem.W.mg_of X G a38, b_rule_from := b38,
    F_undone := F39, g_undone := PySem.W.mg_of X G a39, b_undone := b39,
    F_yard_of := F40, g_yard_of := PySem.W.mg_of X G a40, b_yard_of := b40,
    F_need_place := F41, g_need_place := PySem.W.mg_of X G a41, b_need_place := b41,
    F_shared := F42, g_shared := PySem.W.mg_of X G a42, b_shared := b42,
    F_far := F43, g_far := PySem.W.mg_of X G a43, b_far := b43,
    F_Web_steps_from := F44, me_Web_steps_from := ⟨a44, i44, F44.kp⟩, b_Web_steps_from := b44,
    F_neighbours := F45, g_neighbours := PySem.W.mg_of X G a45, b_neighbours := b45,
    F_law := F46, g_law := PySem.W.mg_of X G a46, b_law := b46,
    kb0_Web_with_passage := kb0_Web_with_passage,
    g_Web := PySem.W.mg_of X G gWeb, cF_Web := ⟨pgWeb, hdWeb, poWeb, saWeb, haWeb, hmWeb⟩,
    na_Web_places := na_Web_places,
    na_Web_roads := na_Web_roads,
    cb := cb, hn := hn, htk := htk,
    z_range := PySem.W.mg_none_of X G zrange,
    z_sum := PySem.W.mg_none_of X G zsum,
    z_abs := PySem.W.mg_none_of X G zabs,
    z_len := PySem.W.mg_none_of X G zlen,
    z_set := PySem.W.mg_none_of X G zset,
    z_list := PySem.W.mg_none_of X G zlist,
    z_tuple := PySem.W.mg_none_of X G ztuple,
    z_isinstance := PySem.W.mg_none_of X G zisinstance,
    z_bool := PySem.W.mg_none_of X G zbool,
    z_int := PySem.W.mg_none_of X G zint,
    z_str := PySem.W.mg_none_of X G zstr,
    z_all := PySem.W.mg_none_of X G zall,
    c_MOST_PASSAGES := cMOST_PASSAGES,
    c_LETTERS := cLETTERS,
    c_LONGEST_NAME := cLONGEST_NAME,
    c_MOST_TURNS := cMOST_TURNS,
    c_MOST_YARDS := cMOST_YARDS,
    c_LONGEST := cLONGEST }
  have bA := FunD.bindsA (ps := ["_law_script"]) FD46 fun _ _ _ _ _ _ us hl => match us, hl with | [_], _ => rfl
  refine ⟨_, fun s v => ?_, fun base _ _ => law_sp (G := Gx K _) rfl (ok_law T) law_true⟩
  exact bA s [v] rfl
end Lw
open PySem PySem.W PySem.Calls PyProof.Rows in
set_option maxRecDepth 100000 in
set_option maxHeartbeats 0 in
theorem PySem.Challenge.cw_hawserweb_k24_places_beside_holds : PySem.Challenge.rw_hawserweb_k24_places_beside.Holds := by
  w_on; o_law
  refine HandSHeadRun.head_any (r := Lw.hRow) (q := view Lw.hRow.prog [57]) (H := Lw.hk) (ob := Lw.hOb) (M := 60000) (loose := Lw.hNames) (d := HandSHeadRun.topDef Lw.hRow.prog 57) (kwd := []) Lw.hOb_eq
    (by kernel_rfl) (fun s => by kernel_rfl) Lw.hRun (by kernel_rfl) (by kernel_rfl) (by kernel_rfl) (by rfl) (by first | assumption | decide +kernel) (by decide +kernel) ⟨rfl, rfl, rfl, rfl, rfl, by decide +kernel⟩ ?hw ?hc
  case hw => w_witness2
  case hc =>
    refine Dv.walk_lawE (l := PySem.Challenge.rw_hawserweb_k24_places_beside) (k := 22) (x := "_law_script") rfl (by kernel_rfl) ⟨rfl, by decide, by decide⟩ ?F
    intro w mg fa h Y G hmg0
    obtain ⟨K, KX, c⟩ := Y
    have hmg : mg ("law" : PySem.Str) = some (.ref fa) := by
      have e : (HandSHeadRun.topDef Lw.hRow.prog 57).name = ("law" : PySem.Str) := by kernel_rfl
      rw [← e]
      exact hmg0
    obtain ⟨fd, hb, hF⟩ := Lw.all_of (l := PySem.Challenge.rw_hawserweb_k24_places_beside) (w := w) KX G hmg c
    exact ⟨K, fd, KX, hb, hF⟩
