import PyProof.Rows.All
import PySem.Challenge.RW_hawserweb_k72_whole_bounds_as_they_are_n
import Wide.All
import OpenK.AllK
import Wide.FinOn
import HandS.ForMost
import HandS.Wide
import HandS.Exc
import HandS.ExcOwn
import HandS.ExcInit
import HandS.Head0
import HandS.Head1
import HandS.Head2
import HandS.HeadEnd
import HandS.HeadHook1
import HandS.HeadHook2
import KE.KNestM
import KE.KTryMore
import HandS.ExcField
import KE.KExcInit
import HandS.HeadHook3
import HandS.TryOnly
import HandS.TryMany
import HandS.WordsExc
import HandS.CallSlots
import HandS.TupAny
import HandS.IsInst
import HandS.Flow
import HandS.Lambda
import HandS.Style
import HandS.FStr
import HandS.RaiseMore
import HandS.Dict
import KE.KUnpackStar
import HandS.Iter
import KE.GoesEnumKw
import HandS.Defaults
import HandS.OwnEq
import KE.GoesMore
import KE.GoesEnum
import HandS.Deep
import HandS.HeadWalk
import KE.KExcStr
import HandS.Small
import HandS.List
import HandS.DictEq
import HandS.DeepEq
import PyProof.P3Eq
import HandS.WrittenGet
import HandS.TupMul
import HandS.More
import PyProof.StrBlock2
import HandS.Text
import HandS.TupLen
import KE.KDictDisplayH
import PyProof.EqAt
import PyProof.EqKinds
set_option Elab.async false
set_option linter.all false
set_option maxRecDepth 100000
set_option maxHeartbeats 4000000
set_option autoImplicit false
/-! what the head decides: ahead of all else, for its run wants room -/
namespace Dv
open PySem PySem.Spec PyProof.Rows L2
abbrev tys : List String := ["NoneType", "bool", "int", "str", "tuple", "list", "dict"]
abbrev clss : List String := ["bool", "int", "str", "tuple", "list", "dict"]
/-- the classes' addresses by name -/
abbrev CL := List (String × Addr)
def clsB (K : PySem.W.Frag) (L : CL) : Bool := L.all fun p => tys.all (fun t => PySem.W.kitOne K (.type t) (.ref p.2) == some false) && clss.all (fun t => PySem.W.kitOne K (.ref p.2) (.type t) == some false) &&
  L.all fun q => PySem.W.kitOne K (.ref p.2) (.ref q.2) == some (p.1 == q.1)
abbrev Test : Type := PySem.W.Frag → Bool
def obsL (fs : List Test) (fn : List He.DefD) (K : PySem.W.Frag) : He.AlD := ((fs.all fun f => f K) && fn.all fun d => d.ok K, fn.map fun d => He.fnW K d.at_)
def SaysL (fs : List Test) (fn : List He.DefD) (K : PySem.W.Frag) : Prop := obsL fs fn K = He.valD fn
def obsLG (as : List Addr) (fs : List Test) (fn : List He.DefD) (g : Addr → Option Obj) : He.AlD := obsL fs fn (He.frG g as)
def hookL (as : List Addr) (fs : List Test) (fn : List He.DefD) : PySem.W.Hook where
  α := He.AlD
  obs := fun s => obsLG as fs fn s.heap.get?
  val := fun _ => He.valD fn
  says := fun _ h => ∃ K : PySem.W.Frag, K.In h ∧ SaysL fs fn K
  of := fun _ _ e => ⟨_, He.frG_in, e⟩
  keeps := fun _ _ _ ⟨K, hK, c⟩ k => ⟨K, PySem.W.Frag.In.keeps hK k, c⟩
theorem obsLG_eq {as : List Addr} {fs : List Test} {fn : List He.DefD} {g : Addr → Option Obj} {s : Shared} (h : ∀ a, g a = s.heap.get? a) : obsLG as fs fn g = (hookL as fs fn).obs s := by
  have e : g = s.heap.get? := funext h
  rw [e] <;> rfl
/-! ### tables of code objects: left out of K -/
/-! ### a world whose answer to one question is told -/
def w1 (w : World) (b : Bool) : World := { w with params := { w.params with followText := fun s => match decide (s = "special-get-raises") with
  | true => b
  | false => w.params.followText s } }
/-! ### tables of the top with text keys -/
abbrev TabD : Type := (PySem.W.Frag → Addr) × List Str
def SaysW (ts : List TabD) (w : World) (K : PySem.W.Frag) : Prop := (ts.map fun t => He.dicW K (t.1 K)) = ts.map fun t => some (He.keysIn w.params t.2)
theorem SaysW.tab {ts : List TabD} {w : World} {K : PySem.W.Frag} (c : SaysW ts w K) (i : Nat) {t : TabD} (h : ts[i]? = some t := by rfl) : He.dicW K (t.1 K) = some (He.keysIn w.params t.2) := by
  have e2 : (ts.map fun t => He.dicW K (t.1 K))[i]? = (ts.map fun t => some (He.keysIn w.params t.2))[i]? := by rw [show (ts.map fun t => He.dicW K (t.1 K)) = _ from c]
  rw [List.getElem?_map, List.getElem?_map, h] at e2
  exact Option.some.inj e2
end Dv
set_option Elab.async false
set_option linter.all false
set_option maxRecDepth 100000
set_option maxHeartbeats 4000000
set_option autoImplicit false
namespace Lw
open PySem PySem.Spec PyProof.Rows L2 Dv
def topS (i : Nat) : Stmt := PySem.Challenge.pw_hawserweb_k72_whole_bounds_as_they_are_n.main.body.getD i (.Pass ⟨0, 0, 0, 0⟩)
abbrev s_Web_need_yard : Stmt := inClass (topS 38) 6
theorem sc_Web_need_yard : FnScope ["self", "name"] ["self", "name"] (defScope s_Web_need_yard) := ⟨rfl, rfl, rfl, by decide +kernel, rfl, by decide +kernel, by decide +kernel⟩
abbrev s_need_form : Stmt := topS 40
theorem sc_need_form : FnScope ["row", "at", "thing"] ["row"] (defScope s_need_form) := ⟨rfl, rfl, rfl, by decide +kernel, rfl, by decide +kernel, by decide +kernel⟩
abbrev s_Web_road_of : Stmt := inClass (topS 38) 13
theorem sc_Web_road_of : FnScope ["self", "name", "road"] ["self", "name"] (defScope s_Web_road_of) := ⟨rfl, rfl, rfl, by decide +kernel, rfl, by decide +kernel, by decide +kernel⟩
abbrev s_Web_turned_so : Stmt := inClass (topS 38) 16
theorem sc_Web_turned_so : FnScope ["self", "step", "at", "name", "way", "road"] ["self", "step", "at"] (defScope s_Web_turned_so) := ⟨rfl, rfl, rfl, by decide +kernel, rfl, by decide +kernel, by decide +kernel⟩
abbrev s_Web_ends : Stmt := inClass (topS 38) 14
theorem sc_Web_ends : FnScope ["self", "step"] ["self", "step"] (defScope s_Web_ends) := ⟨rfl, rfl, rfl, by decide +kernel, rfl, by decide +kernel, by decide +kernel⟩
abbrev s_yards_on : Stmt := topS 42
theorem sc_yards_on : FnScope ["web", "start", "row", "found", "at", "thing", "begin", "end"] ["web", "start", "row"] (defScope s_yards_on) := ⟨rfl, rfl, rfl, by decide +kernel, rfl, by decide +kernel, by decide +kernel⟩
abbrev s_Walk_dinit : Stmt := inClass (topS 45) 0
theorem sc_Walk_dinit : FnScope ["self", "web", "start", "row"] ["self", "web", "start", "row"] (defScope s_Walk_dinit) := ⟨rfl, rfl, rfl, by decide +kernel, rfl, by decide +kernel, by decide +kernel⟩
abbrev s_Walk_row : Stmt := inClass (topS 45) 6
theorem sc_Walk_row : FnScope ["self"] ["self"] (defScope s_Walk_row) := ⟨rfl, rfl, rfl, by decide +kernel, rfl, by decide +kernel, by decide +kernel⟩
abbrev s_law_draw : Stmt := topS 62
theorem sc_law_draw : FnScope ["_law_flow_here", "_law_size", "_law_found", "_law_cell", "_law_base"] ["_law_flow_here", "_law_size"] (defScope s_law_draw) := ⟨rfl, rfl, rfl, by decide +kernel, rfl, by decide +kernel, by decide +kernel⟩
abbrev s_law_flow : Stmt := topS 61
theorem sc_law_flow : FnScope ["_law_script"] ["_law_script"] (defScope s_law_flow) := ⟨rfl, rfl, rfl, by decide +kernel, rfl, by decide +kernel, by decide +kernel⟩
abbrev s_law_pick : Stmt := topS 63
theorem sc_law_pick : FnScope ["_law_flow_here", "_law_lot"] ["_law_flow_here", "_law_lot"] (defScope s_law_pick) := ⟨rfl, rfl, rfl, by decide +kernel, rfl, by decide +kernel, by decide +kernel⟩
abbrev s_law_power : Stmt := topS 73
theorem sc_law_power : FnScope ["_law_base", "_law_many", "_law_found", "_law_k"] ["_law_base", "_law_many"] (defScope s_law_power) := ⟨rfl, rfl, rfl, by decide +kernel, rfl, by decide +kernel, by decide +kernel⟩
abbrev s_law_same : Stmt := topS 64
theorem sc_law_same : FnScope ["_law_found", "_law_due", "_law_k"] ["_law_found", "_law_due"] (defScope s_law_same) := ⟨rfl, rfl, rfl, by decide +kernel, rfl, by decide +kernel, by decide +kernel⟩
abbrev s_Walk_start : Stmt := inClass (topS 45) 4
theorem sc_Walk_start : FnScope ["self"] ["self"] (defScope s_Walk_start) := ⟨rfl, rfl, rfl, by decide +kernel, rfl, by decide +kernel, by decide +kernel⟩
abbrev s_law_undone : Stmt := topS 66
theorem sc_law_undone : FnScope ["_law_step"] ["_law_step"] (defScope s_law_undone) := ⟨rfl, rfl, rfl, by decide +kernel, rfl, by decide +kernel, by decide +kernel⟩
abbrev s_law_back : Stmt := topS 69
theorem sc_law_back : FnScope ["_law_row", "_law_thing"] ["_law_row"] (defScope s_law_back) := ⟨rfl, rfl, rfl, by decide +kernel, rfl, by decide +kernel, by decide +kernel⟩
abbrev s_law_join : Stmt := topS 70
theorem sc_law_join : FnScope ["_law_row", "_law_other"] ["_law_row", "_law_other"] (defScope s_law_join) := ⟨rfl, rfl, rfl, by decide +kernel, rfl, by decide +kernel, by decide +kernel⟩
abbrev s_law_road : Stmt := topS 67
theorem sc_law_road : FnScope ["_law_m", "_law_name", "_law_road_here"] ["_law_m", "_law_name"] (defScope s_law_road) := ⟨rfl, rfl, rfl, by decide +kernel, rfl, by decide +kernel, by decide +kernel⟩
abbrev s_law_rule : Stmt := topS 68
theorem sc_law_rule : FnScope ["_law_m", "_law_step", "_law_road_here"] ["_law_m", "_law_step"] (defScope s_law_rule) := ⟨rfl, rfl, rfl, by decide +kernel, rfl, by decide +kernel, by decide +kernel⟩
abbrev s_law_settled : Stmt := topS 71
theorem sc_law_settled : FnScope ["_law_m", "_law_row", "_law_pairs", "_law_now", "_law_at", "_law_near", "_law_beyond", "_law_rest"] ["_law_m", "_law_row"] (defScope s_law_settled) := ⟨rfl, rfl, rfl, by decide +kernel, rfl, by decide +kernel, by decide +kernel⟩
abbrev s_law_sees : Stmt := topS 72
theorem sc_law_sees : FnScope ["_law_m", "_law_told", "_law_one_row", "_law_other_start", "_law_other_row", "_law_row"] ["_law_m", "_law_told", "_law_one_row", "_law_other_start", "_law_other_row"] (defScope s_law_sees) := ⟨rfl, rfl, rfl, by decide +kernel, rfl, by decide +kernel, by decide +kernel⟩
abbrev s_Web_dinit : Stmt := inClass (topS 38) 0
theorem sc_Web_dinit : FnScope ["self"] ["self"] (defScope s_Web_dinit) := ⟨rfl, rfl, rfl, by decide +kernel, rfl, by decide +kernel, by decide +kernel⟩
abbrev s_is_name : Stmt := topS 35
theorem sc_is_name : FnScope ["text", "sign"] ["text"] (defScope s_is_name) := ⟨rfl, rfl, rfl, by decide +kernel, rfl, by decide +kernel, by decide +kernel⟩
abbrev s_Web_need_new : Stmt := inClass (topS 38) 5
theorem sc_Web_need_new : FnScope ["self", "name", "road"] ["self", "name"] (defScope s_Web_need_new) := ⟨rfl, rfl, rfl, by decide +kernel, rfl, by decide +kernel, by decide +kernel⟩
abbrev s_Web_turned : Stmt := inClass (topS 38) 4
theorem sc_Web_turned : FnScope ["self", "places", "roads", "made"] ["self", "places", "roads"] (defScope s_Web_turned) := ⟨rfl, rfl, rfl, by decide +kernel, rfl, by decide +kernel, by decide +kernel⟩
abbrev s_is_whole : Stmt := topS 31
theorem sc_is_whole : FnScope ["thing", "low", "high"] ["thing", "low", "high"] (defScope s_is_whole) := ⟨rfl, rfl, rfl, by decide +kernel, rfl, by decide +kernel, by decide +kernel⟩
abbrev s_need_turns : Stmt := topS 37
theorem sc_need_turns : FnScope ["number"] ["number"] (defScope s_need_turns) := ⟨rfl, rfl, rfl, by decide +kernel, rfl, by decide +kernel, by decide +kernel⟩
abbrev s_Web_with_passage : Stmt := inClass (topS 38) 8
theorem sc_Web_with_passage : FnScope ["self", "name", "begin", "end", "here", "there", "yard", "number"] ["self", "name", "begin", "end", "here", "there"] (defScope s_Web_with_passage) := ⟨rfl, rfl, rfl, by decide +kernel, rfl, by decide +kernel, by decide +kernel⟩
abbrev s_Web_with_yard : Stmt := inClass (topS 38) 7
theorem sc_Web_with_yard : FnScope ["self", "name"] ["self", "name"] (defScope s_Web_with_yard) := ⟨rfl, rfl, rfl, by decide +kernel, rfl, by decide +kernel, by decide +kernel⟩
abbrev s_law_web : Stmt := topS 65
theorem sc_law_web : FnScope ["_law_m", "_law_web_here", "_law_yard", "_law_name", "_law_begin", "_law_end", "_law_near", "_law_beyond"] ["_law_m"] (defScope s_law_web) := ⟨rfl, rfl, rfl, by decide +kernel, rfl, by decide +kernel, by decide +kernel⟩
abbrev s_Walk_web : Stmt := inClass (topS 45) 3
theorem sc_Walk_web : FnScope ["self"] ["self"] (defScope s_Walk_web) := ⟨rfl, rfl, rfl, by decide +kernel, rfl, by decide +kernel, by decide +kernel⟩
abbrev s_undone : Stmt := topS 36
theorem sc_undone : FnScope ["step", "name", "way"] ["step"] (defScope s_undone) := ⟨rfl, rfl, rfl, by decide +kernel, rfl, by decide +kernel, by decide +kernel⟩
abbrev s_back_row : Stmt := topS 43
theorem sc_back_row : FnScope ["row", "thing"] ["row"] (defScope s_back_row) := ⟨rfl, rfl, rfl, by decide +kernel, rfl, by decide +kernel, by decide +kernel⟩
abbrev s_Walk_is_home : Stmt := inClass (topS 45) 9
theorem sc_Walk_is_home : FnScope ["self"] ["self"] (defScope s_Walk_is_home) := ⟨rfl, rfl, rfl, by decide +kernel, rfl, by decide +kernel, by decide +kernel⟩
abbrev s_Web_rule : Stmt := inClass (topS 38) 15
theorem sc_Web_rule : FnScope ["self", "step"] ["self", "step"] (defScope s_Web_rule) := ⟨rfl, rfl, rfl, by decide +kernel, rfl, by decide +kernel, by decide +kernel⟩
abbrev s_parted : Stmt := topS 30
theorem sc_parted : FnScope ["number", "by", "rest"] ["number", "by"] (defScope s_parted) := ⟨rfl, rfl, rfl, by decide +kernel, rfl, by decide +kernel, by decide +kernel⟩
abbrev s_settled : Stmt := topS 47
theorem sc_settled : FnScope ["web", "row", "pairs", "here", "step", "more", "turns", "beyond", "many", "rest"] ["web", "row"] (defScope s_settled) := ⟨rfl, rfl, rfl, by decide +kernel, rfl, by decide +kernel, by decide +kernel⟩
abbrev s_settled_walk : Stmt := topS 49
theorem sc_settled_walk : FnScope ["walk"] ["walk"] (defScope s_settled_walk) := ⟨rfl, rfl, rfl, by decide +kernel, rfl, by decide +kernel, by decide +kernel⟩
abbrev s_cut_round : Stmt := topS 51
theorem sc_cut_round : FnScope ["walk", "pairs", "here", "begun", "first", "step", "turns", "beyond"] ["walk"] (defScope s_cut_round) := ⟨rfl, rfl, rfl, by decide +kernel, rfl, by decide +kernel, by decide +kernel⟩
abbrev s_Web_steps_from : Stmt := inClass (topS 38) 12
theorem sc_Web_steps_from : FnScope ["self", "yard", "found", "name", "begin", "end", "rest"] ["self", "yard"] (defScope s_Web_steps_from) := ⟨rfl, rfl, rfl, by decide +kernel, rfl, by decide +kernel, by decide +kernel⟩
abbrev s_joined_row : Stmt := topS 44
theorem sc_joined_row : FnScope ["row", "other"] ["row", "other"] (defScope s_joined_row) := ⟨rfl, rfl, rfl, by decide +kernel, rfl, by decide +kernel, by decide +kernel⟩
abbrev s_followed : Stmt := topS 57
theorem sc_followed : FnScope ["web", "yard", "turns", "limit", "found", "line", "at", "place", "many", "step", "near", "beyond", "goal"] ["web", "yard", "turns", "limit"] (defScope s_followed) := ⟨rfl, rfl, rfl, by decide +kernel, rfl, by decide +kernel, by decide +kernel⟩
abbrev s_Web_deq : Stmt := inClass (topS 38) 1
theorem sc_Web_deq : FnScope ["self", "other"] ["self", "other"] (defScope s_Web_deq) := ⟨rfl, rfl, rfl, by decide +kernel, rfl, by decide +kernel, by decide +kernel⟩
abbrev s_need_alike_webs : Stmt := topS 54
theorem sc_need_alike_webs : FnScope ["one", "other"] ["one", "other"] (defScope s_need_alike_webs) := ⟨rfl, rfl, rfl, by decide +kernel, rfl, by decide +kernel, by decide +kernel⟩
abbrev s_put_together : Stmt := topS 55
theorem sc_put_together : FnScope ["rows", "found", "row"] ["rows"] (defScope s_put_together) := ⟨rfl, rfl, rfl, by decide +kernel, rfl, by decide +kernel, by decide +kernel⟩
abbrev s_row_of : Stmt := topS 48
theorem sc_row_of : FnScope ["pairs", "here", "pair", "thing"] ["pairs", "here"] (defScope s_row_of) := ⟨rfl, rfl, rfl, by decide +kernel, rfl, by decide +kernel, by decide +kernel⟩
abbrev s_plain_from : Stmt := topS 56
theorem sc_plain_from : FnScope ["web", "start", "rows", "pairs", "here"] ["web", "start", "rows"] (defScope s_plain_from) := ⟨rfl, rfl, rfl, by decide +kernel, rfl, by decide +kernel, by decide +kernel⟩
abbrev s_yard_behind : Stmt := topS 58
theorem sc_yard_behind : FnScope ["walk", "begun"] ["walk", "begun"] (defScope s_yard_behind) := ⟨rfl, rfl, rfl, by decide +kernel, rfl, by decide +kernel, by decide +kernel⟩
abbrev s_stay_of : Stmt := topS 59
theorem sc_stay_of : FnScope ["one", "other", "limit", "begun", "pairs", "here", "far_begun", "far_pairs", "there", "web", "found", "goal", "rows"] ["one", "other", "limit"] (defScope s_stay_of) := ⟨rfl, rfl, rfl, by decide +kernel, rfl, by decide +kernel, by decide +kernel⟩
abbrev s_law : Stmt := topS 74
theorem sc_law : FnScope ["_law_script", "_law_flow_here", "_law_found", "_law_m", "_law_web_here", "_law_high", "_law_many", "_law_one", "_law_other", "_law_due", "_law_few", "_law_late", "_law_told"] ["_law_script"] (defScope s_law) := ⟨rfl, rfl, rfl, by decide +kernel, rfl, by decide +kernel, by decide +kernel⟩
end Lw
set_option Elab.async false
set_option linter.all false
set_option maxRecDepth 100000
set_option maxHeartbeats 0
set_option autoImplicit false
namespace Lw
open PySem PySem.Spec PyProof.Rows L2 Dv
/-! the head by one run: printed by our gen.py -/
def hTests : List Test := [
  fun K => He.eqO (PySem.W.findIn K (.ref (He.ga K "Web")) "need_yard") (some (some (.ref (He.fAd K ("Web", some "need_yard"))))),
  fun K => PySem.W.isFn K (.ref (He.fAd K ("Web", some "need_yard"))),
  fun K => He.eqO (PySem.W.nsIn K mainGlobals "need_form") (some (some (.ref (He.fAd K ("need_form", none))))),
  fun K => He.eqO (PySem.W.findIn K (.ref (He.ga K "Web")) "road_of") (some (some (.ref (He.fAd K ("Web", some "road_of"))))),
  fun K => PySem.W.isFn K (.ref (He.fAd K ("Web", some "road_of"))),
  fun K => He.eqO (PySem.W.findIn K (.ref (He.ga K "Web")) "turned_so") (some (some (.ref (He.fAd K ("Web", some "turned_so"))))),
  fun K => PySem.W.isFn K (.ref (He.fAd K ("Web", some "turned_so"))),
  fun K => He.eqO (PySem.W.findIn K (.ref (He.ga K "Web")) "ends") (some (some (.ref (He.fAd K ("Web", some "ends"))))),
  fun K => PySem.W.isFn K (.ref (He.fAd K ("Web", some "ends"))),
  fun K => He.eqO (PySem.W.nsIn K mainGlobals "yards_on") (some (some (.ref (He.fAd K ("yards_on", none))))),
  fun K => He.eqO (PySem.W.findIn K (.ref (He.ga K "Walk")) "__init__") (some (some (.ref (He.fAd K ("Walk", some "__init__"))))),
  fun K => PySem.W.isFn K (.ref (He.fAd K ("Walk", some "__init__"))),
  fun K => He.eqO (PySem.W.findIn K (.ref (He.ga K "Walk")) "row") (some (some (.ref (He.fAd K ("Walk", some "row"))))),
  fun K => PySem.W.isFn K (.ref (He.fAd K ("Walk", some "row"))),
  fun K => He.eqO (PySem.W.nsIn K mainGlobals "_law_draw") (some (some (.ref (He.fAd K ("_law_draw", none))))),
  fun K => He.eqO (PySem.W.nsIn K mainGlobals "_law_flow") (some (some (.ref (He.fAd K ("_law_flow", none))))),
  fun K => He.eqO (PySem.W.nsIn K mainGlobals "_law_pick") (some (some (.ref (He.fAd K ("_law_pick", none))))),
  fun K => He.eqO (PySem.W.nsIn K mainGlobals "_law_power") (some (some (.ref (He.fAd K ("_law_power", none))))),
  fun K => He.eqO (PySem.W.nsIn K mainGlobals "_law_same") (some (some (.ref (He.fAd K ("_law_same", none))))),
  fun K => He.eqO (PySem.W.findIn K (.ref (He.ga K "Walk")) "start") (some (some (.ref (He.fAd K ("Walk", some "start"))))),
  fun K => PySem.W.isFn K (.ref (He.fAd K ("Walk", some "start"))),
  fun K => He.eqO (PySem.W.nsIn K mainGlobals "_law_undone") (some (some (.ref (He.fAd K ("_law_undone", none))))),
  fun K => He.eqO (PySem.W.nsIn K mainGlobals "_law_back") (some (some (.ref (He.fAd K ("_law_back", none))))),
  fun K => He.eqO (PySem.W.nsIn K mainGlobals "_law_join") (some (some (.ref (He.fAd K ("_law_join", none))))),
  fun K => He.eqO (PySem.W.nsIn K mainGlobals "_law_road") (some (some (.ref (He.fAd K ("_law_road", none))))),
  fun K => He.eqO (PySem.W.nsIn K mainGlobals "_law_rule") (some (some (.ref (He.fAd K ("_law_rule", none))))),
  fun K => He.eqO (PySem.W.nsIn K mainGlobals "_law_settled") (some (some (.ref (He.fAd K ("_law_settled", none))))),
  fun K => He.eqO (PySem.W.nsIn K mainGlobals "_law_sees") (some (some (.ref (He.fAd K ("_law_sees", none))))),
  fun K => He.eqO (PySem.W.findIn K (.ref (He.ga K "Web")) "__init__") (some (some (.ref (He.fAd K ("Web", some "__init__"))))),
  fun K => PySem.W.isFn K (.ref (He.fAd K ("Web", some "__init__"))),
  fun K => He.eqO (PySem.W.nsIn K mainGlobals "is_name") (some (some (.ref (He.fAd K ("is_name", none))))),
  fun K => He.eqO (PySem.W.findIn K (.ref (He.ga K "Web")) "need_new") (some (some (.ref (He.fAd K ("Web", some "need_new"))))),
  fun K => PySem.W.isFn K (.ref (He.fAd K ("Web", some "need_new"))),
  fun K => He.eqO (PySem.W.findIn K (.ref (He.ga K "Web")) "turned") (some (some (.ref (He.fAd K ("Web", some "turned"))))),
  fun K => PySem.W.isFn K (.ref (He.fAd K ("Web", some "turned"))),
  fun K => He.eqO (PySem.W.nsIn K mainGlobals "is_whole") (some (some (.ref (He.fAd K ("is_whole", none))))),
  fun K => He.eqO (PySem.W.nsIn K mainGlobals "need_turns") (some (some (.ref (He.fAd K ("need_turns", none))))),
  fun K => He.eqO (PySem.W.findIn K (.ref (He.ga K "Web")) "with_passage") (some (some (.ref (He.fAd K ("Web", some "with_passage"))))),
  fun K => PySem.W.isFn K (.ref (He.fAd K ("Web", some "with_passage"))),
  fun K => He.eqO (PySem.W.findIn K (.ref (He.ga K "Web")) "with_yard") (some (some (.ref (He.fAd K ("Web", some "with_yard"))))),
  fun K => PySem.W.isFn K (.ref (He.fAd K ("Web", some "with_yard"))),
  fun K => He.eqO (PySem.W.nsIn K mainGlobals "_law_web") (some (some (.ref (He.fAd K ("_law_web", none))))),
  fun K => He.eqO (PySem.W.findIn K (.ref (He.ga K "Walk")) "web") (some (some (.ref (He.fAd K ("Walk", some "web"))))),
  fun K => PySem.W.isFn K (.ref (He.fAd K ("Walk", some "web"))),
  fun K => He.eqO (PySem.W.nsIn K mainGlobals "undone") (some (some (.ref (He.fAd K ("undone", none))))),
  fun K => He.eqO (PySem.W.nsIn K mainGlobals "back_row") (some (some (.ref (He.fAd K ("back_row", none))))),
  fun K => He.eqO (PySem.W.findIn K (.ref (He.ga K "Walk")) "is_home") (some (some (.ref (He.fAd K ("Walk", some "is_home"))))),
  fun K => PySem.W.isFn K (.ref (He.fAd K ("Walk", some "is_home"))),
  fun K => He.eqO (PySem.W.findIn K (.ref (He.ga K "Web")) "rule") (some (some (.ref (He.fAd K ("Web", some "rule"))))),
  fun K => PySem.W.isFn K (.ref (He.fAd K ("Web", some "rule"))),
  fun K => He.eqO (PySem.W.nsIn K mainGlobals "parted") (some (some (.ref (He.fAd K ("parted", none))))),
  fun K => He.eqO (PySem.W.nsIn K mainGlobals "settled") (some (some (.ref (He.fAd K ("settled", none))))),
  fun K => He.eqO (PySem.W.nsIn K mainGlobals "settled_walk") (some (some (.ref (He.fAd K ("settled_walk", none))))),
  fun K => He.eqO (PySem.W.nsIn K mainGlobals "cut_round") (some (some (.ref (He.fAd K ("cut_round", none))))),
  fun K => He.eqO (PySem.W.findIn K (.ref (He.ga K "Web")) "steps_from") (some (some (.ref (He.fAd K ("Web", some "steps_from"))))),
  fun K => PySem.W.isFn K (.ref (He.fAd K ("Web", some "steps_from"))),
  fun K => He.eqO (PySem.W.nsIn K mainGlobals "joined_row") (some (some (.ref (He.fAd K ("joined_row", none))))),
  fun K => He.eqO (PySem.W.nsIn K mainGlobals "followed") (some (some (.ref (He.fAd K ("followed", none))))),
  fun K => He.eqO (PySem.W.findIn K (.ref (He.ga K "Web")) "__eq__") (some (some (.ref (He.fAd K ("Web", some "__eq__"))))),
  fun K => PySem.W.isFn K (.ref (He.fAd K ("Web", some "__eq__"))),
  fun K => He.eqO (PySem.W.nsIn K mainGlobals "need_alike_webs") (some (some (.ref (He.fAd K ("need_alike_webs", none))))),
  fun K => He.eqO (PySem.W.nsIn K mainGlobals "put_together") (some (some (.ref (He.fAd K ("put_together", none))))),
  fun K => He.eqO (PySem.W.nsIn K mainGlobals "row_of") (some (some (.ref (He.fAd K ("row_of", none))))),
  fun K => He.eqO (PySem.W.nsIn K mainGlobals "plain_from") (some (some (.ref (He.fAd K ("plain_from", none))))),
  fun K => He.eqO (PySem.W.nsIn K mainGlobals "yard_behind") (some (some (.ref (He.fAd K ("yard_behind", none))))),
  fun K => He.eqO (PySem.W.nsIn K mainGlobals "stay_of") (some (some (.ref (He.fAd K ("stay_of", none))))),
  fun K => He.eqO (PySem.W.nsIn K mainGlobals "law") (some (some (.ref (He.fAd K ("law", none))))),
  fun K => He.eqO (PySem.W.nsIn K mainGlobals "Walk") (some (some (.ref (He.ga K "Walk")))),
  fun K => PySem.W.plainGet K (He.ga K "Walk") Str.empty,
  fun K => PySem.W.hasDictIn K (He.ga K "Walk"),
  fun K => PySem.W.plainOver K (He.ga K "Walk"),
  fun K => He.eqO (PySem.W.findIn K (.ref (He.ga K "Walk")) "__setattr__") (some (some (.builtin "object.__setattr__"))),
  fun K => He.eqO (PySem.W.findIn K (.ref (He.ga K "Walk")) "__class__") (some (some (.builtin "object.__class__"))),
  fun K => decide (PySem.W.mroIn K (He.ga K "Walk") (.type "object") = some true),
  fun K => PySem.W.makesIn K (He.ga K "Walk"),
  fun K => PySem.W.keepIn K (.ref (He.ga K "Walk")),
  fun K => He.eqO (PySem.W.nsIn K mainGlobals "Web") (some (some (.ref (He.ga K "Web")))),
  fun K => PySem.W.plainGet K (He.ga K "Web") Str.empty,
  fun K => PySem.W.hasDictIn K (He.ga K "Web"),
  fun K => PySem.W.plainOver K (He.ga K "Web"),
  fun K => He.eqO (PySem.W.findIn K (.ref (He.ga K "Web")) "__setattr__") (some (some (.builtin "object.__setattr__"))),
  fun K => He.eqO (PySem.W.findIn K (.ref (He.ga K "Web")) "__class__") (some (some (.builtin "object.__class__"))),
  fun K => decide (PySem.W.mroIn K (He.ga K "Web") (.type "object") = some true),
  fun K => PySem.W.makesIn K (He.ga K "Web"),
  fun K => PySem.W.keepIn K (.ref (He.ga K "Web")),
  fun K => He.eqO (PySem.W.findIn K (.ref (He.ga K "Web")) "__ne__") (some (some (.builtin "object.__ne__"))),
  fun K => He.eqO (PySem.W.findIn K (.ref (He.ga K "Walk")) "over") (some none),
  fun K => He.eqO (PySem.W.findIn K (.ref (He.ga K "Walk")) "line") (some none),
  fun K => He.eqO (PySem.W.findIn K (.ref (He.ga K "Walk")) "spots") (some none),
  fun K => He.eqO (PySem.W.findIn K (.ref (He.ga K "Web")) "places") (some none),
  fun K => He.eqO (PySem.W.findIn K (.ref (He.ga K "Web")) "roads") (some none),
  fun K => He.eqO (PySem.W.specialIn K (.builtin "object.__class__") "__get__") (some (some (.builtin "getset_descriptor.__get__"))),
  fun K => decide (PySem.W.takesIn K (.builtin "object.__class__") = some true),
  fun K => clsB K [("Walk", (He.ga K "Walk")), ("Web", (He.ga K "Web"))],
  fun K => He.eqO (PySem.W.nsIn K mainGlobals "len") (some none),
  fun K => He.eqO (PySem.W.nsIn K mainGlobals "tuple") (some none),
  fun K => He.eqO (PySem.W.nsIn K mainGlobals "enumerate") (some none),
  fun K => He.eqO (PySem.W.nsIn K mainGlobals "isinstance") (some none),
  fun K => He.eqO (PySem.W.nsIn K mainGlobals "abs") (some none),
  fun K => He.eqO (PySem.W.nsIn K mainGlobals "list") (some none),
  fun K => He.eqO (PySem.W.nsIn K mainGlobals "range") (some none),
  fun K => He.eqO (PySem.W.nsIn K mainGlobals "bool") (some none),
  fun K => He.eqO (PySem.W.nsIn K mainGlobals "int") (some none),
  fun K => He.eqO (PySem.W.nsIn K mainGlobals "str") (some none),
  fun K => He.eqO (PySem.W.nsIn K mainGlobals "all") (some none),
  fun K => He.eqO (PySem.W.nsIn K mainGlobals "zip") (some none),
  fun K => (He.Fa.int "MOST_TERMS" 60).ok K,
  fun K => (He.Fa.int "DEEPEST" 6).ok K,
  fun K => (He.Fa.int "GREATEST" 1000000000000000000000000000000000000000000000000000000000000).ok K,
  fun K => (He.Fa.int "LONGEST" 200).ok K,
  fun K => (He.Fa.int "MOST_TURNS" 99).ok K,
  fun K => (He.Fa.int "MOST_PASSAGES" 8).ok K,
  fun K => (He.Fa.int "MOST_YARDS" 6).ok K,
  fun K => (He.Fa.int "LOOKED" 300).ok K,
  fun K => (He.Fa.int "MOST_WALKS" 24).ok K,
  fun K => (He.Fa.int "MOST_TIMES" 999).ok K,
  fun K => (He.Fa.str "LETTERS" "abcdefghijklmnopqrstuvwxyz").ok K,
  fun K => (He.Fa.int "LONGEST_NAME" 8).ok K,
  fun K => (He.Fa.int "MOST_LOOKED" 1000).ok K]
def hDefs : List He.DefD := [
  ⟨("Web", some "need_yard"), "need_yard", "Web.need_yard", defArgs s_Web_need_yard, defBody s_Web_need_yard, defScope s_Web_need_yard, [], []⟩,
  ⟨("need_form", none), "need_form", "need_form", defArgs s_need_form, defBody s_need_form, defScope s_need_form, [], []⟩,
  ⟨("Web", some "road_of"), "road_of", "Web.road_of", defArgs s_Web_road_of, defBody s_Web_road_of, defScope s_Web_road_of, [], []⟩,
  ⟨("Web", some "turned_so"), "turned_so", "Web.turned_so", defArgs s_Web_turned_so, defBody s_Web_turned_so, defScope s_Web_turned_so, [], []⟩,
  ⟨("Web", some "ends"), "ends", "Web.ends", defArgs s_Web_ends, defBody s_Web_ends, defScope s_Web_ends, [], []⟩,
  ⟨("yards_on", none), "yards_on", "yards_on", defArgs s_yards_on, defBody s_yards_on, defScope s_yards_on, [], []⟩,
  ⟨("Walk", some "__init__"), "__init__", "Walk.__init__", defArgs s_Walk_dinit, defBody s_Walk_dinit, defScope s_Walk_dinit, [.adr (He.dflAt ("Walk", some "__init__") 0)], []⟩,
  ⟨("Walk", some "row"), "row", "Walk.row", defArgs s_Walk_row, defBody s_Walk_row, defScope s_Walk_row, [], []⟩,
  ⟨("_law_draw", none), "_law_draw", "_law_draw", defArgs s_law_draw, defBody s_law_draw, defScope s_law_draw, [], []⟩,
  ⟨("_law_flow", none), "_law_flow", "_law_flow", defArgs s_law_flow, defBody s_law_flow, defScope s_law_flow, [], []⟩,
  ⟨("_law_pick", none), "_law_pick", "_law_pick", defArgs s_law_pick, defBody s_law_pick, defScope s_law_pick, [], []⟩,
  ⟨("_law_power", none), "_law_power", "_law_power", defArgs s_law_power, defBody s_law_power, defScope s_law_power, [], []⟩,
  ⟨("_law_same", none), "_law_same", "_law_same", defArgs s_law_same, defBody s_law_same, defScope s_law_same, [], []⟩,
  ⟨("Walk", some "start"), "start", "Walk.start", defArgs s_Walk_start, defBody s_Walk_start, defScope s_Walk_start, [], []⟩,
  ⟨("_law_undone", none), "_law_undone", "_law_undone", defArgs s_law_undone, defBody s_law_undone, defScope s_law_undone, [], []⟩,
  ⟨("_law_back", none), "_law_back", "_law_back", defArgs s_law_back, defBody s_law_back, defScope s_law_back, [], []⟩,
  ⟨("_law_join", none), "_law_join", "_law_join", defArgs s_law_join, defBody s_law_join, defScope s_law_join, [], []⟩,
  ⟨("_law_road", none), "_law_road", "_law_road", defArgs s_law_road, defBody s_law_road, defScope s_law_road, [], []⟩,
  ⟨("_law_rule", none), "_law_rule", "_law_rule", defArgs s_law_rule, defBody s_law_rule, defScope s_law_rule, [], []⟩,
  ⟨("_law_settled", none), "_law_settled", "_law_settled", defArgs s_law_settled, defBody s_law_settled, defScope s_law_settled, [], []⟩,
  ⟨("_law_sees", none), "_law_sees", "_law_sees", defArgs s_law_sees, defBody s_law_sees, defScope s_law_sees, [], []⟩,
  ⟨("Web", some "__init__"), "__init__", "Web.__init__", defArgs s_Web_dinit, defBody s_Web_dinit, defScope s_Web_dinit, [], []⟩,
  ⟨("is_name", none), "is_name", "is_name", defArgs s_is_name, defBody s_is_name, defScope s_is_name, [], []⟩,
  ⟨("Web", some "need_new"), "need_new", "Web.need_new", defArgs s_Web_need_new, defBody s_Web_need_new, defScope s_Web_need_new, [], []⟩,
  ⟨("Web", some "turned"), "turned", "Web.turned", defArgs s_Web_turned, defBody s_Web_turned, defScope s_Web_turned, [], []⟩,
  ⟨("is_whole", none), "is_whole", "is_whole", defArgs s_is_whole, defBody s_is_whole, defScope s_is_whole, [], []⟩,
  ⟨("need_turns", none), "need_turns", "need_turns", defArgs s_need_turns, defBody s_need_turns, defScope s_need_turns, [], []⟩,
  ⟨("Web", some "with_passage"), "with_passage", "Web.with_passage", defArgs s_Web_with_passage, defBody s_Web_with_passage, defScope s_Web_with_passage, [], []⟩,
  ⟨("Web", some "with_yard"), "with_yard", "Web.with_yard", defArgs s_Web_with_yard, defBody s_Web_with_yard, defScope s_Web_with_yard, [], []⟩,
  ⟨("_law_web", none), "_law_web", "_law_web", defArgs s_law_web, defBody s_law_web, defScope s_law_web, [], []⟩,
  ⟨("Walk", some "web"), "web", "Walk.web", defArgs s_Walk_web, defBody s_Walk_web, defScope s_Walk_web, [], []⟩,
  ⟨("undone", none), "undone", "undone", defArgs s_undone, defBody s_undone, defScope s_undone, [], []⟩,
  ⟨("back_row", none), "back_row", "back_row", defArgs s_back_row, defBody s_back_row, defScope s_back_row, [], []⟩,
  ⟨("Walk", some "is_home"), "is_home", "Walk.is_home", defArgs s_Walk_is_home, defBody s_Walk_is_home, defScope s_Walk_is_home, [], []⟩,
  ⟨("Web", some "rule"), "rule", "Web.rule", defArgs s_Web_rule, defBody s_Web_rule, defScope s_Web_rule, [], []⟩,
  ⟨("parted", none), "parted", "parted", defArgs s_parted, defBody s_parted, defScope s_parted, [], []⟩,
  ⟨("settled", none), "settled", "settled", defArgs s_settled, defBody s_settled, defScope s_settled, [], []⟩,
  ⟨("settled_walk", none), "settled_walk", "settled_walk", defArgs s_settled_walk, defBody s_settled_walk, defScope s_settled_walk, [], []⟩,
  ⟨("cut_round", none), "cut_round", "cut_round", defArgs s_cut_round, defBody s_cut_round, defScope s_cut_round, [], []⟩,
  ⟨("Web", some "steps_from"), "steps_from", "Web.steps_from", defArgs s_Web_steps_from, defBody s_Web_steps_from, defScope s_Web_steps_from, [], []⟩,
  ⟨("joined_row", none), "joined_row", "joined_row", defArgs s_joined_row, defBody s_joined_row, defScope s_joined_row, [], []⟩,
  ⟨("followed", none), "followed", "followed", defArgs s_followed, defBody s_followed, defScope s_followed, [], []⟩,
  ⟨("Web", some "__eq__"), "__eq__", "Web.__eq__", defArgs s_Web_deq, defBody s_Web_deq, defScope s_Web_deq, [], []⟩,
  ⟨("need_alike_webs", none), "need_alike_webs", "need_alike_webs", defArgs s_need_alike_webs, defBody s_need_alike_webs, defScope s_need_alike_webs, [], []⟩,
  ⟨("put_together", none), "put_together", "put_together", defArgs s_put_together, defBody s_put_together, defScope s_put_together, [], []⟩,
  ⟨("row_of", none), "row_of", "row_of", defArgs s_row_of, defBody s_row_of, defScope s_row_of, [], []⟩,
  ⟨("plain_from", none), "plain_from", "plain_from", defArgs s_plain_from, defBody s_plain_from, defScope s_plain_from, [], []⟩,
  ⟨("yard_behind", none), "yard_behind", "yard_behind", defArgs s_yard_behind, defBody s_yard_behind, defScope s_yard_behind, [], []⟩,
  ⟨("stay_of", none), "stay_of", "stay_of", defArgs s_stay_of, defBody s_stay_of, defScope s_stay_of, [], [("limit", .int 300)]⟩,
  ⟨("law", none), "law", "law", defArgs s_law, defBody s_law, defScope s_law, [], []⟩]
def hAs : List Nat := (List.range 1500).reverse
def hNames0 : List Str := ["_wall", "HawserError", "BadName", "Taken", "Full", "BadTurns", "BadWay", "BadRow", "Astray", "TooLong", "TooGreat", "NotHome", "Strange", "Moves", "BadNumber", "Missing", "NoYard", "NoPassage", "MOST_YARDS", "MOST_PASSAGES", "MOST_TURNS", "LONGEST", "GREATEST", "DEEPEST", "MOST_TERMS", "MOST_TIMES", "MOST_WALKS", "LOOKED", "parted", "is_whole"]
def hNames1 : List Str := ["LETTERS", "LONGEST_NAME", "is_name", "undone", "need_turns", "Web", "need_form", "need_bounds", "yards_on", "back_row", "joined_row", "Walk", "settled", "row_of", "settled_walk", "cut_round", "MOST_LOOKED", "need_alike_webs", "put_together", "plain_from", "followed", "yard_behind", "stay_of", "_law_flow", "_law_draw", "_law_pick", "_law_same", "_law_web", "_law_undone", "_law_road"]
def hNames2 : List Str := ["_law_rule", "_law_back", "_law_join", "_law_settled", "_law_sees", "_law_power"]
def hNames : List Str := hNames0 ++ hNames1 ++ hNames2
abbrev hk : PySem.W.Hook := hookL hAs hTests hDefs
def hOb (s : PySem.W.SharedT) : He.AlD := obsLG hAs hTests hDefs (HandSHeadRun.getT s)
theorem hOb_eq (s : PySem.W.SharedT) : hOb s = hk.obs s.abs := obsLG_eq (HandSHeadRun.getT_eq s)
abbrev hRow : PySem.W.OpenRow := PySem.W.OpenLaw.row PySem.Challenge.rw_hawserweb_k72_whole_bounds_as_they_are_n
theorem hRun (w : World) : HandSHeadRun.RunEq hRow (PySem.W.view hRow.prog [74]) hk hOb 60000 hNames w := by
  intro os
  kernel_rfl
end Lw
set_option Elab.async false
set_option linter.all false
set_option maxRecDepth 100000
set_option maxHeartbeats 4000000
set_option autoImplicit false
namespace Dv
open PySem PySem.Spec PyProof.Rows L2
/-! ### values as data; mutable objects stand in a store -/
/-- what is known of a function object and of its code -/
abbrev Pd := Addr → Addr → HO → HO → Prop
inductive Dt where
  | non | bl (b : Bool) | int (i : Int) | str (s : Str) | ty (n : String) | cls (c : String)
  | tup (ds : List Dt) | lst (ds : List Dt) | fz (ds : List Dt) | ins (c : String) (ns : List Str) (ds : List Dt) | dct (ks : List Key) (ds : List Dt) | ref (i : Nat) | lam (n : Nat) (p : Pd)
inductive Ob where
  | lst (ds : List Dt) | ins (c : String) (ns : List Str) (ds : List Dt) | dct (ks : List Key) (ds : List Dt) | dkt (ks : List (List Key)) (ds : List Dt)
abbrev Store := List Ob
abbrev Env := List (Option Dt)
/-- an exception of a class of the text -/
structure Ex where
  c : String
  ns : List Str
  ds : List Dt
inductive R (α : Type) where
  | ok (a : α) (S : Store) | err (x : Ex) (S : Store) | stuck
@[reducible] def R.bind {α β : Type} (r : R α) (f : α → Store → R β) : R β := match r with
  | .ok a S => f a S
  | .err x S => .err x S
  | .stuck => .stuck
inductive Fl where
  | nx | bk | ct | rt (d : Dt)
inductive RS where
  | ok (f : Fl) (σ : Env) (S : Store) | err (x : Ex) (σ : Env) (S : Store) | stuck
/-- what the names of classes mean -/
structure Gv where
  K : PySem.W.Frag
  cl : String → Option Addr
  /-- the exceptions of the text -/
  xl : String → Option Addr
  /-- the tables of code objects that lambdas are noted in -/
  T : List (Addr × Str)
  /-- whether tuples of the written part may be met as values -/
  kt : Bool
/-- no table -/
def NoTb (o : HO) : Prop := ∀ ps, o ≠ .tbl ps
/-- neither a table nor told by a law of its own -/
def NoTx (o : HO) : Prop := NoTb o ∧ ∀ φ, o ≠ .ext φ
/-- the addresses of the store; further ones that change meanwhile -/
structure Io where
  l : List Addr
  h : List Addr
instance : Membership Addr Io := ⟨fun io a => a ∈ io.l ∨ a ∈ io.h⟩
abbrev Io.push (io : Io) (p : Addr) : Io := ⟨io.l ++ [p], io.h⟩
abbrev Io.take (io : Io) (n : Nat) : Io := ⟨io.l.take n, io.h⟩
def KTup (K : PySem.W.Frag) (a : Addr) (xs : List V) : Prop := ∃ (o : Obj) (its : Array Value) (n : Nat), K.lookup a = some o ∧ o.cls = .type "tuple" ∧ o.data = .seq its n ∧ its.size ≤ sizeLine ∧ Vals xs its.toList
def KLst (K : PySem.W.Frag) (a : Addr) (xs : List V) : Prop := ∃ (o : Obj) (its : Array Value) (n : Nat), K.lookup a = some o ∧ o.cls = .type "list" ∧ o.dict = none ∧ o.data = .seq its n ∧ its.size ≤ sizeLine ∧ Vals xs its.toList
mutual
inductive RelD (G : Gv) (io : Io) (H : Hp) : Dt → V → Prop
  | non : RelD G io H .non .non
  | bl (b : Bool) : RelD G io H (.bl b) (.bl b)
  | int (i : Int) : RelD G io H (.int i) (.int i)
  | str (s : Str) : RelD G io H (.str s) (.str s)
  | ty (n : String) : RelD G io H (.ty n) (.ty n)
  | cls {c : String} {C : Addr} : G.cl c = some C → RelD G io H (.cls c) (.ref C)
  | tup {a : Addr} {ds : List Dt} {vs : List V} : (H a = some (.tup vs) ∧ a ∉ io) ∨ (KTup G.K a vs ∧ G.kt = true) → RelDs G io H ds vs → RelD G io H (.tup ds) (.ref a)
  | lst {a : Addr} {ds : List Dt} {vs : List V} : H a = some (.lst vs) → a ∉ io → RelDs G io H ds vs → RelD G io H (.lst ds) (.ref a)
  | fz {a : Addr} {ds : List Dt} {vs : List V} : (Rd H a (.lst vs) ∧ a ∉ io) ∨ KLst G.K a vs → RelDs G io H ds vs → RelD G io H (.fz ds) (.ref a)
  | ins {a C dx : Addr} {c : String} {ns : List Str} {ds : List Dt} {vs : List V} : H a = some (.ins C dx (ns.zip vs)) → a ∉ io → G.cl c = some C → ns.length = ds.length → RelDs G io H ds vs → RelD G io H (.ins c ns ds) (.ref a)
  | dct {a : Addr} {ks : List Key} {ds : List Dt} {vs : List V} : H a = some (.dK (ks.zip vs)) → a ∉ io → ks.length = ds.length → RelDs G io H ds vs → RelD G io H (.dct ks ds) (.ref a)
  | ref {a : Addr} {i : Nat} : io.l[i]? = some a → RelD G io H (.ref i) (.ref a)
  | lam {f c : Addr} {u w : HO} {n : Nat} {p : Pd} : p f c u w → (H f = some u ∧ f ∉ io ∧ NoTb u) → (H c = some w ∧ c ∉ io ∧ NoTb w) → RelD G io H (.lam n p) (.ref f)
inductive RelDs (G : Gv) (io : Io) (H : Hp) : List Dt → List V → Prop
  | nil : RelDs G io H [] []
  | cons {d : Dt} {v : V} {ds : List Dt} {vs : List V} : RelD G io H d v → RelDs G io H ds vs → RelDs G io H (d :: ds) (v :: vs)
end
structure Grow (io : Io) (H : Hp) (io' : Io) (H' : Hp) : Prop where
  pre : ∃ t, io' = ⟨io.l ++ t, io.h⟩
  keep : ∀ b o, H b = some o → b ∉ io.l → (nt : NoTb o := by first | assumption | (intro _ e; cases e)) → H' b = some o
  new : ∀ a, a ∈ io'.l → a ∉ io.l → ∀ o, H a = some o → ¬ NoTb o
theorem Grow.refl {io : Io} {H : Hp} : Grow io H io H := ⟨⟨[], by simp⟩, fun _ _ h _ _ => h, fun a h n => absurd h n⟩
theorem Grow.trans {io i1 i2 : Io} {H H1 H2 : Hp} (a : Grow io H i1 H1) (b : Grow i1 H1 i2 H2) : Grow io H i2 H2 := by
  obtain ⟨t, rfl⟩ := a.pre
  obtain ⟨u, rfl⟩ := b.pre
  refine ⟨⟨t ++ u, by simp⟩, fun c o h n nt => ?_, fun c h n => ?_⟩
  · exact b.keep c o (a.keep c o h n nt) (fun hm => a.new c hm n o h nt) nt
  · by_cases hm : c ∈ io.l ++ t
    · exact a.new c hm n
    · exact fun o q nt => b.new c h hm o (a.keep c o q n nt) nt
theorem Grow.notin {io i1 : Io} {H H1 : Hp} (g : Grow io H i1 H1) {a : Addr} {o : HO} (h : H a = some o) (n : a ∉ io) (nt : NoTb o := by first | assumption | (intro _ e; cases e)) : a ∉ i1 := fun hm => by
  rcases hm with hm | hm
  · exact g.new a hm (fun q => n (.inl q)) o h nt
  · obtain ⟨t, rfl⟩ := g.pre
    exact n (.inr hm)
theorem Grow.at {io i1 : Io} {H H1 : Hp} (g : Grow io H i1 H1) {i : Nat} {a : Addr} (h : io.l[i]? = some a) : i1.l[i]? = some a := by
  obtain ⟨t, rfl⟩ := g.pre
  rw [List.getElem?_append_left (List.getElem?_eq_some_iff.mp h).1]
  exact h
theorem Grow.kp {io i1 : Io} {H H1 : Hp} (g : Grow io H i1 H1) {b : Addr} {o : HO} (h : H b = some o) (n : b ∉ io) (nt : NoTb o := by first | assumption | (intro _ e; cases e)) : H1 b = some o := g.keep b o h (fun q => n (.inl q)) nt
/-- what data leans on -/
structure Base (io : Io) (H : Hp) (io' : Io) (H' : Hp) : Prop where
  at_ : ∀ (i : Nat) (a : Addr), io.l[i]? = some a → io'.l[i]? = some a
  keep : ∀ b o, H b = some o → b ∉ io → (nt : NoTb o := by first | assumption | (intro _ e; cases e)) → H' b = some o ∧ b ∉ io'
theorem Grow.base {io i1 : Io} {H H1 : Hp} (g : Grow io H i1 H1) : Base io H i1 H1 := ⟨fun _ _ h => g.at h, fun _ _ h n nt => ⟨g.kp h n nt, g.notin h n nt⟩⟩
section
variable {G : Gv} {io i1 : Io} {H H1 : Hp}
theorem Base.rd (g : Base io H i1 H1) {a : Addr} {u : HO} (h : Rd H a u) (n : a ∉ io) (nt : NoTb u := by first | assumption | (intro _ e; cases e)) : Rd H1 a u ∧ a ∉ i1 := by
  rcases h with h | ⟨o, h⟩
  · exact ⟨.inl (g.keep _ _ h n).1, (g.keep _ _ h n).2⟩
  · exact ⟨.inr ⟨o, (g.keep _ _ h n).1⟩, (g.keep _ _ h n).2⟩
mutual
theorem RelD.monoB (g : Base io H i1 H1) : ∀ {d : Dt} {v : V}, RelD G io H d v → RelD G i1 H1 d v
  | _, _, .non => .non
  | _, _, .bl b => .bl b
  | _, _, .int i => .int i
  | _, _, .str s => .str s
  | _, _, .ty n => .ty n
  | _, _, .cls h => .cls h
  | _, _, .tup h r => .tup (h.imp (fun z => g.keep _ _ z.1 z.2) id) (RelDs.monoB g r)
  | _, _, .lst h n r => .lst (g.keep _ _ h n).1 (g.keep _ _ h n).2 (RelDs.monoB g r)
  | _, _, .fz h r => .fz (h.imp (fun z => g.rd z.1 z.2) id) (RelDs.monoB g r)
  | _, _, .ins h n c l r => .ins (g.keep _ _ h n).1 (g.keep _ _ h n).2 c l (RelDs.monoB g r)
  | _, _, .dct h n l r => .dct (g.keep _ _ h n).1 (g.keep _ _ h n).2 l (RelDs.monoB g r)
  | _, _, .ref h => .ref (g.at_ _ _ h)
  | _, _, .lam h a b => .lam h ⟨(g.keep _ _ a.1 a.2.1 a.2.2).1, (g.keep _ _ a.1 a.2.1 a.2.2).2, a.2.2⟩ ⟨(g.keep _ _ b.1 b.2.1 b.2.2).1, (g.keep _ _ b.1 b.2.1 b.2.2).2, b.2.2⟩
theorem RelDs.monoB (g : Base io H i1 H1) : ∀ {ds : List Dt} {vs : List V}, RelDs G io H ds vs → RelDs G i1 H1 ds vs
  | _, _, .nil => .nil
  | _, _, .cons h r => .cons (RelD.monoB g h) (RelDs.monoB g r)
end
theorem RelD.mono (g : Grow io H i1 H1) {d : Dt} {v : V} (r : RelD G io H d v) : RelD G i1 H1 d v := r.monoB g.base
theorem RelDs.mono (g : Grow io H i1 H1) {ds : List Dt} {vs : List V} (r : RelDs G io H ds vs) : RelDs G i1 H1 ds vs := r.monoB g.base
theorem RelDs.length : ∀ {ds : List Dt} {vs : List V}, RelDs G io H ds vs → ds.length = vs.length
  | _, _, .nil => rfl
  | _, _, .cons _ r => by rw [List.length_cons, List.length_cons, RelDs.length r]
theorem RelDs.append : ∀ {ds es : List Dt} {vs us : List V}, RelDs G io H ds vs → RelDs G io H es us → RelDs G io H (ds ++ es) (vs ++ us)
  | _, _, _, _, .nil, s => s
  | _, _, _, _, .cons h r, s => .cons h (RelDs.append r s)
theorem RelDs.get : ∀ {ds : List Dt} {vs : List V} {i : Nat} {d : Dt}, RelDs G io H ds vs → ds[i]? = some d → ∃ v, vs[i]? = some v ∧ RelD G io H d v
  | _, _, _, _, .nil, e => by simp at e
  | _, _, 0, _, .cons h _, e => by simp at e; subst e; exact ⟨_, rfl, h⟩
  | _, _, i + 1, d, .cons _ r, e => by
    obtain ⟨u, h1, h2⟩ := RelDs.get (i := i) (d := d) r (by simpa using e)
    exact ⟨u, by simpa using h1, h2⟩
theorem RelDs.set : ∀ {ds : List Dt} {vs : List V} {d : Dt} {v : V} (i : Nat), RelD G io H d v → RelDs G io H ds vs → RelDs G io H (ds.set i d) (vs.set i v)
  | _, _, _, _, _, _, .nil => .nil
  | _, _, _, _, 0, h, .cons _ r => .cons h r
  | _, _, _, _, i + 1, h, .cons k r => .cons k (RelDs.set i h r)
theorem RelDs.take : ∀ {ds : List Dt} {vs : List V} (n : Nat), RelDs G io H ds vs → RelDs G io H (ds.take n) (vs.take n)
  | _, _, 0, _ => .nil
  | _, _, _ + 1, .nil => .nil
  | _, _, n + 1, .cons h r => .cons h (RelDs.take n r)
theorem RelDs.drop : ∀ {ds : List Dt} {vs : List V} (n : Nat), RelDs G io H ds vs → RelDs G io H (ds.drop n) (vs.drop n)
  | _, _, 0, r => r
  | _, _, _ + 1, .nil => .nil
  | _, _, n + 1, .cons _ r => RelDs.drop n r
theorem RelDs.reverse : ∀ {ds : List Dt} {vs : List V}, RelDs G io H ds vs → RelDs G io H ds.reverse vs.reverse
  | _, _, .nil => .nil
  | _, _, .cons h r => by
    rw [List.reverse_cons, List.reverse_cons]
    exact RelDs.append (RelDs.reverse r) (.cons h .nil)
end
/-- a mutable object at its address -/
inductive RelO (G : Gv) (io : Io) (H : Hp) : Ob → Addr → Prop
  | lst {a : Addr} {ds : List Dt} {vs : List V} : H a = some (.lst vs) → RelDs G io H ds vs → RelO G io H (.lst ds) a
  | ins {a C dx : Addr} {c : String} {ns : List Str} {ds : List Dt} {vs : List V} : H a = some (.ins C dx (ns.zip vs)) → G.cl c = some C → ns.length = ds.length → RelDs G io H ds vs → RelO G io H (.ins c ns ds) a
  | dct {a : Addr} {ks : List Key} {ds : List Dt} {vs : List V} : H a = some (.dK (ks.zip vs)) → ks.length = ds.length → RelDs G io H ds vs → RelO G io H (.dct ks ds) a
  | dkt {a : Addr} {ks : List (List Key)} {ds : List Dt} {vs : List V} : H a = some (.dT (ks.zip vs)) → ks.length = ds.length → RelDs G io H ds vs → RelO G io H (.dkt ks ds) a
structure StoreOk (G : Gv) (io : Io) (S : Store) (H : Hp) : Prop where
  nd : io.l.Nodup
  len : S.length = io.l.length
  dis : ∀ a ∈ io.l, a ∉ io.h
  hid : ∀ a ∈ io.h, ∃ u, H a = some u ∧ NoTx u
  ob : ∀ (i : Nat) (o : Ob) (a : Addr), S[i]? = some o → io.l[i]? = some a → RelO G io H o a
  tab : LamX.Tabs G.T H
structure RelEnv (G : Gv) (io : Io) (H : Hp) (e : Env) (σ : L2.St) : Prop where
  len : e.length = σ.length
  at_ : ∀ (i : Nat) (d : Dt), e[i]? = some (some d) → ∃ v, σ[i]? = some (some v) ∧ RelD G io H d v
theorem RelEnv.mono {G : Gv} {io i1 : Io} {H H1 : Hp} {e : Env} {σ : L2.St} (g : Grow io H i1 H1) (r : RelEnv G io H e σ) : RelEnv G i1 H1 e σ :=
  ⟨r.len, fun i d h => let ⟨v, h1, h2⟩ := r.at_ i d h; ⟨v, h1, h2.mono g⟩⟩
theorem RelEnv.set {G : Gv} {io : Io} {H : Hp} {e : Env} {σ : L2.St} {i : Nat} {d : Dt} {v : V} (r : RelEnv G io H e σ) (h : RelD G io H d v) : RelEnv G io H (e.set i (some d)) (σ.set i (some v)) := by
  refine ⟨by simpa using r.len, fun j x hj => ?_⟩
  by_cases hij : i = j
  · subst hij
    have hl : i < e.length := by
      by_cases q : i < e.length
      · exact q
      · rw [List.getElem?_eq_none (by simpa using q)] at hj
        cases hj
    rw [List.getElem?_set_self hl] at hj
    cases hj
    exact ⟨v, List.getElem?_set_self (by rw [← r.len]; exact hl), h⟩
  · rw [List.getElem?_set_ne hij] at hj ⊢
    exact r.at_ j x hj
/-- an exception of the text's classes -/
def RelX (G : Gv) (io : Io) (H : Hp) (x : Ex) (cls : Value) (dx : Option Addr) : Prop :=
  ∃ (C a : Addr) (vs : List V), cls = .ref C ∧ G.xl x.c = some C ∧ dx = some a ∧ H a = some (.xd (x.ns.zip vs)) ∧ a ∉ io ∧ x.ns.length = x.ds.length ∧ RelDs G io H x.ds vs
theorem RelX.mono {G : Gv} {io i1 : Io} {H H1 : Hp} (g : Grow io H i1 H1) {x : Ex} {cls : Value} {dx : Option Addr} (r : RelX G io H x cls dx) : RelX G i1 H1 x cls dx := by
  obtain ⟨C, a, vs, h1, h2, h3, h4, h5, h6, h7⟩ := r
  exact ⟨C, a, vs, h1, h2, h3, g.kp h4 h5, g.notin h4 h5, h6, h7.mono g⟩
/-! ### ends -/
def Out (G : Gv) (io : Io) (H : Hp) {α : Type} (wx : Ex → Io → Hp → Prop) (post : α → Store → Io → Hp → Prop) : R α → Prop
  | .ok a S => ∀ io' H', Grow io H io' H' → StoreOk G io' S H' → post a S io' H'
  | .err x S => ∀ io' H', Grow io H io' H' → StoreOk G io' S H' → wx x io' H'
  | .stuck => False
theorem Out.from {G : Gv} {io i1 : Io} {H H1 : Hp} {α : Type} {wx : Ex → Io → Hp → Prop} {post : α → Store → Io → Hp → Prop} {r : R α} (g : Grow io H i1 H1) (h : Out G io H wx post r) : Out G i1 H1 wx post r := by
  cases r with
  | ok a S => exact fun io' H' g' s => h io' H' (g.trans g') s
  | err x S => exact fun io' H' g' s => h io' H' (g.trans g') s
  | stuck => exact h
theorem Out.bind {G : Gv} {io : Io} {H : Hp} {α β : Type} {wx : Ex → Io → Hp → Prop} {post : β → Store → Io → Hp → Prop} {r : R α} {f : α → Store → R β} (h : Out G io H wx post (r.bind f)) :
    Out G io H wx (fun a S io' H' => Out G io' H' wx post (f a S)) r := by
  cases r with
  | ok a S => exact fun io' H' g s => Out.from g h
  | err x S => exact h
  | stuck => exact h
theorem Out.imp {G : Gv} {io : Io} {H : Hp} {α : Type} {wx wx' : Ex → Io → Hp → Prop} {post post' : α → Store → Io → Hp → Prop} {r : R α} (h : Out G io H wx post r)
    (hx : ∀ x io' H', Grow io H io' H' → wx x io' H' → wx' x io' H') (hp : ∀ a S io' H', Grow io H io' H' → StoreOk G io' S H' → post a S io' H' → post' a S io' H') : Out G io H wx' post' r := by
  cases r with
  | ok a S => exact fun io' H' g s => hp _ _ _ _ g s (h io' H' g s)
  | err x S => exact fun io' H' g s => hx _ _ _ g (h io' H' g s)
  | stuck => exact h
def OutS (G : Gv) (io : Io) (H : Hp) (wx : Ex → Env → Io → Hp → Prop) (post : Fl → Env → Store → Io → Hp → Prop) : RS → Prop
  | .ok f e S => ∀ io' H', Grow io H io' H' → StoreOk G io' S H' → post f e S io' H'
  | .err x e S => ∀ io' H', Grow io H io' H' → StoreOk G io' S H' → wx x e io' H'
  | .stuck => False
theorem OutS.from {G : Gv} {io i1 : Io} {H H1 : Hp} {wx : Ex → Env → Io → Hp → Prop} {post : Fl → Env → Store → Io → Hp → Prop} {r : RS} (g : Grow io H i1 H1) (h : OutS G io H wx post r) : OutS G i1 H1 wx post r := by
  cases r with
  | ok a e S => exact fun io' H' g' s => h io' H' (g.trans g') s
  | err x e S => exact fun io' H' g' s => h io' H' (g.trans g') s
  | stuck => exact h
/-- the wish for an exception at the slots σ -/
abbrev wxE (G : Gv) (W : WX) (σ : L2.St) : Ex → Io → Hp → Prop := fun x io' H' => ∀ cls dx, RelX G io' H' x cls dx → W cls dx σ H'
abbrev poE (G : Gv) (Q : VK) : Dt → Store → Io → Hp → Prop := fun d _ io' H' => ∀ v, RelD G io' H' d v → Q v H'
abbrev poA (G : Gv) (Q : List V → Hp → Prop) : List Dt → Store → Io → Hp → Prop := fun ds _ io' H' => ∀ vs, RelDs G io' H' ds vs → Q vs H'
abbrev poT (Q : Bool → Hp → Prop) : Bool → Store → Io → Hp → Prop := fun b _ _ H' => Q b H'
def SimE (G : Gv) (W : WX) (t : TE) (m : Env → Store → R Dt) : Prop := ∀ io H S e σ Q, StoreOk G io S H → RelEnv G io H e σ → Out G io H (wxE G W σ) (poE G Q) (m e S) → t σ H Q
def SimA (G : Gv) (W : WX) (t : TA) (m : Env → Store → R (List Dt)) : Prop := ∀ io H S e σ Q, StoreOk G io S H → RelEnv G io H e σ → Out G io H (wxE G W σ) (poA G Q) (m e S) → t σ H Q
def SimT (G : Gv) (W : WX) (t : TT) (m : Env → Store → R Bool) : Prop := ∀ io H S e σ Q, StoreOk G io S H → RelEnv G io H e σ → Out G io H (wxE G W σ) (poT Q) (m e S) → t σ H Q
abbrev wxS (G : Gv) (W : WX) : Ex → Env → Io → Hp → Prop := fun x e io' H' => ∀ σ cls dx, RelEnv G io' H' e σ → RelX G io' H' x cls dx → W cls dx σ H'
def poF (G : Gv) (D : Ends) : Fl → Env → Store → Io → Hp → Prop
  | .nx, e, _, io, H => ∀ σ, RelEnv G io H e σ → D.nx σ H
  | .bk, e, _, io, H => ∀ σ, RelEnv G io H e σ → D.bk σ H
  | .ct, e, _, io, H => ∀ σ, RelEnv G io H e σ → D.ct σ H
  | .rt d, _, _, io, H => ∀ v, RelD G io H d v → D.rt v H
def SimS (G : Gv) (W : WX) (t : TS) (m : Env → Store → RS) : Prop := ∀ io H S e σ D, StoreOk G io S H → RelEnv G io H e σ → OutS G io H (wxS G W) (poF G D) (m e S) → t D σ H
/-! ### judgements -/
def DE (G : Gv) (X : Cx) (W : WX) (e : Expr) (m : Env → Store → R Dt) : Prop := ∃ t, PE X e t ∧ SimE G W t m
def DA (G : Gv) (X : Cx) (W : WX) (e : List Expr) (m : Env → Store → R (List Dt)) : Prop := ∃ t, PA X e t ∧ SimA G W t m
def DT (G : Gv) (X : Cx) (W : WX) (e : Expr) (m : Env → Store → R Bool) : Prop := ∃ t, PT X e t ∧ SimT G W t m
def DW (G : Gv) (X : Cx) (W : WX) (e : Expr) (m : Env → Store → R Bool) : Prop := ∃ t, PW X e t ∧ SimT G W t m
def DS (G : Gv) (X : Cx) (W : WX) (s : Stmt) (m : Env → Store → RS) : Prop := ∃ t, PS X s t ∧ SimS G W t m
def DB (G : Gv) (X : Cx) (W : WX) (s : List Stmt) (m : Env → Store → RS) : Prop := ∃ t, PSs X s t ∧ SimS G W t m
/-! ### names and constants -/
@[reducible] def mVar (i : Nat) : Env → Store → R Dt := fun e S => match e[i]? with
  | some (some d) => .ok d S
  | _ => .stuck
@[reducible] def mC (d : Dt) : Env → Store → R Dt := fun _ S => .ok d S
section
variable {G : Gv} {X : Cx} {W : WX}
theorem simE_var (i : Nat) : SimE G W (tVar i) (mVar i) := by
  intro io H S e σ Q so re h
  unfold mVar at h
  split at h
  · rename_i d hd
    obtain ⟨v, h1, h2⟩ := re.at_ i d hd
    exact ⟨v, h1, h io H Grow.refl so v h2⟩
  · exact h.elim
theorem simE_c {d : Dt} {v : V} (hr : ∀ io H, RelD G io H d v) : SimE G W (tC v) (mC d) := by
  intro io H S e σ Q so re h
  exact h io H Grow.refl so v (hr io H)
theorem de_var (i : Nat) {x : Str} {pos : Pos} (hN : X.N[i]? = some x := by rfl) (hv : Vis X.env.scope x := by first | exact Or.inl rfl | exact Or.inr (Or.inl rfl) | exact Or.inr (Or.inr rfl)) (hd : (x == ("__debug__" : Str)) = false := by decide)
    (hcd : (x == ("__classdict__" : Str)) = false := by decide) : DE G X W (.Name x pos) (mVar i) := ⟨_, pe_var hN hv hd hcd, simE_var i⟩
theorem de_int {i : Int} {j pos} : DE G X W (.Constant (.int i) j pos) (mC (.int i)) := ⟨_, pe_int, simE_c fun _ _ => .int i⟩
theorem de_bl {b j pos} : DE G X W (.Constant (.bool b) j pos) (mC (.bl b)) := ⟨_, pe_bl, simE_c fun _ _ => .bl b⟩
theorem de_non {j pos} : DE G X W (.Constant .none j pos) (mC .non) := ⟨_, pe_non, simE_c fun _ _ => .non⟩
theorem de_str {x j pos} : DE G X W (.Constant (.str x) j pos) (mC (.str x)) := ⟨_, pe_str, simE_c fun _ _ => .str x⟩
theorem de_gint {x : Str} {i : Int} {t : Tok} {pos : Pos} (hg : Gl X x) (hm : X.mg x = some (.int i t)) (hd : (x == ("__debug__" : Str)) = false := by decide) : DE G X W (.Name x pos) (mC (.int i)) :=
  ⟨_, pe_glob (v := .int i) hg hm ⟨t, rfl⟩ hd, simE_c fun _ _ => .int i⟩
theorem de_gstr {x : Str} {i : Str} {t : Tok} {pos : Pos} (hg : Gl X x) (hm : X.mg x = some (.str i t)) (hd : (x == ("__debug__" : Str)) = false := by decide) : DE G X W (.Name x pos) (mC (.str i)) :=
  ⟨_, pe_glob (v := .str i) hg hm ⟨t, rfl⟩ hd, simE_c fun _ _ => .str i⟩
theorem de_cls {x : Str} {c : String} {C : Addr} {pos : Pos} (hc : G.cl c = some C) (hg : Gl X x) (hm : X.mg x = some (.ref C)) (hd : (x == ("__debug__" : Str)) = false := by decide) : DE G X W (.Name x pos) (mC (.cls c)) :=
  ⟨_, pe_glob (v := .ref C) hg hm rfl hd, simE_c fun _ _ => .cls hc⟩
theorem de_ty {x : Str} {n : String} {pos : Pos} (hg : Gl X x) (hm : X.mg x = none) (hv : bootBuiltins x = some (.type n)) (hn : x ≠ "__name__" := by decide) (hd : (x == ("__debug__" : Str)) = false := by decide) : DE G X W (.Name x pos) (mC (.ty n)) :=
  ⟨_, pe_bltn (v := .ty n) hg hm hv rfl hn hd, simE_c fun _ _ => .ty n⟩
end
/-! ### argument lists -/
@[reducible] def mNil : Env → Store → R (List Dt) := fun _ S => .ok [] S
@[reducible] def mCons (ma : Env → Store → R Dt) (mr : Env → Store → R (List Dt)) : Env → Store → R (List Dt) := fun e S => (ma e S).bind fun d S1 => (mr e S1).bind fun ds S2 => .ok (d :: ds) S2
section
variable {G : Gv} {X : Cx} {W : WX} {e : Expr} {es : List Expr} {m : Env → Store → R Dt} {ms : Env → Store → R (List Dt)}
theorem da_nil : DA G X W [] mNil := ⟨_, pa_nil, fun io H S e σ Q so re h => h io H Grow.refl so [] .nil⟩
theorem da_cons (ha : DE G X W e m) (hr : DA G X W es ms) (hs : starEach (e :: es) X.env = (false, eval e X.env) :: starEach es X.env := by rfl) : DA G X W (e :: es) (mCons m ms) := by
  obtain ⟨t, p, q⟩ := ha
  obtain ⟨u, p', q'⟩ := hr
  refine ⟨_, pa_cons p p' hs, fun io H S e σ Q so re h => ?_⟩
  refine q io H S e σ _ so re (h.bind.imp (fun _ _ _ _ z => z) fun d S1 i1 H1 g1 s1 k1 v r => ?_)
  refine q' i1 H1 S1 e σ _ s1 (re.mono g1) (k1.bind.imp (fun _ _ _ _ z => z) fun ds S2 i2 H2 g2 s2 k2 vs rs => ?_)
  exact k2 i2 H2 Grow.refl s2 _ (.cons (r.mono g2) rs)
end
/-! ### operations on values -/
/-- a two-place operation -/
def SimO (G : Gv) (r : R2) (m : Dt → Dt → Store → R Dt) : Prop := ∀ io H S x y dx dy Q, StoreOk G io S H → RelD G io H dx x → RelD G io H dy y → Out G io H (fun _ _ _ => False) (poE G Q) (m dx dy S) → r x y H Q
@[reducible] def mOp (m : Dt → Dt → Store → R Dt) (ma mb : Env → Store → R Dt) : Env → Store → R Dt := fun e S => (ma e S).bind fun x S1 => (mb e S1).bind fun y S2 => m x y S2
def NoErr {α : Type} : R α → Prop
  | .err _ _ => False
  | _ => True
theorem Out.noErr {G : Gv} {io : Io} {H : Hp} {α : Type} {wx wx' : Ex → Io → Hp → Prop} {post : α → Store → Io → Hp → Prop} {r : R α} (n : NoErr r) (h : Out G io H wx post r) : Out G io H wx' post r := by
  cases r with
  | ok a S => exact h
  | err x S => exact n.elim
  | stuck => exact h
def DO (G : Gv) (X : Cx) (f : Value → Value → Sem Value) (m : Dt → Dt → Store → R Dt) : Prop := ∃ r, OpR X f r ∧ SimO G r m ∧ ∀ x y S, NoErr (m x y S)
section
variable {G : Gv} {X : Cx} {W : WX} {a b : Expr} {ma mb : Env → Store → R Dt}
theorem simE_op {r : R2} {ta tb : TE} {m : Dt → Dt → Store → R Dt} (ho : SimO G r m) (hn : ∀ x y S, NoErr (m x y S)) (ha : SimE G W ta ma) (hb : SimE G W tb mb) : SimE G W (tOp r ta tb) (mOp m ma mb) := by
  intro io H S e σ Q so re h
  refine ha io H S e σ _ so re (h.bind.imp (fun _ _ _ _ z => z) fun d S1 i1 H1 g1 s1 k1 v r1 => ?_)
  refine hb i1 H1 S1 e σ _ s1 (re.mono g1) (k1.bind.imp (fun _ _ _ _ z => z) fun d' S2 i2 H2 g2 s2 k2 v' r2 => ?_)
  exact ho i2 H2 S2 v v' d d' Q s2 (r1.mono g2) r2 (k2.noErr (hn _ _ _))
theorem de_op {op : Operator} {pos : Pos} {m : Dt → Dt → Store → R Dt} (ho : DO G X (binaryOp op) m) (ha : DE G X W a ma) (hb : DE G X W b mb) : DE G X W (.BinOp a op b pos) (mOp m ma mb) := by
  obtain ⟨r, p, q, n⟩ := ho
  obtain ⟨ta, pa, qa⟩ := ha
  obtain ⟨tb, pb, qb⟩ := hb
  exact ⟨_, pe_op p pa pb, simE_op q n qa qb⟩
theorem de_cmp {op : CmpOp} {pos : Pos} {m : Dt → Dt → Store → R Dt} (ho : DO G X (compareOp op) m) (ha : DE G X W a ma) (hb : DE G X W b mb) (hm : behindInMarks op b = false := by first | exact nomark _ | rfl) : DE G X W (.Compare a [op] [b] pos) (mOp m ma mb) := by
  obtain ⟨r, p, q, n⟩ := ho
  obtain ⟨ta, pa, qa⟩ := ha
  obtain ⟨tb, pb, qb⟩ := hb
  exact ⟨_, pe_cmpR p pa pb hm, simE_op q n qa qb⟩
/-- the truth of an answer that is a bool -/
@[reducible] def mB (m : Env → Store → R Dt) : Env → Store → R Bool := fun e S => (m e S).bind fun d S1 => match d with
  | .bl b => .ok b S1
  | _ => .stuck
theorem simT_b {t : TE} {m : Env → Store → R Dt} (h : SimE G W t m) : SimT G W (fun σ H Q => t σ H fun x H1 => ∃ c, x = .bl c ∧ Q c H1) (mB m) := by
  intro io H S e σ Q so re k
  refine h io H S e σ _ so re (k.bind.imp (fun _ _ _ _ z => z) fun d S1 i1 H1 g1 s1 k1 v r => ?_)
  cases r with
  | bl b => exact ⟨b, rfl, k1 i1 H1 Grow.refl s1⟩
  | _ => exact k1.elim
theorem dt_cmp {op : CmpOp} {pos : Pos} {m : Dt → Dt → Store → R Dt} (ho : DO G X (compareOp op) m) (ha : DE G X W a ma) (hb : DE G X W b mb) (hm : behindInMarks op b = false := by first | exact nomark _ | rfl) : DT G X W (.Compare a [op] [b] pos) (mB (mOp m ma mb)) := by
  obtain ⟨r, p, q, n⟩ := ho
  obtain ⟨ta, pa, qa⟩ := ha
  obtain ⟨tb, pb, qb⟩ := hb
  exact ⟨_, pt_cmpR p pa pb hm, simT_b (simE_op q n qa qb)⟩
end
end Dv
set_option Elab.async false
set_option linter.all false
set_option maxRecDepth 100000
set_option maxHeartbeats 4000000
set_option autoImplicit false
namespace Dv
open PySem PySem.Spec PyProof.Rows L2
/-! ### the store under extension -/
def ExtH (H H' : Hp) : Prop := ∀ b o, H b = some o → H' b = some o
theorem ExtH.new {H : Hp} {p : Addr} {o : HO} (h : H p = none) : ExtH H (upd H p o) := fun a u e => by
  rw [upd_ne (ne_of_none e h)]
  exact e
theorem ExtH.grow {io : Io} {H H' : Hp} (e : ExtH H H') : Grow io H io H' := ⟨⟨[], by simp⟩, fun b o h _ _ => e b o h, fun a h n => absurd h n⟩
/-- neither a table nor a code object -/
def PlainO (o : HO) : Prop := NoTb o ∧ ∀ f, o ≠ .ext f
theorem tabs_upd {T : List (Addr × Str)} {H : Hp} {p : Addr} {u : HO} (t : LamX.Tabs T H) (hp : ∀ o, H p = some o → PlainO o) : LamX.Tabs T (upd H p u) := fun x hx => by
  obtain ⟨ps, h1, h2, h3⟩ := t x hx
  have n1 : x.1 ≠ p := fun e => (hp _ (e ▸ h1)).1 ps rfl
  refine ⟨ps, by rw [upd_ne n1]; exact h1, h2, fun pos cv hc => ?_⟩
  obtain ⟨c, e1, e2⟩ := h3 pos cv hc
  have n2 : c ≠ p := fun e => (hp _ (e ▸ e2)).2 _ rfl
  exact ⟨c, e1, by rw [upd_ne n2]; exact e2⟩
theorem pl_none {H : Hp} {p : Addr} (h : H p = none) : ∀ o, H p = some o → PlainO o := fun o e => by
  rw [h] at e
  cases e
theorem pl_some {H : Hp} {p : Addr} {u : HO} (h : H p = some u) (hu : PlainO u := by exact ⟨(fun _ e => by cases e), (fun _ e => by cases e)⟩) : ∀ o, H p = some o → PlainO o := fun o e => by
  rw [h] at e
  cases e
  exact hu
section
variable {G : Gv} {io : Io} {H H' : Hp} {S : Store}
theorem RelO.there {o : Ob} {a : Addr} (r : RelO G io H o a) : ∃ u, H a = some u := by
  cases r with
  | lst h _ => exact ⟨_, h⟩
  | ins h _ _ _ => exact ⟨_, h⟩
  | dct h _ _ => exact ⟨_, h⟩
  | dkt h _ _ => exact ⟨_, h⟩
theorem RelO.pl {o : Ob} {a : Addr} (r : RelO G io H o a) : ∀ u, H a = some u → PlainO u := by
  cases r with
  | lst h _ => exact pl_some h
  | ins h _ _ _ => exact pl_some h
  | dct h _ _ => exact pl_some h
  | dkt h _ _ => exact pl_some h
theorem RelO.ext (e : ExtH H H') {o : Ob} {a : Addr} (r : RelO G io H o a) : RelO G io H' o a := by
  cases r with
  | lst h k => exact .lst (e _ _ h) (k.mono e.grow)
  | ins h c l k => exact .ins (e _ _ h) c l (k.mono e.grow)
  | dct h l k => exact .dct (e _ _ h) l (k.mono e.grow)
  | dkt h l k => exact .dkt (e _ _ h) l (k.mono e.grow)
theorem StoreOk.ext (e : ExtH H H') (so : StoreOk G io S H) : StoreOk G io S H' := ⟨so.nd, so.len, so.dis, fun a h => let ⟨u, z, nt⟩ := so.hid a h; ⟨u, e _ _ z, nt⟩, fun i o a h1 h2 => (so.ob i o a h1 h2).ext e, so.tab.ext e⟩
theorem StoreOk.at_ (so : StoreOk G io S H) {i : Nat} {o : Ob} (h : S[i]? = some o) : ∃ a, io.l[i]? = some a ∧ RelO G io H o a := by
  have hl : i < io.l.length := by
    rw [← so.len]
    exact (List.getElem?_eq_some_iff.mp h).1
  exact ⟨io.l[i], by simp [hl], so.ob i o _ h (by simp [hl])⟩
theorem StoreOk.there (so : StoreOk G io S H) {a : Addr} (h : a ∈ io) : ∃ u, H a = some u := by
  rcases h with h | h
  · obtain ⟨i, hl, e⟩ := List.getElem_of_mem h
    have hs : i < S.length := by rw [so.len]; exact hl
    exact (so.ob i S[i] a (by simp [hs]) (by simp [hl, e])).there
  · obtain ⟨u, e, _⟩ := so.hid a h
    exact ⟨u, e⟩
theorem StoreOk.fresh (so : StoreOk G io S H) {p : Addr} (h : H p = none) : p ∉ io := fun hm => by
  obtain ⟨u, e⟩ := so.there hm
  rw [h] at e
  cases e
theorem push_grow {p : Addr} {u : HO} (h : H p = none) : Grow io H (io.push p) (upd H p u) := by
  refine ⟨⟨[p], rfl⟩, fun b o h' _ _ => ExtH.new h b o h', fun a ha n => ?_⟩
  rcases List.mem_append.mp ha with z | z
  · exact absurd z n
  · rw [List.mem_singleton] at z
    rw [z]
    exact fun o e => by rw [h] at e; cases e
/-- a new object of the store -/
theorem StoreOk.push (so : StoreOk G io S H) {p : Addr} {o : Ob} {u : HO} (h : H p = none) (r : RelO G (io.push p) (upd H p u) o p) :
    Grow io H (io.push p) (upd H p u) ∧ StoreOk G (io.push p) (S ++ [o]) (upd H p u) := by
  have g : Grow io H (io.push p) (upd H p u) := push_grow h
  refine ⟨g, ?_, by simp [so.len], fun a ha => ?_, fun a ha => ?_, fun i ob a h1 h2 => ?_, tabs_upd so.tab (pl_none h)⟩
  · rw [List.nodup_append]
    refine ⟨so.nd, by simp, fun a ha b hb => ?_⟩
    rw [List.mem_singleton] at hb
    rw [hb]
    intro z
    rw [z] at ha
    exact so.fresh h (.inl ha)
  · rcases List.mem_append.mp ha with z | z
    · exact so.dis a z
    · rw [List.mem_singleton] at z
      rw [z]
      exact fun q => so.fresh h (.inr q)
  · obtain ⟨v, z, nt⟩ := so.hid a ha
    exact ⟨v, ExtH.new h _ _ z, nt⟩
  · by_cases hi : i < S.length
    · rw [List.getElem?_append_left hi] at h1
      rw [List.getElem?_append_left (by rw [← so.len]; exact hi)] at h2
      have q := so.ob i ob a h1 h2
      have e := ExtH.new (o := u) h
      cases q with
      | lst h k => exact .lst (e _ _ h) (k.mono g)
      | ins h c l k => exact .ins (e _ _ h) c l (k.mono g)
      | dct h l k => exact .dct (e _ _ h) l (k.mono g)
      | dkt h l k => exact .dkt (e _ _ h) l (k.mono g)
    · have hs : i = S.length := by
        have := (List.getElem?_eq_some_iff.mp h1).1
        rw [List.length_append, List.length_singleton] at this
        omega
      subst hs
      rw [List.getElem?_append_right (Nat.le_refl _)] at h1
      rw [so.len, List.getElem?_append_right (Nat.le_refl _)] at h2
      simp at h1 h2
      subst h1 h2
      exact r
/-- an object of the store is written -/
theorem StoreOk.write (so : StoreOk G io S H) {i : Nat} {p : Addr} {o : Ob} {u : HO} (hp : io.l[i]? = some p) (r : RelO G io (upd H p u) o p) : Grow io H io (upd H p u) ∧ StoreOk G io (S.set i o) (upd H p u) := by
  have hm : p ∈ io.l := List.mem_of_getElem? hp
  have hpl : ∀ o, H p = some o → PlainO o := by
    obtain ⟨hl, e⟩ := List.getElem?_eq_some_iff.mp hp
    have hs : i < S.length := by rw [so.len]; exact hl
    exact (so.ob i S[i] p (by simp [hs]) hp).pl
  have g : Grow io H io (upd H p u) := ⟨⟨[], by simp⟩, fun b o h n _ => by
    rw [upd_ne (fun z => n (by rw [z]; exact hm))]
    exact h, fun a h n => absurd h n⟩
  refine ⟨g, so.nd, by simp [so.len], so.dis, fun a ha => ?_, fun j ob a h1 h2 => ?_, tabs_upd so.tab hpl⟩
  · by_cases hb : a = p
    · exact absurd (hb ▸ ha) (so.dis p hm)
    · rw [upd_ne hb]
      exact so.hid a ha
  by_cases hj : i = j
  · subst hj
    have hl := (List.getElem?_eq_some_iff.mp hp).1
    rw [List.getElem?_set_self (by rw [so.len]; exact hl)] at h1
    rw [hp] at h2
    cases h1
    cases h2
    exact r
  · rw [List.getElem?_set_ne hj] at h1
    have ne : a ≠ p := fun z => by
      obtain ⟨l1, e1⟩ := List.getElem?_eq_some_iff.mp h2
      obtain ⟨l2, e2⟩ := List.getElem?_eq_some_iff.mp hp
      exact hj ((List.getElem_inj so.nd).mp (e2.trans (z.symm.trans e1.symm)))
    have q := so.ob j ob a h1 h2
    cases q with
    | lst h k => exact .lst (by rw [upd_ne ne]; exact h) (k.mono g)
    | ins h c l k => exact .ins (by rw [upd_ne ne]; exact h) c l (k.mono g)
    | dct h l k => exact .dct (by rw [upd_ne ne]; exact h) l (k.mono g)
    | dkt h l k => exact .dkt (by rw [upd_ne ne]; exact h) l (k.mono g)
end
/-! ### lists and tuples that are read -/
@[reducible] def asL (S : Store) : Dt → Option (List Dt)
  | .lst ds => some ds
  | .fz ds => some ds
  | .ref i => match S[i]? with
    | some (.lst ds) => some ds
    | _ => none
  | _ => none
@[reducible] def asP (S : Store) : Dt → Option (List Dt)
  | .lst ds => some ds
  | .ref i => match S[i]? with
    | some (.lst ds) => some ds
    | _ => none
  | _ => none
@[reducible] def asT : Dt → Option (List Dt)
  | .tup ds => some ds
  | _ => none
section
variable {G : Gv} {io : Io} {H H' : Hp} {S : Store} {d : Dt} {ds : List Dt} {v : V}
theorem asP_ok (so : StoreOk G io S H) (r : RelD G io H d v) (h : asP S d = some ds) : ∃ a vs, v = .ref a ∧ H a = some (.lst vs) ∧ RelDs G io H ds vs := by
  cases r with
  | lst e n k => cases h; exact ⟨_, _, rfl, e, k⟩
  | @ref a i e =>
    simp only [asP] at h
    split at h
    · rename_i xs hs
      cases h
      obtain ⟨a', h1, h2⟩ := so.at_ hs
      rw [e] at h1
      cases h1
      cases h2 with
      | lst h3 h4 => exact ⟨_, _, rfl, h3, h4⟩
    · cases h
  | _ => cases h
theorem asL_ok (so : StoreOk G io S H) (r : RelD G io H d v) (h : asL S d = some ds) : ∃ a vs, v = .ref a ∧ SqL G.K H a vs ∧ RelDs G io H ds vs := by
  cases r with
  | lst e n k => cases h; exact ⟨_, _, rfl, .inl (.inl e), k⟩
  | fz e k =>
    cases h
    refine ⟨_, _, rfl, ?_, k⟩
    rcases e with ⟨e, _⟩ | e
    · exact .inl e
    · exact .inr e
  | @ref a i e =>
    obtain ⟨a', vs, h1, h2, h3⟩ := asP_ok (d := .ref i) (ds := ds) so (.ref e) (by simpa only [asP, asL] using h)
    exact ⟨a', vs, h1, .inl (.inl h2), h3⟩
  | _ => cases h
theorem asT_ok (r : RelD G io H d v) (h : asT d = some ds) : ∃ a vs, v = .ref a ∧ SqT G.K H a vs ∧ RelDs G io H ds vs := by
  cases r with
  | tup e k =>
    cases h
    refine ⟨_, _, rfl, ?_, k⟩
    rcases e with ⟨e, _⟩ | e
    · exact .inl (.inl e)
    · exact .inr e.1
  | _ => cases h
/-- a new tuple, a new list by value -/
theorem new_tup (so : StoreOk G io S H) {ds : List Dt} {vs : List V} (r : RelDs G io H ds vs) {p : Addr} (h : H p = none) :
    Grow io H io (upd H p (.tup vs)) ∧ StoreOk G io S (upd H p (.tup vs)) ∧ RelD G io (upd H p (.tup vs)) (.tup ds) (.ref p) :=
  ⟨(ExtH.new h).grow, so.ext (ExtH.new h), .tup (.inl ⟨upd_same, so.fresh h⟩) (r.mono (ExtH.new h).grow)⟩
theorem new_lst (so : StoreOk G io S H) {ds : List Dt} {vs : List V} (r : RelDs G io H ds vs) {p : Addr} (h : H p = none) :
    Grow io H io (upd H p (.lst vs)) ∧ StoreOk G io S (upd H p (.lst vs)) ∧ RelD G io (upd H p (.lst vs)) (.lst ds) (.ref p) :=
  ⟨(ExtH.new h).grow, so.ext (ExtH.new h), .lst upd_same (so.fresh h) (r.mono (ExtH.new h).grow)⟩
theorem out_tup {wx : Ex → Io → Hp → Prop} {Q : VK} (so : StoreOk G io S H) {ds : List Dt} {vs : List V} (r : RelDs G io H ds vs) (h : Out G io H wx (poE G Q) (.ok (.tup ds) S)) {p : Addr} (hp : H p = none) : Q (.ref p) (upd H p (.tup vs)) := by
  obtain ⟨a, b, c⟩ := new_tup so r hp
  exact h io _ a b _ c
theorem out_lst {wx : Ex → Io → Hp → Prop} {Q : VK} (so : StoreOk G io S H) {ds : List Dt} {vs : List V} (r : RelDs G io H ds vs) (h : Out G io H wx (poE G Q) (.ok (.lst ds) S)) {p : Addr} (hp : H p = none) : Q (.ref p) (upd H p (.lst vs)) := by
  obtain ⟨a, b, c⟩ := new_lst so r hp
  exact h io _ a b _ c
theorem out_ref {wx : Ex → Io → Hp → Prop} {Q : VK} (so : StoreOk G io S H) {ds : List Dt} {vs : List V} (r : RelDs G io H ds vs) (h : Out G io H wx (poE G Q) (.ok (.ref S.length) (S ++ [.lst ds]))) {p : Addr} (hp : H p = none) : Q (.ref p) (upd H p (.lst vs)) := by
  obtain ⟨a, b⟩ := so.push (o := .lst ds) (u := .lst vs) hp (.lst upd_same (r.mono (push_grow hp)))
  exact h _ _ a b _ (.ref (by rw [so.len]; simp))
end
end Dv
set_option Elab.async false
set_option linter.all false
set_option maxRecDepth 100000
set_option maxHeartbeats 4000000
set_option autoImplicit false
namespace Dv
open PySem PySem.Spec PyProof.Rows L2
def mAdd (x y : Dt) (S : Store) : R Dt := match x, y with
  | .int i, .int j => .ok (.int (i + j)) S
  | .str a, .str b => if a.length + b.length ≤ 100000 then .ok (.str (a ++ b)) S else .stuck
  | .tup xs, .tup ys => if xs.length + ys.length ≤ 1000000 then .ok (.tup (xs ++ ys)) S else .stuck
  | x, y => match asP S x, asP S y with
    | some xs, some ys => if xs.length + ys.length ≤ 1000000 then .ok (.lst (xs ++ ys)) S else .stuck
    | _, _ => .stuck
def mSub (x y : Dt) (S : Store) : R Dt := match x, y with
  | .int i, .int j => .ok (.int (i - j)) S
  | _, _ => .stuck
/-- small enough for * -/
def mulOk (i j : Int) : Bool := decide (i.natAbs < 2 ^ 64) || decide (j.natAbs < 2 ^ 64) || decide (i.natAbs.log2 + j.natAbs.log2 < 1000000)
def mMul (x y : Dt) (S : Store) : R Dt := match x, y with
  | .int i, .int j => if mulOk i j = true then .ok (.int (i * j)) S else .stuck
  | x, .int k => match asP S x with
    | some xs => if -100000 ≤ k ∧ k ≤ 100000 ∧ xs.length ≤ 100 then .ok (.lst (List.replicate k.toNat xs).flatten) S else .stuck
    | none => .stuck
  | _, _ => .stuck
def divOk (j : Int) : Bool := decide (j ≠ 0) && decide (j.natAbs.log2 < 9000)
def mDiv (x y : Dt) (S : Store) : R Dt := match x, y with
  | .int i, .int j => if divOk j = true then .ok (.int (i.fdiv j)) S else .stuck
  | _, _ => .stuck
def mMod (x y : Dt) (S : Store) : R Dt := match x, y with
  | .int i, .int j => if j ≠ 0 then .ok (.int (i.fmod j)) S else .stuck
  | _, _ => .stuck
def powOk (i j : Int) : Bool := decide (0 ≤ j ∧ j ≤ 1000000 ∧ i.natAbs < 2 ^ 64)
def mPow (x y : Dt) (S : Store) : R Dt := match x, y with
  | .int i, .int j => if powOk i j = true then .ok (.int (i ^ j.toNat)) S else .stuck
  | _, _ => .stuck
def mCmpI (p : Int → Int → Bool) (x y : Dt) (S : Store) : R Dt := match x, y with
  | .int i, .int j => .ok (.bl (p i j)) S
  | _, _ => .stuck
def mLt : Dt → Dt → Store → R Dt := mCmpI fun i j => decide (i < j)
def mLe : Dt → Dt → Store → R Dt := mCmpI fun i j => decide (i ≤ j)
def mGt : Dt → Dt → Store → R Dt := mCmpI fun i j => decide (j < i)
def mGe : Dt → Dt → Store → R Dt := mCmpI fun i j => decide (j ≤ i)
/-- is, is not: None and bools -/
def mIs (neg : Bool) (x y : Dt) (S : Store) : R Dt := match x, y with
  | .non, .non => .ok (.bl (!neg)) S
  | .ref _, .non => .ok (.bl neg) S
  | .bl _, .non => .ok (.bl neg) S
  | .int _, .non => .ok (.bl neg) S
  | .str _, .non => .ok (.bl neg) S
  | .tup _, .non => .ok (.bl neg) S
  | .lst _, .non => .ok (.bl neg) S
  | .ins _ _ _, .non => .ok (.bl neg) S
  | .dct _ _, .non => .ok (.bl neg) S
  | .bl a, .bl b => .ok (.bl (if neg then !decide (a = b) else decide (a = b))) S
  | _, _ => .stuck
section
variable {G : Gv} {X : Cx}
theorem small6 {n : Nat} (h : n ≤ 1000000) : n ≤ sizeLine := Nat.le_trans h (by decide)
theorem rel_bl {G : Gv} {io : Io} {H : Hp} {i : Bool} {v : V} (r : RelD G io H (.bl i) v) : v = .bl i := by cases r; rfl
theorem nil_iff {G : Gv} {io : Io} {H : Hp} {ds : List Dt} {vs : List V} (r : RelDs G io H ds vs) : vs = [] ↔ ds = [] := by
  cases r with
  | nil => simp
  | cons _ _ => simp
/-- a rule on two ints -/
theorem sim_int {C : Int → Int → Prop} {c : Int → Int → Bool} {g : Int → Int → V} {gd : Int → Int → Dt} (hc : ∀ i j, c i j = true → C i j) (hg : ∀ G io H i j, RelD G io H (gd i j) (g i j)) :
    SimO G (rI C g) (fun x y S => match x, y with | .int i, .int j => if c i j = true then .ok (gd i j) S else .stuck | _, _ => .stuck) := by
  intro io H S x y dx dy Q so rx ry h
  dsimp only at h
  split at h
  · rename_i i j
    cases rx
    cases ry
    by_cases hcc : c i j = true
    · rw [if_pos hcc] at h
      exact ⟨_, _, rfl, rfl, hc _ _ hcc, h io H Grow.refl so _ (hg _ _ _ _ _)⟩
    · rw [if_neg hcc] at h
      exact h.elim
  · exact h.elim
theorem do_add (hK : X.K = G.K := by rfl) : DO G X (binaryOp .Add) mAdd := by
  refine ⟨_, (((op_add (X := X)).or op_add_str).or op_catA).or op_cat, ?_, ?_⟩
  · intro io H S x y dx dy Q so rx ry h
    unfold mAdd at h
    split at h
    · cases rx
      cases ry
      exact .inl (.inl (.inl ⟨_, _, rfl, rfl, h io H Grow.refl so _ (.int _)⟩))
    · rename_i a b
      cases rx
      cases ry
      by_cases hl : a.length + b.length ≤ 100000
      · rw [if_pos hl] at h
        exact .inl (.inl (.inr ⟨_, _, rfl, rfl, small6 (by omega), h io H Grow.refl so _ (.str _)⟩))
      · rw [if_neg hl] at h
        exact h.elim
    · rename_i xs ys
      by_cases hl : xs.length + ys.length ≤ 1000000
      · rw [if_pos hl] at h
        obtain ⟨a, vs, rfl, hs, rs⟩ := asT_ok rx rfl
        obtain ⟨b, us, rfl, ht, rt⟩ := asT_ok ry rfl
        have l1 := rs.length
        have l2 := rt.length
        refine .inl (.inr ⟨a, b, vs, us, rfl, rfl, by rw [hK]; exact hs, by rw [hK]; exact ht, small6 (by omega), fun e => ?_, fun e1 e2 => ?_, fun e1 e2 p hp => ?_⟩)
        · have e' := (nil_iff rs).mp e
          subst e'
          rw [List.nil_append] at h
          exact h io H Grow.refl so _ ry
        · have e' := (nil_iff rt).mp e2
          subst e'
          rw [List.append_nil] at h
          exact h io H Grow.refl so _ rx
        · exact out_tup so (rs.append rt) h hp
      · rw [if_neg hl] at h
        exact h.elim
    · split at h
      · rename_i xs ys e1 e2
        by_cases hl : xs.length + ys.length ≤ 1000000
        · rw [if_pos hl] at h
          obtain ⟨a, vs, rfl, hs, rs⟩ := asP_ok so rx e1
          obtain ⟨b, us, rfl, ht, rt⟩ := asP_ok so ry e2
          have l1 := rs.length
          have l2 := rt.length
          exact .inr ⟨a, b, vs, us, rfl, rfl, hs, ht, small6 (by omega), fun p hp => out_lst so (rs.append rt) h hp⟩
        · rw [if_neg hl] at h
          exact h.elim
      · exact h.elim
  · intro x y S
    unfold mAdd
    repeat' split
    all_goals trivial
theorem do_sub : DO G X (binaryOp .Sub) mSub := by
  refine ⟨_, op_sub, ?_, ?_⟩
  · intro io H S x y dx dy Q so rx ry h
    unfold mSub at h
    split at h
    · cases rx
      cases ry
      exact ⟨_, _, rfl, rfl, h io H Grow.refl so _ (.int _)⟩
    · exact h.elim
  · intro x y S
    unfold mSub
    split <;> trivial
theorem do_mul : DO G X (binaryOp .Mult) mMul := by
  refine ⟨_, ((op_mulW (X := X)).or op_mul).or op_rep, ?_, ?_⟩
  · intro io H S x y dx dy Q so rx ry h
    unfold mMul at h
    split at h
    · rename_i i j
      cases rx
      cases ry
      by_cases hc : mulOk i j = true
      · rw [if_pos hc] at h
        unfold mulOk at hc
        rw [Bool.or_eq_true, Bool.or_eq_true] at hc
        rcases hc with (hc | hc) | hc
        · have z := of_decide_eq_true hc
          exact .inl (.inr ⟨_, _, rfl, rfl, .inl (by omega), h io H Grow.refl so _ (.int _)⟩)
        · have z := of_decide_eq_true hc
          exact .inl (.inr ⟨_, _, rfl, rfl, .inr (by omega), h io H Grow.refl so _ (.int _)⟩)
        · exact .inl (.inl ⟨_, _, rfl, rfl, (of_decide_eq_true (p := i.natAbs.log2 + j.natAbs.log2 < 1000000) hc : CMulW i j), h io H Grow.refl so _ (.int _)⟩)
      · rw [if_neg hc] at h
        exact h.elim
    · rename_i k hne
      cases ry
      split at h
      · rename_i xs e1
        by_cases hl : -100000 ≤ k ∧ k ≤ 100000 ∧ xs.length ≤ 100
        · rw [if_pos hl] at h
          obtain ⟨a, vs, rfl, hs, rs⟩ := asP_ok so rx e1
          have l1 := rs.length
          refine .inr ⟨a, k, vs, rfl, rfl, hs, by omega, by omega, ?_, fun p hp => ?_⟩
          · have e : vs.length * k.toNat ≤ 100 * 100000 := Nat.mul_le_mul (by omega) (by omega)
            exact Nat.le_trans e (by decide)
          · have rr : ∀ n : Nat, RelDs G io H (List.replicate n xs).flatten (List.replicate n vs).flatten := fun n => by
              induction n with
              | zero => exact .nil
              | succ n ih =>
                rw [List.replicate_succ, List.replicate_succ, List.flatten_cons, List.flatten_cons]
                exact rs.append ih
            exact out_lst so (rr _) h hp
        · rw [if_neg hl] at h
          exact h.elim
      · exact h.elim
    · exact h.elim
  · intro x y S
    unfold mMul
    repeat' split
    all_goals trivial
theorem op_fdivA : OpR X (binaryOp .FloorDiv) (rI (fun _ j => j ≠ 0 ∧ j.natAbs.log2 < 9000) fun i j => .int (i.fdiv j)) := opI fun _ _ _ _ _ _ _ hc q =>
  floordiv_int hc.1 q (.inl (PyProof.noPylong_of_log2 hc.2))
theorem noErr_int {c : Int → Int → Bool} {gd : Int → Int → Dt} (x y : Dt) (S : Store) : NoErr (match x, y with | .int i, .int j => if c i j = true then R.ok (gd i j) S else .stuck | _, _ => .stuck) := by
  repeat' split
  all_goals trivial
theorem do_div : DO G X (binaryOp .FloorDiv) mDiv :=
  ⟨_, op_fdivA, sim_int (c := fun _ j => divOk j) (gd := fun i j => .int (i.fdiv j)) (fun i j h => by
    unfold divOk at h
    rw [Bool.and_eq_true] at h
    exact ⟨of_decide_eq_true h.1, of_decide_eq_true h.2⟩) (fun _ _ _ _ _ => .int _), fun x y S => noErr_int (c := fun _ j => divOk j) (gd := fun i j => .int (i.fdiv j)) x y S⟩
theorem do_mod : DO G X (binaryOp .Mod) mMod := by
  refine ⟨_, op_modN, ?_, ?_⟩
  · intro io H S x y dx dy Q so rx ry h
    unfold mMod at h
    split at h
    · rename_i i j
      cases rx
      cases ry
      by_cases hc : j ≠ 0
      · rw [if_pos hc] at h
        exact ⟨_, _, rfl, rfl, hc, h io H Grow.refl so _ (.int _)⟩
      · rw [if_neg hc] at h
        exact h.elim
    · exact h.elim
  · intro x y S
    unfold mMod
    repeat' split
    all_goals trivial
theorem do_pow : DO G X (binaryOp .Pow) mPow :=
  ⟨_, op_pow, sim_int (c := powOk) (gd := fun i j => .int (i ^ j.toNat)) (fun i j h => (of_decide_eq_true (p := 0 ≤ j ∧ j ≤ 1000000 ∧ i.natAbs < 2 ^ 64) h : CPow i j)) (fun _ _ _ _ _ => .int _), fun x y S => noErr_int (c := powOk) (gd := fun i j => .int (i ^ j.toNat)) x y S⟩
theorem do_cmpI {op : CmpOp} {p : Int → Int → Bool} (ho : OpR X (compareOp op) (rI0 fun i j => .bl (p i j))) : DO G X (compareOp op) (mCmpI p) := by
  refine ⟨_, ho, ?_, ?_⟩
  · intro io H S x y dx dy Q so rx ry h
    unfold mCmpI at h
    split at h
    · cases rx
      cases ry
      exact ⟨_, _, rfl, rfl, h io H Grow.refl so _ (.bl _)⟩
    · exact h.elim
  · intro x y S
    unfold mCmpI
    split <;> trivial
theorem do_lt : DO G X (compareOp .Lt) mLt := do_cmpI op_lt
theorem do_le : DO G X (compareOp .LtE) mLe := do_cmpI op_le
theorem do_gt : DO G X (compareOp .Gt) mGt := do_cmpI op_gt
theorem do_ge : DO G X (compareOp .GtE) mGe := do_cmpI op_ge
theorem do_is : DO G X (compareOp .Is) (mIs false) := by
  refine ⟨_, (op_isN (X := X)).or op_isBl, ?_, ?_⟩
  · intro io H S x y dx dy Q so rx ry h
    unfold mIs at h
    split at h
    case h_11 => exact h.elim
    case h_10 =>
      cases rx
      cases ry
      exact .inr ⟨_, _, rfl, rfl, h io H Grow.refl so _ (.bl _)⟩
    all_goals
      cases ry
      refine .inl ⟨rfl, ?_⟩
      cases rx
      exact h io H Grow.refl so _ (.bl _)
  · intro x y S
    unfold mIs
    split <;> trivial
end
/-! ### == of plain data -/
mutual
def eqD : Dt → Dt → Bool
  | .non, .non => true
  | .bl a, .bl b => a == b
  | .bl a, .int j => (if a then 1 else 0) == j
  | .int i, .bl b => i == (if b then 1 else 0)
  | .int i, .int j => i == j
  | .str a, .str b => a == b
  | .tup xs, .tup ys => eqDs xs ys
  | .lst xs, .lst ys => eqDs xs ys
  | _, _ => false
def eqDs : List Dt → List Dt → Bool
  | [], [] => true
  | x :: xs, y :: ys => eqD x y && eqDs xs ys
  | _, _ => false
end
/-- plain data, so deep at most -/
def okD : Nat → Dt → Bool
  | _, .non => true
  | _, .bl _ => true
  | _, .int _ => true
  | _, .str s => PyData.strOk s
  | k + 1, .tup ds => ds.all (okD k)
  | k + 1, .lst ds => ds.all (okD k)
  | _, _ => false
mutual
def toPy : Dt → PyData
  | .bl b => .bool b
  | .int i => .int i
  | .str s => .str s
  | .tup ds => .tuple (toPys ds)
  | .lst ds => .list (toPys ds)
  | _ => .none
def toPys : List Dt → List PyData
  | [] => []
  | d :: ds => toPy d :: toPys ds
end
section
variable {G : Gv} {io : Io} {H : Hp}
theorem all_cons {k : Nat} {d : Dt} {ds : List Dt} (h : (d :: ds).all (okD k) = true) : okD k d = true ∧ ds.all (okD k) = true := by
  rw [List.all_cons, Bool.and_eq_true] at h
  exact h
theorem dp_of : ∀ (k : Nat) {d : Dt} {v : V}, RelD G io H d v → okD k d = true → Dp G.K H v (toPy d) ∧ (toPy d).canLay0 = true ∧ (toPy d).depth ≤ k := by
  intro k
  induction k with
  | zero =>
    intro d v r h
    cases r with
    | non => exact ⟨.non, rfl, Nat.le_refl _⟩
    | bl b => exact ⟨.bl b, rfl, Nat.le_refl _⟩
    | int i => exact ⟨.int i, rfl, Nat.le_refl _⟩
    | str s => exact ⟨.str s, by simpa [okD, toPy, PyData.canLay0] using h, by simp [toPy, PyData.depth]⟩
    | _ => simp [okD] at h
  | succ k ih =>
    have all : ∀ {ds : List Dt} {vs : List V}, RelDs G io H ds vs → ds.all (okD k) = true → DpAll G.K H vs (toPys ds) ∧ PyData.canLayAll0 (toPys ds) = true ∧ PyData.depthAll (toPys ds) ≤ k := by
      intro ds
      induction ds with
      | nil =>
        intro vs r _
        cases r
        exact ⟨.nil, rfl, Nat.zero_le _⟩
      | cons d ds ih2 =>
        intro vs r h
        cases r with
        | cons r1 r2 =>
          obtain ⟨h1, h2⟩ := all_cons h
          obtain ⟨a1, a2, a3⟩ := ih r1 h1
          obtain ⟨b1, b2, b3⟩ := ih2 r2 h2
          refine ⟨.cons a1 b1, ?_, ?_⟩
          · show ((toPy d).canLay0 && PyData.canLayAll0 (toPys ds)) = true
            rw [a2, b2]
            rfl
          · show PyData.depthAll (toPy d :: toPys ds) ≤ k
            simp only [PyData.depthAll]
            omega
    intro d v r h
    cases r with
    | non => exact ⟨.non, rfl, by simp [toPy, PyData.depth]⟩
    | bl b => exact ⟨.bl b, rfl, by simp [toPy, PyData.depth]⟩
    | int i => exact ⟨.int i, rfl, by simp [toPy, PyData.depth]⟩
    | str s => exact ⟨.str s, by simpa [okD, toPy, PyData.canLay0] using h, by simp [toPy, PyData.depth]⟩
    | tup e rs =>
      obtain ⟨a1, a2, a3⟩ := all rs (by simpa [okD] using h)
      refine ⟨.tup ?_ a1, a2, ?_⟩
      · rcases e with ⟨e, _⟩ | e
        · exact .inl (.inl e)
        · exact .inr e.1
      · simp only [toPy, PyData.depth]
        omega
    | lst e n rs =>
      obtain ⟨a1, a2, a3⟩ := all rs (by simpa [okD] using h)
      refine ⟨.lst (.inl (.inl e)) a1, a2, ?_⟩
      simp only [toPy, PyData.depth]
      omega
    | _ => simp [okD] at h
theorem shaped_of {k : Nat} {d : Dt} {v : V} (hk : k ≤ 60) (r : RelD G io H d v) (h : okD k d = true) : SeqAt.shaped (toPy d) = true := by
  obtain ⟨_, a, b⟩ := dp_of k r h
  unfold SeqAt.shaped
  rw [a, Bool.true_and]
  exact decide_eq_true (by omega)
theorem eqv_of : ∀ (k : Nat) (d e : Dt), okD k d = true → okD k e = true → PyData.eqv (toPy d) (toPy e) = eqD d e := by
  intro k
  induction k with
  | zero =>
    intro d e h1 h2
    cases d <;> cases e <;> first
      | rfl
      | (simp [okD] at h1; done)
      | (simp [okD] at h2; done)
  | succ k ih =>
    have all : ∀ ds es : List Dt, ds.all (okD k) = true → es.all (okD k) = true → PyData.eqvAll (toPys ds) (toPys es) = eqDs ds es := by
      intro ds
      induction ds with
      | nil =>
        intro es _ _
        cases es <;> rfl
      | cons d ds ih2 =>
        intro es h1 h2
        cases es with
        | nil => rfl
        | cons e es =>
          obtain ⟨a1, a2⟩ := all_cons h1
          obtain ⟨b1, b2⟩ := all_cons h2
          show (PyData.eqv (toPy d) (toPy e) && PyData.eqvAll (toPys ds) (toPys es)) = (eqD d e && eqDs ds es)
          rw [ih d e a1 b1, ih2 es a2 b2]
    intro d e h1 h2
    cases d <;> cases e <;> first
      | rfl
      | (simp [okD] at h1; done)
      | (simp [okD] at h2; done)
      | exact all _ _ (by simpa [okD] using h1) (by simpa [okD] using h2)
end
/-- a list of the store, as it stands -/
def res (S : Store) (d : Dt) : Dt := match d with
  | .ref i => match S[i]? with
    | some (.lst ds) => .lst ds
    | _ => .ref i
  | d => d
theorem res_ok {G : Gv} {io : Io} {H : Hp} {S : Store} {d : Dt} {v : V} {k : Nat} (so : StoreOk G io S H) (r : RelD G io H d v) (h : okD k (res S d) = true) : Dp G.K H v (toPy (res S d)) ∧ (k ≤ 60 → SeqAt.shaped (toPy (res S d)) = true) := by
  cases d with
  | ref i =>
    unfold res at h ⊢
    dsimp only at h ⊢
    split at h
    · rename_i ds hs
      obtain ⟨a, vs, rfl, e, rs⟩ := asP_ok (d := .ref i) (ds := ds) so r (by simp [asP, hs])
      cases k with
      | zero => simp [okD] at h
      | succ k =>
        have z : ∀ (ds : List Dt) (vs : List V), RelDs G io H ds vs → ds.all (okD k) = true → DpAll G.K H vs (toPys ds) ∧ PyData.canLayAll0 (toPys ds) = true ∧ PyData.depthAll (toPys ds) ≤ k := by
          intro ds
          induction ds with
          | nil =>
            intro vs r _
            cases r
            exact ⟨.nil, rfl, Nat.zero_le _⟩
          | cons d ds ih2 =>
            intro vs r h
            cases r with
            | cons r1 r2 =>
              obtain ⟨h1, h2⟩ := all_cons h
              obtain ⟨a1, a2, a3⟩ := dp_of k r1 h1
              obtain ⟨b1, b2, b3⟩ := ih2 _ r2 h2
              refine ⟨.cons a1 b1, ?_, ?_⟩
              · show ((toPy d).canLay0 && PyData.canLayAll0 (toPys ds)) = true
                rw [a2, b2]
                rfl
              · show PyData.depthAll (toPy d :: toPys ds) ≤ k
                simp only [PyData.depthAll]
                omega
        obtain ⟨a1, a2, a3⟩ := z ds vs rs (by simpa [okD] using h)
        refine ⟨.lst (.inl (.inl e)) a1, fun hk => ?_⟩
        unfold SeqAt.shaped
        rw [show (toPy (Dt.lst ds)).canLay0 = true from a2, Bool.true_and]
        refine decide_eq_true ?_
        simp only [toPy, PyData.depth]
        omega
    · cases k <;> simp [okD] at h
  | _ => exact ⟨(dp_of k r h).1, fun hk => shaped_of hk r h⟩
def deep : Nat := 12
def mEq (x y : Dt) (S : Store) : R Dt := if okD deep (res S x) = true ∧ okD deep (res S y) = true then .ok (.bl (eqD (res S x) (res S y))) S else .stuck
def mNe (x y : Dt) (S : Store) : R Dt := if okD deep (res S x) = true ∧ okD deep (res S y) = true then .ok (.bl (!eqD (res S x) (res S y))) S else .stuck
section
variable {G : Gv} {X : Cx}
theorem do_eq (hu : X.A.units + 64 < cLine) (hK : X.K = G.K := by rfl) : DO G X (compareOp .Eq) mEq := by
  refine ⟨_, op_eqD hu, ?_, ?_⟩
  · intro io H S x y dx dy Q so rx ry h
    unfold mEq at h
    split at h
    · rename_i hc
      obtain ⟨p1, q1⟩ := res_ok so rx hc.1
      obtain ⟨p2, q2⟩ := res_ok so ry hc.2
      refine ⟨_, _, by rw [hK]; exact p1, by rw [hK]; exact p2, q1 (by decide), q2 (by decide), ?_⟩
      rw [eqv_of deep _ _ hc.1 hc.2]
      exact h io H Grow.refl so _ (.bl _)
    · exact h.elim
  · intro x y S
    unfold mEq
    split <;> trivial
theorem do_ne (hu : X.A.units + 64 < cLine) (hK : X.K = G.K := by rfl) : DO G X (compareOp .NotEq) mNe := by
  refine ⟨_, op_neD hu, ?_, ?_⟩
  · intro io H S x y dx dy Q so rx ry h
    unfold mNe at h
    split at h
    · rename_i hc
      obtain ⟨p1, q1⟩ := res_ok so rx hc.1
      obtain ⟨p2, q2⟩ := res_ok so ry hc.2
      refine ⟨_, _, by rw [hK]; exact p1, by rw [hK]; exact p2, q1 (by decide), q2 (by decide), ?_⟩
      rw [eqv_of deep _ _ hc.1 hc.2]
      exact h io H Grow.refl so _ (.bl _)
    · exact h.elim
  · intro x y S
    unfold mNe
    split <;> trivial
end
end Dv
set_option Elab.async false
set_option linter.all false
set_option maxRecDepth 100000
set_option maxHeartbeats 4000000
set_option autoImplicit false
namespace Dv
open PySem PySem.Spec PyProof.Rows L2
/-! ### truth -/
def tru (S : Store) (d : Dt) : Option Bool := match d with
  | .non => some false
  | .bl b => some b
  | .int i => some (i != 0)
  | .str s => if s.length ≤ 100000 then some ((s.length : Int) != 0) else none
  | .tup ds => some (!ds.isEmpty)
  | .dct ks _ => some (!ks.isEmpty)
  | d => match asL S d with
    | some ds => some (!ds.isEmpty)
    | none => none
def mTruth (m : Env → Store → R Dt) : Env → Store → R Bool := fun e S => (m e S).bind fun d S1 => match tru S1 d with
  | some b => .ok b S1
  | none => .stuck
section
variable {G : Gv} {X : Cx} {W : WX}
theorem isEmpty_rel {G : Gv} {io : Io} {H : Hp} {ds : List Dt} {vs : List V} (r : RelDs G io H ds vs) : ds.isEmpty = vs.isEmpty := by cases r <;> rfl
theorem tru_of {io : Io} {H : Hp} {S : Store} {d : Dt} {v : V} {b : Bool} (so : StoreOk G io S H) (r : RelD G io H d v) (h : tru S d = some b) : TruV G.K v H b := by
  have ls : ∀ {d : Dt}, RelD G io H d v → (match asL S d with | some ds => some (!ds.isEmpty) | none => none) = some b → TruV G.K v H b := fun {d} r h => by
    split at h
    · rename_i ds e
      obtain ⟨a, vs, rfl, h1, h2⟩ := asL_ok so r e
      cases h
      exact .inl ⟨vs, h1, by rw [isEmpty_rel h2]⟩
    · cases h
  unfold tru at h
  split at h
  · cases r; cases h; rfl
  · cases r; cases h; rfl
  · cases r; cases h; rfl
  · cases r
    split at h
    · cases h
      exact ⟨Nat.le_trans (by assumption) (by decide), rfl⟩
    · cases h
  · cases h
    obtain ⟨a, vs, rfl, h1, h2⟩ := asT_ok r rfl
    exact .inr (.inl ⟨vs, h1, by rw [isEmpty_rel h2]⟩)
  · rename_i ks ds
    cases h
    cases r with
    | @dct a _ _ vs e n l k =>
      refine .inr (.inr ⟨_, e, ?_⟩)
      have l2 := k.length
      cases ks with
      | nil => rfl
      | cons x xs =>
        cases vs with
        | nil =>
          rw [List.length_cons] at l
          rw [List.length_nil] at l2
          omega
        | cons _ _ => rfl
  · exact ls r h
theorem simT_truth {t : TE} {m : Env → Store → R Dt} (hK : X.K = G.K) (h : SimE G W t m) : SimT G W (fun σ H Q => t σ H fun x H' => ∃ k, TruV X.K x H' k ∧ Q k H') (mTruth m) := by
  intro io H S e σ Q so re k
  refine h io H S e σ _ so re (k.bind.imp (fun _ _ _ _ z => z) fun d S1 i1 H1 g1 s1 k1 v r => ?_)
  split at k1
  · rename_i b hb
    exact ⟨b, by rw [hK]; exact tru_of s1 r hb, k1 i1 H1 Grow.refl s1⟩
  · exact k1.elim
theorem dt_truth {a : Expr} {m : Env → Store → R Dt} (ha : DE G X W a m) (hK : X.K = G.K := by rfl) (he : ∀ whole, isTrue a X.env whole = (do let v ← whole; standAt a.pos; holding [v] (truthy v)) := by intro _; rfl) : DT G X W a (mTruth m) := by
  obtain ⟨t, p, q⟩ := ha
  exact ⟨_, pt_truth p he, simT_truth hK q⟩
/-! ### and, or, not as tests -/
def mAndT (a b : Env → Store → R Bool) : Env → Store → R Bool := fun e S => (a e S).bind fun c S1 => if c = true then b e S1 else .ok false S1
def mOrT (a b : Env → Store → R Bool) : Env → Store → R Bool := fun e S => (a e S).bind fun c S1 => if c = true then .ok true S1 else b e S1
def mNotT (a : Env → Store → R Bool) : Env → Store → R Bool := fun e S => (a e S).bind fun c S1 => .ok (!c) S1
variable {a b : Expr} {rest : List Expr} {pos : Pos} {ma mb : Env → Store → R Bool}
theorem dw_and1 (h : DT G X W a ma) : DW G X W (.BoolOp .And [a] pos) ma := let ⟨_, p, q⟩ := h; ⟨_, pw_and1 p, q⟩
theorem dw_or1 (h : DT G X W a ma) : DW G X W (.BoolOp .Or [a] pos) ma := let ⟨_, p, q⟩ := h; ⟨_, pw_or1 p, q⟩
theorem dw_and (h : DT G X W a ma) (k : DW G X W (.BoolOp .And (b :: rest) pos) mb) : DW G X W (.BoolOp .And (a :: b :: rest) pos) (mAndT ma mb) := by
  obtain ⟨t, p, q⟩ := h
  obtain ⟨u, p', q'⟩ := k
  refine ⟨_, pw_and p p', fun io H S e σ Q so re h => ?_⟩
  refine q io H S e σ _ so re (h.bind.imp (fun _ _ _ _ z => z) fun c S1 i1 H1 g1 s1 k1 => ?_)
  cases c with
  | true => exact q' i1 H1 S1 e σ Q s1 (re.mono g1) k1
  | false => exact k1 i1 H1 Grow.refl s1
theorem dw_or (h : DT G X W a ma) (k : DW G X W (.BoolOp .Or (b :: rest) pos) mb) : DW G X W (.BoolOp .Or (a :: b :: rest) pos) (mOrT ma mb) := by
  obtain ⟨t, p, q⟩ := h
  obtain ⟨u, p', q'⟩ := k
  refine ⟨_, pw_or p p', fun io H S e σ Q so re h => ?_⟩
  refine q io H S e σ _ so re (h.bind.imp (fun _ _ _ _ z => z) fun c S1 i1 H1 g1 s1 k1 => ?_)
  cases c with
  | false => exact q' i1 H1 S1 e σ Q s1 (re.mono g1) k1
  | true => exact k1 i1 H1 Grow.refl s1
theorem dt_w {e : Expr} {m : Env → Store → R Bool} (h : DW G X W e m) : DT G X W e m := let ⟨_, p, q⟩ := h; ⟨_, p.pt, q⟩
theorem dt_not (h : DT G X W a ma) : DT G X W (.UnaryOp .Not a pos) (mNotT ma) := by
  obtain ⟨t, p, q⟩ := h
  refine ⟨_, pt_not p, fun io H S e σ Q so re h => ?_⟩
  exact q io H S e σ _ so re (h.bind.imp (fun _ _ _ _ z => z) fun c S1 i1 H1 g1 s1 k1 => k1 i1 H1 Grow.refl s1)
/-! ### a < b < c -/
def mChain (m m' : Dt → Dt → Store → R Dt) (ma mb mc : Env → Store → R Dt) : Env → Store → R Dt := fun e S => (ma e S).bind fun x S1 => (mb e S1).bind fun y S2 => (m x y S2).bind fun z S3 => match z with
  | .bl true => (mc e S3).bind fun w S4 => m' y w S4
  | .bl false => .ok (.bl false) S3
  | _ => .stuck
theorem simE_chain {r r' : R2} {ta tb tc : TE} {m m' : Dt → Dt → Store → R Dt} {ma mb mc : Env → Store → R Dt} (ho : SimO G r m) (hn : ∀ x y S, NoErr (m x y S)) (ho' : SimO G r' m') (hn' : ∀ x y S, NoErr (m' x y S))
    (ha : SimE G W ta ma) (hb : SimE G W tb mb) (hc : SimE G W tc mc) : SimE G W (tChain r r' ta tb tc) (mChain m m' ma mb mc) := by
  intro io H S e σ Q so re h
  refine ha io H S e σ _ so re (h.bind.imp (fun _ _ _ _ z => z) fun d S1 i1 H1 g1 s1 k1 v r1 => ?_)
  refine hb i1 H1 S1 e σ _ s1 (re.mono g1) (k1.bind.imp (fun _ _ _ _ z => z) fun d' S2 i2 H2 g2 s2 k2 v' r2 => ?_)
  refine ho i2 H2 S2 v v' d d' _ s2 (r1.mono g2) r2 ((k2.bind.noErr (hn _ _ _)).imp (fun _ _ _ _ z => z) fun z S3 i3 H3 g3 s3 k3 vz rz => ?_)
  split at k3
  · refine ⟨true, rel_bl rz, ?_⟩
    rw [if_pos rfl]
    refine hc i3 H3 S3 e σ _ s3 ((re.mono (g1.trans g2)).mono g3) (k3.bind.imp (fun _ _ _ _ z => z) fun w S4 i4 H4 g4 s4 k4 vw rw' => ?_)
    exact ho' i4 H4 S4 v' vw d' w Q s4 ((r2.mono g3).mono g4) rw' (k4.noErr (hn' _ _ _))
  · refine ⟨false, rel_bl rz, ?_⟩
    rw [if_neg Bool.false_ne_true]
    exact k3 i3 H3 Grow.refl s3 _ (.bl _)
  · exact k3.elim
theorem de_chain {op op' : CmpOp} {m m' : Dt → Dt → Store → R Dt} {ma mb mc : Env → Store → R Dt} {c : Expr} (ho : DO G X (compareOp op) m) (ho' : DO G X (compareOp op') m') (ha : DE G X W a ma) (hb : DE G X W b mb) (hc : DE G X W c mc)
    (hm : lastMarks [op, op'] [b, c] = false := by with_unfolding_all rfl) : DE G X W (.Compare a [op, op'] [b, c] pos) (mChain m m' ma mb mc) := by
  obtain ⟨r, p, q, n⟩ := ho
  obtain ⟨r', p', q', n'⟩ := ho'
  obtain ⟨ta, pa, qa⟩ := ha
  obtain ⟨tb, pb, qb⟩ := hb
  obtain ⟨tc, pc, qc⟩ := hc
  exact ⟨_, pe_chain p p' pa pb pc hm, simE_chain q n q' n' qa qb qc⟩
end
/-! ### and, or, not, if as values -/
section
variable {G : Gv} {X : Cx} {W : WX} {a b : Expr} {rest : List Expr} {pos : Pos} {ma mb : Env → Store → R Dt}
def mAndV (a b : Env → Store → R Dt) : Env → Store → R Dt := fun e S => (a e S).bind fun d S1 => match tru S1 d with
  | some true => b e S1
  | some false => .ok d S1
  | none => .stuck
def mOrV (a b : Env → Store → R Dt) : Env → Store → R Dt := fun e S => (a e S).bind fun d S1 => match tru S1 d with
  | some true => .ok d S1
  | some false => b e S1
  | none => .stuck
def mNotV (a : Env → Store → R Dt) : Env → Store → R Dt := fun e S => (a e S).bind fun d S1 => match tru S1 d with
  | some b => .ok (.bl (!b)) S1
  | none => .stuck
theorem de_one {op} (h : DE G X W a ma) : DE G X W (.BoolOp op [a] pos) ma := let ⟨_, p, q⟩ := h; ⟨_, pe_one p, q⟩
theorem de_and (h : DE G X W a ma) (k : DE G X W (.BoolOp .And (b :: rest) pos) mb) (hK : X.K = G.K := by rfl) : DE G X W (.BoolOp .And (a :: b :: rest) pos) (mAndV ma mb) := by
  obtain ⟨t, p, q⟩ := h
  obtain ⟨u, p', q'⟩ := k
  refine ⟨_, pe_andT p p', fun io H S e σ Q so re h => ?_⟩
  refine q io H S e σ _ so re (h.bind.imp (fun _ _ _ _ z => z) fun d S1 i1 H1 g1 s1 k1 v r => ?_)
  split at k1
  · rename_i hb
    refine ⟨true, by rw [hK]; exact tru_of s1 r hb, ?_⟩
    rw [if_pos rfl]
    exact q' i1 H1 S1 e σ Q s1 (re.mono g1) k1
  · rename_i hb
    refine ⟨false, by rw [hK]; exact tru_of s1 r hb, ?_⟩
    rw [if_neg Bool.false_ne_true]
    exact k1 i1 H1 Grow.refl s1 _ r
  · exact k1.elim
theorem de_or (h : DE G X W a ma) (k : DE G X W (.BoolOp .Or (b :: rest) pos) mb) (hK : X.K = G.K := by rfl) : DE G X W (.BoolOp .Or (a :: b :: rest) pos) (mOrV ma mb) := by
  obtain ⟨t, p, q⟩ := h
  obtain ⟨u, p', q'⟩ := k
  refine ⟨_, pe_orT p p', fun io H S e σ Q so re h => ?_⟩
  refine q io H S e σ _ so re (h.bind.imp (fun _ _ _ _ z => z) fun d S1 i1 H1 g1 s1 k1 v r => ?_)
  split at k1
  · rename_i hb
    refine ⟨true, by rw [hK]; exact tru_of s1 r hb, ?_⟩
    rw [if_pos rfl]
    exact k1 i1 H1 Grow.refl s1 _ r
  · rename_i hb
    refine ⟨false, by rw [hK]; exact tru_of s1 r hb, ?_⟩
    rw [if_neg Bool.false_ne_true]
    exact q' i1 H1 S1 e σ Q s1 (re.mono g1) k1
  · exact k1.elim
theorem de_not (h : DE G X W a ma) (hK : X.K = G.K := by rfl) : DE G X W (.UnaryOp .Not a pos) (mNotV ma) := by
  obtain ⟨t, p, q⟩ := h
  refine ⟨_, pe_notT p, fun io H S e σ Q so re h => ?_⟩
  refine q io H S e σ _ so re (h.bind.imp (fun _ _ _ _ z => z) fun d S1 i1 H1 g1 s1 k1 v r => ?_)
  split at k1
  · rename_i c hb
    exact ⟨c, by rw [hK]; exact tru_of s1 r hb, k1 i1 H1 Grow.refl s1 _ (.bl _)⟩
  · exact k1.elim
def mIf (c : Env → Store → R Bool) (a b : Env → Store → R Dt) : Env → Store → R Dt := fun e S => (c e S).bind fun k S1 => if k = true then a e S1 else b e S1
theorem de_if {c : Expr} {mc : Env → Store → R Bool} (hc : DT G X W c mc) (ha : DE G X W a ma) (hb : DE G X W b mb) : DE G X W (.IfExp c a b pos) (mIf mc ma mb) := by
  obtain ⟨t, p, q⟩ := hc
  obtain ⟨ta, pa, qa⟩ := ha
  obtain ⟨tb, pb, qb⟩ := hb
  refine ⟨_, pe_ifExp p pa pb, fun io H S e σ Q so re h => ?_⟩
  refine q io H S e σ _ so re (h.bind.imp (fun _ _ _ _ z => z) fun c S1 i1 H1 g1 s1 k1 => ?_)
  cases c with
  | true => exact qa i1 H1 S1 e σ Q s1 (re.mono g1) k1
  | false => exact qb i1 H1 S1 e σ Q s1 (re.mono g1) k1
/-- -a -/
def mNeg (a : Env → Store → R Dt) : Env → Store → R Dt := fun e S => (a e S).bind fun d S1 => match d with
  | .int i => .ok (.int (-i)) S1
  | _ => .stuck
theorem de_neg (h : DE G X W a ma) : DE G X W (.UnaryOp .USub a pos) (mNeg ma) := by
  obtain ⟨t, p, q⟩ := h
  refine ⟨_, pe_un un_neg p, fun io H S e σ Q so re h => ?_⟩
  refine q io H S e σ _ so re (h.bind.imp (fun _ _ _ _ z => z) fun d S1 i1 H1 g1 s1 k1 v r => ?_)
  cases r with
  | int i => exact ⟨i, rfl, k1 i1 H1 Grow.refl s1 _ (.int _)⟩
  | _ => exact k1.elim
end
/-! ### displays -/
section
variable {G : Gv} {X : Cx} {W : WX} {es : List Expr} {pos : Pos} {ms : Env → Store → R (List Dt)}
def mTup (m : Env → Store → R (List Dt)) : Env → Store → R Dt := fun e S => (m e S).bind fun ds S1 => if ds.length ≤ 1000 then .ok (.tup ds) S1 else .stuck
def mLst (m : Env → Store → R (List Dt)) : Env → Store → R Dt := fun e S => (m e S).bind fun ds S1 => if ds.length ≤ 1000 then .ok (.lst ds) S1 else .stuck
/-- a list that will change: an object of the store -/
def mLstR (m : Env → Store → R (List Dt)) : Env → Store → R Dt := fun e S => (m e S).bind fun ds S1 => if ds.length ≤ 1000 then .ok (.ref S1.length) (S1 ++ [.lst ds]) else .stuck
theorem de_tup {x1} (h : DA G X W es ms) : DE G X W (.Tuple es x1 pos) (mTup ms) := by
  obtain ⟨t, p, q⟩ := h
  refine ⟨_, pe_tup p, fun io H S e σ Q so re h => ?_⟩
  refine q io H S e σ _ so re (h.bind.imp (fun _ _ _ _ z => z) fun ds S1 i1 H1 g1 s1 k1 vs r => ?_)
  split at k1
  · rename_i hl
    exact ⟨by rw [← r.length]; exact Nat.le_trans hl (by decide), fun p hp => out_tup s1 r k1 hp⟩
  · exact k1.elim
theorem de_lst (h : DA G X W es ms) : DE G X W (.List es pos) (mLst ms) := by
  obtain ⟨t, p, q⟩ := h
  refine ⟨_, pe_lst p, fun io H S e σ Q so re h => ?_⟩
  refine q io H S e σ _ so re (h.bind.imp (fun _ _ _ _ z => z) fun ds S1 i1 H1 g1 s1 k1 vs r => ?_)
  split at k1
  · rename_i hl
    exact ⟨by rw [← r.length]; exact Nat.le_trans hl (by decide), fun p hp => out_lst s1 r k1 hp⟩
  · exact k1.elim
theorem de_lstR (h : DA G X W es ms) : DE G X W (.List es pos) (mLstR ms) := by
  obtain ⟨t, p, q⟩ := h
  refine ⟨_, pe_lst p, fun io H S e σ Q so re h => ?_⟩
  refine q io H S e σ _ so re (h.bind.imp (fun _ _ _ _ z => z) fun ds S1 i1 H1 g1 s1 k1 vs r => ?_)
  split at k1
  · rename_i hl
    exact ⟨by rw [← r.length]; exact Nat.le_trans hl (by decide), fun p hp => out_ref s1 r k1 hp⟩
  · exact k1.elim
end
/-! ### subscripts -/
theorem rel_at {G : Gv} {io : Io} {H : Hp} {ds : List Dt} {vs : List V} {i : Int} {d : Dt} (r : RelDs G io H ds vs) (h : atI ds i = some d) : ∃ v, atI vs i = some v ∧ RelD G io H d v := by
  unfold atI at h ⊢
  rw [← r.length]
  cases e : ixN ds.length i with
  | none => rw [e] at h; cases h
  | some j =>
    rw [e] at h
    exact r.get h
def ixD (S : Store) (x : Dt) (i : Int) : Option Dt := match x with
  | .tup ds => atI ds i
  | .str s => if s.length ≤ 100000 then (atI s.cps.toList i).map fun c => .str ⟨#[c]⟩ else none
  | x => (asL S x).bind fun ds => atI ds i
def mIx (x y : Dt) (S : Store) : R Dt := match y with
  | .int i => match ixD S x i with
    | some d => .ok d S
    | none => .stuck
  | _ => .stuck
section
variable {G : Gv} {X : Cx} {W : WX} {a b : Expr} {pos : Pos} {ma mb : Env → Store → R Dt}
theorem sim_ix (hK : X.K = G.K) : SimO G (rIx X.K) mIx := by
  intro io H S x y dx dy Q so rx ry h
  unfold mIx at h
  split at h
  · rename_i i
    split at h
    · rename_i d hd
      cases ry
      have ls : ∀ {dx : Dt}, RelD G io H dx x → (asL S dx).bind (fun ds => atI ds i) = some d → rIx X.K x (.int i) H Q := fun {dx} r h' => by
        cases e : asL S dx with
        | none => rw [e] at h'; cases h'
        | some ds =>
          rw [e] at h'
          obtain ⟨p, vs, rfl, h1, h2⟩ := asL_ok so r e
          obtain ⟨v, e1, e2⟩ := rel_at h2 h'
          exact .inl ⟨p, vs, i, v, rfl, rfl, by rw [hK]; exact h1, e1, h io H Grow.refl so v e2⟩
      unfold ixD at hd
      split at hd
      · obtain ⟨p, vs, rfl, h1, h2⟩ := asT_ok rx rfl
        obtain ⟨v, e1, e2⟩ := rel_at h2 hd
        exact .inr (.inl ⟨p, vs, i, v, rfl, rfl, by rw [hK]; exact h1, e1, h io H Grow.refl so v e2⟩)
      · split at hd
        · rename_i s hl
          cases rx
          cases e : atI s.cps.toList i with
          | none => rw [e] at hd; cases hd
          | some c =>
            rw [e] at hd
            cases hd
            exact .inr (.inr ⟨s, i, c, rfl, rfl, Nat.le_trans hl (by decide), e, h io H Grow.refl so _ (.str _)⟩)
        · cases hd
      · exact ls rx hd
    · exact h.elim
  · exact h.elim
theorem noErr_ix (x y : Dt) (S : Store) : NoErr (mIx x y S) := by
  unfold mIx
  repeat' split
  all_goals trivial
theorem de_ix (ha : DE G X W a ma) (hb : DE G X W b mb) (hK : X.K = G.K := by rfl) (hs : PlainIx b := by exact fun _ _ => rfl) : DE G X W (.Subscript a b pos) (mOp mIx ma mb) := by
  obtain ⟨ta, pa, qa⟩ := ha
  obtain ⟨tb, pb, qb⟩ := hb
  exact ⟨_, pe_ix ix_seq pa pb hs, simE_op (sim_ix hK) noErr_ix qa qb⟩
/-- a slice's parts -/
def DP (G : Gv) (X : Cx) (W : WX) (e : Option Expr) (m : Env → Store → R (Option Int)) : Prop := ∃ t, PO X e t ∧ ∀ io H S e σ Q, StoreOk G io S H → RelEnv G io H e σ → Out G io H (wxE G W σ) (fun o _ _ H' => Q o H') (m e S) → t σ H Q
def mNoPart : Env → Store → R (Option Int) := fun _ S => .ok none S
def mPart (m : Env → Store → R Dt) : Env → Store → R (Option Int) := fun e S => (m e S).bind fun d S1 => match d with
  | .int i => .ok (some i) S1
  | _ => .stuck
theorem dp_none : DP G X W none mNoPart := ⟨_, po_none, fun io H S e σ Q so re h => h io H Grow.refl so⟩
theorem dp_some (ha : DE G X W a ma) : DP G X W (some a) (mPart ma) := by
  obtain ⟨t, p, q⟩ := ha
  refine ⟨_, po_some p, fun io H S e σ Q so re h => ?_⟩
  refine q io H S e σ _ so re (h.bind.imp (fun _ _ _ _ z => z) fun d S1 i1 H1 g1 s1 k1 v r => ?_)
  cases r with
  | int i => exact ⟨i, rfl, k1 i1 H1 Grow.refl s1⟩
  | _ => exact k1.elim
/-- the items of xs[lo:hi] -/
def cutA {α : Type} (xs : List α) (lo hi : Option Int) : List α := (xs.drop (HT.sIx xs.length 0 lo)).take (HT.sIx xs.length xs.length hi - HT.sIx xs.length 0 lo)
theorem rel_cut {G : Gv} {io : Io} {H : Hp} {ds : List Dt} {vs : List V} {lo hi : Option Int} (r : RelDs G io H ds vs) : RelDs G io H (cutA ds lo hi) (cutV vs lo hi) := by
  unfold cutA cutV
  rw [← r.length]
  exact (r.drop _).take _
def slD (S : Store) (x : Dt) (lo hi : Option Int) : Option Dt := match x with
  | .tup ds => some (.tup (cutA ds lo hi))
  | x => (asL S x).map fun ds => .lst (cutA ds lo hi)
def mSl (m : Env → Store → R Dt) (ml mh : Env → Store → R (Option Int)) : Env → Store → R Dt := fun e S => (m e S).bind fun x S1 => (ml e S1).bind fun l S2 => (mh e S2).bind fun h S3 => match slD S3 x l h with
  | some d => .ok d S3
  | none => .stuck
theorem cut_whole {α : Type} {xs : List α} {lo hi : Option Int} (h : HT.sIx xs.length 0 lo = 0 ∧ HT.sIx xs.length xs.length hi = xs.length) : cutA xs lo hi = xs := by
  unfold cutA
  rw [h.1, h.2]
  simp
theorem de_sl {lo hi : Option Expr} {p2 : Pos} {ml mh : Env → Store → R (Option Int)} (ha : DE G X W a ma) (hl : DP G X W lo ml) (hh : DP G X W hi mh) (hK : X.K = G.K := by rfl) : DE G X W (.Subscript a (.Slice lo hi none p2) pos) (mSl ma ml mh) := by
  obtain ⟨ta, pa, qa⟩ := ha
  obtain ⟨tl, pl, ql⟩ := hl
  obtain ⟨th, ph, qh⟩ := hh
  refine ⟨_, pe_slice (sl_list.or sl_tupA) pa pl ph, fun io H S e σ Q so re h => ?_⟩
  refine qa io H S e σ _ so re (h.bind.imp (fun _ _ _ _ z => z) fun x S1 i1 H1 g1 s1 k1 v rx => ?_)
  refine ql i1 H1 S1 e σ _ s1 (re.mono g1) (k1.bind.imp (fun _ _ _ _ z => z) fun l S2 i2 H2 g2 s2 k2 => ?_)
  refine qh i2 H2 S2 e σ _ s2 ((re.mono g1).mono g2) (k2.bind.imp (fun _ _ _ _ z => z) fun u S3 i3 H3 g3 s3 k3 => ?_)
  have rx3 := (rx.mono g2).mono g3
  split at k3
  · rename_i d hd
    unfold slD at hd
    split at hd
    · rename_i ds
      cases hd
      obtain ⟨p, vs, rfl, h1, h2⟩ := asT_ok rx3 rfl
      refine .inr ⟨p, vs, rfl, by rw [hK]; exact h1, fun hw => ?_, fun _ q hq => out_tup s3 (rel_cut h2) k3 hq⟩
      rw [← h2.length] at hw
      rw [cut_whole hw] at k3
      exact k3 i3 H3 Grow.refl s3 _ rx3
    · rename_i x' hne
      cases el : asL S3 x with
      | none => rw [el] at hd; cases hd
      | some ds =>
        rw [el] at hd
        cases hd
        obtain ⟨p, vs, rfl, h1, h2⟩ := asL_ok s3 rx3 el
        exact .inl ⟨p, vs, rfl, by rw [hK]; exact h1, fun q hq => out_lst s3 (rel_cut h2) k3 hq⟩
  · exact k3.elim
end
/-! ### built-in functions -/
def SimC (G : Gv) (r : List V → Hp → VK → Prop) (m : List Dt → Store → R Dt) : Prop := ∀ io H S ds vs Q, StoreOk G io S H → RelDs G io H ds vs → Out G io H (fun _ _ _ => False) (poE G Q) (m ds S) → r vs H Q
def DC (G : Gv) (X : Cx) (f : Value) (m : List Dt → Store → R Dt) : Prop := ∃ r, CallR X f r ∧ SimC G r m ∧ ∀ ds S, NoErr (m ds S)
def mCB (m : List Dt → Store → R Dt) (ma : Env → Store → R (List Dt)) : Env → Store → R Dt := fun e S => (ma e S).bind m
section
variable {G : Gv} {X : Cx} {W : WX} {e : Expr} {es : List Expr} {x : Str} {p pos : Pos} {ms : Env → Store → R (List Dt)} {id T : String} {m : List Dt → Store → R Dt}
theorem de_callB (hc : DC G X (.builtin id) m) (hg : Gl X x) (hm : X.mg x = none) (hv : bootBuiltins x = some (.builtin id)) (ha : DA G X W (e :: es) ms) (hn : x ≠ "__name__" := by decide) (hdb : (x == ("__debug__" : Str)) = false := by decide)
    (he : starEach (e :: es) X.env = (false, eval e X.env) :: starEach es X.env := by rfl) (hpl : (backTo pos (starEach es X.env)).any (·.1) = false := by rfl) : DE G X W (.Call (.Name x p) (e :: es) [] pos) (mCB m ms) := by
  obtain ⟨r, p1, q1, n1⟩ := hc
  obtain ⟨t, p2, q2⟩ := ha
  refine ⟨_, pe_callB p1 hg hm hv p2 hn hdb he hpl, fun io H S e σ Q so re h => ?_⟩
  exact q2 io H S e σ _ so re (h.bind.imp (fun _ _ _ _ z => z) fun ds S1 i1 H1 g1 s1 k1 vs r => q1 i1 H1 S1 ds vs Q s1 r (k1.noErr (n1 _ _)))
theorem de_callTy (hc : DC G X (.type T) m) (hg : Gl X x) (hm : X.mg x = none) (hv : bootBuiltins x = some (.type T)) (ha : DA G X W (e :: es) ms) (hn : x ≠ "__name__" := by decide) (hdb : (x == ("__debug__" : Str)) = false := by decide)
    (he : starEach (e :: es) X.env = (false, eval e X.env) :: starEach es X.env := by rfl) (hpl : (backTo pos (starEach es X.env)).any (·.1) = false := by rfl) : DE G X W (.Call (.Name x p) (e :: es) [] pos) (mCB m ms) := by
  obtain ⟨r, p1, q1, n1⟩ := hc
  obtain ⟨t, p2, q2⟩ := ha
  refine ⟨_, pe_callTy p1 hg hm hv p2 hn hdb he hpl, fun io H S e σ Q so re h => ?_⟩
  exact q2 io H S e σ _ so re (h.bind.imp (fun _ _ _ _ z => z) fun ds S1 i1 H1 g1 s1 k1 vs r => q1 i1 H1 S1 ds vs Q s1 r (k1.noErr (n1 _ _)))
def mAbs (ds : List Dt) (S : Store) : R Dt := match ds with
  | [.int i] => .ok (.int (if i < 0 then -i else i)) S
  | _ => .stuck
theorem dc_abs : DC G X (.builtin "abs") mAbs := by
  refine ⟨_, call_abs, ?_, ?_⟩
  · intro io H S ds vs Q so r h
    unfold mAbs at h
    split at h
    · cases r with
      | cons r1 r2 =>
        cases r1
        cases r2
        exact ⟨_, rfl, h io H Grow.refl so _ (.int _)⟩
    · exact h.elim
  · intro ds S
    unfold mAbs
    split <;> trivial
def lenD (S : Store) (d : Dt) : Option Nat := match d with
  | .tup ds => some ds.length
  | .str s => if s.length ≤ 100000 then some s.length else none
  | d => (asL S d).map List.length
def mLen (ds : List Dt) (S : Store) : R Dt := match ds with
  | [d] => match lenD S d with
    | some n => .ok (.int n) S
    | none => .stuck
  | _ => .stuck
theorem dc_len (hK : X.K = G.K := by rfl) : DC G X (.builtin "len") mLen := by
  refine ⟨_, (call_len_seq (X := X)).or call_len_str, ?_, ?_⟩
  · intro io H S ds vs Q so r h
    unfold mLen at h
    split at h
    · rename_i d
      cases r with
      | cons r1 r2 =>
        cases r2
        split at h
        · rename_i n hn
          unfold lenD at hn
          split at hn
          · cases hn
            obtain ⟨p, us, rfl, h1, h2⟩ := asT_ok r1 rfl
            refine .inl ⟨p, us, rfl, .inr (by rw [hK]; exact h1), ?_⟩
            rw [← h2.length]
            exact h io H Grow.refl so _ (.int _)
          · split at hn
            · rename_i hl
              cases hn
              cases r1
              exact .inr ⟨_, rfl, Nat.le_trans hl (by decide), h io H Grow.refl so _ (.int _)⟩
            · cases hn
          · cases el : asL S d with
            | none => rw [el] at hn; cases hn
            | some ds =>
              rw [el] at hn
              cases hn
              obtain ⟨p, us, rfl, h1, h2⟩ := asL_ok so r1 el
              refine .inl ⟨p, us, rfl, .inl (by rw [hK]; exact h1), ?_⟩
              rw [← h2.length]
              exact h io H Grow.refl so _ (.int _)
        · exact h.elim
    · exact h.elim
  · intro ds S
    unfold mLen
    repeat' split
    all_goals trivial
def asS (S : Store) (d : Dt) : Option (List Dt) := match d with
  | .tup ds => some ds
  | d => asL S d
theorem asS_ok {io : Io} {H : Hp} {S : Store} {d : Dt} {ds : List Dt} {v : V} (so : StoreOk G io S H) (r : RelD G io H d v) (h : asS S d = some ds) : ∃ a vs, v = .ref a ∧ (SqL G.K H a vs ∨ SqT G.K H a vs) ∧ RelDs G io H ds vs := by
  unfold asS at h
  split at h
  · obtain ⟨a, vs, h1, h2, h3⟩ := asT_ok r h
    exact ⟨a, vs, h1, .inr h2, h3⟩
  · obtain ⟨a, vs, h1, h2, h3⟩ := asL_ok so r h
    exact ⟨a, vs, h1, .inl h2, h3⟩
/-- list(xs): by value; an object of the store -/
def mList (ds : List Dt) (S : Store) : R Dt := match ds with
  | [d] => match asS S d with
    | some ds => .ok (.lst ds) S
    | none => .stuck
  | _ => .stuck
def mListR (ds : List Dt) (S : Store) : R Dt := match ds with
  | [d] => match asS S d with
    | some ds => .ok (.ref S.length) (S ++ [.lst ds])
    | none => .stuck
  | _ => .stuck
theorem dc_list (hK : X.K = G.K := by rfl) : DC G X (.type "list") mList := by
  refine ⟨_, call_list_of, ?_, ?_⟩
  · intro io H S ds vs Q so r h
    unfold mList at h
    split at h
    · cases r with
      | cons r1 r2 =>
        cases r2
        split at h
        · rename_i es he
          obtain ⟨a, us, rfl, h1, h2⟩ := asS_ok so r1 he
          exact ⟨a, us, rfl, by rw [hK]; exact h1, fun l hl => out_lst so h2 h hl⟩
        · exact h.elim
    · exact h.elim
  · intro ds S
    unfold mList
    repeat' split
    all_goals trivial
def mTuple (ds : List Dt) (S : Store) : R Dt := match ds with
  | [d] => match asS S d with
    | some ds => .ok (.tup ds) S
    | none => .stuck
  | _ => .stuck
theorem dc_tuple (hK : X.K = G.K := by rfl) : DC G X (.type "tuple") mTuple := by
  refine ⟨_, call_tuple_of, ?_, ?_⟩
  · intro io H S ds vs Q so r h
    unfold mTuple at h
    split at h
    · rename_i d
      cases r with
      | cons r1 r2 =>
        cases r2
        split at h
        · rename_i es he
          unfold asS at he
          split at he
          · cases he
            obtain ⟨a, us, rfl, h1, h2⟩ := asT_ok r1 rfl
            exact ⟨a, us, rfl, .inr ⟨by rw [hK]; exact h1, h io H Grow.refl so _ r1⟩⟩
          · obtain ⟨a, us, rfl, h1, h2⟩ := asL_ok so r1 he
            exact ⟨a, us, rfl, .inl ⟨by rw [hK]; exact h1, fun l hl => out_tup so h2 h hl⟩⟩
        · exact h.elim
    · exact h.elim
  · intro ds S
    unfold mTuple
    repeat' split
    all_goals trivial
/-- all, any, sum of a list -/
def bools : List Dt → Option (List Bool)
  | [] => some []
  | .bl b :: r => (bools r).map (b :: ·)
  | _ => none
theorem bools_ok {io : Io} {H : Hp} : ∀ {ds : List Dt} {vs : List V} {bs : List Bool}, RelDs G io H ds vs → bools ds = some bs → vs = bs.map V.bl
  | [], _, _, r, h => by cases r; cases h; rfl
  | d :: ds, _, bs, r, h => by
    cases r with
    | cons r1 r2 =>
      cases r1 with
      | bl b =>
        simp only [bools] at h
        cases e : bools ds with
        | none => rw [e] at h; cases h
        | some cs =>
          rw [e] at h
          cases h
          rw [bools_ok r2 e]
          rfl
      | _ => cases h
def mAll (ds : List Dt) (S : Store) : R Dt := match ds with
  | [d] => match (asL S d).bind bools with
    | some bs => .ok (.bl (bs.all fun b => b)) S
    | none => .stuck
  | _ => .stuck
theorem dc_all (hc : X.calm = true := by rfl) (hK : X.K = G.K := by rfl) : DC G X (.builtin "all") mAll := by
  refine ⟨_, cr_all hc, ?_, ?_⟩
  · intro io H S ds vs Q so r h
    unfold mAll at h
    split at h
    · rename_i d
      cases r with
      | cons r1 r2 =>
        cases r2
        split at h
        · rename_i bs hb
          cases el : asL S d with
          | none => rw [el] at hb; cases hb
          | some es =>
            rw [el] at hb
            obtain ⟨a, us, rfl, h1, h2⟩ := asL_ok so r1 el
            have e := bools_ok h2 hb
            subst e
            refine ⟨a, bs, rfl, by rw [hK]; exact h1, ?_⟩
            have e2 : bs.all (fun b => b) = bs.all id := rfl
            rw [e2] at h
            exact h io H Grow.refl so _ (.bl _)
        · exact h.elim
    · exact h.elim
  · intro ds S
    unfold mAll
    repeat' split
    all_goals trivial
end
end Dv
set_option Elab.async false
set_option linter.all false
set_option maxRecDepth 100000
set_option maxHeartbeats 4000000
set_option autoImplicit false
namespace Dv
open PySem PySem.Spec PyProof.Rows L2
/-! ### isinstance -/
/-- what isinstance asks of the text's own classes -/
structure ClsOk (G : Gv) : Prop where
  cls : ∀ c C, G.cl c = some C → Cls G.K C
  ha : ∀ c C, G.cl c = some C → PySem.W.findIn G.K (.ref C) "__class__" = some (some (.builtin "object.__class__"))
  hn : PySem.W.specialIn G.K (.builtin "object.__class__") "__get__" = some (some (.builtin "getset_descriptor.__get__")) ∨ ∀ c, G.cl c = none
  htk : PySem.W.takesIn G.K (.builtin "object.__class__") = some true ∨ ∀ c, G.cl c = none
  hm : ∀ c C, G.cl c = some C → PySem.W.mroIn G.K C (.type "object") = some true
  tyOwn : ∀ c C, G.cl c = some C → ∀ t ∈ tys, PySem.W.kitOne G.K (.type t) (.ref C) = some false
  ownTy : ∀ c C, G.cl c = some C → ∀ t ∈ clss, PySem.W.kitOne G.K (.ref C) (.type t) = some false
  ownOwn : ∀ c C d D, G.cl c = some C → G.cl d = some D → PySem.W.kitOne G.K (.ref C) (.ref D) = some (c == d)
theorem ClsOk.none {G : Gv} (h : ∀ c, G.cl c = none) : ClsOk G := by
  have z : ∀ {P : Prop} {c : String} {C : Addr}, G.cl c = some C → P := fun {P c C} e => by
    rw [h] at e
    cases e
  exact ⟨fun _ _ e => z e, fun _ _ e => z e, .inr h, .inr h, fun _ _ e => z e, fun _ _ e => z e, fun _ _ e => z e, fun _ _ _ _ e => z e⟩
theorem ClsOk.tyOf {G : Gv} (o : ClsOk G) {H : Hp} {a C dx : Addr} {fs : List (Str × V)} {c : String} (h : G.cl c = some C) (e : H a = some (.ins C dx fs)) : TyOf G.K H (.ref a) (.ref C) := by
  have n1 := o.hn.resolve_right fun z => by rw [z] at h; cases h
  have n2 := o.htk.resolve_right fun z => by rw [z] at h; cases h
  exact .ins e (o.cls c C h) (o.ha c C h) n1 n2 (o.hm c C h)
/-- the type of a value: a built-in one, or an own class -/
def tyS (S : Store) (d : Dt) : Option (String ⊕ String) := match d with
  | .non => some (.inl "NoneType")
  | .bl _ => some (.inl "bool")
  | .int _ => some (.inl "int")
  | .str _ => some (.inl "str")
  | .tup _ => some (.inl "tuple")
  | .lst _ => some (.inl "list")
  | .dct _ _ => some (.inl "dict")
  | .ins c _ _ => some (.inr c)
  | .ref i => match S[i]? with
    | some (.lst _) => some (.inl "list")
    | some (.dct _ _) => some (.inl "dict")
    | some (.ins c _ _) => some (.inr c)
    | some (.dkt _ _) => none
    | none => none
  | _ => none
def isiB (t c : String) : Bool := t == c || t == "bool" && c == "int"
theorem kit_isiB {K : PySem.W.Frag} {t c : String} (ht : t ∈ tys) (hc : c ∈ clss) : PySem.W.kitOne K (.type t) (.type c) = some (isiB t c) := by
  have all : (tys.all fun t => clss.all fun c => decide (kitB t c = some (isiB t c))) = true := by decide +kernel
  rw [List.all_eq_true] at all
  have z := List.all_eq_true.mp (all t ht) c hc
  exact kit_ty (of_decide_eq_true z)
def isiT (t : String ⊕ String) (c : Dt) : Option Bool := match t, c with
  | .inl t, .ty n => if n ∈ clss then some (isiB t n) else none
  | .inl _, .cls _ => some false
  | .inr _, .ty n => if n ∈ clss then some false else none
  | .inr c, .cls d => some (c == d)
  | _, _ => none
def isiAny (t : String ⊕ String) : List Dt → Option Bool
  | [] => some false
  | c :: r => match isiT t c with
    | some true => (isiAny t r).map fun _ => true
    | some false => isiAny t r
    | none => none
def mIsi (ds : List Dt) (S : Store) : R Dt := match ds with
  | [x, .tup cs] => match (tyS S x).bind fun t => isiAny t cs with
    | some b => .ok (.bl b) S
    | none => .stuck
  | [x, c] => match (tyS S x).bind fun t => isiT t c with
    | some b => .ok (.bl b) S
    | none => .stuck
  | _ => .stuck
/-- a type as a value of the model -/
inductive TyV (G : Gv) : String ⊕ String → Value → Prop
  | b {t : String} : t ∈ tys → TyV G (.inl t) (.type t)
  | own {c : String} {C : Addr} : G.cl c = some C → TyV G (.inr c) (.ref C)
section
variable {G : Gv} {X : Cx} {W : WX} {io : Io} {H : Hp} {S : Store}
theorem tyS_ok (o : ClsOk G) {d : Dt} {v : V} {t : String ⊕ String} (so : StoreOk G io S H) (r : RelD G io H d v) (h : tyS S d = some t) : ∃ u, TyV G t u ∧ TyX G.K H v u := by
  cases r with
  | non => cases h; exact ⟨_, .b (by decide), .base .non⟩
  | bl b => cases h; exact ⟨_, .b (by decide), .base (.bl b)⟩
  | int i => cases h; exact ⟨_, .b (by decide), .base (.int i)⟩
  | str s => cases h; exact ⟨_, .b (by decide), .base (.str s)⟩
  | tup e _ =>
    cases h
    rcases e with ⟨e, _⟩ | ⟨⟨o, its, n, h1, h2, _⟩, _⟩
    · exact ⟨_, .b (by decide), .base (.tup e)⟩
    · exact ⟨_, .b (by decide), .kTuple h1 h2⟩
  | lst e _ _ => cases h; exact ⟨_, .b (by decide), .base (.lst e)⟩
  | dct e _ _ _ => cases h; exact ⟨_, .b (by decide), .base (.dK e)⟩
  | ins e n c l k => cases h; exact ⟨_, .own c, .base (o.tyOf c e)⟩
  | @ref a i e =>
    unfold tyS at h
    dsimp only at h
    split at h
    · rename_i hs
      obtain ⟨a', h1, h2⟩ := so.at_ hs
      rw [e] at h1
      cases h1
      cases h
      cases h2 with
      | lst e1 _ => exact ⟨_, .b (by decide), .base (.lst e1)⟩
    · rename_i hs
      obtain ⟨a', h1, h2⟩ := so.at_ hs
      rw [e] at h1
      cases h1
      cases h
      cases h2 with
      | dct e1 _ _ => exact ⟨_, .b (by decide), .base (.dK e1)⟩
    · rename_i hs
      obtain ⟨a', h1, h2⟩ := so.at_ hs
      rw [e] at h1
      cases h1
      cases h
      cases h2 with
      | ins e1 c _ _ => exact ⟨_, .own c, .base (o.tyOf c e1)⟩
    · cases h
    · cases h
  | _ => cases h
theorem isiT_ok (o : ClsOk G) {t : String ⊕ String} {u : Value} {c : Dt} {vc : V} {b : Bool} (ht : TyV G t u) (r : RelD G io H c vc) (h : isiT t c = some b) : ∃ uc, ClsV vc uc ∧ PySem.W.kitOne G.K u uc = some b := by
  cases r with
  | ty n =>
    refine ⟨_, .ty n, ?_⟩
    cases ht with
    | b ht =>
      unfold isiT at h
      dsimp only at h
      split at h
      · rename_i hc
        cases h
        exact kit_isiB ht hc
      · cases h
    | own hc =>
      unfold isiT at h
      dsimp only at h
      split at h
      · rename_i hn
        cases h
        exact o.ownTy _ _ hc _ hn
      · cases h
  | @cls c C hC =>
    refine ⟨_, .own C, ?_⟩
    cases ht with
    | b ht =>
      cases h
      exact o.tyOwn _ _ hC _ ht
    | own hc =>
      cases h
      exact o.ownOwn _ _ _ _ hc hC
  | _ => cases ht <;> cases h
theorem isiAny_ok (o : ClsOk G) {t : String ⊕ String} {u : Value} (ht : TyV G t u) : ∀ {cs : List Dt} {vs : List V} {b : Bool}, RelDs G io H cs vs → isiAny t cs = some b → ∃ us, Paired ClsV vs us ∧ PySem.W.kitAny G.K u us = some b
  | [], _, b, r, h => by
    cases r
    cases h
    exact ⟨[], .nil, rfl⟩
  | c :: cs, _, b, r, h => by
    cases r with
    | cons r1 r2 =>
      unfold isiAny at h
      split at h
      · rename_i e1
        cases e : isiAny t cs with
        | none => rw [e] at h; cases h
        | some b' =>
          rw [e] at h
          cases h
          obtain ⟨uc, h1, h2⟩ := isiT_ok o ht r1 e1
          obtain ⟨us, h3, _⟩ := isiAny_ok o ht r2 e
          exact ⟨uc :: us, .cons h1 h3, kitAny_cons h2 (fun z => by cases z) fun _ => rfl⟩
      · rename_i e1
        obtain ⟨uc, h1, h2⟩ := isiT_ok o ht r1 e1
        obtain ⟨us, h3, h4⟩ := isiAny_ok o ht r2 h
        exact ⟨uc :: us, .cons h1 h3, kitAny_cons h2 (fun _ => h4) fun z => by cases z⟩
      · cases h
theorem dc_isi (o : ClsOk G) (hK : X.K = G.K := by rfl) : DC G X (.builtin "isinstance") mIsi := by
  refine ⟨_, ((call_isi (X := X)).or call_isiT).or call_isiK, ?_, ?_⟩
  · intro io H S ds vs Q so r h
    rw [hK]
    unfold mIsi at h
    split at h
    · rename_i x cs
      cases r with
      | cons r1 r2 =>
        cases r2 with
        | cons r2 r3 =>
          cases r3
          split at h
          · rename_i b hb
            cases et : tyS S x with
            | none => rw [et] at hb; cases hb
            | some t =>
              rw [et] at hb
              obtain ⟨u, h1, h2⟩ := tyS_ok o so r1 et
              cases r2 with
              | @tup a _ us e rs =>
                obtain ⟨ws, h3, h4⟩ := isiAny_ok o h1 rs hb
                have q := h io H Grow.refl so _ (.bl b)
                rcases e with ⟨e, _⟩ | ⟨⟨ob, its, n, k1, k2, k3, k4, k5⟩, _⟩
                · exact .inl (.inr ⟨_, _, _, _, _, b, rfl, e, h3, h2, h4, q⟩)
                · obtain ⟨oc, od, dt, sl⟩ := ob
                  simp only at k2 k3
                  subst k2 k3
                  have e3 := ClsV.all h3 k5
                  subst e3
                  exact .inr ⟨_, _, od, its.toList, n, sl, _, b, rfl, by simpa using k1, h2, h4, q⟩
          · exact h.elim
    · rename_i x c hne
      cases r with
      | cons r1 r2 =>
        cases r2 with
        | cons r2 r3 =>
          cases r3
          split at h
          · rename_i b hb
            cases et : tyS S x with
            | none => rw [et] at hb; cases hb
            | some t =>
              rw [et] at hb
              obtain ⟨u, h1, h2⟩ := tyS_ok o so r1 et
              obtain ⟨uc, h3, h4⟩ := isiT_ok o h1 r2 hb
              exact .inl (.inl ⟨_, _, _, _, b, rfl, h3, h2, h4, h io H Grow.refl so _ (.bl b)⟩)
          · exact h.elim
    · exact h.elim
  · intro ds S
    unfold mIsi
    repeat' split
    all_goals trivial
end
/-! ### statements -/
def R.toS {α : Type} (r : R α) (e : Env) (f : α → Store → RS) : RS := match r with
  | .ok a S => f a S
  | .err x S => .err x e S
  | .stuck => .stuck
theorem OutS.bind {G : Gv} {io : Io} {H : Hp} {α : Type} {wx : Ex → Env → Io → Hp → Prop} {post : Fl → Env → Store → Io → Hp → Prop} {r : R α} {e : Env} {f : α → Store → RS} (h : OutS G io H wx post (r.toS e f)) :
    Out G io H (fun x io' H' => wx x e io' H') (fun a S io' H' => OutS G io' H' wx post (f a S)) r := by
  cases r with
  | ok a S => exact fun io' H' g s => OutS.from g h
  | err x S => exact h
  | stuck => exact h
section
variable {G : Gv} {X : Cx} {W : WX} {e : Expr} {me : Env → Store → R Dt} {pos : Pos}
/-- a wish at the statement's slots -/
theorem wx_of {io : Io} {H : Hp} {en : Env} {σ : L2.St} (re : RelEnv G io H en σ) : ∀ x io' H', Grow io H io' H' → wxS G W x en io' H' → wxE G W σ x io' H' := fun x io' H' g z cls dx rx => z σ cls dx (re.mono g) rx
/-- targets -/
def DG (G : Gv) (X : Cx) (tg : Expr) (m : Dt → Env → Store → Option (Env × Store)) : Prop := ∃ g, PG X tg g ∧ ∀ io H S en σ d v (Q : L2.St → Hp → Prop), StoreOk G io S H → RelEnv G io H en σ → RelD G io H d v →
  (match m d en S with
    | some (e', S') => ∀ io' H', Grow io H io' H' → StoreOk G io' S' H' → ∀ σ', RelEnv G io' H' e' σ' → Q σ' H'
    | none => False) → g v σ H Q
def gNm (i : Nat) : Dt → Env → Store → Option (Env × Store) := fun d e S => some (e.set i (some d), S)
theorem dg_name {i : Nat} {x : Str} (hN : X.N.Nodup) (hi : X.N[i]? = some x) (hx : Loc X.env.scope x) (hf : X.fn x = true ∨ X.env.scope.names.lookup x = some .local := by first | exact .inl rfl | exact .inr rfl | assumption) : DG G X (.Name x pos) (gNm i) :=
  ⟨_, pg_name hN hi hx hf, fun io H S en σ d v Q so re r h => h io H Grow.refl so _ (re.set r)⟩
def DGs (G : Gv) (X : Cx) (tgs : List Expr) (m : List Dt → Env → Store → Option (Env × Store)) : Prop := ∃ g, PGs X tgs g ∧ ∀ io H S en σ ds vs (Q : L2.St → Hp → Prop), StoreOk G io S H → RelEnv G io H en σ → RelDs G io H ds vs →
  (match m ds en S with
    | some (e', S') => ∀ io' H', Grow io H io' H' → StoreOk G io' S' H' → ∀ σ', RelEnv G io' H' e' σ' → Q σ' H'
    | none => False) → g vs σ H Q
def gNil' : List Dt → Env → Store → Option (Env × Store) := fun ds e S => match ds with
  | [] => some (e, S)
  | _ => none
def gCons' (m : Dt → Env → Store → Option (Env × Store)) (ms : List Dt → Env → Store → Option (Env × Store)) : List Dt → Env → Store → Option (Env × Store) := fun ds e S => match ds with
  | d :: r => match m d e S with
    | some (e1, S1) => ms r e1 S1
    | none => none
  | [] => none
theorem dgs_nil : DGs G X [] gNil' := ⟨_, pgs_nil, fun io H S en σ ds vs Q so re r h => by
  cases r with
  | nil => exact ⟨rfl, h io H Grow.refl so _ re⟩
  | cons _ _ => exact h.elim⟩
theorem dgs_cons {tg : Expr} {tgs : List Expr} {m : Dt → Env → Store → Option (Env × Store)} {ms : List Dt → Env → Store → Option (Env × Store)} (h1 : DG G X tg m) (h2 : DGs G X tgs ms)
    (hs : (assignEach (tg :: tgs) X.env).map (·.2) = assign tg X.env :: (assignEach tgs X.env).map (·.2) := by rfl) : DGs G X (tg :: tgs) (gCons' m ms) := by
  obtain ⟨g, p, q⟩ := h1
  obtain ⟨g', p', q'⟩ := h2
  refine ⟨_, pgs_cons p p' hs, fun io H S en σ ds vs Q so re r h => ?_⟩
  cases r with
  | nil => exact h.elim
  | cons r1 r2 =>
    refine ⟨_, _, rfl, q io H S en σ _ _ _ so re r1 ?_⟩
    unfold gCons' at h
    dsimp only at h
    split
    · rename_i e1 S1 em
      rw [em] at h
      intro i1 H1 g1 s1 σ1 re1
      refine q' i1 H1 S1 e1 σ1 _ _ Q s1 re1 (r2.mono g1) ?_
      dsimp only at h
      split
      · rename_i e2 S2 em2
        rw [em2] at h
        exact fun i2 H2 g2 s2 σ2 re2 => h i2 H2 (g1.trans g2) s2 σ2 re2
      · rename_i em2
        rw [em2] at h
        exact h
    · rename_i em
      rw [em] at h
      exact h
def gTp (n : Nat) (m : List Dt → Env → Store → Option (Env × Store)) : Dt → Env → Store → Option (Env × Store) := fun d e S => match d with
  | .tup ds => if ds.length = n then m ds e S else none
  | _ => none
theorem dg_tup {es : List Expr} {k n : Nat} {m : List Dt → Env → Store → Option (Env × Store)} (h : DGs G X es m) (hc : X.calm = true := by rfl) (hn : (assignEach es X.env).length = n := by rfl) (hst : (assignEach es X.env).findIdx? (·.1) = none := by rfl)
    (hK : X.K = G.K := by rfl) : DG G X (.Tuple es k pos) (gTp n m) := by
  obtain ⟨g, p, q⟩ := h
  refine ⟨_, pg_tup hc p hn hst, fun io H S en σ d v Q so re r h => ?_⟩
  unfold gTp at h
  split at h
  · rename_i e' S' em
    split at em
    · rename_i ds
      split at em
      · rename_i hl
        obtain ⟨a, vs, rfl, h1, h2⟩ := asT_ok r rfl
        refine ⟨a, vs, rfl, by rw [hK]; exact h1, by rw [← h2.length]; exact hl, q io H S en σ _ _ Q so re h2 ?_⟩
        rw [em]
        exact h
      · cases em
    · cases em
  · exact h.elim
def mSet (i : Nat) (m : Env → Store → R Dt) : Env → Store → RS := fun en S => (m en S).toS en fun d S1 => .ok .nx (en.set i (some d)) S1
theorem ds_set {i : Nat} {x : Str} {pos' : Pos} (hN : X.N.Nodup) (he : DE G X W e me) (hi : X.N[i]? = some x := by rfl) (hx : Loc X.env.scope x := by first | exact Or.inl rfl | exact Or.inr rfl) (hs : swapsWith e (some (.Name x pos')) pos.line X.env = pure false := by rfl) (hf : X.fn x = true ∨ X.env.scope.names.lookup x = some .local := by first | exact .inl rfl | exact .inr rfl | assumption) :
    DS G X W (.Assign [.Name x pos'] e pos) (mSet i me) := by
  obtain ⟨t, p, q⟩ := he
  refine ⟨_, ps_set hN hi hx p hs hf, fun io H S en σ D so re h => ?_⟩
  refine q io H S en σ _ so re (h.bind.imp (wx_of re) fun d S1 i1 H1 g1 s1 k1 v r => ?_)
  exact k1 i1 H1 Grow.refl s1 _ ((re.mono g1).set r)
/-- target = value -/
def mAsg (g : Dt → Env → Store → Option (Env × Store)) (m : Env → Store → R Dt) : Env → Store → RS := fun en S => (m en S).toS en fun d S1 => match g d en S1 with
  | some (e', S') => .ok .nx e' S'
  | none => .stuck
theorem ds_asg {tg : Expr} {g : Dt → Env → Store → Option (Env × Store)} (he : DE G X W e me) (hg : DG G X tg g) (hs : swapsWithSole [tg] e pos.line X.env = pure false := by rfl) (hw : swappedStores [tg] e X.env = pure none := by rfl)
    (h1 : (assignEach [tg] X.env).map (·.2) = [assign tg X.env] := by rfl) : DS G X W (.Assign [tg] e pos) (mAsg g me) := by
  obtain ⟨t, p, q⟩ := he
  obtain ⟨g', p', q'⟩ := hg
  refine ⟨_, ps_asg p p' hs hw h1, fun io H S en σ D so re h => ?_⟩
  refine q io H S en σ _ so re (h.bind.imp (wx_of re) fun d S1 i1 H1 g1 s1 k1 v r => ?_)
  refine q' i1 H1 S1 en σ d v _ s1 (re.mono g1) r ?_
  split
  · rename_i e' S' em
    rw [em] at k1
    exact fun io' H' g s σ' re' => k1 io' H' g s σ' re'
  · rename_i em
    rw [em] at k1
    exact k1.elim
/-- a, b = x, y: plain names -/
def mPar (i j : Nat) (m : Env → Store → R (List Dt)) : Env → Store → RS := fun en S => (m en S).toS en fun ds S1 => match ds with
  | [d, d'] => .ok .nx ((en.set i (some d)).set j (some d')) S1
  | _ => .stuck
theorem ds_par {i j : Nat} {x y : Str} {a b : Expr} {ma : Env → Store → R (List Dt)} {px py pt : Pos} {kt k2 pt2} (hN : X.N.Nodup) (ha : DA G X W [a, b] ma) (hc : X.calm = true := by rfl) (hi : X.N[i]? = some x := by rfl) (hj : X.N[j]? = some y := by rfl) (hij : i ≠ j := by decide)
    (hx : X.env.scope.names.lookup x = some .local := by rfl) (hy : X.env.scope.names.lookup y = some .local := by rfl)
    (hw : swappedStores [.Tuple [.Name x px, .Name y py] kt pt] (.Tuple [a, b] k2 pt2) X.env = pure (some [x, y]) := by rfl)
    (hs : swapsWithSole [.Tuple [.Name x px, .Name y py] kt pt] (.Tuple [a, b] k2 pt2) pos.line X.env = pure false := by rfl) :
    DS G X W (.Assign [.Tuple [.Name x px, .Name y py] kt pt] (.Tuple [a, b] k2 pt2) pos) (mPar i j ma) := by
  obtain ⟨t, p, q⟩ := ha
  refine ⟨_, ps_par hc hN hi hj hij hx hy p hw hs, fun io H S en σ D so re h => ?_⟩
  refine q io H S en σ _ so re (h.bind.imp (wx_of re) fun ds S1 i1 H1 g1 s1 k1 vs r => ?_)
  cases r with
  | nil => exact k1.elim
  | cons r1 r2 =>
    cases r2 with
    | nil => exact k1.elim
    | cons r2 r3 =>
      cases r3 with
      | cons _ _ => exact k1.elim
      | nil => exact ⟨_, _, rfl, k1 i1 H1 Grow.refl s1 _ (((re.mono g1).set r1).set r2)⟩
/-- an expression alone -/
def mDrop (m : Env → Store → R Dt) : Env → Store → RS := fun en S => (m en S).toS en fun _ S1 => .ok .nx en S1
theorem ds_expr (he : DE G X W e me) (hs : swapsWith e none pos.line X.env = pure false := by rfl) : DS G X W (.Expr e pos) (mDrop me) := by
  obtain ⟨t, p, q⟩ := he
  refine ⟨_, ps_expr p hs, fun io H S en σ D so re h => ?_⟩
  exact q io H S en σ _ so re (h.bind.imp (wx_of re) fun d S1 i1 H1 g1 s1 k1 v r => k1 i1 H1 Grow.refl s1 _ (re.mono g1))
def mRet (m : Env → Store → R Dt) : Env → Store → RS := fun en S => (m en S).toS en fun d S1 => .ok (.rt d) en S1
theorem ds_ret (he : DE G X W e me) : DS G X W (.Return (some e) pos) (mRet me) := by
  obtain ⟨t, p, q⟩ := he
  refine ⟨_, ps_ret p, fun io H S en σ D so re h => ?_⟩
  exact q io H S en σ _ so re (h.bind.imp (wx_of re) fun d S1 i1 H1 g1 s1 k1 v r => k1 i1 H1 Grow.refl s1 _ r)
def mRetN : Env → Store → RS := fun en S => .ok (.rt .non) en S
def mNx : Env → Store → RS := fun en S => .ok .nx en S
def mBk : Env → Store → RS := fun en S => .ok .bk en S
def mCt : Env → Store → RS := fun en S => .ok .ct en S
theorem ds_break : DS G X W (.Break pos) mBk := ⟨_, ps_break, fun io H S en σ D so re h => h io H Grow.refl so _ re⟩
/-- blocks -/
def mSeq (m k : Env → Store → RS) : Env → Store → RS := fun en S => match m en S with
  | .ok .nx e1 S1 => k e1 S1
  | r => r
variable {st : Stmt} {sts : List Stmt} {m k : Env → Store → RS}
theorem db_nil : DB G X W [] mNx := ⟨_, pss_nil, fun io H S en σ D so re h => h io H Grow.refl so _ re⟩
theorem db_one (h : DS G X W st m) : DB G X W [st] m := let ⟨_, p, q⟩ := h; ⟨_, pss_one p, q⟩
theorem db_cons (h : DS G X W st m) (h2 : DB G X W sts k) : DB G X W (st :: sts) (mSeq m k) := by
  obtain ⟨t, p, q⟩ := h
  obtain ⟨u, p', q'⟩ := h2
  refine ⟨_, pss_cons p p', fun io H S en σ D so re h => ?_⟩
  refine q io H S en σ _ so re ?_
  unfold mSeq at h
  cases em : m en S with
  | stuck => rw [em] at h; exact h
  | err x e1 S1 => rw [em] at h; exact h
  | ok f e1 S1 =>
    rw [em] at h
    cases f with
    | nx => exact fun i1 H1 g1 s1 σ1 re1 => q' i1 H1 S1 e1 σ1 D s1 re1 (OutS.from g1 h)
    | bk => exact h
    | ct => exact h
    | rt d => exact h
def mIfS (c : Env → Store → R Bool) (a b : Env → Store → RS) : Env → Store → RS := fun en S => (c en S).toS en fun t S1 => if t = true then a en S1 else b en S1
theorem ds_if {c : Expr} {a b : List Stmt} {mc : Env → Store → R Bool} {ma mb : Env → Store → RS} (hc : DT G X W c mc) (ha : DB G X W a ma) (hb : DB G X W b mb) : DS G X W (.If c a b pos) (mIfS mc ma mb) := by
  obtain ⟨t, p, q⟩ := hc
  obtain ⟨ta, pa, qa⟩ := ha
  obtain ⟨tb, pb, qb⟩ := hb
  refine ⟨_, ps_if p pa pb, fun io H S en σ D so re h => ?_⟩
  refine q io H S en σ _ so re (h.bind.imp (wx_of re) fun c S1 i1 H1 g1 s1 k1 => ?_)
  cases c with
  | true => exact qa i1 H1 S1 en σ D s1 (re.mono g1) k1
  | false => exact qb i1 H1 S1 en σ D s1 (re.mono g1) k1
/-! ### while -/
def wLoop (c : Env → Store → R Bool) (b : Env → Store → RS) : Nat → Env → Store → RS
  | 0, _, _ => .stuck
  | n + 1, en, S => (c en S).toS en fun t S1 => if t = true then (match b en S1 with
    | .ok .nx e2 S2 => wLoop c b n e2 S2
    | .ok .ct e2 S2 => wLoop c b n e2 S2
    | .ok .bk e2 S2 => .ok .nx e2 S2
    | r => r) else .ok .nx en S1
def mWhile (f : Env → Store → Nat) (c : Env → Store → R Bool) (b : Env → Store → RS) : Env → Store → RS := fun en S => wLoop c b (f en S) en S
theorem ds_while (f : Env → Store → Nat) {c : Expr} {body : List Stmt} {mc : Env → Store → R Bool} {mb : Env → Store → RS} (hp : PassesOwn (model X.prog X.w) X.A X.env X.xe) (hc : DT G X W c mc) (hb : DB G X W body mb) : DS G X W (.While c body [] pos) (mWhile f mc mb) := by
  obtain ⟨t, p, q⟩ := hc
  obtain ⟨tb, pb, qb⟩ := hb
  refine ⟨_, ps_while hp p pb, fun io H S en σ D so re h => ?_⟩
  refine ⟨fun n σ H => ∃ io en S, StoreOk G io S H ∧ RelEnv G io H en σ ∧ OutS G io H (wxS G W) (poF G D) (wLoop mc mb n en S), ⟨f en S, io, en, S, so, re, h⟩, ?_⟩
  rintro n σ H ⟨io, en, S, so, re, h⟩
  cases n with
  | zero => exact h.elim
  | succ n =>
    unfold wLoop at h
    refine q io H S en σ _ so re (h.bind.imp (wx_of re) fun c S1 i1 H1 g1 s1 k1 => ?_)
    cases c with
    | false => exact k1 i1 H1 Grow.refl s1 _ (re.mono g1)
    | true =>
      rw [if_pos rfl] at k1
      refine iteT (B := D.nx σ H1) ⟨fun σ' H' => ∃ m', m' < n + 1 ∧ ∃ io en S, StoreOk G io S H' ∧ RelEnv G io H' en σ' ∧ OutS G io H' (wxS G W) (poF G D) (wLoop mc mb m' en S), fun σ' H' z => z, qb i1 H1 S1 en σ _ s1 (re.mono g1) ?_⟩
      cases em : mb en S1 with
      | stuck => rw [em] at k1; exact k1
      | err x e2 S2 => rw [em] at k1; exact k1
      | ok fl e2 S2 =>
        rw [em] at k1
        cases fl with
        | nx => exact fun i2 H2 g2 s2 σ2 re2 => ⟨n, Nat.lt_succ_self _, i2, e2, S2, s2, re2, OutS.from g2 k1⟩
        | ct => exact fun i2 H2 g2 s2 σ2 re2 => ⟨n, Nat.lt_succ_self _, i2, e2, S2, s2, re2, OutS.from g2 k1⟩
        | bk => exact k1
        | rt d => exact k1
/-! ### for -/
/-- an iterator over these items -/
structure JOk (G : Gv) (io0 : Io) (H0 : Hp) (J : It) (items : List Dt) : Prop where
  go : ∀ i io H, Base io0 H0 io H → i < items.length → J.go i H
  stop : ∀ i io H, Base io0 H0 io H → items.length ≤ i → J.stop i H
  yld : ∀ i io H x H', Base io0 H0 io H → (∀ a, H a = none → a ∉ io) → i < items.length → J.yld i H x H' → ExtH H H' ∧ ∃ d, items[i]? = some d ∧ RelD G io H' d x
def DI (G : Gv) (X : Cx) (W : WX) (tg it : Expr) (m : Env → Store → R (List Dt)) : Prop := ∃ wi, PI X tg it wi ∧ ∀ io H S en σ (Q : It → Hp → Prop), StoreOk G io S H → RelEnv G io H en σ →
  Out G io H (wxE G W σ) (fun items _ io' H' => ∀ J, JOk G io' H' J items → Q J H') (m en S) → wi σ H Q
def fLoop (tg : Dt → Env → Store → Option (Env × Store)) (b : Env → Store → RS) : List Dt → Env → Store → RS
  | [], en, S => .ok .nx en S
  | d :: ds, en, S => match tg d en S with
    | none => .stuck
    | some (e1, S1) => match b e1 S1 with
      | .ok .nx e2 S2 => fLoop tg b ds e2 S2
      | .ok .ct e2 S2 => fLoop tg b ds e2 S2
      | .ok .bk e2 S2 => .ok .nx e2 S2
      | r => r
def mFor (mi : Env → Store → R (List Dt)) (tg : Dt → Env → Store → Option (Env × Store)) (b : Env → Store → RS) : Env → Store → RS := fun en S => (mi en S).toS en fun items S1 => fLoop tg b items en S1
theorem ds_for {tg it : Expr} {body : List Stmt} {mi : Env → Store → R (List Dt)} {g : Dt → Env → Store → Option (Env × Store)} {mb : Env → Store → RS} (hp : PassesOwn (model X.prog X.w) X.A X.env X.xe) (hi : DI G X W tg it mi) (hg : DG G X tg g) (hb : DB G X W body mb)
    (hc : X.calm = true := by rfl) (hs : ∀ x, foldedSetIterable it X.env x = pure x := by intro _; rfl) : DS G X W (.For tg it body [] pos) (mFor mi g mb) := by
  obtain ⟨wi, pi, qi⟩ := hi
  obtain ⟨g', pg, qg⟩ := hg
  obtain ⟨tb, pb, qb⟩ := hb
  refine ⟨_, ps_for hp hc pi pg pb hs, fun io H S en σ D so re h => ?_⟩
  refine qi io H S en σ _ so re (h.bind.imp (wx_of re) fun items S1 i1 H1 g1 s1 k1 J jo => ?_)
  refine ⟨fun i m σ H => m = items.length - i ∧ i ≤ items.length ∧ ∃ io en S, Grow i1 H1 io H ∧ StoreOk G io S H ∧ RelEnv G io H en σ ∧ OutS G io H (wxS G W) (poF G D) (fLoop g mb (items.drop i) en S),
    ⟨_, rfl, Nat.zero_le _, i1, en, S1, Grow.refl, s1, re.mono g1, by simpa using k1⟩, ?_⟩
  rintro i m σ2 H2 ⟨rfl, hle, i2, e2, S2, g2, s2, re2, h2⟩
  by_cases hlt : i < items.length
  · refine .inr ⟨jo.go i i2 H2 g2.base hlt, fun σ' H' => ∃ m', m' < items.length - i ∧ m' = items.length - (i + 1) ∧ i + 1 ≤ items.length ∧ ∃ io en S, Grow i1 H1 io H' ∧ StoreOk G io S H' ∧ RelEnv G io H' en σ' ∧ OutS G io H' (wxS G W) (poF G D) (fLoop g mb (items.drop (i + 1)) en S),
      fun σ' H' z => z, fun x H3 hy => ?_⟩
    obtain ⟨ex, d, hd, rd⟩ := jo.yld i i2 H2 x H3 g2.base (fun _ z => s2.fresh z) hlt hy
    have g3 : Grow i2 H2 i2 H3 := ex.grow
    have s3 := s2.ext ex
    have edr : items.drop i = d :: items.drop (i + 1) := by
      rw [List.drop_eq_getElem_cons hlt]
      have := (List.getElem?_eq_some_iff.mp hd).2
      rw [this]
    rw [edr] at h2
    unfold fLoop at h2
    refine qg i2 H3 S2 e2 σ2 d x _ s3 (re2.mono g3) rd ?_
    split
    · rename_i e4 S4 em
      rw [em] at h2
      dsimp only at h2
      intro i4 H4 g4 s4 σ4 re4
      refine qb i4 H4 S4 e4 σ4 _ s4 re4 ?_
      have h4 := OutS.from (g3.trans g4) h2
      have gg := g2.trans (g3.trans g4)
      cases eb : mb e4 S4 with
      | stuck => rw [eb] at h4; exact h4
      | err x e2 S2 => rw [eb] at h4; exact h4
      | ok fl e5 S5 =>
        rw [eb] at h4
        cases fl with
        | nx => exact fun i5 H5 g5 s5 σ5 re5 => ⟨_, by omega, rfl, hlt, i5, e5, S5, gg.trans g5, s5, re5, OutS.from g5 h4⟩
        | ct => exact fun i5 H5 g5 s5 σ5 re5 => ⟨_, by omega, rfl, hlt, i5, e5, S5, gg.trans g5, s5, re5, OutS.from g5 h4⟩
        | bk => exact h4
        | rt d => exact h4
    · rename_i em
      rw [em] at h2
      exact h2.elim
  · have e : i = items.length := by omega
    subst e
    rw [List.drop_length] at h2
    exact .inl ⟨jo.stop _ i2 H2 g2.base (Nat.le_refl _), h2 i2 H2 Grow.refl s2 _ re2⟩
end
end Dv
set_option Elab.async false
set_option linter.all false
set_option maxRecDepth 100000
set_option maxHeartbeats 4000000
set_option autoImplicit false
namespace Dv
open PySem PySem.Spec PyProof.Rows L2
/-! ### leaving a def: what it made is by value from there on -/
def noRef : Nat → Dt → Bool
  | _, .non => true
  | _, .bl _ => true
  | _, .int _ => true
  | _, .str _ => true
  | _, .ty _ => true
  | _, .cls _ => true
  | k + 1, .tup ds => ds.all (noRef k)
  | k + 1, .lst ds => ds.all (noRef k)
  | k + 1, .fz ds => ds.all (noRef k)
  | k + 1, .ins _ _ ds => ds.all (noRef k)
  | k + 1, .dct _ ds => ds.all (noRef k)
  | _, .lam _ _ => true
  | _, _ => false
def mapO {α β : Type} (f : α → Option β) : List α → Option (List β)
  | [] => some []
  | d :: ds => match f d with
    | some x => (mapO f ds).map (x :: ·)
    | none => none
/-- the first n objects of the store stay; the others become values -/
def frz (n : Nat) (S : Store) : Nat → Dt → Option Dt
  | 0, d => if noRef 0 d = true then some d else none
  | k + 1, d => if noRef (k + 1) d = true then some d else match d with
    | .ref i => if i < n then some (.ref i) else match S[i]? with
      | some (.lst ds) => (mapO (frz n S k) ds).map .lst
      | some (.ins c ns ds) => (mapO (frz n S k) ds).map (.ins c ns)
      | some (.dct ks ds) => (mapO (frz n S k) ds).map (.dct ks)
      | some (.dkt _ _) => none
      | none => none
    | .tup ds => (mapO (frz n S k) ds).map .tup
    | .lst ds => (mapO (frz n S k) ds).map .lst
    | .ins c ns ds => (mapO (frz n S k) ds).map (.ins c ns)
    | .dct ks ds => (mapO (frz n S k) ds).map (.dct ks)
    | _ => none
theorem frz_pure {n : Nat} {S : Store} {k : Nat} {d : Dt} (h : noRef k d = true) : frz n S k d = some d := by
  cases k with
  | zero => exact if_pos h
  | succ k => exact if_pos h
def frzO (n : Nat) (S : Store) (k : Nat) : Ob → Option Ob
  | .lst ds => (mapO (frz n S k) ds).map .lst
  | .ins c ns ds => (mapO (frz n S k) ds).map (.ins c ns)
  | .dct ks ds => (mapO (frz n S k) ds).map (.dct ks)
  | .dkt ks ds => (mapO (frz n S k) ds).map (.dkt ks)
section
variable {G : Gv} {io : Io} {H : Hp} {S : Store}
theorem notin_take {n : Nat} {a : Addr} (h : a ∉ io) : a ∉ io.take n := fun z => h (z.imp List.mem_of_mem_take id)
theorem mapO_len {α β : Type} {f : α → Option β} : ∀ {ds : List α} {es : List β}, mapO f ds = some es → ds.length = es.length
  | [], _, h => by cases h; rfl
  | d :: ds, es, h => by
    unfold mapO at h
    split at h
    · cases e : mapO f ds with
      | none => rw [e] at h; cases h
      | some l =>
        rw [e] at h
        cases h
        rw [List.length_cons, List.length_cons, mapO_len e]
    · cases h
theorem noRef_rel {n : Nat} : ∀ (k : Nat) {d : Dt} {v : V}, noRef k d = true → RelD G io H d v → RelD G (io.take n) H d v := by
  intro k
  induction k with
  | zero =>
    intro d v h r
    cases r with
    | non => exact .non
    | bl b => exact .bl b
    | int i => exact .int i
    | str s => exact .str s
    | ty n => exact .ty n
    | cls hc => exact .cls hc
    | lam e a b => exact .lam e ⟨a.1, notin_take a.2.1, a.2.2⟩ ⟨b.1, notin_take b.2.1, b.2.2⟩
    | _ => simp [noRef] at h
  | succ k ih =>
    have all : ∀ {ds : List Dt} {vs : List V}, ds.all (noRef k) = true → RelDs G io H ds vs → RelDs G (io.take n) H ds vs := by
      intro ds
      induction ds with
      | nil =>
        intro vs _ r
        cases r
        exact .nil
      | cons d ds ih2 =>
        intro vs h r
        rw [List.all_cons, Bool.and_eq_true] at h
        cases r with
        | cons r1 r2 => exact .cons (ih h.1 r1) (ih2 h.2 r2)
    intro d v h r
    cases r with
    | non => exact .non
    | bl b => exact .bl b
    | int i => exact .int i
    | str s => exact .str s
    | ty n => exact .ty n
    | cls hc => exact .cls hc
    | tup e rs => exact .tup (e.imp (fun z => ⟨z.1, notin_take z.2⟩) id) (all (by simpa [noRef] using h) rs)
    | lst e n rs => exact .lst e (notin_take n) (all (by simpa [noRef] using h) rs)
    | fz e rs => exact .fz (e.imp (fun z => ⟨z.1, notin_take z.2⟩) id) (all (by simpa [noRef] using h) rs)
    | ins e n c l rs => exact .ins e (notin_take n) c l (all (by simpa [noRef] using h) rs)
    | dct e n l rs => exact .dct e (notin_take n) l (all (by simpa [noRef] using h) rs)
    | ref e => simp [noRef] at h
    | lam e a b => exact .lam e ⟨a.1, notin_take a.2.1, a.2.2⟩ ⟨b.1, notin_take b.2.1, b.2.2⟩
theorem mapO_rel {n : Nat} {f : Dt → Option Dt} (hf : ∀ {d d' : Dt} {v : V}, f d = some d' → RelD G io H d v → RelD G (io.take n) H d' v) : ∀ {ds es : List Dt} {vs : List V}, mapO f ds = some es → RelDs G io H ds vs → RelDs G (io.take n) H es vs
  | [], _, _, h, r => by
    cases h
    cases r
    exact .nil
  | d :: ds, es, _, h, r => by
    unfold mapO at h
    cases r with
    | cons r1 r2 =>
      split at h
      · rename_i x ex
        cases e : mapO f ds with
        | none => rw [e] at h; cases h
        | some l =>
          rw [e] at h
          cases h
          exact .cons (hf ex r1) (mapO_rel hf e r2)
      · cases h
theorem take_at {n i : Nat} {a : Addr} (h : io.l[i]? = some a) (hi : i < n) : (io.take n).l[i]? = some a := by
  show (io.l.take n)[i]? = some a
  rw [List.getElem?_take_of_lt hi]
  exact h
theorem take_not {n i : Nat} {a : Addr} (so : StoreOk G io S H) (h : io.l[i]? = some a) (hi : ¬ i < n) : a ∉ io.take n := fun z => by
  rcases z with z | z
  · obtain ⟨j, hj, e⟩ := List.getElem_of_mem z
    rw [List.length_take] at hj
    rw [List.getElem_take] at e
    obtain ⟨l1, e1⟩ := List.getElem?_eq_some_iff.mp h
    have := (List.getElem_inj so.nd).mp (e.trans e1.symm)
    omega
  · exact so.dis a (List.mem_of_getElem? h) z
theorem map_some {α β : Type} {f : α → β} {o : Option α} {b : β} (h : o.map f = some b) : ∃ a, o = some a ∧ b = f a := by
  cases o with
  | none => cases h
  | some a => cases h; exact ⟨a, rfl, rfl⟩
theorem frz_rel {n : Nat} (so : StoreOk G io S H) : ∀ (k : Nat) {d d' : Dt} {v : V}, frz n S k d = some d' → RelD G io H d v → RelD G (io.take n) H d' v := by
  intro k
  induction k with
  | zero =>
    intro d d' v h r
    unfold frz at h
    split at h
    · rename_i hn
      cases h
      exact noRef_rel 0 hn r
    · cases h
  | succ k ih =>
    intro d d' v h r
    unfold frz at h
    split at h
    · rename_i hn
      cases h
      exact noRef_rel (k + 1) hn r
    · split at h
      · cases r with
        | @ref a i e =>
          split at h
          · rename_i hi
            cases h
            exact .ref (take_at e hi)
          · rename_i hi
            have na := take_not so e hi
            split at h
            · rename_i ds hs
              obtain ⟨es, e1, rfl⟩ := map_some h
              have q := so.ob _ _ _ hs e
              cases q with
              | lst h1 h2 => exact .lst h1 na (mapO_rel ih e1 h2)
            · rename_i c ns ds hs
              obtain ⟨es, e1, rfl⟩ := map_some h
              have q := so.ob _ _ _ hs e
              cases q with
              | ins h1 h2 h3 h4 => exact .ins h1 na h2 (by rw [h3, mapO_len e1]) (mapO_rel ih e1 h4)
            · rename_i ks ds hs
              obtain ⟨es, e1, rfl⟩ := map_some h
              have q := so.ob _ _ _ hs e
              cases q with
              | dct h1 h2 h3 => exact .dct h1 na (by rw [h2, mapO_len e1]) (mapO_rel ih e1 h3)
            · cases h
            · cases h
      · obtain ⟨es, e1, rfl⟩ := map_some h
        cases r with
        | tup e rs => exact .tup (e.imp (fun z => ⟨z.1, notin_take z.2⟩) id) (mapO_rel ih e1 rs)
      · obtain ⟨es, e1, rfl⟩ := map_some h
        cases r with
        | lst e n rs => exact .lst e (notin_take n) (mapO_rel ih e1 rs)
      · obtain ⟨es, e1, rfl⟩ := map_some h
        cases r with
        | ins e n c l rs => exact .ins e (notin_take n) c (by rw [l, mapO_len e1]) (mapO_rel ih e1 rs)
      · obtain ⟨es, e1, rfl⟩ := map_some h
        cases r with
        | dct e n l rs => exact .dct e (notin_take n) (by rw [l, mapO_len e1]) (mapO_rel ih e1 rs)
      · cases h
theorem mapOb_at {f : Ob → Option Ob} : ∀ {S S' : Store} {i : Nat} {o : Ob}, mapO f S = some S' → S'[i]? = some o → ∃ o0, S[i]? = some o0 ∧ f o0 = some o
  | [], _, i, o, h, e => by
    cases h
    simp at e
  | x :: xs, S', i, o, h, e => by
    unfold mapO at h
    split at h
    · rename_i y ey
      cases em : mapO f xs with
      | none => rw [em] at h; cases h
      | some l =>
        rw [em] at h
        cases h
        cases i with
        | zero =>
          cases e
          exact ⟨x, rfl, ey⟩
        | succ i =>
          obtain ⟨o0, h1, h2⟩ := mapOb_at em (i := i) (by simpa using e)
          exact ⟨o0, by simpa using h1, h2⟩
    · cases h
def deepF : Nat := 12
def exitS (n : Nat) (S : Store) : Option Store := mapO (frzO n S deepF) (S.take n)
theorem exitS_ok {n : Nat} {S2 : Store} (so : StoreOk G io S H) (h : exitS n S = some S2) (hn : n ≤ S.length) : StoreOk G (io.take n) S2 H := by
  refine ⟨so.nd.sublist (List.take_sublist _ _), ?_, fun a ha => so.dis a (List.mem_of_mem_take ha), so.hid, fun i o a h1 h2 => ?_, so.tab⟩
  · rw [← mapO_len h, List.length_take, List.length_take, so.len]
  · obtain ⟨o0, e0, e1⟩ := mapOb_at h h1
    rw [List.getElem?_take] at e0 h2
    split at e0
    · rename_i hi
      rw [if_pos hi] at h2
      have q := so.ob i o0 a e0 h2
      cases o0 with
      | lst ds =>
        obtain ⟨es, m1, rfl⟩ := map_some e1
        cases q with
        | lst k1 k2 => exact .lst k1 (mapO_rel (frz_rel so deepF) m1 k2)
      | ins c ns ds =>
        obtain ⟨es, m1, rfl⟩ := map_some e1
        cases q with
        | ins k1 k2 k3 k4 => exact .ins k1 k2 (by rw [k3, mapO_len m1]) (mapO_rel (frz_rel so deepF) m1 k4)
      | dct ks ds =>
        obtain ⟨es, m1, rfl⟩ := map_some e1
        cases q with
        | dct k1 k2 k3 => exact .dct k1 (by rw [k2, mapO_len m1]) (mapO_rel (frz_rel so deepF) m1 k3)
      | dkt ks ds =>
        obtain ⟨es, m1, rfl⟩ := map_some e1
        cases q with
        | dkt k1 k2 k3 => exact .dkt k1 (by rw [k2, mapO_len m1]) (mapO_rel (frz_rel so deepF) m1 k3)
    · cases e0
end
/-! ### defs -/
abbrev Fn := List Dt → Store → R Dt
def fin (keep : Bool) (n : Nat) (d : Dt) (S : Store) : R Dt := if keep = true ∨ S.length = n then .ok d S else match frz n S deepF d, exitS n S with
  | some d', some S' => .ok d' S'
  | _, _ => .stuck
def finX (keep : Bool) (n : Nat) (x : Ex) (S : Store) : R Dt := if keep = true ∨ S.length = n then .err x S else match mapO (frz n S deepF) x.ds, exitS n S with
  | some ds, some S' => .err ⟨x.c, x.ns, ds⟩ S'
  | _, _ => .stuck
/-- a def by its body: keep says that what it made stays an object -/
def fnRun (nl : Nat) (keep : Bool) (body : Env → Store → RS) : Fn := fun ds S => match body (ds.map some ++ List.replicate (nl - ds.length) none) S with
  | .ok (.rt d) _ S' => fin keep S.length d S'
  | .ok .nx _ S' => fin keep S.length .non S'
  | .ok _ _ _ => .stuck
  | .err x _ S' => finX keep S.length x S'
  | .stuck => .stuck
def spF (G : Gv) (np : Nat) (m : Fn) : Sp := fun vs H Q E => ∃ io S ds, StoreOk G io S H ∧ RelDs G io H ds vs ∧ ds.length = np ∧ Out G io H (fun x io' H' => ∀ cls dx, RelX G io' H' x cls dx → E cls dx H') (poE G Q) (m ds S)
theorem grow_take {io io' : Io} {H H' : Hp} (g : Grow io H io' H') : io'.take io.l.length = io ∧ Grow io H io H' := by
  obtain ⟨t, rfl⟩ := g.pre
  exact ⟨by cases io; simp [Io.take], ⟨⟨[], by simp⟩, fun b o h n nt => g.keep b o h n nt, fun a h n => absurd h n⟩⟩
theorem fin_ok {G : Gv} {io io' : Io} {H H' : Hp} {S S' : Store} {keep : Bool} {d : Dt} {v : V} {wx : Ex → Io → Hp → Prop} {Q : VK} (so : StoreOk G io S H) (g : Grow io H io' H') (so' : StoreOk G io' S' H') (r : RelD G io' H' d v)
    (h : Out G io H wx (poE G Q) (fin keep S.length d S')) : Q v H' := by
  unfold fin at h
  split at h
  · exact h io' H' g so' v r
  · split at h
    · rename_i d' S2 e1 e2
      obtain ⟨t1, t2⟩ := grow_take g
      have hn : S.length ≤ S'.length := by
        obtain ⟨t, rfl⟩ := g.pre
        rw [so.len, so'.len, List.length_append]
        omega
      have q1 := frz_rel so' deepF e1 r
      have q2 := exitS_ok so' e2 hn
      rw [so.len, t1] at q1 q2
      exact h io H' t2 q2 v q1
    · exact h.elim
theorem finX_ok {G : Gv} {io io' : Io} {H H' : Hp} {S S' : Store} {keep : Bool} {x : Ex} {cls : Value} {dx : Option Addr} {Q : VK} {E : XK} (so : StoreOk G io S H) (g : Grow io H io' H') (so' : StoreOk G io' S' H') (r : RelX G io' H' x cls dx)
    (h : Out G io H (fun x io' H' => ∀ cls dx, RelX G io' H' x cls dx → E cls dx H') (poE G Q) (finX keep S.length x S')) : E cls dx H' := by
  unfold finX at h
  split at h
  · exact h io' H' g so' cls dx r
  · split at h
    · rename_i ds S2 e1 e2
      obtain ⟨t1, t2⟩ := grow_take g
      have hn : S.length ≤ S'.length := by
        obtain ⟨t, rfl⟩ := g.pre
        rw [so.len, so'.len, List.length_append]
        omega
      have q2 := exitS_ok so' e2 hn
      rw [so.len, t1] at q2
      refine h io H' t2 q2 cls dx ?_
      obtain ⟨C, a, vs, h1, h2, h3, h4, h5, h6, h7⟩ := r
      refine ⟨C, a, vs, h1, h2, h3, h4, ?_, by rw [h6, mapO_len e1], ?_⟩
      · rw [← t1]
        exact notin_take h5
      · have q := mapO_rel (n := S.length) (frz_rel so' deepF) e1 h7
        rw [so.len, t1] at q
        exact q
    · exact h.elim
section
variable {P : Program} {w : World} {K : PySem.W.Frag} {mg : Str → Option Value} {base : Heap} {G : Gv}
theorem rel_start {io : Io} {H : Hp} {N : List Str} {ds : List Dt} {vs : List V} (r : RelDs G io H ds vs) (hl : vs.length ≤ N.length) : RelEnv G io H (ds.map some ++ List.replicate (N.length - ds.length) none) (L2.start N vs) := by
  have l := r.length
  refine ⟨by unfold L2.start; simp [l], fun i d h => ?_⟩
  unfold L2.start
  by_cases hi : i < ds.length
  · rw [List.getElem?_append_left (by simpa using hi), List.getElem?_map] at h
    cases e : ds[i]? with
    | none => rw [e] at h; cases h
    | some x =>
      rw [e] at h
      cases h
      obtain ⟨v, h1, h2⟩ := r.get e
      refine ⟨v, ?_, h2⟩
      rw [List.getElem?_append_left (by rw [List.length_map, ← l]; exact hi), List.getElem?_map, h1]
      rfl
  · rw [List.getElem?_append_right (by simpa using hi), List.getElem?_replicate] at h
    split at h <;> cases h
/-- THE RULE for a def -/
theorem fn_ok {x qual : Str} {st : Stmt} {f : Addr} {fd : FuncData} {N ps : List Str} {k : Nat} {m : Env → Store → RS} (keep : Bool) (F : Fun K x qual st f fd) (S : FnScope N ps (defScope st))
    (hbody : ∀ (cdv : Value) (A : Around) (outer : List PySem.Env) (s : Shared) (H : Hp) (E : XK), Room k (A.deeper (envOfC qual (defScope st) s.heap.objs.size f cdv)) →
      DB G (cxOf (L2.CX P w) P w K mg base N qual (defScope st) f cdv A outer s H E) (fun cls d _ H => E cls d H) (defBody st) m) : FnOk P w K mg base (L2.CX P w) (k + 1) f fd ps (spF G ps.length (fnRun N.length keep m)) := by
  refine F.okX S (fun vs H Q E h => ?_) (fun cdv A outer s H vs Q E hr h => ?_)
  · obtain ⟨io, St, ds, so, r, hl, _⟩ := h
    rw [← r.length]
    exact hl
  · obtain ⟨io, St, ds, so, r, hl, ho⟩ := h
    obtain ⟨t, p, q⟩ := hbody cdv A outer s H E hr
    refine ⟨t, p, ?_⟩
    have hpl : ps.length ≤ N.length := by have := congrArg List.length S.pre; rw [List.length_take] at this; omega
    have lv := r.length
    refine q io H St _ _ _ so (rel_start r (by omega)) ?_
    unfold fnRun at ho
    cases em : m (ds.map some ++ List.replicate (N.length - ds.length) none) St with
    | stuck => rw [em] at ho; exact ho
    | err x e1 S1 =>
      rw [em] at ho
      exact fun io' H' g so' σ cls dx re rx => finX_ok so g so' rx ho
    | ok fl e1 S1 =>
      rw [em] at ho
      cases fl with
      | nx => exact fun io' H' g so' σ re => fin_ok so g so' .non ho
      | bk => exact ho.elim
      | ct => exact ho.elim
      | rt d => exact fun io' H' g so' v r => fin_ok so g so' r ho
/-- no def is called deeper than its level -/
theorem fn_tk {qual : Str} {st : Stmt} {f : Addr} {N : List Str} {cdv : Value} {A : Around} {outer : List PySem.Env} {s : Shared} {H : Hp} {E : XK} : Takes (cxOf (L2.CX P w) P w K mg base N qual (defScope st) f cdv A outer s H E) (fun cls d _ H => E cls d H) := takes_of rfl rfl rfl rfl
theorem fn_po {qual : Str} {st : Stmt} {f : Addr} {N : List Str} {cdv : Value} {A : Around} {outer : List PySem.Env} {s : Shared} {H : Hp} {E : XK} : PassesOwn (model P w) (cxOf (L2.CX P w) P w K mg base N qual (defScope st) f cdv A outer s H E).A (cxOf (L2.CX P w) P w K mg base N qual (defScope st) f cdv A outer s H E).env (cxOf (L2.CX P w) P w K mg base N qual (defScope st) f cdv A outer s H E).xe := passes_of (X := cxOf (L2.CX P w) P w K mg base N qual (defScope st) f cdv A outer s H E) rfl
end
/-- f(e, ..) -/
def mCall (np : Nat) (m : Fn) (ma : Env → Store → R (List Dt)) : Env → Store → R Dt := fun en S => (ma en S).bind fun ds S1 => if ds.length = np then m ds S1 else .stuck
section
variable {G : Gv} {X : Cx} {W : WX} {k np : Nat} {f : Addr} {fd : FuncData} {ps : List Str} {x : Str} {p pos : Pos} {e : Expr} {es : List Expr} {ma : Env → Store → R (List Dt)} {m : Fn}
theorem de_call (F : FnOk X.prog X.w X.K X.mg X.base (L2.CX X.prog X.w) k f fd ps (spF G np m)) (hr : Room k X.A) (hm : X.mg x = some (.ref f)) (hk : PySem.W.keepIn X.K (.ref f) = true) (hb : Binds X.K fd ps []) (tk : Takes X W)
    (ha : DA G X W (e :: es) ma) (hg : Gl X x := by rfl) (hdb : (x == ("__debug__" : Str)) = false := by decide) (he : starEach (e :: es) X.env = (false, eval e X.env) :: starEach es X.env := by rfl) (hpl : (backTo pos (starEach es X.env)).any (·.1) = false := by rfl) :
    DE G X W (.Call (.Name x p) (e :: es) [] pos) (mCall np m ma) := by
  obtain ⟨t, pa, qa⟩ := ha
  refine ⟨_, pe_callS (E := WE W) F hr hg hm hk hb (fun σ => passAt tk σ) pa hdb he hpl, fun io H S en σ Q so re h => ?_⟩
  refine qa io H S en σ _ so re (h.bind.imp (fun _ _ _ _ z => z) fun ds S1 i1 H1 g1 s1 k1 vs r => ?_)
  split at k1
  · rename_i hl
    exact ⟨i1, S1, ds, s1, r, hl, k1⟩
  · exact k1.elim
end
end Dv
set_option Elab.async false
set_option linter.all false
set_option maxRecDepth 100000
set_option maxHeartbeats 4000000
set_option autoImplicit false
namespace Dv
open PySem PySem.Spec PyProof.Rows L2
/-! ### what is walked -/
theorem rel_sqL {G : Gv} {io i1 : Io} {H H1 : Hp} (g : Base io H i1 H1) {a : Addr} {vs : List V} (h : (Rd H a (.lst vs) ∧ a ∉ io) ∨ KLst G.K a vs) : SqL G.K H1 a vs := by
  rcases h with ⟨h, n⟩ | h
  · exact .inl (g.rd h n).1
  · exact .inr h
theorem jok_list {G : Gv} {io : Io} {H : Hp} {a : Addr} {ds : List Dt} {vs : List V} (h : (Rd H a (.lst vs) ∧ a ∉ io) ∨ KLst G.K a vs) (r : RelDs G io H ds vs) : JOk G io H (Itl G.K a) ds := by
  have l := r.length
  refine ⟨fun i i1 H1 g hi => ?_, fun i i1 H1 g hi => ?_, fun i i1 H1 x H' g _ hi hy => ?_⟩
  · exact ⟨vs, vs[i]'(by omega), rel_sqL g h, by simp [l ▸ hi]⟩
  · exact ⟨vs, rel_sqL g h, by omega⟩
  · obtain ⟨rfl, hx⟩ := hy
    have e := hx vs (rel_sqL g h)
    obtain ⟨v, e1, e2⟩ := r.get (i := i) (d := ds[i]'hi) (by simp [hi])
    rw [e] at e1
    cases e1
    exact ⟨fun _ _ z => z, _, by simp [hi], e2.monoB g⟩
theorem jok_tup {G : Gv} {io : Io} {H : Hp} {a : Addr} {ds : List Dt} {vs : List V} (h : (H a = some (.tup vs) ∧ a ∉ io) ∨ (KTup G.K a vs ∧ G.kt = true)) (r : RelDs G io H ds vs) : JOk G io H (Itt G.K a) ds := by
  have l := r.length
  have sq : ∀ {i1 : Io} {H1 : Hp}, Base io H i1 H1 → SqT G.K H1 a vs := fun g => by
    rcases h with ⟨h, n⟩ | h
    · exact .inl (.inl (g.keep _ _ h n).1)
    · exact .inr h.1
  refine ⟨fun i i1 H1 g hi => ?_, fun i i1 H1 g hi => ?_, fun i i1 H1 x H' g _ hi hy => ?_⟩
  · exact ⟨vs, vs[i]'(by omega), sq g, by simp [l ▸ hi]⟩
  · exact ⟨vs, sq g, by omega⟩
  · obtain ⟨rfl, hx⟩ := hy
    have e := hx vs (sq g)
    obtain ⟨v, e1, e2⟩ := r.get (i := i) (d := ds[i]'hi) (by simp [hi])
    rw [e] at e1
    cases e1
    exact ⟨fun _ _ z => z, _, by simp [hi], e2.monoB g⟩
theorem pi_or {X : Cx} {tg it : Expr} {w1 w2 : TI} (h1 : PI X tg it w1) (h2 : PI X tg it w2) : PI X tg it (fun σ H R => w1 σ H R ∨ w2 σ H R) :=
  ⟨fun pins s σ H R I h => h.elim (h1.run pins s σ H R I) (h2.run pins s σ H R I)⟩
def strs1 (s : Str) : List Dt := s.cps.toList.map fun c => .str ⟨#[c]⟩
/-- the items of a value that is walked -/
def itemsD (d : Dt) : Option (List Dt) := match d with
  | .lst ds => some ds
  | .fz ds => some ds
  | .tup ds => some ds
  | _ => none
def mIt (m : Env → Store → R Dt) : Env → Store → R (List Dt) := fun en S => (m en S).bind fun d S1 => match itemsD d with
  | some ds => .ok ds S1
  | none => .stuck
section
variable {G : Gv} {X : Cx} {W : WX} {tg e : Expr} {m : Env → Store → R Dt}
theorem di_seq (he : DE G X W e m) (hK : X.K = G.K := by rfl) : DI G X W tg e (mIt m) := by
  obtain ⟨t, p, q⟩ := he
  refine ⟨_, pi_or (pi_list p) (pi_tup p), fun io H S en σ Q so re h => ?_⟩
  cases em : m en S with
  | stuck =>
    unfold mIt at h
    rw [em] at h
    exact h.elim
  | err x S1 =>
    unfold mIt at h
    rw [em] at h
    exact .inl (q io H S en σ _ so re (by rw [em]; exact h))
  | ok d S1 =>
    unfold mIt at h
    rw [em] at h
    dsimp only [R.bind] at h
    split at h
    · rename_i ds hd
      unfold itemsD at hd
      split at hd
      · cases hd
        refine .inl (q io H S en σ _ so re ?_)
        rw [em]
        intro i1 H1 g1 s1 v r
        cases r with
        | lst e n rs =>
          refine ⟨_, rfl, ⟨_, .inl (.inl e)⟩, ?_⟩
          rw [hK]
          exact h i1 H1 g1 s1 _ (jok_list (.inl ⟨.inl e, n⟩) rs)
      · cases hd
        refine .inl (q io H S en σ _ so re ?_)
        rw [em]
        intro i1 H1 g1 s1 v r
        cases r with
        | fz e rs =>
          refine ⟨_, rfl, ⟨_, by rw [hK]; exact rel_sqL Grow.refl.base e⟩, ?_⟩
          rw [hK]
          exact h i1 H1 g1 s1 _ (jok_list e rs)
      · cases hd
        refine .inr (q io H S en σ _ so re ?_)
        rw [em]
        intro i1 H1 g1 s1 v r
        cases r with
        | @tup a _ vs e rs =>
          refine ⟨_, rfl, ⟨vs, ?_⟩, ?_⟩
          · rw [hK]
            rcases e with ⟨e, _⟩ | e
            · exact .inl (.inl e)
            · exact .inr e.1
          · rw [hK]
            exact h i1 H1 g1 s1 _ (jok_tup e rs)
      · cases hd
    · exact h.elim
/-- the signs of a text -/
def mItS (m : Env → Store → R Dt) : Env → Store → R (List Dt) := fun en S => (m en S).bind fun d S1 => match d with
  | .str s => .ok (strs1 s) S1
  | _ => .stuck
theorem di_str (he : DE G X W e m) : DI G X W tg e (mItS m) := by
  obtain ⟨t, p, q⟩ := he
  refine ⟨_, pi_str p, fun io H S en σ Q so re h => ?_⟩
  refine q io H S en σ _ so re (h.bind.imp (fun _ _ _ _ z => z) fun d S1 i1 H1 g1 s1 k1 v r => ?_)
  cases r with
  | str s =>
    refine ⟨s, rfl, k1 i1 H1 Grow.refl s1 _ ⟨fun i io H g hi => ?_, fun i io H g hi => ?_, fun i io H x H' g _ hi hy => ?_⟩⟩
    · simpa [Its, strs1] using hi
    · simpa [Its, strs1] using hi
    · obtain ⟨rfl, c, hc, rfl⟩ := hy
      refine ⟨fun _ _ z => z, .str ⟨#[c]⟩, ?_, .str _⟩
      unfold strs1
      rw [List.getElem?_map, Array.getElem?_toList, hc]
      rfl
  | _ => exact k1.elim
@[irreducible] def rngOk (i : Int) : Bool := decide (-(2 ^ 62) ≤ i ∧ i < 2 ^ 62)
theorem rng_iff {i : Int} : rngOk i = true ↔ -(2 ^ 62) ≤ i ∧ i < 2 ^ 62 := by
  unfold rngOk
  exact decide_eq_true_iff
theorem rng_ok {i : Int} (h0 : -4611686018427387904 ≤ i) (h1 : i < 4611686018427387904) : rngOk i = true := rng_iff.mpr ⟨by omega, by omega⟩
def rangeD (lo : Int) (n : Nat) : List Dt := (List.range n).map fun (k : Nat) => Dt.int (lo + (k : Int))
theorem jok_range {io : Io} {H : Hp} {lo : Int} {n : Nat} : JOk G io H (Itr lo n) (rangeD lo n) := by
  refine ⟨fun i io H g hi => ?_, fun i io H g hi => ?_, fun i io H x H' g _ hi hy => ?_⟩
  · simpa [Itr, rangeD] using hi
  · simpa [Itr, rangeD] using hi
  · obtain ⟨rfl, rfl⟩ := hy
    have hi' : i < n := by simpa [rangeD] using hi
    exact ⟨fun _ _ z => z, .int (lo + i), by simp [rangeD, hi'], .int _⟩
def mRng1 (m : Env → Store → R (List Dt)) : Env → Store → R (List Dt) := fun en S => (m en S).bind fun ds S1 => match ds with
  | [.int j] => if rngOk j = true then .ok (rangeD 0 j.toNat) S1 else .stuck
  | _ => .stuck
def mRng2 (m : Env → Store → R (List Dt)) : Env → Store → R (List Dt) := fun en S => (m en S).bind fun ds S1 => match ds with
  | [.int i, .int j] => if rngOk i = true ∧ rngOk j = true then .ok (rangeD i (j - i).toNat) S1 else .stuck
  | _ => .stuck
variable {a b : Expr} {ma : Env → Store → R (List Dt)} {p pos : Pos}
theorem di_range1 (hm : X.mg "range" = none) (ha : DA G X W [a] ma) (hg : Gl X "range" := by rfl) (hs : starEach [a] X.env = [(false, eval a X.env)] := by rfl) : DI G X W tg (.Call (.Name "range" p) [a] [] pos) (mRng1 ma) := by
  obtain ⟨t, pa, qa⟩ := ha
  refine ⟨_, pi_range1 hg hm pa hs, fun io H S en σ Q so re h => ?_⟩
  refine qa io H S en σ _ so re (h.bind.imp (fun _ _ _ _ z => z) fun ds S1 i1 H1 g1 s1 k1 vs r => ?_)
  split at k1
  · rename_i j
    split at k1
    · rename_i hj
      obtain ⟨h1, h2⟩ := rng_iff.mp hj
      cases r with
      | cons r1 r2 =>
        cases r1
        cases r2
        exact ⟨j, rfl, h1, h2, k1 i1 H1 Grow.refl s1 _ jok_range⟩
    · exact k1.elim
  · exact k1.elim
end
/-! ### comprehensions -/
def wipeE (e : Env) : List Nat → Env
  | [] => e
  | v :: vs => (wipeE e vs).set v none
theorem wipe_get (σ : L2.St) (vs : List Nat) (j : Nat) : (wipe σ vs)[j]? = if j ∈ vs then (if j < σ.length then some none else none) else σ[j]? := by
  induction vs with
  | nil => simp [wipe]
  | cons v vs ih =>
    unfold wipe
    by_cases hv : v = j
    · subst hv
      rw [if_pos (List.mem_cons_self)]
      by_cases hl : v < σ.length
      · rw [List.getElem?_set_self (by rw [wipe_length]; exact hl), if_pos hl]
      · rw [if_neg hl]
        apply List.getElem?_eq_none
        rw [List.length_set, wipe_length]
        omega
    · rw [List.getElem?_set_ne hv, ih]
      have : (j ∈ v :: vs) ↔ j ∈ vs := by
        rw [List.mem_cons]
        exact ⟨fun z => z.resolve_left (fun q => hv q.symm), .inr⟩
      simp only [this]
theorem wipeE_get (σ : Env) (vs : List Nat) (j : Nat) : (wipeE σ vs)[j]? = if j ∈ vs then (if j < σ.length then some none else none) else σ[j]? := by
  have len : ∀ vs : List Nat, (wipeE σ vs).length = σ.length := fun vs => by
    induction vs with
    | nil => rfl
    | cons v vs ih =>
      unfold wipeE
      rw [List.length_set, ih]
  induction vs with
  | nil => simp [wipeE]
  | cons v vs ih =>
    unfold wipeE
    by_cases hv : v = j
    · subst hv
      rw [if_pos (List.mem_cons_self)]
      by_cases hl : v < σ.length
      · rw [List.getElem?_set_self (by rw [len]; exact hl), if_pos hl]
      · rw [if_neg hl]
        apply List.getElem?_eq_none
        rw [List.length_set, len]
        omega
    · rw [List.getElem?_set_ne hv, ih]
      have : (j ∈ v :: vs) ↔ j ∈ vs := by
        rw [List.mem_cons]
        exact ⟨fun z => z.resolve_left (fun q => hv q.symm), .inr⟩
      simp only [this]
theorem rel_wipe {G : Gv} {io : Io} {H : Hp} {e : Env} {σ : L2.St} (r : RelEnv G io H e σ) (vs : List Nat) : RelEnv G io H (wipeE e vs) (wipe σ vs) := by
  have len : ∀ vs : List Nat, (wipeE e vs).length = e.length := fun vs => by
    induction vs with
    | nil => rfl
    | cons v vs ih =>
      unfold wipeE
      rw [List.length_set, ih]
  refine ⟨by rw [len, wipe_length]; exact r.len, fun i d h => ?_⟩
  rw [wipeE_get] at h
  rw [wipe_get]
  split at h
  · split at h <;> cases h
  · rename_i hi
    rw [if_neg hi]
    exact r.at_ i d h
/-- a target of names alone that sets these slots -/
def DGw (G : Gv) (X : Cx) (tg : Expr) (sl : List Nat) (m : Dt → Env → Option Env) : Prop := ∃ g, PG X tg g ∧ ∀ io H en σ d v (Q : L2.St → Hp → Prop), RelEnv G io H en σ → RelD G io H d v →
  (match m d en with
    | some e' => ∀ σ', RelEnv G io H e' σ' → σ'.length = σ.length → (∀ j : Nat, j ∉ sl → σ'[j]? = σ[j]?) → Q σ' H
    | none => False) → g v σ H Q
def wNm (i : Nat) : Dt → Env → Option Env := fun d e => some (e.set i (some d))
section
variable {G : Gv} {X : Cx} {pos : Pos}
theorem dgw_name {i : Nat} {x : Str} (hN : X.N.Nodup) (hi : X.N[i]? = some x) (hx : Loc X.env.scope x) (hf : X.fn x = true ∨ X.env.scope.names.lookup x = some .local := by first | exact .inl rfl | exact .inr rfl | assumption) : DGw G X (.Name x pos) [i] (wNm i) :=
  ⟨_, pg_name hN hi hx hf, fun io H en σ d v Q re r h => h _ (re.set r) (by simp) fun j hj => List.getElem?_set_ne (by simpa [eq_comm] using hj)⟩
end
/-- no error leaves a comprehension -/
def R.nx {α : Type} (r : R α) : R α := match r with
  | .ok a S => .ok a S
  | _ => .stuck
abbrev W0 : WX := fun _ _ _ _ => False
def cLoop (tg : Dt → Env → Option Env) (t : Env → Store → R Bool) (m : Env → Store → R Dt) (en : Env) : List Dt → List Dt → Store → R (List Dt)
  | [], acc, S => .ok acc S
  | d :: ds, acc, S => match tg d en with
    | none => .stuck
    | some e1 => (t e1 S).nx.bind fun b S1 => if b = true then (m e1 S1).nx.bind fun x S2 => if acc.length < 1000000 then cLoop tg t m en ds (acc ++ [x]) S2 else .stuck else cLoop tg t m en ds acc S1
def mYes : Env → Store → R Bool := fun _ S => .ok true S
/-- tests of a comprehension -/
def DTs (G : Gv) (X : Cx) (W : WX) (ts : List Expr) (m : Env → Store → R Bool) : Prop := ∃ t, PTs X ts t ∧ SimT G W t m
def mLc (sl : List Nat) (mi : Env → Store → R (List Dt)) (tg : Dt → Env → Option Env) (t : Env → Store → R Bool) (m : Env → Store → R Dt) : Env → Store → R Dt := fun en S => (mi en S).bind fun items S1 => (cLoop tg t m (wipeE en sl) items [] S1).bind fun ds S2 => .ok (.lst ds) S2
section
variable {G : Gv} {X : Cx} {W : WX}
theorem dts_nil : DTs G X W [] mYes := ⟨_, pts_nil, fun io H S e σ Q so re h => h io H Grow.refl so⟩
theorem dts_one {c : Expr} {m : Env → Store → R Bool} (h : DT G X W c m) : DTs G X W [c] m := let ⟨_, p, q⟩ := h; ⟨_, pts_one p, q⟩
theorem Out.nx {io : Io} {H : Hp} {α : Type} {wx wx' : Ex → Io → Hp → Prop} {post : α → Store → Io → Hp → Prop} {r : R α} (h : Out G io H wx post r.nx) : Out G io H wx' post r := by
  cases r with
  | ok a S => exact h
  | err x S => exact h.elim
  | stuck => exact h
/-- the base stays -/
theorem Out.bind0 {io : Io} {H : Hp} {α β : Type} {wx : Ex → Io → Hp → Prop} {post : β → Store → Io → Hp → Prop} {r : R α} {f : α → Store → R β} (h : Out G io H wx post (r.bind f)) :
    Out G io H wx (fun a S _ _ => Out G io H wx post (f a S)) r := by
  cases r with
  | ok a S => exact fun io' H' g s => h
  | err x S => exact h
  | stuck => exact h
theorem wipe_eq {σ σ' : L2.St} {sl own : List Nat} (hs : ∀ j ∈ sl, j ∈ own) (l : σ'.length = (wipe σ own).length) (u : ∀ j : Nat, j ∉ sl → σ'[j]? = (wipe σ own)[j]?) : wipe σ' own = wipe σ own := by
  apply List.ext_getElem?
  intro j
  rw [wipe_get, wipe_get]
  rw [wipe_length] at l
  by_cases hj : j ∈ own
  · rw [if_pos hj, if_pos hj, l]
  · rw [if_neg hj, if_neg hj, u j fun z => hj (hs j z), wipe_get, if_neg hj]
/-- one address more is let change -/
abbrev Io.hide (io : Io) (D : Addr) : Io := ⟨io.l, D :: io.h⟩
section
variable {io i1 : Io} {H H1 : Hp} {D : Addr}
theorem hide_mem {a : Addr} : a ∈ io.hide D ↔ a = D ∨ a ∈ io := by
  constructor
  · rintro (h | h)
    · exact .inr (.inl h)
    · rcases List.mem_cons.mp h with h | h
      · exact .inl h
      · exact .inr (.inr h)
  · rintro (h | h)
    · exact .inr (List.mem_cons.mpr (.inl h))
    · rcases h with h | h
      · exact .inl h
      · exact .inr (List.mem_cons.mpr (.inr h))
mutual
theorem RelD.unhide : ∀ {d : Dt} {v : V}, RelD G (io.hide D) H d v → RelD G io H d v
  | _, _, .non => .non
  | _, _, .bl b => .bl b
  | _, _, .int i => .int i
  | _, _, .str s => .str s
  | _, _, .ty n => .ty n
  | _, _, .cls h => .cls h
  | _, _, .tup h r => .tup (h.imp (fun z => ⟨z.1, fun q => z.2 (hide_mem.mpr (.inr q))⟩) id) (RelDs.unhide r)
  | _, _, .lst h n r => .lst h (fun q => n (hide_mem.mpr (.inr q))) (RelDs.unhide r)
  | _, _, .fz h r => .fz (h.imp (fun z => ⟨z.1, fun q => z.2 (hide_mem.mpr (.inr q))⟩) id) (RelDs.unhide r)
  | _, _, .ins h n c l r => .ins h (fun q => n (hide_mem.mpr (.inr q))) c l (RelDs.unhide r)
  | _, _, .dct h n l r => .dct h (fun q => n (hide_mem.mpr (.inr q))) l (RelDs.unhide r)
  | _, _, .ref h => .ref h
  | _, _, .lam h a b => .lam h ⟨a.1, fun q => a.2.1 (hide_mem.mpr (.inr q)), a.2.2⟩ ⟨b.1, fun q => b.2.1 (hide_mem.mpr (.inr q)), b.2.2⟩
theorem RelDs.unhide : ∀ {ds : List Dt} {vs : List V}, RelDs G (io.hide D) H ds vs → RelDs G io H ds vs
  | _, _, .nil => .nil
  | _, _, .cons h r => .cons (RelD.unhide h) (RelDs.unhide r)
end
theorem base_hid {o : HO} : Base (io.hide D) H (io.hide D) (upd H D o) := by
  refine ⟨fun _ _ h => h, fun b u h n _ => ⟨?_, n⟩⟩
  rw [upd_ne fun z => n (hide_mem.mpr (.inl z))]
  exact h
mutual
theorem RelD.hide (hD : H D = none) : ∀ {d : Dt} {v : V}, RelD G io H d v → RelD G (io.hide D) H d v
  | _, _, .non => .non
  | _, _, .bl b => .bl b
  | _, _, .int i => .int i
  | _, _, .str s => .str s
  | _, _, .ty n => .ty n
  | _, _, .cls h => .cls h
  | _, _, .tup h r => .tup (h.imp (fun z => ⟨z.1, fun q => (hide_mem.mp q).elim (fun e => ne_of_none z.1 hD e) z.2⟩) id) (RelDs.hide hD r)
  | _, _, .lst h n r => .lst h (fun q => (hide_mem.mp q).elim (fun e => ne_of_none h hD e) n) (RelDs.hide hD r)
  | _, _, .fz h r => .fz (h.imp (fun z => ⟨z.1, fun q => (hide_mem.mp q).elim (fun e => z.1.elim (fun k => ne_of_none k hD e) fun ⟨_, k⟩ => ne_of_none k hD e) z.2⟩) id) (RelDs.hide hD r)
  | _, _, .ins h n c l r => .ins h (fun q => (hide_mem.mp q).elim (fun e => ne_of_none h hD e) n) c l (RelDs.hide hD r)
  | _, _, .dct h n l r => .dct h (fun q => (hide_mem.mp q).elim (fun e => ne_of_none h hD e) n) l (RelDs.hide hD r)
  | _, _, .ref h => .ref h
  | _, _, .lam h a b => .lam h ⟨a.1, fun q => (hide_mem.mp q).elim (fun e => ne_of_none a.1 hD e) a.2.1, a.2.2⟩ ⟨b.1, fun q => (hide_mem.mp q).elim (fun e => ne_of_none b.1 hD e) b.2.1, b.2.2⟩
theorem RelDs.hide (hD : H D = none) : ∀ {ds : List Dt} {vs : List V}, RelDs G io H ds vs → RelDs G (io.hide D) H ds vs
  | _, _, .nil => .nil
  | _, _, .cons h r => .cons (RelD.hide hD h) (RelDs.hide hD r)
end
theorem RelO.hide (hD : H D = none) {o : Ob} {a : Addr} (r : RelO G io H o a) : RelO G (io.hide D) H o a := by
  cases r with
  | lst h k => exact .lst h (k.hide hD)
  | ins h c l k => exact .ins h c l (k.hide hD)
  | dct h l k => exact .dct h l (k.hide hD)
  | dkt h l k => exact .dkt h l (k.hide hD)
theorem RelO.unhide {o : Ob} {a : Addr} (r : RelO G (io.hide D) H o a) : RelO G io H o a := by
  cases r with
  | lst h k => exact .lst h k.unhide
  | ins h c l k => exact .ins h c l k.unhide
  | dct h l k => exact .dct h l k.unhide
  | dkt h l k => exact .dkt h l k.unhide
/-- a new list that is being made -/
theorem so_hide {S : Store} (so : StoreOk G io S H) (hD : H D = none) {o : HO} (nt : NoTx o := by exact ⟨(fun _ e => by cases e), (fun _ e => by cases e)⟩) : StoreOk G (io.hide D) S (upd H D o) := by
  have e := ExtH.new (o := o) hD
  refine ⟨so.nd, so.len, fun a ha hh => ?_, fun a ha => ?_, fun i ob a h1 h2 => ((so.ob i ob a h1 h2).hide hD).ext e, tabs_upd so.tab (pl_none hD)⟩
  · rcases List.mem_cons.mp hh with z | z
    · rw [z] at ha
      exact so.fresh hD (.inl ha)
    · exact so.dis a ha z
  · rcases List.mem_cons.mp ha with z | z
    · rw [z]
      exact ⟨o, upd_same, nt⟩
    · obtain ⟨u, q, nt⟩ := so.hid a z
      exact ⟨u, e _ _ q, nt⟩
theorem so_unhide {S : Store} (so : StoreOk G (io.hide D) S H) : StoreOk G io S H :=
  ⟨so.nd, so.len, fun a ha hh => so.dis a ha (List.mem_cons_of_mem _ hh), fun a ha => so.hid a (List.mem_cons_of_mem _ ha), fun i ob a h1 h2 => (so.ob i ob a h1 h2).unhide, so.tab⟩
/-- the hidden list grows -/
theorem so_hid {S : Store} (so : StoreOk G (io.hide D) S H) {o : HO} (hp : ∀ o, H D = some o → PlainO o := by exact pl_some (by assumption)) (nt : NoTx o := by exact ⟨(fun _ e => by cases e), (fun _ e => by cases e)⟩) : StoreOk G (io.hide D) S (upd H D o) := by
  refine ⟨so.nd, so.len, so.dis, fun a ha => ?_, fun i ob a h1 h2 => ?_, tabs_upd so.tab hp⟩
  · by_cases z : a = D
    · rw [z]
      exact ⟨o, upd_same, nt⟩
    · rw [upd_ne z]
      exact so.hid a ha
  · have na : a ≠ D := fun z => so.dis a (List.mem_of_getElem? h2) (by rw [z]; exact List.mem_cons_self)
    have q := so.ob i ob a h1 h2
    cases q with
    | lst k1 k2 => exact .lst (by rw [upd_ne na]; exact k1) (k2.monoB base_hid)
    | ins k1 c l k2 => exact .ins (by rw [upd_ne na]; exact k1) c l (k2.monoB base_hid)
    | dct k1 l k2 => exact .dct (by rw [upd_ne na]; exact k1) l (k2.monoB base_hid)
    | dkt k1 l k2 => exact .dkt (by rw [upd_ne na]; exact k1) l (k2.monoB base_hid)
theorem grow_un (g : Grow (io.hide D) H (i1.hide D) H1) : Grow io H i1 H1 := by
  obtain ⟨t, e⟩ := g.pre
  have e1 : i1.l = io.l ++ t := congrArg Io.l e
  have e2 : i1.h = io.h := (List.cons.inj (congrArg Io.h e)).2
  exact ⟨⟨t, by cases i1; simp only at e1 e2; subst e1 e2; rfl⟩, fun b o h n nt => g.keep b o h n nt, g.new⟩
end
/-- a state with a hidden list D is one of io.hide D: how the two ends fit -/
theorem io_hide {io i1 : Io} {H H1 : Hp} {D : Addr} (g : Grow (io.hide D) H i1 H1) : ∃ i2 : Io, i1 = i2.hide D := by
  obtain ⟨t, e⟩ := g.pre
  exact ⟨⟨io.l ++ t, io.h⟩, e⟩
/-- the reading of a comprehension, from the iterator on -/
theorem lc_sim {J : It} {g : TG} {tt : TT} {te : TE} {own sl : List Nat} {io : Io} {H : Hp} {S : Store} {en : Env} {σ : L2.St} {items : List Dt} {mg : Dt → Env → Option Env} {mt : Env → Store → R Bool} {m : Env → Store → R Dt} {wx : Ex → Io → Hp → Prop} {post : List Dt → Store → Io → Hp → Prop} {D : Addr}
    (hs : ∀ j ∈ sl, j ∈ own) (jo : JOk G io H J items) (so : StoreOk G io S H) (re : RelEnv G io H en σ)
    (hg : ∀ io H en σ d v (Q : L2.St → Hp → Prop), RelEnv G io H en σ → RelD G io H d v → (match mg d en with
      | some e' => ∀ σ', RelEnv G io H e' σ' → σ'.length = σ.length → (∀ j : Nat, j ∉ sl → σ'[j]? = σ[j]?) → Q σ' H
      | none => False) → g v σ H Q) (ht : SimT G W0 tt mt) (hm : SimE G W0 te m) (hD : H D = none)
    (h : Out G io H wx post (cLoop mg mt m (wipeE en own) items [] S)) (Rf : V → Hp → Prop)
    (hq : ∀ ds acc S' (io' : Io) H', Grow io H io' H' → StoreOk G (io'.hide D) S' H' → H' D = some (.lst acc) → RelDs G (io'.hide D) H' ds acc → post ds S' io' H' → Rf (.ref D) H') :
    ∃ W : Nat → Nat → Hp → Prop, (∃ m, W 0 m (upd H D (.lst []))) ∧ ∀ i m H, W i m H →
      (J.stop i H ∧ Rf (.ref D) H) ∨ (J.go i H ∧ ∃ Nx : Hp → Prop, (∀ H', Nx H' → ∃ m', m' < m ∧ W (i + 1) m' H') ∧ ∀ x H', J.yld i H x H' → g x (wipe σ own) H' fun σ2 H2 => wipe σ2 own = wipe σ own ∧ tt σ2 H2 fun b H3 =>
        if b = true then te σ2 H3 fun y H4 => ∃ acc, H4 D = some (.lst acc) ∧ acc.length < sizeLine ∧ Nx (upd H4 D (.lst (acc ++ [y]))) else Nx H3) := by
  let Wp : Nat → Nat → Hp → Prop := fun i n H' => n = items.length - i ∧ i ≤ items.length ∧ ∃ (io' : Io) (S' : Store) (dacc : List Dt) (acc : List V), Grow io H io' H' ∧ StoreOk G (io'.hide D) S' H' ∧ H' D = some (.lst acc) ∧ RelDs G (io'.hide D) H' dacc acc ∧ Out G io H wx post (cLoop mg mt m (wipeE en own) (items.drop i) dacc S')
  have gup : ∀ {i1 : Io} {H1 : Hp} {o : HO}, Grow io H i1 H1 → Grow io H i1 (upd H1 D o) := fun {i1 H1 o} g => ⟨g.pre, fun b u hb nb nt => by
    rw [upd_ne (ne_of_none hb hD)]
    exact g.keep b u hb nb nt, g.new⟩
  have base : ∀ {i1 : Io} {H1 : Hp}, Grow io H i1 H1 → Base io H (i1.hide D) H1 := fun {i1 H1} g => ⟨fun j a e => g.at e, fun b o hb nb nt => ⟨g.kp hb nb nt, fun z => (hide_mem.mp z).elim (ne_of_none hb hD) (g.notin hb nb nt)⟩⟩
  refine ⟨Wp, ⟨items.length, rfl, Nat.zero_le _, io, S, [], [], gup Grow.refl, so_hide so hD, upd_same, .nil, by simpa using h⟩, ?_⟩
  rintro i n H2 ⟨rfl, hle, i2, S2, dacc, acc, gu, s2, hD2, ra, h2⟩
  by_cases hlt : i < items.length
  · refine .inr ⟨jo.go i _ H2 (base gu) hlt, fun H' => Wp (i + 1) (items.length - (i + 1)) H', fun H' z => ⟨_, by omega, z⟩, fun x H3 hy => ?_⟩
    obtain ⟨ex, d, hd, rd⟩ := jo.yld i _ H2 x H3 (base gu) (fun _ z => s2.fresh z) hlt hy
    have g3 : Grow (i2.hide D) H2 (i2.hide D) H3 := ex.grow
    have s3 := s2.ext ex
    have edr : items.drop i = d :: items.drop (i + 1) := by
      rw [List.drop_eq_getElem_cons hlt]
      have := (List.getElem?_eq_some_iff.mp hd).2
      rw [this]
    rw [edr] at h2
    unfold cLoop at h2
    have gu3 : Grow io H i2 H3 := gu.trans (grow_un g3)
    have re3 : RelEnv G (i2.hide D) H3 en σ := ⟨re.len, fun j d e => let ⟨v, h1, h2⟩ := re.at_ j d e; ⟨v, h1, h2.monoB (base gu3)⟩⟩
    refine hg _ H3 (wipeE en own) (wipe σ own) d x _ (rel_wipe re3 own) rd ?_
    cases em : mg d (wipeE en own) with
    | none =>
      rw [em] at h2
      exact h2
    | some e1 =>
      rw [em] at h2
      intro σ2 rσ l2 u2
      refine ⟨wipe_eq hs l2 u2, ?_⟩
      -- an end wished at the base, asked with D hidden
      have lift : ∀ {α : Type} {wx : Ex → Io → Hp → Prop} {post : α → Store → Io → Hp → Prop} {r : R α} {i4 : Io} {H4 : Hp}, Grow io H i4 H4 → Out G io H wx post r.nx → Out G (i4.hide D) H4 (fun _ _ _ => False) (fun a S i5' H5 => ∀ i5 : Io, i5' = i5.hide D → Grow i4 H4 i5 H5 → post a S i5 H5) r := by
        intro α wx post r i4 H4 g4 h
        cases r with
        | ok a S =>
          intro i5' H5 g5 s5 i5 e g5'
          subst e
          exact h i5 H5 (g4.trans g5') (so_unhide s5)
        | err x S => exact h.elim
        | stuck => exact h
      refine ht _ H3 S2 e1 σ2 _ s3 rσ ((lift gu3 h2.bind0).imp (fun _ _ _ _ z => z.elim) fun b S4 i4' H4 g4 s4 k4 => ?_)
      obtain ⟨i4, rfl⟩ := io_hide g4
      have g4' := grow_un g4
      have k4 := k4 i4 rfl g4'
      have hD4 : H4 D = some (.lst acc) := g4.keep _ _ (ex _ _ hD2) fun z => s2.dis D z List.mem_cons_self
      cases b with
      | false => exact ⟨rfl, hlt, i4, S4, dacc, acc, gu3.trans g4', s4, hD4, (ra.mono g3).mono g4, k4⟩
      | true =>
        rw [if_pos rfl] at k4
        refine iteT (B := Wp (i + 1) (items.length - (i + 1)) H4) ?_
        refine hm _ H4 S4 e1 σ2 _ s4 (rσ.mono g4) ((lift (gu3.trans g4') k4.bind0).imp (fun _ _ _ _ z => z.elim) fun y S5 i5' H5 g5 s5 k5 v rv => ?_)
        obtain ⟨i5, rfl⟩ := io_hide g5
        have g5' := grow_un g5
        have k5 := k5 i5 rfl g5'
        have hD5 : H5 D = some (.lst acc) := g5.keep _ _ hD4 fun z => s4.dis D z List.mem_cons_self
        have ra5 := ((ra.mono g3).mono g4).mono g5
        split at k5
        · rename_i hl
          have la := ra.length
          exact ⟨acc, hD5, Nat.lt_of_lt_of_le (by rw [← la]; exact hl) (by decide), rfl, hlt, i5, S5, dacc ++ [y], acc ++ [v], gup ((gu3.trans g4').trans g5'), so_hid s5, upd_same, (ra5.append (.cons rv .nil)).monoB base_hid, k5⟩
        · exact k5.elim
  · have e : i = items.length := by omega
    subst e
    rw [List.drop_length] at h2
    exact .inl ⟨jo.stop _ _ H2 (base gu) (Nat.le_refl _), hq dacc acc S2 i2 H2 gu s2 hD2 ra (h2 i2 H2 gu (so_unhide s2))⟩
variable {elt tg iter : Expr} {ifs : List Expr} {scope : Scope} {own : List (Str × Nat)} {sl : List Nat} {pos : Pos} {mi : Env → Store → R (List Dt)} {mg : Dt → Env → Option Env} {mt : Env → Store → R Bool} {m : Env → Store → R Dt}
/-! the readings that a function's result gives -/
def cE (G : Gv) (W : WX) (m : Env → Store → R Dt) : TE := fun σ H Q => ∃ io S en, StoreOk G io S H ∧ RelEnv G io H en σ ∧ Out G io H (wxE G W σ) (poE G Q) (m en S)
def cT (G : Gv) (W : WX) (m : Env → Store → R Bool) : TT := fun σ H Q => ∃ io S en, StoreOk G io S H ∧ RelEnv G io H en σ ∧ Out G io H (wxE G W σ) (poT Q) (m en S)
def cGw (G : Gv) (sl : List Nat) (m : Dt → Env → Option Env) : TG := fun v σ H Q => ∃ io en d, RelEnv G io H en σ ∧ RelD G io H d v ∧ (match m d en with
    | some e' => ∀ σ', RelEnv G io H e' σ' → σ'.length = σ.length → (∀ j : Nat, j ∉ sl → σ'[j]? = σ[j]?) → Q σ' H
    | none => False)
theorem can_e {e : Expr} (h : DE G X W e m) : PE X e (cE G W m) := by
  obtain ⟨t, p, q⟩ := h
  exact ⟨fun pins s σ H Q I ⟨io, S, en, so, re, h⟩ => p.run pins s σ H Q I (q io H S en σ Q so re h)⟩
theorem can_t {ts : List Expr} (h : DTs G X W ts mt) : PTs X ts (cT G W mt) := by
  obtain ⟨t, p, q⟩ := h
  exact ⟨fun pins s σ H Q I ⟨io, S, en, so, re, h⟩ => p.run pins s σ H Q I (q io H S en σ Q so re h)⟩
theorem can_g (h : DGw G X tg sl mg) : PG X tg (cGw G sl mg) := by
  obtain ⟨t, p, q⟩ := h
  exact ⟨fun pins s σ H v u Q I r ⟨io, en, d, re, rd, h⟩ => p.run pins s σ H v u Q I r (q io H en σ d v Q re rd h)⟩
/-- [e for x in xs if t], by value -/
theorem de_lc (own : List (Str × Nat)) (hN : X.N.Nodup) (hi : DI G X W tg iter mi) (ok : BlkOk X.N X.env.scope scope own)
    (hg : ∀ (s : Shared) (H : Hp) (C : Addr) (cl : List (Str × Addr)) (fp : List Addr), DGw G (X.blk s H scope (compEnvC scope cl C X.env) fp) tg sl mg)
    (ht : ∀ (s : Shared) (H : Hp) (C : Addr) (cl : List (Str × Addr)) (fp : List Addr), DTs G (X.blk s H scope (compEnvC scope cl C X.env) fp) W0 ifs mt)
    (he : ∀ (s : Shared) (H : Hp) (C : Addr) (cl : List (Str × Addr)) (fp : List Addr), DE G (X.blk s H scope (compEnvC scope cl C X.env) fp) W0 elt m)
    (hsl : ∀ j ∈ sl, j ∈ own.map (·.2) := by decide) (hc : X.calm = true := by rfl) (hs : ∀ x, foldedSetIterable iter X.env x = pure x := by intro _; rfl) :
    DE G X W (.ListComp elt [⟨tg, iter, ifs, 0⟩] scope pos) (mLc (own.map (·.2)) mi mg mt m) := by
  obtain ⟨wi, pi, qi⟩ := hi
  refine ⟨_, pe_lc hc hN pi ok (fun s H C cl fp => can_g (hg s H C cl fp)) (fun s H C cl fp => can_t (ht s H C cl fp)) (fun s H C cl fp => can_e (he s H C cl fp)) hs, fun io H S en σ Q so re h => ?_⟩
  refine qi io H S en σ _ so re (h.bind.imp (fun _ _ _ _ z => z) fun items S1 i1 H1 g1 s1 k1 J jo => ?_)
  intro D hD
  refine lc_sim hsl jo s1 (re.mono g1) (fun io H en σ d v Q re rd h => ⟨io, en, d, re, rd, h⟩) (fun io H S e σ Q so re h => ⟨io, S, e, so, re, h⟩) (fun io H S e σ Q so re h => ⟨io, S, e, so, re, h⟩) hD k1.bind (fun v H => Q v H) ?_
  intro ds acc S' io' H' g' s' hD' rs post
  refine post io' H' Grow.refl (so_unhide s') (.ref D) (.lst hD' (fun z => ?_) rs.unhide)
  rcases z with z | z
  · exact s'.dis D z List.mem_cons_self
  · obtain ⟨t, rfl⟩ := g'.pre
    obtain ⟨u, e, _⟩ := s1.hid D z
    rw [hD] at e
    cases e
end
end Dv
set_option Elab.async false
set_option linter.all false
set_option maxRecDepth 100000
set_option maxHeartbeats 4000000
set_option autoImplicit false
namespace Dv
open PySem PySem.Spec PyProof.Rows L2
/-! ### o[i] = v of a list of the store -/
def setIx (S : Store) (x y v : Dt) : Option Store := match x, y with
  | .ref k, .int j => match S[k]? with
    | some (.lst ds) => (ixN ds.length j).map fun n => S.set k (.lst (ds.set n v))
    | _ => none
  | _, _ => none
def gSubD (mo mi : Env → Store → R Dt) : Dt → Env → Store → Option (Env × Store) := fun d en S => match mo en S with
  | .ok x S1 => match mi en S1 with
    | .ok y S2 => (setIx S2 x y d).map fun S3 => (en, S3)
    | _ => none
  | _ => none
section
variable {G : Gv} {X : Cx} {W : WX}
theorem setIx_ok {io : Io} {H : Hp} {S S' : Store} {x y d : Dt} {vx vy v : V} (so : StoreOk G io S H) (rx : RelD G io H x vx) (ry : RelD G io H y vy) (rd : RelD G io H d v) (h : setIx S x y d = some S') :
    ∃ p xs k j, vx = .ref p ∧ vy = .int k ∧ H p = some (.lst xs) ∧ ixN xs.length k = some j ∧ Grow io H io (upd H p (.lst (xs.set j v))) ∧ StoreOk G io S' (upd H p (.lst (xs.set j v))) := by
  unfold setIx at h
  split at h
  · rename_i k j
    split at h
    · rename_i ds hs
      obtain ⟨n, hn, rfl⟩ := map_some h
      cases rx with
      | ref e =>
        cases ry
        obtain ⟨a, h1, h2⟩ := so.at_ hs
        rw [e] at h1
        cases h1
        cases h2 with
        | lst h3 h4 =>
          have l := h4.length
          have g0 := (so.write (u := .lst (List.set _ n v)) e (.lst upd_same ((RelDs.set n rd h4).monoB ⟨fun _ _ z => z, fun b o hb nb _ => ⟨by
            rw [upd_ne fun z => nb (by rw [z]; exact .inl (List.mem_of_getElem? e))]
            exact hb, nb⟩⟩)))
          exact ⟨_, _, j, n, rfl, rfl, h3, by rw [← l]; exact hn, g0.1, g0.2⟩
    · cases h
  · cases h
theorem dg_sub {o i : Expr} {mo mi : Env → Store → R Dt} {pos : Pos} (ho : DE G X W0 o mo) (hi : DE G X W0 i mi)
    (ha : ∀ v, assign (.Subscript o i pos) X.env v = (do
      let ov ← holding [v] (eval o X.env)
      let iv ← holding [v, ov] (eval i X.env)
      standAt pos
      holding [v, ov, iv] (setItem ov iv v)
      release [v, ov, iv] []) := by intro _; rfl) : DG G X (.Subscript o i pos) (gSubD mo mi) := by
  obtain ⟨t, p, q⟩ := ho
  obtain ⟨t', p', q'⟩ := hi
  refine ⟨_, pg_sub p p' set_list ha, fun io H S en σ d v Q so re r h => ?_⟩
  unfold gSubD at h
  refine q io H S en σ _ so re ?_
  cases eo : mo en S with
  | stuck => simp [eo] at h
  | err x S1 => simp [eo] at h
  | ok x S1 =>
    simp only [eo] at h
    intro i1 H1 g1 s1 vx rx
    refine q' i1 H1 S1 en σ _ s1 (re.mono g1) ?_
    cases ei : mi en S1 with
    | stuck => simp [ei] at h
    | err x S1 => simp [ei] at h
    | ok y S2 =>
      simp only [ei] at h
      intro i2 H2 g2 s2 vy ry
      cases es : setIx S2 x y d with
      | none => simp [es] at h
      | some S3 =>
        simp only [es, Option.map_some] at h
        obtain ⟨p, xs, k, j, h1, h2, h3, h4, g3, s3⟩ := setIx_ok s2 (rx.mono g2) ry (r.mono (g1.trans g2)) es
        exact ⟨p, xs, k, j, h1, h2, h3, h4, h i2 _ ((g1.trans g2).trans g3) s3 σ (re.mono ((g1.trans g2).trans g3))⟩
/-! ### methods of a list of the store -/
def mApp (S : Store) (x d : Dt) : R Dt := match x with
  | .ref k => match S[k]? with
    | some (.lst ds) => if ds.length < 1000000 then .ok .non (S.set k (.lst (ds ++ [d]))) else .stuck
    | _ => .stuck
  | _ => .stuck
def isLstR (S : Store) (x : Dt) : Bool := match x with
  | .ref k => match S[k]? with
    | some (.lst _) => true
    | _ => false
  | _ => false
def mApp1 (mo me : Env → Store → R Dt) : Env → Store → R Dt := fun en S => (mo en S).bind fun x S1 => if isLstR S1 x = true then (me en S1).bind fun d S2 => mApp S2 x d else .stuck
variable {o e : Expr} {mo me : Env → Store → R Dt} {apos cpos : Pos}
theorem isLstR_ok {io : Io} {H : Hp} {S : Store} {x : Dt} {v : V} (so : StoreOk G io S H) (r : RelD G io H x v) (h : isLstR S x = true) : ∃ k ds p xs, x = .ref k ∧ S[k]? = some (.lst ds) ∧ io.l[k]? = some p ∧ v = .ref p ∧ H p = some (.lst xs) ∧ RelDs G io H ds xs := by
  unfold isLstR at h
  split at h
  · rename_i k
    split at h
    · rename_i ds hs
      cases r with
      | ref e =>
        obtain ⟨a, h1, h2⟩ := so.at_ hs
        rw [e] at h1
        cases h1
        cases h2 with
        | lst h3 h4 => exact ⟨k, ds, _, _, rfl, hs, e, rfl, h3, h4⟩
    · cases h
  · cases h
theorem so_wr {io : Io} {H : Hp} {S : Store} {k : Nat} {p : Addr} {ds : List Dt} {xs : List V} (so : StoreOk G io S H) (hp : io.l[k]? = some p) (r : RelDs G io H ds xs) :
    Grow io H io (upd H p (.lst xs)) ∧ StoreOk G io (S.set k (.lst ds)) (upd H p (.lst xs)) :=
  so.write (u := .lst xs) hp (.lst upd_same (r.monoB ⟨fun _ _ z => z, fun b o hb nb _ => ⟨by
    rw [upd_ne fun z => nb (by rw [z]; exact .inl (List.mem_of_getElem? hp))]
    exact hb, nb⟩⟩))
/-- xs.append(e); the receiver is looked at ahead of the argument -/
theorem de_append (ho : DE G X W o mo) (he : DE G X W e me) (hK : X.K = G.K := by rfl)
    (hbase : attributeBase o "append" X.env (eval o X.env) = eval o X.env := by rfl)
    (hfew : ((backTo cpos (starEach [e] X.env)).all (fun x => !x.1) && (backToKw cpos (keywordEach [] X.env)).all (fun x => x.1.isSome)
      && decide ([e].length + ([] : List Keyword).length + (if ([] : List Keyword).isEmpty then 0 else 1) < 30)) = true := by rfl)
    (hline : (apos.endLine == cpos.line) = true := by rfl) (hs : starEach [e] X.env = (false, eval e X.env) :: starEach [] X.env := by rfl) :
    DE G X W (.Call (.Attribute o "append" apos) [e] [] cpos) (mApp1 mo me) := by
  obtain ⟨t, p, q⟩ := ho
  obtain ⟨t', p', q'⟩ := he
  refine ⟨_, pe_bm PySem.F.plainAttrs_list PySem.F.slot_list_append PySem.F.type_list_append mt_append p (pa_cons p' pa_nil hs) hbase hfew hline hs rfl, fun io H S en σ Q so re h => ?_⟩
  refine q io H S en σ _ so re (h.bind.imp (fun _ _ _ _ z => z) fun x S1 i1 H1 g1 s1 k1 v r => ?_)
  split at k1
  · rename_i hl
    obtain ⟨k, ds, a, xs, rfl, hS, ha, rfl, hH, rs⟩ := isLstR_ok s1 r hl
    refine ⟨.inl ⟨rfl, xs, .inl (.inl hH)⟩, ?_⟩
    refine q' i1 H1 S1 en σ _ s1 (re.mono g1) (k1.bind.imp (fun _ _ _ _ z => z) fun d S2 i2 H2 g2 s2 k2 vd rd => ?_)
    unfold mApp at k2
    dsimp only at k2
    split at k2
    · rename_i ds2 hS2
      split at k2
      · rename_i hlen
        have e2 := g2.at ha
        obtain ⟨a', h1, h2⟩ := s2.at_ hS2
        rw [e2] at h1
        cases h1
        cases h2 with
        | lst h3 h4 =>
          have l := h4.length
          obtain ⟨g3, s3⟩ := so_wr (ds := ds2 ++ [d]) s2 e2 (h4.append (.cons rd .nil))
          exact ⟨a, _, vd, rfl, rfl, h3, Nat.lt_of_lt_of_le (by rw [← l]; exact hlen) (by decide), k2 i2 _ g3 s3 _ .non⟩
      · exact k2.elim
    · exact k2.elim
  · exact k1.elim
/-- xs.pop() -/
def mPop (mo : Env → Store → R Dt) : Env → Store → R Dt := fun en S => (mo en S).bind fun x S1 => match x with
  | .ref k => match S1[k]? with
    | some (.lst ds) => match ds.getLast? with
      | some d => .ok d (S1.set k (.lst ds.dropLast))
      | none => .stuck
    | _ => .stuck
  | _ => .stuck
theorem rel_dropLast {io : Io} {H : Hp} {ds : List Dt} {vs : List V} (r : RelDs G io H ds vs) : RelDs G io H ds.dropLast vs.dropLast := by
  rw [List.dropLast_eq_take, List.dropLast_eq_take, ← r.length]
  exact r.take _
theorem de_pop (ho : DE G X W o mo) (hK : X.K = G.K := by rfl)
    (hbase : attributeBase o "pop" X.env (eval o X.env) = eval o X.env := by rfl) (hline : (apos.endLine == cpos.line) = true := by rfl) :
    DE G X W (.Call (.Attribute o "pop" apos) [] [] cpos) (mPop mo) := by
  obtain ⟨t, p, q⟩ := ho
  refine ⟨_, pe_bm0 PySem.F.plainAttrs_list PySem.F.slot_list_pop PySem.F.type_list_pop mt_pop p hbase hline, fun io H S en σ Q so re h => ?_⟩
  refine q io H S en σ _ so re (h.bind.imp (fun _ _ _ _ z => z) fun x S1 i1 H1 g1 s1 k1 v r => ?_)
  split at k1
  · rename_i k
    split at k1
    · rename_i ds hS
      split at k1
      · rename_i d hd
        obtain ⟨k', ds', a, xs, e0, hS', ha, rfl, hH, rs⟩ := isLstR_ok s1 r (by unfold isLstR; simp only [hS])
        cases e0
        rw [hS] at hS'
        cases hS'
        obtain ⟨g3, s3⟩ := so_wr s1 ha (rel_dropLast rs)
        have l := rs.length
        rw [List.getLast?_eq_getElem?] at hd
        obtain ⟨y, h1, h2⟩ := rs.get hd
        exact ⟨.inl ⟨rfl, xs, .inl (.inl hH)⟩, a, xs, y, rfl, rfl, hH, by rw [← l]; exact h1, k1 i1 _ g3 s3 _ (h2.mono g3)⟩
      · exact k1.elim
    · exact k1.elim
  · exact k1.elim
/-- x += e, x -= e: ints, texts -/
def mAug (i : Nat) (m : Dt → Dt → Store → R Dt) (me : Env → Store → R Dt) : Env → Store → RS := fun en S => match en[i]? with
  | some (some x) => (me en S).toS en fun y S1 => (m x y S1).toS en fun z S2 => .ok .nx (en.set i (some z)) S2
  | _ => .stuck
def mIAdd (x y : Dt) (S : Store) : R Dt := match x, y with
  | .int i, .int j => .ok (.int (i + j)) S
  | .str a, .str b => if a.length + b.length ≤ 100000 then .ok (.str (a ++ b)) S else .stuck
  | _, _ => .stuck
theorem do_iadd : DO G X (inplaceOp .Add) mIAdd := by
  refine ⟨_, (iop_add (X := X)).or iop_add_str, ?_, ?_⟩
  · intro io H S x y dx dy Q so rx ry h
    unfold mIAdd at h
    split at h
    · cases rx
      cases ry
      exact .inl ⟨_, _, rfl, rfl, h io H Grow.refl so _ (.int _)⟩
    · rename_i a b
      cases rx
      cases ry
      by_cases hl : a.length + b.length ≤ 100000
      · rw [if_pos hl] at h
        exact .inr ⟨_, _, rfl, rfl, small6 (by omega), h io H Grow.refl so _ (.str _)⟩
      · rw [if_neg hl] at h
        exact h.elim
    · exact h.elim
  · intro x y S
    unfold mIAdd
    repeat' split
    all_goals trivial
theorem ds_aug {i : Nat} {x : Str} {op : Operator} {m : Dt → Dt → Store → R Dt} {pos pos' : Pos} (hN : X.N.Nodup) (hop : DO G X (inplaceOp op) m) (he : DE G X W e me) (hi : X.N[i]? = some x := by rfl) (hx : Loc X.env.scope x := by first | exact Or.inl rfl | exact Or.inr rfl) (hf : X.fn x = true ∨ X.env.scope.names.lookup x = some .local := by first | exact .inl rfl | exact .inr rfl | assumption) :
    DS G X W (.AugAssign (.Name x pos') op e pos) (mAug i m me) := by
  obtain ⟨r, po, qo, no⟩ := hop
  obtain ⟨t, p, q⟩ := he
  refine ⟨_, ps_aug hN hi hx p (ti := fun x y H Q => r x y H Q) (fun pins s σ H x y v u Q I rx ry h => po pins s σ H x y v u Q I rx ry h) hf, fun io H S en σ D so re h => ?_⟩
  unfold mAug at h
  split at h
  · rename_i d hd
    obtain ⟨v, h1, h2⟩ := re.at_ i d hd
    refine ⟨v, h1, q io H S en σ _ so re (h.bind.imp (wx_of re) fun y S1 i1 H1 g1 s1 k1 vy ry => ?_)⟩
    refine qo i1 H1 S1 v vy d y _ s1 (h2.mono g1) ry ((k1.bind.noErr (no _ _ _)).imp (fun _ _ _ _ z => z) fun z S2 i2 H2 g2 s2 k2 vz rz => ?_)
    exact k2 i2 H2 Grow.refl s2 _ ((re.mono (g1.trans g2)).set rz)
  · exact h.elim
end
end Dv
set_option Elab.async false
set_option linter.all false
set_option maxRecDepth 100000
set_option maxHeartbeats 4000000
set_option autoImplicit false
namespace Dv
open PySem PySem.Spec PyProof.Rows L2
section
variable {G : Gv} {X : Cx} {W : WX}
theorem de_gintE {x : Str} {i : Int} {pos : Pos} (hg : Gl X x) (hm : ∃ t, X.mg x = some (.int i t)) (hd : (x == ("__debug__" : Str)) = false := by decide) : DE G X W (.Name x pos) (mC (.int i)) := by
  obtain ⟨t, hm⟩ := hm
  exact de_gint hg hm hd
theorem de_gstrE {x : Str} {i : Str} {pos : Pos} (hg : Gl X x) (hm : ∃ t, X.mg x = some (.str i t)) (hd : (x == ("__debug__" : Str)) = false := by decide) : DE G X W (.Name x pos) (mC (.str i)) := by
  obtain ⟨t, hm⟩ := hm
  exact de_gstr hg hm hd
end
section
variable {P : Program} {w : World} {K : PySem.W.Frag} {mg : Str → Option Value} {base : Heap} {G : Gv}
theorem fn_stuck {k np : Nat} {f : Addr} {fd : FuncData} {ps : List Str} : FnOk P w K mg base (L2.CX P w) k f fd ps (spF G np fun _ _ => .stuck) :=
  ⟨fun vs H Q E ⟨_, _, _, _, _, _, h⟩ => h.elim, fun A outer s H args us vs Q E hr e0 hb rv ⟨_, _, _, _, _, _, h⟩ => h.elim⟩
def spLaw (K : PySem.W.Frag) (T : List (Addr × Str)) : Sp := fun vs H Q _ => ∃ (a : Addr) (ns : List Int), vs = [.ref a] ∧ SqL K H a (ns.map V.int) ∧ ns.length ≤ 63 ∧ LamX.Tabs T H ∧ ∀ H', Q (.bl true) H'
theorem rel_ints {io : Io} {H : Hp} : ∀ ns : List Int, RelDs G io H (ns.map Dt.int) (ns.map V.int)
  | [] => .nil
  | n :: ns => .cons (.int n) (rel_ints ns)
/-- the law's promise from what its function gives -/
theorem law_sp {k : Nat} {f : Addr} {fd : FuncData} {ps : List Str} {m : Fn} (hG : G.K = K) (F : FnOk P w K mg base (L2.CX P w) k f fd ps (spF G 1 m)) (h : ∀ ns : List Int, ns.length ≤ 63 → ∃ S, m [.fz (ns.map Dt.int)] [] = .ok (.bl true) S) :
    FnOk P w K mg base (L2.CX P w) k f fd ps (spLaw K G.T) := F.imp fun vs H Q E ⟨a, ns, e, hS, hl, hT, q⟩ => by
  subst e
  obtain ⟨S, hm⟩ := h ns hl
  refine ⟨⟨[], []⟩, [], [.fz (ns.map Dt.int)], ⟨List.nodup_nil, rfl, (fun _ h => by cases h), (fun _ h => by cases h), (fun i o a h => by simp at h), hT⟩, .cons (.fz ?_ (rel_ints ns)) .nil, rfl, ?_⟩
  · rw [hG]
    rcases hS with h | h
    · exact .inl ⟨h, fun z => by rcases z with z | z <;> cases z⟩
    · exact .inr h
  · rw [hm]
    intro io' H' g s v r
    cases r
    exact q H'
end
/-- a body -/
abbrev Bd := Env → Store → RS
end Dv
set_option Elab.async false
set_option linter.all false
set_option maxRecDepth 100000
set_option maxHeartbeats 4000000
set_option autoImplicit false
/-! what a function comes to, step by step: Q of a value and a store, X of an error -/
namespace Dv
open PySem L2
def Pe {α : Type} (r : R α) (Q : α → Store → Prop) (X : Ex → Store → Prop) : Prop := match r with
  | .ok a S => Q a S
  | .err x S => X x S
  | .stuck => False
def Ps (r : RS) (Q : Fl → Env → Store → Prop) (X : Ex → Env → Store → Prop) : Prop := match r with
  | .ok f e S => Q f e S
  | .err x e S => X x e S
  | .stuck => False
abbrev X0 : Ex → Store → Prop := fun _ _ => False
theorem Pe.eq {α : Type} {r : R α} {a : α} {S : Store} (h : Pe r (fun b T => b = a ∧ T = S) X0) : r = .ok a S := by
  cases r with
  | ok b T => obtain ⟨rfl, rfl⟩ := h; rfl
  | err x T => exact h.elim
  | stuck => exact h.elim
theorem Pe.of {α : Type} {r : R α} {a : α} {S : Store} {Q : α → Store → Prop} {X : Ex → Store → Prop} (e : r = .ok a S) (h : Q a S) : Pe r Q X := by
  rw [e]
  exact h
theorem Pe.imp {α : Type} {r : R α} {Q Q' : α → Store → Prop} {X X' : Ex → Store → Prop} (h : Pe r Q X) (hq : ∀ a S, Q a S → Q' a S) (hx : ∀ x S, X x S → X' x S) : Pe r Q' X' := by
  cases r with
  | ok b T => exact hq _ _ h
  | err x T => exact hx _ _ h
  | stuck => exact h.elim
theorem Pe.ex {α : Type} {r : R α} {Q : α → Store → Prop} (h : Pe r Q X0) : ∃ a S, r = .ok a S ∧ Q a S := by
  cases r with
  | ok b T => exact ⟨b, T, rfl, h⟩
  | err x T => exact h.elim
  | stuck => exact h.elim
theorem Pe.bind {α β : Type} {r : R α} {f : α → Store → R β} {Q : β → Store → Prop} {X : Ex → Store → Prop} (h : Pe r (fun a S => Pe (f a S) Q X) X) : Pe (r.bind f) Q X := by cases r <;> exact h
theorem Pe.toS {α : Type} {r : R α} {e : Env} {f : α → Store → RS} {Q : Fl → Env → Store → Prop} {X : Ex → Env → Store → Prop} (h : Pe r (fun a S => Ps (f a S) Q X) (fun x S => X x e S)) : Ps (r.toS e f) Q X := by cases r <;> exact h
theorem v_ok {α : Type} {a : α} {S : Store} {Q : α → Store → Prop} {X : Ex → Store → Prop} (h : Q a S) : Pe (.ok a S) Q X := h
theorem v_ifok {α : Type} {c : Prop} [Decidable c] {a : α} {S : Store} {Q : α → Store → Prop} {X : Ex → Store → Prop} (hc : c) (h : Q a S) : Pe (if c then R.ok a S else .stuck) Q X := by
  rw [if_pos hc]
  exact h
section
variable {en : Env} {S : Store} {Q : Dt → Store → Prop} {QA : List Dt → Store → Prop} {QB : Bool → Store → Prop} {X : Ex → Store → Prop} {QS : Fl → Env → Store → Prop} {XS : Ex → Env → Store → Prop} {ma mb mc me : Env → Store → R Dt} {ta tb : Env → Store → R Bool} {ms : Env → Store → R (List Dt)} {ba bb : Env → Store → RS}
theorem v_var {i : Nat} {d : Dt} (h : en[i]? = some (some d)) (q : Q d S) : Pe (mVar i en S) Q X := by
  unfold mVar
  rw [h]
  exact q
theorem v_c {d : Dt} (q : Q d S) : Pe (mC d en S) Q X := q
theorem v_nil (q : QA [] S) : Pe (mNil en S) QA X := q
theorem v_cons (h : Pe (ma en S) (fun d S1 => Pe (ms en S1) (fun ds S2 => QA (d :: ds) S2) X) X) : Pe (mCons ma ms en S) QA X := by
  refine Pe.bind (h.imp (fun d S1 k => ?_) fun _ _ z => z)
  exact Pe.bind k
theorem v_op {m : Dt → Dt → Store → R Dt} (h : Pe (ma en S) (fun x S1 => Pe (mb en S1) (fun y S2 => Pe (m x y S2) Q X) X) X) : Pe (mOp m ma mb en S) Q X :=
  Pe.bind (h.imp (fun _ _ k => Pe.bind k) fun _ _ z => z)
theorem v_B (h : Pe (ma en S) (fun d S1 => ∃ b, d = .bl b ∧ QB b S1) X) : Pe (mB ma en S) QB X := by
  refine Pe.bind (h.imp (fun d S1 ⟨b, e, k⟩ => ?_) fun _ _ z => z)
  subst e
  exact k
theorem v_truth (h : Pe (ma en S) (fun d S1 => ∃ b, tru S1 d = some b ∧ QB b S1) X) : Pe (mTruth ma en S) QB X := by
  refine Pe.bind (h.imp (fun d S1 ⟨b, e, k⟩ => ?_) fun _ _ z => z)
  rw [e]
  exact k
theorem v_andT (h : Pe (ta en S) (fun b S1 => if b = true then Pe (tb en S1) QB X else QB false S1) X) : Pe (mAndT ta tb en S) QB X := by
  refine Pe.bind (h.imp (fun b S1 k => ?_) fun _ _ z => z)
  cases b with
  | true => exact k
  | false => exact k
theorem v_orT (h : Pe (ta en S) (fun b S1 => if b = true then QB true S1 else Pe (tb en S1) QB X) X) : Pe (mOrT ta tb en S) QB X := by
  refine Pe.bind (h.imp (fun b S1 k => ?_) fun _ _ z => z)
  cases b with
  | true => exact k
  | false => exact k
theorem v_notT (h : Pe (ta en S) (fun b S1 => QB (!b) S1) X) : Pe (mNotT ta en S) QB X := Pe.bind h
theorem v_andV (h : Pe (ma en S) (fun d S1 => ∃ b, tru S1 d = some b ∧ if b = true then Pe (mb en S1) Q X else Q d S1) X) : Pe (mAndV ma mb en S) Q X := by
  refine Pe.bind (h.imp (fun d S1 ⟨b, e, k⟩ => ?_) fun _ _ z => z)
  cases b with
  | true => rw [e]; exact k
  | false => rw [e]; exact k
theorem v_orV (h : Pe (ma en S) (fun d S1 => ∃ b, tru S1 d = some b ∧ if b = true then Q d S1 else Pe (mb en S1) Q X) X) : Pe (mOrV ma mb en S) Q X := by
  refine Pe.bind (h.imp (fun d S1 ⟨b, e, k⟩ => ?_) fun _ _ z => z)
  cases b with
  | true => rw [e]; exact k
  | false => rw [e]; exact k
theorem v_notV (h : Pe (ma en S) (fun d S1 => ∃ b, tru S1 d = some b ∧ Q (.bl (!b)) S1) X) : Pe (mNotV ma en S) Q X := by
  refine Pe.bind (h.imp (fun d S1 ⟨b, e, k⟩ => ?_) fun _ _ z => z)
  rw [e]
  exact k
theorem v_if (h : Pe (ta en S) (fun b S1 => if b = true then Pe (ma en S1) Q X else Pe (mb en S1) Q X) X) : Pe (mIf ta ma mb en S) Q X := by
  refine Pe.bind (h.imp (fun b S1 k => ?_) fun _ _ z => z)
  cases b with
  | true => exact k
  | false => exact k
theorem v_neg (h : Pe (ma en S) (fun d S1 => ∃ i, d = .int i ∧ Q (.int (-i)) S1) X) : Pe (mNeg ma en S) Q X := by
  refine Pe.bind (h.imp (fun d S1 ⟨b, e, k⟩ => ?_) fun _ _ z => z)
  subst e
  exact k
theorem v_chain {m m' : Dt → Dt → Store → R Dt} (h : Pe (ma en S) (fun x S1 => Pe (mb en S1) (fun y S2 => Pe (m x y S2) (fun z S3 => ∃ b, z = .bl b ∧ if b = true then Pe (mc en S3) (fun w S4 => Pe (m' y w S4) Q X) X else Q (.bl false) S3) X) X) X) : Pe (mChain m m' ma mb mc en S) Q X := by
  refine Pe.bind (h.imp (fun d S1 k => Pe.bind (k.imp (fun d' S2 k => Pe.bind (k.imp (fun d2 S3 ⟨b, e, k⟩ => ?_) fun _ _ z => z)) fun _ _ z => z)) fun _ _ z => z)
  subst e
  cases b with
  | true => exact Pe.bind k
  | false => exact k
theorem v_tup (h : Pe (ms en S) (fun ds S1 => ds.length ≤ 1000 ∧ Q (.tup ds) S1) X) : Pe (mTup ms en S) Q X := by
  refine Pe.bind (h.imp (fun d S1 ⟨e, k⟩ => ?_) fun _ _ z => z)
  rw [if_pos e]
  exact k
theorem v_lst (h : Pe (ms en S) (fun ds S1 => ds.length ≤ 1000 ∧ Q (.lst ds) S1) X) : Pe (mLst ms en S) Q X := by
  refine Pe.bind (h.imp (fun d S1 ⟨e, k⟩ => ?_) fun _ _ z => z)
  rw [if_pos e]
  exact k
theorem v_lstR (h : Pe (ms en S) (fun ds S1 => ds.length ≤ 1000 ∧ Q (.ref S1.length) (S1 ++ [.lst ds])) X) : Pe (mLstR ms en S) Q X := by
  refine Pe.bind (h.imp (fun d S1 ⟨e, k⟩ => ?_) fun _ _ z => z)
  rw [if_pos e]
  exact k
theorem v_ix {x d : Dt} {i : Int} (e : ixD S x i = some d) (q : Q d S) : Pe (mIx x (.int i) S) Q X := by
  unfold mIx
  dsimp only
  rw [e]
  exact q
theorem v_noPart {QO : Option Int → Store → Prop} (q : QO none S) : Pe (mNoPart en S) QO X := q
theorem v_part {QO : Option Int → Store → Prop} (h : Pe (ma en S) (fun d S1 => ∃ i, d = .int i ∧ QO (some i) S1) X) : Pe (mPart ma en S) QO X := by
  refine Pe.bind (h.imp (fun d S1 ⟨b, e, k⟩ => ?_) fun _ _ z => z)
  subst e
  exact k
theorem v_sl {ml mh : Env → Store → R (Option Int)} (h : Pe (ma en S) (fun x S1 => Pe (ml en S1) (fun l S2 => Pe (mh en S2) (fun u S3 => ∃ d, slD S3 x l u = some d ∧ Q d S3) X) X) X) : Pe (mSl ma ml mh en S) Q X := by
  refine Pe.bind (h.imp (fun d S1 k => Pe.bind (k.imp (fun d' S2 k => Pe.bind (k.imp (fun d2 S3 ⟨b, e, k⟩ => ?_) fun _ _ z => z)) fun _ _ z => z)) fun _ _ z => z)
  rw [e]
  exact k
theorem v_CB {m : List Dt → Store → R Dt} (h : Pe (ms en S) (fun ds S1 => Pe (m ds S1) Q X) X) : Pe (mCB m ms en S) Q X := Pe.bind h
theorem v_call {np : Nat} {m : Fn} (h : Pe (ms en S) (fun ds S1 => ds.length = np ∧ Pe (m ds S1) Q X) X) : Pe (mCall np m ms en S) Q X := by
  refine Pe.bind (h.imp (fun d S1 ⟨e, k⟩ => ?_) fun _ _ z => z)
  rw [if_pos e]
  exact k
theorem v_abs {i : Int} (q : Q (.int (if i < 0 then -i else i)) S) : Pe (mAbs [.int i] S) Q X := q
theorem v_len {d : Dt} {n : Nat} (e : lenD S d = some n) (q : Q (.int n) S) : Pe (mLen [d] S) Q X := by
  unfold mLen
  dsimp only
  rw [e]
  exact q
theorem v_list {d : Dt} {ds : List Dt} (e : asS S d = some ds) (q : Q (.lst ds) S) : Pe (mList [d] S) Q X := by
  unfold mList
  dsimp only
  rw [e]
  exact q
theorem v_listR {d : Dt} {ds : List Dt} (e : asS S d = some ds) (q : Q (.ref S.length) (S ++ [.lst ds])) : Pe (mListR [d] S) Q X := by
  unfold mListR
  dsimp only
  rw [e]
  exact q
theorem v_tuple {d : Dt} {ds : List Dt} (e : asS S d = some ds) (q : Q (.tup ds) S) : Pe (mTuple [d] S) Q X := by
  unfold mTuple
  dsimp only
  rw [e]
  exact q
/-! statements -/
theorem v_seq (h : Ps (ba en S) (fun f e1 S1 => match f with | .nx => Ps (bb e1 S1) QS XS | f => QS f e1 S1) XS) : Ps (mSeq ba bb en S) QS XS := by
  unfold mSeq
  cases e : ba en S with
  | ok f e1 S1 =>
    rw [e] at h
    cases f <;> exact h
  | err x e1 S1 => rw [e] at h; exact h
  | stuck => rw [e] at h; exact h
theorem v_set {i : Nat} (h : Pe (me en S) (fun d S1 => QS .nx (en.set i (some d)) S1) (fun x S1 => XS x en S1)) : Ps (mSet i me en S) QS XS := Pe.toS h
theorem v_asg {g : Dt → Env → Store → Option (Env × Store)} (h : Pe (me en S) (fun d S1 => ∃ e' S', g d en S1 = some (e', S') ∧ QS .nx e' S') (fun x S1 => XS x en S1)) : Ps (mAsg g me en S) QS XS := by
  refine Pe.toS (h.imp (fun d S1 ⟨e', S', e, k⟩ => ?_) fun _ _ z => z)
  rw [e]
  exact k
theorem v_par {i j : Nat} (h : Pe (ms en S) (fun ds S1 => ∃ d d', ds = [d, d'] ∧ QS .nx ((en.set i (some d)).set j (some d')) S1) (fun x S1 => XS x en S1)) : Ps (mPar i j ms en S) QS XS := by
  refine Pe.toS (h.imp (fun d S1 ⟨e', S', e, k⟩ => ?_) fun _ _ z => z)
  subst e
  exact k
theorem v_drop (h : Pe (me en S) (fun _ S1 => QS .nx en S1) (fun x S1 => XS x en S1)) : Ps (mDrop me en S) QS XS := Pe.toS h
theorem v_ret (h : Pe (me en S) (fun d S1 => QS (.rt d) en S1) (fun x S1 => XS x en S1)) : Ps (mRet me en S) QS XS := Pe.toS h
theorem v_ifS (h : Pe (ta en S) (fun t S1 => if t = true then Ps (ba en S1) QS XS else Ps (bb en S1) QS XS) (fun x S1 => XS x en S1)) : Ps (mIfS ta ba bb en S) QS XS := by
  refine Pe.toS (h.imp (fun t S1 k => ?_) fun _ _ z => z)
  cases t with
  | true => exact k
  | false => exact k
theorem v_nx (q : QS .nx en S) : Ps (mNx en S) QS XS := q
theorem v_bk (q : QS .bk en S) : Ps (mBk en S) QS XS := q
theorem v_ct (q : QS .ct en S) : Ps (mCt en S) QS XS := q
theorem v_retN (q : QS (.rt .non) en S) : Ps (mRetN en S) QS XS := q
theorem v_for {mi : Env → Store → R (List Dt)} {g : Dt → Env → Store → Option (Env × Store)} (h : Pe (mi en S) (fun items S1 => Ps (fLoop g ba items en S1) QS XS) (fun x S1 => XS x en S1)) : Ps (mFor mi g ba en S) QS XS := Pe.toS h
/-- a for by its invariant over what is left -/
theorem v_loop {g : Dt → Env → Store → Option (Env × Store)} {items : List Dt} (I : List Dt → Env → Store → Prop) (h0 : I items en S)
    (hs : ∀ d ds en S, I (d :: ds) en S → ∃ e1 S1, g d en S = some (e1, S1) ∧ Ps (ba e1 S1) (fun f e2 S2 => match f with | .nx => I ds e2 S2 | .ct => I ds e2 S2 | .bk => QS .nx e2 S2 | .rt d => QS (.rt d) e2 S2) XS)
    (hd : ∀ en S, I [] en S → QS .nx en S) : Ps (fLoop g ba items en S) QS XS := by
  induction items generalizing en S with
  | nil => exact hd en S h0
  | cons d ds ih =>
    obtain ⟨e1, S1, e, k⟩ := hs d ds en S h0
    unfold fLoop
    rw [e]
    dsimp only
    cases eb : ba e1 S1 with
    | stuck => rw [eb] at k; exact k
    | err x e2 S2 => rw [eb] at k; exact k
    | ok f e2 S2 =>
      rw [eb] at k
      cases f with
      | nx => exact ih k
      | ct => exact ih k
      | bk => exact k
      | rt d => exact k
/-- a while by its invariant; n bounds the turns left -/
theorem v_while {f : Env → Store → Nat} (I : Nat → Env → Store → Prop) (h0 : I (f en S) en S)
    (hs : ∀ n en S, I n en S → ∃ k, n = k + 1 ∧ Pe (ta en S) (fun t S1 => if t = true then Ps (ba en S1) (fun f e2 S2 => match f with | .nx => I k e2 S2 | .ct => I k e2 S2 | .bk => QS .nx e2 S2 | .rt d => QS (.rt d) e2 S2) XS else QS .nx en S1) (fun x S1 => XS x en S1)) : Ps (mWhile f ta ba en S) QS XS := by
  unfold mWhile
  generalize f en S = n at h0
  induction n generalizing en S with
  | zero =>
    obtain ⟨k, e, _⟩ := hs 0 en S h0
    omega
  | succ n ih =>
    obtain ⟨k, e, p⟩ := hs _ en S h0
    have e : n = k := by omega
    subst e
    unfold wLoop
    refine Pe.toS (p.imp (fun t S1 q => ?_) fun _ _ z => z)
    cases t with
    | false => exact q
    | true =>
      rw [if_pos rfl] at q ⊢
      cases eb : ba en S1 with
      | stuck => rw [eb] at q; exact q
      | err x e2 S2 => rw [eb] at q; exact q
      | ok f e2 S2 =>
        rw [eb] at q
        cases f with
        | nx => exact ih q
        | ct => exact ih q
        | bk => exact q
        | rt d => exact q
/-- a def -/
theorem v_fn {nl : Nat} {keep : Bool} {ds : List Dt} (h : Ps (ba (ds.map some ++ List.replicate (nl - ds.length) none) S) (fun f _ S' => match f with
    | .rt d => Pe (fin keep S.length d S') Q X
    | .nx => Pe (fin keep S.length .non S') Q X
    | _ => False) (fun x _ S' => Pe (finX keep S.length x S') Q X)) : Pe (fnRun nl keep ba ds S) Q X := by
  unfold fnRun
  cases e : ba (ds.map some ++ List.replicate (nl - ds.length) none) S with
  | stuck => rw [e] at h; exact h
  | err x e1 S1 => rw [e] at h; exact h
  | ok f e1 S1 =>
    rw [e] at h
    cases f with
    | nx => exact h
    | rt d => exact h
    | bk => exact h
    | ct => exact h
theorem v_fin {keep : Bool} {n : Nat} {d : Dt} (hc : keep = true ∨ S.length = n) (q : Q d S) : Pe (fin keep n d S) Q X := by
  unfold fin
  rw [if_pos hc]
  exact q
/-! comprehensions -/
theorem v_lc {sl : List Nat} {mi : Env → Store → R (List Dt)} {g : Dt → Env → Option Env} (h : Pe (mi en S) (fun items S1 => Pe (cLoop g ta me (wipeE en sl) items [] S1) (fun ds S2 => Q (.lst ds) S2) X) X) : Pe (mLc sl mi g ta me en S) Q X :=
  Pe.bind (h.imp (fun _ _ k => Pe.bind (k.imp (fun _ _ q => q) fun _ _ z => z)) fun _ _ z => z)
theorem Pe.nx {α : Type} {r : R α} {Q : α → Store → Prop} (h : Pe r Q X0) : Pe r.nx Q X := by
  cases r with
  | ok a S => exact h
  | err x S => exact h.elim
  | stuck => exact h.elim
/-- a comprehension that keeps the store: each item gives its value, or is left out -/
theorem v_cloop {g : Dt → Env → Option Env} {items : List Dt} {acc : List Dt} (f : Dt → Option Dt)
    (hs : ∀ d ∈ items, ∃ e1, g d en = some e1 ∧ Pe (ta e1 S) (fun b S1 => S1 = S ∧ if b = true then Pe (me e1 S) (fun x S2 => S2 = S ∧ f d = some x) X0 else f d = none) X0)
    (hl : acc.length + items.length ≤ 1000000) (q : QA (acc ++ items.filterMap f) S) : Pe (cLoop g ta me en items acc S) QA X := by
  induction items generalizing acc with
  | nil =>
    rw [List.filterMap_nil, List.append_nil] at q
    exact q
  | cons d ds ih =>
    obtain ⟨e1, e, p⟩ := hs d List.mem_cons_self
    unfold cLoop
    rw [e]
    dsimp only
    rw [List.length_cons] at hl
    refine Pe.bind (Pe.nx (p.imp (fun b S1 ⟨eS, k⟩ => ?_) fun _ _ z => z))
    subst eS
    cases b with
    | false =>
      rw [if_neg Bool.false_ne_true] at k ⊢
      rw [List.filterMap_cons, k] at q
      exact ih (fun x hx => hs x (List.mem_cons_of_mem _ hx)) (by omega) q
    | true =>
      rw [if_pos rfl] at k ⊢
      refine Pe.bind (Pe.nx (k.imp (fun x S2 ⟨eS2, k2⟩ => ?_) fun _ _ z => z))
      subst eS2
      rw [if_pos (by omega)]
      rw [List.filterMap_cons, k2] at q
      refine ih (fun x hx => hs x (List.mem_cons_of_mem _ hx)) (by rw [List.length_append, List.length_singleton]; omega) ?_
      rw [List.append_assoc]
      exact q
theorem v_yes (q : QB true S) : Pe (mYes en S) QB X := q
theorem v_it {d : Dt} {ds : List Dt} (h : Pe (me en S) (fun d S1 => ∃ ds, itemsD d = some ds ∧ QA ds S1) X) : Pe (mIt me en S) QA X := by
  refine Pe.bind (h.imp (fun d S1 ⟨b, e, k⟩ => ?_) fun _ _ z => z)
  rw [e]
  exact k
theorem v_rng1 (h : Pe (ms en S) (fun ds S1 => ∃ j, ds = [.int j] ∧ rngOk j = true ∧ QA (rangeD 0 j.toNat) S1) X) : Pe (mRng1 ms en S) QA X := by
  refine Pe.bind (h.imp (fun d S1 ⟨b, e, r, k⟩ => ?_) fun _ _ z => z)
  subst e
  dsimp only
  rw [if_pos r]
  exact k
theorem v_rng2 (h : Pe (ms en S) (fun ds S1 => ∃ i j, ds = [.int i, .int j] ∧ (rngOk i = true ∧ rngOk j = true) ∧ QA (rangeD i (j - i).toNat) S1) X) : Pe (mRng2 ms en S) QA X := by
  refine Pe.bind (h.imp (fun d S1 ⟨b, b', e, r, k⟩ => ?_) fun _ _ z => z)
  subst e
  dsimp only
  rw [if_pos r]
  exact k
/-! the ways of a test -/
theorem v_dec {p A B : Prop} [Decidable p] (h1 : p → A) (h2 : ¬p → B) : if decide p = true then A else B := by
  by_cases h : p
  · rw [decide_eq_true h, if_pos rfl]
    exact h1 h
  · rw [decide_eq_false h, if_neg Bool.false_ne_true]
    exact h2 h
theorem v_ndec {p A B : Prop} [Decidable p] (h1 : ¬p → A) (h2 : p → B) : if (!decide p) = true then A else B := by
  by_cases h : p
  · rw [decide_eq_true h, if_neg (by simp)]
    exact h2 h
  · rw [decide_eq_false h, if_pos (by simp)]
    exact h1 h
theorem v_T {A B : Prop} (h : A) : if true = true then A else B := h
theorem v_F {A B : Prop} (h : B) : if false = true then A else B := h
end
section
variable {en : Env} {S : Store} {Q : Dt → Store → Prop} {X : Ex → Store → Prop}
theorem v_div {i j : Int} (h0 : j ≠ 0) (hl : j.natAbs.log2 < 9000) (q : Q (.int (i.fdiv j)) S) : Pe (mDiv (.int i) (.int j) S) Q X := by
  refine v_ifok ?_ q
  unfold divOk
  rw [Bool.and_eq_true]
  exact ⟨decide_eq_true h0, decide_eq_true hl⟩
theorem v_mod {i j : Int} (h0 : j ≠ 0) (q : Q (.int (i.fmod j)) S) : Pe (mMod (.int i) (.int j) S) Q X := v_ifok h0 q
theorem v_mulL {i j : Int} (h : i.natAbs < 2 ^ 64) (q : Q (.int (i * j)) S) : Pe (mMul (.int i) (.int j) S) Q X := by
  refine v_ifok ?_ q
  unfold mulOk
  rw [decide_eq_true h]
  rfl
theorem v_mulR {i j : Int} (h : j.natAbs < 2 ^ 64) (q : Q (.int (i * j)) S) : Pe (mMul (.int i) (.int j) S) Q X := by
  refine v_ifok ?_ q
  unfold mulOk
  rw [decide_eq_true h, Bool.or_true]
  rfl
theorem v_pow {i j : Int} (h : 0 ≤ j ∧ j ≤ 1000000 ∧ i.natAbs < 2 ^ 64) (q : Q (.int (i ^ j.toNat)) S) : Pe (mPow (.int i) (.int j) S) Q X := v_ifok (decide_eq_true h) q
theorem ixD_ref {S : Store} {k : Nat} {ds : List Dt} {i : Int} {d : Dt} (hS : S[k]? = some (.lst ds)) (h : L2.atI ds i = some d) : ixD S (.ref k) i = some d := by
  unfold ixD
  simp [asL, hS, h]
theorem lenD_ref {S : Store} {k : Nat} {ds : List Dt} (hS : S[k]? = some (.lst ds)) : lenD S (.ref k) = some ds.length := by
  unfold lenD
  simp [asL, hS]
theorem gSub_ref {mo mi : Env → Store → R Dt} {d : Dt} {k n : Nat} {j : Int} {ds : List Dt} (ho : mo en S = .ok (.ref k) S) (hi : mi en S = .ok (.int j) S) (hS : S[k]? = some (.lst ds)) (hj : ixN ds.length j = some n) :
    gSubD mo mi d en S = some (en, S.set k (.lst (ds.set n d))) := by
  unfold gSubD
  simp only [ho, hi]
  unfold setIx
  simp only [hS, hj, Option.map_some]
theorem set_same {S : Store} {k : Nat} {o o' : Ob} (h : S[k]? = some o) : (S.set k o')[k]? = some o' := List.getElem?_set_self (List.getElem?_eq_some_iff.mp h).1
/-- a store into a list: the new store by a letter -/
theorem v_gsub {mo mi : Env → Store → R Dt} {d : Dt} {k n : Nat} {j : Int} {ds : List Dt} {A : Env → Store → Prop} (ho : mo en S = .ok (.ref k) S) (hi : mi en S = .ok (.int j) S) (hS : S[k]? = some (.lst ds)) (hj : ixN ds.length j = some n)
    (q : ∀ S', S' = S.set k (.lst (ds.set n d)) → S'[k]? = some (.lst (ds.set n d)) → A en S') : ∃ e' S', gSubD mo mi d en S = some (e', S') ∧ A e' S' :=
  ⟨en, _, gSub_ref ho hi hS hj, q _ rfl (set_same hS)⟩
theorem atI_in {α : Type} {xs : List α} {j : Nat} {x : α} (h : xs[j]? = some x) : L2.atI xs (j : Int) = some x := L2.atI_nat h
end
section
variable {en : Env} {S : Store} {Q : Dt → Store → Prop} {X : Ex → Store → Prop} {QS : Fl → Env → Store → Prop} {XS : Ex → Env → Store → Prop} {i j : Int}
theorem v_add (q : Q (.int (i + j)) S) : Pe (mAdd (.int i) (.int j) S) Q X := q
theorem v_sub (q : Q (.int (i - j)) S) : Pe (mSub (.int i) (.int j) S) Q X := q
theorem v_iadd (q : Q (.int (i + j)) S) : Pe (mIAdd (.int i) (.int j) S) Q X := q
theorem v_lt (q : Q (.bl (decide (i < j))) S) : Pe (mLt (.int i) (.int j) S) Q X := q
theorem v_le (q : Q (.bl (decide (i ≤ j))) S) : Pe (mLe (.int i) (.int j) S) Q X := q
theorem v_gt (q : Q (.bl (decide (j < i))) S) : Pe (mGt (.int i) (.int j) S) Q X := q
theorem v_ge (q : Q (.bl (decide (j ≤ i))) S) : Pe (mGe (.int i) (.int j) S) Q X := q
theorem v_eqI (q : Q (.bl (decide (i = j))) S) : Pe (mEq (.int i) (.int j) S) Q X := by
  have e : (i == j) = decide (i = j) := rfl
  show Q (.bl (i == j)) S
  rw [e]
  exact q
theorem v_neI (q : Q (.bl (!decide (i = j))) S) : Pe (mNe (.int i) (.int j) S) Q X := by
  have e : (i == j) = decide (i = j) := rfl
  show Q (.bl (!(i == j))) S
  rw [e]
  exact q
theorem v_eqB {a b : Bool} (q : Q (.bl (a == b)) S) : Pe (mEq (.bl a) (.bl b) S) Q X := q
theorem v_neB {a b : Bool} (q : Q (.bl (!(a == b))) S) : Pe (mNe (.bl a) (.bl b) S) Q X := q
theorem v_aug {k : Nat} {m : Dt → Dt → Store → R Dt} {me : Env → Store → R Dt} {x : Dt} (h : en[k]? = some (some x)) (q : Pe (me en S) (fun y S1 => Pe (m x y S1) (fun z S2 => QS .nx (en.set k (some z)) S2) (fun x S => XS x en S)) (fun x S => XS x en S)) : Ps (mAug k m me en S) QS XS := by
  unfold mAug
  rw [h]
  exact Pe.toS (q.imp (fun _ _ k => Pe.toS k) fun _ _ z => z)
theorem v_isi1 {x c : Dt} {b : Bool} (hc : ∀ cs, c ≠ .tup cs) (e : ((tyS S x).bind fun t => isiT t c) = some b) (q : Q (.bl b) S) : Pe (mIsi [x, c] S) Q X := by
  unfold mIsi
  cases c with
  | tup cs => exact absurd rfl (hc cs)
  | _ =>
    dsimp only
    rw [e]
    exact q
theorem v_isiT {x : Dt} {cs : List Dt} {b : Bool} (e : ((tyS S x).bind fun t => isiAny t cs) = some b) (q : Q (.bl b) S) : Pe (mIsi [x, .tup cs] S) Q X := by
  unfold mIsi
  dsimp only
  rw [e]
  exact q
theorem v_isiTy {x : Dt} {n : String} {t : String ⊕ String} {b : Bool} (ht : tyS S x = some t) (e : isiT t (.ty n) = some b) (q : Q (.bl b) S) : Pe (mIsi [x, .ty n] S) Q X :=
  v_isi1 (fun _ z => nomatch z) (by rw [ht]; exact e) q
end
theorem v_isd {S : Store} {Q : Dt → Store → Prop} {X : Ex → Store → Prop} {n : Bool} {x y d : Dt} (e : mIs n x y S = .ok d S) (q : Q d S) : Pe (mIs n x y S) Q X := by
  rw [e]
  exact q
theorem v_bT {b : Bool} {A B : Prop} (h : b = true) (q : A) : if b = true then A else B := by
  rw [if_pos h]
  exact q
theorem v_bF {b : Bool} {A B : Prop} (h : b = false) (q : B) : if b = true then A else B := by
  rw [if_neg (by rw [h]; exact Bool.false_ne_true)]
  exact q
end Dv
set_option Elab.async false
set_option linter.all false
set_option maxRecDepth 100000
set_option maxHeartbeats 4000000
set_option autoImplicit false
namespace Dv
open PySem PySem.Spec PyProof.Rows L2
/-! instances: fields, methods, new ones -/
/-- an instance: its class, its fields -/
def insD (S : Store) (d : Dt) : Option (String × List Str × List Dt) := match d with
  | .ins c ns ds => some (c, ns, ds)
  | .ref i => match S[i]? with
    | some (.ins c ns ds) => some (c, ns, ds)
    | _ => none
  | _ => none
section
variable {G : Gv} {io : Io} {H : Hp} {S : Store}
theorem insD_ok {d : Dt} {v : V} {c : String} {ns : List Str} {ds : List Dt} (so : StoreOk G io S H) (r : RelD G io H d v) (h : insD S d = some (c, ns, ds)) :
    ∃ a C dx vs, v = .ref a ∧ H a = some (.ins C dx (ns.zip vs)) ∧ G.cl c = some C ∧ ns.length = ds.length ∧ RelDs G io H ds vs := by
  cases r with
  | ins h1 h2 h3 h4 h5 =>
    cases h
    exact ⟨_, _, _, _, rfl, h1, h3, h4, h5⟩
  | @ref a i hi =>
    unfold insD at h
    dsimp only at h
    split at h
    · rename_i c' ns' ds' hS
      cases h
      have q := so.ob i _ a hS hi
      cases q with
      | ins h1 h2 h3 h4 => exact ⟨_, _, _, _, rfl, h1, h2, h3, h4⟩
    · cases h
  | _ => cases h
theorem look_rel {f : Str} : ∀ {ns : List Str} {ds : List Dt} {vs : List V} {d : Dt}, RelDs G io H ds vs → (ns.zip ds).lookup f = some d → ∃ v, (ns.zip vs).lookup f = some v ∧ RelD G io H d v
  | [], _, _, _, _, h => by cases h
  | _ :: _, _, _, _, .nil, h => by cases h
  | n :: ns, _, _, d, .cons r rs, h => by
    rw [List.zip_cons_cons, List.lookup_cons] at h ⊢
    split at h
    · cases h
      exact ⟨_, rfl, r⟩
    · exact look_rel rs h
theorem look_none {f : Str} {α : Type} : ∀ {ns : List Str} {vs : List α}, f ∉ ns → (ns.zip vs).lookup f = none
  | [], _, _ => rfl
  | _ :: _, [], _ => rfl
  | n :: ns, v :: vs, h => by
    rw [List.zip_cons_cons, List.lookup_cons]
    have hn : (f == n) = false := by
      rw [beq_eq_false_iff_ne]
      exact fun z => h (by rw [z]; exact List.mem_cons_self)
    rw [hn]
    exact look_none fun z => h (List.mem_cons_of_mem _ z)
end
/-- o.f -/
def mFld (cs : List String) (f : Str) (m : Env → Store → R Dt) : Env → Store → R Dt := fun en S => (m en S).bind fun d S1 => match insD S1 d with
  | some (c, ns, ds) => if c ∈ cs then (match (ns.zip ds).lookup f with
    | some x => .ok x S1
    | none => .stuck) else .stuck
  | none => .stuck
section
variable {G : Gv} {X : Cx} {W : WX} {e o : Expr} {es : List Expr} {m mo me : Env → Store → R Dt} {ma : Env → Store → R (List Dt)} {f : Str} {pos apos p : Pos}
theorem de_fld (cs : List String) (ok : ClsOk G) (he : DE G X W e m) (hno : ∀ c ∈ cs, ∀ C, G.cl c = some C → NoAttr G.K C f) (hb : attributeBase e f X.env (eval e X.env) = eval e X.env := by rfl) (hK : X.K = G.K := by rfl) :
    DE G X W (.Attribute e f pos) (mFld cs f m) := by
  obtain ⟨t, pe, q⟩ := he
  refine ⟨_, pe_fld pe hb, fun io H S en σ Q so re h => ?_⟩
  refine q io H S en σ _ so re (h.bind.imp (fun _ _ _ _ z => z) fun d S1 i1 H1 g1 s1 k1 v r => ?_)
  split at k1
  · rename_i c ns ds hi
    obtain ⟨a, C, dx, vs, rfl, h1, h2, h3, h4⟩ := insD_ok s1 r hi
    split at k1
    · rename_i hc
      split at k1
      · rename_i x hx
        obtain ⟨u, hu, ru⟩ := look_rel h4 hx
        refine ⟨a, C, dx, _, u, rfl, h1, ?_, ?_, hu, ?_⟩
        · rw [hK]
          exact ok.cls c C h2
        · rw [hK]
          exact hno c hc C h2
        · exact k1 i1 H1 Grow.refl s1 u ru
      · exact k1.elim
    · exact k1.elim
  · exact k1.elim
/-! ### o.m(..) -/
def mMeth (c : String) (m : Str) (np : Nat) (fn : Fn) (mo : Env → Store → R Dt) (ma : Env → Store → R (List Dt)) : Env → Store → R Dt := fun en S => (mo en S).bind fun d S1 => match insD S1 d with
  | some (c', ns, _) => if c' = c ∧ m ∉ ns then (ma en S1).bind fun ds S2 => if ds.length + 1 = np then fn (d :: ds) S2 else .stuck else .stuck
  | none => .stuck
def tMethW (C : Addr) (m : Str) (sp : Sp) (E : L2.St → XK) (ta : TE) (t : TA) : TE := fun σ H Q => ta σ H fun x H1 => ∃ a dx fs, x = .ref a ∧ H1 a = some (.ins C dx fs) ∧ fs.lookup m = none ∧ t σ H1 fun vs H2 => sp (x :: vs) H2 Q (E σ)
variable {C fa : Addr} {k np : Nat} {fd : FuncData} {ps : List Str} {sp : Sp} {E : L2.St → XK} {ta : TE} {t : TA} {CX : CXT} {n : Str}
theorem pe_methW {pl : Sem Bool} (he : PE X o ta) (c : Cls X.K C) (hm : Meth X.K C n fa) (F : FnOk X.prog X.w X.K X.mg X.base CX k fa fd ps sp) (hr : Room k X.A) (hb : Binds X.K fd ps []) (hx : ∀ σ, PassesAt CX X σ (E σ)) (ha : PA X (e :: es) t)
    (hst : starEach (e :: es) X.env = (false, eval e X.env) :: starEach es X.env) (hpl : (backTo pos (starEach es X.env)).any (·.1) = false)
    (ht : eval (.Call (.Attribute o n apos) (e :: es) [] pos) X.env = (do
      let ov ← eval o X.env
      standAt apos.atName
      let (f, first) ← holding [ov] (getMethod ov n pl)
      callWith pos f first (backTo pos (starEach (e :: es) X.env)) (backToKw pos (keywordEach [] X.env)))) :
    PE X (.Call (.Attribute o n apos) (e :: es) [] pos) (tMethW C n sp E ta t) := by
  refine ⟨fun pins s σ H Q I h => ?_⟩
  refine PySem.W.methodCall_KW (pl := pl) (thn (he.run pins s σ H _ I h) fun u s1 ⟨x, H1, I1, rx, a, dx, fs, ex, ea, l, q⟩ => ?_) ht
  subst ex
  obtain rfl : u = Value.ref a := rx
  refine getmeth_ok I1 ea c hm l ?_
  refine PySem.W.callWith_K (first := [.ref a]) (h₀ := X.base) I.ok.mod.kin hm.kp (thn (ha.run pos pins s1 σ H1 _ I1 q) fun us s2 ⟨vs, H2, I2, r, q2⟩ => ⟨I2.kIn, ?_⟩) hst hpl
  exact run_fnS (us := .ref a :: us) (vs := .ref a :: vs) F hr hb (hx σ) I2 (.cons rfl r) q2
theorem pe_methW0 {pl : Sem Bool} (he : PE X o ta) (c : Cls X.K C) (hm : Meth X.K C n fa) (F : FnOk X.prog X.w X.K X.mg X.base CX k fa fd ps sp) (hr : Room k X.A) (hb : Binds X.K fd ps []) (hx : ∀ σ, PassesAt CX X σ (E σ))
    (ht : eval (.Call (.Attribute o n apos) [] [] pos) X.env = (do
      let ov ← eval o X.env
      standAt apos.atName
      let (f, first) ← holding [ov] (getMethod ov n pl)
      callWith pos f first (backTo pos (starEach [] X.env)) (backToKw pos (keywordEach [] X.env)))) :
    PE X (.Call (.Attribute o n apos) [] [] pos) (tMethW C n sp E ta tNil) := by
  refine ⟨fun pins s σ H Q I h => ?_⟩
  refine PySem.W.methodCall_KW (pl := pl) (thn (he.run pins s σ H _ I h) fun u s1 ⟨x, H1, I1, rx, a, dx, fs, ex, ea, l, q⟩ => ?_) ht
  subst ex
  obtain rfl : u = Value.ref a := rx
  refine getmeth_ok I1 ea c hm l ?_
  exact PySem.W.callWith_K0 (first := [.ref a]) I1.kIn hm.kp (run_fnS (us := [.ref a]) (vs := [.ref a]) F hr hb (hx σ) I1 (.cons rfl .nil) q)
/-- what the function of a method gives answers the promise of its def -/
theorem sim_meth {c : String} {fn : Fn} {to : TE} (ok : ClsOk G) (hC : G.cl c = some C) (qo : SimE G W to mo) (qa : SimA G W t ma) : SimE G W (tMethW C n (spF G np fn) (WE W) to t) (mMeth c n np fn mo ma) := by
  intro io H S en σ Q so re h
  refine qo io H S en σ _ so re (h.bind.imp (fun _ _ _ _ z => z) fun d S1 i1 H1 g1 s1 k1 v r => ?_)
  split at k1
  · rename_i c' ns ds hi
    obtain ⟨a, C', dx, vs, rfl, h1, h2, h3, h4⟩ := insD_ok s1 r hi
    split at k1
    · rename_i hc
      obtain ⟨rfl, hn⟩ := hc
      rw [hC] at h2
      cases h2
      refine ⟨a, dx, _, rfl, h1, look_none hn, ?_⟩
      refine qa i1 H1 S1 en σ _ s1 (re.mono g1) (k1.bind.imp (fun _ _ _ _ z => z) fun ws S2 i2 H2 g2 s2 k2 us rs => ?_)
      split at k2
      · rename_i hl
        exact ⟨i2, S2, d :: ws, s2, .cons (r.mono g2) rs, hl, k2⟩
      · exact k2.elim
    · exact k1.elim
  · exact k1.elim
theorem de_meth {pl : Sem Bool} {c : String} {fn : Fn} (ok : ClsOk G) (hC : G.cl c = some C) (ho : DE G X W o mo) (ha : DA G X W (e :: es) ma) (hm : Meth G.K C n fa) (F : FnOk X.prog X.w X.K X.mg X.base (L2.CX X.prog X.w) k fa fd ps (spF G np fn)) (hr : Room k X.A) (hb : Binds X.K fd ps []) (tk : Takes X W)
    (hst : starEach (e :: es) X.env = (false, eval e X.env) :: starEach es X.env := by rfl) (hpl : (backTo pos (starEach es X.env)).any (·.1) = false := by rfl)
    (ht : eval (.Call (.Attribute o n apos) (e :: es) [] pos) X.env = (do
      let ov ← eval o X.env
      standAt apos.atName
      let (f, first) ← holding [ov] (getMethod ov n pl)
      callWith pos f first (backTo pos (starEach (e :: es) X.env)) (backToKw pos (keywordEach [] X.env))) := by rfl) (hK : X.K = G.K := by rfl) :
    DE G X W (.Call (.Attribute o n apos) (e :: es) [] pos) (mMeth c n np fn mo ma) := by
  obtain ⟨to, po, qo⟩ := ho
  obtain ⟨t, pa, qa⟩ := ha
  exact ⟨_, pe_methW (E := WE W) po (by rw [hK]; exact ok.cls c C hC) (by rw [hK]; exact hm) F hr hb (fun σ => passAt tk σ) pa hst hpl ht, sim_meth ok hC qo qa⟩
theorem de_meth0 {pl : Sem Bool} {c : String} {fn : Fn} (ok : ClsOk G) (hC : G.cl c = some C) (ho : DE G X W o mo) (hm : Meth G.K C n fa) (F : FnOk X.prog X.w X.K X.mg X.base (L2.CX X.prog X.w) k fa fd ps (spF G np fn)) (hr : Room k X.A) (hb : Binds X.K fd ps []) (tk : Takes X W)
    (ht : eval (.Call (.Attribute o n apos) [] [] pos) X.env = (do
      let ov ← eval o X.env
      standAt apos.atName
      let (f, first) ← holding [ov] (getMethod ov n pl)
      callWith pos f first (backTo pos (starEach [] X.env)) (backToKw pos (keywordEach [] X.env))) := by rfl) (hK : X.K = G.K := by rfl) :
    DE G X W (.Call (.Attribute o n apos) [] [] pos) (mMeth c n np fn mo mNil) := by
  obtain ⟨to, po, qo⟩ := ho
  obtain ⟨t, pa, qa⟩ := (da_nil : DA G X W [] mNil)
  refine ⟨_, pe_methW0 (E := WE W) po (by rw [hK]; exact ok.cls c C hC) (by rw [hK]; exact hm) F hr hb (fun σ => passAt tk σ) ht, sim_meth ok hC qo fun io H S en σ Q so re h => ?_⟩
  exact h io H Grow.refl so [] .nil
/-! ### C(..) -/
def mMake (c : String) (np : Nat) (fn : Fn) (ma : Env → Store → R (List Dt)) : Env → Store → R Dt := fun en S => (ma en S).bind fun ds S1 => if ds.length + 1 = np then (fn (.ref S1.length :: ds) (S1 ++ [.ins c [] []])).bind fun r S2 => match r with
  | .non => .ok (.ref S1.length) S2
  | _ => .stuck else .stuck
def tMakeW (C : Addr) (sp : Sp) (E : L2.St → XK) (t : TA) : TE := fun σ H Q => t σ H fun vs H1 => ∀ x dx, H1 x = none → H1 dx = none → dx ≠ x →
  sp (.ref x :: vs) (upd (upd H1 dx (.own x)) x (.ins C dx [])) (fun v H2 => v = .non ∧ Q (.ref x) H2) (E σ)
theorem run_makeW {pins : List (Addr × Obj)} {σ : L2.St} {H : Hp} {s : Shared} {Q : VK} {us : List Value} {vs : List V} (M : Mk X.K C fa) (F : FnOk X.prog X.w X.K X.mg X.base CX k fa fd ps sp) (hr : Room (k + 1) X.A) (hb : Binds X.K fd ps [])
    (hx : PassesAt CX X σ (E σ)) (I : Inv X pins σ H s) (r : Vals vs us)
    (h : ∀ x dx, H x = none → H dx = none → dx ≠ x → sp (.ref x :: vs) (upd (upd H dx (.own x)) x (.ins C dx [])) (fun v H2 => v = .non ∧ Q (.ref x) H2) (E σ)) :
    wpAny (model X.prog X.w) X.A (call (.ref C) us) (EP X pins σ Q) X.xe s := by
  have hq := h (s.heap.objs.size + 1) s.heap.objs.size (I.hok.fresh (Nat.le_succ _)) (I.hok.fresh (Nat.le_refl _)) (Nat.ne_of_lt (Nat.lt_succ_self _))
  have I2 := Inv.made (C := C) I
  have r2 : Vals (V.ref (s.heap.objs.size + 1) :: vs) (Value.ref (s.heap.objs.size + 1) :: us) := .cons rfl r
  have hl : (Value.ref (s.heap.objs.size + 1) :: us).length = ps.length := by
    have e := r2.length
    rw [F.len _ _ _ _ hq] at e
    exact e.symm
  have bb := hb _ (Value.ref (s.heap.objs.size + 1) :: us) I2.kIn (by rw [List.append_nil]; exact hl)
  rw [List.append_nil] at bb
  refine wpAny_call (make_map (f := fa) I.kIn M.makes M.init (beq_iff_eq.mp M.fn) (codeAny_mono (F.run _ X.stack _ _ ⟨Value.ref (s.heap.objs.size + 1) :: us, []⟩ (Value.ref (s.heap.objs.size + 1) :: us) _ _ (E σ) (hr.make C us [])
    (I2.env0.make C us []) bb r2 hq) fun r s' hq' => ?_))
  cases r with
  | error e => exact hx pins _ _ e s' I2 hq'
  | ok fl =>
    cases fl with
    | ret u =>
      obtain ⟨v, H', I3, rv, ev, q3⟩ := I2.after hq'
      subst ev
      exact ⟨rv, ⟨V.ref (s.heap.objs.size + 1), H', I3, rfl, q3⟩⟩
    | next => exact False.elim hq'
    | brk => exact False.elim hq'
    | cont => exact False.elim hq'
variable {x : Str}
theorem pe_makeW (M : Mk X.K C fa) (F : FnOk X.prog X.w X.K X.mg X.base CX k fa fd ps sp) (hr : Room (k + 1) X.A) (hg : Gl X x) (hm : X.mg x = some (.ref C)) (hb : Binds X.K fd ps []) (hx : ∀ σ, PassesAt CX X σ (E σ))
    (ha : PA X (e :: es) t) (hdb : (x == ("__debug__" : Str)) = false) (he : starEach (e :: es) X.env = (false, eval e X.env) :: starEach es X.env) (hpl : (backTo pos (starEach es X.env)).any (·.1) = false) :
    PE X (.Call (.Name x p) (e :: es) [] pos) (tMakeW C sp E t) := by
  refine ⟨fun pins s σ H Q I h => ?_⟩
  refine wpAny_Call_Name_kw (ld_glob I hg hm ?_ hdb)
  refine PySem.W.callWith_K (h₀ := X.base) I.ok.mod.kin M.kp (thn (ha.run pos pins s σ H _ I h) fun us s1 ⟨vs, H1, I1, r, q⟩ => ⟨I1.kIn, ?_⟩) he hpl
  exact run_makeW M F hr hb (hx σ) I1 r q
theorem pe_makeW0 (M : Mk X.K C fa) (F : FnOk X.prog X.w X.K X.mg X.base CX k fa fd ps sp) (hr : Room (k + 1) X.A) (hg : Gl X x) (hm : X.mg x = some (.ref C)) (hb : Binds X.K fd ps []) (hx : ∀ σ, PassesAt CX X σ (E σ))
    (hdb : (x == ("__debug__" : Str)) = false) : PE X (.Call (.Name x p) [] [] pos) (tMakeW C sp E tNil) := by
  refine ⟨fun pins s σ H Q I h => ?_⟩
  refine wpAny_Call_Name_kw (ld_glob I hg hm ?_ hdb)
  exact PySem.W.callWith_K0 I.kIn M.kp (run_makeW (us := []) M F hr hb (hx σ) I .nil h)
theorem sim_make {c : String} {fn : Fn} (hC : G.cl c = some C) (qa : SimA G W t ma) : SimE G W (tMakeW C (spF G np fn) (WE W) t) (mMake c np fn ma) := by
  intro io H S en σ Q so re h
  refine qa io H S en σ _ so re (h.bind.imp (fun _ _ _ _ z => z) fun ds S1 i1 H1 g1 s1 k1 vs r => ?_)
  split at k1
  · rename_i hl
    intro y dy hy hdy hne
    have e0 : ExtH H1 (upd H1 dy (.own y)) := ExtH.new hdy
    have hy2 : upd H1 dy (.own y) y = none := by rw [upd_ne (Ne.symm hne)]; exact hy
    have s2 := s1.ext e0
    obtain ⟨g3, s3⟩ := s2.push (o := .ins c [] []) (u := .ins C dy []) hy2 (.ins upd_same hC rfl .nil)
    have g4 : Grow i1 H1 (i1.push y) (upd (upd H1 dy (.own y)) y (.ins C dy [])) := e0.grow.trans g3
    have hy4 : (i1.push y).l[S1.length]? = some y := by
      rw [s1.len]
      simp
    refine ⟨i1.push y, S1 ++ [.ins c [] []], .ref S1.length :: ds, s3, .cons (.ref hy4) (r.mono g4), hl, ?_⟩
    refine (Out.from g4 k1).bind.imp (fun _ _ _ _ z => z) fun rr S5 i5 H5 g5 s5 k5 v rv => ?_
    split at k5
    · cases rv
      exact ⟨rfl, k5 i5 H5 Grow.refl s5 _ (.ref (g5.at hy4))⟩
    · exact k5.elim
  · exact k1.elim
theorem de_make {c : String} {fn : Fn} (hC : G.cl c = some C) (ha : DA G X W (e :: es) ma) (M : Mk G.K C fa) (F : FnOk X.prog X.w X.K X.mg X.base (L2.CX X.prog X.w) k fa fd ps (spF G np fn)) (hr : Room (k + 1) X.A) (hb : Binds X.K fd ps []) (tk : Takes X W)
    (hm : X.mg x = some (.ref C)) (hg : Gl X x := by rfl) (hdb : (x == ("__debug__" : Str)) = false := by decide) (hst : starEach (e :: es) X.env = (false, eval e X.env) :: starEach es X.env := by rfl) (hpl : (backTo pos (starEach es X.env)).any (·.1) = false := by rfl) (hK : X.K = G.K := by rfl) :
    DE G X W (.Call (.Name x p) (e :: es) [] pos) (mMake c np fn ma) := by
  obtain ⟨t, pa, qa⟩ := ha
  exact ⟨_, pe_makeW (E := WE W) (by rw [hK]; exact M) F hr hg hm hb (fun σ => passAt tk σ) pa hdb hst hpl, sim_make hC qa⟩
theorem de_make0 {c : String} {fn : Fn} (hC : G.cl c = some C) (M : Mk G.K C fa) (F : FnOk X.prog X.w X.K X.mg X.base (L2.CX X.prog X.w) k fa fd ps (spF G np fn)) (hr : Room (k + 1) X.A) (hb : Binds X.K fd ps []) (tk : Takes X W)
    (hm : X.mg x = some (.ref C)) (hg : Gl X x := by rfl) (hdb : (x == ("__debug__" : Str)) = false := by decide) (hK : X.K = G.K := by rfl) :
    DE G X W (.Call (.Name x p) [] [] pos) (mMake c np fn mNil) := by
  refine ⟨_, pe_makeW0 (E := WE W) (by rw [hK]; exact M) F hr hg hm hb (fun σ => passAt tk σ) hdb, sim_make hC fun io H S en σ Q so re h => ?_⟩
  exact h io H Grow.refl so [] .nil
/-! ### o.f = v -/
def putN (f : Str) : List Str → List Str
  | [] => [f]
  | g :: r => if g = f then g :: r else g :: putN f r
def putW {α : Type} (f : Str) (y : α) : List Str → List α → List α
  | [], _ => [y]
  | _ :: _, [] => []
  | g :: r, v :: vs => if g = f then y :: vs else v :: putW f y r vs
theorem put_zip {f : Str} {y : V} : ∀ {ns : List Str} {vs : List V}, ns.length = vs.length → putF f y (ns.zip vs) = (putN f ns).zip (putW f y ns vs)
  | [], [], _ => rfl
  | n :: ns, v :: vs, h => by
    show putF f y ((n, v) :: ns.zip vs) = _
    unfold putF putN putW
    by_cases hn : n = f
    · rw [if_pos hn, if_pos hn, if_pos hn]
      rfl
    · rw [if_neg hn, if_neg hn, if_neg hn, put_zip (by simpa using h)]
      rfl
theorem put_len {α : Type} {f : Str} {y : α} : ∀ {ns : List Str} {vs : List α}, ns.length = vs.length → (putN f ns).length = (putW f y ns vs).length
  | [], [], _ => rfl
  | n :: ns, v :: vs, h => by
    unfold putN putW
    by_cases hn : n = f
    · rw [if_pos hn, if_pos hn]
      simpa using h
    · rw [if_neg hn, if_neg hn, List.length_cons, List.length_cons, put_len (by simpa using h)]
theorem put_rel {io : Io} {H : Hp} {f : Str} {d : Dt} {y : V} (ry : RelD G io H d y) : ∀ {ns : List Str} {ds : List Dt} {vs : List V}, RelDs G io H ds vs → RelDs G io H (putW f d ns ds) (putW f y ns vs)
  | [], _, _, _ => .cons ry .nil
  | _ :: _, _, _, .nil => .nil
  | n :: ns, _, _, .cons r rs => by
    unfold putW
    by_cases hn : n = f
    · rw [if_pos hn, if_pos hn]
      exact .cons ry rs
    · rw [if_neg hn, if_neg hn]
      exact .cons r (put_rel ry rs)
/-- a field of an object of the store is written -/
def setFld (cs : List String) (f : Str) (S : Store) (x d : Dt) : Option Store := match x with
  | .ref k => match S[k]? with
    | some (.ins c ns ds) => if c ∈ cs ∧ ns.length < 1000 then some (S.set k (.ins c (putN f ns) (putW f d ns ds))) else none
    | _ => none
  | _ => none
def mFldS (cs : List String) (f : Str) (mo me : Env → Store → R Dt) : Env → Store → RS := fun en S => (me en S).toS en fun d S1 => (mo en S1).toS en fun x S2 => match setFld cs f S2 x d with
  | some S3 => .ok .nx en S3
  | none => .stuck
theorem setFld_ok {io : Io} {H : Hp} {S S' : Store} {cs : List String} {x d : Dt} {vx v : V} (so : StoreOk G io S H) (rx : RelD G io H x vx) (rd : RelD G io H d v) (h : setFld cs f S x d = some S') :
    ∃ a C dx fs c, vx = .ref a ∧ H a = some (.ins C dx fs) ∧ G.cl c = some C ∧ c ∈ cs ∧ fs.length < 1000 ∧ Grow io H io (upd H a (.ins C dx (putF f v fs))) ∧ StoreOk G io S' (upd H a (.ins C dx (putF f v fs))) := by
  unfold setFld at h
  split at h
  · rename_i k
    split at h
    · rename_i c ns ds hS
      split at h
      · rename_i hc
        cases h
        cases rx with
        | @ref a _ hi =>
          have q := so.ob k _ a hS hi
          cases q with
          | @ins _ C dx _ _ _ vs h1 h2 h3 h4 =>
            have hl : ns.length = vs.length := h3.trans h4.length
            have hm : a ∈ io.l := List.mem_of_getElem? hi
            have g : ∀ u, Grow io H io (upd H a u) := fun u => ⟨⟨[], by simp⟩, fun b o h n _ => by
              rw [upd_ne (fun z => n (by rw [z]; exact hm))]
              exact h, fun a h n => absurd h n⟩
            obtain ⟨g2, s2⟩ := so.write (o := .ins c (putN f ns) (putW f d ns ds)) (u := .ins C dx (putF f v (ns.zip vs))) hi (by
              refine RelO.ins (dx := dx) (vs := putW f v ns vs) ?_ h2 (put_len h3) ((put_rel rd h4).mono (g _))
              rw [upd_same, put_zip hl])
            refine ⟨a, C, dx, _, c, rfl, h1, h2, hc.1, ?_, g2, s2⟩
            have := hc.2
            rw [List.length_zip, ← hl, Nat.min_self]
            exact this
      · cases h
    · cases h
  · cases h
/-- o.f as a target -/
def gFldT (K : PySem.W.Frag) (to : TE) (f : Str) : TG := fun v σ H Q => to σ H fun x H1 => ∃ a C dx fs, x = .ref a ∧ H1 a = some (.ins C dx fs) ∧ Cls K C ∧ NoAttr K C f ∧ fs.length < 1000 ∧ Q σ (upd H1 a (.ins C dx (putF f v fs)))
theorem pg_fld {to : TE} (ho : PE X o to) : PG X (.Attribute o f pos) (gFldT X.K to f) := by
  refine ⟨fun pins s σ H v u Q I r h => ?_⟩
  refine PySem.W.kas_attr (thn (ho.run pins s σ H _ I h) fun ov s1 ⟨x, H1, I1, r1, a, C, dx, fs, ex, ea, c, n, l, q⟩ => ?_)
  subst ex
  obtain rfl : ov = Value.ref a := r1
  exact setattr_ok I1 ea c n l r fun s2 I2 => ⟨σ, _, I2, q⟩
def gFldD (cs : List String) (f : Str) (mo : Env → Store → R Dt) : Dt → Env → Store → Option (Env × Store) := fun d en S => match mo en S with
  | .ok x S1 => (setFld cs f S1 x d).map fun S2 => (en, S2)
  | _ => none
theorem dg_fld (cs : List String) (ok : ClsOk G) (ho : DE G X W0 o mo) (hno : ∀ c ∈ cs, ∀ C, G.cl c = some C → NoAttr G.K C f) (hK : X.K = G.K := by rfl) : DG G X (.Attribute o f pos) (gFldD cs f mo) := by
  obtain ⟨t, p, q⟩ := ho
  refine ⟨_, pg_fld p, fun io H S en σ d v Q so re r h => ?_⟩
  unfold gFldD at h
  refine q io H S en σ _ so re ?_
  cases eo : mo en S with
  | stuck => simp [eo] at h
  | err x S1 => simp [eo] at h
  | ok x S1 =>
    simp only [eo] at h
    intro i1 H1 g1 s1 vx rx
    cases es : setFld cs f S1 x d with
    | none => simp [es] at h
    | some S3 =>
      simp only [es, Option.map_some] at h
      obtain ⟨a, C, dx, fs, c, h1, h2, h3, h4, h5, g3, s3⟩ := setFld_ok s1 rx (r.mono g1) es
      refine ⟨a, C, dx, fs, h1, h2, ?_, ?_, h5, h i1 _ (g1.trans g3) s3 σ (re.mono (g1.trans g3))⟩
      · rw [hK]
        exact ok.cls c C h3
      · rw [hK]
        exact hno c h4 C h3
theorem ds_fld {pos' : Pos} (cs : List String) (ok : ClsOk G) (ho : DE G X W o mo) (he : DE G X W e me) (hno : ∀ c ∈ cs, ∀ C, G.cl c = some C → NoAttr G.K C f) (hs : swapsWith e (some (.Attribute o f pos')) pos.line X.env = pure false := by rfl) (hK : X.K = G.K := by rfl) :
    DS G X W (.Assign [.Attribute o f pos'] e pos) (mFldS cs f mo me) := by
  obtain ⟨t, p, q⟩ := he
  obtain ⟨to, po, qo⟩ := ho
  refine ⟨_, ps_fld po p hs, fun io H S en σ D so re h => ?_⟩
  refine q io H S en σ _ so re (h.bind.imp (wx_of re) fun d S1 i1 H1 g1 s1 k1 v r => ?_)
  refine qo i1 H1 S1 en σ _ s1 (re.mono g1) (k1.bind.imp (wx_of (re.mono g1)) fun x S2 i2 H2 g2 s2 k2 vx rx => ?_)
  split at k2
  · rename_i S3 es
    obtain ⟨a, C, dx, fs, c, h1, h2, h3, h4, h5, g3, s3⟩ := setFld_ok s2 rx (r.mono g2) es
    refine ⟨a, C, dx, fs, h1, h2, ?_, ?_, h5, k2 i2 _ g3 s3 σ ((re.mono (g1.trans g2)).mono g3)⟩
    · rw [hK]
      exact ok.cls c C h3
    · rw [hK]
      exact hno c h4 C h3
  · exact k2.elim
end
end Dv
set_option Elab.async false
set_option linter.all false
set_option maxRecDepth 100000
set_option maxHeartbeats 4000000
set_option autoImplicit false
namespace Dv
open PySem PySem.Spec PyProof.Rows L2
/-! exceptions of the text: an __init__ that stores a word, and at most one of its arguments -/
end Dv
set_option Elab.async false
set_option linter.all false
set_option maxRecDepth 100000
set_option maxHeartbeats 4000000
set_option autoImplicit false
namespace Dv
open PySem PySem.Spec PyProof.Rows L2
/-! x in xs -/
def flatD : Dt → Bool
  | .non => true
  | .bl _ => true
  | .int _ => true
  | .str _ => true
  | _ => false
section
variable {G : Gv} {io : Io} {H : Hp} {S : Store}
theorem flat_rel {d : Dt} {v : V} (r : RelD G io H d v) (h : flatD d = true) : flatV v = true := by
  cases r with
  | non => rfl
  | bl _ => rfl
  | int _ => rfl
  | str _ => rfl
  | _ => exact absurd h (by simp [flatD])
theorem flat_all {ds : List Dt} : ∀ {vs : List V}, RelDs G io H ds vs → ds.all flatD = true → vs.all flatV = true := by
  induction ds with
  | nil =>
    intro vs r _
    cases r
    rfl
  | cons d ds ih =>
    intro vs r h
    cases r with
    | cons r1 r2 =>
      rw [List.all_cons, Bool.and_eq_true] at h ⊢
      exact ⟨flat_rel r1 h.1, ih r2 h.2⟩
theorem eq_flat {d e : Dt} {v u : V} (r : RelD G io H d v) (t : RelD G io H e u) (h : flatD d = true) (k : flatD e = true) : eqV v u = eqD d e := by
  cases r with
  | non => cases t <;> first | rfl | exact absurd k (by simp [flatD])
  | bl a => cases t <;> first | rfl | (cases a <;> rfl) | exact absurd k (by simp [flatD])
  | int a => cases t <;> first | rfl | exact absurd k (by simp [flatD])
  | str a => cases t <;> first | rfl | exact absurd k (by simp [flatD])
  | _ => exact absurd h (by simp [flatD])
theorem any_flat {d : Dt} {v : V} (r : RelD G io H d v) (h : flatD d = true) {ds : List Dt} : ∀ {vs : List V}, RelDs G io H ds vs → ds.all flatD = true → inV v vs = ds.any fun y => eqD y d := by
  induction ds with
  | nil =>
    intro vs t _
    cases t
    rfl
  | cons e ds ih =>
    intro vs t k
    cases t with
    | cons t1 t2 =>
      rw [List.all_cons, Bool.and_eq_true] at k
      have q := ih t2 k.2
      unfold inV at q ⊢
      rw [List.any_cons, List.any_cons, eq_flat t1 r k.1 h, q]
end
/-- x in y: flat items of a list or tuple; a sign of a text -/
def mIn (neg : Bool) (x y : Dt) (S : Store) : R Dt := match y with
  | .str b => match x with
    | .str a => match a.cps.toList with
      | [c] => .ok (.bl (if neg then !decide (c ∈ b.cps.toList) else decide (c ∈ b.cps.toList))) S
      | _ => .stuck
    | _ => .stuck
  | y => match asS S y with
    | some ds => if flatD x = true ∧ ds.all flatD = true then .ok (.bl (if neg then !(ds.any fun z => eqD z x) else (ds.any fun z => eqD z x))) S else .stuck
    | none => .stuck
theorem str_one {a : Str} {c : Nat} (h : a.cps.toList = [c]) : a = ⟨#[c]⟩ := by
  cases a with
  | mk cps =>
    have e : cps = #[c] := by
      apply Array.toList_inj.mp
      simpa using h
    rw [e]
section
variable {G : Gv} {X : Cx}
theorem in_seq_ok {io : Io} {H : Hp} {S : Store} {x y : Dt} {vx vy : V} {ds : List Dt} {Q : VK} {neg : Bool} (so : StoreOk G io S H) (rx : RelD G io H x vx) (ry : RelD G io H y vy) (ha : asS S y = some ds) (h1 : flatD x = true) (h2 : ds.all flatD = true)
    (h : Out G io H (fun _ _ _ => False) (poE G Q) (.ok (.bl (if neg then !(ds.any fun z => eqD z x) else (ds.any fun z => eqD z x))) S)) : rIn G.K neg vx vy H Q := by
  obtain ⟨a, vs, rfl, hs, rs⟩ := asS_ok so ry ha
  refine ⟨a, vs, rfl, hs, flat_rel rx h1, flat_all rs h2, ?_⟩
  rw [any_flat rx h1 rs h2]
  exact h io H Grow.refl so _ (.bl _)
theorem sim_in {neg : Bool} : SimO G (fun x y H Q => (∃ (c : Nat) (z : Str), x = .str ⟨#[c]⟩ ∧ y = .str z ∧ Q (.bl (if neg then !decide (c ∈ z.cps.toList) else decide (c ∈ z.cps.toList))) H) ∨ rIn G.K neg x y H Q) (mIn neg) := by
  intro io H S vx vy x y Q so rx ry h
  unfold mIn at h
  split at h
  · rename_i b
    split at h
    · rename_i a
      split at h
      · rename_i c hc
        cases rx
        cases ry
        rw [str_one hc]
        exact .inl ⟨c, b, rfl, rfl, h io H Grow.refl so _ (.bl _)⟩
      · exact h.elim
    · exact h.elim
  · split at h
    · rename_i ds ha
      split at h
      · rename_i hf
        exact .inr (in_seq_ok so rx ry ha hf.1 hf.2 h)
      · exact h.elim
    · exact h.elim
theorem in_noErr {neg : Bool} (x y : Dt) (S : Store) : NoErr (mIn neg x y S) := by
  unfold mIn
  split
  · split
    · split <;> trivial
    · trivial
  · split
    · split <;> trivial
    · trivial
theorem do_in (hK : X.K = G.K := by rfl) : DO G X (compareOp .In) (mIn false) := by
  refine ⟨_, (op_in_sign (X := X)).or op_in_seq, ?_, in_noErr⟩
  rw [hK]
  exact sim_in (neg := false)
theorem do_notIn (hK : X.K = G.K := by rfl) : DO G X (compareOp .NotIn) (mIn true) := by
  refine ⟨_, (op_notIn_sign (X := X)).or op_notIn_seq, ?_, in_noErr⟩
  rw [hK]
  exact sim_in (neg := true)
end
end Dv
set_option Elab.async false
set_option linter.all false
set_option maxRecDepth 100000
set_option maxHeartbeats 4000000
set_option autoImplicit false
namespace Dv
open PySem PySem.Spec PyProof.Rows L2
/-! texts -/
end Dv
set_option Elab.async false
set_option linter.all false
set_option maxRecDepth 100000
set_option maxHeartbeats 4000000
set_option autoImplicit false
namespace Dv
open PySem PySem.Spec PyProof.Rows L2
/-! lists of the store: pop(i), clear() -/
end Dv
set_option Elab.async false
set_option linter.all false
set_option maxRecDepth 100000
set_option maxHeartbeats 4000000
set_option autoImplicit false
namespace Dv
open PySem PySem.Spec PyProof.Rows L2
/-! dicts with text keys: the display, reading -/
def mPs : List (Env → Store → R Dt) → Env → Store → R (List Dt)
  | [] => fun _ S => .ok [] S
  | m :: ms => fun en S => (m en S).bind fun d S1 => (mPs ms en S1).bind fun ds S2 => .ok (d :: ds) S2
/-- keys and values, from the left -/
inductive DPs (G : Gv) (X : Cx) (W : WX) : List Str → List Expr → List (TE × TE) → List (Env → Store → R Dt) → Prop
  | nil : DPs G X W [] [] [] []
  | cons {k : Str} {e : Expr} {ks : List Str} {es : List Expr} {te : TE} {ts : List (TE × TE)} {m : Env → Store → R Dt} {ms : List (Env → Store → R Dt)} (pe : PE X e te) (q : SimE G W te m) (r : DPs G X W ks es ts ms) :
    DPs G X W (k :: ks) (e :: es) ((tC (.str k), te) :: ts) (m :: ms)
section
variable {G : Gv} {X : Cx} {W : WX}
theorem dps_sim {ks : List Str} {es : List Expr} {ts : List (TE × TE)} {ms : List (Env → Store → R Dt)} (h : DPs G X W ks es ts ms) : ∀ io H S en σ (Q : List (V × V) → Hp → Prop), StoreOk G io S H → RelEnv G io H en σ →
    Out G io H (wxE G W σ) (fun ds _ io' H' => ∀ vs, RelDs G io' H' ds vs → Q ((ks.map V.str).zip vs) H') (mPs ms en S) → tPairs ts σ H Q := by
  induction h with
  | nil => exact fun io H S en σ Q so re k => k io H Grow.refl so [] .nil
  | @cons k e ks es te ts m ms pe q r ih =>
    intro io H S en σ Q so re hh
    show tPairs ((tC (V.str k), te) :: ts) σ H Q
    refine q io H S en σ _ so re (hh.bind.imp (fun _ _ _ _ z => z) fun d S1 i1 H1 g1 s1 k1 v rd => ?_)
    refine ih i1 H1 S1 en σ _ s1 (re.mono g1) (k1.bind.imp (fun _ _ _ _ z => z) fun ds S2 i2 H2 g2 s2 k2 vs rs => ?_)
    exact k2 i2 H2 Grow.refl s2 (v :: vs) (.cons (rd.mono g2) rs)
theorem dps_len {ks : List Str} {es : List Expr} {ts : List (TE × TE)} {ms : List (Env → Store → R Dt)} (h : DPs G X W ks es ts ms) : ∀ en S ds S', mPs ms en S = .ok ds S' → ds.length = ks.length := by
  induction h with
  | nil => intro en S ds S' e; cases e; rfl
  | @cons k e ks es te ts m ms pe q r ih =>
    intro en S ds S' hh
    unfold mPs at hh
    cases e1 : m en S with
    | stuck => rw [e1] at hh; cases hh
    | err x S1 => rw [e1] at hh; cases hh
    | ok d S1 =>
      rw [e1] at hh
      dsimp only [R.bind] at hh
      cases e2 : mPs ms en S1 with
      | stuck => rw [e2] at hh; cases hh
      | err x S1 => rw [e2] at hh; cases hh
      | ok es2 S2 =>
        rw [e2] at hh
        cases hh
        rw [List.length_cons, List.length_cons, ih _ _ _ _ e2]
theorem merge_new : ∀ {ks : List Key} {vs : List V} {acc : List (Key × V)}, ks.Nodup → (∀ k ∈ ks, ∀ p ∈ acc, p.1 ≠ k) → (ks.zip vs).foldl (fun acc kv => putK acc kv.1 kv.2) acc = acc ++ ks.zip vs
  | [], _, _, _, _ => by simp
  | _ :: _, [], _, _, _ => by simp
  | k :: ks, v :: vs, acc, nd, hn => by
    rw [List.zip_cons_cons, List.foldl_cons]
    have hp : putK acc k v = acc ++ [(k, v)] := by
      unfold putK
      rw [if_neg]
      intro z
      obtain ⟨p, hp, e⟩ := List.any_eq_true.mp z
      exact hn k List.mem_cons_self p hp (of_decide_eq_true e)
    rw [hp, merge_new (List.nodup_cons.mp nd).2 fun k' hk p hp => ?_]
    · simp
    · rcases List.mem_append.mp hp with z | z
      · exact hn k' (List.mem_cons_of_mem _ hk) p z
      · rw [List.mem_singleton] at z
        rw [z]
        exact fun e => (List.nodup_cons.mp nd).1 (by rw [show k = k' from e]; exact hk)
/-- {k: e, ..} with text keys -/
def mDict (ks : List Str) (ms : List (Env → Store → R Dt)) : Env → Store → R Dt := fun en S => (mPs ms en S).bind fun ds S1 => if ds.length = ks.length then .ok (.dct (ks.map Sum.inr) ds) S1 else .stuck
theorem env_hide {io : Io} {H : Hp} {p : Addr} {o : HO} {en : Env} {σ : L2.St} (hp : H p = none) (re : RelEnv G io H en σ) : RelEnv G (io.hide p) (upd H p o) en σ :=
  ⟨re.len, fun i d h => let ⟨v, h1, h2⟩ := re.at_ i d h; ⟨v, h1, (h2.hide hp).mono (ExtH.new hp).grow⟩⟩
theorem nodup_inr {ks : List Str} (h : ks.Nodup) : (ks.map (Sum.inr : Str → Key)).Nodup := by
  induction ks with
  | nil => exact List.nodup_nil
  | cons k ks ih =>
    obtain ⟨h1, h2⟩ := List.nodup_cons.mp h
    refine List.nodup_cons.mpr ⟨fun z => ?_, ih h2⟩
    obtain ⟨k', hk, e⟩ := List.mem_map.mp z
    exact h1 (by rw [← Sum.inr.inj e]; exact hk)
theorem zip_keys : ∀ (ks : List Str) (vs : List V), (ks.map V.str).zip vs = ((ks.map (Sum.inr : Str → Key)).zip vs).map fun kv => (kV kv.1, kv.2)
  | [], _ => rfl
  | _ :: _, [] => rfl
  | k :: ks, v :: vs => by
    rw [List.map_cons, List.map_cons, List.zip_cons_cons, List.zip_cons_cons, List.map_cons, zip_keys ks vs]
    rfl
theorem de_dict {pos : Pos} {keys : List (Option Expr)} {es : List Expr} {ks : List Str} {ts : List (TE × TE)} {ms : List (Env → Store → R Dt)} (h : DPs G X W ks es ts ms) (pp : PPs X pos keys es ts) (hall : keys.all (·.isSome) = true) (hl : keys.length = es.length) (h0 : keys ≠ []) (h15 : keys.length ≤ 15) (hk : ks.length ≤ 15) (nd : ks.Nodup) :
    DE G X W (.Dict keys es pos) (mDict ks ms) := by
  refine ⟨_, pe_disp pp hall hl h0 h15, fun io H S en σ Q so re hh => ?_⟩
  intro p hp
  have ex : ExtH H (upd H p (.dK [])) := ExtH.new hp
  refine dps_sim h (io.hide p) _ S en σ _ (so_hide so hp) (env_hide hp re) ?_
  have hb := hh.bind
  cases er : mPs ms en S with
  | stuck => rw [er] at hb; exact hb
  | err x S1 =>
    rw [er] at hb
    intro io' H' g s cls dx rx
    obtain ⟨i2, rfl⟩ := io_hide g
    have g2 := ex.grow.trans (grow_un g)
    obtain ⟨C, a, vs, h1, h2, h3, h4, h5, h6, h7⟩ := rx
    exact hb i2 H' g2 (so_unhide s) cls dx ⟨C, a, vs, h1, h2, h3, h4, fun z => h5 (hide_mem.mpr (.inr z)), h6, h7.unhide⟩
  | ok ds S1 =>
    rw [er] at hb
    intro io' H' g s vs rs
    obtain ⟨i2, rfl⟩ := io_hide g
    have gu := grow_un g
    have g2 := ex.grow.trans gu
    have hp2 : p ∉ io.l := fun z => so.fresh hp (.inl z)
    have h3 : H' p = some (.dK []) := gu.keep p _ upd_same hp2
    have pl : p ∉ i2.l := fun z => s.dis p z List.mem_cons_self
    have ph : p ∉ i2.h := by
      obtain ⟨t, e⟩ := g2.pre
      rw [e]
      exact fun z => so.fresh hp (.inr z)
    have len := dps_len h _ _ _ _ er
    have lv := rs.length
    refine ⟨h3, (ks.map (Sum.inr : Str → Key)).zip vs, zip_keys ks vs, ?_, ?_⟩
    · rw [List.length_zip, List.length_map]
      omega
    · have em : mergeK [] ((ks.map (Sum.inr : Str → Key)).zip vs) = (ks.map (Sum.inr : Str → Key)).zip vs := by
        unfold mergeK
        rw [merge_new (nodup_inr nd) fun _ _ p hp => by cases hp]
        rfl
      rw [em]
      have s3 := so_unhide (so_hid (o := .dK ((ks.map (Sum.inr : Str → Key)).zip vs)) s)
      have r3 := (rs.monoB (base_hid (o := .dK ((ks.map (Sum.inr : Str → Key)).zip vs)))).unhide
      have g3 : Grow io H i2 (upd H' p (.dK ((ks.map (Sum.inr : Str → Key)).zip vs))) := by
        refine ⟨g2.pre, fun b o hb nb nt => ?_, g2.new⟩
        rw [upd_ne fun z => by rw [z, hp] at hb; cases hb]
        exact g2.keep b o hb nb nt
      have k := hb i2 _ g3 s3
      dsimp only at k
      rw [if_pos len] at k
      exact k i2 _ Grow.refl s3 _ (.dct upd_same (fun z => z.elim pl ph) (by rw [List.length_map]; omega) r3)
/-! reading by a text -/
def lookK : List Key → List Dt → Key → Option Dt
  | k :: ks, d :: ds, x => if k = x then some d else lookK ks ds x
  | _, _, _ => none
theorem lookK_rel {io : Io} {H : Hp} {x : Key} : ∀ {ks : List Key} {ds : List Dt} {vs : List V} {d : Dt}, RelDs G io H ds vs → lookK ks ds x = some d → ∃ v, valV (ks.zip vs) x = some v ∧ RelD G io H d v
  | [], _, _, _, _, h => by cases h
  | _ :: _, _, _, _, .nil, h => by cases h
  | k :: ks, _, _, d, .cons r rs, h => by
    unfold lookK at h
    split at h
    · rename_i e
      cases h
      exact ⟨_, valV_pos (p := (k, _)) e, r⟩
    · rename_i e
      obtain ⟨v, h1, h2⟩ := lookK_rel rs h
      exact ⟨v, (valV_neg (p := (k, _)) e).trans h1, h2⟩
def dctD (S : Store) (d : Dt) : Option (List Key × List Dt) := match d with
  | .dct ks ds => some (ks, ds)
  | .ref i => match S[i]? with
    | some (.dct ks ds) => some (ks, ds)
    | _ => none
  | _ => none
theorem dctD_ok {io : Io} {H : Hp} {S : Store} {d : Dt} {v : V} {ks : List Key} {ds : List Dt} (so : StoreOk G io S H) (r : RelD G io H d v) (h : dctD S d = some (ks, ds)) :
    ∃ a vs, v = .ref a ∧ H a = some (.dK (ks.zip vs)) ∧ ks.length = ds.length ∧ RelDs G io H ds vs := by
  cases r with
  | dct h1 h2 h3 h4 =>
    cases h
    exact ⟨_, _, rfl, h1, h3, h4⟩
  | @ref a i hi =>
    unfold dctD at h
    dsimp only at h
    split at h
    · rename_i ks' ds' hS
      cases h
      have q := so.ob i _ a hS hi
      cases q with
      | dct h1 h2 h3 => exact ⟨_, _, rfl, h1, h2, h3⟩
    · cases h
  | _ => cases h
/-- o["k"] -/
def mGetS (k : Str) (mo : Env → Store → R Dt) : Env → Store → R Dt := fun en S => (mo en S).bind fun x S1 => match dctD S1 x with
  | some (ks, ds) => match lookK ks ds (.inr k) with
    | some d => .ok d S1
    | none => .stuck
  | none => .stuck
theorem de_getS {o : Expr} {mo : Env → Store → R Dt} {k : Str} {j : Nat} {cp pos : Pos} (hu : X.A.units + 64 < cLine) (ho : DE G X W o mo) (hs : NoSl (.Constant (.str k) j cp)) : DE G X W (.Subscript o (.Constant (.str k) j cp) pos) (mGetS k mo) := by
  obtain ⟨t, p, q⟩ := ho
  refine ⟨_, pe_dget (by omega) p pe_str hs, fun io H S en σ Q so re h => ?_⟩
  refine q io H S en σ _ so re (h.bind.imp (fun _ _ _ _ z => z) fun x S1 i1 H1 g1 s1 k1 v r => ?_)
  split at k1
  · rename_i ks ds hd
    obtain ⟨a, vs, rfl, h1, h2, h3⟩ := dctD_ok s1 r hd
    split at k1
    · rename_i d hl
      obtain ⟨u, h4, h5⟩ := lookK_rel h3 hl
      refine ⟨a, u, rfl, ?_, k1 i1 H1 Grow.refl s1 u h5⟩
      rw [← h4]
      exact DGet.k (k := .inr k) h1
    · exact k1.elim
  · exact k1.elim
/-- a display's parts, as one judgement -/
def DD (G : Gv) (X : Cx) (W : WX) (pos : Pos) (keys : List (Option Expr)) (es : List Expr) (ks : List Str) (ms : List (Env → Store → R Dt)) : Prop := ∃ ts, DPs G X W ks es ts ms ∧ PPs X pos keys es ts
theorem dd_nil {pos : Pos} : DD G X W pos [] [] [] [] := ⟨[], .nil, pps_nil⟩
theorem dd_cons {pos kp : Pos} {k : Str} {j : Nat} {e : Expr} {m : Env → Store → R Dt} {keys : List (Option Expr)} {es : List Expr} {ks : List Str} {ms : List (Env → Store → R Dt)} (he : DE G X W e m) (r : DD G X W pos keys es ks ms) :
    DD G X W pos (some (.Constant (.str k) j kp) :: keys) (e :: es) (k :: ks) (m :: ms) := by
  obtain ⟨te, pe, q⟩ := he
  obtain ⟨ts, d, p⟩ := r
  exact ⟨_, .cons pe q d, pps_cons pe_str pe p⟩
theorem de_dd {pos : Pos} {keys : List (Option Expr)} {es : List Expr} {ks : List Str} {ms : List (Env → Store → R Dt)} (h : DD G X W pos keys es ks ms) (hall : keys.all (·.isSome) = true := by rfl) (hl : keys.length = es.length := by rfl) (h0 : keys ≠ [] := by exact List.cons_ne_nil _ _) (h15 : keys.length ≤ 15 := by exact Nat.le_of_ble_eq_true rfl) (hk : ks.length ≤ 15 := by exact Nat.le_of_ble_eq_true rfl) (nd : ks.Nodup := by decide +kernel) :
    DE G X W (.Dict keys es pos) (mDict ks ms) := by
  obtain ⟨ts, d, p⟩ := h
  exact de_dict d p hall hl h0 h15 hk nd
end
end Dv
set_option Elab.async false
set_option linter.all false
set_option maxRecDepth 100000
set_option maxHeartbeats 4000000
set_option autoImplicit false
/-! targets with a star: a, b, *c = a tuple -/
namespace PySem.W
open PySem PySem.Spec PySem.Calls PyProof.Rows
section
variable {prog : Program} {w : World} {A : Around} {E : Value → Shared → Prop} {s : Shared} {env : Env} {elts : List Expr} {k : Nat} {pos : Pos}
theorem dv_starT {l : Addr} {items : Array Value} {n i : Nat} {Q : List Value → Shared → Prop} (hl : IsTup s.heap l items) (hh : A.handled = none) (hi : i < n) (hn : n ≤ items.size + 1) (hz : items.size ≤ 16384)
    (h : ∀ (h2 : Heap) (tk : Nat), (∀ b o, s.heap.get? b = some o → h2.get? b = some o) → Q (items.toList.take i ++ [.ref h2.objs.size] ++ (items.toList.drop i).drop (items.size + 1 - n)) { s with heap := h2.push { cls := .type "list", data := .seq ((items.toList.drop i).take (items.size + 1 - n)).toArray }, toks := tk }) :
    wpAny (model prog w) A (unpackItems (.ref l) n (some i)) Q E s := by
  have hlt : l ≠ s.heap.objs.size := by obtain ⟨o, ho, _⟩ := hl; exact Nat.ne_of_lt (Heap.lt_size ho)
  have hll : l < s.heap.objs.size := by obtain ⟨o, ho, _⟩ := hl; exact Heap.lt_size ho
  unfold unpackItems
  refine wpAny_bind ?_
  unfold notIterableAtAll
  refine wpAny_bind (wpAny_specialOf hl.typeIs slot_tuple_iter.lookup ?_)
  refine wpAny_pure ?_
  simp only [Bool.false_eq_true, if_false]
  refine wpAny_bind (wpAny_holding (iter_tuple hl ?_))
  refine wpAny_bind (wpAny_holding (draw_tuple hlt i 0 _ _ ⟨_, Heap.get?_push_size _ rfl, rfl, rfl⟩ (hl.push _) (by omega) fun h₁ hit₁ hs₁ => ?_))
  have hl₁ : IsTup h₁ l items := (hl.push _).extBut hs₁.extBut hlt
  rw [Nat.zero_add] at hit₁
  have hit₁' := hit₁
  obtain ⟨oi, hoi, _⟩ := hit₁'
  have hl₁' := hl₁
  obtain ⟨ol, hol, _⟩ := hl₁'
  rw [List.drop_zero]
  have hfl : (items.toList.take i).length = i := by rw [List.length_take, Array.length_toList]; omega
  rw [if_neg (show ¬ ((items.toList.take i).length < i) by rw [hfl]; omega)]
  refine wpAny_bind (wpAny_holding (kun_collect (s := { s with heap := h₁ }) (T := "tuple_iterator") (.inr (.inr (.inr rfl))) (Walks.tuple (A := A.in1) hh s.heap.objs.size l hlt items) (fun j u st => st.1.typeIs) (k := i) (by omega) ⟨hit₁, hl₁⟩ (Heap.lt_size hoi) (Heap.lt_size hol) (fun h₂ tk hk => ?_) (by rw [sizeLine_eq]; omega)))
  have hrl : (items.toList.drop i).length = items.size - i := by rw [List.length_drop, Array.length_toList]
  have hmid : (items.toList.drop i).length - (n - 1 - i) = items.size + 1 - n := by rw [hrl]; omega
  show wpAny _ _ (if (items.toList.drop i).length < n - 1 - i then _ else _) _ _ _
  rw [if_neg (by rw [hrl]; omega)]
  show wpAny _ _ (newList ((items.toList.drop i).take ((items.toList.drop i).length - (n - 1 - i))) >>= fun d => pure (items.toList.take i ++ [d] ++ (items.toList.drop i).drop ((items.toList.drop i).length - (n - 1 - i)))) _ _ _
  rw [hmid]
  have he : Heap.ExtBut s.heap.objs.size s.heap h₂ := fun b o hb e => hk b o hb (hs₁.extBut b o hb (Heap.get?_push_of_some _ e))
  exact wpAny_bind (wpAny_newList (s := { s with heap := h₂, toks := tk }) (wpAny_pure (h h₂ tk fun b o e => he b o (Nat.ne_of_lt (Heap.lt_size e)) e)))
theorem dv_assignT {l : Addr} {items : Array Value} {n i : Nat} {Q : Unit → Shared → Prop} (hl : IsTup s.heap l items) (hh : A.handled = none) (hlen : (assignEach elts env).length = n) (hstar : (assignEach elts env).findIdx? (·.1) = some i)
    (hi : i < n) (hn : n ≤ items.size + 1) (hz : items.size ≤ 16384)
    (h : ∀ (h2 : Heap) (tk : Nat), (∀ b o, s.heap.get? b = some o → h2.get? b = some o) → wpAny (model prog w) A (assignInOrder ((assignEach elts env).map (·.2)) (items.toList.take i ++ [.ref h2.objs.size] ++ (items.toList.drop i).drop (items.size + 1 - n))) Q E
      { s with heap := h2.push { cls := .type "list", data := .seq ((items.toList.drop i).take (items.size + 1 - n)).toArray }, toks := tk }) :
    wpAny (model prog w) A (assign (.Tuple elts k pos) env (.ref l)) Q E s := by
  rw [assign_Tuple]
  refine wpAny_bind (wpAny_standAt ?_)
  unfold unpack
  rw [hlen, hstar]
  exact wpAny_bind (wpAny_holding (dv_starT hl hh hi hn hz h))
end
end PySem.W
namespace Dv
open PySem PySem.Spec PyProof.Rows L2
def gStar (K : PySem.W.Frag) (n i : Nat) (t : TGs) : TG := fun v σ H Q => ∃ a xs, v = .ref a ∧ SqT K H a xs ∧ n ≤ xs.length + 1 ∧ xs.length ≤ 16384 ∧ ∀ p, H p = none → t (xs.take i ++ [.ref p] ++ (xs.drop i).drop (xs.length + 1 - n)) σ (upd H p (.lst ((xs.drop i).take (xs.length + 1 - n)))) Q
theorem vals_take {xs : List V} {us : List Value} (k : Nat) (r : Vals xs us) : Vals (xs.take k) (us.take k) := by
  induction r generalizing k with
  | nil => simpa using Paired.nil
  | cons a b ih =>
    cases k with
    | zero => exact .nil
    | succ k => exact .cons a (ih k)
theorem vals_drop {xs : List V} {us : List Value} (k : Nat) (r : Vals xs us) : Vals (xs.drop k) (us.drop k) := by
  induction r generalizing k with
  | nil => simpa using Paired.nil
  | cons a b ih =>
    cases k with
    | zero => exact .cons a b
    | succ k => exact ih k
theorem pg_star {X : Cx} {es : List Expr} {k : Nat} {t : TGs} {n i : Nat} {pos : Pos} (hc : X.calm = true) (h : PGs X es t) (hi : i < n)
    (hn : (assignEach es X.env).length = n := by rfl) (hst : (assignEach es X.env).findIdx? (·.1) = some i := by rfl) : PG X (.Tuple es k pos) (gStar X.K n i t) := by
  refine ⟨fun pins s σ H v u Q I r hw => ?_⟩
  obtain ⟨a, xs, e1, hq, hl, hz2, hw⟩ := hw
  subst e1
  cases r
  obtain ⟨its, rv, ht, hz⟩ := I.tuple hq
  have lv : xs.length = its.length := rv.length
  have ls : its.toArray.size = xs.length := by rw [List.size_toArray, lv]
  refine PySem.W.dv_assignT ht (I.ok.hd hc) hn hst hi (by omega) (by omega) fun h2 tk hx => ?_
  have I1 : Inv X pins σ H { s with heap := h2 } := I.kept (t' := s.toks) fun b o e => hx b o e
  have hf : H h2.objs.size = none := I1.hok.fresh (Nat.le_refl _)
  rw [ls]
  have I2 : Inv X pins σ (upd H h2.objs.size (.lst ((xs.drop i).take (xs.length + 1 - n)))) { s with heap := h2.push { cls := .type "list", data := .seq ((its.drop i).take (xs.length + 1 - n)).toArray }, toks := tk } := by
    refine I1.laid (t' := tk) (fun b u e => Heap.get?_push_of_some _ e) (Nat.le_refl _) ?_
    refine ⟨?_, _, 0, vals_take _ (vals_drop i rv), Heap.get?_push_size _ rfl⟩
    rw [List.length_take, List.length_drop, sizeLine_eq]
    omega
  refine h.run pins _ σ _ _ _ Q I2 ?_ (hw _ hf)
  have r1 : Vals [V.ref h2.objs.size] [Value.ref h2.objs.size] := .cons rfl .nil
  exact ((vals_take i rv).append r1).append (vals_drop _ (vals_drop i rv))
section
variable {G : Gv} {X : Cx}
theorem dgs_star {tg : Expr} {tgs : List Expr} {p : Pos} {m : Dt → Env → Store → Option (Env × Store)} {ms : List Dt → Env → Store → Option (Env × Store)} (h1 : DG G X tg m) (h2 : DGs G X tgs ms)
    (hs : (assignEach (.Starred tg p :: tgs) X.env).map (·.2) = assign tg X.env :: (assignEach tgs X.env).map (·.2) := by rfl) (hs2 : (assignEach (tg :: tgs) X.env).map (·.2) = assign tg X.env :: (assignEach tgs X.env).map (·.2) := by rfl) : DGs G X (.Starred tg p :: tgs) (gCons' m ms) := by
  obtain ⟨g', p', q'⟩ := dgs_cons h1 h2 hs2
  refine ⟨g', ⟨fun pins s σ H vs us Q I r h => ?_⟩, q'⟩
  have k := p'.run pins s σ H vs us Q I r h
  rw [hs2] at k
  rw [hs]
  exact k
def gSt (n i : Nat) (m : List Dt → Env → Store → Option (Env × Store)) : Dt → Env → Store → Option (Env × Store) := fun d e S => match d with
  | .tup ds => if n ≤ ds.length + 1 ∧ ds.length ≤ 10000 then m (ds.take i ++ [.lst ((ds.drop i).take (ds.length + 1 - n))] ++ (ds.drop i).drop (ds.length + 1 - n)) e S else none
  | _ => none
theorem dg_star {es : List Expr} {k n i : Nat} {pos : Pos} {m : List Dt → Env → Store → Option (Env × Store)} (h : DGs G X es m) (hi : i < n := by exact Nat.le_of_ble_eq_true rfl) (hc : X.calm = true := by rfl) (hn : (assignEach es X.env).length = n := by rfl) (hst : (assignEach es X.env).findIdx? (·.1) = some i := by rfl)
    (hK : X.K = G.K := by rfl) : DG G X (.Tuple es k pos) (gSt n i m) := by
  obtain ⟨g, p, q⟩ := h
  refine ⟨_, pg_star hc p hi hn hst, fun io H S en σ d v Q so re r h => ?_⟩
  unfold gSt at h
  split at h
  · rename_i e' S' em
    split at em
    · rename_i ds
      split at em
      · rename_i hl
        obtain ⟨a, vs, rfl, h1, h2⟩ := asT_ok r rfl
        have l := h2.length
        refine ⟨a, vs, rfl, by rw [hK]; exact h1, by rw [← l]; exact hl.1, by rw [← l]; omega, fun b hb => ?_⟩
        rw [← l]
        have ex : ExtH H (upd H b (.lst ((vs.drop i).take (ds.length + 1 - n)))) := ExtH.new hb
        have h3 := h2.mono ex.grow
        have mid : RelD G io (upd H b (.lst ((vs.drop i).take (ds.length + 1 - n)))) (.lst ((ds.drop i).take (ds.length + 1 - n))) (.ref b) := .lst upd_same (so.fresh hb) ((h3.drop i).take _)
        refine q io _ S en σ _ _ Q (so.ext ex) (re.mono ex.grow) (((h3.take i).append (.cons mid .nil)).append ((h3.drop i).drop _)) ?_
        rw [em]
        exact fun io' H' g s σ' re' => h io' H' (ex.grow.trans g) s σ' re'
      · cases em
    · cases em
  · exact h.elim
end
end Dv
set_option Elab.async false
set_option linter.all false
set_option maxRecDepth 100000
set_option maxHeartbeats 4000000
set_option autoImplicit false
namespace Dv
open PySem PySem.Spec PyProof.Rows L2
/-! what the head decides of an exception of the text -/
end Dv
set_option Elab.async false
set_option linter.all false
set_option maxRecDepth 100000
set_option maxHeartbeats 4000000
set_option autoImplicit false
/-! every second item from a place on; turned about -/
namespace Dv
/-- every second item -/
def evens {α : Type} : List α → List α
  | [] => []
  | [x] => [x]
  | x :: _ :: r => x :: evens r
theorem evens_pick {α : Type} : ∀ (xs : List α), (List.range ((xs.length + 1) / 2)).filterMap (fun m => xs[2 * m]?) = evens xs
  | [] => by simp [evens]
  | [x] => by simp [evens, List.range_succ]
  | x :: y :: r => by
    have e : ((x :: y :: r).length + 1) / 2 = (r.length + 1) / 2 + 1 := by
      simp only [List.length_cons]
      omega
    rw [e, List.range_succ_eq_map, List.filterMap_cons]
    simp only [Nat.mul_zero, List.getElem?_cons_zero]
    rw [List.filterMap_map]
    have e2 : ((fun m => (x :: y :: r)[2 * m]?) ∘ Nat.succ) = fun m => r[2 * m]? := by
      funext m
      show (x :: y :: r)[2 * (m + 1)]? = _
      rw [show 2 * (m + 1) = 2 * m + 1 + 1 by omega, List.getElem?_cons_succ, List.getElem?_cons_succ]
    rw [e2, evens_pick r]
    rfl
theorem evens_at {α : Type} (xs : List α) (k c : Nat) (hc : c = (xs.length - k + 1) / 2) : (List.range c).filterMap (fun m => xs[k + 2 * m]?) = evens (xs.drop k) := by
  rw [← evens_pick (xs.drop k), List.length_drop, hc]
  congr 1
  funext m
  rw [List.getElem?_drop]
theorem evens_length {α : Type} : ∀ (xs : List α), (evens xs).length ≤ xs.length
  | [] => Nat.le_refl _
  | [_] => Nat.le_refl _
  | x :: y :: r => by
    have := evens_length r
    simp only [evens, List.length_cons]
    omega
open PySem PySem.Spec PyProof.Rows L2
section
variable {prog : Program} {w : World} {A : Around} {E : Value → Shared → Prop} {s : Shared}
/-- the place at which a slice from k on begins -/
def loIx (lo : Option Int) (n : Nat) : Nat := match lo with
  | none => 0
  | some k => min k.toNat n
theorem pick2 (items : Array Value) (lo : Option Int) (h0 : ∀ k, lo = some k → 0 ≤ k) : slicePick items lo none (some 2) = (evens (items.toList.drop (loIx lo items.size))).toArray := by
  unfold slicePick
  have e : sliceBounds lo none (some 2) items.size = (((loIx lo items.size : Nat) : Int), (items.size : Int), (2 : Int)) := by
    cases lo with
    | none => simp [sliceBounds, loIx]
    | some k =>
      have := h0 k rfl
      simp only [sliceBounds, loIx, Option.getD]
      refine Prod.ext ?_ (Prod.ext ?_ rfl)
      · simp
        omega
      · simp
  rw [e]
  dsimp only
  congr 1
  unfold sliceRange
  rw [List.filterMap_map]
  have hl : loIx lo items.size ≤ items.size := by
    unfold loIx
    split <;> omega
  have e2 : ((items[·]?) ∘ fun (k : Nat) => (((loIx lo items.size : Nat) : Int) + 2 * (k : Int)).toNat) = fun m => items.toList[loIx lo items.size + 2 * m]? := by
    funext m
    show items[(((loIx lo items.size : Nat) : Int) + 2 * (m : Int)).toNat]? = _
    rw [show (((loIx lo items.size : Nat) : Int) + 2 * (m : Int)).toNat = loIx lo items.size + 2 * m by omega, Array.getElem?_toList]
  rw [e2]
  refine evens_at items.toList _ _ ?_
  rw [Array.length_toList]
  simp only [show (2 : Int) > 0 by decide, if_true]
  split <;> omega
theorem sliceApplied2 {sl : Addr} {vl vu vs : Value} {lo : Option Int} {n : Nat} {Q : Int × Int × Nat → Shared → Prop} (hs : s.heap.IsSliceOf sl vl vu vs) (pl : IsPart vl lo) (pu : IsPart vu none) (ps : IsPart vs (some 2)) (h0 : ∀ k, lo = some k → 0 ≤ k)
    (h : Q (((loIx lo n : Nat) : Int), 2, (n - loIx lo n + 1) / 2) s) : wpAny (model prog w) A (Builtin.Slice.sliceApplied (.ref sl) (pure (n : Int))) Q E s := by
  obtain ⟨os, hos, hcs, hds⟩ := id hs
  unfold Builtin.Slice.sliceApplied Builtin.Slice.sliceFields
  refine wpAny_bind (wpAny_bind (wpAny_field hos hds (x := vl) rfl (wpAny_bind (wpAny_field hos hds (x := vu) rfl (wpAny_bind (wpAny_field hos hds (x := vs) rfl (wpAny_pure ?_)))))))
  refine wpAny_bind (HT.slicePart_ ps ?_)
  show wpAny _ _ (if ((2 : Int) == 0) = true then _ else _) _ _ s
  rw [if_neg (by decide)]
  refine wpAny_bind (HT.slicePart_ pl (wpAny_bind (HT.slicePart_ pu (wpAny_bind (wpAny_pure ?_)))))
  show wpAny _ _ (match Builtin.Slice.sliceAdjust lo none 2 (n : Int) with | (lo, hi) => pure (lo, (2 : Int), Builtin.Slice.slicePlaces lo hi 2)) _ _ s
  have e : Builtin.Slice.sliceAdjust lo none 2 (n : Int) = (((loIx lo n : Nat) : Int), (n : Int)) := by
    unfold Builtin.Slice.sliceAdjust
    cases lo with
    | none => rfl
    | some k =>
      have := h0 k rfl
      refine Prod.ext ?_ rfl
      simp only [loIx]
      rw [if_neg (by omega)]
      omega
  rw [e]
  show wpAny _ _ (pure (((loIx lo n : Nat) : Int), (2 : Int), Builtin.Slice.slicePlaces ((loIx lo n : Nat) : Int) (n : Int) 2)) _ _ s
  have hl : loIx lo n ≤ n := by
    unfold loIx
    split <;> omega
  have e2 : Builtin.Slice.slicePlaces ((loIx lo n : Nat) : Int) (n : Int) 2 = (n - loIx lo n + 1) / 2 := by
    unfold Builtin.Slice.slicePlaces
    simp only [show (2 : Int) > 0 by decide, if_true]
    split <;> omega
  rw [e2]
  exact wpAny_pure h
theorem getItem_tuple2 {t sl : Addr} {items : Array Value} {vl vu vs : Value} {lo : Option Int} {Q : Value → Shared → Prop} (ht : IsTup s.heap t items) (hs : s.heap.IsSliceOf sl vl vu vs) (pl : IsPart vl lo) (pu : IsPart vu none) (ps : IsPart vs (some 2)) (h0 : ∀ k, lo = some k → 0 ≤ k)
    (h : Q (.ref s.heap.objs.size) { s with heap := s.heap.push { cls := .type "tuple", data := .seq (evens (items.toList.drop (loIx lo items.size))).toArray } })
    (hsz : items.size ≤ sizeLine) : wpAny (model prog w) A (getItem (.ref t) (.ref sl)) Q E s := by
  have htake : sizeOk (.seq (evens (items.toList.drop (loIx lo items.size))).toArray) := by
    show (evens (items.toList.drop (loIx lo items.size))).toArray.size ≤ sizeLine
    rw [List.size_toArray]
    have := evens_length (items.toList.drop (loIx lo items.size))
    rw [List.length_drop, Array.length_toList (xs := items)] at this
    omega
  obtain ⟨os, hos, hcs, hds⟩ := id hs
  have hTs : s.TypeIs (.ref sl) "slice" := ⟨os, hos, hcs⟩
  unfold getItem
  try with_reducible refine wpAny_holding ?_
  first | refine wpAny_bind (wpAny_pure ?_) | skip
  refine wpAny_bind (wpAny_sequenceKey ht.typeIs (by decide) ?_)
  refine wpAny_bind (wpAny_callSpecial?_slot (name := Str.ofString "__getitem__") ht.typeIs PyProof.Rows.slot_tuple_getitem
    (wpAny_call_entry PyProof.Rows.slot_tuple_getitem ht.typeIs entry_tuple_getitem ?_ (args_tuple_getitem _ _)))
  show wpAny _ _ (Builtin.Tuple.tupleItemsOf (.ref t) >>= _) _ _ s
  refine wpAny_bind (tupleItemsOf_ ht ?_)
  refine wpAny_bind (wpAny_typeOf hTs ?_)
  rw [if_pos (by decide)]
  refine wpAny_bind (sliceApplied2 hs pl pu ps h0 ?_)
  have hno : ¬ ((((loIx lo items.size : Nat) : Int) == 0 && (2 : Int) == 1 && (items.size - loIx lo items.size + 1) / 2 == items.size) = true) := by
    intro q
    rw [Bool.and_eq_true, Bool.and_eq_true] at q
    exact absurd q.1.2 (by decide)
  show wpAny _ _ (if (((loIx lo items.size : Nat) : Int) == 0 && (2 : Int) == 1 && (items.size - loIx lo items.size + 1) / 2 == items.size) = true then _ else _) _ _ s
  have e : ((List.range ((items.size - loIx lo items.size + 1) / 2)).filterMap fun (m : Nat) => items[(((loIx lo items.size : Nat) : Int) + (m : Int) * 2).toNat]?).toArray = (evens (items.toList.drop (loIx lo items.size))).toArray := by
    congr 1
    rw [← evens_at items.toList _ _ (by rw [Array.length_toList])]
    congr 1
    funext m
    rw [show (((loIx lo items.size : Nat) : Int) + (m : Int) * 2).toNat = loIx lo items.size + 2 * m by omega, Array.getElem?_toList]
  rw [if_neg hno, e]
  first
    | exact wpAny_bind (m := Builtin.Tuple.tupleExact _) (wpAny_newObj_type (wpAny_pure ⟨_, rfl, wpAny_pure h⟩) htake)
    | exact wpAny_bind (m := Builtin.Tuple.tupleExact _) (wpAny_newObj_type (wpAny_bind (wpAny_pure (wpAny_pure ⟨_, rfl, wpAny_pure h⟩))) htake)
    | exact wpAny_bind (wpAny_bind (m := Builtin.Tuple.tupleExact _) (wpAny_newObj_type (wpAny_pure (wpAny_pure ⟨_, rfl, wpAny_pure h⟩)) htake))
    | exact wpAny_bind (wpAny_bind (m := Builtin.Tuple.tupleExact _) (wpAny_newObj_type (wpAny_pure ⟨_, rfl, wpAny_pure h⟩) htake))
end
theorem vals_evens : ∀ {xs : List V} {us : List Value}, Vals xs us → Vals (evens xs) (evens us)
  | _, _, .nil => .nil
  | _, _, .cons h .nil => .cons h .nil
  | _, _, .cons h (.cons _ r) => .cons h (vals_evens r)
theorem rel_evens {G : Gv} {io : Io} {H : Hp} : ∀ {ds : List Dt} {vs : List V}, RelDs G io H ds vs → RelDs G io H (evens ds) (evens vs)
  | _, _, .nil => .nil
  | _, _, .cons h .nil => .cons h .nil
  | _, _, .cons h (.cons _ r) => .cons h (rel_evens r)
theorem vals_dropk {xs : List V} {us : List Value} (k : Nat) (r : Vals xs us) : Vals (xs.drop k) (us.drop k) := by
  induction k generalizing xs us with
  | zero => exact r
  | succ k ih => cases r with
    | nil => exact .nil
    | cons _ r => exact ih r
def tEv (K : PySem.W.Frag) (lo : Option Int) (te : TE) : TE := fun σ H Q => te σ H fun x H1 => ∃ a xs, x = .ref a ∧ ((SqL K H1 a xs ∧ ∀ p, H1 p = none → Q (.ref p) (upd H1 p (.lst (evens (xs.drop (loIx lo xs.length)))))) ∨ (SqT K H1 a xs ∧ ∀ p, H1 p = none → Q (.ref p) (upd H1 p (.tup (evens (xs.drop (loIx lo xs.length)))))))
theorem pe_ev {X : Cx} {e : Expr} {te : TE} {l : Option Expr} {lo : Option Int} {k : Nat} {p1 p3 pos : Pos} (he : PE X e te) (hl : ∀ pins s σ H (I : Inv X pins σ H s), ∃ t, PO X l t ∧ ∀ Q, Q lo H → t σ H Q) (h0 : ∀ k, lo = some k → 0 ≤ k) :
    PE X (.Subscript e (.Slice l none (some (.Constant (.int 2) k p1)) p3) pos) (tEv X.K lo te) := by
  refine ⟨fun pins s σ H Q I h => ?_⟩
  refine Subscript_ (thn (he.run pins s σ H _ I h) fun v s1 ⟨x, H1, I1, r1, q1⟩ => ?_)
  obtain ⟨a, xs, ex, q⟩ := q1
  subst ex
  cases r1
  have hst : PO X (some (.Constant (.int 2) k p1)) (tPart (tC (.int 2))) := po_some pe_int
  obtain ⟨t, po, ht⟩ := hl pins s1 σ H1 I1
  refine wpAny_Slice (thn (po.run pins s1 σ H1 (fun o H2 => o = lo ∧ H2 = H1) I1 (ht _ ⟨rfl, rfl⟩)) fun vl s2 ⟨l, H2, I2, pl, el, e2⟩ => ?_)
  subst el e2
  refine thn (po_none.run pins s2 σ H2 (fun o H3 => o = none ∧ H3 = H2) I2 ⟨rfl, rfl⟩) fun vu s3 ⟨u, H3, I3, pu, eu, e3⟩ => ?_
  subst eu e3
  refine thn (hst.run pins s3 σ H3 (fun o H4 => o = some 2 ∧ H4 = H3) I3 ⟨2, rfl, rfl, rfl⟩) fun vs s4 ⟨o, H4, I4, ps, eo, e4⟩ => ?_
  subst eo e4
  have I5 : Inv X pins σ H4 { s4 with heap := s4.heap.push { cls := .type "slice", data := .fields #[vl, vu, vs] } } := I4.kept (t' := s4.toks) fun b ob q => Heap.get?_push_of_some _ q
  show wpAny (model X.prog X.w) X.A (subscriptTail e (.Slice _ none (some (.Constant (.int 2) k p1)) p3) (.ref a) (.ref s4.heap.objs.size)) (EP X pins σ Q) X.xe { s4 with heap := s4.heap.push { cls := .type "slice", data := .fields #[vl, vu, vs] } }
  rcases q with ⟨hx, q⟩ | ⟨hx, q⟩
  · obtain ⟨its, r, ht, hz⟩ := I5.list hx
    have hlen := r.length
    refine tail_any (ops := [.ref a, .ref s4.heap.objs.size]) ht.isList.typeIs (PySem.slot_list_getitem.lookup) ?_ (by with_unfolding_all rfl)
    refine wpAny_getItem_list_slice ht.isList (Heap.IsSliceOf.new _ vl vu vs) pl pu ps (by decide) ?_ (by rw [List.size_toArray]; omega)
    rw [pick2 _ _ h0, show its.toArray.size = xs.length by rw [List.size_toArray, hlen]]
    refine ⟨.ref _, _, I5.laid (t' := s4.toks) (o := .lst (evens (xs.drop (loIx l xs.length)))) (fun b ob q => Heap.get?_push_of_some _ q) (Nat.le_refl _) ?_, rfl, q _ (I5.hok.fresh (Nat.le_refl _))⟩
    refine ⟨?_, _, 0, vals_evens (vals_dropk _ r), Heap.get?_push_size _ rfl⟩
    have z := evens_length (xs.drop (loIx l xs.length))
    rw [List.length_drop] at z
    omega
  · obtain ⟨its, r, ht, hz⟩ := I5.tuple hx
    have hlen := r.length
    refine tail_any (ops := [.ref a, .ref s4.heap.objs.size]) ht.typeIs (PyProof.Rows.slot_tuple_getitem.lookup) ?_ (by with_unfolding_all rfl)
    refine getItem_tuple2 ht (Heap.IsSliceOf.new _ vl vu vs) pl pu ps h0 ?_ (by rw [List.size_toArray]; omega)
    rw [show its.toArray.size = xs.length by rw [List.size_toArray, hlen]]
    refine ⟨.ref _, _, I5.laid (t' := s4.toks) (o := .tup (evens (xs.drop (loIx l xs.length)))) (fun b ob q => Heap.get?_push_of_some _ q) (Nat.le_refl _) ?_, rfl, q _ (I5.hok.fresh (Nat.le_refl _))⟩
    refine ⟨?_, _, vals_evens (vals_dropk _ r), IsTup.new _ _⟩
    have z := evens_length (xs.drop (loIx l xs.length))
    rw [List.length_drop] at z
    omega
def mEv (k : Nat) (m : Env → Store → R Dt) : Env → Store → R Dt := fun en S => (m en S).bind fun x S1 => match x with
  | .tup ds => .ok (.tup (evens (ds.drop k))) S1
  | x => match asL S1 x with
    | some ds => .ok (.lst (evens (ds.drop k))) S1
    | none => .stuck
/-- xs[::-1] -/
def mRev (m : Env → Store → R Dt) : Env → Store → R Dt := fun en S => (m en S).bind fun x S1 => match asL S1 x with
    | some ds => .ok (.lst ds.reverse) S1
    | none => .stuck
section
variable {G : Gv} {X : Cx} {W : WX} {e : Expr} {m : Env → Store → R Dt} {j1 j2 : Nat} {p1 p2 p3 p4 pos : Pos}
theorem dropIx {α : Type} (xs : List α) (k : Nat) : xs.drop (min k xs.length) = xs.drop k := by
  by_cases h : k ≤ xs.length
  · rw [Nat.min_eq_left h]
  · rw [Nat.min_eq_right (by omega), List.drop_length, List.drop_eq_nil_of_le (by omega)]
theorem simE_ev {te : TE} {lo : Option Int} {k : Nat} (hk : ∀ n : Nat, loIx lo n = min k n) (hK : X.K = G.K) (he : SimE G W te m) : SimE G W (tEv X.K lo te) (mEv k m) := by
  intro io H S en σ Q so re h
  refine he io H S en σ _ so re (h.bind.imp (fun _ _ _ _ z => z) fun x S1 i1 H1 g1 s1 k1 v rx => ?_)
  split at k1
  · rename_i ds
    obtain ⟨a, vs, rfl, h1, h2⟩ := asT_ok rx rfl
    refine ⟨a, vs, rfl, .inr ⟨by rw [hK]; exact h1, fun p hp => ?_⟩⟩
    rw [hk, dropIx]
    exact out_tup s1 (rel_evens (h2.drop k)) k1 hp
  · split at k1
    · rename_i ds hl
      obtain ⟨a, vs, rfl, h1, h2⟩ := asL_ok s1 rx hl
      refine ⟨a, vs, rfl, .inl ⟨by rw [hK]; exact h1, fun p hp => ?_⟩⟩
      rw [hk, dropIx]
      exact out_lst s1 (rel_evens (h2.drop k)) k1 hp
    · exact k1.elim
theorem de_ev (k : Nat) {i : Int} (ha : DE G X W e m) (hi : i = (k : Int) := by rfl) (hK : X.K = G.K := by rfl) : DE G X W (.Subscript e (.Slice (some (.Constant (.int i) j2 p2)) none (some (.Constant (.int 2) j1 p1)) p3) pos) (mEv k m) := by
  obtain ⟨t, p, q⟩ := ha
  refine ⟨_, pe_ev (lo := some i) p (fun pins s σ H I => ⟨_, po_some pe_int, fun Q h => ⟨i, rfl, h⟩⟩) (fun z h => by cases h; omega), simE_ev (fun n => ?_) hK q⟩
  subst hi
  simp [loIx]
theorem de_rev {k : Nat} (ha : DE G X W e m) (hK : X.K = G.K := by rfl) : DE G X W (.Subscript e (.Slice none none (some (.UnaryOp .USub (.Constant (.int 1) k p1) p2)) p3) pos) (mRev m) := by
  obtain ⟨t, p, q⟩ := ha
  refine ⟨_, pe_revL p, fun io H S en σ Q so re h => ?_⟩
  refine q io H S en σ _ so re (h.bind.imp (fun _ _ _ _ z => z) fun x S1 i1 H1 g1 s1 k1 v rx => ?_)
  split at k1
  · rename_i ds hl
    obtain ⟨a, vs, rfl, h1, h2⟩ := asL_ok s1 rx hl
    exact ⟨a, vs, rfl, by rw [hK]; exact h1, fun p hp => out_lst s1 h2.reverse k1 hp⟩
  · exact k1.elim
end
end Dv
set_option Elab.async false
set_option linter.all false
set_option maxRecDepth 100000
set_option maxHeartbeats 4000000
set_option autoImplicit false
/-! zip of two lists of like length (strict), enumerate of a list -/
namespace Dv
open PySem PySem.Spec PyProof.Rows L2
section
variable {prog : Program} {w : World} {A : Around} {E : Value → Shared → Prop} {s : Shared}
theorem next_item {it l : Addr} {i : Nat} {items : Array Value} {x : Value} {Q : Option Value → Shared → Prop} (hit : s.heap.IsListIter it l i) (hl : s.heap.IsList l items) (hx : items[i]? = some x)
    (hQ : ∀ h', h'.IsListIter it l (i + 1) → Heap.SameBut it s.heap h' → Q (some x) { s with heap := h' }) : wpAny (model prog w) A (Builtin.SmallTypes.nextOrEnd (.ref it)) Q E s := by
  unfold Builtin.SmallTypes.nextOrEnd
  exact wpAny_bind (wpAny_attempt (wpAny_nextOf_list_item hit hl hx fun h' a b => wpAny_pure (hQ h' a b)))
theorem next_end {it l : Addr} {i : Nat} {items : Array Value} {Q : Option Value → Shared → Prop} (hh : A.handled = none) (hit : s.heap.IsListIter it l i) (hl : s.heap.IsList l items) (hx : items[i]? = none)
    (hQ : ∀ h', Heap.ExtBut it s.heap h' → Q none { s with heap := h' }) : wpAny (model prog w) A (Builtin.SmallTypes.nextOrEnd (.ref it)) Q E s := by
  unfold Builtin.SmallTypes.nextOrEnd
  refine wpAny_bind (wpAny_attempt (wpAny_nextOf_list_end hh hit hl hx fun h' e hb he => ?_))
  obtain ⟨o, ho, hc⟩ := he
  exact wpAny_bind (wpAny_isInstance (T := "StopIteration") (b := true) ⟨o, ho, hc⟩ isSubtype_stop (wpAny_pure (hQ h' hb)))
/-- a zip told to be strict -/
abbrev IsZs (h : Heap) (z TI TO : Addr) (f0 : Value) : Prop := h.get? z = some { cls := .type "zip", dict := none, data := .fields #[f0, .bool false, .bool true, .ref TI, .ref TO], slots := #[] }
theorem zs_item {z TI TO i1 i2 l1 l2 : Addr} {k1 k2 : Nat} {xs ys : Array Value} {x y a b : Value} {Q : Value → Shared → Prop} (D : ZipApart z TI TO i1 i2 l1 l2)
    (hz : IsZs s.heap z TI TO .none) (hTI : IsPair s.heap TI (.ref i1) (.ref i2)) (hTO : IsPair s.heap TO a b)
    (h1 : s.heap.IsListIter i1 l1 k1) (h2 : s.heap.IsListIter i2 l2 k2) (hl1 : s.heap.IsList l1 xs) (hl2 : s.heap.IsList l2 ys) (hx : xs[k1]? = some x) (hy : ys[k2]? = some y)
    (hQ : ∀ h', IsZs h' z TI TO (rawInt s.heap.objs.size) → IsPair h' TO x y → h'.IsListIter i1 l1 (k1 + 1) → h'.IsListIter i2 l2 (k2 + 1) → IsPair h' s.heap.objs.size x y → h'.objs.size = s.heap.objs.size + 1 →
      (∀ c o, c ≠ z → c ≠ TO → c ≠ i1 → c ≠ i2 → s.heap.get? c = some o → h'.get? c = some o) → Q (.ref s.heap.objs.size) { s with heap := h' }) :
    wpAny (model prog w) A (Builtin.«zip.__next__» ⟨[.ref z], []⟩) (fun fin s' => ∃ v, fin = .done (.ret v) ∧ Q v s') E s := by
  show wpAny _ _ (field (.ref z) 2 >>= _) _ _ _
  refine wpAny_bind (wpAny_field hz rfl (x := .bool true) rfl ?_)
  show wpAny _ _ (field (.ref z) 3 >>= _) _ _ _
  refine wpAny_bind (wpAny_field hz rfl (x := .ref TI) rfl (wpAny_bind (wpAny_seqItems hTI rfl ?_)))
  show wpAny _ _ (Builtin.SmallTypes.ownedTupleIsFree (.ref z) >>= _) _ _ _
  refine wpAny_bind ?_
  unfold Builtin.SmallTypes.ownedTupleIsFree
  refine wpAny_bind (wpAny_field hz rfl (x := .none) rfl (wpAny_pure ?_))
  simp only [if_true]
  refine wpAny_bind (wpAny_rule (wpAny_bind (wpAny_field hz rfl (x := .ref TO) rfl ?_)))
  refine wpAny_bind (wpAny_setField_rec hz (by simp) fun g1 z1 b1 => wpAny_bind ?_)
  replace z1 : IsZs g1 z TI TO .ellipsis := z1
  simp only [List.zipIdx_cons, List.zipIdx_nil, List.forIn_cons, List.forIn_nil]
  have it1 := h1.extBut b1.extBut D.i1z
  have ll1 := hl1.extBut b1.extBut D.l1z
  refine wpAny_bind (wpAny_bind (wpAny_onRaise ?_))
  show wpAny _ _ (Builtin.SmallTypes.nextOrEnd (.ref i1)) _ _ _
  refine next_item it1 ll1 hx fun g2 n1 b2 => ?_
  have p2 : IsPair g2 TO a b := b2.extBut _ _ D.TOi1 (b1.extBut _ _ D.TOz hTO)
  refine wpAny_bind (wpAny_seqItems p2 rfl (wpAny_bind (wpAny_updateSeq_pair p2 fun g3 p3 b3 => ?_)))
  replace p3 : IsPair g3 TO x b := p3
  refine wpAny_bind (wpAny_letGo (wpAny_pure ?_))
  have it2 := ((h2.extBut b1.extBut D.i2z).extBut b2.extBut D.i12.symm).extBut b3.extBut D.TOi2.symm
  have ll2 := ((hl2.extBut b1.extBut D.l2z).extBut b2.extBut D.l2i1).extBut b3.extBut D.l2TO
  refine wpAny_bind (wpAny_bind (wpAny_onRaise ?_))
  show wpAny _ _ (Builtin.SmallTypes.nextOrEnd (.ref i2)) _ _ _
  refine next_item it2 ll2 hy fun g4 n2 b4 => ?_
  have p4 : IsPair g4 TO x b := b4.extBut _ _ D.TOi2 p3
  refine wpAny_bind (wpAny_seqItems p4 rfl (wpAny_bind (wpAny_updateSeq_pair p4 fun g5 p5 b5 => ?_)))
  replace p5 : IsPair g5 TO x y := p5
  refine wpAny_bind (wpAny_letGo (wpAny_pure (wpAny_pure ?_)))
  refine wpAny_bind (wpAny_seqItems p5 rfl (wpAny_bind (wpAny_newTuple ?_)))
  have sz : g5.objs.size = s.heap.objs.size := by rw [b5.1, b4.1, b3.1, b2.1, b1.1]
  have z5 : IsZs g5 z TI TO .ellipsis := b5.extBut _ _ D.TOz.symm (b4.extBut _ _ D.i2z.symm (b3.extBut _ _ D.TOz.symm (b2.extBut _ _ D.i1z.symm z1)))
  have k5 : ∀ c o, c ≠ z → c ≠ TO → c ≠ i1 → c ≠ i2 → s.heap.get? c = some o → g5.get? c = some o := fun c o c1 c2 c3 c4 e =>
    b5.extBut _ _ c2 (b4.extBut _ _ c4 (b3.extBut _ _ c2 (b2.extBut _ _ c3 (b1.extBut _ _ c1 e))))
  have n15 : g5.IsListIter i1 l1 (k1 + 1) := ((n1.extBut b3.extBut D.TOi1.symm).extBut b4.extBut D.i12).extBut b5.extBut D.TOi1.symm
  have n25 : g5.IsListIter i2 l2 (k2 + 1) := n2.extBut b5.extBut D.TOi2.symm
  have zlt : z < g5.objs.size := Heap.lt_size z5
  show wpAny _ _ (Builtin.SmallTypes.ownedTupleHandOut (.ref z) (.ref g5.objs.size) >>= _) _ _ _
  refine wpAny_bind ?_
  unfold Builtin.SmallTypes.ownedTupleHandOut
  have z6 : IsZs (g5.push { cls := .type "tuple", data := .seq #[x, y] }) z TI TO .ellipsis := Heap.get?_push_of_some _ z5
  refine wpAny_bind (wpAny_setField_rec z6 (by simp) fun g7 z7 b7 => ?_)
  replace z7 : IsZs g7 z TI TO (rawInt g5.objs.size) := z7
  refine wpAny_setField_rec z7 (by simp) fun g8 z8 b8 => wpAny_pure ⟨_, rfl, ?_⟩
  replace z8 : IsZs g8 z TI TO (rawInt g5.objs.size) := z8
  have up : ∀ c o, c ≠ z → g5.get? c = some o → g8.get? c = some o := fun c o c1 e => b8.extBut _ _ c1 (b7.extBut _ _ c1 (Heap.get?_push_of_some _ e))
  have t8 : IsPair g8 g5.objs.size x y := b8.extBut _ _ (Nat.ne_of_gt zlt) (b7.extBut _ _ (Nat.ne_of_gt zlt) (Heap.get?_push_size _ rfl))
  have s8 : g8.objs.size = g5.objs.size + 1 := by rw [b8.1, b7.1, Heap.size_push]
  rw [sz] at z8 t8 s8
  show Q (.ref g5.objs.size) _
  rw [sz]
  exact hQ g8 z8 (up _ _ D.TOz p5) (n15.at fun o e => up _ o D.i1z e) (n25.at fun o e => up _ o D.i2z e) t8 s8 fun c o c1 c2 c3 c4 e => up c o c1 (k5 c o c1 c2 c3 c4 e)
theorem zs_end {z TI TO i1 i2 l1 l2 : Addr} {k1 k2 : Nat} {xs ys : Array Value} {a b : Value} {Q : Fin → Shared → Prop} (hh : A.handled = none) (D : ZipApart z TI TO i1 i2 l1 l2)
    (hz : IsZs s.heap z TI TO .none) (hTI : IsPair s.heap TI (.ref i1) (.ref i2)) (hTO : IsPair s.heap TO a b)
    (h1 : s.heap.IsListIter i1 l1 k1) (h2 : s.heap.IsListIter i2 l2 k2) (hl1 : s.heap.IsList l1 xs) (hl2 : s.heap.IsList l2 ys) (hx : xs[k1]? = none) (hy : ys[k2]? = none)
    (hE : ∀ h' e, (∀ c o, c ≠ z → c ≠ TO → c ≠ i1 → c ≠ i2 → s.heap.get? c = some o → h'.get? c = some o) → (∃ o, h'.get? e = some o ∧ o.cls = .type "StopIteration") → E (.ref e) { s with heap := h' }) :
    wpAny (model prog w) A (Builtin.«zip.__next__» ⟨[.ref z], []⟩) Q E s := by
  show wpAny _ _ (field (.ref z) 2 >>= _) _ _ _
  refine wpAny_bind (wpAny_field hz rfl (x := .bool true) rfl ?_)
  show wpAny _ _ (field (.ref z) 3 >>= _) _ _ _
  refine wpAny_bind (wpAny_field hz rfl (x := .ref TI) rfl (wpAny_bind (wpAny_seqItems hTI rfl ?_)))
  show wpAny _ _ (Builtin.SmallTypes.ownedTupleIsFree (.ref z) >>= _) _ _ _
  refine wpAny_bind ?_
  unfold Builtin.SmallTypes.ownedTupleIsFree
  refine wpAny_bind (wpAny_field hz rfl (x := .none) rfl (wpAny_pure ?_))
  simp only [if_true]
  refine wpAny_bind (wpAny_rule (wpAny_bind (wpAny_field hz rfl (x := .ref TO) rfl ?_)))
  refine wpAny_bind (wpAny_setField_rec hz (by simp) fun g1 z1 b1 => wpAny_bind ?_)
  replace z1 : IsZs g1 z TI TO .ellipsis := z1
  simp only [List.zipIdx_cons, List.zipIdx_nil, List.forIn_cons, List.forIn_nil]
  have it1 := h1.extBut b1.extBut D.i1z
  have ll1 := hl1.extBut b1.extBut D.l1z
  refine wpAny_bind (wpAny_bind (wpAny_onRaise ?_))
  show wpAny _ _ (Builtin.SmallTypes.nextOrEnd (.ref i1)) _ _ _
  refine next_end hh it1 ll1 hx fun g2 b2 => ?_
  have z2 : IsZs g2 z TI TO .ellipsis := b2 _ _ D.i1z.symm z1
  refine wpAny_bind (wpAny_setField_rec z2 (by simp) fun g3 z3 b3 => ?_)
  have it2 := ((h2.extBut b1.extBut D.i2z).extBut b2 D.i12.symm).extBut b3.extBut D.i2z
  have ll2 := ((hl2.extBut b1.extBut D.l2z).extBut b2 D.l2i1).extBut b3.extBut D.l2z
  refine wpAny_bind (wpAny_mono (Q := fun _ _ => False) (E := E) ?_ (fun _ _ f => f.elim) fun _ _ e => e)
  refine wpAny_bind ?_
  have hno : ¬ ((0 : Nat) > 0) := Nat.lt_irrefl 0
  simp only [show ((0 : Nat) > 0) = False from eq_false hno, if_false, List.drop_succ_cons, List.drop_zero, List.zipIdx_cons, List.zipIdx_nil, List.forIn_cons, List.forIn_nil]
  refine wpAny_bind (wpAny_bind (next_end hh it2 ll2 hy fun g4 b4 => ?_))
  simp only [Option.isSome_none, Bool.false_eq_true, if_false]
  refine wpAny_pure (wpAny_pure ?_)
  refine wpAny_bind (wpAny_rule ?_)
  unfold Builtin.SmallTypes.stopIteration
  show wpAny _ _ (newExc (.type "StopIteration") [] >>= _) _ _ _
  refine wpAny_bind ?_
  simp only [newExc, newTuple]
  refine wpAny_bind (wpAny_newObj_type ?_ (by size_fits))
  refine wpAny_bind (m := firstArgMember _ _) (wpAny_of_eq (a := Value.none) (by first | rfl | (simp only [firstArgMember]; rfl)) (wpAny_newObj_type ?_ (by size_fits)))
  simp only [raiseNew]
  refine wpAny_bind (wpAny_handled ?_)
  rw [hh]
  refine wpAny_bind (wpAny_pure (wpAny_throw (hE _ _ (fun c o c1 _ c3 c4 q => ?_) ⟨_, Heap.get?_push_size _ rfl, rfl⟩)))
  exact Heap.get?_push_of_some _ (Heap.get?_push_of_some _ (b4 _ _ c4 (b3.extBut _ _ c1 (b2 _ _ c3 (b1.extBut _ _ c1 q)))))
theorem nx_item {z TI TO i1 i2 l1 l2 : Addr} {k1 k2 : Nat} {xs ys : Array Value} {x y a b : Value} {Q : Option Value → Shared → Prop} (D : ZipApart z TI TO i1 i2 l1 l2)
    (hz : IsZs s.heap z TI TO .none) (hTI : IsPair s.heap TI (.ref i1) (.ref i2)) (hTO : IsPair s.heap TO a b)
    (h1 : s.heap.IsListIter i1 l1 k1) (h2 : s.heap.IsListIter i2 l2 k2) (hl1 : s.heap.IsList l1 xs) (hl2 : s.heap.IsList l2 ys) (hx : xs[k1]? = some x) (hy : ys[k2]? = some y)
    (hQ : ∀ h', IsZs h' z TI TO (rawInt s.heap.objs.size) → IsPair h' TO x y → h'.IsListIter i1 l1 (k1 + 1) → h'.IsListIter i2 l2 (k2 + 1) → IsPair h' s.heap.objs.size x y → h'.objs.size = s.heap.objs.size + 1 →
      (∀ c o, c ≠ z → c ≠ TO → c ≠ i1 → c ≠ i2 → s.heap.get? c = some o → h'.get? c = some o) → Q (some (.ref s.heap.objs.size)) { s with heap := h' }) :
    wpAny (model prog w) A (pyNext (.ref z)) Q E s := by
  have hT : s.TypeIs (.ref z) "zip" := ⟨_, hz, rfl⟩
  unfold pyNext
  refine wpAny_bind (wpAny_attempt (wpAny_callSpecial?_slot (name := Str.ofString "__next__") hT F.slot_zip_next (wpAny_call_entry F.slot_zip_next hT F.entry_zip_next ?_ (F.args_zip_next_1 _))))
  exact zs_item D hz hTI hTO h1 h2 hl1 hl2 hx hy fun h' a1 a2 a3 a4 a5 a6 a7 => wpAny_pure (hQ h' a1 a2 a3 a4 a5 a6 a7)
theorem nx_end {z TI TO i1 i2 l1 l2 : Addr} {k1 k2 : Nat} {xs ys : Array Value} {a b : Value} {Q : Option Value → Shared → Prop} (hh : A.handled = none) (D : ZipApart z TI TO i1 i2 l1 l2)
    (hz : IsZs s.heap z TI TO .none) (hTI : IsPair s.heap TI (.ref i1) (.ref i2)) (hTO : IsPair s.heap TO a b)
    (h1 : s.heap.IsListIter i1 l1 k1) (h2 : s.heap.IsListIter i2 l2 k2) (hl1 : s.heap.IsList l1 xs) (hl2 : s.heap.IsList l2 ys) (hx : xs[k1]? = none) (hy : ys[k2]? = none)
    (hQ : ∀ h', (∀ c o, c ≠ z → c ≠ TO → c ≠ i1 → c ≠ i2 → s.heap.get? c = some o → h'.get? c = some o) → Q none { s with heap := h' }) : wpAny (model prog w) A (pyNext (.ref z)) Q E s := by
  have hT : s.TypeIs (.ref z) "zip" := ⟨_, hz, rfl⟩
  unfold pyNext
  refine wpAny_bind (wpAny_attempt (wpAny_callSpecial?_slot (name := Str.ofString "__next__") hT F.slot_zip_next (wpAny_call_entry F.slot_zip_next hT F.entry_zip_next ?_ (F.args_zip_next_1 _))))
  refine zs_end hh D hz hTI hTO h1 h2 hl1 hl2 hx hy fun h' e hk he => ?_
  obtain ⟨o, ho, hc⟩ := he
  exact wpAny_bind (wpAny_isInstance (T := "StopIteration") (b := true) ⟨o, ho, hc⟩ isSubtype_stop (wpAny_pure (hQ _ hk)))
theorem go_zs {elts : List Expr} {x1} {pos : Pos} {z TI TO T : Addr} {Q : Unit → Shared → Prop} (hz : IsZs s.heap z TI TO (rawInt T))
    (hQ : ∀ h', IsZs h' z TI TO .none → Heap.SameBut z s.heap h' → Q () { s with heap := h' }) : wpAny (model prog w) A (letOwnedTupleGo (.Tuple elts x1 pos) (.ref z) (.ref T)) Q E s := by
  unfold letOwnedTupleGo
  refine wpAny_bind (wpAny_load hz ?_)
  show wpAny _ _ (if (["enumerate", "zip", "dict_itemiterator", "dict_reverseitemiterator", "odict_iterator", "itertools.zip_longest", "itertools.pairwise"].contains "zip" &&
      (#[rawInt T, .bool false, .bool true, .ref TI, .ref TO] : Array Value)[0]? == some (rawInt T)) = true then _ else _) Q E s
  rw [if_pos (by simp)]
  refine wpAny_bind (wpAny_rule ?_)
  show wpAny _ _ (setField (.ref z) 0 .none) Q E s
  exact wpAny_setField_rec hz (by simp) fun h' hz' hs' => hQ h' hz' hs'
theorem iter_zs {z TI TO : Addr} {f0 : Value} {Q : Value → Shared → Prop} (hz : IsZs s.heap z TI TO f0) (h : Q (.ref z) s) : wpAny (model prog w) A (pyIter (.ref z)) Q E s := by
  have hT : s.TypeIs (.ref z) "zip" := ⟨_, hz, rfl⟩
  refine wpAny_pyIter_slot hT F.slot_zip_iter (wpAny_call_entry F.slot_zip_iter hT F.entry_zip_iter ?_ (F.args_zip_iter_1 _))
  show wpAny _ _ (ret (.ref z)) _ _ s
  exact wpAny_pure ⟨_, rfl, "zip", _, hT, F.slot_zip_next.lookup, h⟩
end
abbrev zsH5 (h : Heap) (l1 l2 : Addr) : Heap := (zipH4 h l1 l2).push { cls := .type "zip", data := .fields #[.none, .bool false, .bool true, .ref (zipH2 h l1 l2).objs.size, .ref (zipH3 h l1 l2).objs.size] }
theorem ty_zs (a b : Value) : checkTypeCall "zip" ⟨[a, b], [(("strict" : Str), .bool true)]⟩ = pure () := by kernel_rfl
theorem nw_zs (a b : Value) : checkBuiltinCall "zip.__new__" ⟨[.type "zip", a, b], [(("strict" : Str), .bool true)]⟩ = pure () := by kernel_rfl
theorem in_zs (a b c : Value) : argsOk "object.__init__" ⟨[a, b, c], [(("strict" : Str), .bool true)]⟩ := by unfold argsOk; kernel_rfl
theorem meets_zs (l1 l2 : Addr) (xs ys : Array Value) :
    Meets (Builtin.«zip.__new__» ⟨[.type "zip", .ref l1, .ref l2], [(("strict" : Str), .bool true)]⟩) (fun _ R s => s.heap.IsList l1 xs ∧ s.heap.IsList l2 ys ∧
      R (.ok (.ret (.ref (zipH4 s.heap l1 l2).objs.size))) { s with heap := zsH5 s.heap l1 l2 }) :=
  .of_wp fun prog w A R s h => by
    obtain ⟨hp, g, d, tk, os⟩ := s; obtain ⟨hl1, hl2, h⟩ := h
    have hsub := sub_zip
    have hL1 : Heap.IsList (Shared.heap ⟨hp, g, d, tk, os⟩) l1 xs := hl1
    have hL2 : Heap.IsList (Shared.heap ⟨hp.push { cls := .type "list_iterator", data := .fields #[.ref l1, .int 0 0] }, g, d, tk, os⟩) l2 ys := Heap.IsList.push hl2 _
    have e1 : (("strict" : Str) != ("strict" : Str)) = false := by decide +kernel
    wp_walk using wpAny_pyIter_list hL1, wpAny_pyIter_list hL2
    exact ⟨_, rfl, h⟩
section
variable {prog : Program} {w : World} {A : Around} {E : Value → Shared → Prop} {s : Shared}
theorem call_zs {l1 l2 : Addr} {xs ys : Array Value} {Q : Value → Shared → Prop} (hl1 : s.heap.IsList l1 xs) (hl2 : s.heap.IsList l2 ys)
    (h : ∀ h', IsZs h' (s.heap.objs.size + 4) (s.heap.objs.size + 2) (s.heap.objs.size + 3) .none → IsPair h' (s.heap.objs.size + 2) (.ref s.heap.objs.size) (.ref (s.heap.objs.size + 1)) →
      IsPair h' (s.heap.objs.size + 3) .none .none → h'.IsListIter s.heap.objs.size l1 0 → h'.IsListIter (s.heap.objs.size + 1) l2 0 → h'.objs.size = s.heap.objs.size + 5 →
      (∀ c o, s.heap.get? c = some o → h'.get? c = some o) → Q (.ref (s.heap.objs.size + 4)) { s with heap := h' }) :
    wpAny (model prog w) A (call (.type "zip") [.ref l1, .ref l2] [(("strict" : Str), .bool true)]) Q E s := by
  refine callType_newKw F.called_zip (by decide) (ty_zs _ _) (nw_zs _ _) (fun obj => in_zs obj _ _) F.entry_zip_new (meets_zs l1 l2 xs ys) ⟨hl1, hl2, ?_⟩
  have z1 : (zipH1 s.heap l1).objs.size = s.heap.objs.size + 1 := Heap.size_push ..
  have z2 : (zipH2 s.heap l1 l2).objs.size = s.heap.objs.size + 2 := by rw [Heap.size_push, z1]
  have z3 : (zipH3 s.heap l1 l2).objs.size = s.heap.objs.size + 3 := by rw [Heap.size_push, z2]
  have z4 : (zipH4 s.heap l1 l2).objs.size = s.heap.objs.size + 4 := by rw [Heap.size_push, z3]
  have z5 : (zsH5 s.heap l1 l2).objs.size = s.heap.objs.size + 5 := by rw [Heap.size_push, z4]
  have g5 : (zsH5 s.heap l1 l2).get? (zipH4 s.heap l1 l2).objs.size = some _ := Heap.get?_push_size _ rfl
  have g4 : (zsH5 s.heap l1 l2).get? (zipH3 s.heap l1 l2).objs.size = some _ := Heap.get?_push_of_some _ (Heap.get?_push_size _ rfl)
  have g3 : (zsH5 s.heap l1 l2).get? (zipH2 s.heap l1 l2).objs.size = some _ := Heap.get?_push_of_some _ (Heap.get?_push_of_some _ (Heap.get?_push_size _ rfl))
  have g2 : (zsH5 s.heap l1 l2).get? (zipH1 s.heap l1).objs.size = some _ := Heap.get?_push_of_some _ (Heap.get?_push_of_some _ (Heap.get?_push_of_some _ (Heap.get?_push_size _ rfl)))
  have g1 : (zsH5 s.heap l1 l2).get? s.heap.objs.size = some _ := Heap.get?_push_of_some _ (Heap.get?_push_of_some _ (Heap.get?_push_of_some _ (Heap.get?_push_of_some _ (Heap.get?_push_size _ rfl))))
  show _ ∧ _
  rw [z2, z3, z4] at g5
  rw [z1, z2] at g3
  rw [z3] at g4
  rw [z1] at g2
  rw [z4]
  exact ⟨⟨_, g5, rfl⟩, h _ g5 g3 g4 ⟨_, g1, rfl, rfl⟩ ⟨_, g2, rfl, rfl⟩ z5 fun c o x =>
    Heap.get?_push_of_some _ (Heap.get?_push_of_some _ (Heap.get?_push_of_some _ (Heap.get?_push_of_some _ (Heap.get?_push_of_some _ x))))⟩
end
end Dv
set_option Elab.async false
set_option linter.all false
set_option maxRecDepth 100000
set_option maxHeartbeats 4000000
set_option autoImplicit false
/-! walks over zip and enumerate -/
namespace Dv
open PySem PySem.Spec PyProof.Rows L2
def Itzs (K : PySem.W.Frag) (a b : Addr) : It :=
  ⟨fun i H => ∃ (xs ys : List V) (x y : V), SqL K H a xs ∧ SqL K H b ys ∧ xs[i]? = some x ∧ ys[i]? = some y,
    fun i H v H' => ∃ T x y, v = .ref T ∧ H T = none ∧ H' = upd H T (.tup [x, y]) ∧ (∀ xs, SqL K H a xs → xs[i]? = some x) ∧ ∀ ys, SqL K H b ys → ys[i]? = some y,
    fun i H => ∃ xs ys : List V, SqL K H a xs ∧ SqL K H b ys ∧ xs.length ≤ i ∧ ys.length ≤ i⟩
theorem turn_zs {P : Program} {w : World} {K : PySem.W.Frag} {elts : List Expr} {kk : Nat} {tpos : Pos} {a b z TI TO i1 i2 : Addr} (D : ZipApart z TI TO i1 i2 a b) :
    Turn P w K (.Tuple elts kk tpos) (Itzs K a b) [z, TI, TO, i1, i2] z (fun i h => IsZs h z TI TO .none ∧ IsPair h TI (.ref i1) (.ref i2) ∧ (∃ x y, IsPair h TO x y) ∧ h.IsListIter i1 a i ∧ h.IsListIter i2 b i) where
  mem := by simp
  obj := fun i h st c hc => by
    obtain ⟨hz, hTI, ⟨x, y, hTO⟩, ⟨o1, e1, _, d1⟩, ⟨o2, e2, _, d2⟩⟩ := st
    have e' : c = z ∨ c = TI ∨ c = TO ∨ c = i1 ∨ c = i2 := by simpa using hc
    rcases e' with rfl | rfl | rfl | rfl | rfl
    · exact ⟨_, hz, fun v q => nomatch q⟩
    · exact ⟨_, hTI, fun v q => nomatch q⟩
    · exact ⟨_, hTO, fun v q => nomatch q⟩
    · exact ⟨o1, e1, fun v q => by rw [d1] at q; cases q⟩
    · exact ⟨o2, e2, fun v q => by rw [d2] at q; cases q⟩
  keep := fun i h h' st k => by
    obtain ⟨hz, hTI, ⟨x, y, hTO⟩, h1, h2⟩ := st
    exact ⟨k z (by simp) _ hz, k TI (by simp) _ hTI, ⟨x, y, k TO (by simp) _ hTO⟩, h1.at fun o q => k i1 (by simp) o q, h2.at fun o q => k i2 (by simp) o q⟩
  item := by
    intro X hP hw hK hc i pins s σ H E I hf st hg
    subst hP hw hK
    obtain ⟨hz, hTI, ⟨x0, y0, hTO⟩, h1, h2⟩ := st
    obtain ⟨xs, ys, x, y, hqx, hqy, hx, hy⟩ := hg
    obtain ⟨its, rv, p, _⟩ := I.list hqx
    obtain ⟨its2, rv2, p2, _⟩ := I.list hqy
    obtain ⟨u, hu, ru⟩ := rv.get hx
    obtain ⟨u2, hu2, ru2⟩ := rv2.get hy
    have hzl : z < s.heap.objs.size := Heap.lt_size hz
    refine nx_item D hz hTI hTO h1 h2 p.isList p2.isList (x := u) (y := u2) (by simpa using hu) (by simpa using hu2) fun h' z' TO' h1' h2' hT hsz hk => ?_
    refine ⟨_, rfl, go_zs (s := { s with heap := h' }) z' fun h'' z'' sb => ?_⟩
    have hT2 : h''.get? s.heap.objs.size = some { cls := .type "tuple", data := .seq #[u, u2] } := (sb.2 _ (Nat.ne_of_gt hzl)).trans hT
    have new : ObjOk X.prog X.w (upd H s.heap.objs.size (.tup [x, y])) h'' s.heap.objs.size (.tup [x, y]) := ⟨by show 2 ≤ sizeLine; decide, [u, u2], .cons ru (.cons ru2 .nil), ⟨_, hT2, rfl, _, rfl⟩⟩
    have I1 : Inv X pins σ (upd H s.heap.objs.size (.tup [x, y])) { s with heap := h'' } :=
      I.turnedNew (t' := s.toks) (ch := [z, TI, TO, i1, i2]) (fun c o hb q => (sb.2 c (fun q' => hb (by simp [q']))).trans (hk c o (fun q' => hb (by simp [q'])) (fun q' => hb (by simp [q'])) (fun q' => hb (by simp [q'])) (fun q' => hb (by simp [q'])) q)) hf (Nat.le_refl _) new
    refine ⟨.ref s.heap.objs.size, _, I1, rfl, ⟨_, x, y, rfl, I.hok.fresh (Nat.le_refl _), rfl, fun l hl => by rw [I.list_inj hl hqx]; exact hx, fun l hl => by rw [I.list_inj hl hqy]; exact hy⟩, ⟨z'', ?_, ⟨u, u2, ?_⟩, ?_, ?_⟩, fun c hcm => ?_⟩
    · exact (sb.2 _ D.TIz).trans (hk _ _ D.TIz D.TITO D.TIi1 D.TIi2 hTI)
    · exact (sb.2 _ D.TOz).trans TO'
    · exact h1'.at fun o q => (sb.2 _ D.i1z).trans q
    · exact h2'.at fun o q => (sb.2 _ D.i2z).trans q
    · have hlt : c < s.heap.objs.size := by
        have e' : c = z ∨ c = TI ∨ c = TO ∨ c = i1 ∨ c = i2 := by simpa using hcm
        rcases e' with q | q | q | q | q
        · rw [q]; exact hzl
        · rw [q]; exact Heap.lt_size hTI
        · rw [q]; exact Heap.lt_size hTO
        · rw [q]; obtain ⟨_, e1, _⟩ := h1; exact Heap.lt_size e1
        · rw [q]; obtain ⟨_, e2, _⟩ := h2; exact Heap.lt_size e2
      rw [upd_ne (Nat.ne_of_lt hlt)]
      exact (hf c hcm).1
  done := by
    intro X hP hw hK hc i pins s σ H E I hf st hg
    subst hP hw hK
    obtain ⟨hz, hTI, ⟨x0, y0, hTO⟩, h1, h2⟩ := st
    obtain ⟨xs, ys, hqx, hqy, hend⟩ := hg
    obtain ⟨its, rv, p, _⟩ := I.list hqx
    obtain ⟨its2, rv2, p2, _⟩ := I.list hqy
    have l1 := rv.length
    have l2 := rv2.length
    exact nx_end (I.ok.hd hc) D hz hTI hTO h1 h2 p.isList p2.isList (by simp; omega) (by simp; omega) fun h' hk => ⟨rfl, I.turnedL (t' := s.toks) (ch := [z, TI, TO, i1, i2]) (fun c o hb q =>
      hk c o (fun q' => hb (by simp [q'])) (fun q' => hb (by simp [q'])) (fun q' => hb (by simp [q'])) (fun q' => hb (by simp [q'])) q) hf⟩
  self := fun A i s Q E st h => iter_zs st.1 h
def iZs (K : PySem.W.Frag) (ta : TA) : TI := fun σ H R => ta σ H fun vs H1 => ∃ a b xs ys, vs = [.ref a, .ref b] ∧ SqL K H1 a xs ∧ SqL K H1 b ys ∧ R (Itzs K a b) H1
theorem pi_zs {X : Cx} {e e2 : Expr} {ta : TA} {p pos tpos cp kp : Pos} {elts : List Expr} {kk j : Nat} (hg : Gl X "zip") (hm : X.mg "zip" = none) (ha : PA X [e, e2] ta)
    (hs : starEach [e, e2] X.env = (false, eval e X.env) :: starEach [e2] X.env := by rfl) (hpl : ((backTo pos (starEach [e, e2] X.env)).any (·.1) || (backToKw pos (keywordEach [⟨some "strict", .Constant (.bool true) j cp, kp⟩] X.env)).any (·.1.isNone)) = false := by rfl)
    (hall : (backToKw pos (keywordEach [⟨some "strict", .Constant (.bool true) j cp, kp⟩] X.env)).all (·.1.isSome) = true := by rfl) (hks : (backToKw pos (keywordEach [⟨some "strict", .Constant (.bool true) j cp, kp⟩] X.env)).filterMap (·.1) = [("strict" : Str)] := by rfl) :
    PI X (.Tuple elts kk tpos) (.Call (.Name "zip" p) [e, e2] [⟨some "strict", .Constant (.bool true) j cp, kp⟩] pos) (iZs X.K ta) := by
  refine ⟨fun pins s σ H R I h => ?_⟩
  refine wpAny_Call_Name_kw (ld_blt I hg hm PyProof.Rows.boot_zip ?_)
  have kb : PK X [⟨some "strict", .Constant (.bool true) j cp, kp⟩] (tCons (tC (.bl true)) tNil) := pk_cons pe_bl pk_nil
  refine PySem.W.callWith_of (P := fun _ => True) hpl (fun _ _ => ⟨_, .inr (.inl rfl), PySem.W.Looks.of_pure rfl⟩) (evalArgs_kw2 hall (thn (ha.run pos pins s σ H _ I h) fun us s1 ⟨vs, H1, I1, r1, q1⟩ => ?_) hs)
  refine thn (kb.run pos pins s1 σ H1 (fun zs H2 => zs = [.bl true] ∧ H2 = H1) I1 ⟨rfl, rfl⟩) fun ws s2 ⟨zs, H2, I2, rz, ez, e2'⟩ => ⟨trivial, ?_⟩
  subst ez e2'
  rw [hks]
  obtain ⟨a, b, xs, ys, ex, hqx, hqy, q⟩ := q1
  subst ex
  cases rz with
  | cons rz rz' =>
    cases rz
    cases rz'
    cases r1 with
    | cons r rr =>
      cases rr with
      | cons r' rr =>
        cases rr
        cases r
        cases r'
        obtain ⟨its, rv, p1, _⟩ := I2.list hqx
        obtain ⟨its2, rv2, p2, _⟩ := I2.list hqy
        have la : a < s2.heap.objs.size := p1.lt
        have lb : b < s2.heap.objs.size := p2.lt
        refine call_zs p1.isList p2.isList fun h' hz hTI hTO h1 h2 hsz hk => iter_zs hz ?_
        have I3 : Inv X pins σ H2 { s2 with heap := h' } := I2.kept (t' := s2.toks) hk
        refine ⟨s2.heap.objs.size + 4, [s2.heap.objs.size + 4, s2.heap.objs.size + 2, s2.heap.objs.size + 3, s2.heap.objs.size, s2.heap.objs.size + 1], _, _, H2, rfl, I3, turn_zs (PySem.W.ktu_apart s2.heap.objs.size a b la lb), ⟨hz, hTI, ⟨_, _, hTO⟩, h1, h2⟩, fun c hcm => ?_, q⟩
        have e' : c = s2.heap.objs.size + 4 ∨ c = s2.heap.objs.size + 2 ∨ c = s2.heap.objs.size + 3 ∨ c = s2.heap.objs.size ∨ c = s2.heap.objs.size + 1 := by simpa using hcm
        have hle : s2.heap.objs.size ≤ c := by
          rcases e' with z | z | z | z | z
          all_goals (rw [z]; first | exact Nat.le_refl _ | exact Nat.le_add_right _ _)
        exact I2.fpOk hle (I2.hok.fresh hle)
/-! the layer's words -/
def pairsD (ds es : List Dt) : List Dt := List.zipWith (fun x y => .tup [x, y]) ds es
def itemsL (d : Dt) : Option (List Dt) := match d with
  | .lst ds => some ds
  | .fz ds => some ds
  | _ => none
def mZs (m : Env → Store → R (List Dt)) : Env → Store → R (List Dt) := fun en S => (m en S).bind fun ds S1 => match ds with
  | [x, y] => match itemsL x, itemsL y with
    | some xs, some ys => if xs.length = ys.length then .ok (pairsD xs ys) S1 else .stuck
    | _, _ => .stuck
  | _ => .stuck
def numbered (k : Nat) : List Dt → List Dt
  | [] => []
  | d :: ds => .tup [.int k, d] :: numbered (k + 1) ds
def mEnum (m : Env → Store → R (List Dt)) : Env → Store → R (List Dt) := fun en S => (m en S).bind fun ds S1 => match ds with
  | [x] => match itemsL x with
    | some xs => .ok (numbered 0 xs) S1
    | _ => .stuck
  | _ => .stuck
theorem numbered_length : ∀ (ds : List Dt) (k : Nat), (numbered k ds).length = ds.length
  | [], _ => rfl
  | _ :: ds, k => by rw [numbered, List.length_cons, List.length_cons, numbered_length ds]
theorem numbered_get : ∀ (ds : List Dt) (k i : Nat) (d : Dt), ds[i]? = some d → (numbered k ds)[i]? = some (.tup [.int ((k + i : Nat) : Int), d])
  | [], _, i, _, h => by simp at h
  | x :: ds, k, 0, d, h => by
    simp at h
    subst h
    rfl
  | x :: ds, k, i + 1, d, h => by
    have e := numbered_get ds (k + 1) i d (by simpa using h)
    rw [show k + 1 + i = k + (i + 1) by omega] at e
    simpa [numbered] using e
section
variable {G : Gv} {X : Cx} {W : WX} {e e2 : Expr} {p pos tpos cp kp : Pos} {elts : List Expr} {kk j : Nat} {ma : Env → Store → R (List Dt)}
theorem itemsL_rel {io : Io} {H : Hp} {d : Dt} {ds : List Dt} {v : V} (r : RelD G io H d v) (h : itemsL d = some ds) : ∃ a vs, v = .ref a ∧ ((Rd H a (.lst vs) ∧ a ∉ io) ∨ KLst G.K a vs) ∧ RelDs G io H ds vs := by
  unfold itemsL at h
  split at h
  · cases h
    cases r with
    | lst e n rs => exact ⟨_, _, rfl, .inl ⟨.inl e, n⟩, rs⟩
  · cases h
    cases r with
    | fz e rs => exact ⟨_, _, rfl, e, rs⟩
  · cases h
theorem jok_zs {io : Io} {H : Hp} {a b : Addr} {ds es : List Dt} {vs us : List V} (h1 : (Rd H a (.lst vs) ∧ a ∉ io) ∨ KLst G.K a vs) (h2 : (Rd H b (.lst us) ∧ b ∉ io) ∨ KLst G.K b us) (r1 : RelDs G io H ds vs) (r2 : RelDs G io H es us)
    (hl : ds.length = es.length) : JOk G io H (Itzs G.K a b) (pairsD ds es) := by
  have l1 := r1.length
  have l2 := r2.length
  have lp : (pairsD ds es).length = ds.length := by
    unfold pairsD
    rw [List.length_zipWith]
    omega
  refine ⟨fun i i1 H1 g hi => ?_, fun i i1 H1 g hi => ?_, fun i i1 H1 x H' g hf hi hy => ?_⟩
  · exact ⟨vs, us, vs[i]'(by omega), us[i]'(by omega), rel_sqL g h1, rel_sqL g h2, by simp, by simp⟩
  · exact ⟨vs, us, rel_sqL g h1, rel_sqL g h2, by omega, by omega⟩
  · obtain ⟨T, x', y', rfl, hT, rfl, hx, hy⟩ := hy
    have e1 := hx vs (rel_sqL g h1)
    have e2 := hy us (rel_sqL g h2)
    have i1' : i < ds.length := by omega
    obtain ⟨v, f1, f2⟩ := r1.get (i := i) (d := ds[i]) (by simp)
    obtain ⟨u, f3, f4⟩ := r2.get (i := i) (d := es[i]'(by omega)) (by simp)
    rw [e1] at f1
    rw [e2] at f3
    cases f1
    cases f3
    have ex : ExtH H1 (upd H1 T (.tup [x', y'])) := ExtH.new hT
    refine ⟨ex, .tup [ds[i], es[i]'(by omega)], ?_, .tup (.inl ⟨upd_same, hf T hT⟩) (.cons ((f2.monoB g).mono ex.grow) (.cons ((f4.monoB g).mono ex.grow) .nil))⟩
    unfold pairsD
    rw [List.getElem?_zipWith]
    simp [i1', show i < es.length by omega]
theorem jok_enum {io : Io} {H : Hp} {a : Addr} {ds : List Dt} {vs : List V} (h1 : (Rd H a (.lst vs) ∧ a ∉ io) ∨ KLst G.K a vs) (r1 : RelDs G io H ds vs) : JOk G io H (Ite G.K a) (numbered 0 ds) := by
  have l1 := r1.length
  refine ⟨fun i i1 H1 g hi => ?_, fun i i1 H1 g hi => ?_, fun i i1 H1 x H' g hf hi hy => ?_⟩
  · rw [numbered_length] at hi
    exact ⟨vs, vs[i]'(by omega), rel_sqL g h1, by simp⟩
  · rw [numbered_length] at hi
    exact ⟨vs, rel_sqL g h1, by omega⟩
  · rw [numbered_length] at hi
    obtain ⟨T, x', rfl, hT, rfl, hx⟩ := hy
    have e1 := hx vs (rel_sqL g h1)
    obtain ⟨v, f1, f2⟩ := r1.get (i := i) (d := ds[i]) (by simp)
    rw [e1] at f1
    cases f1
    have ex : ExtH H1 (upd H1 T (.tup [.int (i : Nat), x'])) := ExtH.new hT
    refine ⟨ex, .tup [.int i, ds[i]], ?_, .tup (.inl ⟨upd_same, hf T hT⟩) (.cons (.int _) (.cons ((f2.monoB g).mono ex.grow) .nil))⟩
    have z := numbered_get ds 0 i ds[i] (by simp)
    rw [Nat.zero_add] at z
    exact z
theorem di_zs (hm : X.mg "zip" = none) (ha : DA G X W [e, e2] ma) (hg : Gl X "zip" := by rfl)
    (hs : starEach [e, e2] X.env = (false, eval e X.env) :: starEach [e2] X.env := by rfl) (hpl : ((backTo pos (starEach [e, e2] X.env)).any (·.1) || (backToKw pos (keywordEach [⟨some "strict", .Constant (.bool true) j cp, kp⟩] X.env)).any (·.1.isNone)) = false := by rfl)
    (hall : (backToKw pos (keywordEach [⟨some "strict", .Constant (.bool true) j cp, kp⟩] X.env)).all (·.1.isSome) = true := by rfl) (hks : (backToKw pos (keywordEach [⟨some "strict", .Constant (.bool true) j cp, kp⟩] X.env)).filterMap (·.1) = [("strict" : Str)] := by rfl) (hK : X.K = G.K := by rfl) :
    DI G X W (.Tuple elts kk tpos) (.Call (.Name "zip" p) [e, e2] [⟨some "strict", .Constant (.bool true) j cp, kp⟩] pos) (mZs ma) := by
  obtain ⟨t, pa, qa⟩ := ha
  refine ⟨_, pi_zs hg hm pa hs hpl hall hks, fun io H S en σ Q so re h => ?_⟩
  refine qa io H S en σ _ so re (h.bind.imp (fun _ _ _ _ z => z) fun ds S1 i1 H1 g1 s1 k1 vs r => ?_)
  split at k1
  · rename_i x y
    split at k1
    · rename_i xs ys ex ey
      split at k1
      · rename_i hl
        cases r with
        | cons r1 r2 =>
          cases r2 with
          | cons r2 r3 =>
            cases r3
            obtain ⟨a, us, rfl, h1, q1⟩ := itemsL_rel r1 ex
            obtain ⟨b, ws, rfl, h2, q2⟩ := itemsL_rel r2 ey
            rw [hK]
            exact ⟨a, b, us, ws, rfl, rel_sqL Grow.refl.base h1, rel_sqL Grow.refl.base h2, k1 i1 H1 Grow.refl s1 _ (jok_zs h1 h2 q1 q2 hl)⟩
      · exact k1.elim
    · exact k1.elim
  · exact k1.elim
end
end Dv
set_option Elab.async false
set_option linter.all false
set_option maxRecDepth 100000
set_option maxHeartbeats 4000000
set_option autoImplicit false
/-! keywords; defs with defaults -/
namespace Dv
open PySem PySem.Spec PyProof.Rows L2
def pickL {α : Type} (is : List Nat) (xs : List α) : List α := is.filterMap (xs[·]?)
theorem vals_pick {vs : List V} {us : List Value} (r : Vals vs us) : ∀ is : List Nat, Vals (pickL is vs) (pickL is us)
  | [] => .nil
  | i :: is => by
    have ih := vals_pick r is
    unfold pickL at ih ⊢
    rw [List.filterMap_cons, List.filterMap_cons]
    cases hv : vs[i]? with
    | none =>
      have hu : us[i]? = none := by
        rw [List.getElem?_eq_none_iff] at hv ⊢
        rw [← r.length]
        exact hv
      rw [hu]
      exact ih
    | some v =>
      obtain ⟨u, hu, ru⟩ := r.get hv
      rw [hu]
      exact .cons ru ih
theorem rel_pick {G : Gv} {io : Io} {H : Hp} {ds : List Dt} {vs : List V} (r : RelDs G io H ds vs) : ∀ is : List Nat, RelDs G io H (pickL is ds) (pickL is vs)
  | [] => .nil
  | i :: is => by
    have ih := rel_pick r is
    unfold pickL at ih ⊢
    rw [List.filterMap_cons, List.filterMap_cons]
    cases hv : ds[i]? with
    | none =>
      have hu : vs[i]? = none := by
        rw [List.getElem?_eq_none_iff] at hv ⊢
        rw [← r.length]
        exact hv
      rw [hu]
      exact ih
    | some v =>
      obtain ⟨u, hu, ru⟩ := r.get hv
      rw [hu]
      exact .cons ru ih
section
variable {K : PySem.W.Frag} {x qual : Str} {st : Stmt} {f : Addr} {fd : FuncData} {ps ks : List Str}
theorem fun_kbn (F : Fun K x qual st f fd) (n : Nat) (is : List Nat)
    (h : ∀ (kV doc pm : Value) (an : Option Addr) (cdv ct : Value) (us ws : List Value), us.length = n → ws.length = ks.length → bindArgs (PySem.W.fnOf x qual (defArgs st) (defBody st) (defScope st) .none kV doc pm an cdv ct) ⟨us, ks.zip ws⟩ = pure (ps.zip (us ++ pickL is ws))) :
    KBn K fd ps n ks (fun us ws => us ++ pickL is ws) (fun vs zs => vs ++ pickL is zs) := by
  obtain ⟨oc, od, kV, doc, pm, an, cdv, ct, osl, rfl, lk, hcd⟩ := F.ex
  exact ⟨fun s us ws _ l1 l2 => .of_eq (h kV doc pm an cdv ct us ws l1 l2), fun r1 r2 => r1.append (vals_pick r2 is)⟩
end
def DK (G : Gv) (X : Cx) (W : WX) (k : List Keyword) (m : Env → Store → R (List Dt)) : Prop := ∃ t, PK X k t ∧ SimA G W t m
section
variable {G : Gv} {X : Cx} {W : WX} {e o : Expr} {es : List Expr} {kws : List Keyword} {m mo : Env → Store → R Dt} {ms ma mk : Env → Store → R (List Dt)} {nm : Option Str} {kpos pos apos p : Pos}
theorem dk_nil : DK G X W [] mNil := ⟨_, pk_nil, fun io H S e σ Q so re h => h io H Grow.refl so [] .nil⟩
theorem dk_cons (ha : DE G X W e m) (hr : DK G X W kws ms) : DK G X W (⟨nm, e, kpos⟩ :: kws) (mCons m ms) := by
  obtain ⟨t, p, q⟩ := ha
  obtain ⟨u, p', q'⟩ := hr
  refine ⟨_, pk_cons p p', fun io H S e σ Q so re h => ?_⟩
  refine q io H S e σ _ so re (h.bind.imp (fun _ _ _ _ z => z) fun d S1 i1 H1 g1 s1 k1 v r => ?_)
  refine q' i1 H1 S1 e σ _ s1 (re.mono g1) (k1.bind.imp (fun _ _ _ _ z => z) fun ds S2 i2 H2 g2 s2 k2 vs rs => ?_)
  exact k2 i2 H2 Grow.refl s2 _ (.cons (r.mono g2) rs)
/-! o.m(.., k = v) -/
def tMethK (C : Addr) (n : Str) (na nk : Nat) (is : List Nat) (sp : Sp) (E : L2.St → XK) (ta : TE) (t tk : TA) : TE := fun σ H Q => ta σ H fun x H1 => ∃ a dx fs, x = .ref a ∧ H1 a = some (.ins C dx fs) ∧ fs.lookup n = none ∧
  t σ H1 fun vs H2 => tk σ H2 fun zs H3 => vs.length + 1 = na ∧ zs.length = nk ∧ sp ((x :: vs) ++ pickL is zs) H3 Q (E σ)
theorem run_fnNS {CX : CXT} {k n : Nat} {f : Addr} {fd : FuncData} {ps ks : List Str} {sp : Sp} {E : L2.St → XK} {g : List Value → List Value → List Value} {gV : List V → List V → List V} {pins : List (Addr × Obj)} {σ : L2.St} {H : Hp} {s : Shared} {Q : VK} {us ws : List Value} {vs zs : List V}
    (F : FnOk X.prog X.w X.K X.mg X.base CX k f fd ps sp) (hr : Room k X.A) (hb : KBn X.K fd ps n ks g gV) (hx : PassesAt CX X σ (E σ))
    (I : Inv X pins σ H s) (r : Vals vs us) (rz : Vals zs ws) (l1 : vs.length = n) (l2 : zs.length = ks.length) (h : sp (gV vs zs) H Q (E σ)) : wpAny (model X.prog X.w) X.A (call (.ref f) us (ks.zip ws)) (EP X pins σ Q) X.xe s := by
  have r2 := hb.rel r rz
  have bt := hb.to s us ws I.kIn (r.length.symm.trans l1) (rz.length.symm.trans l2)
  refine wpAny_call (codeAny_mono (F.run X.A X.stack s H ⟨us, ks.zip ws⟩ (g us ws) (gV vs zs) Q (E σ) hr I.env0 bt r2 h) fun r s' hq => ?_)
  cases r with
  | error e => exact hx pins H s e s' I hq
  | ok fl => cases fl with
    | ret u => exact I.after hq
    | next => exact False.elim hq
    | brk => exact False.elim hq
    | cont => exact False.elim hq
theorem de_methK {pl : Sem Bool} {c : String} {C fa : Addr} {n : Str} {k na : Nat} {is : List Nat} {fd : FuncData} {ps ks : List Str} {fn : Fn} {np : Nat} (ok : ClsOk G) (hC : G.cl c = some C) (ho : DE G X W o mo) (ha : DA G X W (e :: es) ma) (hkw : DK G X W kws mk) (hm : Meth G.K C n fa)
    (F : FnOk X.prog X.w X.K X.mg X.base (L2.CX X.prog X.w) k fa fd ps (spF G np fn)) (hr : Room k X.A) (hb : KBn X.K fd ps na ks (fun us ws => us ++ pickL is ws) (fun vs zs => vs ++ pickL is zs)) (tk : Takes X W)
    (hst : starEach (e :: es) X.env = (false, eval e X.env) :: starEach es X.env := by rfl) (hall : (backToKw pos (keywordEach kws X.env)).all (·.1.isSome) = true := by rfl) (hks : (backToKw pos (keywordEach kws X.env)).filterMap (·.1) = ks := by rfl)
    (hpl : ((backTo pos (starEach (e :: es) X.env)).any (·.1) || (backToKw pos (keywordEach kws X.env)).any (·.1.isNone)) = false := by rfl)
    (ht : eval (.Call (.Attribute o n apos) (e :: es) kws pos) X.env = (do
      let ov ← eval o X.env
      standAt apos.atName
      let (f, first) ← holding [ov] (getMethod ov n pl)
      callWith pos f first (backTo pos (starEach (e :: es) X.env)) (backToKw pos (keywordEach kws X.env))) := by rfl) (hK : X.K = G.K := by rfl) :
    DE G X W (.Call (.Attribute o n apos) (e :: es) kws pos) (fun en S => (mo en S).bind fun d S1 => match insD S1 d with
      | some (c', ns, _) => if c' = c ∧ n ∉ ns then (ma en S1).bind fun ds S2 => (mk en S2).bind fun zs S3 => if ds.length + 1 = na ∧ zs.length = ks.length ∧ (d :: ds ++ pickL is zs).length = np then fn (d :: ds ++ pickL is zs) S3 else .stuck else .stuck
      | none => .stuck) := by
  obtain ⟨to, po, qo⟩ := ho
  obtain ⟨t, pa, qa⟩ := ha
  obtain ⟨tk', pk, qk⟩ := hkw
  have cK : Cls X.K C := by rw [hK]; exact ok.cls c C hC
  have mK : Meth X.K C n fa := by rw [hK]; exact hm
  refine ⟨tMethK C n na ks.length is (spF G np fn) (WE W) to t tk', ⟨fun pins s σ H Q I h => ?_⟩, fun io H S en σ Q so re h => ?_⟩
  · refine PySem.W.methodCall_KW (pl := pl) (thn (po.run pins s σ H _ I h) fun u s1 ⟨x, H1, I1, rx, a, dx, fs, ex, ea, l, q⟩ => ?_) ht
    subst ex
    obtain rfl : u = Value.ref a := rx
    refine getmeth_ok I1 ea cK mK l ?_
    refine PySem.W.callWith_KW (first := [.ref a]) (h₀ := X.base) I.ok.mod.kin mK.kp hall (thn (pa.run pos pins s1 σ H1 _ I1 q) fun us s2 ⟨vs, H2, I2, r, q2⟩ => ?_) hpl hst
    refine thn (pk.run pos pins s2 σ H2 _ I2 q2) fun ws s3 ⟨zs, H3, I3, rz, l1, l2, q3⟩ => ⟨I3.kIn, ?_⟩
    rw [hks]
    exact run_fnNS (E := WE W) (us := .ref a :: us) (vs := .ref a :: vs) F hr hb (passAt tk σ) I3 (.cons rfl r) rz l1 l2 q3
  · refine qo io H S en σ _ so re (h.bind.imp (fun _ _ _ _ z => z) fun d S1 i1 H1 g1 s1 k1 v r => ?_)
    split at k1
    · rename_i c' ns ds hi
      obtain ⟨a, C', dx, vs, rfl, h1, h2, h3, h4⟩ := insD_ok s1 r hi
      split at k1
      · rename_i hc
        obtain ⟨rfl, hn⟩ := hc
        rw [hC] at h2
        cases h2
        refine ⟨a, dx, _, rfl, h1, look_none hn, ?_⟩
        refine qa i1 H1 S1 en σ _ s1 (re.mono g1) (k1.bind.imp (fun _ _ _ _ z => z) fun ws S2 i2 H2 g2 s2 k2 us rs => ?_)
        refine qk i2 H2 S2 en σ _ s2 ((re.mono g1).mono g2) (k2.bind.imp (fun _ _ _ _ z => z) fun zs S3 i3 H3 g3 s3 k3 xs rz => ?_)
        split at k3
        · rename_i hl
          refine ⟨by rw [← rs.length]; exact hl.1, by rw [← rz.length]; exact hl.2.1, i3, S3, _, s3, ?_, hl.2.2, k3⟩
          exact RelDs.append (.cons ((r.mono g2).mono g3) (rs.mono g3)) (rel_pick rz is)
        · exact k3.elim
      · exact k1.elim
    · exact k1.elim
end
@[reducible] def mMethK (c : String) (n : Str) (na nk np : Nat) (is : List Nat) (fn : Fn) (mo : Env → Store → R Dt) (ma mk : Env → Store → R (List Dt)) : Env → Store → R Dt := fun en S => (mo en S).bind fun d S1 => match insD S1 d with
      | some (c', ns, _) => if c' = c ∧ n ∉ ns then (ma en S1).bind fun ds S2 => (mk en S2).bind fun zs S3 => if ds.length + 1 = na ∧ zs.length = nk ∧ (d :: ds ++ pickL is zs).length = np then fn (d :: ds ++ pickL is zs) S3 else .stuck else .stuck
      | none => .stuck
/-! a def with defaults -/
section
variable {P : Program} {w : World} {K : PySem.W.Frag} {mg : Str → Option Value} {base : Heap} {G : Gv}
theorem fn_okD {x qual : Str} {st : Stmt} {f : Addr} {fd : FuncData} {N ps : List Str} {k : Nat} {dvs : List V} {m : Env → Store → RS} (keep : Bool) (F : FunD K x qual (defArgs st) (defBody st) (defScope st) dvs [] f fd) (S : FnScope N ps (defScope st))
    (hbody : ∀ (cdv : Value) (A : Around) (outer : List PySem.Env) (s : Shared) (H : Hp) (E : XK), Room k (A.deeper (envOfC qual (defScope st) s.heap.objs.size f cdv)) →
      DB G (cxOf (L2.CX P w) P w K mg base N qual (defScope st) f cdv A outer s H E) (fun cls d _ H => E cls d H) (defBody st) m) : FnOk P w K mg base (L2.CX P w) (k + 1) f fd ps (spF G ps.length (fnRun N.length keep m)) := by
  refine F.ok S (fun vs H Q E h => ?_) (fun cdv A outer s H vs Q E hr h => ?_)
  · obtain ⟨io, St, ds, so, r, hl, _⟩ := h
    rw [← r.length]
    exact hl
  · obtain ⟨io, St, ds, so, r, hl, ho⟩ := h
    obtain ⟨t, p, q⟩ := hbody cdv A outer s H E hr
    refine ⟨t, p, ?_⟩
    have hpl : ps.length ≤ N.length := by have := congrArg List.length S.pre; rw [List.length_take] at this; omega
    have lv := r.length
    refine q io H St _ _ _ so (rel_start r (by omega)) ?_
    unfold fnRun at ho
    cases em : m (ds.map some ++ List.replicate (N.length - ds.length) none) St with
    | stuck => rw [em] at ho; exact ho
    | err x e1 S1 =>
      rw [em] at ho
      exact fun io' H' g so' σ cls dx re rx => finX_ok so g so' rx ho
    | ok fl e1 S1 =>
      rw [em] at ho
      cases fl with
      | nx => exact fun io' H' g so' σ re => fin_ok so g so' .non ho
      | bk => exact ho.elim
      | ct => exact ho.elim
      | rt d => exact fun io' H' g so' v r => fin_ok so g so' r ho
/-- all parameters are written -/
theorem funD_all {x qual : Str} {st : Stmt} {f : Addr} {fd : FuncData} {dvs : List V} {ps : List Str} (F : FunD K x qual (defArgs st) (defBody st) (defScope st) dvs [] f fd) (hd : dvs ≠ [])
    (h : ∀ (T : Addr) (kV doc pm : Value) (an : Option Addr) (cdv ct : Value) (us its : List Value), us.length = ps.length → its.length = dvs.length →
      ∃ k, bindArgs (PySem.W.fnOf x qual (defArgs st) (defBody st) (defScope st) (.ref T) kV doc pm an cdv ct) ⟨us, []⟩ = seqItems? (.ref T) >>= k ∧ k (some its.toArray) = pure (ps.zip us)) : Binds K fd ps [] := by
  obtain ⟨ds, r, b⟩ := F.binds1 (ps := ps) ps.length dvs.length hd (by simp) fun T kV doc pm an cdv ct us its l1 l2 => by
    obtain ⟨k, e1, e2⟩ := h T kV doc pm an cdv ct us its l1 l2
    refine ⟨k, e1, ?_⟩
    rw [← l2, List.drop_length, List.append_nil]
    exact e2
  rw [List.drop_length] at r
  cases r
  exact b
end
end Dv
set_option Elab.async false
set_option linter.all false
set_option maxRecDepth 100000
set_option maxHeartbeats 4000000
set_option autoImplicit false
/-! what an expression made, by value -/
namespace Dv
open PySem PySem.Spec PyProof.Rows L2
def mFz (m : Env → Store → R Dt) : Env → Store → R Dt := fun en S => match m en S with
  | .ok d S' => fin false S.length d S'
  | .err x S' => finX false S.length x S'
  | .stuck => .stuck
section
variable {G : Gv} {X : Cx} {W : WX} {e : Expr} {m : Env → Store → R Dt}
theorem de_fz (he : DE G X W e m) : DE G X W e (mFz m) := by
  obtain ⟨t, p, q⟩ := he
  refine ⟨t, p, fun io H S en σ Q so re h => q io H S en σ Q so re ?_⟩
  unfold mFz at h
  cases em : m en S with
  | stuck => rw [em] at h; exact h
  | ok d S' =>
    rw [em] at h
    exact fun io' H' g so' v r => fin_ok so g so' r h
  | err x S' =>
    rw [em] at h
    refine fun io' H' g so' cls dx rx => finX_ok (keep := false) (E := fun cls dx H => W cls dx σ H) (Q := Q) so g so' rx ?_
    exact h
end
end Dv
set_option Elab.async false
set_option linter.all false
set_option maxRecDepth 100000
set_option maxHeartbeats 4000000
set_option autoImplicit false
/-! what is never come to; the text's classes from the head's facts -/
namespace Dv
open PySem PySem.Spec PyProof.Rows L2
def mStop : Env → Store → RS := fun _ _ => .stuck
section
variable {G : Gv} {X : Cx} {W : WX}
theorem ds_stop {s : Stmt} : DS G X W s mStop := ⟨fun _ _ _ => False, ⟨fun _ _ _ _ _ _ h => h.elim⟩, fun io H S en σ D so re h => h.elim⟩
end
structure ClsF (K : PySem.W.Frag) (C : Addr) : Prop where
  pg : PySem.W.plainGet K C Str.empty = true
  hd : PySem.W.hasDictIn K C = true
  po : PySem.W.plainOver K C = true
  sa : PySem.W.findIn K (.ref C) "__setattr__" = some (some (.builtin "object.__setattr__"))
  ha : PySem.W.findIn K (.ref C) "__class__" = some (some (.builtin "object.__class__"))
  hm : PySem.W.mroIn K C (.type "object") = some true
theorem look_mem {L : CL} : ∀ {c : String} {C : Addr}, L.lookup c = some C → (c, C) ∈ L := by
  induction L with
  | nil => intro c C h; cases h
  | cons p L ih =>
    intro c C h
    obtain ⟨d, D⟩ := p
    rw [List.lookup_cons] at h
    split at h
    · rename_i e
      cases h
      rw [eq_of_beq e]
      exact List.mem_cons_self
    · exact List.mem_cons_of_mem _ (ih h)
theorem cls_of {K : PySem.W.Frag} {L : CL} {xl : String → Option Addr} {T : List (Addr × Str)} {kt : Bool} (h : clsB K L = true) (hF : ∀ p ∈ L, ClsF K p.2) (hn : PySem.W.specialIn K (.builtin "object.__class__") "__get__" = some (some (.builtin "getset_descriptor.__get__")))
    (htk : PySem.W.takesIn K (.builtin "object.__class__") = some true) : ClsOk ⟨K, fun c => L.lookup c, xl, T, kt⟩ := by
  have al : ∀ p ∈ L, (tys.all (fun t => PySem.W.kitOne K (.type t) (.ref p.2) == some false) = true ∧ clss.all (fun t => PySem.W.kitOne K (.ref p.2) (.type t) == some false) = true) ∧ ∀ q ∈ L, PySem.W.kitOne K (.ref p.2) (.ref q.2) = some (p.1 == q.1) := fun p hp => by
    have z := List.all_eq_true.mp h p hp
    rw [Bool.and_eq_true, Bool.and_eq_true] at z
    exact ⟨z.1, fun q hq => eq_of_beq (List.all_eq_true.mp z.2 q hq)⟩
  refine ⟨fun c C e => ?_, fun c C e => (hF _ (look_mem e)).ha, .inl hn, .inl htk, fun c C e => (hF _ (look_mem e)).hm, fun c C e t ht => ?_, fun c C e t ht => ?_, fun c C d D e1 e2 => ?_⟩
  · have f := hF _ (look_mem e)
    exact ⟨f.pg, f.hd, f.po, f.sa⟩
  · exact eq_of_beq (List.all_eq_true.mp (al _ (look_mem e)).1.1 t ht)
  · exact eq_of_beq (List.all_eq_true.mp (al _ (look_mem e)).1.2 t ht)
  · exact (al _ (look_mem e1)).2 _ (look_mem e2)
end Dv
set_option Elab.async false
set_option linter.all false
set_option maxRecDepth 100000
set_option maxHeartbeats 4000000
set_option autoImplicit false
/-! comprehensions with two clauses -/
namespace Dv
open PySem PySem.Spec PyProof.Rows L2
theorem Base.trans {io i1 i2 : Io} {H H1 H2 : Hp} (a : Base io H i1 H1) (b : Base i1 H1 i2 H2) : Base io H i2 H2 :=
  ⟨fun i x h => b.at_ i x (a.at_ i x h), fun x o h n nt => let ⟨h1, n1⟩ := a.keep x o h n nt; b.keep x o h1 n1 nt⟩
theorem Base.refl {io : Io} {H : Hp} : Base io H io H := ⟨fun _ _ h => h, fun _ _ h n _ => ⟨h, n⟩⟩
section
variable {G : Gv}
/-- as lc_sim, from any stand of the list on -/
theorem lc_in {J : It} {g : TG} {tt : TT} {te : TE} {own sl : List Nat} {io i0 : Io} {H H0 : Hp} {S0 : Store} {en : Env} {σ : L2.St} {items dacc0 : List Dt} {acc0 : List V} {mg : Dt → Env → Option Env} {mt : Env → Store → R Bool} {m : Env → Store → R Dt} {wx : Ex → Io → Hp → Prop} {post : List Dt → Store → Io → Hp → Prop} {D : Addr}
    (hs : ∀ j ∈ sl, j ∈ own) (hD : H D = none) (gu0 : Grow io H i0 H0) (so0 : StoreOk G (i0.hide D) S0 H0) (hD0 : H0 D = some (.lst acc0)) (ra0 : RelDs G (i0.hide D) H0 dacc0 acc0) (jo : JOk G (i0.hide D) H0 J items) (re : RelEnv G (i0.hide D) H0 en σ)
    (hg : ∀ io H en σ d v (Q : L2.St → Hp → Prop), RelEnv G io H en σ → RelD G io H d v → (match mg d en with
      | some e' => ∀ σ', RelEnv G io H e' σ' → σ'.length = σ.length → (∀ j : Nat, j ∉ sl → σ'[j]? = σ[j]?) → Q σ' H
      | none => False) → g v σ H Q) (ht : SimT G W0 tt mt) (hm : SimE G W0 te m)
    (h : Out G io H wx (fun ds S' _ _ => ∀ (acc : List V) (io' : Io) (H' : Hp), Grow io H io' H' → StoreOk G (io'.hide D) S' H' → H' D = some (.lst acc) → RelDs G (io'.hide D) H' ds acc → post ds S' io' H') (cLoop mg mt m (wipeE en own) items dacc0 S0)) (Rf : Hp → Prop)
    (hq : ∀ ds S' io' H', post ds S' io' H' → Rf H') :
    ∃ W : Nat → Nat → Hp → Prop, (∃ m, W 0 m H0) ∧ ∀ i m H, W i m H →
      (J.stop i H ∧ Rf H) ∨ (J.go i H ∧ ∃ Nx : Hp → Prop, (∀ H', Nx H' → ∃ m', m' < m ∧ W (i + 1) m' H') ∧ ∀ x H', J.yld i H x H' → g x (wipe σ own) H' fun σ2 H2 => wipe σ2 own = wipe σ own ∧ tt σ2 H2 fun b H3 =>
        if b = true then te σ2 H3 fun y H4 => ∃ acc, H4 D = some (.lst acc) ∧ acc.length < sizeLine ∧ Nx (upd H4 D (.lst (acc ++ [y]))) else Nx H3) := by
  let Pq : List Dt → Store → Io → Hp → Prop := fun ds S' _ _ => ∀ (acc : List V) (io' : Io) (H' : Hp), Grow io H io' H' → StoreOk G (io'.hide D) S' H' → H' D = some (.lst acc) → RelDs G (io'.hide D) H' ds acc → post ds S' io' H'
  let Wp : Nat → Nat → Hp → Prop := fun i n H' => n = items.length - i ∧ i ≤ items.length ∧ ∃ (io' : Io) (S' : Store) (dacc : List Dt) (acc : List V), Grow io H io' H' ∧ StoreOk G (io'.hide D) S' H' ∧ H' D = some (.lst acc) ∧ RelDs G (io'.hide D) H' dacc acc ∧ Base (i0.hide D) H0 (io'.hide D) H' ∧ Out G io H wx Pq (cLoop mg mt m (wipeE en own) (items.drop i) dacc S')
  have gup : ∀ {i1 : Io} {H1 : Hp} {o : HO}, Grow io H i1 H1 → Grow io H i1 (upd H1 D o) := fun {i1 H1 o} g => ⟨g.pre, fun b u hb nb nt => by
    rw [upd_ne (ne_of_none hb hD)]
    exact g.keep b u hb nb nt, g.new⟩
  refine ⟨Wp, ⟨items.length, rfl, Nat.zero_le _, i0, S0, dacc0, acc0, gu0, so0, hD0, ra0, Base.refl, by simpa using h⟩, ?_⟩
  rintro i n H2 ⟨rfl, hle, i2, S2, dacc, acc, gu, s2, hD2, ra, bs, h2⟩
  by_cases hlt : i < items.length
  · refine .inr ⟨jo.go i _ H2 bs hlt, fun H' => Wp (i + 1) (items.length - (i + 1)) H', fun H' z => ⟨_, by omega, z⟩, fun x H3 hy => ?_⟩
    obtain ⟨ex, d, hd, rd⟩ := jo.yld i _ H2 x H3 bs (fun _ z => s2.fresh z) hlt hy
    have g3 : Grow (i2.hide D) H2 (i2.hide D) H3 := ex.grow
    have s3 := s2.ext ex
    have edr : items.drop i = d :: items.drop (i + 1) := by
      rw [List.drop_eq_getElem_cons hlt]
      have := (List.getElem?_eq_some_iff.mp hd).2
      rw [this]
    rw [edr] at h2
    unfold cLoop at h2
    have gu3 : Grow io H i2 H3 := gu.trans (grow_un g3)
    have bs3 := bs.trans g3.base
    have re3 : RelEnv G (i2.hide D) H3 en σ := ⟨re.len, fun j d e => let ⟨v, h1, h2⟩ := re.at_ j d e; ⟨v, h1, h2.monoB bs3⟩⟩
    refine hg _ H3 (wipeE en own) (wipe σ own) d x _ (rel_wipe re3 own) rd ?_
    cases em : mg d (wipeE en own) with
    | none =>
      rw [em] at h2
      exact h2
    | some e1 =>
      rw [em] at h2
      intro σ2 rσ l2 u2
      refine ⟨wipe_eq hs l2 u2, ?_⟩
      have lift : ∀ {α : Type} {wx : Ex → Io → Hp → Prop} {post : α → Store → Io → Hp → Prop} {r : R α} {i4 : Io} {H4 : Hp}, Grow io H i4 H4 → Out G io H wx post r.nx → Out G (i4.hide D) H4 (fun _ _ _ => False) (fun a S i5' H5 => ∀ i5 : Io, i5' = i5.hide D → Grow i4 H4 i5 H5 → post a S i5 H5) r := by
        intro α wx post r i4 H4 g4 h
        cases r with
        | ok a S =>
          intro i5' H5 g5 s5 i5 e g5'
          subst e
          exact h i5 H5 (g4.trans g5') (so_unhide s5)
        | err x S => exact h.elim
        | stuck => exact h
      refine ht _ H3 S2 e1 σ2 _ s3 rσ ((lift gu3 h2.bind0).imp (fun _ _ _ _ z => z.elim) fun b S4 i4' H4 g4 s4 k4 => ?_)
      obtain ⟨i4, rfl⟩ := io_hide g4
      have g4' := grow_un g4
      have k4 := k4 i4 rfl g4'
      have hD4 : H4 D = some (.lst acc) := g4.keep _ _ (ex _ _ hD2) fun z => s2.dis D z List.mem_cons_self
      have bs4 := bs3.trans g4.base
      cases b with
      | false => exact ⟨rfl, hlt, i4, S4, dacc, acc, gu3.trans g4', s4, hD4, (ra.mono g3).mono g4, bs4, k4⟩
      | true =>
        rw [if_pos rfl] at k4
        refine iteT (B := Wp (i + 1) (items.length - (i + 1)) H4) ?_
        refine hm _ H4 S4 e1 σ2 _ s4 (rσ.mono g4) ((lift (gu3.trans g4') k4.bind0).imp (fun _ _ _ _ z => z.elim) fun y S5 i5' H5 g5 s5 k5 v rv => ?_)
        obtain ⟨i5, rfl⟩ := io_hide g5
        have g5' := grow_un g5
        have k5 := k5 i5 rfl g5'
        have hD5 : H5 D = some (.lst acc) := g5.keep _ _ hD4 fun z => s4.dis D z List.mem_cons_self
        have ra5 := ((ra.mono g3).mono g4).mono g5
        split at k5
        · rename_i hl
          have la := ra.length
          exact ⟨acc, hD5, Nat.lt_of_lt_of_le (by rw [← la]; exact hl) (by decide), rfl, hlt, i5, S5, dacc ++ [y], acc ++ [v], gup ((gu3.trans g4').trans g5'), so_hid s5, upd_same, (ra5.append (.cons rv .nil)).monoB base_hid, (bs4.trans g5.base).trans base_hid, k5⟩
        · exact k5.elim
  · have e : i = items.length := by omega
    subst e
    rw [List.drop_length] at h2
    exact .inl ⟨jo.stop _ _ H2 bs (Nat.le_refl _), hq dacc S2 i2 H2 (h2 i2 H2 gu (so_unhide s2) acc i2 H2 gu s2 hD2 ra)⟩
/-- for tg in items if t for tg1 in .. if t1 -/
def cLoop2 (tg : Dt → Env → Option Env) (t : Env → Store → R Bool) (mi1 : Env → Store → R (List Dt)) (own1 : List Nat) (tg1 : Dt → Env → Option Env) (t1 : Env → Store → R Bool) (m : Env → Store → R Dt) (en : Env) : List Dt → List Dt → Store → R (List Dt)
  | [], acc, S => .ok acc S
  | d :: ds, acc, S => match tg d en with
    | none => .stuck
    | some e1 => (t e1 S).nx.bind fun b S1 => if b = true then (mi1 e1 S1).nx.bind fun its S2 => (cLoop tg1 t1 m (wipeE e1 own1) its acc S2).bind fun acc2 S3 => cLoop2 tg t mi1 own1 tg1 t1 m en ds acc2 S3 else cLoop2 tg t mi1 own1 tg1 t1 m en ds acc S1
def mLc2 (sl : List Nat) (mi : Env → Store → R (List Dt)) (tg : Dt → Env → Option Env) (t : Env → Store → R Bool) (mi1 : Env → Store → R (List Dt)) (sl1 : List Nat) (tg1 : Dt → Env → Option Env) (t1 : Env → Store → R Bool) (m : Env → Store → R Dt) : Env → Store → R Dt :=
  fun en S => (mi en S).bind fun items S1 => (cLoop2 tg t mi1 sl1 tg1 t1 m (wipeE en sl) items [] S1).bind fun ds S2 => .ok (.lst ds) S2
def cI (G : Gv) (W : WX) (m : Env → Store → R (List Dt)) : TI := fun σ H Q => ∃ io S en, StoreOk G io S H ∧ RelEnv G io H en σ ∧ Out G io H (wxE G W σ) (fun items _ io' H' => ∀ J, JOk G io' H' J items → Q J H') (m en S)
theorem can_i {X : Cx} {W : WX} {tg it : Expr} {m : Env → Store → R (List Dt)} (h : DI G X W tg it m) : PI X tg it (cI G W m) := by
  obtain ⟨t, p, q⟩ := h
  exact ⟨fun pins s σ H R I ⟨io, S, en, so, re, h⟩ => p.run pins s σ H R I (q io H S en σ R so re h)⟩
theorem lc2_sim {J : It} {g g1 : TG} {tt tt1 : TT} {te : TE} {own sl own1 sl1 : List Nat} {io : Io} {H : Hp} {S : Store} {en : Env} {σ : L2.St} {items : List Dt} {mg mg1 : Dt → Env → Option Env} {mt mt1 : Env → Store → R Bool} {mi1 : Env → Store → R (List Dt)} {m : Env → Store → R Dt} {wx : Ex → Io → Hp → Prop} {post : List Dt → Store → Io → Hp → Prop} {D : Addr}
    (hs : ∀ j ∈ sl, j ∈ own) (hs1 : ∀ j ∈ sl1, j ∈ own1) (jo : JOk G io H J items) (so : StoreOk G io S H) (re : RelEnv G io H en σ)
    (hg : ∀ io H en σ d v (Q : L2.St → Hp → Prop), RelEnv G io H en σ → RelD G io H d v → (match mg d en with
      | some e' => ∀ σ', RelEnv G io H e' σ' → σ'.length = σ.length → (∀ j : Nat, j ∉ sl → σ'[j]? = σ[j]?) → Q σ' H
      | none => False) → g v σ H Q) (ht : SimT G W0 tt mt)
    (hg1 : ∀ io H en σ d v (Q : L2.St → Hp → Prop), RelEnv G io H en σ → RelD G io H d v → (match mg1 d en with
      | some e' => ∀ σ', RelEnv G io H e' σ' → σ'.length = σ.length → (∀ j : Nat, j ∉ sl1 → σ'[j]? = σ[j]?) → Q σ' H
      | none => False) → g1 v σ H Q) (ht1 : SimT G W0 tt1 mt1) (hm : SimE G W0 te m) (hD : H D = none)
    (h : Out G io H wx post (cLoop2 mg mt mi1 own1 mg1 mt1 m (wipeE en own) items [] S)) (Rf : V → Hp → Prop)
    (hq : ∀ ds acc S' (io' : Io) H', Grow io H io' H' → StoreOk G (io'.hide D) S' H' → H' D = some (.lst acc) → RelDs G (io'.hide D) H' ds acc → post ds S' io' H' → Rf (.ref D) H') :
    ∃ W : Nat → Nat → Hp → Prop, (∃ m, W 0 m (upd H D (.lst []))) ∧ ∀ i m H, W i m H →
      (J.stop i H ∧ Rf (.ref D) H) ∨ (J.go i H ∧ ∃ Nx : Hp → Prop, (∀ H', Nx H' → ∃ m', m' < m ∧ W (i + 1) m' H') ∧ ∀ x H', J.yld i H x H' → g x (wipe σ own) H' fun σ2 H2 => wipe σ2 own = wipe σ own ∧ tt σ2 H2 fun b H3 =>
        if b = true then cI G W0 mi1 σ2 H3 fun J1 H4 => ∃ W1 : Nat → Nat → Hp → Prop, (∃ m, W1 0 m H4) ∧ ∀ j k H, W1 j k H →
          (J1.stop j H ∧ Nx H) ∨ (J1.go j H ∧ ∃ Nx1 : Hp → Prop, (∀ H', Nx1 H' → ∃ k', k' < k ∧ W1 (j + 1) k' H') ∧ ∀ x H', J1.yld j H x H' → g1 x (wipe σ2 own1) H' fun σ3 H5 => wipe σ3 own1 = wipe σ2 own1 ∧ tt1 σ3 H5 fun b H6 =>
            if b = true then te σ3 H6 fun y H7 => ∃ acc, H7 D = some (.lst acc) ∧ acc.length < sizeLine ∧ Nx1 (upd H7 D (.lst (acc ++ [y]))) else Nx1 H6)
        else Nx H3) := by
  let Wp : Nat → Nat → Hp → Prop := fun i n H' => n = items.length - i ∧ i ≤ items.length ∧ ∃ (io' : Io) (S' : Store) (dacc : List Dt) (acc : List V), Grow io H io' H' ∧ StoreOk G (io'.hide D) S' H' ∧ H' D = some (.lst acc) ∧ RelDs G (io'.hide D) H' dacc acc ∧ Out G io H wx post (cLoop2 mg mt mi1 own1 mg1 mt1 m (wipeE en own) (items.drop i) dacc S')
  have gup : ∀ {i1 : Io} {H1 : Hp} {o : HO}, Grow io H i1 H1 → Grow io H i1 (upd H1 D o) := fun {i1 H1 o} g => ⟨g.pre, fun b u hb nb nt => by
    rw [upd_ne (ne_of_none hb hD)]
    exact g.keep b u hb nb nt, g.new⟩
  have base : ∀ {i1 : Io} {H1 : Hp}, Grow io H i1 H1 → Base io H (i1.hide D) H1 := fun {i1 H1} g => ⟨fun j a e => g.at e, fun b o hb nb nt => ⟨g.kp hb nb nt, fun z => (hide_mem.mp z).elim (ne_of_none hb hD) (g.notin hb nb nt)⟩⟩
  refine ⟨Wp, ⟨items.length, rfl, Nat.zero_le _, io, S, [], [], gup Grow.refl, so_hide so hD, upd_same, .nil, by simpa using h⟩, ?_⟩
  rintro i n H2 ⟨rfl, hle, i2, S2, dacc, acc, gu, s2, hD2, ra, h2⟩
  by_cases hlt : i < items.length
  · refine .inr ⟨jo.go i _ H2 (base gu) hlt, fun H' => Wp (i + 1) (items.length - (i + 1)) H', fun H' z => ⟨_, by omega, z⟩, fun x H3 hy => ?_⟩
    obtain ⟨ex, d, hd, rd⟩ := jo.yld i _ H2 x H3 (base gu) (fun _ z => s2.fresh z) hlt hy
    have g3 : Grow (i2.hide D) H2 (i2.hide D) H3 := ex.grow
    have s3 := s2.ext ex
    have edr : items.drop i = d :: items.drop (i + 1) := by
      rw [List.drop_eq_getElem_cons hlt]
      have := (List.getElem?_eq_some_iff.mp hd).2
      rw [this]
    rw [edr] at h2
    unfold cLoop2 at h2
    have gu3 : Grow io H i2 H3 := gu.trans (grow_un g3)
    have re3 : RelEnv G (i2.hide D) H3 en σ := ⟨re.len, fun j d e => let ⟨v, h1, h2⟩ := re.at_ j d e; ⟨v, h1, h2.monoB (base gu3)⟩⟩
    refine hg _ H3 (wipeE en own) (wipe σ own) d x _ (rel_wipe re3 own) rd ?_
    cases em : mg d (wipeE en own) with
    | none =>
      rw [em] at h2
      exact h2
    | some e1 =>
      rw [em] at h2
      intro σ2 rσ l2 u2
      refine ⟨wipe_eq hs l2 u2, ?_⟩
      have lift : ∀ {α : Type} {wx : Ex → Io → Hp → Prop} {post : α → Store → Io → Hp → Prop} {r : R α} {i4 : Io} {H4 : Hp}, Grow io H i4 H4 → Out G io H wx post r.nx → Out G (i4.hide D) H4 (fun _ _ _ => False) (fun a S i5' H5 => ∀ i5 : Io, i5' = i5.hide D → Grow i4 H4 i5 H5 → post a S i5 H5) r := by
        intro α wx post r i4 H4 g4 h
        cases r with
        | ok a S =>
          intro i5' H5 g5 s5 i5 e g5'
          subst e
          exact h i5 H5 (g4.trans g5') (so_unhide s5)
        | err x S => exact h.elim
        | stuck => exact h
      refine ht _ H3 S2 e1 σ2 _ s3 rσ ((lift gu3 h2.bind0).imp (fun _ _ _ _ z => z.elim) fun b S4 i4' H4 g4 s4 k4 => ?_)
      obtain ⟨i4, rfl⟩ := io_hide g4
      have g4' := grow_un g4
      have k4 := k4 i4 rfl g4'
      have hD4 : H4 D = some (.lst acc) := g4.keep _ _ (ex _ _ hD2) fun z => s2.dis D z List.mem_cons_self
      have ra4 := (ra.mono g3).mono g4
      cases b with
      | false => exact ⟨rfl, hlt, i4, S4, dacc, acc, gu3.trans g4', s4, hD4, ra4, k4⟩
      | true =>
        rw [if_pos rfl] at k4
        refine iteT (B := Wp (i + 1) (items.length - (i + 1)) H4) ?_
        refine ⟨i4.hide D, S4, e1, s4, rσ.mono g4, (lift (gu3.trans g4') k4.bind0).imp (fun _ _ _ _ z => z.elim) fun its S5 i5' H5 g5 s5 k5 J1 jo1 => ?_⟩
        obtain ⟨i5, rfl⟩ := io_hide g5
        have g5' := grow_un g5
        have k5 := k5 i5 rfl g5'
        have hD5 : H5 D = some (.lst acc) := g5.keep _ _ hD4 fun z => s4.dis D z List.mem_cons_self
        refine lc_in (own := own1) (sl := sl1) (wx := wx) (post := fun ds S' io' H' => Wp (i + 1) (items.length - (i + 1)) H') hs1 hD ((gu3.trans g4').trans g5') s5 hD5 (ra4.mono g5) jo1 ((rσ.mono g4).mono g5) hg1 ht1 hm ?_ _ (fun _ _ _ _ z => z)
        exact k5.bind0.imp (fun _ _ _ _ z => z) fun ds S' _ _ _ _ q acc' io' H' g' s' hD' ra' => ⟨rfl, hlt, io', S', ds, acc', g', s', hD', ra', q⟩
  · have e : i = items.length := by omega
    subst e
    rw [List.drop_length] at h2
    exact .inl ⟨jo.stop _ _ H2 (base gu) (Nat.le_refl _), hq dacc acc S2 i2 H2 gu s2 hD2 ra (h2 i2 H2 gu (so_unhide s2))⟩
variable {X : Cx} {W : WX} {elt tg iter tg1 iter1 : Expr} {ifs ifs1 : List Expr} {scope : Scope} {sl sl1 : List Nat} {pos : Pos} {mi mi1 : Env → Store → R (List Dt)} {mg mg1 : Dt → Env → Option Env} {mt mt1 : Env → Store → R Bool} {m : Env → Store → R Dt}
/-- [e for x in xs if t for y in ys if t1], by value -/
theorem de_lc2 (own : List (Str × Nat)) (own1 : List Nat) (hN : X.N.Nodup) (hi : DI G X W tg iter mi) (ok : BlkOk X.N X.env.scope scope own)
    (hg : ∀ (s : Shared) (H : Hp) (C : Addr) (cl : List (Str × Addr)) (fp : List Addr), DGw G (X.blk s H scope (compEnvC scope cl C X.env) fp) tg sl mg)
    (ht : ∀ (s : Shared) (H : Hp) (C : Addr) (cl : List (Str × Addr)) (fp : List Addr), DTs G (X.blk s H scope (compEnvC scope cl C X.env) fp) W0 ifs mt)
    (hi1 : ∀ (s : Shared) (H : Hp) (C : Addr) (cl : List (Str × Addr)) (fp : List Addr), DI G (X.blk s H scope (compEnvC scope cl C X.env) fp) W0 tg1 iter1 mi1)
    (hg1 : ∀ (s : Shared) (H : Hp) (C : Addr) (cl : List (Str × Addr)) (fp : List Addr), DGw G (X.blk s H scope (compEnvC scope cl C X.env) fp) tg1 sl1 mg1)
    (ht1 : ∀ (s : Shared) (H : Hp) (C : Addr) (cl : List (Str × Addr)) (fp : List Addr), DTs G (X.blk s H scope (compEnvC scope cl C X.env) fp) W0 ifs1 mt1)
    (he : ∀ (s : Shared) (H : Hp) (C : Addr) (cl : List (Str × Addr)) (fp : List Addr), DE G (X.blk s H scope (compEnvC scope cl C X.env) fp) W0 elt m)
    (hsl : ∀ j ∈ sl, j ∈ own.map (·.2) := by decide) (hsl1 : ∀ j ∈ sl1, j ∈ own1 := by decide) (hv : ∀ i ∈ own1, i ∈ own.map (·.2) := by decide) (hc : X.calm = true := by rfl) (hs : ∀ x, foldedSetIterable iter X.env x = pure x := by intro _; rfl) (hs1 : ∀ env x, foldedSetIterable iter1 env x = pure x := by intro _ _; rfl) :
    DE G X W (.ListComp elt [⟨tg, iter, ifs, 0⟩, ⟨tg1, iter1, ifs1, 0⟩] scope pos) (mLc2 (own.map (·.2)) mi mg mt mi1 own1 mg1 mt1 m) := by
  obtain ⟨wi, pi, qi⟩ := hi
  refine ⟨_, pe_lc2 hc hN pi ok hv (fun s H C cl fp => can_g (hg s H C cl fp)) (fun s H C cl fp => can_t (ht s H C cl fp)) (fun s H C cl fp => can_i (hi1 s H C cl fp)) (fun s H C cl fp => can_g (hg1 s H C cl fp)) (fun s H C cl fp => can_t (ht1 s H C cl fp)) (fun s H C cl fp => can_e (he s H C cl fp)) hs hs1, fun io H S en σ Q so re h => ?_⟩
  refine qi io H S en σ _ so re (h.bind.imp (fun _ _ _ _ z => z) fun items S1 i1 H1 g1 s1 k1 J jo => ?_)
  intro D hD
  refine lc2_sim hsl hsl1 jo s1 (re.mono g1) (fun io H en σ d v Q re rd h => ⟨io, en, d, re, rd, h⟩) (fun io H S e σ Q so re h => ⟨io, S, e, so, re, h⟩) (fun io H en σ d v Q re rd h => ⟨io, en, d, re, rd, h⟩) (fun io H S e σ Q so re h => ⟨io, S, e, so, re, h⟩) (fun io H S e σ Q so re h => ⟨io, S, e, so, re, h⟩) hD k1.bind (fun v H => Q v H) ?_
  intro ds acc S' io' H' g' s' hD' rs post
  refine post io' H' Grow.refl (so_unhide s') (.ref D) (.lst hD' (fun z => ?_) rs.unhide)
  rcases z with z | z
  · exact s'.dis D z List.mem_cons_self
  · obtain ⟨t, rfl⟩ := g'.pre
    obtain ⟨u, e, _⟩ := s1.hid D z
    rw [hD] at e
    cases e
end
end Dv
set_option Elab.async false
set_option linter.all false
set_option maxRecDepth 100000
set_option maxHeartbeats 4000000
set_option autoImplicit false
/-! == and != of instances by their own __eq__; get of a dict; sum -/
namespace Dv
open PySem PySem.Spec PyProof.Rows L2
section
variable {K : PySem.W.Frag} {prog : Program} {w : World} {A : Around} {E : Value → Shared → Prop} {s : Shared}
theorem ifB_K {M : Model} {args : List Value} {Q : Option Value → Shared → Prop} {x C : Addr} {ox : Obj} {od : Option Obj} {name : Str} {id B : String} (X : K.In s.heap) (I : PySem.W.InstAt s.heap x ox C od) (hs : PySem.W.findIn K (.ref C) name = some (some (.builtin id))) (S : Slot B name id)
    (h : wpAny M A (call (.builtin id) (.ref x :: args)) (fun v => Q (some v)) E s) : wpAny M A (callSpecialIfBound? (.ref x) name args) Q E s := by
  simp only [callSpecialIfBound?, bindSpecialIfBound?]
  refine wpAny_holding (wpAny_bind (wpAny_bind (wpAny_bind (I.type.here ((PySem.W.looks_findIn X hs).here ?_)))))
  simp only [S.bind]
  refine wpAny_bind (wpAny_askSetting (wpAny_ite ?_))
  have fin : wpAny M A (call (.builtin id) ([.ref x] ++ args) >>= fun v => pure (some v)) Q E s := wpAny_bind (wpAny_mono h (fun v s' z => wpAny_pure z) fun _ _ z => z)
  split
  · exact wpAny_bind (wpAny_pure (wpAny_pure (by exact fin)))
  · exact wpAny_tryCatch (wpAny_bind (wpAny_pure (wpAny_pure (by exact fin))))
theorem ne_K {L : Addr} {h₀ : Heap} {m : Str → Option Value} {x y C f : Addr} {ox : Obj} {od : Option Obj} {Q : Value → Shared → Prop} (hu : A.units + 1 < cLine) (F : Fr h₀ L s.heap m) (X₀ : K.In h₀) (I : PySem.W.InstAt s.heap x ox C od) (hb : PySem.W.Looks (model prog w) s.heap (typeOf (.ref y)) (.ref C))
    (hne : PySem.W.findIn K (.ref C) "__ne__" = some (some (.builtin "object.__ne__"))) (hs : PySem.W.findIn K (.ref C) "__eq__" = some (some (.ref f))) (hf : PySem.W.isFn K (.ref f) = true) (hm : PySem.W.mroIn K C (.type "object") = some true)
    (h : wpAny (model prog w) A.in1 (call (.ref f) [.ref x, .ref y]) (fun v s' => ∃ b, v = .bool b ∧ Q (.bool (!b)) s') E s) : wpAny (model prog w) A (richCompare .NotEq (.ref x) (.ref y)) Q E s := by
  have X := X₀.keeps F.keep
  have isO : PySem.W.Looks (model prog w) s.heap (isInstance (.ref x) (.type "object")) true := by
    unfold isInstance
    exact I.type.andThen (PySem.W.looks_mroIn X hm)
  have body : wpAny (model prog w) A.in1 (Builtin.«object.__ne__» ⟨[.ref x, .ref y], []⟩) (fun fin s' => ∃ v, fin = .done (.ret v) ∧ ∃ b, v = .bool b ∧ Q v s') E s := by
    unfold Builtin.«object.__ne__»
    show wpAny _ _ (cRoomFor "comparison" [.ref x, .ref y] >>= _) _ _ _
    refine wpAny_bind (wpAny_cRoomFor (A := A.in1) hu ?_)
    refine wpAny_bind (PySem.W.ifBound_K X I hs hf (wpAny_mono h (fun v s' hv => ?_) fun _ _ z => z))
    obtain ⟨b, rfl, q⟩ := hv
    exact wpAny_bind (wpAny_truthy_bool (wpAny_pure ⟨_, rfl, _, rfl, q⟩))
  have one : wpAny (model prog w) A (tryCompare (.ref x) (cmpInfo .NotEq).2.1 (.ref y)) (fun r s' => ∃ v, r = some v ∧ Q v s') E s := by
    unfold tryCompare
    refine wpAny_bind (ifB_K X I hne PySem.F.cmp_object.ne (wpAny_call (codeAny_call_builtin PySem.F.cmp_object.ne.plain PySem.F.cmpEntry_ne
      (PySem.W.check_slot PySem.F.cmpKind_ne PySem.F.cmpSplit_ne isO (PySem.F.cmpArgs_ne _ _) (wpAny_mono body (fun fin s' z => ?_) fun _ _ z => z)))))
    obtain ⟨v, rfl, b, rfl, q⟩ := z
    show wpAny _ _ (pure (some (Value.bool _))) _ _ _
    exact wpAny_pure ⟨_, rfl, q⟩
  unfold richCompare
  simp only [oneThing_ref]
  refine wpAny_holding (wpAny_bind (wpAny_cRoomFor (by omega) ?_))
  refine wpAny_bind (I.type.here (wpAny_bind (hb.here ?_)))
  rw [show (Value.ref C != Value.ref C) = false from by simp]
  simp only [Bool.false_eq_true, if_false]
  refine wpAny_bind (wpAny_pure ?_)
  simp only [Bool.false_eq_true, if_false]
  refine wpAny_bind (wpAny_mono one (fun r s' z => ?_) fun _ _ z => z)
  obtain ⟨v, rfl, q⟩ := z
  exact wpAny_pure q
end
/-- what the head knows of a class with its own == -/
structure EqC (K : PySem.W.Frag) (C f : Addr) : Prop where
  eq : PySem.W.findIn K (.ref C) "__eq__" = some (some (.ref f))
  ne : PySem.W.findIn K (.ref C) "__ne__" = some (some (.builtin "object.__ne__"))
  fn : PySem.W.isFn K (.ref f) = true
  mro : PySem.W.mroIn K C (.type "object") = some true
def mEqI (neg : Bool) (c : String) (fn : Fn) (x y : Dt) (S : Store) : R Dt := match insD S x, insD S y with
  | some (c1, _, _), some (c2, _, _) => if c1 = c ∧ c2 = c then (match fn [x, y] S with
    | .ok (.bl b) S1 => .ok (.bl (if neg then !b else b)) S1
    | _ => .stuck) else .stuck
  | _, _ => .stuck
section
variable {G : Gv} {X : Cx} {W : WX} {C f : Addr} {c : String} {k : Nat} {fd : FuncData} {ps : List Str} {fn : Fn}
def rEqI (C : Addr) (neg : Bool) (sp : Sp) : R2 := fun x y H Q => ∃ a b dx dy fs gs, x = .ref a ∧ y = .ref b ∧ H a = some (.ins C dx fs) ∧ H b = some (.ins C dy gs) ∧ sp [x, y] H (fun v H' => ∃ b, v = .bl b ∧ Q (.bl (if neg then !b else b)) H') E0
theorem run_eqI {A : Around} {pins : List (Addr × Obj)} {s : Shared} {σ : L2.St} {H : Hp} {sp : Sp} {a b : Addr} {Q : VK} (sb : Sub X k A) (F : FnOk X.prog X.w X.K X.mg X.base (L2.CX X.prog X.w) k f fd ps sp) (hb : Binds X.K fd ps []) (I : Inv X pins σ H s)
    (hsp : sp [.ref a, .ref b] H Q E0) : wpAny (model X.prog X.w) A (call (.ref f) [.ref a, .ref b]) (EP X pins σ Q) X.xe s := by
  have e0 : Env0 X.prog X.w X.K X.mg X.base A X.stack s H := by
    have e := I.env0
    exact ⟨by rw [sb.fr]; exact e.frames, e.mod, e.bs, e.bsz, e.funs, e.frf, e.hok, e.bare⟩
  have hl := F.len _ _ _ _ hsp
  have r2 : Vals [V.ref a, V.ref b] [Value.ref a, Value.ref b] := .cons rfl (.cons rfl .nil)
  have bt := hb s [.ref a, .ref b] I.kIn (by simpa using hl)
  rw [List.append_nil] at bt
  refine wpAny_call (codeAny_mono (F.run A X.stack s H ⟨[.ref a, .ref b], []⟩ [.ref a, .ref b] [.ref a, .ref b] _ E0 sb.room e0 bt r2 hsp) fun r s' hq => ?_)
  cases r with
  | error e => exact passL pins σ H s e s' I hq
  | ok fl => cases fl with
    | ret u => exact I.after hq
    | next => exact False.elim hq
    | brk => exact False.elim hq
    | cont => exact False.elim hq
theorem op_neI {sp : Sp} (Q1 : EqC X.K C f) (F : FnOk X.prog X.w X.K X.mg X.base (L2.CX X.prog X.w) k f fd ps sp) (hr : Room (k + 1) X.A) (hb : Binds X.K fd ps []) : OpR X (compareOp .NotEq) (rEqI C true sp) := by
  intro pins s σ H x y v u Q I rx ry h
  obtain ⟨a, b, dx, dy, fs, gs, rfl, rfl, ha, hb', hsp⟩ := h
  cases rx
  cases ry
  obtain ⟨mA, J, _⟩ := ins_get I.hok ha
  obtain ⟨mB, J', _⟩ := ins_get I.hok hb'
  obtain ⟨od, J, _⟩ := J.look
  obtain ⟨od', J', _⟩ := J'.look
  obtain ⟨m, hF⟩ := I.fr
  show wpAny (model X.prog X.w) X.A (richCompare .NotEq (.ref a) (.ref b)) (EP X pins σ Q) X.xe s
  have sb : Sub X (k + 1) X.A := ⟨hr, rfl⟩
  refine ne_K (by have := hr.units; omega) hF I.ok.mod.kin J J'.type Q1.ne Q1.eq Q1.fn Q1.mro ?_
  refine wpAny_mono (run_eqI sb.in1 F hb I hsp) (fun r s' z => ?_) fun _ _ z => z
  obtain ⟨v, H', I', rv, b', rfl, q⟩ := z
  cases rv
  exact ⟨b', rfl, .bl (!b'), H', I', rfl, q⟩
theorem sim_eqI (neg : Bool) (hC : G.cl c = some C) : SimO G (rEqI C neg (spF G 2 fn)) (mEqI neg c fn) := by
  intro io H S x y dx dy Q so rx ry h
  unfold mEqI at h
  split at h
  · rename_i c1 n1 d1 c2 n2 d2 h1 h2
    split at h
    · rename_i hc
      obtain ⟨rfl, rfl⟩ := hc
      obtain ⟨a, C1, dx1, vs1, rfl, e1, e2, e3, e4⟩ := insD_ok so rx h1
      obtain ⟨b, C2, dx2, vs2, rfl, f1, f2, f3, f4⟩ := insD_ok so ry h2
      rw [hC] at e2 f2
      cases e2
      cases f2
      refine ⟨a, b, dx1, dx2, _, _, rfl, rfl, e1, f1, io, S, [dx, dy], so, .cons rx (.cons ry .nil), rfl, ?_⟩
      cases ef : fn [dx, dy] S with
      | stuck => rw [ef] at h; exact h.elim
      | err x S1 => rw [ef] at h; exact h.elim
      | ok d S1 =>
        rw [ef] at h
        intro io' H' g s' v r
        cases r with
        | bl b => exact ⟨b, rfl, h io' H' g s' _ (.bl _)⟩
        | _ => exact h.elim
    · exact h.elim
  · exact h.elim
theorem noErr_eqI (neg : Bool) (x y : Dt) (S : Store) : NoErr (mEqI neg c fn x y S) := by
  unfold mEqI
  repeat' split
  all_goals trivial
theorem do_neI (Q1 : EqC G.K C f) (hC : G.cl c = some C) (F : FnOk X.prog X.w X.K X.mg X.base (L2.CX X.prog X.w) k f fd ps (spF G 2 fn)) (hr : Room (k + 1) X.A) (hb : Binds X.K fd ps []) (hK : X.K = G.K := by rfl) : DO G X (compareOp .NotEq) (mEqI true c fn) :=
  ⟨_, op_neI (by rw [hK]; exact Q1) F hr hb, sim_eqI true hC, fun x y S => noErr_eqI true x y S⟩
/-! d.get(k, x) -/
/-! sum of a list of numbers -/
end
end Dv
set_option Elab.async false
set_option linter.all false
set_option maxRecDepth 100000
set_option maxHeartbeats 4000000
set_option autoImplicit false
/-! two statements, what they made by value behind them -/
namespace Dv
open PySem PySem.Spec PyProof.Rows L2
end Dv
set_option Elab.async false
set_option linter.all false
set_option maxRecDepth 100000
set_option maxHeartbeats 4000000
set_option autoImplicit false
/-! more words -/
namespace Dv
open PySem L2
section
variable {en : Env} {S : Store} {Q : Dt → Store → Prop} {QA : List Dt → Store → Prop} {QB : Bool → Store → Prop} {X : Ex → Store → Prop} {QS : Fl → Env → Store → Prop} {XS : Ex → Env → Store → Prop} {ma mb mc me mo : Env → Store → R Dt} {ta tb : Env → Store → R Bool} {ms mk : Env → Store → R (List Dt)} {ba bb : Env → Store → RS}
theorem v_fld {cs : List String} {f : Str} (h : Pe (me en S) (fun d S1 => ∃ c ns ds x, insD S1 d = some (c, ns, ds) ∧ c ∈ cs ∧ (ns.zip ds).lookup f = some x ∧ Q x S1) X) : Pe (mFld cs f me en S) Q X := by
  refine Pe.bind (h.imp (fun d S1 ⟨c, ns, ds, x, e, hc, hl, k⟩ => ?_) fun _ _ z => z)
  rw [e]
  dsimp only
  rw [if_pos hc, hl]
  exact k
theorem v_meth {c : String} {n : Str} {np : Nat} {fn : Fn} (h : Pe (mo en S) (fun d S1 => (∃ ns ds, insD S1 d = some (c, ns, ds) ∧ n ∉ ns) ∧ Pe (ms en S1) (fun ds S2 => ds.length + 1 = np ∧ Pe (fn (d :: ds) S2) Q X) X) X) : Pe (mMeth c n np fn mo ms en S) Q X := by
  refine Pe.bind (h.imp (fun d S1 ⟨⟨ns, ds, e, hn⟩, k⟩ => ?_) fun _ _ z => z)
  rw [e]
  dsimp only
  rw [if_pos ⟨rfl, hn⟩]
  refine Pe.bind (k.imp (fun ds S2 ⟨hl, k2⟩ => ?_) fun _ _ z => z)
  rw [if_pos hl]
  exact k2
theorem v_methK {c : String} {n : Str} {na nk np : Nat} {is : List Nat} {fn : Fn} (h : Pe (mo en S) (fun d S1 => (∃ ns ds, insD S1 d = some (c, ns, ds) ∧ n ∉ ns) ∧ Pe (ms en S1) (fun ds S2 => Pe (mk en S2) (fun zs S3 => (ds.length + 1 = na ∧ zs.length = nk ∧ (d :: ds ++ pickL is zs).length = np) ∧ Pe (fn (d :: ds ++ pickL is zs) S3) Q X) X) X) X) :
    Pe (mMethK c n na nk np is fn mo ms mk en S) Q X := by
  refine Pe.bind (h.imp (fun d S1 ⟨⟨ns, ds, e, hn⟩, k⟩ => ?_) fun _ _ z => z)
  rw [e]
  dsimp only
  rw [if_pos ⟨rfl, hn⟩]
  refine Pe.bind (k.imp (fun ds S2 k2 => Pe.bind (k2.imp (fun zs S3 ⟨hl, k3⟩ => ?_) fun _ _ z => z)) fun _ _ z => z)
  rw [if_pos hl]
  exact k3
theorem v_make {c : String} {np : Nat} {fn : Fn} (h : Pe (ms en S) (fun ds S1 => ds.length + 1 = np ∧ Pe (fn (.ref S1.length :: ds) (S1 ++ [.ins c [] []])) (fun r S2 => r = .non ∧ Q (.ref S1.length) S2) X) X) : Pe (mMake c np fn ms en S) Q X := by
  refine Pe.bind (h.imp (fun ds S1 ⟨hl, k⟩ => ?_) fun _ _ z => z)
  rw [if_pos hl]
  refine Pe.bind (k.imp (fun r S2 ⟨e, k2⟩ => ?_) fun _ _ z => z)
  subst e
  exact k2
theorem v_fz (h : Pe (me en S) (fun d S1 => Pe (fin false S.length d S1) Q X) (fun x S1 => Pe (finX false S.length x S1) Q X)) : Pe (mFz me en S) Q X := by
  unfold mFz
  cases e : me en S with
  | ok d S1 => rw [e] at h; exact h
  | err x S1 => rw [e] at h; exact h
  | stuck => rw [e] at h; exact h
theorem v_fldS {cs : List String} {f : Str} (h : Pe (me en S) (fun d S1 => Pe (mo en S1) (fun x S2 => ∃ S3, setFld cs f S2 x d = some S3 ∧ QS .nx en S3) (fun x S => XS x en S)) (fun x S => XS x en S)) : Ps (mFldS cs f mo me en S) QS XS := by
  refine Pe.toS (h.imp (fun d S1 k => Pe.toS (k.imp (fun x S2 ⟨S3, e, q⟩ => ?_) fun _ _ z => z)) fun _ _ z => z)
  rw [e]
  exact q
theorem v_getS {k : Str} (h : Pe (mo en S) (fun x S1 => ∃ ks ds d, dctD S1 x = some (ks, ds) ∧ lookK ks ds (.inr k) = some d ∧ Q d S1) X) : Pe (mGetS k mo en S) Q X := by
  refine Pe.bind (h.imp (fun x S1 ⟨ks, ds, d, e1, e2, q⟩ => ?_) fun _ _ z => z)
  rw [e1]
  dsimp only
  rw [e2]
  exact q
theorem v_ev {k : Nat} (h : Pe (me en S) (fun x S1 => (∃ ds, x = .tup ds ∧ Q (.tup (evens (ds.drop k))) S1) ∨ (∃ ds, (∀ t, x ≠ .tup t) ∧ asL S1 x = some ds ∧ Q (.lst (evens (ds.drop k))) S1)) X) : Pe (mEv k me en S) Q X := by
  refine Pe.bind (h.imp (fun x S1 z => ?_) fun _ _ z => z)
  rcases z with ⟨ds, rfl, q⟩ | ⟨ds, hn, e, q⟩
  · exact q
  · split
    · rename_i t
      exact absurd rfl (hn t)
    · rw [e]
      exact q
theorem v_rev (h : Pe (me en S) (fun x S1 => ∃ ds, asL S1 x = some ds ∧ Q (.lst ds.reverse) S1) X) : Pe (mRev me en S) Q X := by
  refine Pe.bind (h.imp (fun x S1 ⟨ds, e, q⟩ => ?_) fun _ _ z => z)
  rw [e]
  exact q
theorem v_zs (h : Pe (ms en S) (fun ds S1 => ∃ x y xs ys, ds = [x, y] ∧ itemsL x = some xs ∧ itemsL y = some ys ∧ xs.length = ys.length ∧ QA (pairsD xs ys) S1) X) : Pe (mZs ms en S) QA X := by
  refine Pe.bind (h.imp (fun ds S1 ⟨x, y, xs, ys, e, e1, e2, hl, q⟩ => ?_) fun _ _ z => z)
  subst e
  dsimp only
  rw [e1, e2]
  dsimp only
  rw [if_pos hl]
  exact q
theorem v_enum (h : Pe (ms en S) (fun ds S1 => ∃ x xs, ds = [x] ∧ itemsL x = some xs ∧ QA (numbered 0 xs) S1) X) : Pe (mEnum ms en S) QA X := by
  refine Pe.bind (h.imp (fun ds S1 ⟨x, xs, e, e1, q⟩ => ?_) fun _ _ z => z)
  subst e
  dsimp only
  rw [e1]
  exact q
theorem v_lc2 {sl sl1 : List Nat} {mi mi1 : Env → Store → R (List Dt)} {g g1 : Dt → Env → Option Env} (h : Pe (mi en S) (fun items S1 => Pe (cLoop2 g ta mi1 sl1 g1 tb me (wipeE en sl) items [] S1) (fun ds S2 => Q (.lst ds) S2) X) X) : Pe (mLc2 sl mi g ta mi1 sl1 g1 tb me en S) Q X :=
  Pe.bind (h.imp (fun _ _ k => Pe.bind (k.imp (fun _ _ q => q) fun _ _ z => z)) fun _ _ z => z)
theorem v_eqInst {neg : Bool} {c : String} {fn : Fn} {x y : Dt} {n1 n2 : List Str} {d1 d2 : List Dt} (e1 : insD S x = some (c, n1, d1)) (e2 : insD S y = some (c, n2, d2)) (h : Pe (fn [x, y] S) (fun r S1 => ∃ b, r = .bl b ∧ Q (.bl (if neg then !b else b)) S1) X0) : Pe (mEqI neg c fn x y S) Q X := by
  unfold mEqI
  rw [e1, e2]
  dsimp only
  rw [if_pos ⟨rfl, rfl⟩]
  cases e : fn [x, y] S with
  | ok d S1 =>
    rw [e] at h
    obtain ⟨b, rfl, q⟩ := h
    exact q
  | err x S1 => rw [e] at h; exact h.elim
  | stuck => rw [e] at h; exact h.elim
theorem v_app {k : Nat} {ds : List Dt} {d : Dt} (hS : S[k]? = some (.lst ds)) (hl : ds.length < 1000000) (q : Q .non (S.set k (.lst (ds ++ [d])))) : Pe (mApp S (.ref k) d) Q X := by
  unfold mApp
  simp only [hS]
  first
  | (rw [if_pos hl]; exact q)
  | exact q
theorem v_app1K {k : Nat} {ds : List Dt} {me : Env → Store → R Dt} (ho : mo en S = .ok (.ref k) S) (hS : S[k]? = some (.lst ds)) (h : Pe (me en S) (fun d S1 => ∃ ds1, S1[k]? = some (.lst ds1) ∧ ds1.length < 1000000 ∧ Q .non (S1.set k (.lst (ds1 ++ [d])))) X) : Pe (mApp1 mo me en S) Q X := by
  unfold mApp1
  rw [ho]
  show Pe (if isLstR S (.ref k) = true then _ else _) Q X
  rw [if_pos (by unfold isLstR; simp only [hS])]
  refine Pe.bind (h.imp (fun d S1 ⟨ds1, h1, h2, q⟩ => v_app h1 h2 q) fun _ _ z => z)
theorem v_itX (h : Pe (me en S) (fun d S1 => ∃ ds, itemsD d = some ds ∧ QA ds S1) X) : Pe (mIt me en S) QA X := by
  refine Pe.bind (h.imp (fun d S1 ⟨b, e, k⟩ => ?_) fun _ _ z => z)
  rw [e]
  exact k
/-! the text's own classes, the laws' own webs -/
abbrev wF : List Str := ["places", "roads"]
abbrev kF : List Str := ["over", "line", "spots"]
abbrev mF : List Key := [.inr "yards", .inr "roads"]
abbrev webV (a b : Dt) : Dt := .ins "Web" wF [a, b]
abbrev walkV (a b c : Dt) : Dt := .ins "Walk" kF [a, b, c]
abbrev modV (a b : Dt) : Dt := .dct mF [a, b]
theorem w_places (a b : Dt) : (wF.zip [a, b]).lookup ("places" : Str) = some a := rfl
theorem w_roads (a b : Dt) : (wF.zip [a, b]).lookup ("roads" : Str) = some b := by
  have e : (("roads" : Str) == ("places" : Str)) = false := by decide +kernel
  show List.lookup ("roads" : Str) [(("places" : Str), a), (("roads" : Str), b)] = some b
  rw [List.lookup_cons, e, List.lookup_cons, beq_self_eq_true]
theorem k_over (a b c : Dt) : (kF.zip [a, b, c]).lookup ("over" : Str) = some a := rfl
theorem k_line (a b c : Dt) : (kF.zip [a, b, c]).lookup ("line" : Str) = some b := by
  have e : (("line" : Str) == ("over" : Str)) = false := by decide +kernel
  show List.lookup ("line" : Str) [(("over" : Str), a), (("line" : Str), b), (("spots" : Str), c)] = some b
  rw [List.lookup_cons, e, List.lookup_cons, beq_self_eq_true]
theorem k_spots (a b c : Dt) : (kF.zip [a, b, c]).lookup ("spots" : Str) = some c := by
  have e : (("spots" : Str) == ("over" : Str)) = false := by decide +kernel
  have e2 : (("spots" : Str) == ("line" : Str)) = false := by decide +kernel
  show List.lookup ("spots" : Str) [(("over" : Str), a), (("line" : Str), b), (("spots" : Str), c)] = some c
  rw [List.lookup_cons, e, List.lookup_cons, e2, List.lookup_cons, beq_self_eq_true]
theorem m_yards (a b : Dt) : lookK mF [a, b] (.inr "yards") = some a := by
  unfold lookK
  rw [if_pos rfl]
theorem m_roads (a b : Dt) : lookK mF [a, b] (.inr "roads") = some b := by
  unfold lookK
  rw [if_neg (by decide +kernel)]
  unfold lookK
  rw [if_pos rfl]
theorem v_places (h : Pe (me en S) (fun d S1 => ∃ a b, insD S1 d = some ("Web", wF, [a, b]) ∧ Q a S1) X) : Pe (mFld ["Web"] "places" me en S) Q X :=
  v_fld (h.imp (fun d S1 ⟨a, b, e, q⟩ => ⟨_, _, _, _, e, List.mem_singleton.mpr rfl, w_places a b, q⟩) fun _ _ z => z)
theorem v_roads (h : Pe (me en S) (fun d S1 => ∃ a b, insD S1 d = some ("Web", wF, [a, b]) ∧ Q b S1) X) : Pe (mFld ["Web"] "roads" me en S) Q X :=
  v_fld (h.imp (fun d S1 ⟨a, b, e, q⟩ => ⟨_, _, _, _, e, List.mem_singleton.mpr rfl, w_roads a b, q⟩) fun _ _ z => z)
theorem v_over (h : Pe (me en S) (fun d S1 => ∃ a b c, insD S1 d = some ("Walk", kF, [a, b, c]) ∧ Q a S1) X) : Pe (mFld ["Walk"] "over" me en S) Q X :=
  v_fld (h.imp (fun d S1 ⟨a, b, c, e, q⟩ => ⟨_, _, _, _, e, List.mem_singleton.mpr rfl, k_over a b c, q⟩) fun _ _ z => z)
theorem v_line (h : Pe (me en S) (fun d S1 => ∃ a b c, insD S1 d = some ("Walk", kF, [a, b, c]) ∧ Q b S1) X) : Pe (mFld ["Walk"] "line" me en S) Q X :=
  v_fld (h.imp (fun d S1 ⟨a, b, c, e, q⟩ => ⟨_, _, _, _, e, List.mem_singleton.mpr rfl, k_line a b c, q⟩) fun _ _ z => z)
theorem v_spots (h : Pe (me en S) (fun d S1 => ∃ a b c, insD S1 d = some ("Walk", kF, [a, b, c]) ∧ Q c S1) X) : Pe (mFld ["Walk"] "spots" me en S) Q X :=
  v_fld (h.imp (fun d S1 ⟨a, b, c, e, q⟩ => ⟨_, _, _, _, e, List.mem_singleton.mpr rfl, k_spots a b c, q⟩) fun _ _ z => z)
theorem v_myards (h : Pe (mo en S) (fun x S1 => ∃ a b, dctD S1 x = some (mF, [a, b]) ∧ Q a S1) X) : Pe (mGetS "yards" mo en S) Q X :=
  v_getS (h.imp (fun x S1 ⟨a, b, e, q⟩ => ⟨_, _, _, e, m_yards a b, q⟩) fun _ _ z => z)
theorem v_mroads (h : Pe (mo en S) (fun x S1 => ∃ a b, dctD S1 x = some (mF, [a, b]) ∧ Q b S1) X) : Pe (mGetS "roads" mo en S) Q X :=
  v_getS (h.imp (fun x S1 ⟨a, b, e, q⟩ => ⟨_, _, _, e, m_roads a b, q⟩) fun _ _ z => z)
/-- a method of the two classes -/
theorem v_mW {n : Str} {np : Nat} {fn : Fn} (hn : n ∉ wF) (h : Pe (mo en S) (fun d S1 => (∃ a b, insD S1 d = some ("Web", wF, [a, b])) ∧ Pe (ms en S1) (fun ds S2 => ds.length + 1 = np ∧ Pe (fn (d :: ds) S2) Q X) X) X) : Pe (mMeth "Web" n np fn mo ms en S) Q X :=
  v_meth (h.imp (fun d S1 ⟨⟨a, b, e⟩, q⟩ => ⟨⟨_, _, e, hn⟩, q⟩) fun _ _ z => z)
theorem v_mK {n : Str} {np : Nat} {fn : Fn} (hn : n ∉ kF) (h : Pe (mo en S) (fun d S1 => (∃ a b c, insD S1 d = some ("Walk", kF, [a, b, c])) ∧ Pe (ms en S1) (fun ds S2 => ds.length + 1 = np ∧ Pe (fn (d :: ds) S2) Q X) X) X) : Pe (mMeth "Walk" n np fn mo ms en S) Q X :=
  v_meth (h.imp (fun d S1 ⟨⟨a, b, c, e⟩, q⟩ => ⟨⟨_, _, e, hn⟩, q⟩) fun _ _ z => z)
end
end Dv
set_option Elab.async false
set_option linter.all false
set_option maxRecDepth 100000
set_option maxHeartbeats 4000000
set_option autoImplicit false
/-! the head by one run: facts told by tests of our own -/
namespace Dv
open PySem PySem.Spec PyProof.Rows L2
section
variable {fs : List Test} {fn : List He.DefD} {K : PySem.W.Frag}
theorem SaysL.fact (c : SaysL fs fn K) (i : Nat) {f : Test} (h : fs[i]? = some f) : f K = true := by
  have c1 := (He.ba (show ((fs.all fun f => f K) && fn.all fun d => d.ok K) = true from congrArg (fun z : He.AlD => z.1) c)).1
  exact List.all_eq_true.mp c1 f (List.mem_of_getElem? h)
theorem SaysL.def_ (c : SaysL fs fn K) (i : Nat) {d : He.DefD} (h : fn[i]? = some d) : ∃ fd, FunD K d.name d.qual d.params d.body d.scope (d.dvs K) (d.kws K) (He.fAd K d.at_) fd := by
  have c2 := (He.ba (show ((fs.all fun f => f K) && fn.all fun d => d.ok K) = true from congrArg (fun z : He.AlD => z.1) c)).2
  have e : fn.map (fun d => He.fnW K d.at_) = fn.map He.DefD.val := congrArg (fun z : He.AlD => z.2) c
  have e2 : (fn.map fun d => He.fnW K d.at_)[i]? = (fn.map He.DefD.val)[i]? := by rw [e]
  rw [List.getElem?_map, List.getElem?_map, h] at e2
  exact He.DefD.funD (Option.some.inj e2) (List.all_eq_true.mp c2 d (List.mem_of_getElem? h))
end
theorem funOfD {K : PySem.W.Frag} {x qual : Str} {st : Stmt} {f : Addr} {fd : FuncData} (F : FunD K x qual (defArgs st) (defBody st) (defScope st) [] [] f fd) : Fun K x qual st f fd := by
  obtain ⟨c1, c2, v, k1, d1, p1, n1, e1, t1, sl, hf, hl, hc, hd, _⟩ := F.ex
  have hv : v = .none := by
    rcases hd with h | h
    · exact h.2
    · exact absurd rfl h.1
  subst hv
  exact ⟨⟨c1, c2, k1, d1, p1, n1, e1, t1, sl, hf, hl, hc⟩, F.kp⟩
/-- the goal that this head leaves -/
theorem walk_lawE {l : PySem.W.OpenLaw} {k : Nat} {q : Program} {loose : List Str} {XP : (Str → Option Value) → Heap → Prop} {YP : World → Heap → Prop} {d : DefRec} {x : Str}
    (hn : l.most = some 63) (hdf : d.params.defaults = []) (hr : Room k callerA)
    (F : ∀ (w : World) (mg : Str → Option Value) (fa : Addr) (h : Heap), YP w h → h.Ns mainGlobals mg → mg d.name = some (.ref fa) →
      ∃ (K : PySem.W.Frag) (fd : FuncData), K.In h ∧ (∀ (s : Shared) (u : Value), BindsTo s fd ⟨[u], []⟩ [(x, u)]) ∧ ∀ base : Heap, K.In base → base.Ns mainGlobals mg → FnOk l.prog w K mg base (L2.CX l.prog w) k fa fd [x] (spLaw K [])) :
    PySem.W.WalkO q loose XP YP l.row.toRowW d [] (fun f vs => PySem.call f vs) := by
  refine Att.attach_call hn hdf fun w s₀ s₁ mg mb fa o pm cd doc a vs ns G Y ho hd hcd hmg hobj hints hlen hg => ?_
  obtain ⟨K, fd, KX, hb, hF⟩ := F w mg fa _ Y G.T.g hmg
  exact law_call KX G.T.g G.T.b G.T.builtins G.T.nolimit hg hobj hints (Nat.le_trans hlen (by decide)) hr hF hb (fun H _ hS => ⟨a, ns, rfl, hS, hlen, (fun _ h => (List.not_mem_nil h).elim), fun _ => rfl⟩) fun H e s' z => by
    obtain ⟨_, _, _, _, _, _, _, _, _, _, _, _, z⟩ := z
    exact z.elim
end Dv
set_option Elab.async false
set_option linter.all false
set_option maxRecDepth 100000
set_option maxHeartbeats 4000000
set_option autoImplicit false
/-! range with a step -/
namespace Dv
open PySem PySem.Spec PyProof.Rows L2
def rangeC (lo c : Int) (n : Nat) : List Dt := (List.range n).map fun (k : Nat) => Dt.int (lo + (k : Int) * c)
def rngN (i j c : Int) : Nat := (Builtin.Range.rangeSize i j c).toNat
def rngC (i j c : Int) : Bool := decide (c ≠ 0) && (decide (c.natAbs < 1073741824) && (Builtin.Range.small i j c && decide (Builtin.Range.rangeSize i j c = (rngN i j c : Int))))
def mRng3 (m : Env → Store → R (List Dt)) : Env → Store → R (List Dt) := fun en S => (m en S).bind fun ds S1 => match ds with
  | [.int i, .int j, .int c] => if rngC i j c = true then .ok (rangeC i c (rngN i j c)) S1 else .stuck
  | _ => .stuck
section
variable {G : Gv} {X : Cx} {W : WX} {tg a b c : Expr} {ma : Env → Store → R (List Dt)} {p pos : Pos}
theorem jok_rangeC {io : Io} {H : Hp} {lo k : Int} {n : Nat} : JOk G io H (Itc lo k n) (rangeC lo k n) := by
  refine ⟨fun i io H g hi => ?_, fun i io H g hi => ?_, fun i io H x H' g _ hi hy => ?_⟩
  · simpa [Itc, rangeC] using hi
  · simpa [Itc, rangeC] using hi
  · obtain ⟨rfl, rfl⟩ := hy
    have hi' : i < n := by simpa [rangeC] using hi
    exact ⟨fun _ _ z => z, .int (lo + i * k), by simp [rangeC, hi'], .int _⟩
theorem di_range3 (hm : X.mg "range" = none) (ha : DA G X W [a, b, c] ma) (hg : Gl X "range" := by rfl) (hs : starEach [a, b, c] X.env = (false, eval a X.env) :: starEach [b, c] X.env := by rfl) (hs2 : (backTo pos (starEach [b, c] X.env)).any (·.1) = false := by rfl) :
    DI G X W tg (.Call (.Name "range" p) [a, b, c] [] pos) (mRng3 ma) := by
  obtain ⟨t, pa, qa⟩ := ha
  refine ⟨_, pi_range3 hg hm pa hs hs2, fun io H S en σ Q so re h => ?_⟩
  refine qa io H S en σ _ so re (h.bind.imp (fun _ _ _ _ z => z) fun ds S1 i1 H1 g1 s1 k1 vs r => ?_)
  split at k1
  · rename_i i j k
    split at k1
    · rename_i hj
      unfold rngC at hj
      simp only [Bool.and_eq_true, decide_eq_true_eq] at hj
      obtain ⟨q1, q2, q3, q4⟩ := hj
      cases r with
      | cons r1 r2 =>
        cases r1
        cases r2 with
        | cons r2 r3 =>
          cases r2
          cases r3 with
          | cons r3 r4 =>
            cases r3
            cases r4
            exact ⟨i, j, k, _, rfl, ⟨q1, q2, q3, q4⟩, k1 i1 H1 Grow.refl s1 _ jok_rangeC⟩
    · exact k1.elim
  · exact k1.elim
theorem v_rng3 {ms : Env → Store → R (List Dt)} {en : Env} {S : Store} {QA : List Dt → Store → Prop} {XE : Ex → Store → Prop} (h : Pe (ms en S) (fun ds S1 => ∃ i j k, ds = [.int i, .int j, .int k] ∧ rngC i j k = true ∧ QA (rangeC i k (rngN i j k)) S1) XE) : Pe (mRng3 ms en S) QA XE := by
  refine Pe.bind (h.imp (fun d S1 ⟨b, b', b'', e, r, k⟩ => ?_) fun _ _ z => z)
  subst e
  dsimp only
  rw [if_pos r]
  exact k
end
end Dv
set_option Elab.async false
set_option linter.all false
set_option maxRecDepth 100000
set_option maxHeartbeats 4000000
set_option autoImplicit false
/-! a try whose body lets nothing out; C(..) with defaults left out -/
namespace Dv
open PySem PySem.Spec PyProof.Rows L2
/-- try: the body, that lets nothing out -/
def mTryN (m : Env → Store → RS) : Env → Store → RS := fun en S => match m en S with
  | .ok f e S' => .ok f e S'
  | _ => .stuck
section
variable {G : Gv} {X : Cx} {W : WX}
theorem v_tryN {m : Env → Store → RS} {en : Env} {S : Store} {Q : Fl → Env → Store → Prop} {XE : Ex → Env → Store → Prop} (h : Ps (m en S) Q fun _ _ _ => False) : Ps (mTryN m en S) Q XE := by
  unfold mTryN
  cases e : m en S with
  | ok f e' S' => rw [e] at h; exact h
  | err x e' S' => rw [e] at h; exact h.elim
  | stuck => rw [e] at h; exact h.elim
end
/-! ### C(..), the last ones by default -/
def mMakeV (c : String) (np : Nat) (fn : Fn) (dfs : List Dt) (ma : Env → Store → R (List Dt)) : Env → Store → R Dt := fun en S => (ma en S).bind fun ds S1 => if (ds ++ dfs).length + 1 = np then (fn (.ref S1.length :: (ds ++ dfs)) (S1 ++ [.ins c [] []])).bind fun r S2 => match r with
  | .non => .ok (.ref S1.length) S2
  | _ => .stuck else .stuck
/-! words -/
section
variable {en : Env} {S : Store} {Q : Dt → Store → Prop} {XE : Ex → Store → Prop} {ms : Env → Store → R (List Dt)}
theorem v_makeV {c : String} {np : Nat} {fn : Fn} {dfs : List Dt} (h : Pe (ms en S) (fun ds S1 => (ds ++ dfs).length + 1 = np ∧ Pe (fn (.ref S1.length :: (ds ++ dfs)) (S1 ++ [.ins c [] []])) (fun r S2 => r = .non ∧ Q (.ref S1.length) S2) XE) XE) : Pe (mMakeV c np fn dfs ms en S) Q XE := by
  refine Pe.bind (h.imp (fun ds S1 ⟨hl, k⟩ => ?_) fun _ _ z => z)
  rw [if_pos hl]
  refine Pe.bind (k.imp (fun r S2 ⟨e, k2⟩ => ?_) fun _ _ z => z)
  subst e
  exact k2
end
end Dv
set_option Elab.async false
set_option linter.all false
set_option maxRecDepth 100000
set_option maxHeartbeats 4000000
set_option autoImplicit false
/-! len of an instance by its own __len__ -/
namespace Dv
open PySem PySem.Spec PyProof.Rows L2
end Dv
set_option Elab.async false
set_option linter.all false
set_option maxRecDepth 100000
set_option maxHeartbeats 4000000
set_option autoImplicit false
/-! enumerate(tuple) -/
namespace Dv
open PySem PySem.Spec PyProof.Rows L2
open PySem.Sem (wp)
open AutoSeq1 (wpAny_loadPart')
theorem meets_enumT (l : Addr) (items : Array Value) (n : Nat) (dct : Option Addr) (sl : Array (Option Value)) :
    Meets (Builtin.«enumerate.__new__» ⟨[.type "enumerate", .ref l], []⟩) (fun _ R s => s.heap.get? l = some { cls := .type "tuple", dict := dct, data := .seq items n, slots := sl } ∧
      R (.ok (.ret (.ref (s.heap.push { cls := .type "tuple_iterator", data := .fields #[.ref l, .int 0 0] }).objs.size)))
        { s with heap := (s.heap.push { cls := .type "tuple_iterator", data := .fields #[.ref l, .int 0 0] }).push { cls := .type "enumerate", data := .fields #[.none, .bool false, .ref s.heap.objs.size, rawInt 0, .none, .none] } }) :=
  .of_wp fun prog w A R s h => by
    obtain ⟨hp, g, d, tk, os⟩ := s; obtain ⟨hl, h⟩ := h
    have hsub := sub_enumerate
    have hL : Heap.IsTuple (Shared.heap ⟨hp, g, d, tk, os⟩) l items := ⟨_, hl, rfl, n, rfl⟩
    wp_walk using wpAny_loadPart' hl
    refine wpAny_stack_any fun st => wpAny_pure ?_
    split
    · rename_i c _ _ _ _ _
      cases (c == Value.type "enumerate")
      · wp_walk using wpAny_loadPart' hl, wpAny_pyIter_tuple hL
        exact ⟨_, rfl, h⟩
      · wp_walk using wpAny_loadPart' hl, wpAny_pyIter_tuple hL
        exact ⟨_, rfl, h⟩
    · wp_walk using wpAny_loadPart' hl, wpAny_pyIter_tuple hL
      exact ⟨_, rfl, h⟩
section
variable {prog : Program} {w : World} {A : Around} {E : Value → Shared → Prop} {s : Shared}
theorem call_enumT {l : Addr} {items : Array Value} {Q : Value → Shared → Prop} (hL : s.heap.IsTuple l items)
    (h : ∀ h', IsEnum h' (s.heap.objs.size + 1) s.heap.objs.size 0 .none → h'.IsTupleIter s.heap.objs.size l 0 → h'.objs.size = s.heap.objs.size + 2 →
      (∀ b o, s.heap.get? b = some o → h'.get? b = some o) → Q (.ref (s.heap.objs.size + 1)) { s with heap := h' }) :
    wpAny (model prog w) A (call (.type "enumerate") [.ref l]) Q E s := by
  obtain ⟨⟨c, dct, dt, sl⟩, hl, hc, n, hd⟩ := hL
  replace hc : c = .type "tuple" := hc
  replace hd : dt = .seq items n := hd
  subst hc hd
  refine callType_new F.called_enumerate (by decide) (F.typeCall_enumerate_1 _) (F.newCall_enumerate_1 _) (fun obj => F.args_object_init_2 obj _) F.entry_enumerate_new
    (meets_enumT l items n dct sl) ⟨hl, ?_⟩
  have hz : (s.heap.push { cls := .type "tuple_iterator", data := .fields #[.ref l, .int 0 0] }).objs.size = s.heap.objs.size + 1 := Heap.size_push ..
  show _ ∧ _
  rw [hz]
  have he : IsEnum ((s.heap.push { cls := .type "tuple_iterator", data := .fields #[.ref l, .int 0 0] }).push
      { cls := .type "enumerate", data := .fields #[.none, .bool false, .ref s.heap.objs.size, rawInt 0, .none, .none] }) (s.heap.objs.size + 1) s.heap.objs.size 0 .none := by
    have := Heap.get?_push_size (s.heap.push { cls := .type "tuple_iterator", data := .fields #[.ref l, .int 0 0] })
      (o := { cls := .type "enumerate", data := .fields #[.none, .bool false, .ref s.heap.objs.size, rawInt 0, .none, .none] }) rfl
    rw [hz] at this; exact this
  refine ⟨⟨_, he, rfl⟩, h _ he ⟨_, Heap.get?_push_of_some _ (Heap.get?_push_size _ rfl), rfl, rfl⟩ (by rw [Heap.size_push, hz]) fun b o x => Heap.get?_push_of_some _ (Heap.get?_push_of_some _ x)⟩
theorem enum_endT {e it l : Addr} {i : Nat} {items : Array Value} {old : Value} {Q : Option Value → Shared → Prop} (hh : A.handled = none)
    (he : IsEnum s.heap e it i old) (hit : s.heap.IsTupleIter it l i) (hl : s.heap.IsTuple l items) (hx : items[i]? = none)
    (hQ : ∀ h', Heap.ExtBut it s.heap h' → Q none { s with heap := h' }) : wpAny (model prog w) A (pyNext (.ref e)) Q E s := by
  have hT : s.TypeIs (.ref e) "enumerate" := ⟨_, he, rfl⟩
  unfold pyNext
  refine wpAny_bind (wpAny_attempt (wpAny_callSpecial?_slot (name := Str.ofString "__next__") hT F.slot_enumerate_next
    (wpAny_call_entry F.slot_enumerate_next hT F.entry_enumerate_next ?_ (F.args_enumerate_next_1 _))))
  show wpAny _ _ (field (.ref e) 2 >>= _) _ _ _
  refine wpAny_bind (wpAny_field he rfl (x := .ref it) rfl ?_)
  refine wpAny_bind (wpAny_nextOf_tuple_end hh hit hl hx fun h' x he' hx' => ?_)
  obtain ⟨o, ho, hc⟩ := hx'
  refine wpAny_bind (wpAny_isInstance (T := "StopIteration") (b := true) ⟨o, ho, hc⟩ isSubtype_stop ?_)
  exact wpAny_pure (hQ _ he')
end
/-- the tuple at a at each turn, each item in a new pair -/
def IteT (K : PySem.W.Frag) (a : Addr) : It :=
  ⟨fun i H => ∃ (xs : List V) (x : V), SqT K H a xs ∧ xs[i]? = some x, fun i H v H' => ∃ T x, v = .ref T ∧ H T = none ∧ H' = upd H T (.tup [.int (i : Nat), x]) ∧ ∀ xs, SqT K H a xs → xs[i]? = some x, fun i H => ∃ xs : List V, SqT K H a xs ∧ xs.length ≤ i⟩
theorem turn_enumT {P : Program} {w : World} {K : PySem.W.Frag} {elts : List Expr} {kk : Nat} {tpos : Pos} (a e it : Addr) :
    Turn P w K (.Tuple elts kk tpos) (IteT K a) [e, it] e (fun i h => (∃ old, IsEnum h e it ((i : Nat) : Int) old) ∧ h.IsTupleIter it a i ∧ e ≠ it ∧ a ≠ it ∧ e ≠ a) where
  mem := by simp
  obj := fun i h st b hb => by
    obtain ⟨⟨old, he⟩, ⟨o, ho, hc, hd⟩, _⟩ := st
    have e' : b = e ∨ b = it := by simpa using hb
    rcases e' with z | z
    · rw [z]; exact ⟨_, he, fun v q => nomatch q⟩
    · rw [z]; exact ⟨o, ho, fun v q => by rw [hd] at q; cases q⟩
  keep := fun i h h' st k => let ⟨⟨old, he⟩, hi, hne⟩ := st; ⟨⟨old, k e (by simp) _ he⟩, hi.at fun o q => k it (by simp) o q, hne⟩
  item := by
    intro X hP hw hK hc i pins s σ H E I hf st hg
    subst hP hw hK
    obtain ⟨⟨old, he⟩, hit, hne, hai, hea⟩ := st
    obtain ⟨xs, x, hq, hx⟩ := hg
    obtain ⟨its, rv, p, hz⟩ := I.tuple hq
    have p : s.heap.IsTuple a its.toArray := p
    obtain ⟨u, hu, ru⟩ := rv.get hx
    have hil : i < its.toArray.size := by
      have := (List.getElem?_eq_some_iff.mp hu).1
      simpa using this
    have hel : e < s.heap.objs.size := Heap.lt_size he
    have hitl : it < s.heap.objs.size := by obtain ⟨_, q, _⟩ := hit; exact Heap.lt_size q
    refine wpAny_pyNext_enum_itemC (Draws.tuple (A := X.A.in1) (show X.A.in1.handled = none from I.ok.hd hc) it a hai its.toArray) he ⟨hit, p⟩ hil hne (by simp [hne, hea]) fun x1 h' tk hx1 ho hst hT hsz hk => ?_
    have ex1 : x1 = u := by
      have h1 : its.toArray[i]? = some x1 := hx1
      have h2 : its.toArray[i]? = some u := by simpa using hu
      rw [h2] at h1
      exact (Option.some.inj h1).symm
    subst ex1
    obtain ⟨hit', _⟩ := hst
    refine ⟨_, rfl, wpAny_letOwnedTupleGo_enum (s := { s with heap := h', toks := tk + 1 }) ho fun h'' he' sb => ?_⟩
    have hT2 : h''.get? s.heap.objs.size = some { cls := .type "tuple", data := .seq #[.int i tk, x1] } := (sb.2 _ (Nat.ne_of_gt hel)).trans hT
    have new : ObjOk X.prog X.w (upd H s.heap.objs.size (.tup [.int (i : Nat), x])) h'' s.heap.objs.size (.tup [.int (i : Nat), x]) :=
      ⟨by show 2 ≤ sizeLine; decide, [.int i tk, x1], .cons ⟨_, rfl⟩ (.cons ru .nil), ⟨_, hT2, rfl, _, rfl⟩⟩
    have I1 : Inv X pins σ (upd H s.heap.objs.size (.tup [.int (i : Nat), x])) { s with heap := h'', toks := tk + 1 } :=
      I.turnedNew (ch := [e, it]) (fun b ob hb q => (sb.2 b (fun z => hb (by simp [z]))).trans (hk b ob (fun z => hb (by simp [z])) (fun z => hb (by simp [z])) q)) hf (Nat.le_refl _) new
    refine ⟨.ref s.heap.objs.size, _, I1, rfl, ⟨_, x, rfl, I.hok.fresh (Nat.le_refl _), rfl, fun ys hy => by rw [I.tuple_inj hy hq]; exact hx⟩, ⟨⟨x1, ?_⟩, hit'.at fun o q => (sb.2 it (Ne.symm hne)).trans q, hne, hai, hea⟩, fun b hb => ?_⟩
    · have e1 : ((i + 1 : Nat) : Int) = (i : Int) + 1 := by omega
      rw [e1]; exact he'
    · have hb' : b < s.heap.objs.size := by
        have e' : b = e ∨ b = it := by simpa using hb
        rcases e' with z | z
        · rw [z]; exact hel
        · rw [z]; exact hitl
      rw [upd_ne (Nat.ne_of_lt hb')]
      exact (hf b hb).1
  done := by
    intro X hP hw hK hc i pins s σ H E I hf st hg
    subst hP hw hK
    obtain ⟨⟨old, he⟩, hit, hne, hai, hea⟩ := st
    obtain ⟨xs, hq, hx⟩ := hg
    obtain ⟨its, rv, p, hz⟩ := I.tuple hq
    obtain ⟨f0, f1, f2, f3, f4, f5⟩ := hf it (by simp)
    have hl := rv.length
    exact enum_endT (I.ok.hd hc) he hit p (by simp; omega) fun h' eb => ⟨rfl, I.turned (t' := s.toks) (fun b o hb q => eb b o hb q) f0 f1 f3 f4 f5⟩
  self := fun A i s Q E st h => let ⟨⟨_, he⟩, _⟩ := st; wpAny_pyIter_enum he h
def iEnum2 (K : PySem.W.Frag) (ta : TA) : L2.TI := fun σ H R => ta σ H fun vs H1 => (∃ a xs, vs = [.ref a] ∧ SqL K H1 a xs ∧ R (Ite K a) H1) ∨ (∃ a xs, vs = [.ref a] ∧ SqT K H1 a xs ∧ R (IteT K a) H1)
theorem pi_enum2 {X : Cx} {e : Expr} {ta : TA} {p pos tpos : Pos} {elts : List Expr} {kk : Nat} (hg : Gl X "enumerate") (hm : X.mg "enumerate" = none) (ha : PA X [e] ta) (hs : starEach [e] X.env = [(false, eval e X.env)] := by rfl) :
    PI X (.Tuple elts kk tpos) (.Call (.Name "enumerate" p) [e] [] pos) (iEnum2 X.K ta) := by
  refine ⟨fun pins s σ H R I h => ?_⟩
  refine Call_ (ld_blt I hg hm boot_enumerate (PyProof.Rows.callWith_type1 (thn (ha.run pos pins s σ H _ I h) fun us s1 ⟨vs, H1, I1, r1, q1⟩ => ?_) hs rfl))
  rcases q1 with ⟨a, xs, ex, hq, q⟩ | ⟨a, xs, ex, hq, q⟩
  · subst ex
    cases r1 with
    | cons r rr =>
      cases rr
      cases r
      obtain ⟨its, rv, p', hz⟩ := I1.list hq
      refine call_enumerate_list p'.isList fun h' he hit hsz hk => wpAny_pyIter_enum he ?_
      have I2 : Inv X pins σ H1 { s1 with heap := h' } := I1.kept (t' := s1.toks) hk
      refine ⟨s1.heap.objs.size + 1, [s1.heap.objs.size + 1, s1.heap.objs.size], _, _, H1, rfl, I2, turn_enum a (s1.heap.objs.size + 1) s1.heap.objs.size, ⟨⟨.none, he⟩, hit, Nat.succ_ne_self _⟩, fun b hb => ?_, q⟩
      have e' : b = s1.heap.objs.size + 1 ∨ b = s1.heap.objs.size := by simpa using hb
      have hle : s1.heap.objs.size ≤ b := by
        rcases e' with z | z
        · rw [z]; exact Nat.le_add_right _ _
        · rw [z]; exact Nat.le_refl _
      exact I1.fpOk hle (I1.hok.fresh hle)
  · subst ex
    cases r1 with
    | cons r rr =>
      cases rr
      cases r
      obtain ⟨its, rv, p', hz⟩ := I1.tuple hq
      have p' : s1.heap.IsTuple a its.toArray := p'
      have hal : a < s1.heap.objs.size := by
        obtain ⟨o, ho, _⟩ := p'
        exact Heap.lt_size ho
      refine call_enumT p' fun h' he hit hsz hk => wpAny_pyIter_enum he ?_
      have I2 : Inv X pins σ H1 { s1 with heap := h' } := I1.kept (t' := s1.toks) hk
      refine ⟨s1.heap.objs.size + 1, [s1.heap.objs.size + 1, s1.heap.objs.size], _, _, H1, rfl, I2, turn_enumT a (s1.heap.objs.size + 1) s1.heap.objs.size, ⟨⟨.none, he⟩, hit, Nat.succ_ne_self _, Nat.ne_of_lt hal, Nat.ne_of_gt (Nat.lt_succ_of_lt hal)⟩, fun b hb => ?_, q⟩
      have e' : b = s1.heap.objs.size + 1 ∨ b = s1.heap.objs.size := by simpa using hb
      have hle : s1.heap.objs.size ≤ b := by
        rcases e' with z | z
        · rw [z]; exact Nat.le_add_right _ _
        · rw [z]; exact Nat.le_refl _
      exact I1.fpOk hle (I1.hok.fresh hle)
/-- the walk over enumerate(list or tuple) -/
def itemsX (d : Dt) : Option (List Dt) := match d with
  | .lst ds => some ds
  | .fz ds => some ds
  | .tup ds => some ds
  | _ => none
def mEnum2 (m : Env → Store → R (List Dt)) : Env → Store → R (List Dt) := fun en S => (m en S).bind fun ds S1 => match ds with
  | [x] => match itemsX x with
    | some xs => .ok (numbered 0 xs) S1
    | _ => .stuck
  | _ => .stuck
section
variable {G : Gv} {X : Cx} {W : WX} {e : Expr} {p pos tpos : Pos} {elts : List Expr} {kk : Nat} {ma : Env → Store → R (List Dt)}
theorem rel_sqT {io i1 : Io} {H H1 : Hp} {a : Addr} {vs : List V} (g : Base io H i1 H1) (h : (H a = some (.tup vs) ∧ a ∉ io) ∨ (KTup G.K a vs ∧ G.kt = true)) : SqT G.K H1 a vs := by
  rcases h with ⟨h, n⟩ | h
  · exact .inl (.inl (g.keep _ _ h n).1)
  · exact .inr h.1
theorem jok_enumT {io : Io} {H : Hp} {a : Addr} {ds : List Dt} {vs : List V} (h1 : (H a = some (.tup vs) ∧ a ∉ io) ∨ (KTup G.K a vs ∧ G.kt = true)) (r1 : RelDs G io H ds vs) : JOk G io H (IteT G.K a) (numbered 0 ds) := by
  have l1 := r1.length
  refine ⟨fun i i1 H1 g hi => ?_, fun i i1 H1 g hi => ?_, fun i i1 H1 x H' g hf hi hy => ?_⟩
  · rw [numbered_length] at hi
    exact ⟨vs, vs[i]'(by omega), rel_sqT g h1, by simp⟩
  · rw [numbered_length] at hi
    exact ⟨vs, rel_sqT g h1, by omega⟩
  · rw [numbered_length] at hi
    obtain ⟨T, x', rfl, hT, rfl, hx⟩ := hy
    have e1 := hx vs (rel_sqT g h1)
    obtain ⟨v, f1, f2⟩ := r1.get (i := i) (d := ds[i]) (by simp)
    rw [e1] at f1
    cases f1
    have ex : ExtH H1 (upd H1 T (.tup [.int (i : Nat), x'])) := ExtH.new hT
    refine ⟨ex, .tup [.int i, ds[i]], ?_, .tup (.inl ⟨upd_same, hf T hT⟩) (.cons (.int _) (.cons ((f2.monoB g).mono ex.grow) .nil))⟩
    have z := numbered_get ds 0 i ds[i] (by simp)
    rw [Nat.zero_add] at z
    exact z
theorem di_enum2 (hm : X.mg "enumerate" = none) (ha : DA G X W [e] ma) (hg : Gl X "enumerate" := by rfl) (hs : starEach [e] X.env = [(false, eval e X.env)] := by rfl) (hK : X.K = G.K := by rfl) :
    DI G X W (.Tuple elts kk tpos) (.Call (.Name "enumerate" p) [e] [] pos) (mEnum2 ma) := by
  obtain ⟨t, pa, qa⟩ := ha
  refine ⟨_, pi_enum2 hg hm pa hs, fun io H S en σ Q so re h => ?_⟩
  refine qa io H S en σ _ so re (h.bind.imp (fun _ _ _ _ z => z) fun ds S1 i1 H1 g1 s1 k1 vs r => ?_)
  split at k1
  · rename_i x
    split at k1
    · rename_i xs ex
      cases r with
      | cons r1 r2 =>
        cases r2
        rw [hK]
        unfold itemsX at ex
        split at ex
        · obtain ⟨a, us, rfl, h1, q1⟩ := itemsL_rel r1 rfl
          cases ex
          exact .inl ⟨a, us, rfl, rel_sqL Grow.refl.base h1, k1 i1 H1 Grow.refl s1 _ (jok_enum h1 q1)⟩
        · obtain ⟨a, us, rfl, h1, q1⟩ := itemsL_rel r1 rfl
          cases ex
          exact .inl ⟨a, us, rfl, rel_sqL Grow.refl.base h1, k1 i1 H1 Grow.refl s1 _ (jok_enum h1 q1)⟩
        · cases ex
          cases r1 with
          | tup h1 q1 => exact .inr ⟨_, _, rfl, rel_sqT Grow.refl.base h1, k1 i1 H1 Grow.refl s1 _ (jok_enumT h1 q1)⟩
        · cases ex
    · exact k1.elim
  · exact k1.elim
end
section
variable {en : Env} {S : Store} {QA : List Dt → Store → Prop} {XE : Ex → Store → Prop} {ms : Env → Store → R (List Dt)}
theorem v_enum2 (h : Pe (ms en S) (fun ds S1 => ∃ x xs, ds = [x] ∧ itemsX x = some xs ∧ QA (numbered 0 xs) S1) XE) : Pe (mEnum2 ms en S) QA XE := by
  refine Pe.bind (h.imp (fun ds S1 ⟨x, xs, e, e1, q⟩ => ?_) fun _ _ z => z)
  subst e
  dsimp only
  rw [e1]
  exact q
end
end Dv
set_option Elab.async false
set_option linter.all false
set_option maxRecDepth 100000
set_option maxHeartbeats 4000000
set_option autoImplicit false
/-! x in xs, the items plain data of any depth -/
namespace Dv
open PySem PySem.Spec PyProof.Rows L2
end Dv
set_option Elab.async false
set_option linter.all false
set_option maxRecDepth 100000
set_option maxHeartbeats 4000000
set_option autoImplicit false
/-! a, b, .. = a list -/
namespace Dv
open PySem PySem.Spec PyProof.Rows L2
end Dv
set_option Elab.async false
set_option linter.all false
set_option maxRecDepth 100000
set_option maxHeartbeats 4000000
set_option autoImplicit false
/-! try with several clauses `except (A, B, ..) as e` -/
namespace Dv
open PySem PySem.Spec PyProof.Rows L2
open PySem.W (exmOne exmAny Frag Looks)
/-! ### the tests of the clauses -/
/-! ### the statement -/
end Dv
set_option Elab.async false
set_option linter.all false
set_option maxRecDepth 100000
set_option maxHeartbeats 4000000
set_option autoImplicit false
/-! x(lambda: ..), x a def that tries what it gets -/
namespace Dv
open PySem PySem.Spec PyProof.Rows L2
end Dv
set_option Elab.async false
set_option linter.all false
set_option maxRecDepth 100000
set_option maxHeartbeats 4000000
set_option autoImplicit false
/-! the two defs that try what they get -/
namespace Dv
open PySem PySem.Spec PyProof.Rows L2
open PySem.W (exmAny)
end Dv
set_option Elab.async false
set_option linter.all false
set_option maxRecDepth 100000
set_option maxHeartbeats 4000000
set_option autoImplicit false
/-! a def that makes lambdas; the head's end with tables -/
namespace Dv
open PySem PySem.Spec PyProof.Rows L2
end Dv
set_option Elab.async false
set_option linter.all false
set_option maxRecDepth 100000
set_option maxHeartbeats 4000000
set_option autoImplicit false
/-! bool and repr of an instance -/
namespace Dv
open PySem PySem.Spec PyProof.Rows L2
end Dv
set_option Elab.async false
set_option linter.all false
set_option maxRecDepth 100000
set_option maxHeartbeats 4000000
set_option autoImplicit false
/-! == and != of an instance and a thing of a built-in class -/
namespace Dv
open PySem PySem.Spec PyProof.Rows L2
end Dv
set_option Elab.async false
set_option linter.all false
set_option maxRecDepth 100000
set_option maxHeartbeats 4000000
set_option autoImplicit false
/-! max of two numbers -/
namespace Dv
open PySem PySem.Spec PyProof.Rows L2
end Dv
set_option Elab.async false
set_option linter.all false
set_option maxRecDepth 100000
set_option maxHeartbeats 4000000
set_option autoImplicit false
/-! dicts of the store: a display, d[k] = v -/
namespace Dv
open PySem PySem.Spec PyProof.Rows L2
section
variable {G : Gv} {io : Io} {H : Hp} {D : Addr} {S : Store}
theorem base_show : Base (io.hide D) H (io.push D) H := by
  refine ⟨fun i a h => ?_, fun b o h n nt => ⟨h, fun z => ?_⟩⟩
  · have h : io.l[i]? = some a := h
    show (io.l ++ [D])[i]? = some a
    rw [List.getElem?_append_left (List.getElem?_eq_some_iff.mp h).1]
    exact h
  · rcases z with z | z
    · rcases List.mem_append.mp z with z | z
      · exact n (hide_mem.mpr (.inr (.inl z)))
      · exact n (hide_mem.mpr (.inl (List.mem_singleton.mp z)))
    · exact n (hide_mem.mpr (.inr (.inr z)))
/-- what was hidden stands in the store -/
theorem so_show {o : Ob} (so : StoreOk G (io.hide D) S H) (hd : D ∉ io.h) (r : RelO G (io.push D) H o D) : StoreOk G (io.push D) (S ++ [o]) H := by
  have nl : D ∉ io.l := fun z => so.dis D z List.mem_cons_self
  have len : io.l.length = S.length := so.len.symm
  refine ⟨?_, ?_, fun a ha hh => ?_, fun a ha => so.hid a (List.mem_cons_of_mem _ ha), fun i ob a h1 h2 => ?_, so.tab⟩
  · show (io.l ++ [D]).Nodup
    refine List.nodup_append.mpr ⟨so.nd, by simp, fun a ha b hb e => ?_⟩
    rw [List.mem_singleton.mp hb] at e
    exact nl (e ▸ ha)
  · show (S ++ [o]).length = (io.l ++ [D]).length
    rw [List.length_append, List.length_append, len]
    rfl
  · rcases List.mem_append.mp ha with z | z
    · exact so.dis a z (List.mem_cons_of_mem _ hh)
    · rw [List.mem_singleton.mp z] at hh
      exact hd hh
  · by_cases hi : i < S.length
    · rw [List.getElem?_append_left hi] at h1
      have h2 : (io.l ++ [D])[i]? = some a := h2
      rw [List.getElem?_append_left (by rw [len]; exact hi)] at h2
      have q := so.ob i ob a h1 h2
      cases q with
      | lst k1 k2 => exact .lst k1 (k2.monoB base_show)
      | ins k1 c l k2 => exact .ins k1 c l (k2.monoB base_show)
      | dct k1 l k2 => exact .dct k1 l (k2.monoB base_show)
      | dkt k1 l k2 => exact .dkt k1 l (k2.monoB base_show)
    · rw [List.getElem?_append_right (by omega)] at h1
      have h2 : (io.l ++ [D])[i]? = some a := h2
      rw [List.getElem?_append_right (by omega), len] at h2
      obtain ⟨hi0, e1⟩ := List.getElem?_eq_some_iff.mp h1
      have hi0 : i - S.length = 0 := by
        rw [List.length_singleton] at hi0
        omega
      rw [hi0] at h1 h2
      cases h1
      cases h2
      exact r
end
section
variable {G : Gv} {io : Io} {H : Hp} {D : Addr} {S : Store}
theorem base_del : Base (io.hide D) H io (L2.del H D) := by
  refine ⟨fun i a h => h, fun b o h n nt => ⟨?_, fun z => n (hide_mem.mpr (.inr z))⟩⟩
  rw [L2.del_ne fun z => n (hide_mem.mpr (.inl z))]
  exact h
theorem tabs_del {T : List (Addr × Str)} (t : LamX.Tabs T H) (hp : ∀ o, H D = some o → PlainO o) : LamX.Tabs T (L2.del H D) := fun x hx => by
  obtain ⟨ps, h1, h2, h3⟩ := t x hx
  have n1 : x.1 ≠ D := fun e => (hp _ (e ▸ h1)).1 ps rfl
  refine ⟨ps, by rw [L2.del_ne n1]; exact h1, h2, fun pos cv hc => ?_⟩
  obtain ⟨c, e1, e2⟩ := h3 pos cv hc
  have n2 : c ≠ D := fun e => (hp _ (e ▸ e2)).2 _ rfl
  exact ⟨c, e1, by rw [L2.del_ne n2]; exact e2⟩
/-- as if it had not been laid -/
theorem so_del (so : StoreOk G (io.hide D) S H) (hd : D ∉ io.h) (nt : ∀ o, H D = some o → PlainO o) : StoreOk G io S (L2.del H D) := by
  have nl : D ∉ io.l := fun z => so.dis D z List.mem_cons_self
  refine ⟨so.nd, so.len, fun a ha hh => so.dis a ha (List.mem_cons_of_mem _ hh), fun a ha => ?_, fun i ob a h1 h2 => ?_, tabs_del so.tab nt⟩
  · rw [L2.del_ne fun z => hd (by rw [← z]; exact ha)]
    exact so.hid a (List.mem_cons_of_mem _ ha)
  · have na : a ≠ D := fun z => nl (by rw [← z]; exact List.mem_of_getElem? h2)
    have q := so.ob i ob a h1 h2
    cases q with
    | lst k1 k2 => exact .lst (by rw [L2.del_ne na]; exact k1) (k2.monoB base_del)
    | ins k1 c l k2 => exact .ins (by rw [L2.del_ne na]; exact k1) c l (k2.monoB base_del)
    | dct k1 l k2 => exact .dct (by rw [L2.del_ne na]; exact k1) l (k2.monoB base_del)
    | dkt k1 l k2 => exact .dkt (by rw [L2.del_ne na]; exact k1) l (k2.monoB base_del)
end
end Dv
set_option Elab.async false
set_option linter.all false
set_option maxRecDepth 100000
set_option maxHeartbeats 4000000
set_option autoImplicit false
/-! min of two numbers -/
namespace Dv
open PySem PySem.Spec PyProof.Rows L2
end Dv
set_option Elab.async false
set_option linter.all false
set_option maxRecDepth 100000
set_option maxHeartbeats 4000000
set_option autoImplicit false
/-! d[k] = v of a dict of the store, k a text that it has -/
namespace Dv
open PySem PySem.Spec PyProof.Rows L2
end Dv
set_option Elab.async false
set_option linter.all false
set_option maxRecDepth 100000
set_option maxHeartbeats 4000000
set_option autoImplicit false
/-! targets with a star: a, *b = a list -/
namespace PySem.W
open PySem PySem.Spec PySem.Calls PyProof.Rows
end PySem.W
namespace Dv
open PySem PySem.Spec PyProof.Rows L2
end Dv
set_option Elab.async false
set_option linter.all false
set_option maxRecDepth 100000
set_option maxHeartbeats 4000000
set_option autoImplicit false
/-! a part of a block, what it made by value behind it -/
namespace Dv
open PySem PySem.Spec PyProof.Rows L2
end Dv
set_option Elab.async false
set_option linter.all false
set_option maxRecDepth 100000
set_option maxHeartbeats 4000000
set_option autoImplicit false
/-! a def of the text called with keywords; keyword-only parameters that are left out -/
namespace Dv
open PySem PySem.Spec PyProof.Rows L2
section
variable {K : PySem.W.Frag} {x qual : Str} {st : Stmt} {f : Addr} {fd : FuncData} {ps ks : List Str} {kws : List (Str × V)}
/-- what lacks stands ahead of what is written, then both are picked from -/
theorem funK_kbn (F : FunD K x qual (defArgs st) (defBody st) (defScope st) [] kws f fd) (n : Nat) (is : List Nat) (ms : List (Str × V)) (hms : ∀ q ∈ ms, q ∈ kws) (hk : kws ≠ [])
    (h : ∀ (D : Addr) (doc pm : Value) (an : Option Addr) (cdv ct : Value) (us mv ws : List Value), us.length = n → mv.length = ms.length → ws.length = ks.length →
      KwChain D ((ms.map (·.1)).zip mv) (bindArgs (PySem.W.fnOf x qual (defArgs st) (defBody st) (defScope st) .none (.ref D) doc pm an cdv ct) ⟨us, ks.zip ws⟩) (ps.zip (us ++ pickL is (mv ++ ws)))) :
    ∃ g, KBn K fd ps n ks g (fun vs zs => vs ++ pickL is (ms.map (·.2) ++ zs)) := by
  obtain ⟨oc, od, dV, kV, doc, pm, an, cdv, ct, osl, rfl, lk, hcd, hD, hK⟩ := F.ex
  rcases hK with z | ⟨D, rfl, hq⟩
  · exact absurd z hk
  rcases hD with ⟨_, rfl⟩ | ⟨z, _⟩
  · obtain ⟨mv, ml, mr, ma⟩ := kwd_vals (ms := ms) fun q hm => hq q (hms q hm)
    refine ⟨fun us ws => us ++ pickL is (mv ++ ws), fun s us ws X l1 l2 => L2.BindsTo.of_looks fun M => ?_, fun r1 r2 => r1.append (vals_pick (mr.append r2) is)⟩
    exact KwChain.looks X ma (h D doc pm an cdv ct us mv ws l1 ml l2)
  · exact absurd rfl z
end
section
variable {G : Gv} {X : Cx} {W : WX} {e : Expr} {es : List Expr} {kws : List Keyword} {ma mk : Env → Store → R (List Dt)} {p pos : Pos}
@[reducible] def mCallK (na nk np : Nat) (is : List Nat) (dd : List Dt) (fn : Fn) (ma mk : Env → Store → R (List Dt)) : Env → Store → R Dt := fun en S => (ma en S).bind fun ds S2 => (mk en S2).bind fun zs S3 => if ds.length = na ∧ zs.length = nk ∧ (ds ++ pickL is (dd ++ zs)).length = np then fn (ds ++ pickL is (dd ++ zs)) S3 else .stuck
def tCallK (na nk : Nat) (gV : List V → List V → List V) (sp : Sp) (E : L2.St → XK) (t tk : TA) : TE := fun σ H Q => t σ H fun vs H1 => tk σ H1 fun zs H2 => vs.length = na ∧ zs.length = nk ∧ sp (gV vs zs) H2 Q (E σ)
theorem de_callK {x : Str} {f : Addr} {k na : Nat} {is : List Nat} {fd : FuncData} {ps ks : List Str} {fn : Fn} {np : Nat} {dd : List Dt} {dv : List V} (F : FnOk X.prog X.w X.K X.mg X.base (L2.CX X.prog X.w) k f fd ps (spF G np fn)) (hr : Room k X.A)
    (hm : X.mg x = some (.ref f)) (hk : PySem.W.keepIn X.K (.ref f) = true) (hb : ∃ g, KBn X.K fd ps na ks g (fun vs zs => vs ++ pickL is (dv ++ zs))) (hd : ∀ io H, RelDs G io H dd dv) (tk : Takes X W)
    (ha : DA G X W (e :: es) ma) (hkw : DK G X W kws mk) (hg : Gl X x := by rfl) (hdb : (x == ("__debug__" : Str)) = false := by decide) (hst : starEach (e :: es) X.env = (false, eval e X.env) :: starEach es X.env := by rfl)
    (hall : (backToKw pos (keywordEach kws X.env)).all (·.1.isSome) = true := by rfl) (hks : (backToKw pos (keywordEach kws X.env)).filterMap (·.1) = ks := by rfl)
    (hpl : ((backTo pos (starEach (e :: es) X.env)).any (·.1) || (backToKw pos (keywordEach kws X.env)).any (·.1.isNone)) = false := by rfl) :
    DE G X W (.Call (.Name x p) (e :: es) kws pos) (mCallK na ks.length np is dd fn ma mk) := by
  obtain ⟨g, hb⟩ := hb
  obtain ⟨t, pa, qa⟩ := ha
  obtain ⟨tk', pk, qk⟩ := hkw
  refine ⟨tCallK na ks.length (fun vs zs => vs ++ pickL is (dv ++ zs)) (spF G np fn) (WE W) t tk', ⟨fun pins s σ H Q I h => ?_⟩, fun io H S en σ Q so re h => ?_⟩
  · refine wpAny_Call_Name_kw (ld_glob I hg hm ?_ hdb)
    refine PySem.W.callWith_KW (h₀ := X.base) I.ok.mod.kin hk hall (thn (pa.run pos pins s σ H _ I h) fun us s2 ⟨vs, H2, I2, r, q2⟩ => ?_) hpl hst
    refine thn (pk.run pos pins s2 σ H2 _ I2 q2) fun ws s3 ⟨zs, H3, I3, rz, l1, l2, q3⟩ => ⟨I3.kIn, ?_⟩
    rw [hks]
    exact run_fnNS (E := WE W) F hr hb (passAt tk σ) I3 r rz l1 l2 q3
  · refine qa io H S en σ _ so re (h.bind.imp (fun _ _ _ _ z => z) fun ds S2 i2 H2 g2 s2 k2 us rs => ?_)
    refine qk i2 H2 S2 en σ _ s2 (re.mono g2) (k2.bind.imp (fun _ _ _ _ z => z) fun zs S3 i3 H3 g3 s3 k3 xs rz => ?_)
    split at k3
    · rename_i hl
      exact ⟨by rw [← rs.length]; exact hl.1, by rw [← rz.length]; exact hl.2.1, i3, S3, _, s3, RelDs.append (rs.mono g3) (rel_pick (RelDs.append (hd i3 H3) rz) is), hl.2.2, k3⟩
    · exact k3.elim
end
theorem funOfDK {K : PySem.W.Frag} {x qual : Str} {st : Stmt} {f : Addr} {fd : FuncData} {kws : List (Str × V)} (F : FunD K x qual (defArgs st) (defBody st) (defScope st) [] kws f fd) : Fun K x qual st f fd := funOfD ⟨by
  obtain ⟨c1, c2, v, k1, d1, p1, n1, e1, t1, sl, hf, hl, hc, hd, _⟩ := F.ex
  exact ⟨c1, c2, v, k1, d1, p1, n1, e1, t1, sl, hf, hl, hc, hd, .inl rfl⟩, F.kp⟩
theorem v_callK {en : Env} {S : Store} {Q : Dt → Store → Prop} {X : Ex → Store → Prop} {na nk np : Nat} {is : List Nat} {dd : List Dt} {fn : Fn} {ma mk : Env → Store → R (List Dt)}
    (h : Pe (ma en S) (fun ds S1 => Pe (mk en S1) (fun zs S2 => ds.length = na ∧ zs.length = nk ∧ (ds ++ pickL is (dd ++ zs)).length = np ∧ Pe (fn (ds ++ pickL is (dd ++ zs)) S2) Q X) X) X) : Pe (mCallK na nk np is dd fn ma mk en S) Q X := by
  refine Pe.bind (h.imp (fun ds S1 k => Pe.bind (k.imp (fun zs S2 ⟨h1, h2, h3, k⟩ => ?_) fun _ _ z => z)) fun _ _ z => z)
  rw [if_pos ⟨h1, h2, h3⟩]
  exact k
end Dv
set_option Elab.async false
set_option linter.all false
set_option maxRecDepth 100000
set_option maxHeartbeats 4000000
set_option autoImplicit false
/-! lists that change in place: += of two lists, an item += a number, a slice that is to be changed -/
namespace Dv
open PySem PySem.Spec PyProof.Rows L2
end Dv
set_option Elab.async false
set_option linter.all false
set_option maxRecDepth 100000
set_option maxHeartbeats 4000000
set_option autoImplicit false
/-! exceptions of the text over ValueError, LookupError or IndexError, whose __init__ stores -/
namespace Dv
open PySem PySem.Spec PyProof.Rows L2 Builtin Builtin.ObjectAttr
/-! ### the rules -/
/-! what the head decides -/
end Dv
set_option Elab.async false
set_option linter.all false
set_option maxRecDepth 100000
set_option maxHeartbeats 4000000
set_option autoImplicit false
/-! the def that asks, and tells the word and the field of what it gets -/
namespace Dv
open PySem PySem.Spec PyProof.Rows L2
open PySem.W (exmAny)
/-! the clauses as they stand -/
end Dv
set_option Elab.async false
set_option linter.all false
set_option maxRecDepth 100000
set_option maxHeartbeats 4000000
set_option autoImplicit false
/-! a method called without its keyword-only parameters -/
namespace Dv
open PySem PySem.Spec PyProof.Rows L2
end Dv
set_option Elab.async false
set_option linter.all false
set_option maxRecDepth 100000
set_option maxHeartbeats 4000000
set_option autoImplicit false
/-! o[a:b] = a list, o a list of the store -/
namespace Dv
open PySem PySem.Spec PyProof.Rows L2
end Dv
set_option Elab.async false
set_option linter.all false
set_option maxRecDepth 100000
set_option maxHeartbeats 4000000
set_option autoImplicit false
/-! del o[a:b], o a list of the store -/
namespace Dv
open PySem PySem.Spec PyProof.Rows L2
/-! words of the walks -/
end Dv
set_option Elab.async false
set_option linter.all false
set_option maxRecDepth 100000
set_option maxHeartbeats 4000000
set_option autoImplicit false
/-! == of two dicts of the same two text keys, whose values are lists -/
namespace Dv
open PySem PySem.Spec PyProof.Rows L2
end Dv
set_option Elab.async false
set_option linter.all false
set_option maxRecDepth 100000
set_option maxHeartbeats 4000000
set_option autoImplicit false
/-! TABLE.get(key, z): a dict of the module with text keys and whole numbers -/
namespace Dv
open PySem PySem.Spec PyProof.Rows L2
end Dv
set_option Elab.async false
set_option linter.all false
set_option maxRecDepth 100000
set_option maxHeartbeats 4000000
set_option autoImplicit false
/-! a, b, c = x, y, z: plain names -/
namespace Dv
open PySem PySem.Spec PyProof.Rows L2
end Dv
set_option Elab.async false
set_option linter.all false
set_option maxRecDepth 100000
set_option maxHeartbeats 4000000
set_option autoImplicit false
/-! xs.insert(i, y), xs a list of the store, i not below nought -/
namespace Dv
open PySem PySem.Spec PyProof.Rows L2
end Dv
set_option Elab.async false
set_option linter.all false
set_option maxRecDepth 100000
set_option maxHeartbeats 4000000
set_option autoImplicit false
/-! try: .. except (A, B, ..): .., nothing bound -/
namespace Dv
open PySem PySem.Spec PyProof.Rows L2
open PySem.W (exmOne exmAny Frag Looks)
end Dv
set_option Elab.async false
set_option linter.all false
set_option maxRecDepth 100000
set_option maxHeartbeats 4000000
set_option autoImplicit false
/-! a tuple so often -/
namespace Dv
open PySem PySem.Spec PyProof.Rows L2
end Dv
set_option Elab.async false
set_option linter.all false
set_option maxRecDepth 100000
set_option maxHeartbeats 4000000
set_option autoImplicit false
/-! a tuple so often, also once or never -/
namespace Dv
open PySem PySem.Spec PyProof.Rows L2
end Dv
set_option Elab.async false
set_option linter.all false
set_option maxRecDepth 100000
set_option maxHeartbeats 4000000
set_option autoImplicit false
/-! for at, thing in enumerate(row), the row an object of the store that stays as it is meanwhile -/
noncomputable section
namespace Dv
open PySem PySem.Spec PyProof.Rows L2
end Dv
end
set_option Elab.async false
set_option linter.all false
set_option maxRecDepth 100000
set_option maxHeartbeats 4000000
set_option autoImplicit false
/-! for and [..] over a list of the store that stays as it is meanwhile -/
noncomputable section
namespace Dv
open PySem PySem.Spec PyProof.Rows L2
end Dv
end
set_option Elab.async false
set_option linter.all false
set_option maxRecDepth 100000
set_option maxHeartbeats 4000000
set_option autoImplicit false
/-! [..] that stays an object, over a list of the store -/
noncomputable section
namespace Dv
open PySem PySem.Spec PyProof.Rows L2
end Dv
end
set_option Elab.async false
set_option linter.all false
set_option maxRecDepth 100000
set_option maxHeartbeats 4000000
set_option autoImplicit false
/-! a tuple of texts that the module names -/
namespace Dv
open PySem PySem.Spec PyProof.Rows L2
/-! max of a list of numbers -/
end Dv
set_option Elab.async false
set_option linter.all false
set_option maxRecDepth 100000
set_option maxHeartbeats 4000000
set_option autoImplicit false
/-! a lambda that is kept in a variable and handed to a def later -/
namespace Dv
open PySem PySem.Spec PyProof.Rows L2
/-- a lambda as it stands -/
structure LamE where
  ar : Arguments
  body : Expr
  sc : Scope
section
variable {G : Gv} {X : Cx} {W : WX}
structure LamD (G : Gv) (X : Cx) (k : Nat) (l : LamE) (m : Env → Store → R Dt) : Prop where
  ok : LamX.LamS X.env.scope l.sc
  bind : ∀ (q : Str) (cl : List (Str × Addr)) (pm cv ctv : Value), bindArgs (PySem.W.kla_fn "<lambda>" q l.ar l.body l.sc cl pm cv ctv) ⟨[], []⟩ = pure []
  body : ∀ (A : Around) (outer : List PySem.Env) (s : Shared) (H : Hp) (E : XK) (f c : Addr), Room k (A.deeper (LamX.lamEnv X l.sc s.heap.objs.size f c)) → DE G (LamX.lamCx X A outer s H E l.sc f c) (fun cls d _ H => E cls d H) l.body m
inductive LamsD (G : Gv) (X : Cx) (k : Nat) : List LamE → List (Env → Store → R Dt) → Prop
  | nil : LamsD G X k [] []
  | cons {l : LamE} {m : Env → Store → R Dt} {ls : List LamE} {ms : List (Env → Store → R Dt)} : LamD G X k l m → LamsD G X k ls ms → LamsD G X k (l :: ls) (m :: ms)
theorem LamsD.at_ {k : Nat} {ls : List LamE} {ms : List (Env → Store → R Dt)} (h : LamsD G X k ls ms) : ∀ {n : Nat} {l : LamE} {m : Env → Store → R Dt}, ls[n]? = some l → ms[n]? = some m → LamD G X k l m := by
  induction h with
  | nil => intro n l m e; simp at e
  | cons h r ih =>
    intro n l m e1 e2
    cases n with
    | zero =>
      simp at e1 e2
      subst e1 e2
      exact h
    | succ n => exact ih (by simpa using e1) (by simpa using e2)
end
end Dv
set_option Elab.async false
set_option linter.all false
set_option maxRecDepth 100000
set_option maxHeartbeats 4000000
set_option autoImplicit false
/-! a lambda that is kept in a variable, called by the def that made it -/
namespace Dv
open PySem PySem.Spec PyProof.Rows L2
end Dv
set_option Elab.async false
set_option linter.all false
set_option maxRecDepth 100000
set_option maxHeartbeats 4000000
set_option autoImplicit false
/-! dict(d): another dict with the same entries -/
namespace Dv
open PySem PySem.Spec PyProof.Rows L2
end Dv
set_option Elab.async false
set_option linter.all false
set_option maxRecDepth 100000
set_option maxHeartbeats 4000000
set_option autoImplicit false
/-! a text so often, a long list so often -/
namespace Dv
open PySem PySem.Spec PyProof.Rows L2
end Dv
set_option Elab.async false
set_option linter.all false
set_option maxRecDepth 100000
set_option maxHeartbeats 4000000
set_option autoImplicit false
/-! slices of texts -/
namespace Dv
open PySem PySem.Spec PyProof.Rows L2
end Dv
set_option Elab.async false
set_option linter.all false
set_option maxRecDepth 100000
set_option maxHeartbeats 4000000
set_option autoImplicit false
/-! dicts of the store whose keys are tuples of numbers and texts -/
namespace Dv
open PySem PySem.Spec PyProof.Rows L2
def keyD : Dt → Option Key
  | .int i => some (.inl i)
  | .str s => some (.inr s)
  | _ => none
def lookT : List (List Key) → List Dt → List Key → Option Dt
  | k :: ks, d :: ds, x => if k = x then some d else lookT ks ds x
  | _, _, _ => none
section
variable {G : Gv} {io : Io} {H : Hp}
theorem keys_rel : ∀ {ds : List Dt} {vs : List V} {k : List Key}, RelDs G io H ds vs → mapO keyD ds = some k → vs = k.map kV
  | [], _, k, .nil, h => by cases h; rfl
  | d :: ds, _, k, .cons r rs, h => by
    unfold mapO at h
    cases e : keyD d with
    | none => rw [e] at h; cases h
    | some x =>
      rw [e] at h
      obtain ⟨k2, h2, rfl⟩ := map_some h
      rw [keys_rel rs h2]
      cases d with
      | int i => cases e; cases r; rfl
      | str s => cases e; cases r; rfl
      | _ => cases e
/-- the tuple is a tracked one -/
theorem key_at (hkt : G.kt = false) {ds : List Dt} {v : V} {k : List Key} (r : RelD G io H (.tup ds) v) (h : mapO keyD ds = some k) : ∃ b, v = .ref b ∧ H b = some (.tup (k.map kV)) := by
  cases r with
  | tup e rs =>
    rcases e with ⟨e, _⟩ | ⟨_, e⟩
    · rw [keys_rel rs h] at e
      exact ⟨_, rfl, e⟩
    · rw [hkt] at e
      cases e
theorem lookT_rel {x : List Key} : ∀ {ks : List (List Key)} {ds : List Dt} {vs : List V}, ks.length = ds.length → RelDs G io H ds vs → match lookT ks ds x with
    | some d => ∃ v, valV (ks.zip vs) x = some v ∧ RelD G io H d v
    | none => valV (ks.zip vs) x = none
  | [], [], _, _, .nil => rfl
  | k :: ks, d :: ds, _, hl, .cons (vs := vs) (v := v) r rs => by
    have ih := lookT_rel (x := x) (Nat.succ.inj hl) rs
    unfold lookT
    by_cases e : k = x
    · rw [if_pos e]
      exact ⟨_, valV_pos (p := (k, _)) e, r⟩
    · rw [if_neg e, List.zip_cons_cons, valV_neg (p := (k, _)) e]
      exact ih
end
def dktAt (S : Store) (x : Dt) : Option (List (List Key) × List Dt) := match x with
  | .ref i => match S[i]? with
    | some (.dkt ks ds) => some (ks, ds)
    | _ => none
  | _ => none
theorem dktAt_ok {G : Gv} {io : Io} {H : Hp} {S : Store} {d : Dt} {v : V} {ks : List (List Key)} {ds : List Dt} (so : StoreOk G io S H) (r : RelD G io H d v) (h : dktAt S d = some (ks, ds)) :
    ∃ i a vs, d = .ref i ∧ io.l[i]? = some a ∧ S[i]? = some (.dkt ks ds) ∧ v = .ref a ∧ H a = some (.dT (ks.zip vs)) ∧ ks.length = ds.length ∧ RelDs G io H ds vs := by
  cases r with
  | @ref a i hi =>
    unfold dktAt at h
    dsimp only at h
    split at h
    · rename_i ks' ds' hS
      cases h
      have q := so.ob i _ a hS hi
      cases q with
      | dkt h1 h2 h3 => exact ⟨_, _, _, rfl, hi, hS, rfl, h1, h2, h3⟩
    · cases h
  | _ => cases h
/-- d[k] -/
def mIxT (x y : Dt) (S : Store) : R Dt := match dktAt S x, y with
  | some (ks, ds), .tup z => match (mapO keyD z).bind (lookT ks ds) with
    | some d => .ok d S
    | none => .stuck
  | _, _ => .stuck
/-- k in d, k not in d -/
def mInT (neg : Bool) (x y : Dt) (S : Store) : R Dt := match dktAt S y, x with
  | some (ks, ds), .tup z => match mapO keyD z with
    | some k => .ok (.bl (if neg then !(lookT ks ds k).isSome else (lookT ks ds k).isSome)) S
    | none => .stuck
  | _, _ => .stuck
/-- len(d) -/
def mLenT (ds : List Dt) (S : Store) : R Dt := match ds with
  | [d] => match dktAt S d with
    | some (ks, _) => .ok (.int ks.length) S
    | none => .stuck
  | _ => .stuck
/-- d[k] = v for a key that is not there -/
def setT (S : Store) (x : Dt) (y v : Dt) : Option Store := match x, y with
  | .ref i, .tup z => match S[i]?, mapO keyD z with
    | some (.dkt ks ds), some k => if (lookT ks ds k).isNone = true ∧ ks.length < 100000 then some (S.set i (.dkt (ks ++ [k]) (ds ++ [v]))) else none
    | _, _ => none
  | _, _ => none
def gKeyT (mo mi : Env → Store → R Dt) : Dt → Env → Store → Option (Env × Store) := fun d en S => match mo en S with
  | .ok x S1 => match mi en S1 with
    | .ok y S2 => (setT S2 x y d).map fun S3 => (en, S3)
    | _ => none
  | _ => none
section
variable {G : Gv} {X : Cx} {W : WX}
theorem op_inT (hu : X.A.units + 1 < cLine) : OpR X (compareOp .In) (fun x y H Q => ∃ (a b : Addr) (kvs : List (List Key × V)) (k : List Key), y = .ref a ∧ x = .ref b ∧ H a = some (.dT kvs) ∧ H b = some (.tup (k.map kV)) ∧ Q (.bl (valV kvs k).isSome) H) := by
  intro pins s σ H x y v u Q I rx ry h
  obtain ⟨a, b, kvs, k, rfl, rfl, h1, h2, q⟩ := h
  cases ry
  exact d_in hu I (DGet.t h1 h2) rx fun s' I' => ⟨.bl (valV kvs k).isSome, H, I', rfl, q⟩
theorem op_ninT (hu : X.A.units + 1 < cLine) : OpR X (compareOp .NotIn) (fun x y H Q => ∃ (a b : Addr) (kvs : List (List Key × V)) (k : List Key), y = .ref a ∧ x = .ref b ∧ H a = some (.dT kvs) ∧ H b = some (.tup (k.map kV)) ∧ Q (.bl (!(valV kvs k).isSome)) H) := by
  intro pins s σ H x y v u Q I rx ry h
  obtain ⟨a, b, kvs, k, rfl, rfl, h1, h2, q⟩ := h
  cases ry
  exact d_notIn hu I (DGet.t h1 h2) rx fun s' I' => ⟨.bl (!(valV kvs k).isSome), H, I', rfl, q⟩
theorem look_some {io : Io} {H : Hp} {x : List Key} {ks : List (List Key)} {ds : List Dt} {vs : List V} (hl : ks.length = ds.length) (r : RelDs G io H ds vs) : (valV (ks.zip vs) x).isSome = (lookT ks ds x).isSome := by
  have q := lookT_rel (x := x) hl r
  cases e : lookT ks ds x with
  | none => rw [e] at q; rw [q]; rfl
  | some d => rw [e] at q; obtain ⟨v, h, _⟩ := q; rw [h]; rfl
theorem inT_noErr {neg : Bool} (x y : Dt) (S : Store) : NoErr (mInT neg x y S) := by
  unfold mInT
  split
  · split <;> trivial
  · trivial
theorem sim_inT (hkt : G.kt = false) {neg : Bool} {io : Io} {H : Hp} {S : Store} {vx vy : V} {x y : Dt} {Q : VK} (so : StoreOk G io S H) (rx : RelD G io H x vx) (ry : RelD G io H y vy) (h : Out G io H (fun _ _ _ => False) (poE G Q) (mInT neg x y S)) :
    ∃ (a b : Addr) (kvs : List (List Key × V)) (k : List Key), vy = .ref a ∧ vx = .ref b ∧ H a = some (.dT kvs) ∧ H b = some (.tup (k.map kV)) ∧ Q (.bl (if neg then !(valV kvs k).isSome else (valV kvs k).isSome)) H := by
  unfold mInT at h
  split at h
  · rename_i ks ds z hd
    split at h
    · rename_i k hk
      obtain ⟨i, a, vs, rfl, _, _, rfl, h1, hl, rs⟩ := dktAt_ok so ry hd
      obtain ⟨b, rfl, h2⟩ := key_at hkt rx hk
      refine ⟨a, b, _, k, rfl, rfl, h1, h2, ?_⟩
      rw [look_some hl rs]
      exact h io H Grow.refl so _ (.bl _)
    · exact h.elim
  · exact h.elim
theorem do_inT (hu : X.A.units + 65 < cLine) (hkt : G.kt = false := by rfl) : DO G X (compareOp .In) (mInT false) := by
  refine ⟨_, op_inT (by omega), fun io H S vx vy x y Q so rx ry h => ?_, inT_noErr⟩
  obtain ⟨a, b, kvs, k, h1, h2, h3, h4, h5⟩ := sim_inT hkt so rx ry h
  exact ⟨a, b, kvs, k, h1, h2, h3, h4, h5⟩
theorem do_ninT (hu : X.A.units + 65 < cLine) (hkt : G.kt = false := by rfl) : DO G X (compareOp .NotIn) (mInT true) := by
  refine ⟨_, op_ninT (by omega), fun io H S vx vy x y Q so rx ry h => ?_, inT_noErr⟩
  obtain ⟨a, b, kvs, k, h1, h2, h3, h4, h5⟩ := sim_inT hkt so rx ry h
  exact ⟨a, b, kvs, k, h1, h2, h3, h4, h5⟩
theorem dc_lenT : DC G X (.builtin "len") mLenT := by
  refine ⟨_, call_len_dT, fun io H S ds vs Q so r h => ?_, fun ds S => ?_⟩
  · unfold mLenT at h
    split at h
    · split at h
      · rename_i ks ds2 hd
        cases r with
        | cons r1 r2 =>
          cases r2
          obtain ⟨i, a, us, rfl, _, _, rfl, h1, hl, rs⟩ := dktAt_ok so r1 hd
          refine ⟨a, _, rfl, h1, ?_⟩
          have e : (ks.zip us).length = ks.length := by
            have := rs.length
            rw [List.length_zip]
            omega
          rw [e]
          exact h io H Grow.refl so _ (.int _)
      · exact h.elim
    · exact h.elim
  · unfold mLenT
    split
    · split <;> trivial
    · trivial
theorem de_ixT {o i : Expr} {mo mi : Env → Store → R Dt} {pos : Pos} (hu : X.A.units + 65 < cLine) (ho : DE G X W o mo) (hi : DE G X W i mi) (hs : NoSl i := by intro _ _; rfl) (hkt : G.kt = false := by rfl) : DE G X W (.Subscript o i pos) (mOp mIxT mo mi) := by
  obtain ⟨t, p, q⟩ := ho
  obtain ⟨t', p', q'⟩ := hi
  refine ⟨_, pe_dget (by omega) p p' hs, fun io H S en σ Q so re h => ?_⟩
  refine q io H S en σ _ so re (h.bind.imp (fun _ _ _ _ z => z) fun x S1 i1 H1 g1 s1 k1 v r => ?_)
  refine q' i1 H1 S1 en σ _ s1 (re.mono g1) (k1.bind.imp (fun _ _ _ _ z => z) fun y S2 i2 H2 g2 s2 k2 v2 r2 => ?_)
  unfold mIxT at k2
  split at k2
  · rename_i ks ds z hd
    split at k2
    · rename_i d hl
      obtain ⟨k, hk, hl⟩ := Option.bind_eq_some_iff.mp hl
      obtain ⟨j, a, vs, rfl, _, _, rfl, h1, hlen, rs⟩ := dktAt_ok s2 (r.mono g2) hd
      obtain ⟨b, rfl, h2⟩ := key_at hkt r2 hk
      have lr := lookT_rel (x := k) hlen rs
      rw [hl] at lr
      obtain ⟨u, h4, h5⟩ := lr
      refine ⟨a, u, rfl, ?_, k2 i2 H2 Grow.refl s2 u h5⟩
      rw [← h4]
      exact DGet.t h1 h2
    · exact k2.elim
  · exact k2.elim
theorem zip_snoc {α β : Type} : ∀ {ks : List α} {vs : List β} (k : α) (v : β), ks.length = vs.length → (ks ++ [k]).zip (vs ++ [v]) = ks.zip vs ++ [(k, v)]
  | [], [], _, _, _ => rfl
  | a :: ks, b :: vs, k, v, h => by
    rw [List.cons_append, List.cons_append, List.zip_cons_cons, zip_snoc k v (Nat.succ.inj h), List.zip_cons_cons, List.cons_append]
theorem rel_snoc {io : Io} {H : Hp} {d : Dt} {v : V} : ∀ {ds : List Dt} {vs : List V}, RelDs G io H ds vs → RelD G io H d v → RelDs G io H (ds ++ [d]) (vs ++ [v])
  | [], _, .nil, r => .cons r .nil
  | _ :: _, _, .cons r0 rs, r => .cons r0 (rel_snoc rs r)
theorem setT_ok (hkt : G.kt = false) {io : Io} {H : Hp} {S S' : Store} {x y d : Dt} {vx vy v : V} (so : StoreOk G io S H) (rx : RelD G io H x vx) (ry : RelD G io H y vy) (rd : RelD G io H d v) (h : setT S x y d = some S') :
    ∃ p H', vx = .ref p ∧ DPut H p vy v H' ∧ Grow io H io H' ∧ StoreOk G io S' H' := by
  unfold setT at h
  split at h
  · rename_i i z
    split at h
    · rename_i ks ds k hs hk
      split at h
      · rename_i hc
        cases h
        cases rx with
        | ref e =>
          obtain ⟨a, h1, h2⟩ := so.at_ hs
          rw [e] at h1
          cases h1
          cases h2 with
          | @dkt _ _ _ vs h3 l h4 =>
            obtain ⟨b, rfl, hb⟩ := key_at hkt ry hk
            have lv := h4.length
            have lr := lookT_rel (x := k) l h4
            have hn : lookT ks ds k = none := Option.isNone_iff_eq_none.mp hc.1
            rw [hn] at lr
            have ep : putK (ks.zip vs) k v = (ks ++ [k]).zip (vs ++ [v]) := by
              rw [putK_new v lr, zip_snoc k v (by omega)]
            have base : ∀ {u : HO}, Base io H io (upd H _ u) := fun {u} => ⟨fun _ _ z => z, fun b o hb nb _ => ⟨by
              rw [upd_ne fun z => nb (by rw [z]; exact .inl (List.mem_of_getElem? e))]
              exact hb, nb⟩⟩
            have g0 := so.write (o := .dkt (ks ++ [k]) (ds ++ [d])) (u := .dT ((ks ++ [k]).zip (vs ++ [v]))) e (.dkt upd_same (by rw [List.length_append, List.length_append, l]; rfl) ((rel_snoc h4 rd).monoB base))
            have hl : (ks.zip vs).length < sizeLine := by
              rw [sizeLine_eq, List.length_zip]
              omega
            have dp := DPut.t (v := v) h3 hb hl
            rw [ep] at dp
            exact ⟨_, _, rfl, dp, g0.1, g0.2⟩
      · cases h
    · cases h
  · cases h
theorem dg_keyT {o i : Expr} {mo mi : Env → Store → R Dt} {pos : Pos} (hu : X.A.units + 65 < cLine) (ho : DE G X W0 o mo) (hi : DE G X W0 i mi)
    (ha : ∀ v, assign (.Subscript o i pos) X.env v = (do
      let ov ← holding [v] (eval o X.env)
      let iv ← holding [v, ov] (eval i X.env)
      standAt pos
      holding [v, ov, iv] (setItem ov iv v)
      release [v, ov, iv] []) := by intro _; rfl) (hkt : G.kt = false := by rfl) : DG G X (.Subscript o i pos) (gKeyT mo mi) := by
  obtain ⟨t, p, q⟩ := ho
  obtain ⟨t', p', q'⟩ := hi
  refine ⟨_, pg_sub p p' (set_dict (by omega)) ha, fun io H S en σ d v Q so re r h => ?_⟩
  unfold gKeyT at h
  refine q io H S en σ _ so re ?_
  cases eo : mo en S with
  | stuck => simp [eo] at h
  | err x S1 => simp [eo] at h
  | ok x S1 =>
    simp only [eo] at h
    intro i1 H1 g1 s1 vx rx
    refine q' i1 H1 S1 en σ _ s1 (re.mono g1) ?_
    cases ei : mi en S1 with
    | stuck => simp [ei] at h
    | err x S1 => simp [ei] at h
    | ok y S2 =>
      rw [ei] at h
      intro i2 H2 g2 s2 vy ry
      dsimp only at h
      cases es : setT S2 x y d with
      | none => simp [es] at h
      | some S3 =>
        simp only [es, Option.map_some] at h
        obtain ⟨p, H3, h1, h2, g3, s3⟩ := setT_ok hkt s2 (rx.mono g2) ry (r.mono (g1.trans g2)) es
        exact ⟨p, H3, h1, h2, h i2 _ ((g1.trans g2).trans g3) s3 σ (re.mono ((g1.trans g2).trans g3))⟩
/-! {k: v}, k a tuple -/
def tDisp1 (tk tv : TE) : TE := fun σ H Q => ∀ p, H p = none → tk σ (upd H p (.dT [])) fun x H1 => tv σ H1 fun y H2 => H2 p = some (.dT []) ∧ ∃ (b : Addr) (k : List Key), x = .ref b ∧ H2 b = some (.tup (k.map kV)) ∧ Q (.ref p) (upd H2 p (.dT [(k, y)]))
theorem pe_disp1 (hu : X.A.units + 1 < cLine) {k v : Expr} {pos : Pos} {tk tv : TE} (hk : PE X k tk) (hv : PE X v tv) : PE X (.Dict [some k] [v] pos) (tDisp1 tk tv) := by
  refine ⟨fun pins s σ H Q I q => ?_⟩
  have hn := I.hok.fresh (Nat.le_refl s.heap.objs.size)
  have I1 := I.laid (a := s.heap.objs.size) (o := .dT []) (h' := s.heap.push { cls := .type "dict", data := .dict #[] }) (t' := s.toks) (fun _ _ q => Heap.get?_push_of_some _ q) (Nat.le_refl _) (dt_empty s.heap I.big)
  have hz := zip_pairTrees [some k] [v] X.env pos rfl rfl
  have hlen := pairTrees_length [some k] [v] X.env pos rfl rfl
  rw [arm_eval_Dict, hz, dictDisplay_pairs _ (by intro e; rw [e] at hlen; cases hlen) (by rw [hlen]; exact Nat.le_of_ble_eq_true rfl)]
  refine wpAny_bind (wpAny_standAt (wpAny_bind (wpAny_subDictH (knd := tupleKind (mixKind X.prog X.w)) (show X.A.units < cLine by omega) (by rw [hlen]; exact Nat.le_of_ble_eq_true rfl) ?_)))
  refine pairTrees_cons_walk (thn (hk.run pins _ σ _ _ I1 (q _ hn)) fun u s1 ⟨x, H1, I2, rx, q1⟩ => thn (hv.run pins s1 σ H1 _ I2 q1) fun w2 s2 ⟨y, H2, I3, ry, h0, b, kk, ex, hb, q2⟩ => pairTrees_nil_walk ?_)
  subst ex
  cases (show u = Value.ref b from rx)
  obtain ⟨z, hd, xs, rel, dd⟩ := dt_of I3.hok h0
  cases rel
  have kb := key_of I3.hok hb
  refine ⟨[(kk, b, w2)], ⟨rfl, rfl, kb, trivial⟩, dd, fun h' tk dd' hs => wpAny_pure ?_⟩
  have e1 : storedAllH ([] : List (List Key × Addr × Value)) [(kk, b, w2)] = [(kk, b, w2)] := rfl
  rw [e1] at dd'
  obtain ⟨ob, es, ep, hq, h2, h3, h4, _, h5⟩ := dd'
  refine ⟨.ref s.heap.objs.size, _, ?_, rfl, q2⟩
  refine d_write I3 (by rw [h0]; exact True.intro) hs ⟨ob, hq⟩ ⟨by rw [sizeLine_eq]; exact Nat.le_of_ble_eq_true rfl, hd, [(kk, b, w2)], .cons ⟨rfl, ?_, ry⟩ .nil, ob, es, ep, hq, h2, h3, h4, h5⟩
  rw [upd_ne (ne_of hb h0 (fun z => nomatch z))]
  exact hb
def mDictT (mk mv : Env → Store → R Dt) : Env → Store → R Dt := fun en S => (mk en S).bind fun x S1 => (mv en S1).bind fun d S2 => match x with
  | .tup z => match mapO keyD z with
    | some k => .ok (.ref S2.length) (S2 ++ [.dkt [k] [d]])
    | none => .stuck
  | _ => .stuck
theorem relX_un {i2 : Io} {p : Addr} {H' : Hp} {x : Ex} {cls : Value} {dx : Option Addr} (r : RelX G (i2.hide p) H' x cls dx) : RelX G i2 H' x cls dx := by
  obtain ⟨C, a, vs, h1, h2, h3, h4, h5, h6, h7⟩ := r
  exact ⟨C, a, vs, h1, h2, h3, h4, fun z => h5 (hide_mem.mpr (.inr z)), h6, h7.unhide⟩
theorem grow_del {i1 i2 : Io} {H1 H2 : Hp} {p : Addr} (g : Grow i1 H1 i2 H2) : Grow i1 (L2.del H1 p) i2 (L2.del H2 p) := by
  refine ⟨g.pre, fun b o hb nb nt => ?_, fun a ha hn o e => ?_⟩
  · have ne : b ≠ p := fun z => by rw [z, L2.del_same] at hb; cases hb
    rw [L2.del_ne ne] at hb ⊢
    exact g.keep b o hb nb nt
  · have ne : a ≠ p := fun z => by rw [z, L2.del_same] at e; cases e
    rw [L2.del_ne ne] at e
    exact g.new a ha hn o e
theorem de_dictT {k v : Expr} {mk mv : Env → Store → R Dt} {pos : Pos} (hu : X.A.units + 65 < cLine) (hk : DE G X W k mk) (hv : DE G X W v mv) (hkt : G.kt = false := by rfl) : DE G X W (.Dict [some k] [v] pos) (mDictT mk mv) := by
  obtain ⟨tk, pk, qk⟩ := hk
  obtain ⟨tv, pv, qv⟩ := hv
  refine ⟨_, pe_disp1 (by omega) pk pv, fun io H S en σ Q so re hh => ?_⟩
  intro p hp
  have ex : ExtH H (upd H p (.dT [])) := ExtH.new hp
  refine qk (io.hide p) _ S en σ _ (so_hide so hp) (env_hide hp re) ?_
  have hb := hh.bind
  cases er : mk en S with
  | stuck => rw [er] at hb; exact hb
  | err x S1 =>
    rw [er] at hb
    intro io' H' g s cls dx rx
    obtain ⟨i2, rfl⟩ := io_hide g
    exact hb i2 H' (ex.grow.trans (grow_un g)) (so_unhide s) cls dx (relX_un rx)
  | ok x S1 =>
    rw [er] at hb
    intro io1 H1 g1 s1 vx rx
    obtain ⟨i1, rfl⟩ := io_hide g1
    have gu1 := ex.grow.trans (grow_un g1)
    refine qv (i1.hide p) H1 S1 en σ _ s1 ((env_hide hp re).mono g1) ?_
    cases ev : mv en S1 with
    | stuck =>
      have hb2 := (hb i1 H1 gu1 (so_unhide s1)).bind
      rw [ev] at hb2
      exact hb2
    | err y S2 =>
      have hb2 := (hb i1 H1 gu1 (so_unhide s1)).bind
      rw [ev] at hb2
      intro io' H' g s cls dx rx
      obtain ⟨i2, rfl⟩ := io_hide g
      exact hb2 i2 H' (grow_un g) (so_unhide s) cls dx (relX_un rx)
    | ok d S2 =>
      intro io2 H2 g2 s2 vd rd
      obtain ⟨i2, rfl⟩ := io_hide g2
      have gu2 := grow_un g2
      have g := gu1.trans gu2
      have hp1 : p ∉ io.l := fun z => so.fresh hp (.inl z)
      have h1 : H1 p = some (.dT []) := (grow_un g1).keep p _ upd_same hp1
      have ph1 : p ∉ i1.h := by
        obtain ⟨t, e⟩ := gu1.pre
        rw [e]
        exact fun z => so.fresh hp (.inr z)
      have ph2 : p ∉ i2.h := by
        obtain ⟨t, e⟩ := g.pre
        rw [e]
        exact fun z => so.fresh hp (.inr z)
      have hp2 : p ∉ i1.l := fun z => s1.dis p z List.mem_cons_self
      have h2 : H2 p = some (.dT []) := gu2.keep p _ h1 hp2
      have gd1 : Grow io H i1 (L2.del H1 p) := by
        refine ⟨gu1.pre, fun b o hb nb nt => ?_, gu1.new⟩
        rw [L2.del_ne fun z => by rw [z, hp] at hb; cases hb]
        exact gu1.keep b o hb nb nt
      have hb2 := (hb i1 _ gd1 (so_del s1 ph1 (pl_some h1))).bind
      rw [ev] at hb2
      have hb3 := hb2 i2 _ (grow_del gu2) (so_del s2 ph2 (pl_some h2))
      dsimp only at hb3
      split at hb3
      · rename_i z
        split at hb3
        · rename_i kk hkk
          obtain ⟨b, rfl, hbk⟩ := key_at hkt (rx.mono g2) hkk
          refine ⟨h2, b, kk, rfl, hbk, ?_⟩
          have s3 := so_hid (o := .dT [(kk, vd)]) s2
          have r3 := (RelDs.cons rd .nil).monoB (base_hid (o := .dT [(kk, vd)]))
          have r4 := r3.monoB (base_show (io := i2) (D := p))
          have s4 := so_show (o := .dkt [kk] [d]) s3 ph2 (.dkt upd_same rfl r4)
          have g4 : Grow i2 (L2.del H2 p) (i2.push p) (upd H2 p (.dT [(kk, vd)])) := by
            refine ⟨⟨[p], rfl⟩, fun b o hb nb nt => ?_, fun a ha hn => ?_⟩
            · have nb : b ≠ p := fun z => by rw [z, L2.del_same] at hb; cases hb
              rw [upd_ne nb]
              rw [L2.del_ne nb] at hb
              exact hb
            · rcases List.mem_append.mp ha with z | z
              · exact absurd z hn
              · rw [List.mem_singleton.mp z]
                intro o q
                rw [L2.del_same] at q
                cases q
          exact hb3 _ _ g4 s4 _ (.ref (by
            have e1 : i2.l.length = S2.length := s2.len.symm
            show (i2.l ++ [p])[S2.length]? = some p
            rw [List.getElem?_append_right (by omega), e1, Nat.sub_self]
            rfl))
        · exact hb3.elim
      · exact hb3.elim
end
end Dv
set_option Elab.async false
set_option linter.all false
set_option maxRecDepth 100000
set_option maxHeartbeats 4000000
set_option autoImplicit false
/-! a tuple that begins with a text == a tuple of one text -/
namespace Dv
open PySem PySem.Spec PyProof.Rows L2
def mEqU (x y : Dt) (S : Store) : R Dt := match x, y with
  | .tup (.str a :: ds), .tup [.str b] => .ok (.bl (decide (a = b) && ds.isEmpty)) S
  | _, _ => .stuck
section
variable {G : Gv} {X : Cx}
theorem op_eqU (hu : X.A.units < cLine) : OpR X (compareOp .Eq) (fun x y H Q => ∃ (l b : Addr) (a c : Str) (vs : List V), x = .ref l ∧ y = .ref b ∧ SqT X.K H l (.str a :: vs) ∧ SqT X.K H b [.str c] ∧ Q (.bl (decide (a = c) && vs.isEmpty)) H) := by
  intro pins s σ H x y v u Q I rx ry h
  obtain ⟨l, b, a, c, vs, rfl, rfl, h1, h2, q⟩ := h
  cases rx
  cases ry
  obtain ⟨i1, v1, t1, _⟩ := I.tuple h1
  obtain ⟨i2, v2, t2, _⟩ := I.tuple h2
  cases v1 with
  | cons r1 w1 =>
    cases v2 with
    | cons r2 w2 =>
      cases w2
      obtain ⟨k1, rfl⟩ := r1
      obtain ⟨k2, rfl⟩ := r2
      rename_i us
      have lus : vs.length = us.length := Paired.length w1
      have e : vs.isEmpty = us.isEmpty := by cases w1 <;> rfl
      refine SeqAt.eq_tupleAt (e := fun _ => a == c) t1 t2 hu (fun j h1 h2 => ?_) ?_
      · have hj : j = 0 := by
          simp at h2
          exact h2
        subst hj
        exact SeqAt.EqAt.str_str a k1 c k2
      · have ev : ((List.range (min (Value.str a k1 :: us).toArray.size ([Value.str c k2] : List Value).toArray.size)).all (fun _ => a == c) && ((Value.str a k1 :: us).toArray.size == ([Value.str c k2] : List Value).toArray.size)) = (decide (a = c) && vs.isEmpty) := by
          have m1 : min (us.length + 1) 1 = 1 := by omega
          have hd : (a == c) = decide (a = c) := by
            by_cases h : a = c
            · subst h; simp
            · rw [decide_eq_false h]; exact beq_eq_false_iff_ne.mpr h
          simp only [List.size_toArray, List.length_cons, List.length_nil, Nat.zero_add, m1]
          rw [e, hd]
          cases us with
          | nil => simp [List.range, List.range.loop]
          | cons z us => simp [List.range, List.range.loop]
        rw [ev]
        exact ⟨.bl _, H, I, rfl, q⟩
theorem do_eqU (hu : X.A.units + 65 < cLine) (hK : X.K = G.K := by rfl) : DO G X (compareOp .Eq) mEqU := by
  refine ⟨_, op_eqU (by omega), fun io H S vx vy x y Q so rx ry h => ?_, fun x y S => ?_⟩
  · unfold mEqU at h
    split at h
    · obtain ⟨l, us, rfl, h1, r1⟩ := asT_ok rx rfl
      obtain ⟨b, ws, rfl, h2, r2⟩ := asT_ok ry rfl
      cases r1 with
      | cons p1 q1 =>
        cases r2 with
        | cons p2 q2 =>
          cases q2
          cases p1
          cases p2
          rename_i vs
          refine ⟨l, b, _, _, vs, rfl, rfl, by rw [hK]; exact h1, by rw [hK]; exact h2, ?_⟩
          rw [← isEmpty_rel q1]
          exact h io H Grow.refl so _ (.bl _)
    · exact h.elim
  · unfold mEqU
    split <;> trivial
end
end Dv
set_option Elab.async false
set_option linter.all false
set_option maxRecDepth 100000
set_option maxHeartbeats 4000000
set_option autoImplicit false
namespace Lw
open PySem Dv
/-! the defs as functions: printed by our gen.py -/
def b_Web_need_yard : Bd :=
  (mIfS (mB (mOp (mIn true) (mVar 1) (mFld ["Web"] "places" (mVar 0)))) mStop mNx)
def m_Web_need_yard : Fn := fnRun 2 false b_Web_need_yard
def b_need_form : Bd :=
  (mSeq (mFor (mEnum2 (mCons (mVar 0) mNil)) (gTp 2 (gCons' (gNm 1) (gCons' (gNm 2) gNil'))) (mIfS (mB (mOp mNe (mCB mIsi (mCons (mVar 2) (mCons (mC (.ty "tuple")) mNil))) (mOp mEq (mOp mMod (mVar 1) (mC (.int 2))) (mC (.int 1))))) mStop mNx))
  (mIfS (mB (mOp mEq (mOp mMod (mCB mLen (mCons (mVar 0) mNil)) (mC (.int 2))) (mC (.int 0)))) mStop mNx))
def m_need_form : Fn := fnRun 3 false b_need_form
def b_Web_road_of : Bd :=
  (mSeq (mFor (mIt (mFld ["Web"] "roads" (mVar 0))) (gNm 2) (mIfS (mB (mOp mEq (mOp mIx (mVar 2) (mC (.int 0))) (mVar 1))) (mRet (mVar 2)) mNx))
  mStop)
def m_Web_road_of : Fn := fnRun 3 false b_Web_road_of
def b_Web_turned_so : Bd :=
  (mSeq (mAsg (gTp 2 (gCons' (gNm 3) (gCons' (gNm 4) gNil'))) (mVar 1))
  (mSeq (mSet 5 (mMeth "Web" "road_of" 2 m_Web_road_of (mVar 0) (mCons (mVar 3) mNil)))
  (mSeq (mIfS (mB (mOp (mIn true) (mVar 4) (mTup (mCons (mC (.int 1)) (mCons (mNeg (mC (.int 1))) mNil))))) mStop mNx)
  (mRet (mIf (mB (mOp mEq (mVar 4) (mC (.int 1)))) (mTup (mCons (mOp mIx (mVar 5) (mVar 2)) (mCons (mOp mIx (mVar 5) (mOp mAdd (mVar 2) (mC (.int 1)))) mNil))) (mTup (mCons (mOp mIx (mVar 5) (mOp mAdd (mVar 2) (mC (.int 1)))) (mCons (mOp mIx (mVar 5) (mVar 2)) mNil))))))))
def m_Web_turned_so : Fn := fnRun 6 false b_Web_turned_so
def b_Web_ends : Bd :=
  (mRet (mMeth "Web" "turned_so" 3 m_Web_turned_so (mVar 0) (mCons (mVar 1) (mCons (mC (.int 1)) mNil))))
def m_Web_ends : Fn := fnRun 2 false b_Web_ends
def b_yards_on : Bd :=
  (mSeq (mSet 3 (mLstR (mCons (mVar 1) mNil)))
  (mSeq (mFor (mEnum2 (mCons (mVar 2) mNil)) (gTp 2 (gCons' (gNm 4) (gCons' (gNm 5) gNil'))) (mIfS (mB (mOp mEq (mOp mMod (mVar 4) (mC (.int 2))) (mC (.int 0)))) (mIfS (mB (mOp mGt (mCB mAbs (mCons (mVar 5) mNil)) (mC (.int 1000000000000000000000000000000000000000000000000000000000000)))) mStop mNx) (mSeq (mAsg (gTp 2 (gCons' (gNm 6) (gCons' (gNm 7) gNil'))) (mMeth "Web" "ends" 2 m_Web_ends (mVar 0) (mCons (mVar 5) mNil)))
  (mSeq (mIfS (mB (mOp mNe (mVar 6) (mOp mIx (mVar 3) (mNeg (mC (.int 1)))))) mStop mNx)
  (mDrop (mApp1 (mVar 3) (mVar 7)))))))
  (mRet (mVar 3))))
def m_yards_on : Fn := fnRun 8 false b_yards_on
def b_Walk_dinit : Bd :=
  (mSeq (mDrop (mMeth "Web" "need_yard" 2 m_Web_need_yard (mVar 1) (mCons (mVar 2) mNil)))
  (mSeq (mIfS (mB (mOp mGt (mCB mLen (mCons (mVar 3) mNil)) (mOp mAdd (mOp mMul (mC (.int 2)) (mC (.int 200))) (mC (.int 1))))) mStop mNx)
  (mSeq (mDrop (mCall 1 m_need_form (mCons (mVar 3) mNil)))
  (mSeq (mFldS ["Walk"] "over" (mVar 0) (mVar 1))
  (mSeq (mFldS ["Walk"] "line" (mVar 0) (mCB mTuple (mCons (mVar 3) mNil)))
  (mFldS ["Walk"] "spots" (mVar 0) (mCall 3 m_yards_on (mCons (mVar 1) (mCons (mVar 2) (mCons (mVar 3) mNil))))))))))
def m_Walk_dinit : Fn := fnRun 4 false b_Walk_dinit
def b_Walk_row : Bd :=
  (mRet (mCB mList (mCons (mFld ["Walk"] "line" (mVar 0)) mNil)))
def m_Walk_row : Fn := fnRun 1 false b_Walk_row
def b_law_draw : Bd :=
  (mSeq (mIfS (mB (mOp mGt (mOp mIx (mVar 0) (mC (.int 2))) (mC (.int 0)))) (mSeq (mSet 2 (mOp mMod (mOp mIx (mVar 0) (mC (.int 2))) (mVar 1)))
  (mSeq (mAsg (gSubD (mVar 0) (mC (.int 2))) (mOp mDiv (mOp mIx (mVar 0) (mC (.int 2))) (mVar 1)))
  (mRet (mVar 2)))) mNx)
  (mSeq (mSet 3 (mC (.int 0)))
  (mSeq (mIfS (mB (mOp mLt (mOp mIx (mVar 0) (mC (.int 1))) (mCB mLen (mCons (mOp mIx (mVar 0) (mC (.int 0))) mNil)))) (mSet 3 (mOp mIx (mOp mIx (mVar 0) (mC (.int 0))) (mOp mIx (mVar 0) (mC (.int 1))))) mNx)
  (mSeq (mAsg (gSubD (mVar 0) (mC (.int 1))) (mOp mAdd (mOp mIx (mVar 0) (mC (.int 1))) (mC (.int 1))))
  (mSeq (mIfS (mB (mOp mGe (mCB mAbs (mCons (mVar 3) mNil)) (mOp mPow (mC (.int 10)) (mC (.int 18))))) (mSeq (mAsg (gSubD (mVar 0) (mC (.int 2))) (mOp mDiv (mCB mAbs (mCons (mVar 3) mNil)) (mVar 1)))
  (mRet (mOp mMod (mCB mAbs (mCons (mVar 3) mNil)) (mVar 1)))) mNx)
  (mSeq (mSet 4 (mOp mAdd (mOp mAdd (mOp mPow (mOp mIx (mVar 0) (mC (.int 3))) (mC (.int 3))) (mOp mMul (mOp mIx (mVar 0) (mC (.int 3))) (mC (.int 37)))) (mOp mMul (mOp mIx (mVar 0) (mC (.int 1))) (mC (.int 69621)))))
  (mSeq (mSet 4 (mOp mMod (mOp mAdd (mVar 4) (mOp mMul (mOp mMod (mVar 3) (mC (.int 2147483629))) (mC (.int 48271)))) (mC (.int 2147483647))))
  (mSeq (mAsg (gSubD (mVar 0) (mC (.int 3))) (mVar 4))
  (mRet (mOp mMod (mOp mAdd (mOp mDiv (mVar 4) (mC (.int 8192))) (mOp mMul (mOp mMod (mVar 4) (mC (.int 8191))) (mC (.int 40503)))) (mVar 1)))))))))))
def m_law_draw : Fn := fnRun 5 false b_law_draw
def b_law_flow : Bd :=
  (mRet (mLstR (mCons (mCB mList (mCons (mSl (mVar 0) mNoPart (mPart (mC (.int 63)))) mNil)) (mCons (mC (.int 0)) (mCons (mC (.int 0)) (mCons (mC (.int 23)) mNil))))))
def m_law_flow : Fn := fnRun 1 true b_law_flow
def b_law_pick : Bd :=
  (mRet (mOp mIx (mVar 1) (mCall 2 m_law_draw (mCons (mVar 0) (mCons (mCB mLen (mCons (mVar 1) mNil)) mNil)))))
def m_law_pick : Fn := fnRun 2 false b_law_pick
def b_law_power : Bd :=
  (mSeq (mSet 2 (mC (.int 1)))
  (mSeq (mFor (mRng1 (mCons (mVar 1) mNil)) (gNm 3) (mSet 2 (mOp mMul (mVar 2) (mVar 0))))
  (mRet (mVar 2))))
def m_law_power : Fn := fnRun 4 false b_law_power
def b_law_same (rc : Fn) : Bd :=
  (mSeq (mIfS (mTruth (mCB mIsi (mCons (mVar 1) (mCons (mC (.ty "bool")) mNil)))) (mRet (mAndV (mCB mIsi (mCons (mVar 0) (mCons (mC (.ty "bool")) mNil))) (mOp mEq (mVar 0) (mVar 1)))) mNx)
  (mSeq (mIfS (mB (mOp (mIs false) (mVar 1) (mC .non))) (mRet (mOp (mIs false) (mVar 0) (mC .non))) mNx)
  (mSeq (mIfS (mTruth (mCB mIsi (mCons (mVar 1) (mCons (mC (.ty "int")) mNil)))) (mRet (mAndV (mCB mIsi (mCons (mVar 0) (mCons (mC (.ty "int")) mNil))) (mAndV (mNotV (mCB mIsi (mCons (mVar 0) (mCons (mC (.ty "bool")) mNil)))) (mOp mEq (mVar 0) (mVar 1))))) mNx)
  (mSeq (mIfS (mTruth (mCB mIsi (mCons (mVar 1) (mCons (mC (.ty "str")) mNil)))) (mRet (mAndV (mCB mIsi (mCons (mVar 0) (mCons (mC (.ty "str")) mNil))) (mOp mEq (mVar 0) (mVar 1)))) mNx)
  (mSeq (mIfS (mOrT (mB (mOp mNe (mCB mIsi (mCons (mVar 1) (mCons (mC (.ty "tuple")) mNil))) (mCB mIsi (mCons (mVar 0) (mCons (mC (.ty "tuple")) mNil))))) (mB (mOp mNe (mCB mIsi (mCons (mVar 1) (mCons (mC (.ty "list")) mNil))) (mCB mIsi (mCons (mVar 0) (mCons (mC (.ty "list")) mNil)))))) (mRet (mC (.bl false))) mNx)
  (mSeq (mIfS (mOrT (mNotT (mTruth (mCB mIsi (mCons (mVar 0) (mCons (mTup (mCons (mC (.ty "tuple")) (mCons (mC (.ty "list")) mNil))) mNil))))) (mB (mOp mNe (mCB mLen (mCons (mVar 0) mNil)) (mCB mLen (mCons (mVar 1) mNil))))) (mRet (mC (.bl false))) mNx)
  (mRet (mCB mAll (mCons (mLc [2] (mRng1 (mCons (mCB mLen (mCons (mVar 1) mNil)) mNil)) (wNm 2) mYes (mCall 2 rc (mCons (mOp mIx (mVar 0) (mVar 2)) (mCons (mOp mIx (mVar 1) (mVar 2)) mNil)))) mNil)))))))))
def m_law_same : Nat → Fn
  | 0 => fun _ _ => .stuck
  | n + 1 => fnRun 3 false (b_law_same (m_law_same n))
def b_Walk_start : Bd :=
  (mRet (mOp mIx (mFld ["Walk"] "spots" (mVar 0)) (mC (.int 0))))
def m_Walk_start : Fn := fnRun 1 false b_Walk_start
def b_law_undone : Bd :=
  (mRet (mTup (mCons (mOp mIx (mVar 0) (mC (.int 0))) (mCons (mOp mSub (mC (.int 0)) (mOp mIx (mVar 0) (mC (.int 1)))) mNil))))
def m_law_undone : Fn := fnRun 1 false b_law_undone
def b_law_back : Bd :=
  (mRet (mLc [1] (mIt (mRev (mVar 0))) (wNm 1) mYes (mIf (mTruth (mCB mIsi (mCons (mVar 1) (mCons (mC (.ty "tuple")) mNil)))) (mCall 1 m_law_undone (mCons (mVar 1) mNil)) (mOp mSub (mC (.int 0)) (mVar 1)))))
def m_law_back : Fn := fnRun 2 false b_law_back
def b_law_join : Bd :=
  (mRet (mOp mAdd (mOp mAdd (mSl (mVar 0) mNoPart (mPart (mNeg (mC (.int 1))))) (mLst (mCons (mOp mAdd (mOp mIx (mVar 0) (mNeg (mC (.int 1)))) (mOp mIx (mVar 1) (mC (.int 0)))) mNil))) (mSl (mVar 1) (mPart (mC (.int 1))) mNoPart)))
def m_law_join : Fn := fnRun 2 false b_law_join
def b_law_road : Bd :=
  (mRet (mOp mIx (mLc [2] (mIt (mGetS "roads" (mVar 0))) (wNm 2) (mB (mOp mEq (mOp mIx (mVar 2) (mC (.int 0))) (mVar 1))) (mVar 2)) (mC (.int 0))))
def m_law_road : Fn := fnRun 3 false b_law_road
def b_law_rule : Bd :=
  (mSeq (mSet 2 (mCall 2 m_law_road (mCons (mVar 0) (mCons (mOp mIx (mVar 1) (mC (.int 0))) mNil))))
  (mRet (mIf (mB (mOp mEq (mOp mIx (mVar 1) (mC (.int 1))) (mC (.int 1)))) (mTup (mCons (mOp mIx (mVar 2) (mC (.int 3))) (mCons (mOp mIx (mVar 2) (mC (.int 4))) mNil))) (mTup (mCons (mOp mIx (mVar 2) (mC (.int 4))) (mCons (mOp mIx (mVar 2) (mC (.int 3))) mNil))))))
def m_law_rule : Fn := fnRun 3 false b_law_rule
def b_law_settled : Bd :=
  (mSeq (mPar 2 3 (mCons (mLstR mNil) (mCons (mOp mIx (mVar 1) (mC (.int 0))) mNil)))
  (mSeq (mFor (mRng3 (mCons (mC (.int 1)) (mCons (mCB mLen (mCons (mVar 1) mNil)) (mCons (mC (.int 2)) mNil)))) (gNm 4) (mSeq (mAsg (gTp 2 (gCons' (gNm 5) (gCons' (gNm 6) gNil'))) (mCall 2 m_law_rule (mCons (mVar 0) (mCons (mOp mIx (mVar 1) (mVar 4)) mNil))))
  (mSeq (mIfS (mAndT (mB (mOp mNe (mVar 2) (mLst mNil))) (mAndT (mB (mOp mEq (mOp mIx (mOp mIx (mVar 2) (mNeg (mC (.int 1)))) (mC (.int 1))) (mCall 1 m_law_undone (mCons (mOp mIx (mVar 1) (mVar 4)) mNil)))) (mB (mOp mEq (mOp mMod (mVar 3) (mCB mAbs (mCons (mVar 5) mNil))) (mC (.int 0)))))) (mSet 3 (mOp mAdd (mOp mIx (mPop (mVar 2)) (mC (.int 0))) (mOp mMul (mOp mDiv (mVar 3) (mVar 5)) (mVar 6)))) (mSeq (mSet 7 (mOp mMod (mVar 3) (mCB mAbs (mCons (mVar 5) mNil))))
  (mSeq (mDrop (mApp1 (mVar 2) (mTup (mCons (mVar 7) (mCons (mOp mIx (mVar 1) (mVar 4)) mNil)))))
  (mSet 3 (mOp mMul (mOp mDiv (mOp mSub (mVar 3) (mVar 7)) (mVar 5)) (mVar 6))))))
  (mSet 3 (mOp mAdd (mVar 3) (mOp mIx (mVar 1) (mOp mAdd (mVar 4) (mC (.int 1)))))))))
  (mRet (mTup (mCons (mVar 2) (mCons (mVar 3) mNil))))))
def m_law_settled : Fn := fnRun 8 false b_law_settled
def b_law_sees : Bd :=
  (mSeq (mSet 5 (mMeth "Walk" "row" 1 m_Walk_row (mVar 1) mNil))
  (mSeq (mIfS (mB (mOp mNe (mMeth "Walk" "start" 1 m_Walk_start (mVar 1) mNil) (mVar 3))) (mRet (mC (.bl false))) mNx)
  (mRet (mOp mEq (mCall 2 m_law_settled (mCons (mVar 0) (mCons (mCall 2 m_law_join (mCons (mCall 2 m_law_join (mCons (mVar 5) (mCons (mVar 2) mNil))) (mCons (mCall 1 m_law_back (mCons (mVar 5) mNil)) mNil))) mNil))) (mCall 2 m_law_settled (mCons (mVar 0) (mCons (mVar 4) mNil)))))))
def m_law_sees : Fn := fnRun 6 false b_law_sees
def b_Web_dinit : Bd :=
  (mSeq (mFldS ["Web"] "places" (mVar 0) (mTup mNil))
  (mFldS ["Web"] "roads" (mVar 0) (mTup mNil)))
def m_Web_dinit : Fn := fnRun 1 false b_Web_dinit
def b_is_name : Bd :=
  (mRet (mAndV (mChain mLe mLe (mC (.int 1)) (mCB mLen (mCons (mVar 0) mNil)) (mC (.int 8))) (mCB mAll (mCons (mLc [1] (mItS (mVar 0)) (wNm 1) mYes (mOp (mIn false) (mVar 1) (mC (.str "abcdefghijklmnopqrstuvwxyz")))) mNil))))
def m_is_name : Fn := fnRun 2 false b_is_name
def b_Web_need_new : Bd :=
  (mSeq (mIfS (mNotT (mTruth (mCall 1 m_is_name (mCons (mVar 1) mNil)))) mStop mNx)
  (mIfS (mOrT (mB (mOp (mIn false) (mVar 1) (mFld ["Web"] "places" (mVar 0)))) (mB (mOp (mIn false) (mVar 1) (mLc [2] (mIt (mFld ["Web"] "roads" (mVar 0))) (wNm 2) mYes (mOp mIx (mVar 2) (mC (.int 0))))))) mStop mNx))
def m_Web_need_new : Fn := fnRun 3 false b_Web_need_new
def b_Web_turned : Bd :=
  (mSeq (mSet 3 (mMake "Web" 1 m_Web_dinit mNil))
  (mSeq (mAsg (gTp 2 (gCons' (gFldD ["Web"] "places" (mVar 3)) (gCons' (gFldD ["Web"] "roads" (mVar 3)) gNil'))) (mTup (mCons (mCB mTuple (mCons (mVar 1) mNil)) (mCons (mCB mTuple (mCons (mVar 2) mNil)) mNil))))
  (mRet (mVar 3))))
def m_Web_turned : Fn := fnRun 4 false b_Web_turned
def b_is_whole : Bd :=
  (mRet (mAndV (mCB mIsi (mCons (mVar 0) (mCons (mC (.ty "int")) mNil))) (mAndV (mNotV (mCB mIsi (mCons (mVar 0) (mCons (mC (.ty "bool")) mNil)))) (mChain mLe mLe (mVar 1) (mVar 0) (mVar 2)))))
def m_is_whole : Fn := fnRun 3 false b_is_whole
def b_need_turns : Bd :=
  (mIfS (mOrT (mB (mOp mEq (mVar 0) (mC (.int 0)))) (mNotT (mTruth (mCall 3 m_is_whole (mCons (mVar 0) (mCons (mOp mSub (mC (.int 0)) (mC (.int 99))) (mCons (mC (.int 99)) mNil))))))) mStop mNx)
def m_need_turns : Fn := fnRun 1 false b_need_turns
def b_Web_with_passage : Bd :=
  (mSeq (mDrop (mMeth "Web" "need_new" 2 m_Web_need_new (mVar 0) (mCons (mVar 1) mNil)))
  (mSeq (mFor (mIt (mTup (mCons (mVar 2) (mCons (mVar 3) mNil)))) (gNm 6) (mDrop (mMeth "Web" "need_yard" 2 m_Web_need_yard (mVar 0) (mCons (mVar 6) mNil))))
  (mSeq (mFor (mIt (mTup (mCons (mVar 4) (mCons (mVar 5) mNil)))) (gNm 7) (mDrop (mCall 1 m_need_turns (mCons (mVar 7) mNil))))
  (mSeq (mIfS (mB (mOp mGe (mCB mLen (mCons (mFld ["Web"] "roads" (mVar 0)) mNil)) (mC (.int 8)))) mStop mNx)
  (mRet (mMeth "Web" "turned" 3 m_Web_turned (mVar 0) (mCons (mFld ["Web"] "places" (mVar 0)) (mCons (mOp mAdd (mFld ["Web"] "roads" (mVar 0)) (mTup (mCons (mTup (mCons (mVar 1) (mCons (mVar 2) (mCons (mVar 3) (mCons (mVar 4) (mCons (mVar 5) mNil)))))) mNil))) mNil))))))))
def m_Web_with_passage : Fn := fnRun 8 false b_Web_with_passage
def b_Web_with_yard : Bd :=
  (mSeq (mDrop (mMeth "Web" "need_new" 2 m_Web_need_new (mVar 0) (mCons (mVar 1) mNil)))
  (mSeq (mIfS (mB (mOp mGe (mCB mLen (mCons (mFld ["Web"] "places" (mVar 0)) mNil)) (mC (.int 6)))) mStop mNx)
  (mRet (mMeth "Web" "turned" 3 m_Web_turned (mVar 0) (mCons (mOp mAdd (mFld ["Web"] "places" (mVar 0)) (mTup (mCons (mVar 1) mNil))) (mCons (mFld ["Web"] "roads" (mVar 0)) mNil))))))
def m_Web_with_yard : Fn := fnRun 2 false b_Web_with_yard
def b_law_web : Bd :=
  (mSeq (mSet 1 (mFz (mMake "Web" 1 m_Web_dinit mNil)))
  (mSeq (mFor (mIt (mGetS "yards" (mVar 0))) (gNm 2) (mSet 1 (mMeth "Web" "with_yard" 2 m_Web_with_yard (mVar 1) (mCons (mVar 2) mNil))))
  (mSeq (mFor (mIt (mGetS "roads" (mVar 0))) (gTp 5 (gCons' (gNm 3) (gCons' (gNm 4) (gCons' (gNm 5) (gCons' (gNm 6) (gCons' (gNm 7) gNil')))))) (mSet 1 (mMethK "Web" "with_passage" 4 2 6 [1, 0] m_Web_with_passage (mVar 1) (mCons (mVar 3) (mCons (mVar 4) (mCons (mVar 5) mNil))) (mCons (mVar 7) (mCons (mVar 6) mNil)))))
  (mRet (mVar 1)))))
def m_law_web : Fn := fnRun 8 false b_law_web
def b_Walk_web : Bd :=
  (mRet (mFld ["Walk"] "over" (mVar 0)))
def m_Walk_web : Fn := fnRun 1 false b_Walk_web
def b_undone : Bd :=
  (mSeq (mAsg (gTp 2 (gCons' (gNm 1) (gCons' (gNm 2) gNil'))) (mVar 0))
  (mRet (mTup (mCons (mVar 1) (mCons (mOp mSub (mC (.int 0)) (mVar 2)) mNil)))))
def m_undone : Fn := fnRun 3 false b_undone
def b_back_row : Bd :=
  (mRet (mLc [1] (mIt (mRev (mVar 0))) (wNm 1) mYes (mIf (mTruth (mCB mIsi (mCons (mVar 1) (mCons (mC (.ty "tuple")) mNil)))) (mCall 1 m_undone (mCons (mVar 1) mNil)) (mOp mSub (mC (.int 0)) (mVar 1)))))
def m_back_row : Fn := fnRun 2 false b_back_row
def b_Walk_is_home : Bd :=
  (mRet (mOp mEq (mOp mIx (mFld ["Walk"] "spots" (mVar 0)) (mC (.int 0))) (mOp mIx (mFld ["Walk"] "spots" (mVar 0)) (mNeg (mC (.int 1))))))
def m_Walk_is_home : Fn := fnRun 1 false b_Walk_is_home
def b_Web_rule : Bd :=
  (mRet (mMeth "Web" "turned_so" 3 m_Web_turned_so (mVar 0) (mCons (mVar 1) (mCons (mC (.int 3)) mNil))))
def m_Web_rule : Fn := fnRun 2 false b_Web_rule
def b_parted : Bd :=
  (mSeq (mSet 2 (mOp mMod (mVar 0) (mCB mAbs (mCons (mVar 1) mNil))))
  (mRet (mTup (mCons (mOp mDiv (mOp mSub (mVar 0) (mVar 2)) (mVar 1)) (mCons (mVar 2) mNil)))))
def m_parted : Fn := fnRun 3 false b_parted
def b_settled : Bd :=
  (mSeq (mPar 2 3 (mCons (mLstR mNil) (mCons (mOp mIx (mVar 1) (mC (.int 0))) mNil)))
  (mSeq (mFor (mZs (mCons (mEv 1 (mVar 1)) (mCons (mEv 2 (mVar 1)) mNil))) (gTp 2 (gCons' (gNm 4) (gCons' (gNm 5) gNil'))) (mSeq (mAsg (gTp 2 (gCons' (gNm 6) (gCons' (gNm 7) gNil'))) (mMeth "Web" "rule" 2 m_Web_rule (mVar 0) (mCons (mVar 4) mNil)))
  (mSeq (mIfS (mAndT (mB (mOp mNe (mVar 2) (mLst mNil))) (mAndT (mB (mOp mEq (mOp mIx (mOp mIx (mVar 2) (mNeg (mC (.int 1)))) (mC (.int 1))) (mCall 1 m_undone (mCons (mVar 4) mNil)))) (mB (mOp mEq (mOp mMod (mVar 3) (mVar 6)) (mC (.int 0)))))) (mSet 3 (mOp mAdd (mOp mIx (mPop (mVar 2)) (mC (.int 0))) (mOp mMul (mOp mDiv (mVar 3) (mVar 6)) (mVar 7)))) (mSeq (mAsg (gTp 2 (gCons' (gNm 8) (gCons' (gNm 9) gNil'))) (mCall 2 m_parted (mCons (mVar 3) (mCons (mVar 6) mNil))))
  (mSeq (mDrop (mApp1 (mVar 2) (mTup (mCons (mVar 9) (mCons (mVar 4) mNil)))))
  (mSet 3 (mOp mMul (mVar 8) (mVar 7))))))
  (mAug 3 mIAdd (mVar 5)))))
  (mRet (mTup (mCons (mVar 2) (mCons (mVar 3) mNil))))))
def m_settled : Fn := fnRun 10 false b_settled
def b_settled_walk : Bd :=
  (mRet (mCall 2 m_settled (mCons (mMeth "Walk" "web" 1 m_Walk_web (mVar 0) mNil) (mCons (mMeth "Walk" "row" 1 m_Walk_row (mVar 0) mNil) mNil))))
def m_settled_walk : Fn := fnRun 1 false b_settled_walk
def b_cut_round : Bd :=
  (mSeq (mIfS (mNotT (mTruth (mMeth "Walk" "is_home" 1 m_Walk_is_home (mVar 0) mNil))) mStop mNx)
  (mSeq (mAsg (gTp 2 (gCons' (gNm 1) (gCons' (gNm 2) gNil'))) (mCall 1 m_settled_walk (mCons (mVar 0) mNil)))
  (mSeq (mSet 3 (mLstR mNil))
  (mSeq (mWhile ((fun _ _ => 1000)) (mAndT (mB (mOp mGt (mCB mLen (mCons (mVar 1) mNil)) (mC (.int 1)))) (mB (mOp mEq (mOp mIx (mOp mIx (mVar 1) (mNeg (mC (.int 1)))) (mC (.int 1))) (mCall 1 m_undone (mCons (mOp mIx (mOp mIx (mVar 1) (mC (.int 0))) (mC (.int 1))) mNil))))) (mSeq (mAsg (gTp 2 (gCons' (gNm 4) (gCons' (gNm 5) gNil'))) (mOp mIx (mVar 1) (mC (.int 0))))
  (mSeq (mAsg (gTp 2 (gCons' (gNm 6) (gCons' (gNm 7) gNil'))) (mMeth "Web" "rule" 2 m_Web_rule (mMeth "Walk" "web" 1 m_Walk_web (mVar 0) mNil) (mCons (mVar 5) mNil)))
  (mSeq (mIfS (mB (mOp mNe (mOp mMod (mOp mAdd (mVar 2) (mVar 4)) (mVar 6)) (mC (.int 0)))) mBk mNx)
  (mSeq (mSet 2 (mOp mAdd (mOp mIx (mOp mIx (mVar 1) (mNeg (mC (.int 1)))) (mC (.int 0))) (mOp mMul (mOp mDiv (mOp mAdd (mVar 2) (mVar 4)) (mVar 6)) (mVar 7))))
  (mSeq (mDrop (mApp1 (mVar 3) (mOp mIx (mVar 1) (mC (.int 0)))))
  (mSet 1 (mSl (mVar 1) (mPart (mC (.int 1))) (mPart (mNeg (mC (.int 1))))))))))))
  (mRet (mTup (mCons (mVar 3) (mCons (mVar 1) (mCons (mVar 2) mNil)))))))))
def m_cut_round : Fn := fnRun 8 false b_cut_round
def b_Web_steps_from : Bd :=
  (mSeq (mDrop (mMeth "Web" "need_yard" 2 m_Web_need_yard (mVar 0) (mCons (mVar 1) mNil)))
  (mSeq (mSet 2 (mLstR mNil))
  (mSeq (mFor (mIt (mFld ["Web"] "roads" (mVar 0))) (gSt 4 3 (gCons' (gNm 3) (gCons' (gNm 4) (gCons' (gNm 5) (gCons' (gNm 6) gNil'))))) (mSeq (mIfS (mB (mOp mEq (mVar 4) (mVar 1))) (mDrop (mApp1 (mVar 2) (mTup (mCons (mVar 3) (mCons (mC (.int 1)) mNil))))) mNx)
  (mIfS (mB (mOp mEq (mVar 5) (mVar 1))) (mDrop (mApp1 (mVar 2) (mTup (mCons (mVar 3) (mCons (mNeg (mC (.int 1))) mNil))))) mNx)))
  (mRet (mVar 2)))))
def m_Web_steps_from : Fn := fnRun 7 false b_Web_steps_from
def b_joined_row : Bd :=
  (mRet (mOp mAdd (mOp mAdd (mSl (mVar 0) mNoPart (mPart (mNeg (mC (.int 1))))) (mLst (mCons (mOp mAdd (mOp mIx (mVar 0) (mNeg (mC (.int 1)))) (mOp mIx (mVar 1) (mC (.int 0)))) mNil))) (mSl (mVar 1) (mPart (mC (.int 1))) mNoPart)))
def m_joined_row : Fn := fnRun 2 false b_joined_row
def b_followed : Bd :=
  (mSeq (mSet 4 (mDictT (mTup (mCons (mVar 1) (mCons (mVar 2) mNil))) (mLst (mCons (mC (.int 0)) mNil))))
  (mSeq (mSet 5 (mLstR (mCons (mTup (mCons (mVar 1) (mCons (mVar 2) mNil))) mNil)))
  (mSeq (mSet 6 (mC (.int 0)))
  (mSeq (mWhile (fun e S => 100000) (mAndT (mB (mOp mLt (mVar 6) (mCB mLen (mCons (mVar 5) mNil)))) (mB (mOp mLe (mCB mLen (mCons (mVar 5) mNil)) (mVar 3)))) (mSeq (mAsg (gTp 2 (gCons' (gNm 7) (gCons' (gNm 8) gNil'))) (mOp mIx (mVar 5) (mVar 6)))
  (mSeq (mFor (mIt (mMeth "Web" "steps_from" 2 m_Web_steps_from (mVar 0) (mCons (mVar 7) mNil))) (gNm 9) (mSeq (mAsg (gTp 2 (gCons' (gNm 10) (gCons' (gNm 11) gNil'))) (mMeth "Web" "rule" 2 m_Web_rule (mVar 0) (mCons (mVar 9) mNil)))
  (mSeq (mSet 12 (mTup (mCons (mOp mIx (mMeth "Web" "ends" 2 m_Web_ends (mVar 0) (mCons (mVar 9) mNil)) (mC (.int 1))) (mCons (mOp mMul (mOp mDiv (mVar 8) (mVar 10)) (mVar 11)) mNil))))
  (mIfS (mAndT (mB (mOp mEq (mOp mMod (mVar 8) (mVar 10)) (mC (.int 0)))) (mB (mOp (mInT true) (mVar 12) (mVar 4)))) (mSeq (mAsg (gKeyT (mVar 4) (mVar 12)) (mCall 2 m_joined_row (mCons (mOp mIxT (mVar 4) (mTup (mCons (mVar 7) (mCons (mVar 8) mNil)))) (mCons (mLst (mCons (mC (.int 0)) (mCons (mVar 9) (mCons (mC (.int 0)) mNil)))) mNil))))
  (mDrop (mApp1 (mVar 5) (mVar 12)))) mNx))))
  (mAug 6 mIAdd (mC (.int 1))))))
  (mRet (mVar 4))))))
def m_followed : Fn := fnRun 13 true b_followed
def b_Web_deq : Bd :=
  (mRet (mAndV (mCB mIsi (mCons (mVar 1) (mCons (mC (.cls "Web")) mNil))) (mAndV (mOp mEq (mFld ["Web"] "places" (mVar 0)) (mFld ["Web"] "places" (mVar 1))) (mOp mEq (mFld ["Web"] "roads" (mVar 0)) (mFld ["Web"] "roads" (mVar 1))))))
def m_Web_deq : Fn := fnRun 2 false b_Web_deq
def b_need_alike_webs : Bd :=
  (mIfS (mB (mOp (mEqI true "Web" m_Web_deq) (mMeth "Walk" "web" 1 m_Walk_web (mVar 0) mNil) (mMeth "Walk" "web" 1 m_Walk_web (mVar 1) mNil))) mStop mNx)
def m_need_alike_webs : Fn := fnRun 2 false b_need_alike_webs
def b_put_together : Bd :=
  (mSeq (mSet 1 (mLst (mCons (mC (.int 0)) mNil)))
  (mSeq (mFor (mIt (mVar 0)) (gNm 2) (mSet 1 (mCall 2 m_joined_row (mCons (mVar 1) (mCons (mVar 2) mNil)))))
  (mRet (mVar 1))))
def m_put_together : Fn := fnRun 3 false b_put_together
def b_row_of : Bd :=
  (mRet (mOp mAdd (mLc2 [2, 3] (mIt (mVar 0)) (wNm 2) mYes (mIt (mVar 2)) [3] (wNm 3) mYes (mVar 3)) (mLst (mCons (mVar 1) mNil))))
def m_row_of : Fn := fnRun 4 false b_row_of
def b_plain_from : Bd :=
  (mSeq (mAsg (gTp 2 (gCons' (gNm 3) (gCons' (gNm 4) gNil'))) (mCall 2 m_settled (mCons (mVar 0) (mCons (mCall 1 m_put_together (mCons (mVar 2) mNil)) mNil))))
  (mRet (mFz (mMake "Walk" 4 m_Walk_dinit (mCons (mVar 0) (mCons (mVar 1) (mCons (mCall 2 m_row_of (mCons (mVar 3) (mCons (mVar 4) mNil))) mNil)))))))
def m_plain_from : Fn := fnRun 5 false b_plain_from
def b_yard_behind : Bd :=
  (mRet (mIf (mB (mOp mNe (mVar 1) (mLst mNil))) (mOp mIx (mMeth "Web" "ends" 2 m_Web_ends (mMeth "Walk" "web" 1 m_Walk_web (mVar 0) mNil) (mCons (mOp mIx (mOp mIx (mVar 1) (mNeg (mC (.int 1)))) (mC (.int 1))) mNil)) (mC (.int 1))) (mMeth "Walk" "start" 1 m_Walk_start (mVar 0) mNil)))
def m_yard_behind : Fn := fnRun 2 false b_yard_behind
def b_stay_of : Bd :=
  (mSeq (mAsg (gTp 3 (gCons' (gNm 3) (gCons' (gNm 4) (gCons' (gNm 5) gNil')))) (mCall 1 m_cut_round (mCons (mVar 0) mNil)))
  (mSeq (mAsg (gTp 3 (gCons' (gNm 6) (gCons' (gNm 7) (gCons' (gNm 8) gNil')))) (mCall 1 m_cut_round (mCons (mVar 1) mNil)))
  (mSeq (mDrop (mCall 2 m_need_alike_webs (mCons (mVar 0) (mCons (mVar 1) mNil))))
  (mSeq (mIfS (mOrT (mB (mOp mNe (mVar 4) (mLst mNil))) (mB (mOp mNe (mVar 7) (mLst mNil)))) mStop mNx)
  (mSeq (mIfS (mNotT (mTruth (mCall 3 m_is_whole (mCons (mVar 2) (mCons (mC (.int 1)) (mCons (mC (.int 1000)) mNil)))))) mStop mNx)
  (mSeq (mSet 9 (mMeth "Walk" "web" 1 m_Walk_web (mVar 0) mNil))
  (mSeq (mSet 10 (mCall 4 m_followed (mCons (mVar 9) (mCons (mCall 2 m_yard_behind (mCons (mVar 0) (mCons (mVar 3) mNil))) (mCons (mVar 5) (mCons (mVar 2) mNil))))))
  (mSeq (mSet 11 (mTup (mCons (mCall 2 m_yard_behind (mCons (mVar 1) (mCons (mVar 6) mNil))) (mCons (mVar 8) mNil))))
  (mSeq (mIfS (mB (mOp (mInT false) (mVar 11) (mVar 10))) (mSeq (mSet 12 (mLst (mCons (mCall 2 m_row_of (mCons (mVar 6) (mCons (mC (.int 0)) mNil))) (mCons (mCall 1 m_back_row (mCons (mOp mIxT (mVar 10) (mVar 11)) mNil)) (mCons (mCall 1 m_back_row (mCons (mCall 2 m_row_of (mCons (mVar 3) (mCons (mC (.int 0)) mNil))) mNil)) mNil)))))
  (mRet (mTup (mCons (mC (.str "seen")) (mCons (mCall 3 m_plain_from (mCons (mVar 9) (mCons (mMeth "Walk" "start" 1 m_Walk_start (mVar 1) mNil) (mCons (mVar 12) mNil)))) mNil))))) mNx)
  (mRet (mIf (mB (mOp mGt (mCB mLenT (mCons (mVar 10) mNil)) (mVar 2))) (mTup (mCons (mC (.str "unsure")) mNil)) (mTup (mCons (mC (.str "apart")) (mCons (mCB mLenT (mCons (mVar 10) mNil)) mNil))))))))))))))
def m_stay_of : Fn := fnRun 13 false b_stay_of
def b_law : Bd :=
  (mSeq (mSet 1 (mCall 1 m_law_flow (mCons (mVar 0) mNil)))
  (mSeq (mSet 2 (mLst (mCons (mC (.int 6)) (mCons (mC (.int 8)) (mCons (mC (.int 99)) (mCons (mC (.int 200)) (mCons (mC (.int 1000000000000000000000000000000000000000000000000000000000000)) (mCons (mC (.int 6)) (mCons (mC (.int 60)) mNil)))))))))
  (mSeq (mSet 2 (mOp mAdd (mVar 2) (mLst (mCons (mC (.int 999)) (mCons (mC (.int 24)) (mCons (mC (.int 300)) mNil))))))
  (mSeq (mIfS (mNotT (mTruth (mCall 2 (m_law_same 20) (mCons (mVar 2) (mCons (mLst (mCons (mC (.int 6)) (mCons (mC (.int 8)) (mCons (mC (.int 99)) (mCons (mC (.int 200)) (mCons (mOp mPow (mC (.int 10)) (mC (.int 60))) (mCons (mC (.int 6)) (mCons (mC (.int 60)) (mCons (mC (.int 999)) (mCons (mC (.int 24)) (mCons (mC (.int 300)) mNil))))))))))) mNil))))) (mRet (mC (.bl false))) mNx)
  (mSeq (mSet 3 (mDict ["yards", "roads"] [(mLst (mCons (mC (.str "a")) mNil)), (mLst (mCons (mTup (mCons (mC (.str "u")) (mCons (mC (.str "a")) (mCons (mC (.str "a")) (mCons (mC (.int 2)) (mCons (mC (.int 3)) mNil)))))) (mCons (mTup (mCons (mC (.str "w")) (mCons (mC (.str "a")) (mCons (mC (.str "a")) (mCons (mC (.int 2)) (mCons (mC (.int 5)) mNil)))))) mNil)))]))
  (mSeq (mSet 4 (mCall 1 m_law_web (mCons (mVar 3) mNil)))
  (mSeq (mSet 5 (mCall 2 m_law_pick (mCons (mVar 1) (mCons (mLst (mCons (mC (.int 7)) (mCons (mC (.int 22)) (mCons (mC (.int 23)) (mCons (mC (.int 24)) (mCons (mCall 2 m_law_draw (mCons (mVar 1) (mCons (mC (.int 30)) mNil))) mNil)))))) mNil))))
  (mSeq (mSet 6 (mOp mDiv (mOp mMul (mOp mAdd (mVar 5) (mC (.int 1))) (mOp mAdd (mVar 5) (mC (.int 2)))) (mC (.int 2))))
  (mSeq (mPar 7 8 (mCons (mFz (mMake "Walk" 4 m_Walk_dinit (mCons (mVar 4) (mCons (mC (.str "a")) (mCons (mLst (mCons (mCall 2 m_law_power (mCons (mC (.int 2)) (mCons (mVar 5) mNil))) mNil)) mNil))))) (mCons (mFz (mMake "Walk" 4 m_Walk_dinit (mCons (mVar 4) (mCons (mC (.str "a")) (mCons (mLst (mCons (mC (.int 7)) mNil)) mNil))))) mNil)))
  (mSeq (mSet 9 (mIf (mB (mOp mLe (mVar 6) (mC (.int 300)))) (mTup (mCons (mC (.str "apart")) (mCons (mVar 6) mNil))) (mTup (mCons (mC (.str "unsure")) mNil))))
  (mSeq (mIfS (mOrT (mNotT (mTruth (mCall 2 (m_law_same 20) (mCons (mCallK 2 0 3 [0] [.int 300] m_stay_of (mCons (mVar 7) (mCons (mVar 8) mNil)) mNil) (mCons (mVar 9) mNil))))) (mNotT (mTruth (mCall 2 (m_law_same 20) (mCons (mCallK 2 0 3 [0] [.int 300] m_stay_of (mCons (mVar 8) (mCons (mVar 7) mNil)) mNil) (mCons (mTup (mCons (mC (.str "apart")) (mCons (mC (.int 1)) mNil))) mNil)))))) (mRet (mC (.bl false))) mNx)
  (mSeq (mSet 10 (mOp mAdd (mC (.int 1)) (mCall 2 m_law_draw (mCons (mVar 1) (mCons (mC (.int 500)) mNil)))))
  (mSeq (mIfS (mNotT (mTruth (mCall 2 (m_law_same 20) (mCons (mCallK 2 1 3 [0] [] m_stay_of (mCons (mVar 7) (mCons (mVar 8) mNil)) (mCons (mVar 10) mNil)) (mCons (mIf (mB (mOp mLe (mVar 6) (mVar 10))) (mTup (mCons (mC (.str "apart")) (mCons (mVar 6) mNil))) (mTup (mCons (mC (.str "unsure")) mNil))) mNil))))) (mRet (mC (.bl false))) mNx)
  (mSeq (mSet 11 (mFz (mMake "Walk" 4 m_Walk_dinit (mCons (mVar 4) (mCons (mC (.str "a")) (mCons (mLst (mCons (mCall 2 m_law_power (mCons (mC (.int 3)) (mCons (mVar 5) mNil))) mNil)) mNil))))))
  (mSeq (mSet 12 (mCallK 2 0 3 [0] [.int 300] m_stay_of (mCons (mVar 7) (mCons (mVar 11) mNil)) mNil))
  (mSeq (mIfS (mB (mOp mGt (mVar 6) (mC (.int 300)))) (mRet (mOrV (mOp mEqU (mVar 12) (mTup (mCons (mC (.str "unsure")) mNil))) (mCall 5 m_law_sees (mCons (mVar 3) (mCons (mOp mIx (mVar 12) (mC (.int 1))) (mCons (mMeth "Walk" "row" 1 m_Walk_row (mVar 7) mNil) (mCons (mC (.str "a")) (mCons (mMeth "Walk" "row" 1 m_Walk_row (mVar 11) mNil) mNil)))))))) mNx)
  (mRet (mAndV (mOp mEq (mOp mIx (mVar 12) (mC (.int 0))) (mC (.str "seen"))) (mCall 5 m_law_sees (mCons (mVar 3) (mCons (mOp mIx (mVar 12) (mC (.int 1))) (mCons (mMeth "Walk" "row" 1 m_Walk_row (mVar 7) mNil) (mCons (mC (.str "a")) (mCons (mMeth "Walk" "row" 1 m_Walk_row (mVar 11) mNil) mNil))))))))))))))))))))))))
def m_law : Fn := fnRun 13 true b_law
end Lw
set_option Elab.async false
set_option linter.all false
set_option maxRecDepth 100000
set_option maxHeartbeats 4000000
set_option autoImplicit false
namespace Lw
open PySem PySem.Spec PyProof.Rows L2 Dv
theorem units65 {k : Nat} {A : Around} (r : Room k A) : A.units + 65 < cLine := by have := r.un; omega
structure Ad where
  a_Web_need_yard : Addr
  d_Web_need_yard : FuncData
  a_need_form : Addr
  d_need_form : FuncData
  a_Web_road_of : Addr
  d_Web_road_of : FuncData
  a_Web_turned_so : Addr
  d_Web_turned_so : FuncData
  a_Web_ends : Addr
  d_Web_ends : FuncData
  a_yards_on : Addr
  d_yards_on : FuncData
  a_Walk_dinit : Addr
  d_Walk_dinit : FuncData
  v_Walk_dinit : List V
  a_Walk_row : Addr
  d_Walk_row : FuncData
  a_law_draw : Addr
  d_law_draw : FuncData
  a_law_flow : Addr
  d_law_flow : FuncData
  a_law_pick : Addr
  d_law_pick : FuncData
  a_law_power : Addr
  d_law_power : FuncData
  a_law_same : Addr
  d_law_same : FuncData
  a_Walk_start : Addr
  d_Walk_start : FuncData
  a_law_undone : Addr
  d_law_undone : FuncData
  a_law_back : Addr
  d_law_back : FuncData
  a_law_join : Addr
  d_law_join : FuncData
  a_law_road : Addr
  d_law_road : FuncData
  a_law_rule : Addr
  d_law_rule : FuncData
  a_law_settled : Addr
  d_law_settled : FuncData
  a_law_sees : Addr
  d_law_sees : FuncData
  a_Web_dinit : Addr
  d_Web_dinit : FuncData
  a_is_name : Addr
  d_is_name : FuncData
  a_Web_need_new : Addr
  d_Web_need_new : FuncData
  a_Web_turned : Addr
  d_Web_turned : FuncData
  a_is_whole : Addr
  d_is_whole : FuncData
  a_need_turns : Addr
  d_need_turns : FuncData
  a_Web_with_passage : Addr
  d_Web_with_passage : FuncData
  a_Web_with_yard : Addr
  d_Web_with_yard : FuncData
  a_law_web : Addr
  d_law_web : FuncData
  a_Walk_web : Addr
  d_Walk_web : FuncData
  a_undone : Addr
  d_undone : FuncData
  a_back_row : Addr
  d_back_row : FuncData
  a_Walk_is_home : Addr
  d_Walk_is_home : FuncData
  a_Web_rule : Addr
  d_Web_rule : FuncData
  a_parted : Addr
  d_parted : FuncData
  a_settled : Addr
  d_settled : FuncData
  a_settled_walk : Addr
  d_settled_walk : FuncData
  a_cut_round : Addr
  d_cut_round : FuncData
  a_Web_steps_from : Addr
  d_Web_steps_from : FuncData
  a_joined_row : Addr
  d_joined_row : FuncData
  a_followed : Addr
  d_followed : FuncData
  a_Web_deq : Addr
  d_Web_deq : FuncData
  a_need_alike_webs : Addr
  d_need_alike_webs : FuncData
  a_put_together : Addr
  d_put_together : FuncData
  a_row_of : Addr
  d_row_of : FuncData
  a_plain_from : Addr
  d_plain_from : FuncData
  a_yard_behind : Addr
  d_yard_behind : FuncData
  a_stay_of : Addr
  d_stay_of : FuncData
  a_law : Addr
  d_law : FuncData
  k_Walk : Addr
  k_Web : Addr
abbrev clOf (A : Ad) : CL := [("Walk", A.k_Walk), ("Web", A.k_Web)]
abbrev tabsOf (A : Ad) : List (Addr × Str) := []
abbrev Gx (K : PySem.W.Frag) (A : Ad) : Gv := ⟨K, fun c => (clOf A).lookup c, fun _ => none, tabsOf A, false⟩
structure Tx (K : PySem.W.Frag) (mg : Str → Option Value) (A : Ad) : Prop where
  F_Web_need_yard : Fun K "need_yard" "Web.need_yard" s_Web_need_yard A.a_Web_need_yard A.d_Web_need_yard
  me_Web_need_yard : Meth K A.k_Web "need_yard" A.a_Web_need_yard
  b_Web_need_yard : Binds K A.d_Web_need_yard ["self", "name"] []
  F_need_form : Fun K "need_form" "need_form" s_need_form A.a_need_form A.d_need_form
  g_need_form : mg "need_form" = some (.ref A.a_need_form)
  b_need_form : Binds K A.d_need_form ["row"] []
  F_Web_road_of : Fun K "road_of" "Web.road_of" s_Web_road_of A.a_Web_road_of A.d_Web_road_of
  me_Web_road_of : Meth K A.k_Web "road_of" A.a_Web_road_of
  b_Web_road_of : Binds K A.d_Web_road_of ["self", "name"] []
  F_Web_turned_so : Fun K "turned_so" "Web.turned_so" s_Web_turned_so A.a_Web_turned_so A.d_Web_turned_so
  me_Web_turned_so : Meth K A.k_Web "turned_so" A.a_Web_turned_so
  b_Web_turned_so : Binds K A.d_Web_turned_so ["self", "step", "at"] []
  F_Web_ends : Fun K "ends" "Web.ends" s_Web_ends A.a_Web_ends A.d_Web_ends
  me_Web_ends : Meth K A.k_Web "ends" A.a_Web_ends
  b_Web_ends : Binds K A.d_Web_ends ["self", "step"] []
  F_yards_on : Fun K "yards_on" "yards_on" s_yards_on A.a_yards_on A.d_yards_on
  g_yards_on : mg "yards_on" = some (.ref A.a_yards_on)
  b_yards_on : Binds K A.d_yards_on ["web", "start", "row"] []
  F_Walk_dinit : FunD K "__init__" "Walk.__init__" (defArgs s_Walk_dinit) (defBody s_Walk_dinit) (defScope s_Walk_dinit) A.v_Walk_dinit [] A.a_Walk_dinit A.d_Walk_dinit
  mk_Walk : Mk K A.k_Walk A.a_Walk_dinit
  b_Walk_dinit : Binds K A.d_Walk_dinit ["self", "web", "start", "row"] []
  F_Walk_row : Fun K "row" "Walk.row" s_Walk_row A.a_Walk_row A.d_Walk_row
  me_Walk_row : Meth K A.k_Walk "row" A.a_Walk_row
  b_Walk_row : Binds K A.d_Walk_row ["self"] []
  F_law_draw : Fun K "_law_draw" "_law_draw" s_law_draw A.a_law_draw A.d_law_draw
  g_law_draw : mg "_law_draw" = some (.ref A.a_law_draw)
  b_law_draw : Binds K A.d_law_draw ["_law_flow_here", "_law_size"] []
  F_law_flow : Fun K "_law_flow" "_law_flow" s_law_flow A.a_law_flow A.d_law_flow
  g_law_flow : mg "_law_flow" = some (.ref A.a_law_flow)
  b_law_flow : Binds K A.d_law_flow ["_law_script"] []
  F_law_pick : Fun K "_law_pick" "_law_pick" s_law_pick A.a_law_pick A.d_law_pick
  g_law_pick : mg "_law_pick" = some (.ref A.a_law_pick)
  b_law_pick : Binds K A.d_law_pick ["_law_flow_here", "_law_lot"] []
  F_law_power : Fun K "_law_power" "_law_power" s_law_power A.a_law_power A.d_law_power
  g_law_power : mg "_law_power" = some (.ref A.a_law_power)
  b_law_power : Binds K A.d_law_power ["_law_base", "_law_many"] []
  F_law_same : Fun K "_law_same" "_law_same" s_law_same A.a_law_same A.d_law_same
  g_law_same : mg "_law_same" = some (.ref A.a_law_same)
  b_law_same : Binds K A.d_law_same ["_law_found", "_law_due"] []
  F_Walk_start : Fun K "start" "Walk.start" s_Walk_start A.a_Walk_start A.d_Walk_start
  me_Walk_start : Meth K A.k_Walk "start" A.a_Walk_start
  b_Walk_start : Binds K A.d_Walk_start ["self"] []
  F_law_undone : Fun K "_law_undone" "_law_undone" s_law_undone A.a_law_undone A.d_law_undone
  g_law_undone : mg "_law_undone" = some (.ref A.a_law_undone)
  b_law_undone : Binds K A.d_law_undone ["_law_step"] []
  F_law_back : Fun K "_law_back" "_law_back" s_law_back A.a_law_back A.d_law_back
  g_law_back : mg "_law_back" = some (.ref A.a_law_back)
  b_law_back : Binds K A.d_law_back ["_law_row"] []
  F_law_join : Fun K "_law_join" "_law_join" s_law_join A.a_law_join A.d_law_join
  g_law_join : mg "_law_join" = some (.ref A.a_law_join)
  b_law_join : Binds K A.d_law_join ["_law_row", "_law_other"] []
  F_law_road : Fun K "_law_road" "_law_road" s_law_road A.a_law_road A.d_law_road
  g_law_road : mg "_law_road" = some (.ref A.a_law_road)
  b_law_road : Binds K A.d_law_road ["_law_m", "_law_name"] []
  F_law_rule : Fun K "_law_rule" "_law_rule" s_law_rule A.a_law_rule A.d_law_rule
  g_law_rule : mg "_law_rule" = some (.ref A.a_law_rule)
  b_law_rule : Binds K A.d_law_rule ["_law_m", "_law_step"] []
  F_law_settled : Fun K "_law_settled" "_law_settled" s_law_settled A.a_law_settled A.d_law_settled
  g_law_settled : mg "_law_settled" = some (.ref A.a_law_settled)
  b_law_settled : Binds K A.d_law_settled ["_law_m", "_law_row"] []
  F_law_sees : Fun K "_law_sees" "_law_sees" s_law_sees A.a_law_sees A.d_law_sees
  g_law_sees : mg "_law_sees" = some (.ref A.a_law_sees)
  b_law_sees : Binds K A.d_law_sees ["_law_m", "_law_told", "_law_one_row", "_law_other_start", "_law_other_row"] []
  F_Web_dinit : Fun K "__init__" "Web.__init__" s_Web_dinit A.a_Web_dinit A.d_Web_dinit
  mk_Web : Mk K A.k_Web A.a_Web_dinit
  b_Web_dinit : Binds K A.d_Web_dinit ["self"] []
  F_is_name : Fun K "is_name" "is_name" s_is_name A.a_is_name A.d_is_name
  g_is_name : mg "is_name" = some (.ref A.a_is_name)
  b_is_name : Binds K A.d_is_name ["text"] []
  F_Web_need_new : Fun K "need_new" "Web.need_new" s_Web_need_new A.a_Web_need_new A.d_Web_need_new
  me_Web_need_new : Meth K A.k_Web "need_new" A.a_Web_need_new
  b_Web_need_new : Binds K A.d_Web_need_new ["self", "name"] []
  F_Web_turned : Fun K "turned" "Web.turned" s_Web_turned A.a_Web_turned A.d_Web_turned
  me_Web_turned : Meth K A.k_Web "turned" A.a_Web_turned
  b_Web_turned : Binds K A.d_Web_turned ["self", "places", "roads"] []
  F_is_whole : Fun K "is_whole" "is_whole" s_is_whole A.a_is_whole A.d_is_whole
  g_is_whole : mg "is_whole" = some (.ref A.a_is_whole)
  b_is_whole : Binds K A.d_is_whole ["thing", "low", "high"] []
  F_need_turns : Fun K "need_turns" "need_turns" s_need_turns A.a_need_turns A.d_need_turns
  g_need_turns : mg "need_turns" = some (.ref A.a_need_turns)
  b_need_turns : Binds K A.d_need_turns ["number"] []
  F_Web_with_passage : Fun K "with_passage" "Web.with_passage" s_Web_with_passage A.a_Web_with_passage A.d_Web_with_passage
  me_Web_with_passage : Meth K A.k_Web "with_passage" A.a_Web_with_passage
  F_Web_with_yard : Fun K "with_yard" "Web.with_yard" s_Web_with_yard A.a_Web_with_yard A.d_Web_with_yard
  me_Web_with_yard : Meth K A.k_Web "with_yard" A.a_Web_with_yard
  b_Web_with_yard : Binds K A.d_Web_with_yard ["self", "name"] []
  F_law_web : Fun K "_law_web" "_law_web" s_law_web A.a_law_web A.d_law_web
  g_law_web : mg "_law_web" = some (.ref A.a_law_web)
  b_law_web : Binds K A.d_law_web ["_law_m"] []
  F_Walk_web : Fun K "web" "Walk.web" s_Walk_web A.a_Walk_web A.d_Walk_web
  me_Walk_web : Meth K A.k_Walk "web" A.a_Walk_web
  b_Walk_web : Binds K A.d_Walk_web ["self"] []
  F_undone : Fun K "undone" "undone" s_undone A.a_undone A.d_undone
  g_undone : mg "undone" = some (.ref A.a_undone)
  b_undone : Binds K A.d_undone ["step"] []
  F_back_row : Fun K "back_row" "back_row" s_back_row A.a_back_row A.d_back_row
  g_back_row : mg "back_row" = some (.ref A.a_back_row)
  b_back_row : Binds K A.d_back_row ["row"] []
  F_Walk_is_home : Fun K "is_home" "Walk.is_home" s_Walk_is_home A.a_Walk_is_home A.d_Walk_is_home
  me_Walk_is_home : Meth K A.k_Walk "is_home" A.a_Walk_is_home
  b_Walk_is_home : Binds K A.d_Walk_is_home ["self"] []
  F_Web_rule : Fun K "rule" "Web.rule" s_Web_rule A.a_Web_rule A.d_Web_rule
  me_Web_rule : Meth K A.k_Web "rule" A.a_Web_rule
  b_Web_rule : Binds K A.d_Web_rule ["self", "step"] []
  F_parted : Fun K "parted" "parted" s_parted A.a_parted A.d_parted
  g_parted : mg "parted" = some (.ref A.a_parted)
  b_parted : Binds K A.d_parted ["number", "by"] []
  F_settled : Fun K "settled" "settled" s_settled A.a_settled A.d_settled
  g_settled : mg "settled" = some (.ref A.a_settled)
  b_settled : Binds K A.d_settled ["web", "row"] []
  F_settled_walk : Fun K "settled_walk" "settled_walk" s_settled_walk A.a_settled_walk A.d_settled_walk
  g_settled_walk : mg "settled_walk" = some (.ref A.a_settled_walk)
  b_settled_walk : Binds K A.d_settled_walk ["walk"] []
  F_cut_round : Fun K "cut_round" "cut_round" s_cut_round A.a_cut_round A.d_cut_round
  g_cut_round : mg "cut_round" = some (.ref A.a_cut_round)
  b_cut_round : Binds K A.d_cut_round ["walk"] []
  F_Web_steps_from : Fun K "steps_from" "Web.steps_from" s_Web_steps_from A.a_Web_steps_from A.d_Web_steps_from
  me_Web_steps_from : Meth K A.k_Web "steps_from" A.a_Web_steps_from
  b_Web_steps_from : Binds K A.d_Web_steps_from ["self", "yard"] []
  F_joined_row : Fun K "joined_row" "joined_row" s_joined_row A.a_joined_row A.d_joined_row
  g_joined_row : mg "joined_row" = some (.ref A.a_joined_row)
  b_joined_row : Binds K A.d_joined_row ["row", "other"] []
  F_followed : Fun K "followed" "followed" s_followed A.a_followed A.d_followed
  g_followed : mg "followed" = some (.ref A.a_followed)
  b_followed : Binds K A.d_followed ["web", "yard", "turns", "limit"] []
  F_Web_deq : Fun K "__eq__" "Web.__eq__" s_Web_deq A.a_Web_deq A.d_Web_deq
  me_Web_deq : Meth K A.k_Web "__eq__" A.a_Web_deq
  b_Web_deq : Binds K A.d_Web_deq ["self", "other"] []
  F_need_alike_webs : Fun K "need_alike_webs" "need_alike_webs" s_need_alike_webs A.a_need_alike_webs A.d_need_alike_webs
  g_need_alike_webs : mg "need_alike_webs" = some (.ref A.a_need_alike_webs)
  b_need_alike_webs : Binds K A.d_need_alike_webs ["one", "other"] []
  F_put_together : Fun K "put_together" "put_together" s_put_together A.a_put_together A.d_put_together
  g_put_together : mg "put_together" = some (.ref A.a_put_together)
  b_put_together : Binds K A.d_put_together ["rows"] []
  F_row_of : Fun K "row_of" "row_of" s_row_of A.a_row_of A.d_row_of
  g_row_of : mg "row_of" = some (.ref A.a_row_of)
  b_row_of : Binds K A.d_row_of ["pairs", "here"] []
  F_plain_from : Fun K "plain_from" "plain_from" s_plain_from A.a_plain_from A.d_plain_from
  g_plain_from : mg "plain_from" = some (.ref A.a_plain_from)
  b_plain_from : Binds K A.d_plain_from ["web", "start", "rows"] []
  F_yard_behind : Fun K "yard_behind" "yard_behind" s_yard_behind A.a_yard_behind A.d_yard_behind
  g_yard_behind : mg "yard_behind" = some (.ref A.a_yard_behind)
  b_yard_behind : Binds K A.d_yard_behind ["walk", "begun"] []
  F_stay_of : Fun K "stay_of" "stay_of" s_stay_of A.a_stay_of A.d_stay_of
  g_stay_of : mg "stay_of" = some (.ref A.a_stay_of)
  F_law : Fun K "law" "law" s_law A.a_law A.d_law
  g_law : mg "law" = some (.ref A.a_law)
  b_law : Binds K A.d_law ["_law_script"] []
  kb0_Web_with_passage : KBn K A.d_Web_with_passage ["self", "name", "begin", "end", "here", "there"] 4 ["there", "here"] (fun us ws => us ++ pickL [1, 0] ws) (fun vs zs => vs ++ pickL [1, 0] zs)
  kf0_stay_of : ∃ g, KBn K A.d_stay_of ["one", "other", "limit"] 2 [] g (fun vs zs => vs ++ pickL [0] (([.int 300] : List V) ++ zs))
  kf1_stay_of : ∃ g, KBn K A.d_stay_of ["one", "other", "limit"] 2 ["limit"] g (fun vs zs => vs ++ pickL [0] (([] : List V) ++ zs))
  g_Walk : mg "Walk" = some (.ref A.k_Walk)
  cF_Walk : ClsF K A.k_Walk
  g_Web : mg "Web" = some (.ref A.k_Web)
  cF_Web : ClsF K A.k_Web
  eq_Web : EqC K A.k_Web A.a_Web_deq
  na_Walk_over : NoAttr K A.k_Walk "over"
  na_Walk_line : NoAttr K A.k_Walk "line"
  na_Walk_spots : NoAttr K A.k_Walk "spots"
  na_Web_places : NoAttr K A.k_Web "places"
  na_Web_roads : NoAttr K A.k_Web "roads"
  cb : clsB K (clOf A) = true
  hn : PySem.W.specialIn K (.builtin "object.__class__") "__get__" = some (some (.builtin "getset_descriptor.__get__"))
  htk : PySem.W.takesIn K (.builtin "object.__class__") = some true
  z_len : mg "len" = none
  z_tuple : mg "tuple" = none
  z_enumerate : mg "enumerate" = none
  z_isinstance : mg "isinstance" = none
  z_abs : mg "abs" = none
  z_list : mg "list" = none
  z_range : mg "range" = none
  z_bool : mg "bool" = none
  z_int : mg "int" = none
  z_str : mg "str" = none
  z_all : mg "all" = none
  z_zip : mg "zip" = none
  c_MOST_TERMS : ∃ t, mg "MOST_TERMS" = some (.int 60 t)
  c_DEEPEST : ∃ t, mg "DEEPEST" = some (.int 6 t)
  c_GREATEST : ∃ t, mg "GREATEST" = some (.int 1000000000000000000000000000000000000000000000000000000000000 t)
  c_LONGEST : ∃ t, mg "LONGEST" = some (.int 200 t)
  c_MOST_TURNS : ∃ t, mg "MOST_TURNS" = some (.int 99 t)
  c_MOST_PASSAGES : ∃ t, mg "MOST_PASSAGES" = some (.int 8 t)
  c_MOST_YARDS : ∃ t, mg "MOST_YARDS" = some (.int 6 t)
  c_LOOKED : ∃ t, mg "LOOKED" = some (.int 300 t)
  c_MOST_WALKS : ∃ t, mg "MOST_WALKS" = some (.int 24 t)
  c_MOST_TIMES : ∃ t, mg "MOST_TIMES" = some (.int 999 t)
  c_LETTERS : ∃ t, mg "LETTERS" = some (.str "abcdefghijklmnopqrstuvwxyz" t)
  c_LONGEST_NAME : ∃ t, mg "LONGEST_NAME" = some (.int 8 t)
  c_MOST_LOOKED : ∃ t, mg "MOST_LOOKED" = some (.int 1000 t)
theorem Tx.isi {K : PySem.W.Frag} {mg : Str → Option Value} {A : Ad} (T : Tx K mg A) : ClsOk (Gx K A) := cls_of T.cb (fun p hp => by
  simp only [clOf, List.mem_cons, List.not_mem_nil, or_false] at hp
  rcases hp with rfl | rfl
  · exact T.cF_Walk
  · exact T.cF_Web) T.hn T.htk
theorem Tx.no_over {K : PySem.W.Frag} {mg : Str → Option Value} {A : Ad} (T : Tx K mg A) : ∀ c ∈ ["Walk"], ∀ C, (Gx K A).cl c = some C → NoAttr (Gx K A).K C "over" := by
  intro c hc C h
  simp only [List.mem_cons, List.not_mem_nil, or_false] at hc
  rcases hc with rfl
  · obtain rfl : A.k_Walk = C := Option.some.inj h
    exact T.na_Walk_over
theorem Tx.no_line {K : PySem.W.Frag} {mg : Str → Option Value} {A : Ad} (T : Tx K mg A) : ∀ c ∈ ["Walk"], ∀ C, (Gx K A).cl c = some C → NoAttr (Gx K A).K C "line" := by
  intro c hc C h
  simp only [List.mem_cons, List.not_mem_nil, or_false] at hc
  rcases hc with rfl
  · obtain rfl : A.k_Walk = C := Option.some.inj h
    exact T.na_Walk_line
theorem Tx.no_spots {K : PySem.W.Frag} {mg : Str → Option Value} {A : Ad} (T : Tx K mg A) : ∀ c ∈ ["Walk"], ∀ C, (Gx K A).cl c = some C → NoAttr (Gx K A).K C "spots" := by
  intro c hc C h
  simp only [List.mem_cons, List.not_mem_nil, or_false] at hc
  rcases hc with rfl
  · obtain rfl : A.k_Walk = C := Option.some.inj h
    exact T.na_Walk_spots
theorem Tx.no_places {K : PySem.W.Frag} {mg : Str → Option Value} {A : Ad} (T : Tx K mg A) : ∀ c ∈ ["Web"], ∀ C, (Gx K A).cl c = some C → NoAttr (Gx K A).K C "places" := by
  intro c hc C h
  simp only [List.mem_cons, List.not_mem_nil, or_false] at hc
  rcases hc with rfl
  · obtain rfl : A.k_Web = C := Option.some.inj h
    exact T.na_Web_places
theorem Tx.no_roads {K : PySem.W.Frag} {mg : Str → Option Value} {A : Ad} (T : Tx K mg A) : ∀ c ∈ ["Web"], ∀ C, (Gx K A).cl c = some C → NoAttr (Gx K A).K C "roads" := by
  intro c hc C h
  simp only [List.mem_cons, List.not_mem_nil, or_false] at hc
  rcases hc with rfl
  · obtain rfl : A.k_Web = C := Option.some.inj h
    exact T.na_Web_roads
section
variable {P : Program} {w : World} {K : PySem.W.Frag} {mg : Str → Option Value} {base : Heap} {A : Ad}
theorem ok_Web_need_yard (T : Tx K mg A) : FnOk P w K mg base (L2.CX P w) 1 A.a_Web_need_yard A.d_Web_need_yard ["self", "name"] (spF (Gx K A) 2 m_Web_need_yard) := by
  refine fn_ok false T.F_Web_need_yard sc_Web_need_yard (fun cdv A1 outer s1 H1 E1 hr => ?_)
  exact (db_one (ds_if (dt_cmp do_notIn (de_var 1) (de_fld ["Web"] T.isi (de_var 0) T.no_places)) (db_one ds_stop) db_nil))
theorem ok_need_form (T : Tx K mg A) : FnOk P w K mg base (L2.CX P w) 1 A.a_need_form A.d_need_form ["row"] (spF (Gx K A) 1 m_need_form) := by
  refine fn_ok false T.F_need_form sc_need_form (fun cdv A1 outer s1 H1 E1 hr => ?_)
  exact (db_cons (ds_for fn_po (di_enum2 T.z_enumerate (da_cons (de_var 0) da_nil)) (dg_tup (dgs_cons (dg_name sc_need_form.nd rfl (by first | exact Or.inl rfl | exact Or.inr rfl)) (dgs_cons (dg_name sc_need_form.nd rfl (by first | exact Or.inl rfl | exact Or.inr rfl)) dgs_nil))) (db_one (ds_if (dt_cmp (do_ne hr.units) (de_callB (dc_isi T.isi) rfl T.z_isinstance boot_isinstance (da_cons (de_var 2) (da_cons (de_ty rfl T.z_tuple boot_tuple) da_nil))) (de_cmp (do_eq hr.units) (de_op do_mod (de_var 1) de_int) de_int)) (db_one ds_stop) db_nil)))
  (db_one (ds_if (dt_cmp (do_eq hr.units) (de_op do_mod (de_callB (dc_len) rfl T.z_len boot_len (da_cons (de_var 0) da_nil)) de_int) de_int) (db_one ds_stop) db_nil)))
theorem ok_Web_road_of (T : Tx K mg A) : FnOk P w K mg base (L2.CX P w) 1 A.a_Web_road_of A.d_Web_road_of ["self", "name"] (spF (Gx K A) 2 m_Web_road_of) := by
  refine fn_ok false T.F_Web_road_of sc_Web_road_of (fun cdv A1 outer s1 H1 E1 hr => ?_)
  exact (db_cons (ds_for fn_po (di_seq (de_fld ["Web"] T.isi (de_var 0) T.no_roads)) (dg_name sc_Web_road_of.nd rfl (by first | exact Or.inl rfl | exact Or.inr rfl)) (db_one (ds_if (dt_cmp (do_eq hr.units) (de_ix (de_var 2) de_int) (de_var 1)) (db_one (ds_ret (de_var 2))) db_nil)))
  (db_one ds_stop))
theorem ok_Web_turned_so (T : Tx K mg A) : FnOk P w K mg base (L2.CX P w) 2 A.a_Web_turned_so A.d_Web_turned_so ["self", "step", "at"] (spF (Gx K A) 3 m_Web_turned_so) := by
  refine fn_ok false T.F_Web_turned_so sc_Web_turned_so (fun cdv A1 outer s1 H1 E1 hr => ?_)
  exact (db_cons (ds_asg (de_var 1) (dg_tup (dgs_cons (dg_name sc_Web_turned_so.nd rfl (by first | exact Or.inl rfl | exact Or.inr rfl)) (dgs_cons (dg_name sc_Web_turned_so.nd rfl (by first | exact Or.inl rfl | exact Or.inr rfl)) dgs_nil))))
  (db_cons (ds_set (i := 5) sc_Web_turned_so.nd (de_meth (c := "Web") T.isi rfl (de_var 0) (da_cons (de_var 3) da_nil) T.me_Web_road_of (ok_Web_road_of T) (hr.mono (by decide)) T.b_Web_road_of fn_tk))
  (db_cons (ds_if (dt_cmp do_notIn (de_var 4) (de_tup (da_cons de_int (da_cons (de_neg de_int) da_nil)))) (db_one ds_stop) db_nil)
  (db_one (ds_ret (de_if (dt_cmp (do_eq hr.units) (de_var 4) de_int) (de_tup (da_cons (de_ix (de_var 5) (de_var 2)) (da_cons (de_ix (de_var 5) (de_op do_add (de_var 2) de_int)) da_nil))) (de_tup (da_cons (de_ix (de_var 5) (de_op do_add (de_var 2) de_int)) (da_cons (de_ix (de_var 5) (de_var 2)) da_nil)))))))))
theorem ok_Web_ends (T : Tx K mg A) : FnOk P w K mg base (L2.CX P w) 3 A.a_Web_ends A.d_Web_ends ["self", "step"] (spF (Gx K A) 2 m_Web_ends) := by
  refine fn_ok false T.F_Web_ends sc_Web_ends (fun cdv A1 outer s1 H1 E1 hr => ?_)
  exact (db_one (ds_ret (de_meth (c := "Web") T.isi rfl (de_var 0) (da_cons (de_var 1) (da_cons de_int da_nil)) T.me_Web_turned_so (ok_Web_turned_so T) (hr.mono (by decide)) T.b_Web_turned_so fn_tk)))
theorem ok_yards_on (T : Tx K mg A) : FnOk P w K mg base (L2.CX P w) 4 A.a_yards_on A.d_yards_on ["web", "start", "row"] (spF (Gx K A) 3 m_yards_on) := by
  refine fn_ok false T.F_yards_on sc_yards_on (fun cdv A1 outer s1 H1 E1 hr => ?_)
  exact (db_cons (ds_set (i := 3) sc_yards_on.nd (de_lstR (da_cons (de_var 1) da_nil)))
  (db_cons (ds_for fn_po (di_enum2 T.z_enumerate (da_cons (de_var 2) da_nil)) (dg_tup (dgs_cons (dg_name sc_yards_on.nd rfl (by first | exact Or.inl rfl | exact Or.inr rfl)) (dgs_cons (dg_name sc_yards_on.nd rfl (by first | exact Or.inl rfl | exact Or.inr rfl)) dgs_nil))) (db_one (ds_if (dt_cmp (do_eq hr.units) (de_op do_mod (de_var 4) de_int) de_int) (db_one (ds_if (dt_cmp do_gt (de_callB (dc_abs) rfl T.z_abs boot_abs (da_cons (de_var 5) da_nil)) (de_gintE rfl T.c_GREATEST)) (db_one ds_stop) db_nil)) (db_cons (ds_asg (de_meth (c := "Web") T.isi rfl (de_var 0) (da_cons (de_var 5) da_nil) T.me_Web_ends (ok_Web_ends T) (hr.mono (by decide)) T.b_Web_ends fn_tk) (dg_tup (dgs_cons (dg_name sc_yards_on.nd rfl (by first | exact Or.inl rfl | exact Or.inr rfl)) (dgs_cons (dg_name sc_yards_on.nd rfl (by first | exact Or.inl rfl | exact Or.inr rfl)) dgs_nil))))
  (db_cons (ds_if (dt_cmp (do_ne hr.units) (de_var 6) (de_ix (de_var 3) (de_neg de_int))) (db_one ds_stop) db_nil)
  (db_one (ds_expr (de_append (de_var 3) (de_var 7)))))))))
  (db_one (ds_ret (de_var 3)))))
theorem ok_Walk_dinit (T : Tx K mg A) : FnOk P w K mg base (L2.CX P w) 5 A.a_Walk_dinit A.d_Walk_dinit ["self", "web", "start", "row"] (spF (Gx K A) 4 m_Walk_dinit) := by
  refine fn_okD false T.F_Walk_dinit sc_Walk_dinit (fun cdv A1 outer s1 H1 E1 hr => ?_)
  exact (db_cons (ds_expr (de_meth (c := "Web") T.isi rfl (de_var 1) (da_cons (de_var 2) da_nil) T.me_Web_need_yard (ok_Web_need_yard T) (hr.mono (by decide)) T.b_Web_need_yard fn_tk))
  (db_cons (ds_if (dt_cmp do_gt (de_callB (dc_len) rfl T.z_len boot_len (da_cons (de_var 3) da_nil)) (de_op do_add (de_op do_mul de_int (de_gintE rfl T.c_LONGEST)) de_int)) (db_one ds_stop) db_nil)
  (db_cons (ds_expr (de_call (ok_need_form T) (hr.mono (by decide)) T.g_need_form T.F_need_form.kp T.b_need_form fn_tk (da_cons (de_var 3) da_nil)))
  (db_cons (ds_fld ["Walk"] T.isi (de_var 0) (de_var 1) T.no_over)
  (db_cons (ds_fld ["Walk"] T.isi (de_var 0) (de_callTy (dc_tuple) rfl T.z_tuple boot_tuple (da_cons (de_var 3) da_nil)) T.no_line)
  (db_one (ds_fld ["Walk"] T.isi (de_var 0) (de_call (ok_yards_on T) (hr.mono (by decide)) T.g_yards_on T.F_yards_on.kp T.b_yards_on fn_tk (da_cons (de_var 1) (da_cons (de_var 2) (da_cons (de_var 3) da_nil)))) T.no_spots)))))))
theorem ok_Walk_row (T : Tx K mg A) : FnOk P w K mg base (L2.CX P w) 1 A.a_Walk_row A.d_Walk_row ["self"] (spF (Gx K A) 1 m_Walk_row) := by
  refine fn_ok false T.F_Walk_row sc_Walk_row (fun cdv A1 outer s1 H1 E1 hr => ?_)
  exact (db_one (ds_ret (de_callTy (dc_list) rfl T.z_list boot_list (da_cons (de_fld ["Walk"] T.isi (de_var 0) T.no_line) da_nil))))
theorem ok_law_draw (T : Tx K mg A) : FnOk P w K mg base (L2.CX P w) 1 A.a_law_draw A.d_law_draw ["_law_flow_here", "_law_size"] (spF (Gx K A) 2 m_law_draw) := by
  refine fn_ok false T.F_law_draw sc_law_draw (fun cdv A1 outer s1 H1 E1 hr => ?_)
  exact (db_cons (ds_if (dt_cmp do_gt (de_ix (de_var 0) de_int) de_int) (db_cons (ds_set (i := 2) sc_law_draw.nd (de_op do_mod (de_ix (de_var 0) de_int) (de_var 1)))
  (db_cons (ds_asg (de_op do_div (de_ix (de_var 0) de_int) (de_var 1)) (dg_sub (de_var 0) de_int))
  (db_one (ds_ret (de_var 2))))) db_nil)
  (db_cons (ds_set (i := 3) sc_law_draw.nd de_int)
  (db_cons (ds_if (dt_cmp do_lt (de_ix (de_var 0) de_int) (de_callB (dc_len) rfl T.z_len boot_len (da_cons (de_ix (de_var 0) de_int) da_nil))) (db_one (ds_set (i := 3) sc_law_draw.nd (de_ix (de_ix (de_var 0) de_int) (de_ix (de_var 0) de_int)))) db_nil)
  (db_cons (ds_asg (de_op do_add (de_ix (de_var 0) de_int) de_int) (dg_sub (de_var 0) de_int))
  (db_cons (ds_if (dt_cmp do_ge (de_callB (dc_abs) rfl T.z_abs boot_abs (da_cons (de_var 3) da_nil)) (de_op do_pow de_int de_int)) (db_cons (ds_asg (de_op do_div (de_callB (dc_abs) rfl T.z_abs boot_abs (da_cons (de_var 3) da_nil)) (de_var 1)) (dg_sub (de_var 0) de_int))
  (db_one (ds_ret (de_op do_mod (de_callB (dc_abs) rfl T.z_abs boot_abs (da_cons (de_var 3) da_nil)) (de_var 1))))) db_nil)
  (db_cons (ds_set (i := 4) sc_law_draw.nd (de_op do_add (de_op do_add (de_op do_pow (de_ix (de_var 0) de_int) de_int) (de_op do_mul (de_ix (de_var 0) de_int) de_int)) (de_op do_mul (de_ix (de_var 0) de_int) de_int)))
  (db_cons (ds_set (i := 4) sc_law_draw.nd (de_op do_mod (de_op do_add (de_var 4) (de_op do_mul (de_op do_mod (de_var 3) de_int) de_int)) de_int))
  (db_cons (ds_asg (de_var 4) (dg_sub (de_var 0) de_int))
  (db_one (ds_ret (de_op do_mod (de_op do_add (de_op do_div (de_var 4) de_int) (de_op do_mul (de_op do_mod (de_var 4) de_int) de_int)) (de_var 1))))))))))))
theorem ok_law_flow (T : Tx K mg A) : FnOk P w K mg base (L2.CX P w) 1 A.a_law_flow A.d_law_flow ["_law_script"] (spF (Gx K A) 1 m_law_flow) := by
  refine fn_ok true T.F_law_flow sc_law_flow (fun cdv A1 outer s1 H1 E1 hr => ?_)
  exact (db_one (ds_ret (de_lstR (da_cons (de_callTy (dc_list) rfl T.z_list boot_list (da_cons (de_sl (de_var 0) dp_none (dp_some de_int)) da_nil)) (da_cons de_int (da_cons de_int (da_cons de_int da_nil)))))))
theorem ok_law_pick (T : Tx K mg A) : FnOk P w K mg base (L2.CX P w) 2 A.a_law_pick A.d_law_pick ["_law_flow_here", "_law_lot"] (spF (Gx K A) 2 m_law_pick) := by
  refine fn_ok false T.F_law_pick sc_law_pick (fun cdv A1 outer s1 H1 E1 hr => ?_)
  exact (db_one (ds_ret (de_ix (de_var 1) (de_call (ok_law_draw T) (hr.mono (by decide)) T.g_law_draw T.F_law_draw.kp T.b_law_draw fn_tk (da_cons (de_var 0) (da_cons (de_callB (dc_len) rfl T.z_len boot_len (da_cons (de_var 1) da_nil)) da_nil))))))
theorem ok_law_power (T : Tx K mg A) : FnOk P w K mg base (L2.CX P w) 1 A.a_law_power A.d_law_power ["_law_base", "_law_many"] (spF (Gx K A) 2 m_law_power) := by
  refine fn_ok false T.F_law_power sc_law_power (fun cdv A1 outer s1 H1 E1 hr => ?_)
  exact (db_cons (ds_set (i := 2) sc_law_power.nd de_int)
  (db_cons (ds_for fn_po (di_range1 T.z_range (da_cons (de_var 1) da_nil)) (dg_name sc_law_power.nd rfl (by first | exact Or.inl rfl | exact Or.inr rfl)) (db_one (ds_set (i := 2) sc_law_power.nd (de_op do_mul (de_var 2) (de_var 0)))))
  (db_one (ds_ret (de_var 2)))))
theorem ok_law_same (T : Tx K mg A) (n : Nat) : FnOk P w K mg base (L2.CX P w) (n + 1) A.a_law_same A.d_law_same ["_law_found", "_law_due"] (spF (Gx K A) 2 (m_law_same n)) := by
  induction n with
  | zero => exact fn_stuck
  | succ n rc =>
    have hk : n + 1 ≤ n + 1 := Nat.le_refl _
    refine fn_ok false T.F_law_same sc_law_same (fun cdv A1 outer s1 H1 E1 hr => ?_)
    exact (db_cons (ds_if (dt_truth (de_callB (dc_isi T.isi) rfl T.z_isinstance boot_isinstance (da_cons (de_var 1) (da_cons (de_ty rfl T.z_bool boot_bool) da_nil)))) (db_one (ds_ret (de_and (de_callB (dc_isi T.isi) rfl T.z_isinstance boot_isinstance (da_cons (de_var 0) (da_cons (de_ty rfl T.z_bool boot_bool) da_nil))) (de_one (de_cmp (do_eq hr.units) (de_var 0) (de_var 1)))))) db_nil)
  (db_cons (ds_if (dt_cmp do_is (de_var 1) de_non) (db_one (ds_ret (de_cmp do_is (de_var 0) de_non))) db_nil)
  (db_cons (ds_if (dt_truth (de_callB (dc_isi T.isi) rfl T.z_isinstance boot_isinstance (da_cons (de_var 1) (da_cons (de_ty rfl T.z_int boot_int) da_nil)))) (db_one (ds_ret (de_and (de_callB (dc_isi T.isi) rfl T.z_isinstance boot_isinstance (da_cons (de_var 0) (da_cons (de_ty rfl T.z_int boot_int) da_nil))) (de_and (de_not (de_callB (dc_isi T.isi) rfl T.z_isinstance boot_isinstance (da_cons (de_var 0) (da_cons (de_ty rfl T.z_bool boot_bool) da_nil)))) (de_one (de_cmp (do_eq hr.units) (de_var 0) (de_var 1))))))) db_nil)
  (db_cons (ds_if (dt_truth (de_callB (dc_isi T.isi) rfl T.z_isinstance boot_isinstance (da_cons (de_var 1) (da_cons (de_ty rfl T.z_str boot_str) da_nil)))) (db_one (ds_ret (de_and (de_callB (dc_isi T.isi) rfl T.z_isinstance boot_isinstance (da_cons (de_var 0) (da_cons (de_ty rfl T.z_str boot_str) da_nil))) (de_one (de_cmp (do_eq hr.units) (de_var 0) (de_var 1)))))) db_nil)
  (db_cons (ds_if (dt_w (dw_or (dt_cmp (do_ne hr.units) (de_callB (dc_isi T.isi) rfl T.z_isinstance boot_isinstance (da_cons (de_var 1) (da_cons (de_ty rfl T.z_tuple boot_tuple) da_nil))) (de_callB (dc_isi T.isi) rfl T.z_isinstance boot_isinstance (da_cons (de_var 0) (da_cons (de_ty rfl T.z_tuple boot_tuple) da_nil)))) (dw_or1 (dt_cmp (do_ne hr.units) (de_callB (dc_isi T.isi) rfl T.z_isinstance boot_isinstance (da_cons (de_var 1) (da_cons (de_ty rfl T.z_list boot_list) da_nil))) (de_callB (dc_isi T.isi) rfl T.z_isinstance boot_isinstance (da_cons (de_var 0) (da_cons (de_ty rfl T.z_list boot_list) da_nil))))))) (db_one (ds_ret de_bl)) db_nil)
  (db_cons (ds_if (dt_w (dw_or (dt_not (dt_truth (de_callB (dc_isi T.isi) rfl T.z_isinstance boot_isinstance (da_cons (de_var 0) (da_cons (de_tup (da_cons (de_ty rfl T.z_tuple boot_tuple) (da_cons (de_ty rfl T.z_list boot_list) da_nil))) da_nil))))) (dw_or1 (dt_cmp (do_ne hr.units) (de_callB (dc_len) rfl T.z_len boot_len (da_cons (de_var 0) da_nil)) (de_callB (dc_len) rfl T.z_len boot_len (da_cons (de_var 1) da_nil)))))) (db_one (ds_ret de_bl)) db_nil)
  (db_one (ds_ret (de_callB (dc_all) rfl T.z_all boot_all (da_cons (de_lc [("_law_k", 2)] sc_law_same.nd (di_range1 T.z_range (da_cons (de_callB (dc_len) rfl T.z_len boot_len (da_cons (de_var 1) da_nil)) da_nil)) (blkOk_by (own := [("_law_k", 2)]) (N := ["_law_found", "_law_due", "_law_k"]) (sc := defScope s_law_same) (by decide +kernel)) (fun _ _ _ _ _ => (dgw_name sc_law_same.nd rfl (by first | exact Or.inl rfl | exact Or.inr rfl))) (fun _ _ _ _ _ => dts_nil) (fun _ _ _ _ _ => (de_call rc (hr.mono hk) T.g_law_same T.F_law_same.kp T.b_law_same takes0 (da_cons (de_ix (de_var 0) (de_var 2)) (da_cons (de_ix (de_var 1) (de_var 2)) da_nil))))) da_nil))))))))))
theorem ok_Walk_start (T : Tx K mg A) : FnOk P w K mg base (L2.CX P w) 1 A.a_Walk_start A.d_Walk_start ["self"] (spF (Gx K A) 1 m_Walk_start) := by
  refine fn_ok false T.F_Walk_start sc_Walk_start (fun cdv A1 outer s1 H1 E1 hr => ?_)
  exact (db_one (ds_ret (de_ix (de_fld ["Walk"] T.isi (de_var 0) T.no_spots) de_int)))
theorem ok_law_undone (T : Tx K mg A) : FnOk P w K mg base (L2.CX P w) 1 A.a_law_undone A.d_law_undone ["_law_step"] (spF (Gx K A) 1 m_law_undone) := by
  refine fn_ok false T.F_law_undone sc_law_undone (fun cdv A1 outer s1 H1 E1 hr => ?_)
  exact (db_one (ds_ret (de_tup (da_cons (de_ix (de_var 0) de_int) (da_cons (de_op do_sub de_int (de_ix (de_var 0) de_int)) da_nil)))))
theorem ok_law_back (T : Tx K mg A) : FnOk P w K mg base (L2.CX P w) 2 A.a_law_back A.d_law_back ["_law_row"] (spF (Gx K A) 1 m_law_back) := by
  refine fn_ok false T.F_law_back sc_law_back (fun cdv A1 outer s1 H1 E1 hr => ?_)
  exact (db_one (ds_ret (de_lc [("_law_thing", 1)] sc_law_back.nd (di_seq (de_rev (de_var 0))) (blkOk_by (own := [("_law_thing", 1)]) (N := ["_law_row", "_law_thing"]) (sc := defScope s_law_back) (by decide +kernel)) (fun _ _ _ _ _ => (dgw_name sc_law_back.nd rfl (by first | exact Or.inl rfl | exact Or.inr rfl))) (fun _ _ _ _ _ => dts_nil) (fun _ _ _ _ _ => (de_if (dt_truth (de_callB (dc_isi T.isi) rfl T.z_isinstance boot_isinstance (da_cons (de_var 1) (da_cons (de_ty rfl T.z_tuple boot_tuple) da_nil)))) (de_call (ok_law_undone T) (hr.mono (by decide)) T.g_law_undone T.F_law_undone.kp T.b_law_undone takes0 (da_cons (de_var 1) da_nil)) (de_op do_sub de_int (de_var 1)))))))
theorem ok_law_join (T : Tx K mg A) : FnOk P w K mg base (L2.CX P w) 1 A.a_law_join A.d_law_join ["_law_row", "_law_other"] (spF (Gx K A) 2 m_law_join) := by
  refine fn_ok false T.F_law_join sc_law_join (fun cdv A1 outer s1 H1 E1 hr => ?_)
  exact (db_one (ds_ret (de_op do_add (de_op do_add (de_sl (de_var 0) dp_none (dp_some (de_neg de_int))) (de_lst (da_cons (de_op do_add (de_ix (de_var 0) (de_neg de_int)) (de_ix (de_var 1) de_int)) da_nil))) (de_sl (de_var 1) (dp_some de_int) dp_none))))
theorem ok_law_road (T : Tx K mg A) : FnOk P w K mg base (L2.CX P w) 1 A.a_law_road A.d_law_road ["_law_m", "_law_name"] (spF (Gx K A) 2 m_law_road) := by
  refine fn_ok false T.F_law_road sc_law_road (fun cdv A1 outer s1 H1 E1 hr => ?_)
  exact (db_one (ds_ret (de_ix (de_lc [("_law_road_here", 2)] sc_law_road.nd (di_seq (de_getS hr.units (de_var 0) (fun _ _ => rfl))) (blkOk_by (own := [("_law_road_here", 2)]) (N := ["_law_m", "_law_name", "_law_road_here"]) (sc := defScope s_law_road) (by decide +kernel)) (fun _ _ _ _ _ => (dgw_name sc_law_road.nd rfl (by first | exact Or.inl rfl | exact Or.inr rfl))) (fun _ _ _ _ _ => (dts_one (dt_cmp (do_eq hr.units) (de_ix (de_var 2) de_int) (de_var 1)))) (fun _ _ _ _ _ => (de_var 2))) de_int)))
theorem ok_law_rule (T : Tx K mg A) : FnOk P w K mg base (L2.CX P w) 2 A.a_law_rule A.d_law_rule ["_law_m", "_law_step"] (spF (Gx K A) 2 m_law_rule) := by
  refine fn_ok false T.F_law_rule sc_law_rule (fun cdv A1 outer s1 H1 E1 hr => ?_)
  exact (db_cons (ds_set (i := 2) sc_law_rule.nd (de_call (ok_law_road T) (hr.mono (by decide)) T.g_law_road T.F_law_road.kp T.b_law_road fn_tk (da_cons (de_var 0) (da_cons (de_ix (de_var 1) de_int) da_nil))))
  (db_one (ds_ret (de_if (dt_cmp (do_eq hr.units) (de_ix (de_var 1) de_int) de_int) (de_tup (da_cons (de_ix (de_var 2) de_int) (da_cons (de_ix (de_var 2) de_int) da_nil))) (de_tup (da_cons (de_ix (de_var 2) de_int) (da_cons (de_ix (de_var 2) de_int) da_nil)))))))
theorem ok_law_settled (T : Tx K mg A) : FnOk P w K mg base (L2.CX P w) 3 A.a_law_settled A.d_law_settled ["_law_m", "_law_row"] (spF (Gx K A) 2 m_law_settled) := by
  refine fn_ok false T.F_law_settled sc_law_settled (fun cdv A1 outer s1 H1 E1 hr => ?_)
  exact (db_cons (ds_par (i := 2) (j := 3) sc_law_settled.nd (da_cons (de_lstR da_nil) (da_cons (de_ix (de_var 1) de_int) da_nil)))
  (db_cons (ds_for fn_po (di_range3 T.z_range (da_cons de_int (da_cons (de_callB (dc_len) rfl T.z_len boot_len (da_cons (de_var 1) da_nil)) (da_cons de_int da_nil)))) (dg_name sc_law_settled.nd rfl (by first | exact Or.inl rfl | exact Or.inr rfl)) (db_cons (ds_asg (de_call (ok_law_rule T) (hr.mono (by decide)) T.g_law_rule T.F_law_rule.kp T.b_law_rule fn_tk (da_cons (de_var 0) (da_cons (de_ix (de_var 1) (de_var 4)) da_nil))) (dg_tup (dgs_cons (dg_name sc_law_settled.nd rfl (by first | exact Or.inl rfl | exact Or.inr rfl)) (dgs_cons (dg_name sc_law_settled.nd rfl (by first | exact Or.inl rfl | exact Or.inr rfl)) dgs_nil))))
  (db_cons (ds_if (dt_w (dw_and (dt_cmp (do_ne hr.units) (de_var 2) (de_lst da_nil)) (dw_and (dt_cmp (do_eq hr.units) (de_ix (de_ix (de_var 2) (de_neg de_int)) de_int) (de_call (ok_law_undone T) (hr.mono (by decide)) T.g_law_undone T.F_law_undone.kp T.b_law_undone fn_tk (da_cons (de_ix (de_var 1) (de_var 4)) da_nil))) (dw_and1 (dt_cmp (do_eq hr.units) (de_op do_mod (de_var 3) (de_callB (dc_abs) rfl T.z_abs boot_abs (da_cons (de_var 5) da_nil))) de_int))))) (db_one (ds_set (i := 3) sc_law_settled.nd (de_op do_add (de_ix (de_pop (de_var 2)) de_int) (de_op do_mul (de_op do_div (de_var 3) (de_var 5)) (de_var 6))))) (db_cons (ds_set (i := 7) sc_law_settled.nd (de_op do_mod (de_var 3) (de_callB (dc_abs) rfl T.z_abs boot_abs (da_cons (de_var 5) da_nil))))
  (db_cons (ds_expr (de_append (de_var 2) (de_tup (da_cons (de_var 7) (da_cons (de_ix (de_var 1) (de_var 4)) da_nil)))))
  (db_one (ds_set (i := 3) sc_law_settled.nd (de_op do_mul (de_op do_div (de_op do_sub (de_var 3) (de_var 7)) (de_var 5)) (de_var 6)))))))
  (db_one (ds_set (i := 3) sc_law_settled.nd (de_op do_add (de_var 3) (de_ix (de_var 1) (de_op do_add (de_var 4) de_int))))))))
  (db_one (ds_ret (de_tup (da_cons (de_var 2) (da_cons (de_var 3) da_nil)))))))
theorem ok_law_sees (T : Tx K mg A) : FnOk P w K mg base (L2.CX P w) 4 A.a_law_sees A.d_law_sees ["_law_m", "_law_told", "_law_one_row", "_law_other_start", "_law_other_row"] (spF (Gx K A) 5 m_law_sees) := by
  refine fn_ok false T.F_law_sees sc_law_sees (fun cdv A1 outer s1 H1 E1 hr => ?_)
  exact (db_cons (ds_set (i := 5) sc_law_sees.nd (de_meth0 (c := "Walk") T.isi rfl (de_var 1) T.me_Walk_row (ok_Walk_row T) (hr.mono (by decide)) T.b_Walk_row fn_tk))
  (db_cons (ds_if (dt_cmp (do_ne hr.units) (de_meth0 (c := "Walk") T.isi rfl (de_var 1) T.me_Walk_start (ok_Walk_start T) (hr.mono (by decide)) T.b_Walk_start fn_tk) (de_var 3)) (db_one (ds_ret de_bl)) db_nil)
  (db_one (ds_ret (de_cmp (do_eq hr.units) (de_call (ok_law_settled T) (hr.mono (by decide)) T.g_law_settled T.F_law_settled.kp T.b_law_settled fn_tk (da_cons (de_var 0) (da_cons (de_call (ok_law_join T) (hr.mono (by decide)) T.g_law_join T.F_law_join.kp T.b_law_join fn_tk (da_cons (de_call (ok_law_join T) (hr.mono (by decide)) T.g_law_join T.F_law_join.kp T.b_law_join fn_tk (da_cons (de_var 5) (da_cons (de_var 2) da_nil))) (da_cons (de_call (ok_law_back T) (hr.mono (by decide)) T.g_law_back T.F_law_back.kp T.b_law_back fn_tk (da_cons (de_var 5) da_nil)) da_nil))) da_nil))) (de_call (ok_law_settled T) (hr.mono (by decide)) T.g_law_settled T.F_law_settled.kp T.b_law_settled fn_tk (da_cons (de_var 0) (da_cons (de_var 4) da_nil))))))))
theorem ok_Web_dinit (T : Tx K mg A) : FnOk P w K mg base (L2.CX P w) 1 A.a_Web_dinit A.d_Web_dinit ["self"] (spF (Gx K A) 1 m_Web_dinit) := by
  refine fn_ok false T.F_Web_dinit sc_Web_dinit (fun cdv A1 outer s1 H1 E1 hr => ?_)
  exact (db_cons (ds_fld ["Web"] T.isi (de_var 0) (de_tup da_nil) T.no_places)
  (db_one (ds_fld ["Web"] T.isi (de_var 0) (de_tup da_nil) T.no_roads)))
theorem ok_is_name (T : Tx K mg A) : FnOk P w K mg base (L2.CX P w) 1 A.a_is_name A.d_is_name ["text"] (spF (Gx K A) 1 m_is_name) := by
  refine fn_ok false T.F_is_name sc_is_name (fun cdv A1 outer s1 H1 E1 hr => ?_)
  exact (db_one (ds_ret (de_and (de_chain do_le do_le de_int (de_callB (dc_len) rfl T.z_len boot_len (da_cons (de_var 0) da_nil)) (de_gintE rfl T.c_LONGEST_NAME)) (de_one (de_callB (dc_all) rfl T.z_all boot_all (da_cons (de_lc [("sign", 1)] sc_is_name.nd (di_str (de_var 0)) (blkOk_by (own := [("sign", 1)]) (N := ["text", "sign"]) (sc := defScope s_is_name) (by decide +kernel)) (fun _ _ _ _ _ => (dgw_name sc_is_name.nd rfl (by first | exact Or.inl rfl | exact Or.inr rfl))) (fun _ _ _ _ _ => dts_nil) (fun _ _ _ _ _ => (de_cmp do_in (de_var 1) (de_gstrE rfl T.c_LETTERS)))) da_nil))))))
theorem ok_Web_need_new (T : Tx K mg A) : FnOk P w K mg base (L2.CX P w) 2 A.a_Web_need_new A.d_Web_need_new ["self", "name"] (spF (Gx K A) 2 m_Web_need_new) := by
  refine fn_ok false T.F_Web_need_new sc_Web_need_new (fun cdv A1 outer s1 H1 E1 hr => ?_)
  exact (db_cons (ds_if (dt_not (dt_truth (de_call (ok_is_name T) (hr.mono (by decide)) T.g_is_name T.F_is_name.kp T.b_is_name fn_tk (da_cons (de_var 1) da_nil)))) (db_one ds_stop) db_nil)
  (db_one (ds_if (dt_w (dw_or (dt_cmp do_in (de_var 1) (de_fld ["Web"] T.isi (de_var 0) T.no_places)) (dw_or1 (dt_cmp do_in (de_var 1) (de_lc [("road", 2)] sc_Web_need_new.nd (di_seq (de_fld ["Web"] T.isi (de_var 0) T.no_roads)) (blkOk_by (own := [("road", 2)]) (N := ["self", "name", "road"]) (sc := defScope s_Web_need_new) (by decide +kernel)) (fun _ _ _ _ _ => (dgw_name sc_Web_need_new.nd rfl (by first | exact Or.inl rfl | exact Or.inr rfl))) (fun _ _ _ _ _ => dts_nil) (fun _ _ _ _ _ => (de_ix (de_var 2) de_int))))))) (db_one ds_stop) db_nil)))
theorem ok_Web_turned (T : Tx K mg A) : FnOk P w K mg base (L2.CX P w) 3 A.a_Web_turned A.d_Web_turned ["self", "places", "roads"] (spF (Gx K A) 3 m_Web_turned) := by
  refine fn_ok false T.F_Web_turned sc_Web_turned (fun cdv A1 outer s1 H1 E1 hr => ?_)
  exact (db_cons (ds_set (i := 3) sc_Web_turned.nd (de_make0 (c := "Web") rfl T.mk_Web (ok_Web_dinit T) (hr.mono (by decide)) T.b_Web_dinit fn_tk T.g_Web))
  (db_cons (ds_asg (de_tup (da_cons (de_callTy (dc_tuple) rfl T.z_tuple boot_tuple (da_cons (de_var 1) da_nil)) (da_cons (de_callTy (dc_tuple) rfl T.z_tuple boot_tuple (da_cons (de_var 2) da_nil)) da_nil))) (dg_tup (dgs_cons (dg_fld ["Web"] T.isi (de_var 3) T.no_places) (dgs_cons (dg_fld ["Web"] T.isi (de_var 3) T.no_roads) dgs_nil))))
  (db_one (ds_ret (de_var 3)))))
theorem ok_is_whole (T : Tx K mg A) : FnOk P w K mg base (L2.CX P w) 1 A.a_is_whole A.d_is_whole ["thing", "low", "high"] (spF (Gx K A) 3 m_is_whole) := by
  refine fn_ok false T.F_is_whole sc_is_whole (fun cdv A1 outer s1 H1 E1 hr => ?_)
  exact (db_one (ds_ret (de_and (de_callB (dc_isi T.isi) rfl T.z_isinstance boot_isinstance (da_cons (de_var 0) (da_cons (de_ty rfl T.z_int boot_int) da_nil))) (de_and (de_not (de_callB (dc_isi T.isi) rfl T.z_isinstance boot_isinstance (da_cons (de_var 0) (da_cons (de_ty rfl T.z_bool boot_bool) da_nil)))) (de_one (de_chain do_le do_le (de_var 1) (de_var 0) (de_var 2)))))))
theorem ok_need_turns (T : Tx K mg A) : FnOk P w K mg base (L2.CX P w) 2 A.a_need_turns A.d_need_turns ["number"] (spF (Gx K A) 1 m_need_turns) := by
  refine fn_ok false T.F_need_turns sc_need_turns (fun cdv A1 outer s1 H1 E1 hr => ?_)
  exact (db_one (ds_if (dt_w (dw_or (dt_cmp (do_eq hr.units) (de_var 0) de_int) (dw_or1 (dt_not (dt_truth (de_call (ok_is_whole T) (hr.mono (by decide)) T.g_is_whole T.F_is_whole.kp T.b_is_whole fn_tk (da_cons (de_var 0) (da_cons (de_op do_sub de_int (de_gintE rfl T.c_MOST_TURNS)) (da_cons (de_gintE rfl T.c_MOST_TURNS) da_nil))))))))) (db_one ds_stop) db_nil))
theorem ok_Web_with_passage (T : Tx K mg A) : FnOk P w K mg base (L2.CX P w) 4 A.a_Web_with_passage A.d_Web_with_passage ["self", "name", "begin", "end", "here", "there"] (spF (Gx K A) 6 m_Web_with_passage) := by
  refine fn_ok false T.F_Web_with_passage sc_Web_with_passage (fun cdv A1 outer s1 H1 E1 hr => ?_)
  exact (db_cons (ds_expr (de_meth (c := "Web") T.isi rfl (de_var 0) (da_cons (de_var 1) da_nil) T.me_Web_need_new (ok_Web_need_new T) (hr.mono (by decide)) T.b_Web_need_new fn_tk))
  (db_cons (ds_for fn_po (di_seq (de_tup (da_cons (de_var 2) (da_cons (de_var 3) da_nil)))) (dg_name sc_Web_with_passage.nd rfl (by first | exact Or.inl rfl | exact Or.inr rfl)) (db_one (ds_expr (de_meth (c := "Web") T.isi rfl (de_var 0) (da_cons (de_var 6) da_nil) T.me_Web_need_yard (ok_Web_need_yard T) (hr.mono (by decide)) T.b_Web_need_yard fn_tk))))
  (db_cons (ds_for fn_po (di_seq (de_tup (da_cons (de_var 4) (da_cons (de_var 5) da_nil)))) (dg_name sc_Web_with_passage.nd rfl (by first | exact Or.inl rfl | exact Or.inr rfl)) (db_one (ds_expr (de_call (ok_need_turns T) (hr.mono (by decide)) T.g_need_turns T.F_need_turns.kp T.b_need_turns fn_tk (da_cons (de_var 7) da_nil)))))
  (db_cons (ds_if (dt_cmp do_ge (de_callB (dc_len) rfl T.z_len boot_len (da_cons (de_fld ["Web"] T.isi (de_var 0) T.no_roads) da_nil)) (de_gintE rfl T.c_MOST_PASSAGES)) (db_one ds_stop) db_nil)
  (db_one (ds_ret (de_meth (c := "Web") T.isi rfl (de_var 0) (da_cons (de_fld ["Web"] T.isi (de_var 0) T.no_places) (da_cons (de_op do_add (de_fld ["Web"] T.isi (de_var 0) T.no_roads) (de_tup (da_cons (de_tup (da_cons (de_var 1) (da_cons (de_var 2) (da_cons (de_var 3) (da_cons (de_var 4) (da_cons (de_var 5) da_nil)))))) da_nil))) da_nil)) T.me_Web_turned (ok_Web_turned T) (hr.mono (by decide)) T.b_Web_turned fn_tk)))))))
theorem ok_Web_with_yard (T : Tx K mg A) : FnOk P w K mg base (L2.CX P w) 4 A.a_Web_with_yard A.d_Web_with_yard ["self", "name"] (spF (Gx K A) 2 m_Web_with_yard) := by
  refine fn_ok false T.F_Web_with_yard sc_Web_with_yard (fun cdv A1 outer s1 H1 E1 hr => ?_)
  exact (db_cons (ds_expr (de_meth (c := "Web") T.isi rfl (de_var 0) (da_cons (de_var 1) da_nil) T.me_Web_need_new (ok_Web_need_new T) (hr.mono (by decide)) T.b_Web_need_new fn_tk))
  (db_cons (ds_if (dt_cmp do_ge (de_callB (dc_len) rfl T.z_len boot_len (da_cons (de_fld ["Web"] T.isi (de_var 0) T.no_places) da_nil)) (de_gintE rfl T.c_MOST_YARDS)) (db_one ds_stop) db_nil)
  (db_one (ds_ret (de_meth (c := "Web") T.isi rfl (de_var 0) (da_cons (de_op do_add (de_fld ["Web"] T.isi (de_var 0) T.no_places) (de_tup (da_cons (de_var 1) da_nil))) (da_cons (de_fld ["Web"] T.isi (de_var 0) T.no_roads) da_nil)) T.me_Web_turned (ok_Web_turned T) (hr.mono (by decide)) T.b_Web_turned fn_tk)))))
theorem ok_law_web (T : Tx K mg A) : FnOk P w K mg base (L2.CX P w) 5 A.a_law_web A.d_law_web ["_law_m"] (spF (Gx K A) 1 m_law_web) := by
  refine fn_ok false T.F_law_web sc_law_web (fun cdv A1 outer s1 H1 E1 hr => ?_)
  exact (db_cons (ds_set (i := 1) sc_law_web.nd (de_fz (de_make0 (c := "Web") rfl T.mk_Web (ok_Web_dinit T) (hr.mono (by decide)) T.b_Web_dinit fn_tk T.g_Web)))
  (db_cons (ds_for fn_po (di_seq (de_getS hr.units (de_var 0) (fun _ _ => rfl))) (dg_name sc_law_web.nd rfl (by first | exact Or.inl rfl | exact Or.inr rfl)) (db_one (ds_set (i := 1) sc_law_web.nd (de_meth (c := "Web") T.isi rfl (de_var 1) (da_cons (de_var 2) da_nil) T.me_Web_with_yard (ok_Web_with_yard T) (hr.mono (by decide)) T.b_Web_with_yard fn_tk))))
  (db_cons (ds_for fn_po (di_seq (de_getS hr.units (de_var 0) (fun _ _ => rfl))) (dg_tup (dgs_cons (dg_name sc_law_web.nd rfl (by first | exact Or.inl rfl | exact Or.inr rfl)) (dgs_cons (dg_name sc_law_web.nd rfl (by first | exact Or.inl rfl | exact Or.inr rfl)) (dgs_cons (dg_name sc_law_web.nd rfl (by first | exact Or.inl rfl | exact Or.inr rfl)) (dgs_cons (dg_name sc_law_web.nd rfl (by first | exact Or.inl rfl | exact Or.inr rfl)) (dgs_cons (dg_name sc_law_web.nd rfl (by first | exact Or.inl rfl | exact Or.inr rfl)) dgs_nil)))))) (db_one (ds_set (i := 1) sc_law_web.nd (de_methK (is := [1, 0]) (c := "Web") T.isi rfl (de_var 1) (da_cons (de_var 3) (da_cons (de_var 4) (da_cons (de_var 5) da_nil))) (dk_cons (de_var 7) (dk_cons (de_var 6) dk_nil)) T.me_Web_with_passage (ok_Web_with_passage T) (hr.mono (by decide)) T.kb0_Web_with_passage fn_tk))))
  (db_one (ds_ret (de_var 1))))))
theorem ok_Walk_web (T : Tx K mg A) : FnOk P w K mg base (L2.CX P w) 1 A.a_Walk_web A.d_Walk_web ["self"] (spF (Gx K A) 1 m_Walk_web) := by
  refine fn_ok false T.F_Walk_web sc_Walk_web (fun cdv A1 outer s1 H1 E1 hr => ?_)
  exact (db_one (ds_ret (de_fld ["Walk"] T.isi (de_var 0) T.no_over)))
theorem ok_undone (T : Tx K mg A) : FnOk P w K mg base (L2.CX P w) 1 A.a_undone A.d_undone ["step"] (spF (Gx K A) 1 m_undone) := by
  refine fn_ok false T.F_undone sc_undone (fun cdv A1 outer s1 H1 E1 hr => ?_)
  exact (db_cons (ds_asg (de_var 0) (dg_tup (dgs_cons (dg_name sc_undone.nd rfl (by first | exact Or.inl rfl | exact Or.inr rfl)) (dgs_cons (dg_name sc_undone.nd rfl (by first | exact Or.inl rfl | exact Or.inr rfl)) dgs_nil))))
  (db_one (ds_ret (de_tup (da_cons (de_var 1) (da_cons (de_op do_sub de_int (de_var 2)) da_nil))))))
theorem ok_back_row (T : Tx K mg A) : FnOk P w K mg base (L2.CX P w) 2 A.a_back_row A.d_back_row ["row"] (spF (Gx K A) 1 m_back_row) := by
  refine fn_ok false T.F_back_row sc_back_row (fun cdv A1 outer s1 H1 E1 hr => ?_)
  exact (db_one (ds_ret (de_lc [("thing", 1)] sc_back_row.nd (di_seq (de_rev (de_var 0))) (blkOk_by (own := [("thing", 1)]) (N := ["row", "thing"]) (sc := defScope s_back_row) (by decide +kernel)) (fun _ _ _ _ _ => (dgw_name sc_back_row.nd rfl (by first | exact Or.inl rfl | exact Or.inr rfl))) (fun _ _ _ _ _ => dts_nil) (fun _ _ _ _ _ => (de_if (dt_truth (de_callB (dc_isi T.isi) rfl T.z_isinstance boot_isinstance (da_cons (de_var 1) (da_cons (de_ty rfl T.z_tuple boot_tuple) da_nil)))) (de_call (ok_undone T) (hr.mono (by decide)) T.g_undone T.F_undone.kp T.b_undone takes0 (da_cons (de_var 1) da_nil)) (de_op do_sub de_int (de_var 1)))))))
theorem ok_Walk_is_home (T : Tx K mg A) : FnOk P w K mg base (L2.CX P w) 1 A.a_Walk_is_home A.d_Walk_is_home ["self"] (spF (Gx K A) 1 m_Walk_is_home) := by
  refine fn_ok false T.F_Walk_is_home sc_Walk_is_home (fun cdv A1 outer s1 H1 E1 hr => ?_)
  exact (db_one (ds_ret (de_cmp (do_eq hr.units) (de_ix (de_fld ["Walk"] T.isi (de_var 0) T.no_spots) de_int) (de_ix (de_fld ["Walk"] T.isi (de_var 0) T.no_spots) (de_neg de_int)))))
theorem ok_Web_rule (T : Tx K mg A) : FnOk P w K mg base (L2.CX P w) 3 A.a_Web_rule A.d_Web_rule ["self", "step"] (spF (Gx K A) 2 m_Web_rule) := by
  refine fn_ok false T.F_Web_rule sc_Web_rule (fun cdv A1 outer s1 H1 E1 hr => ?_)
  exact (db_one (ds_ret (de_meth (c := "Web") T.isi rfl (de_var 0) (da_cons (de_var 1) (da_cons de_int da_nil)) T.me_Web_turned_so (ok_Web_turned_so T) (hr.mono (by decide)) T.b_Web_turned_so fn_tk)))
theorem ok_parted (T : Tx K mg A) : FnOk P w K mg base (L2.CX P w) 1 A.a_parted A.d_parted ["number", "by"] (spF (Gx K A) 2 m_parted) := by
  refine fn_ok false T.F_parted sc_parted (fun cdv A1 outer s1 H1 E1 hr => ?_)
  exact (db_cons (ds_set (i := 2) sc_parted.nd (de_op do_mod (de_var 0) (de_callB (dc_abs) rfl T.z_abs boot_abs (da_cons (de_var 1) da_nil))))
  (db_one (ds_ret (de_tup (da_cons (de_op do_div (de_op do_sub (de_var 0) (de_var 2)) (de_var 1)) (da_cons (de_var 2) da_nil))))))
theorem ok_settled (T : Tx K mg A) : FnOk P w K mg base (L2.CX P w) 4 A.a_settled A.d_settled ["web", "row"] (spF (Gx K A) 2 m_settled) := by
  refine fn_ok false T.F_settled sc_settled (fun cdv A1 outer s1 H1 E1 hr => ?_)
  exact (db_cons (ds_par (i := 2) (j := 3) sc_settled.nd (da_cons (de_lstR da_nil) (da_cons (de_ix (de_var 1) de_int) da_nil)))
  (db_cons (ds_for fn_po (di_zs T.z_zip (da_cons (de_ev 1 (de_var 1)) (da_cons (de_ev 2 (de_var 1)) da_nil))) (dg_tup (dgs_cons (dg_name sc_settled.nd rfl (by first | exact Or.inl rfl | exact Or.inr rfl)) (dgs_cons (dg_name sc_settled.nd rfl (by first | exact Or.inl rfl | exact Or.inr rfl)) dgs_nil))) (db_cons (ds_asg (de_meth (c := "Web") T.isi rfl (de_var 0) (da_cons (de_var 4) da_nil) T.me_Web_rule (ok_Web_rule T) (hr.mono (by decide)) T.b_Web_rule fn_tk) (dg_tup (dgs_cons (dg_name sc_settled.nd rfl (by first | exact Or.inl rfl | exact Or.inr rfl)) (dgs_cons (dg_name sc_settled.nd rfl (by first | exact Or.inl rfl | exact Or.inr rfl)) dgs_nil))))
  (db_cons (ds_if (dt_w (dw_and (dt_cmp (do_ne hr.units) (de_var 2) (de_lst da_nil)) (dw_and (dt_cmp (do_eq hr.units) (de_ix (de_ix (de_var 2) (de_neg de_int)) de_int) (de_call (ok_undone T) (hr.mono (by decide)) T.g_undone T.F_undone.kp T.b_undone fn_tk (da_cons (de_var 4) da_nil))) (dw_and1 (dt_cmp (do_eq hr.units) (de_op do_mod (de_var 3) (de_var 6)) de_int))))) (db_one (ds_set (i := 3) sc_settled.nd (de_op do_add (de_ix (de_pop (de_var 2)) de_int) (de_op do_mul (de_op do_div (de_var 3) (de_var 6)) (de_var 7))))) (db_cons (ds_asg (de_call (ok_parted T) (hr.mono (by decide)) T.g_parted T.F_parted.kp T.b_parted fn_tk (da_cons (de_var 3) (da_cons (de_var 6) da_nil))) (dg_tup (dgs_cons (dg_name sc_settled.nd rfl (by first | exact Or.inl rfl | exact Or.inr rfl)) (dgs_cons (dg_name sc_settled.nd rfl (by first | exact Or.inl rfl | exact Or.inr rfl)) dgs_nil))))
  (db_cons (ds_expr (de_append (de_var 2) (de_tup (da_cons (de_var 9) (da_cons (de_var 4) da_nil)))))
  (db_one (ds_set (i := 3) sc_settled.nd (de_op do_mul (de_var 8) (de_var 7)))))))
  (db_one (ds_aug (i := 3) sc_settled.nd do_iadd (de_var 5))))))
  (db_one (ds_ret (de_tup (da_cons (de_var 2) (da_cons (de_var 3) da_nil)))))))
theorem ok_settled_walk (T : Tx K mg A) : FnOk P w K mg base (L2.CX P w) 5 A.a_settled_walk A.d_settled_walk ["walk"] (spF (Gx K A) 1 m_settled_walk) := by
  refine fn_ok false T.F_settled_walk sc_settled_walk (fun cdv A1 outer s1 H1 E1 hr => ?_)
  exact (db_one (ds_ret (de_call (ok_settled T) (hr.mono (by decide)) T.g_settled T.F_settled.kp T.b_settled fn_tk (da_cons (de_meth0 (c := "Walk") T.isi rfl (de_var 0) T.me_Walk_web (ok_Walk_web T) (hr.mono (by decide)) T.b_Walk_web fn_tk) (da_cons (de_meth0 (c := "Walk") T.isi rfl (de_var 0) T.me_Walk_row (ok_Walk_row T) (hr.mono (by decide)) T.b_Walk_row fn_tk) da_nil)))))
theorem ok_cut_round (T : Tx K mg A) : FnOk P w K mg base (L2.CX P w) 6 A.a_cut_round A.d_cut_round ["walk"] (spF (Gx K A) 1 m_cut_round) := by
  refine fn_ok false T.F_cut_round sc_cut_round (fun cdv A1 outer s1 H1 E1 hr => ?_)
  exact (db_cons (ds_if (dt_not (dt_truth (de_meth0 (c := "Walk") T.isi rfl (de_var 0) T.me_Walk_is_home (ok_Walk_is_home T) (hr.mono (by decide)) T.b_Walk_is_home fn_tk))) (db_one ds_stop) db_nil)
  (db_cons (ds_asg (de_call (ok_settled_walk T) (hr.mono (by decide)) T.g_settled_walk T.F_settled_walk.kp T.b_settled_walk fn_tk (da_cons (de_var 0) da_nil)) (dg_tup (dgs_cons (dg_name sc_cut_round.nd rfl (by first | exact Or.inl rfl | exact Or.inr rfl)) (dgs_cons (dg_name sc_cut_round.nd rfl (by first | exact Or.inl rfl | exact Or.inr rfl)) dgs_nil))))
  (db_cons (ds_set (i := 3) sc_cut_round.nd (de_lstR da_nil))
  (db_cons (ds_while ((fun _ _ => 1000)) fn_po (dt_w (dw_and (dt_cmp do_gt (de_callB (dc_len) rfl T.z_len boot_len (da_cons (de_var 1) da_nil)) de_int) (dw_and1 (dt_cmp (do_eq hr.units) (de_ix (de_ix (de_var 1) (de_neg de_int)) de_int) (de_call (ok_undone T) (hr.mono (by decide)) T.g_undone T.F_undone.kp T.b_undone fn_tk (da_cons (de_ix (de_ix (de_var 1) de_int) de_int) da_nil)))))) (db_cons (ds_asg (de_ix (de_var 1) de_int) (dg_tup (dgs_cons (dg_name sc_cut_round.nd rfl (by first | exact Or.inl rfl | exact Or.inr rfl)) (dgs_cons (dg_name sc_cut_round.nd rfl (by first | exact Or.inl rfl | exact Or.inr rfl)) dgs_nil))))
  (db_cons (ds_asg (de_meth (c := "Web") T.isi rfl (de_meth0 (c := "Walk") T.isi rfl (de_var 0) T.me_Walk_web (ok_Walk_web T) (hr.mono (by decide)) T.b_Walk_web fn_tk) (da_cons (de_var 5) da_nil) T.me_Web_rule (ok_Web_rule T) (hr.mono (by decide)) T.b_Web_rule fn_tk) (dg_tup (dgs_cons (dg_name sc_cut_round.nd rfl (by first | exact Or.inl rfl | exact Or.inr rfl)) (dgs_cons (dg_name sc_cut_round.nd rfl (by first | exact Or.inl rfl | exact Or.inr rfl)) dgs_nil))))
  (db_cons (ds_if (dt_cmp (do_ne hr.units) (de_op do_mod (de_op do_add (de_var 2) (de_var 4)) (de_var 6)) de_int) (db_one ds_break) db_nil)
  (db_cons (ds_set (i := 2) sc_cut_round.nd (de_op do_add (de_ix (de_ix (de_var 1) (de_neg de_int)) de_int) (de_op do_mul (de_op do_div (de_op do_add (de_var 2) (de_var 4)) (de_var 6)) (de_var 7))))
  (db_cons (ds_expr (de_append (de_var 3) (de_ix (de_var 1) de_int)))
  (db_one (ds_set (i := 1) sc_cut_round.nd (de_sl (de_var 1) (dp_some de_int) (dp_some (de_neg de_int)))))))))))
  (db_one (ds_ret (de_tup (da_cons (de_var 3) (da_cons (de_var 1) (da_cons (de_var 2) da_nil))))))))))
theorem ok_Web_steps_from (T : Tx K mg A) : FnOk P w K mg base (L2.CX P w) 2 A.a_Web_steps_from A.d_Web_steps_from ["self", "yard"] (spF (Gx K A) 2 m_Web_steps_from) := by
  refine fn_ok false T.F_Web_steps_from sc_Web_steps_from (fun cdv A1 outer s1 H1 E1 hr => ?_)
  exact (db_cons (ds_expr (de_meth (c := "Web") T.isi rfl (de_var 0) (da_cons (de_var 1) da_nil) T.me_Web_need_yard (ok_Web_need_yard T) (hr.mono (by decide)) T.b_Web_need_yard fn_tk))
  (db_cons (ds_set (i := 2) sc_Web_steps_from.nd (de_lstR da_nil))
  (db_cons (ds_for fn_po (di_seq (de_fld ["Web"] T.isi (de_var 0) T.no_roads)) (dg_star (n := 4) (i := 3) (dgs_cons (dg_name sc_Web_steps_from.nd rfl (by first | exact Or.inl rfl | exact Or.inr rfl)) (dgs_cons (dg_name sc_Web_steps_from.nd rfl (by first | exact Or.inl rfl | exact Or.inr rfl)) (dgs_cons (dg_name sc_Web_steps_from.nd rfl (by first | exact Or.inl rfl | exact Or.inr rfl)) (dgs_star (dg_name sc_Web_steps_from.nd rfl (by first | exact Or.inl rfl | exact Or.inr rfl)) dgs_nil))))) (db_cons (ds_if (dt_cmp (do_eq hr.units) (de_var 4) (de_var 1)) (db_one (ds_expr (de_append (de_var 2) (de_tup (da_cons (de_var 3) (da_cons de_int da_nil)))))) db_nil)
  (db_one (ds_if (dt_cmp (do_eq hr.units) (de_var 5) (de_var 1)) (db_one (ds_expr (de_append (de_var 2) (de_tup (da_cons (de_var 3) (da_cons (de_neg de_int) da_nil)))))) db_nil))))
  (db_one (ds_ret (de_var 2))))))
theorem ok_joined_row (T : Tx K mg A) : FnOk P w K mg base (L2.CX P w) 1 A.a_joined_row A.d_joined_row ["row", "other"] (spF (Gx K A) 2 m_joined_row) := by
  refine fn_ok false T.F_joined_row sc_joined_row (fun cdv A1 outer s1 H1 E1 hr => ?_)
  exact (db_one (ds_ret (de_op do_add (de_op do_add (de_sl (de_var 0) dp_none (dp_some (de_neg de_int))) (de_lst (da_cons (de_op do_add (de_ix (de_var 0) (de_neg de_int)) (de_ix (de_var 1) de_int)) da_nil))) (de_sl (de_var 1) (dp_some de_int) dp_none))))
theorem ok_followed (T : Tx K mg A) : FnOk P w K mg base (L2.CX P w) 4 A.a_followed A.d_followed ["web", "yard", "turns", "limit"] (spF (Gx K A) 4 m_followed) := by
  refine fn_ok true T.F_followed sc_followed (fun cdv A1 outer s1 H1 E1 hr => ?_)
  exact (db_cons (ds_set (i := 4) sc_followed.nd (de_dictT (units65 hr) (de_tup (da_cons (de_var 1) (da_cons (de_var 2) da_nil))) (de_lst (da_cons de_int da_nil))))
  (db_cons (ds_set (i := 5) sc_followed.nd (de_lstR (da_cons (de_tup (da_cons (de_var 1) (da_cons (de_var 2) da_nil))) da_nil)))
  (db_cons (ds_set (i := 6) sc_followed.nd de_int)
  (db_cons (ds_while (fun e S => 100000) fn_po (dt_w (dw_and (dt_cmp do_lt (de_var 6) (de_callB (dc_len) rfl T.z_len boot_len (da_cons (de_var 5) da_nil))) (dw_and1 (dt_cmp do_le (de_callB (dc_len) rfl T.z_len boot_len (da_cons (de_var 5) da_nil)) (de_var 3))))) (db_cons (ds_asg (de_ix (de_var 5) (de_var 6)) (dg_tup (dgs_cons (dg_name sc_followed.nd rfl (by first | exact Or.inl rfl | exact Or.inr rfl)) (dgs_cons (dg_name sc_followed.nd rfl (by first | exact Or.inl rfl | exact Or.inr rfl)) dgs_nil))))
  (db_cons (ds_for fn_po (di_seq (de_meth (c := "Web") T.isi rfl (de_var 0) (da_cons (de_var 7) da_nil) T.me_Web_steps_from (ok_Web_steps_from T) (hr.mono (by decide)) T.b_Web_steps_from fn_tk)) (dg_name sc_followed.nd rfl (by first | exact Or.inl rfl | exact Or.inr rfl)) (db_cons (ds_asg (de_meth (c := "Web") T.isi rfl (de_var 0) (da_cons (de_var 9) da_nil) T.me_Web_rule (ok_Web_rule T) (hr.mono (by decide)) T.b_Web_rule fn_tk) (dg_tup (dgs_cons (dg_name sc_followed.nd rfl (by first | exact Or.inl rfl | exact Or.inr rfl)) (dgs_cons (dg_name sc_followed.nd rfl (by first | exact Or.inl rfl | exact Or.inr rfl)) dgs_nil))))
  (db_cons (ds_set (i := 12) sc_followed.nd (de_tup (da_cons (de_ix (de_meth (c := "Web") T.isi rfl (de_var 0) (da_cons (de_var 9) da_nil) T.me_Web_ends (ok_Web_ends T) (hr.mono (by decide)) T.b_Web_ends fn_tk) de_int) (da_cons (de_op do_mul (de_op do_div (de_var 8) (de_var 10)) (de_var 11)) da_nil))))
  (db_one (ds_if (dt_w (dw_and (dt_cmp (do_eq hr.units) (de_op do_mod (de_var 8) (de_var 10)) de_int) (dw_and1 (dt_cmp (do_ninT (units65 hr)) (de_var 12) (de_var 4))))) (db_cons (ds_asg (de_call (ok_joined_row T) (hr.mono (by decide)) T.g_joined_row T.F_joined_row.kp T.b_joined_row fn_tk (da_cons (de_ixT (units65 hr) (de_var 4) (de_tup (da_cons (de_var 7) (da_cons (de_var 8) da_nil)))) (da_cons (de_lst (da_cons de_int (da_cons (de_var 9) (da_cons de_int da_nil)))) da_nil))) (dg_keyT (units65 hr) (de_var 4) (de_var 12)))
  (db_one (ds_expr (de_append (de_var 5) (de_var 12))))) db_nil)))))
  (db_one (ds_aug (i := 6) sc_followed.nd do_iadd de_int)))))
  (db_one (ds_ret (de_var 4)))))))
theorem ok_Web_deq (T : Tx K mg A) : FnOk P w K mg base (L2.CX P w) 1 A.a_Web_deq A.d_Web_deq ["self", "other"] (spF (Gx K A) 2 m_Web_deq) := by
  refine fn_ok false T.F_Web_deq sc_Web_deq (fun cdv A1 outer s1 H1 E1 hr => ?_)
  exact (db_one (ds_ret (de_and (de_callB (dc_isi T.isi) rfl T.z_isinstance boot_isinstance (da_cons (de_var 1) (da_cons (de_cls rfl rfl T.g_Web) da_nil))) (de_and (de_cmp (do_eq hr.units) (de_fld ["Web"] T.isi (de_var 0) T.no_places) (de_fld ["Web"] T.isi (de_var 1) T.no_places)) (de_one (de_cmp (do_eq hr.units) (de_fld ["Web"] T.isi (de_var 0) T.no_roads) (de_fld ["Web"] T.isi (de_var 1) T.no_roads)))))))
theorem ok_need_alike_webs (T : Tx K mg A) : FnOk P w K mg base (L2.CX P w) 3 A.a_need_alike_webs A.d_need_alike_webs ["one", "other"] (spF (Gx K A) 2 m_need_alike_webs) := by
  refine fn_ok false T.F_need_alike_webs sc_need_alike_webs (fun cdv A1 outer s1 H1 E1 hr => ?_)
  exact (db_one (ds_if (dt_cmp (do_neI T.eq_Web rfl (ok_Web_deq T) (hr.mono (by decide)) T.b_Web_deq) (de_meth0 (c := "Walk") T.isi rfl (de_var 0) T.me_Walk_web (ok_Walk_web T) (hr.mono (by decide)) T.b_Walk_web fn_tk) (de_meth0 (c := "Walk") T.isi rfl (de_var 1) T.me_Walk_web (ok_Walk_web T) (hr.mono (by decide)) T.b_Walk_web fn_tk)) (db_one ds_stop) db_nil))
theorem ok_put_together (T : Tx K mg A) : FnOk P w K mg base (L2.CX P w) 2 A.a_put_together A.d_put_together ["rows"] (spF (Gx K A) 1 m_put_together) := by
  refine fn_ok false T.F_put_together sc_put_together (fun cdv A1 outer s1 H1 E1 hr => ?_)
  exact (db_cons (ds_set (i := 1) sc_put_together.nd (de_lst (da_cons de_int da_nil)))
  (db_cons (ds_for fn_po (di_seq (de_var 0)) (dg_name sc_put_together.nd rfl (by first | exact Or.inl rfl | exact Or.inr rfl)) (db_one (ds_set (i := 1) sc_put_together.nd (de_call (ok_joined_row T) (hr.mono (by decide)) T.g_joined_row T.F_joined_row.kp T.b_joined_row fn_tk (da_cons (de_var 1) (da_cons (de_var 2) da_nil))))))
  (db_one (ds_ret (de_var 1)))))
theorem ok_row_of (T : Tx K mg A) : FnOk P w K mg base (L2.CX P w) 1 A.a_row_of A.d_row_of ["pairs", "here"] (spF (Gx K A) 2 m_row_of) := by
  refine fn_ok false T.F_row_of sc_row_of (fun cdv A1 outer s1 H1 E1 hr => ?_)
  exact (db_one (ds_ret (de_op do_add (de_lc2 [("pair", 2), ("thing", 3)] [3] sc_row_of.nd (di_seq (de_var 0)) (blkOk_by (own := [("pair", 2), ("thing", 3)]) (N := ["pairs", "here", "pair", "thing"]) (sc := defScope s_row_of) (by decide +kernel)) (fun _ _ _ _ _ => (dgw_name sc_row_of.nd rfl (by first | exact Or.inl rfl | exact Or.inr rfl))) (fun _ _ _ _ _ => dts_nil) (fun _ _ _ _ _ => (di_seq (de_var 2))) (fun _ _ _ _ _ => (dgw_name sc_row_of.nd rfl (by first | exact Or.inl rfl | exact Or.inr rfl))) (fun _ _ _ _ _ => dts_nil) (fun _ _ _ _ _ => (de_var 3))) (de_lst (da_cons (de_var 1) da_nil)))))
theorem ok_plain_from (T : Tx K mg A) : FnOk P w K mg base (L2.CX P w) 7 A.a_plain_from A.d_plain_from ["web", "start", "rows"] (spF (Gx K A) 3 m_plain_from) := by
  refine fn_ok false T.F_plain_from sc_plain_from (fun cdv A1 outer s1 H1 E1 hr => ?_)
  exact (db_cons (ds_asg (de_call (ok_settled T) (hr.mono (by decide)) T.g_settled T.F_settled.kp T.b_settled fn_tk (da_cons (de_var 0) (da_cons (de_call (ok_put_together T) (hr.mono (by decide)) T.g_put_together T.F_put_together.kp T.b_put_together fn_tk (da_cons (de_var 2) da_nil)) da_nil))) (dg_tup (dgs_cons (dg_name sc_plain_from.nd rfl (by first | exact Or.inl rfl | exact Or.inr rfl)) (dgs_cons (dg_name sc_plain_from.nd rfl (by first | exact Or.inl rfl | exact Or.inr rfl)) dgs_nil))))
  (db_one (ds_ret (de_fz (de_make (c := "Walk") rfl (da_cons (de_var 0) (da_cons (de_var 1) (da_cons (de_call (ok_row_of T) (hr.mono (by decide)) T.g_row_of T.F_row_of.kp T.b_row_of fn_tk (da_cons (de_var 3) (da_cons (de_var 4) da_nil))) da_nil))) T.mk_Walk (ok_Walk_dinit T) (hr.mono (by decide)) T.b_Walk_dinit fn_tk T.g_Walk)))))
theorem ok_yard_behind (T : Tx K mg A) : FnOk P w K mg base (L2.CX P w) 4 A.a_yard_behind A.d_yard_behind ["walk", "begun"] (spF (Gx K A) 2 m_yard_behind) := by
  refine fn_ok false T.F_yard_behind sc_yard_behind (fun cdv A1 outer s1 H1 E1 hr => ?_)
  exact (db_one (ds_ret (de_if (dt_cmp (do_ne hr.units) (de_var 1) (de_lst da_nil)) (de_ix (de_meth (c := "Web") T.isi rfl (de_meth0 (c := "Walk") T.isi rfl (de_var 0) T.me_Walk_web (ok_Walk_web T) (hr.mono (by decide)) T.b_Walk_web fn_tk) (da_cons (de_ix (de_ix (de_var 1) (de_neg de_int)) de_int) da_nil) T.me_Web_ends (ok_Web_ends T) (hr.mono (by decide)) T.b_Web_ends fn_tk) de_int) (de_meth0 (c := "Walk") T.isi rfl (de_var 0) T.me_Walk_start (ok_Walk_start T) (hr.mono (by decide)) T.b_Walk_start fn_tk))))
theorem ok_stay_of (T : Tx K mg A) : FnOk P w K mg base (L2.CX P w) 8 A.a_stay_of A.d_stay_of ["one", "other", "limit"] (spF (Gx K A) 3 m_stay_of) := by
  refine fn_ok false T.F_stay_of sc_stay_of (fun cdv A1 outer s1 H1 E1 hr => ?_)
  exact (db_cons (ds_asg (de_call (ok_cut_round T) (hr.mono (by decide)) T.g_cut_round T.F_cut_round.kp T.b_cut_round fn_tk (da_cons (de_var 0) da_nil)) (dg_tup (dgs_cons (dg_name sc_stay_of.nd rfl (by first | exact Or.inl rfl | exact Or.inr rfl)) (dgs_cons (dg_name sc_stay_of.nd rfl (by first | exact Or.inl rfl | exact Or.inr rfl)) (dgs_cons (dg_name sc_stay_of.nd rfl (by first | exact Or.inl rfl | exact Or.inr rfl)) dgs_nil)))))
  (db_cons (ds_asg (de_call (ok_cut_round T) (hr.mono (by decide)) T.g_cut_round T.F_cut_round.kp T.b_cut_round fn_tk (da_cons (de_var 1) da_nil)) (dg_tup (dgs_cons (dg_name sc_stay_of.nd rfl (by first | exact Or.inl rfl | exact Or.inr rfl)) (dgs_cons (dg_name sc_stay_of.nd rfl (by first | exact Or.inl rfl | exact Or.inr rfl)) (dgs_cons (dg_name sc_stay_of.nd rfl (by first | exact Or.inl rfl | exact Or.inr rfl)) dgs_nil)))))
  (db_cons (ds_expr (de_call (ok_need_alike_webs T) (hr.mono (by decide)) T.g_need_alike_webs T.F_need_alike_webs.kp T.b_need_alike_webs fn_tk (da_cons (de_var 0) (da_cons (de_var 1) da_nil))))
  (db_cons (ds_if (dt_w (dw_or (dt_cmp (do_ne hr.units) (de_var 4) (de_lst da_nil)) (dw_or1 (dt_cmp (do_ne hr.units) (de_var 7) (de_lst da_nil))))) (db_one ds_stop) db_nil)
  (db_cons (ds_if (dt_not (dt_truth (de_call (ok_is_whole T) (hr.mono (by decide)) T.g_is_whole T.F_is_whole.kp T.b_is_whole fn_tk (da_cons (de_var 2) (da_cons de_int (da_cons (de_gintE rfl T.c_MOST_LOOKED) da_nil)))))) (db_one ds_stop) db_nil)
  (db_cons (ds_set (i := 9) sc_stay_of.nd (de_meth0 (c := "Walk") T.isi rfl (de_var 0) T.me_Walk_web (ok_Walk_web T) (hr.mono (by decide)) T.b_Walk_web fn_tk))
  (db_cons (ds_set (i := 10) sc_stay_of.nd (de_call (ok_followed T) (hr.mono (by decide)) T.g_followed T.F_followed.kp T.b_followed fn_tk (da_cons (de_var 9) (da_cons (de_call (ok_yard_behind T) (hr.mono (by decide)) T.g_yard_behind T.F_yard_behind.kp T.b_yard_behind fn_tk (da_cons (de_var 0) (da_cons (de_var 3) da_nil))) (da_cons (de_var 5) (da_cons (de_var 2) da_nil))))))
  (db_cons (ds_set (i := 11) sc_stay_of.nd (de_tup (da_cons (de_call (ok_yard_behind T) (hr.mono (by decide)) T.g_yard_behind T.F_yard_behind.kp T.b_yard_behind fn_tk (da_cons (de_var 1) (da_cons (de_var 6) da_nil))) (da_cons (de_var 8) da_nil))))
  (db_cons (ds_if (dt_cmp (do_inT (units65 hr)) (de_var 11) (de_var 10)) (db_cons (ds_set (i := 12) sc_stay_of.nd (de_lst (da_cons (de_call (ok_row_of T) (hr.mono (by decide)) T.g_row_of T.F_row_of.kp T.b_row_of fn_tk (da_cons (de_var 6) (da_cons de_int da_nil))) (da_cons (de_call (ok_back_row T) (hr.mono (by decide)) T.g_back_row T.F_back_row.kp T.b_back_row fn_tk (da_cons (de_ixT (units65 hr) (de_var 10) (de_var 11)) da_nil)) (da_cons (de_call (ok_back_row T) (hr.mono (by decide)) T.g_back_row T.F_back_row.kp T.b_back_row fn_tk (da_cons (de_call (ok_row_of T) (hr.mono (by decide)) T.g_row_of T.F_row_of.kp T.b_row_of fn_tk (da_cons (de_var 3) (da_cons de_int da_nil))) da_nil)) da_nil)))))
  (db_one (ds_ret (de_tup (da_cons de_str (da_cons (de_call (ok_plain_from T) (hr.mono (by decide)) T.g_plain_from T.F_plain_from.kp T.b_plain_from fn_tk (da_cons (de_var 9) (da_cons (de_meth0 (c := "Walk") T.isi rfl (de_var 1) T.me_Walk_start (ok_Walk_start T) (hr.mono (by decide)) T.b_Walk_start fn_tk) (da_cons (de_var 12) da_nil)))) da_nil)))))) db_nil)
  (db_one (ds_ret (de_if (dt_cmp do_gt (de_callB dc_lenT rfl T.z_len boot_len (da_cons (de_var 10) da_nil)) (de_var 2)) (de_tup (da_cons de_str da_nil)) (de_tup (da_cons de_str (da_cons (de_callB dc_lenT rfl T.z_len boot_len (da_cons (de_var 10) da_nil)) da_nil)))))))))))))))
theorem ok_law (T : Tx K mg A) : FnOk P w K mg base (L2.CX P w) 22 A.a_law A.d_law ["_law_script"] (spF (Gx K A) 1 m_law) := by
  refine fn_ok true T.F_law sc_law (fun cdv A1 outer s1 H1 E1 hr => ?_)
  exact (db_cons (ds_set (i := 1) sc_law.nd (de_call (ok_law_flow T) (hr.mono (by decide)) T.g_law_flow T.F_law_flow.kp T.b_law_flow fn_tk (da_cons (de_var 0) da_nil)))
  (db_cons (ds_set (i := 2) sc_law.nd (de_lst (da_cons (de_gintE rfl T.c_MOST_YARDS) (da_cons (de_gintE rfl T.c_MOST_PASSAGES) (da_cons (de_gintE rfl T.c_MOST_TURNS) (da_cons (de_gintE rfl T.c_LONGEST) (da_cons (de_gintE rfl T.c_GREATEST) (da_cons (de_gintE rfl T.c_DEEPEST) (da_cons (de_gintE rfl T.c_MOST_TERMS) da_nil)))))))))
  (db_cons (ds_set (i := 2) sc_law.nd (de_op do_add (de_var 2) (de_lst (da_cons (de_gintE rfl T.c_MOST_TIMES) (da_cons (de_gintE rfl T.c_MOST_WALKS) (da_cons (de_gintE rfl T.c_LOOKED) da_nil))))))
  (db_cons (ds_if (dt_not (dt_truth (de_call (ok_law_same T 20) (hr.mono (by decide)) T.g_law_same T.F_law_same.kp T.b_law_same fn_tk (da_cons (de_var 2) (da_cons (de_lst (da_cons de_int (da_cons de_int (da_cons de_int (da_cons de_int (da_cons (de_op do_pow de_int de_int) (da_cons de_int (da_cons de_int (da_cons de_int (da_cons de_int (da_cons de_int da_nil))))))))))) da_nil))))) (db_one (ds_ret de_bl)) db_nil)
  (db_cons (ds_set (i := 3) sc_law.nd (de_dd (dd_cons (de_lst (da_cons de_str da_nil)) (dd_cons (de_lst (da_cons (de_tup (da_cons de_str (da_cons de_str (da_cons de_str (da_cons de_int (da_cons de_int da_nil)))))) (da_cons (de_tup (da_cons de_str (da_cons de_str (da_cons de_str (da_cons de_int (da_cons de_int da_nil)))))) da_nil))) dd_nil))))
  (db_cons (ds_set (i := 4) sc_law.nd (de_call (ok_law_web T) (hr.mono (by decide)) T.g_law_web T.F_law_web.kp T.b_law_web fn_tk (da_cons (de_var 3) da_nil)))
  (db_cons (ds_set (i := 5) sc_law.nd (de_call (ok_law_pick T) (hr.mono (by decide)) T.g_law_pick T.F_law_pick.kp T.b_law_pick fn_tk (da_cons (de_var 1) (da_cons (de_lst (da_cons de_int (da_cons de_int (da_cons de_int (da_cons de_int (da_cons (de_call (ok_law_draw T) (hr.mono (by decide)) T.g_law_draw T.F_law_draw.kp T.b_law_draw fn_tk (da_cons (de_var 1) (da_cons de_int da_nil))) da_nil)))))) da_nil))))
  (db_cons (ds_set (i := 6) sc_law.nd (de_op do_div (de_op do_mul (de_op do_add (de_var 5) de_int) (de_op do_add (de_var 5) de_int)) de_int))
  (db_cons (ds_par (i := 7) (j := 8) sc_law.nd (da_cons (de_fz (de_make (c := "Walk") rfl (da_cons (de_var 4) (da_cons de_str (da_cons (de_lst (da_cons (de_call (ok_law_power T) (hr.mono (by decide)) T.g_law_power T.F_law_power.kp T.b_law_power fn_tk (da_cons de_int (da_cons (de_var 5) da_nil))) da_nil)) da_nil))) T.mk_Walk (ok_Walk_dinit T) (hr.mono (by decide)) T.b_Walk_dinit fn_tk T.g_Walk)) (da_cons (de_fz (de_make (c := "Walk") rfl (da_cons (de_var 4) (da_cons de_str (da_cons (de_lst (da_cons de_int da_nil)) da_nil))) T.mk_Walk (ok_Walk_dinit T) (hr.mono (by decide)) T.b_Walk_dinit fn_tk T.g_Walk)) da_nil)))
  (db_cons (ds_set (i := 9) sc_law.nd (de_if (dt_cmp do_le (de_var 6) de_int) (de_tup (da_cons de_str (da_cons (de_var 6) da_nil))) (de_tup (da_cons de_str da_nil))))
  (db_cons (ds_if (dt_w (dw_or (dt_not (dt_truth (de_call (ok_law_same T 20) (hr.mono (by decide)) T.g_law_same T.F_law_same.kp T.b_law_same fn_tk (da_cons (de_callK (ks := []) (is := [0]) (dd := [.int 300]) (dv := [.int 300]) (ok_stay_of T) (hr.mono (by decide)) T.g_stay_of T.F_stay_of.kp T.kf0_stay_of (fun _ _ => (.cons (.int _) .nil)) fn_tk (da_cons (de_var 7) (da_cons (de_var 8) da_nil)) dk_nil) (da_cons (de_var 9) da_nil))))) (dw_or1 (dt_not (dt_truth (de_call (ok_law_same T 20) (hr.mono (by decide)) T.g_law_same T.F_law_same.kp T.b_law_same fn_tk (da_cons (de_callK (ks := []) (is := [0]) (dd := [.int 300]) (dv := [.int 300]) (ok_stay_of T) (hr.mono (by decide)) T.g_stay_of T.F_stay_of.kp T.kf0_stay_of (fun _ _ => (.cons (.int _) .nil)) fn_tk (da_cons (de_var 8) (da_cons (de_var 7) da_nil)) dk_nil) (da_cons (de_tup (da_cons de_str (da_cons de_int da_nil))) da_nil)))))))) (db_one (ds_ret de_bl)) db_nil)
  (db_cons (ds_set (i := 10) sc_law.nd (de_op do_add de_int (de_call (ok_law_draw T) (hr.mono (by decide)) T.g_law_draw T.F_law_draw.kp T.b_law_draw fn_tk (da_cons (de_var 1) (da_cons de_int da_nil)))))
  (db_cons (ds_if (dt_not (dt_truth (de_call (ok_law_same T 20) (hr.mono (by decide)) T.g_law_same T.F_law_same.kp T.b_law_same fn_tk (da_cons (de_callK (ks := ["limit"]) (is := [0]) (dd := []) (dv := []) (ok_stay_of T) (hr.mono (by decide)) T.g_stay_of T.F_stay_of.kp T.kf1_stay_of (fun _ _ => .nil) fn_tk (da_cons (de_var 7) (da_cons (de_var 8) da_nil)) (dk_cons (de_var 10) dk_nil)) (da_cons (de_if (dt_cmp do_le (de_var 6) (de_var 10)) (de_tup (da_cons de_str (da_cons (de_var 6) da_nil))) (de_tup (da_cons de_str da_nil))) da_nil))))) (db_one (ds_ret de_bl)) db_nil)
  (db_cons (ds_set (i := 11) sc_law.nd (de_fz (de_make (c := "Walk") rfl (da_cons (de_var 4) (da_cons de_str (da_cons (de_lst (da_cons (de_call (ok_law_power T) (hr.mono (by decide)) T.g_law_power T.F_law_power.kp T.b_law_power fn_tk (da_cons de_int (da_cons (de_var 5) da_nil))) da_nil)) da_nil))) T.mk_Walk (ok_Walk_dinit T) (hr.mono (by decide)) T.b_Walk_dinit fn_tk T.g_Walk)))
  (db_cons (ds_set (i := 12) sc_law.nd (de_callK (ks := []) (is := [0]) (dd := [.int 300]) (dv := [.int 300]) (ok_stay_of T) (hr.mono (by decide)) T.g_stay_of T.F_stay_of.kp T.kf0_stay_of (fun _ _ => (.cons (.int _) .nil)) fn_tk (da_cons (de_var 7) (da_cons (de_var 11) da_nil)) dk_nil))
  (db_cons (ds_if (dt_cmp do_gt (de_var 6) de_int) (db_one (ds_ret (de_or (de_cmp (do_eqU (units65 hr)) (de_var 12) (de_tup (da_cons de_str da_nil))) (de_one (de_call (ok_law_sees T) (hr.mono (by decide)) T.g_law_sees T.F_law_sees.kp T.b_law_sees fn_tk (da_cons (de_var 3) (da_cons (de_ix (de_var 12) de_int) (da_cons (de_meth0 (c := "Walk") T.isi rfl (de_var 7) T.me_Walk_row (ok_Walk_row T) (hr.mono (by decide)) T.b_Walk_row fn_tk) (da_cons de_str (da_cons (de_meth0 (c := "Walk") T.isi rfl (de_var 11) T.me_Walk_row (ok_Walk_row T) (hr.mono (by decide)) T.b_Walk_row fn_tk) da_nil)))))))))) db_nil)
  (db_one (ds_ret (de_and (de_cmp (do_eq hr.units) (de_ix (de_var 12) de_int) de_str) (de_one (de_call (ok_law_sees T) (hr.mono (by decide)) T.g_law_sees T.F_law_sees.kp T.b_law_sees fn_tk (da_cons (de_var 3) (da_cons (de_ix (de_var 12) de_int) (da_cons (de_meth0 (c := "Walk") T.isi rfl (de_var 7) T.me_Walk_row (ok_Walk_row T) (hr.mono (by decide)) T.b_Walk_row fn_tk) (da_cons de_str (da_cons (de_meth0 (c := "Walk") T.isi rfl (de_var 11) T.me_Walk_row (ok_Walk_row T) (hr.mono (by decide)) T.b_Walk_row fn_tk) da_nil))))))))))))))))))))))))))
end
end Lw
set_option Elab.async false
set_option linter.all false
set_option maxRecDepth 100000
set_option maxHeartbeats 4000000
set_option autoImplicit false
namespace Lw
open PySem Dv
/-! steps of our own words -/
local macro_rules | `(tactic| walk_at "num") => `(tactic| first | assumption | decide | omega)
local macro_rules | `(tactic| walk_at "dv0") => `(tactic| with_reducible first
  | refine v_seq ?_ | refine v_ifS ?_ | refine v_set ?_ | refine v_ret ?_ | refine v_asg ?_ | refine v_par ?_ | refine v_drop ?_ | refine v_nx ?_ | refine v_bk ?_ | refine v_ct ?_ | refine v_retN ?_ | refine v_for ?_
  | refine v_c ?_ | refine v_nil ?_ | refine v_cons ?_ | refine v_op ?_ | refine v_B ?_ | refine v_truth ?_ | refine v_andT ?_ | refine v_orT ?_ | refine v_notT ?_
  | refine v_andV ?_ | refine v_orV ?_ | refine v_notV ?_ | refine v_if ?_ | refine v_neg ?_ | refine v_chain ?_ | refine v_tup ?_ | refine v_lst ?_ | refine v_lstR ?_ | refine v_noPart ?_ | refine v_part ?_ | refine v_sl ?_
  | refine v_CB ?_ | refine v_call ?_ | refine v_abs ?_ | refine v_lc ?_ | refine v_yes ?_ | refine v_it ?_ | refine v_rng1 ?_ | refine v_rng2 ?_ | refine v_rng3 ?_ | refine v_T ?_ | refine v_F ?_
  | refine v_add ?_ | refine v_sub ?_ | refine v_iadd ?_ | refine v_lt ?_ | refine v_le ?_ | refine v_gt ?_ | refine v_ge ?_ | refine v_eqI ?_ | refine v_neI ?_ | refine v_eqB ?_ | refine v_neB ?_)
local macro_rules | `(tactic| walk_at "dv1") => `(tactic| first
  | (with_reducible refine' v_var ?h ?_); (case h => rfl)
  | (with_reducible refine' v_aug ?h ?_); (case h => rfl)
  | (with_reducible refine' v_div ?h1 ?h2 ?_); (case h1 => walk_at "num"); (case h2 => walk_at "num")
  | (with_reducible refine' v_mod ?h1 ?_); (case h1 => walk_at "num")
  | (with_reducible refine' v_pow ?h1 ?_); (case h1 => walk_at "num")
  | (with_reducible refine' v_mulR ?h1 ?_); (case h1 => walk_at "num")
  | (with_reducible refine' v_mulL ?h1 ?_); (case h1 => walk_at "num")
  | (with_reducible refine' v_fin ?h1 ?_); (case h1 => first | exact Or.inl rfl | exact Or.inr rfl | (refine Or.inr ?_; simp only [List.length_set, *]; done))
  | (with_reducible refine' v_ix ?h1 ?_); (case h1 => first | exact ixD_ref (by assumption) (by rfl) | rfl)
  | (with_reducible refine' v_len ?h1 ?_); (case h1 => first | exact lenD_ref (by assumption) | rfl)
  | (with_reducible refine' v_list ?h1 ?_); (case h1 => rfl)
  | (with_reducible refine' v_listR ?h1 ?_); (case h1 => rfl)
  | (with_reducible refine' v_tuple ?h1 ?_); (case h1 => rfl)
  | (with_reducible refine' v_isd ?h1 ?_); (case h1 => rfl)
  | (with_reducible refine' v_isiTy ?h1 ?h2 ?_); (case h1 => rfl); (case h2 => rfl)
  | (with_reducible refine' v_isiT ?h1 ?_); (case h1 => rfl))
local macro_rules | `(tactic| walk_at "dv2") => `(tactic| first
  | refine v_gsub (by rfl) (by rfl) (by assumption) (by rfl) (fun _ _ _ => ?_) | refine ⟨_, rfl, ?_⟩ | (with_reducible refine' ⟨rng_ok ?h1 ?h2, ?_⟩); (case h1 => omega); (case h2 => omega) | refine ⟨rfl, ?_⟩ | refine ⟨_, _, rfl, ?_⟩ | refine ⟨Nat.le_of_ble_eq_true rfl, ?_⟩)
local macro_rules | `(tactic| walk_at "dv3") => `(tactic| first
  | (with_reducible refine' v_dec (fun _ => ?_) (fun hn => absurd ?h hn)); (case h => first | assumption | omega | decide)
  | (with_reducible refine' v_dec (fun hn => absurd hn ?h) (fun _ => ?_)); (case h => first | assumption | omega | decide)
  | (with_reducible refine' v_ndec (fun _ => ?_) (fun hn => absurd hn ?h)); (case h => first | assumption | omega | decide)
  | (with_reducible refine' v_ndec (fun hn => absurd ?h hn) (fun _ => ?_)); (case h => first | assumption | omega | decide)
  | (with_reducible refine' v_bT ?h ?_); (case h => first | assumption | rfl)
  | (with_reducible refine' v_bF ?h ?_); (case h => first | assumption | rfl))
local macro_rules | `(tactic| walk_at "dv4") => `(tactic| with_reducible first
  | refine v_places ?_ | refine v_roads ?_ | refine v_over ?_ | refine v_line ?_ | refine v_spots ?_ | refine v_myards ?_ | refine v_mroads ?_ | refine v_mW (by decide +kernel) ?_ | refine v_mK (by decide +kernel) ?_
  | refine v_itX ?_ | refine v_ev ?_ | refine v_rev ?_ | refine v_zs ?_ | refine v_enum ?_ | refine v_enum2 ?_ | refine v_makeV ?_ | refine v_tryN ?_ | refine v_lc2 ?_ | refine v_fz ?_ | refine v_make ?_ | refine v_fldS ?_)
local macro_rules | `(tactic| walk_at "dv5") => `(tactic| first
  | refine ⟨_, _, rfl, rfl, ?_⟩ | refine ⟨⟨_, _, rfl⟩, ?_⟩ | refine ⟨⟨_, _, _, rfl⟩, ?_⟩ | refine ⟨_, _, _, rfl, ?_⟩ | refine Or.inl ⟨_, rfl, ?_⟩ | refine Or.inr ⟨_, (fun _ z => by cases z), rfl, ?_⟩)
local macro_rules | `(tactic| walk_at "dv") => `(tactic| repeat (first | walk_at "dv0" | walk_at "dv4" | walk_at "dv1" | walk_at "dv3" | walk_at "dv2" | walk_at "dv5"))
structure Fw where
  cells : List Int
  pos : Nat
  rest : Nat
  base : Nat
abbrev Fw.ds (f : Fw) : List Dt := [.lst (f.cells.map Dt.int), .int f.pos, .int f.rest, .int f.base]
abbrev Fw.ob (f : Fw) : Ob := .lst f.ds
/-- a draw gives a number from 0 on, below the size; the flow stays a flow -/
def Drawn (S : Store) (i : Nat) (n : Int) (d : Dt) (S' : Store) : Prop := ∃ (v : Int) (f' : Fw), d = .int v ∧ 0 ≤ v ∧ v < n ∧ f'.base < 2147483647 ∧ S' = S.set i f'.ob
theorem draw_rest {S : Store} {i : Nat} {f : Fw} {n : Int} (hS : S[i]? = some f.ob) (hn : 0 < n) (hl : n.natAbs.log2 < 9000) (h : 0 < f.rest) (hb : f.base < 2147483647) :
    Pe (m_law_draw [.ref i, .int n] S) (Drawn S i n) X0 := by
  refine v_fn ?_
  unfold b_law_draw
  walk_at "dv"
  refine ⟨_, { f with rest := ((f.rest : Int).fdiv n).toNat }, rfl, Int.fmod_nonneg_of_pos _ hn, Int.fmod_lt_of_pos _ hn, hb, ?_⟩
  rename_i S1 e1 e2
  rw [e1]
  have z : ((((f.rest : Int).fdiv n).toNat : Nat) : Int) = (f.rest : Int).fdiv n := Int.toNat_of_nonneg (Int.fdiv_nonneg (by omega) (by omega))
  simp [Fw.ob, Fw.ds, z]
theorem draw_cell {S : Store} {i : Nat} {f : Fw} {n : Int} (hS : S[i]? = some f.ob) (hn : 0 < n) (hl : n.natAbs.log2 < 9000) (h : f.rest = 0) (hb : f.base < 2147483647) :
    Pe (m_law_draw [.ref i, .int n] S) (Drawn S i n) X0 := by
  -- what both ways come to
  have fin1 : ∀ (S1 S2 : Store) (x r : Int), S1 = S.set i (.lst (f.ds.set (Int.toNat 1) (.int (f.pos + 1)))) → S2 = S1.set i (.lst ((f.ds.set (Int.toNat 1) (.int (f.pos + 1))).set (Int.toNat 3) (.int (x.fmod 2147483647)))) → Drawn S i n (.int (r.fmod n)) S2 := by
    intro S1 S2 x r e1 e2
    have h0 := Int.fmod_nonneg_of_pos x (b := 2147483647) (by decide)
    have h1 := Int.fmod_lt_of_pos x (b := 2147483647) (by decide)
    refine ⟨_, { f with pos := f.pos + 1, base := (x.fmod 2147483647).toNat }, rfl, Int.fmod_nonneg_of_pos _ hn, Int.fmod_lt_of_pos _ hn, ?_, ?_⟩
    · show (x.fmod 2147483647).toNat < 2147483647
      omega
    · rw [e2, e1, List.set_set]
      simp [Fw.ob, Fw.ds, Int.toNat_of_nonneg h0]
  have fin2 : ∀ (S1 S2 : Store) (a : Int), 0 ≤ a → S1 = S.set i (.lst (f.ds.set (Int.toNat 1) (.int (f.pos + 1)))) → S2 = S1.set i (.lst ((f.ds.set (Int.toNat 1) (.int (f.pos + 1))).set (Int.toNat 2) (.int (a.fdiv n)))) → Drawn S i n (.int (a.fmod n)) S2 := by
    intro S1 S2 a h0 e1 e2
    refine ⟨_, { f with pos := f.pos + 1, rest := (a.fdiv n).toNat }, rfl, Int.fmod_nonneg_of_pos _ hn, Int.fmod_lt_of_pos _ hn, hb, ?_⟩
    have z : (((a.fdiv n).toNat : Nat) : Int) = a.fdiv n := Int.toNat_of_nonneg (Int.fdiv_nonneg h0 (by omega))
    rw [e2, e1, List.set_set]
    simp [Fw.ob, Fw.ds, z]
  refine v_fn ?_
  unfold b_law_draw
  walk_at "dv"
  refine v_dec (fun hc => ?_) (fun hc => ?_)
  · obtain ⟨c, hcell⟩ : ∃ c, (f.cells.map Dt.int)[f.pos]? = some (.int c) := ⟨f.cells[f.pos]'(by simpa using hc), by simp⟩
    walk_at "dv"
    refine v_ix (atI_in hcell) ?_
    walk_at "dv"
    refine v_dec (fun hg => ?_) (fun hg => ?_)
    · walk_at "dv"
      exact fin2 _ _ _ (by split <;> omega) (by assumption) (by assumption)
    · walk_at "dv"
      exact fin1 _ _ _ _ (by assumption) (by assumption)
  · walk_at "dv"
    exact fin1 _ _ _ _ (by assumption) (by assumption)
theorem draw_spec {S : Store} {i : Nat} {f : Fw} {n : Int} (hS : S[i]? = some f.ob) (hb : f.base < 2147483647) (hn : 0 < n) (hl : n.natAbs.log2 < 9000) : Pe (m_law_draw [.ref i, .int n] S) (Drawn S i n) X0 := by
  by_cases h : 0 < f.rest
  · exact draw_rest hS hn hl h hb
  · exact draw_cell hS hn hl (by omega) hb
/-! ### the flow in a store -/
def FlowAt (S : Store) (i : Nat) : Prop := ∃ f : Fw, S[i]? = some f.ob ∧ f.base < 2147483647
/-- a store that differs in the flow alone -/
structure Fz (i : Nat) (S S' : Store) : Prop where
  len : S'.length = S.length
  oth : ∀ j : Nat, j ≠ i → S'[j]? = S[j]?
  flow : FlowAt S' i
theorem Fz.trans {i : Nat} {S S1 S2 : Store} (a : Fz i S S1) (b : Fz i S1 S2) : Fz i S S2 := ⟨b.len.trans a.len, fun j h => (b.oth j h).trans (a.oth j h), b.flow⟩
theorem draw_fz {S : Store} {i : Nat} {n : Int} {Q : Dt → Store → Prop} {X : Ex → Store → Prop} (hF : FlowAt S i) (hn : 0 < n) (hl : n.natAbs.log2 < 9000) (q : ∀ v S', 0 ≤ v → v < n → Fz i S S' → Q (.int v) S') : Pe (m_law_draw [.ref i, .int n] S) Q X := by
  obtain ⟨f, h1, h2⟩ := hF
  refine (draw_spec h1 h2 hn hl).imp (fun d S' ⟨v, f', e, v0, v1, b, eS⟩ => ?_) fun _ _ z => z.elim
  subst e
  have hi := (List.getElem?_eq_some_iff.mp h1).1
  subst eS
  exact q v _ v0 v1 ⟨by simp, fun j hj => List.getElem?_set_ne (Ne.symm hj), f', List.getElem?_set_self hi, b⟩
theorem pick_fz {S : Store} {i : Nat} {ds : List Dt} {Q : Dt → Store → Prop} {X : Ex → Store → Prop} (hF : FlowAt S i) (h0 : 0 < ds.length) (h1 : ds.length < 2 ^ 64) (q : ∀ d S', d ∈ ds → Fz i S S' → Q d S') : Pe (m_law_pick [.ref i, .lst ds] S) Q X := by
  refine v_fn ?_
  unfold b_law_pick
  walk_at "dv"
  refine draw_fz hF (by omega) ?_ fun v S' v0 v1 hz => ?_
  · have := Nat.log2_lt (n := ds.length) (k := 64) (by omega)
    simp only [Int.natAbs_natCast]
    omega
  · have hv : v.toNat < ds.length := by omega
    refine v_ix (d := ds[v.toNat]) ?_ ?_
    · have z : L2.atI ds ((v.toNat : Nat) : Int) = some ds[v.toNat] := atI_in (by simp [hv])
      rw [Int.toNat_of_nonneg v0] at z
      exact z
    · walk_at "dv"
      refine v_fin (.inr hz.len) ?_
      exact q _ _ (List.getElem_mem hv) hz
/-! the law -/
theorem cut_take {α : Type} (xs : List α) (k : Nat) : cutA xs none (some (k : Int)) = xs.take k := by
  unfold cutA
  rw [HT.sIx_nat, HT.sIx_none]
  simp only [List.drop_zero, Nat.sub_zero, Nat.min_def]
  split
  · rfl
  · rw [List.take_length, List.take_of_length_le (by omega)]
theorem flow_new {S : Store} {ns : List Int} {Q : Dt → Store → Prop} {X : Ex → Store → Prop} (q : ∀ S', S'.length = S.length + 1 → (∀ j : Nat, j < S.length → S'[j]? = S[j]?) → FlowAt S' S.length → Q (.ref S.length) S') : Pe (m_law_flow [.fz (ns.map Dt.int)] S) Q X := by
  refine v_fn ?_
  unfold b_law_flow
  walk_at "dv"
  refine q _ (by simp) (fun j hj => List.getElem?_append_left hj) ⟨⟨ns.take 63, 0, 0, 23⟩, ?_, show 23 < 2147483647 by decide⟩
  have e : cutA (List.map Dt.int ns) none (some 63) = (ns.take 63).map Dt.int := by
    rw [show (63 : Int) = ((63 : Nat) : Int) from rfl, cut_take, List.map_take]
  rw [List.getElem?_append_right (Nat.le_refl _), Nat.sub_self, e]
  rfl
/-! ### the same data are the same -/
theorem all_true : ∀ n : Nat, bools (List.replicate n (Dt.bl true)) = some (List.replicate n true)
  | 0 => rfl
  | n + 1 => by
    rw [List.replicate_succ, List.replicate_succ]
    show (bools (List.replicate n (Dt.bl true))).map (true :: ·) = _
    rw [all_true n]
    rfl
theorem range_mem {n : Nat} {d : Dt} (h : d ∈ rangeD 0 n) : ∃ k : Nat, k < n ∧ d = .int (0 + (k : Int)) := by
  unfold rangeD at h
  obtain ⟨k, hk, rfl⟩ := List.mem_map.mp h
  exact ⟨k, List.mem_range.mp hk, rfl⟩
theorem range_const (n : Nat) (x : Dt) : (rangeD 0 n).filterMap (fun _ => some x) = List.replicate n x := by
  unfold rangeD
  rw [List.filterMap_map]
  have e : ((fun _ => some x) ∘ fun (k : Nat) => Dt.int (0 + (k : Int))) = (fun k => some ((fun _ : Nat => x) k)) := rfl
  rw [e, List.filterMap_eq_map']
  simp [List.map_const']
theorem same_seq {S : Store} {k : Nat} {ds : List Dt} {x : Dt} (hx : x = .tup ds ∨ x = .lst ds) (hn : ds.length ≤ 100000) (ih : ∀ d ∈ ds, m_law_same k [d, d] S = .ok (.bl true) S) : Pe (m_law_same (k + 1) [x, x] S) (fun d S' => d = .bl true ∧ S' = S) X0 := by
  refine v_fn ?_
  unfold b_law_same
  have elem : ∀ (x : Dt) (j : Nat) (e1 : Dv.Env), (x = .tup ds ∨ x = .lst ds) → j < ds.length → e1 = [some x, some x, some (.int (0 + (j : Int)))] → Pe (mCall 2 (m_law_same k) (mCons (mOp mIx (mVar 0) (mVar 2)) (mCons (mOp mIx (mVar 1) (mVar 2)) mNil)) e1 S) (fun x S2 => S2 = S ∧ some (Dt.bl true) = some x) X0 := by
    intro x j e1 hx hj he
    subst he
    have ej : ds[j]? = some ds[j] := by simp [hj]
    have z : L2.atI ds (0 + (j : Int)) = some ds[j] := by
      rw [Int.zero_add]
      exact atI_in ej
    have zz : ixD S x (0 + (j : Int)) = some ds[j] := by rcases hx with rfl | rfl <;> exact z
    walk_at "dv"
    refine v_ix zz ?_
    walk_at "dv"
    refine v_ix zz ?_
    walk_at "dv"
    exact Pe.of (ih _ (List.getElem_mem hj)) ⟨rfl, rfl⟩
  have rest : ∀ {x : Dt} {en : Dv.Env} {Q : List Dt → Store → Prop} {X : Ex → Store → Prop}, (x = .tup ds ∨ x = .lst ds) → en = [some x, some x, none] → Q (List.replicate ds.length (.bl true)) S → Pe (cLoop (wNm 2) mYes
      (mCall 2 (m_law_same k) (mCons (mOp mIx (mVar 0) (mVar 2)) (mCons (mOp mIx (mVar 1) (mVar 2)) mNil))) en (rangeD 0 (ds.length : Int).toNat) [] S) Q X := by
    intro x en Q X hx he q
    subst he
    refine v_cloop (fun _ => some (.bl true)) (fun d hd => ?_) ?_ ?_
    · obtain ⟨j, hj, rfl⟩ := range_mem hd
      refine ⟨_, rfl, v_yes ⟨rfl, v_T ?_⟩⟩
      exact elem x j _ hx (by simpa using hj) rfl
    · simp [rangeD]
      omega
    · rw [List.nil_append, Int.toNat_natCast, range_const]
      exact q
  have fin : ∀ {Q : Dt → Store → Prop} {X : Ex → Store → Prop}, Q (.bl true) S → Pe (mAll [.lst (List.replicate ds.length (.bl true))] S) Q X := by
    intro Q X q
    unfold mAll
    simp only [asL, Option.bind_some, all_true]
    refine v_ok ?_
    have e : (List.replicate ds.length true).all (fun b => b) = true := by simp
    rw [e]
    exact q
  rcases hx with rfl | rfl
  · walk_at "dv"
    refine rest (.inl rfl) rfl ?_
    walk_at "dv"
    refine fin ?_
    walk_at "dv"
    rfl
  · walk_at "dv"
    refine rest (.inr rfl) rfl ?_
    walk_at "dv"
    refine fin ?_
    walk_at "dv"
    rfl
theorem same_int {S : Store} {k : Nat} {i : Int} : m_law_same (k + 1) [.int i, .int i] S = .ok (.bl true) S := by
  refine Pe.eq ?_
  refine v_fn ?_
  unfold b_law_same
  walk_at "dv"
  simp
/-! ### stores of pure objects, with others behind them -/
def pureO : Ob → Bool
  | .lst ds => ds.all (noRef 11)
  | .ins _ _ ds => ds.all (noRef 11)
  | .dct _ ds => ds.all (noRef 11)
  | .dkt _ ds => ds.all (noRef 11)
def PureS (S : Store) : Prop := ∀ o ∈ S, pureO o = true
theorem noRef_up : ∀ (k : Nat) (d : Dt), noRef k d = true → noRef (k + 1) d = true := by
  intro k
  induction k with
  | zero =>
    intro d h
    cases d <;> first | rfl | exact absurd h (by simp [noRef])
  | succ k ih =>
    intro d h
    have al : ∀ ds : List Dt, ds.all (noRef k) = true → ds.all (noRef (k + 1)) = true := fun ds h => List.all_eq_true.mpr fun x hx => ih x (List.all_eq_true.mp h x hx)
    cases d with
    | tup ds => exact al ds h
    | lst ds => exact al ds h
    | fz ds => exact al ds h
    | ins c ns ds => exact al ds h
    | dct ks ds => exact al ds h
    | ref i => exact absurd h (by simp [noRef])
    | _ => first | rfl | exact absurd h (by simp [noRef])
theorem mapO_pure {n : Nat} {S : Store} {k : Nat} : ∀ {ds : List Dt}, ds.all (noRef k) = true → mapO (frz n S k) ds = some ds
  | [], _ => rfl
  | d :: ds, h => by
    rw [List.all_cons, Bool.and_eq_true] at h
    unfold mapO
    rw [frz_pure h.1, mapO_pure h.2]
    rfl
theorem all_up {k : Nat} {ds : List Dt} (h : ds.all (noRef k) = true) : ds.all (noRef (k + 1)) = true := List.all_eq_true.mpr fun x hx => noRef_up k x (List.all_eq_true.mp h x hx)
theorem frzO_pure {n : Nat} {S : Store} {o : Ob} (h : pureO o = true) : frzO n S deepF o = some o := by
  cases o with
  | lst ds => simp [frzO, mapO_pure (show ds.all (noRef deepF) = true from all_up h)]
  | ins c ns ds => simp [frzO, mapO_pure (show ds.all (noRef deepF) = true from all_up h)]
  | dct ks ds => simp [frzO, mapO_pure (show ds.all (noRef deepF) = true from all_up h)]
  | dkt ks ds => simp [frzO, mapO_pure (show ds.all (noRef deepF) = true from all_up h)]
theorem mapOb_pure {n : Nat} {S : Store} : ∀ {T : Store}, PureS T → mapO (frzO n S deepF) T = some T
  | [], _ => rfl
  | o :: T, h => by
    unfold mapO
    rw [frzO_pure (h o List.mem_cons_self), mapOb_pure fun x hx => h x (List.mem_cons_of_mem _ hx)]
    rfl
theorem exit_pure {n : Nat} {S : Store} (h : PureS (S.take n)) : exitS n S = some (S.take n) := mapOb_pure h
theorem frz_ref {n k : Nat} {S : Store} {ds : List Dt} (hS : S[k]? = some (.lst ds)) (hk : n ≤ k) (h : ds.all (noRef 11) = true) : frz n S deepF (.ref k) = some (.lst ds) := by
  show frz n S (11 + 1) (.ref k) = _
  unfold frz
  rw [if_neg (by simp [noRef])]
  dsimp only
  rw [if_neg (by omega), hS]
  dsimp only
  rw [mapO_pure h]
  rfl
theorem v_finL {n : Nat} {d d' : Dt} {S : Store} {Q : Dt → Store → Prop} {X : Ex → Store → Prop} (hf : frz n S deepF d = some d') (hl : n < S.length) (h : PureS (S.take n)) (q : Q d' (S.take n)) : Pe (fin false n d S) Q X := by
  unfold fin
  rw [if_neg (by
    rintro (z | z)
    · cases z
    · omega), hf, exit_pure h]
  exact q
/-- S with junk behind it -/
structure Jz (S T : Store) : Prop where
  le : S.length ≤ T.length
  eq : T.take S.length = S
theorem Jz.refl {S : Store} : Jz S S := ⟨Nat.le_refl _, List.take_length⟩
theorem Jz.push {S T : Store} {o : Ob} (j : Jz S T) : Jz S (T ++ [o]) := ⟨by rw [List.length_append]; have := j.le; omega, by rw [List.take_append_of_le_length j.le]; exact j.eq⟩
theorem Jz.set {S T : Store} {k : Nat} {o : Ob} (j : Jz S T) (hk : S.length ≤ k) : Jz S (T.set k o) := ⟨by rw [List.length_set]; exact j.le, by rw [List.take_set_of_le hk]; exact j.eq⟩
/-- the list at k, by value -/
theorem v_finJ {S T : Store} {k : Nat} {ds : List Dt} {Q : Dt → Store → Prop} {X : Ex → Store → Prop} (j : Jz S T) (hp : PureS S) (hT : T[k]? = some (.lst ds)) (hk : S.length ≤ k) (h : ds.all (noRef 11) = true) (q : Q (.lst ds) S) : Pe (fin false S.length (.ref k) T) Q X := by
  have hl : k < T.length := (List.getElem?_eq_some_iff.mp hT).1
  refine v_finL (frz_ref hT hk h) (by omega) ?_ ?_
  · rw [j.eq]
    exact hp
  · rw [j.eq]
    exact q
theorem Fw.pure (f : Fw) : pureO f.ob = true := by
  simp [Fw.ob, Fw.ds, pureO, noRef]
theorem Fz.pure {i : Nat} {S S' : Store} (z : Fz i S S') (h : PureS S) : PureS S' := by
  intro o ho
  obtain ⟨j, hj, e⟩ := List.getElem_of_mem ho
  by_cases hi : j = i
  · subst hi
    obtain ⟨f, h1, _⟩ := z.flow
    rw [List.getElem?_eq_getElem hj] at h1
    rw [← e]
    have h3 := Option.some.inj h1
    have h4 := f.pure
    rw [← h3] at h4
    exact h4
  · have h2 := z.oth j hi
    rw [List.getElem?_eq_getElem hj] at h2
    rw [← e]
    exact h _ (List.mem_of_getElem? h2.symm)
/-- S, its flow drawn from, with junk behind it -/
structure Bz (i : Nat) (S T : Store) : Prop where
  lt : i < S.length
  le : S.length ≤ T.length
  fz : Fz i S (T.take S.length)
theorem FlowAt.lt {i : Nat} {S : Store} (h : FlowAt S i) : i < S.length := by
  obtain ⟨f, h1, _⟩ := h
  exact (List.getElem?_eq_some_iff.mp h1).1
theorem Bz.flow {i : Nat} {S T : Store} (b : Bz i S T) : FlowAt T i := by
  obtain ⟨f, h1, h2⟩ := b.fz.flow
  rw [List.getElem?_take_of_lt b.lt] at h1
  exact ⟨f, h1, h2⟩
theorem Bz.push {i : Nat} {S T : Store} {o : Ob} (b : Bz i S T) : Bz i S (T ++ [o]) := ⟨b.lt, by rw [List.length_append]; have := b.le; omega, by rw [List.take_append_of_le_length b.le]; exact b.fz⟩
theorem Bz.set {i : Nat} {S T : Store} {k : Nat} {o : Ob} (b : Bz i S T) (hk : S.length ≤ k) : Bz i S (T.set k o) := ⟨b.lt, by rw [List.length_set]; exact b.le, by rw [List.take_set_of_le hk]; exact b.fz⟩
end Lw
set_option Elab.async false
set_option linter.all false
set_option maxRecDepth 100000
set_option maxHeartbeats 4000000
set_option autoImplicit false
namespace Lw
open PySem Dv
/-! steps of our own words -/
local macro_rules | `(tactic| walk_at "num") => `(tactic| first | assumption | decide | omega)
local macro_rules | `(tactic| walk_at "dv0") => `(tactic| with_reducible first
  | refine v_seq ?_ | refine v_ifS ?_ | refine v_set ?_ | refine v_ret ?_ | refine v_asg ?_ | refine v_par ?_ | refine v_drop ?_ | refine v_nx ?_ | refine v_bk ?_ | refine v_ct ?_ | refine v_retN ?_ | refine v_for ?_
  | refine v_c ?_ | refine v_nil ?_ | refine v_cons ?_ | refine v_op ?_ | refine v_B ?_ | refine v_truth ?_ | refine v_andT ?_ | refine v_orT ?_ | refine v_notT ?_
  | refine v_andV ?_ | refine v_orV ?_ | refine v_notV ?_ | refine v_if ?_ | refine v_neg ?_ | refine v_chain ?_ | refine v_tup ?_ | refine v_lst ?_ | refine v_lstR ?_ | refine v_noPart ?_ | refine v_part ?_ | refine v_sl ?_
  | refine v_CB ?_ | refine v_call ?_ | refine v_abs ?_ | refine v_lc ?_ | refine v_yes ?_ | refine v_it ?_ | refine v_rng1 ?_ | refine v_rng2 ?_ | refine v_rng3 ?_ | refine v_T ?_ | refine v_F ?_
  | refine v_add ?_ | refine v_sub ?_ | refine v_iadd ?_ | refine v_lt ?_ | refine v_le ?_ | refine v_gt ?_ | refine v_ge ?_ | refine v_eqI ?_ | refine v_neI ?_ | refine v_eqB ?_ | refine v_neB ?_)
local macro_rules | `(tactic| walk_at "dv1") => `(tactic| first
  | (with_reducible refine' v_var ?h ?_); (case h => rfl)
  | (with_reducible refine' v_aug ?h ?_); (case h => rfl)
  | (with_reducible refine' v_div ?h1 ?h2 ?_); (case h1 => walk_at "num"); (case h2 => walk_at "num")
  | (with_reducible refine' v_mod ?h1 ?_); (case h1 => walk_at "num")
  | (with_reducible refine' v_pow ?h1 ?_); (case h1 => walk_at "num")
  | (with_reducible refine' v_mulR ?h1 ?_); (case h1 => walk_at "num")
  | (with_reducible refine' v_mulL ?h1 ?_); (case h1 => walk_at "num")
  | (with_reducible refine' v_fin ?h1 ?_); (case h1 => first | exact Or.inl rfl | exact Or.inr rfl | (refine Or.inr ?_; simp only [List.length_set, *]; done))
  | (with_reducible refine' v_ix ?h1 ?_); (case h1 => first | exact ixD_ref (by assumption) (by rfl) | rfl)
  | (with_reducible refine' v_len ?h1 ?_); (case h1 => first | exact lenD_ref (by assumption) | rfl)
  | (with_reducible refine' v_list ?h1 ?_); (case h1 => rfl)
  | (with_reducible refine' v_listR ?h1 ?_); (case h1 => rfl)
  | (with_reducible refine' v_tuple ?h1 ?_); (case h1 => rfl)
  | (with_reducible refine' v_isd ?h1 ?_); (case h1 => rfl)
  | (with_reducible refine' v_isiTy ?h1 ?h2 ?_); (case h1 => rfl); (case h2 => rfl)
  | (with_reducible refine' v_isiT ?h1 ?_); (case h1 => rfl))
local macro_rules | `(tactic| walk_at "dv2") => `(tactic| first
  | refine v_gsub (by rfl) (by rfl) (by assumption) (by rfl) (fun _ _ _ => ?_) | refine ⟨_, rfl, ?_⟩ | (with_reducible refine' ⟨rng_ok ?h1 ?h2, ?_⟩); (case h1 => omega); (case h2 => omega) | refine ⟨rfl, ?_⟩ | refine ⟨_, _, rfl, ?_⟩ | refine ⟨Nat.le_of_ble_eq_true rfl, ?_⟩)
local macro_rules | `(tactic| walk_at "dv3") => `(tactic| first
  | (with_reducible refine' v_dec (fun _ => ?_) (fun hn => absurd ?h hn)); (case h => first | assumption | omega | decide)
  | (with_reducible refine' v_dec (fun hn => absurd hn ?h) (fun _ => ?_)); (case h => first | assumption | omega | decide)
  | (with_reducible refine' v_ndec (fun _ => ?_) (fun hn => absurd hn ?h)); (case h => first | assumption | omega | decide)
  | (with_reducible refine' v_ndec (fun hn => absurd ?h hn) (fun _ => ?_)); (case h => first | assumption | omega | decide)
  | (with_reducible refine' v_bT ?h ?_); (case h => first | assumption | rfl)
  | (with_reducible refine' v_bF ?h ?_); (case h => first | assumption | rfl))
local macro_rules | `(tactic| walk_at "dv4") => `(tactic| with_reducible first
  | refine v_places ?_ | refine v_roads ?_ | refine v_over ?_ | refine v_line ?_ | refine v_spots ?_ | refine v_myards ?_ | refine v_mroads ?_ | refine v_mW (by decide +kernel) ?_ | refine v_mK (by decide +kernel) ?_
  | refine v_itX ?_ | refine v_ev ?_ | refine v_rev ?_ | refine v_zs ?_ | refine v_enum ?_ | refine v_enum2 ?_ | refine v_makeV ?_ | refine v_tryN ?_ | refine v_lc2 ?_ | refine v_fz ?_ | refine v_make ?_ | refine v_fldS ?_)
local macro_rules | `(tactic| walk_at "dv5") => `(tactic| first
  | refine ⟨_, _, rfl, rfl, ?_⟩ | refine ⟨⟨_, _, rfl⟩, ?_⟩ | refine ⟨⟨_, _, _, rfl⟩, ?_⟩ | refine ⟨_, _, _, rfl, ?_⟩ | refine Or.inl ⟨_, rfl, ?_⟩ | refine Or.inr ⟨_, (fun _ z => by cases z), rfl, ?_⟩)
local macro_rules | `(tactic| walk_at "dv") => `(tactic| repeat (first | walk_at "dv0" | walk_at "dv4" | walk_at "dv1" | walk_at "dv3" | walk_at "dv2" | walk_at "dv5"))
/-! ### webs as data -/
structure Road where
  n : Str
  b : Str
  e : Str
  h : Int
  t : Int
abbrev Road.d (r : Road) : Dt := .tup [.str r.n, .str r.b, .str r.e, .int r.h, .int r.t]
structure Mod where
  ys : List Str
  rs : List Road
abbrev Mod.ysD (m : Mod) : List Dt := m.ys.map Dt.str
abbrev Mod.rsD (m : Mod) : List Dt := m.rs.map Road.d
abbrev Mod.d (m : Mod) : Dt := modV (.lst m.ysD) (.lst m.rsD)
abbrev Mod.w (m : Mod) : Dt := webV (.tup m.ysD) (.tup m.rsD)
abbrev Step := Str × Int
abbrev stD (s : Step) : Dt := .tup [.str s.1, .int s.2]
def und (s : Step) : Step := (s.1, 0 - s.2)
def Mod.road (m : Mod) (n : Str) : Option Road := m.rs.find? fun r => decide (r.n = n)
def Road.ends (r : Road) (w : Int) : Str × Str := if w = 1 then (r.b, r.e) else (r.e, r.b)
def Road.rule (r : Road) (w : Int) : Int × Int := if w = 1 then (r.h, r.t) else (r.t, r.h)
structure Mod.Ok (m : Mod) : Prop where
  sr : ∀ r ∈ m.rs, PyData.strOk r.n = true ∧ PyData.strOk r.b = true ∧ PyData.strOk r.e = true
  sy : ∀ y ∈ m.ys, PyData.strOk y = true
  nd : (m.ys ++ m.rs.map Road.n).Nodup
  en : ∀ r ∈ m.rs, r.b ∈ m.ys ∧ r.e ∈ m.ys
  th : ∀ r ∈ m.rs, (r.h ≠ 0 ∧ r.h.natAbs ≤ 99) ∧ (r.t ≠ 0 ∧ r.t.natAbs ≤ 99)
  ly : m.ys.length ≤ 6
  lr : m.rs.length ≤ 8
theorem str_eq (a b : Str) : (a == b) = decide (a = b) := by
  by_cases h : a = b
  · subst h
    rw [decide_eq_true rfl]
    exact beq_self_eq_true a
  · rw [decide_eq_false h]
    exact beq_eq_false_iff_ne.mpr h
theorem v_eqS {a b : Str} {S : Store} {Q : Dt → Store → Prop} {X : Ex → Store → Prop} (ha : PyData.strOk a = true) (hb : PyData.strOk b = true) (q : Q (.bl (decide (a = b))) S) : Pe (mEq (.str a) (.str b) S) Q X := by
  refine v_ifok ⟨ha, hb⟩ ?_
  show Q (.bl (a == b)) S
  rw [str_eq]
  exact q
theorem v_neS {a b : Str} {S : Store} {Q : Dt → Store → Prop} {X : Ex → Store → Prop} (ha : PyData.strOk a = true) (hb : PyData.strOk b = true) (q : Q (.bl (!decide (a = b))) S) : Pe (mNe (.str a) (.str b) S) Q X := by
  refine v_ifok ⟨ha, hb⟩ ?_
  show Q (.bl (!(a == b))) S
  rw [str_eq]
  exact q
theorem eqD_st (s t : Step) : eqD (stD s) (stD t) = decide (s = t) := by
  obtain ⟨a, i⟩ := s
  obtain ⟨b, j⟩ := t
  show ((a == b) && ((i == j) && true)) = _
  rw [str_eq]
  have e : (i == j) = decide (i = j) := rfl
  rw [e, Bool.and_true, ← Bool.decide_and]
  congr 1
  simp [Prod.ext_iff]
theorem okD_st {s : Step} (h : PyData.strOk s.1 = true) (k : Nat) : okD (k + 1) (stD s) = true := by
  show [Dt.str s.1, Dt.int s.2].all (okD k) = true
  simp only [List.all_cons, List.all_nil, Bool.and_true]
  cases k <;> simp [okD, h]
theorem v_eqT {s t : Step} {S : Store} {Q : Dt → Store → Prop} {X : Ex → Store → Prop} (hs : PyData.strOk s.1 = true) (ht : PyData.strOk t.1 = true) (q : Q (.bl (decide (s = t))) S) : Pe (mEq (stD s) (stD t) S) Q X := by
  refine v_ifok ⟨okD_st hs 11, okD_st ht 11⟩ ?_
  show Q (.bl (eqD (stD s) (stD t))) S
  rw [eqD_st]
  exact q
theorem ix_zero (x : Dt) (l : List Dt) {S : Store} : ixD S (.lst (x :: l)) 0 = some x := atI_in (j := 0) (xs := x :: l) rfl
section
variable {m : Mod} {S : Store}
theorem road_in {n : Str} {r : Road} (h : m.road n = some r) : r ∈ m.rs ∧ r.n = n := by
  unfold Mod.road at h
  exact ⟨List.mem_of_find?_eq_some h, by simpa using List.find?_some h⟩
theorem road_of (ok : m.Ok) {r : Road} (h : r ∈ m.rs) : m.road r.n = some r := by
  have nd : (m.rs.map Road.n).Nodup := (List.nodup_append.mp ok.nd).2.1
  unfold Mod.road
  generalize m.rs = l at h nd
  induction l with
  | nil => cases h
  | cons x l ih =>
    rw [List.map_cons, List.nodup_cons] at nd
    rw [List.find?_cons]
    rcases List.mem_cons.mp h with e | h'
    · subst e
      simp
    · have hne : ¬ x.n = r.n := fun z => nd.1 (by rw [z]; exact List.mem_map_of_mem h')
      simp only [hne, decide_false]
      exact ih h' nd.2
def gRoad (n : Str) : Dt → Option Dt
  | .tup (.str a :: l) => if a = n then some (.tup (.str a :: l)) else none
  | _ => none
theorem gRoad_map (n : Str) : ∀ l : List Road, (l.map Road.d).filterMap (gRoad n) = (l.filter fun r => decide (r.n = n)).map Road.d
  | [] => rfl
  | r :: l => by
    rw [List.map_cons, List.filterMap_cons, List.filter_cons]
    by_cases h : r.n = n
    · have e : gRoad n r.d = some r.d := if_pos h
      rw [e, decide_eq_true h, if_pos rfl, gRoad_map n l]
      rfl
    · have e : gRoad n r.d = none := if_neg h
      rw [e, decide_eq_false h, if_neg Bool.false_ne_true, gRoad_map n l]
theorem law_road_ok (ok : m.Ok) {n : Str} {r : Road} (h : m.road n = some r) : m_law_road [m.d, .str n] S = .ok r.d S := by
  obtain ⟨hr, rfl⟩ := road_in h
  refine Pe.eq (v_fn ?_)
  unfold b_law_road
  walk_at "dv"
  refine v_cloop (gRoad r.n) (fun d hd => ?_) ?_ ?_
  · obtain ⟨x, hx, rfl⟩ := List.mem_map.mp hd
    refine ⟨_, rfl, ?_⟩
    walk_at "dv"
    refine v_eqS (ok.sr x hx).1 (ok.sr r hr).1 ?_
    refine ⟨_, rfl, rfl, ?_⟩
    refine v_dec (fun e => ?_) (fun e => ?_)
    · refine v_var rfl ⟨rfl, if_pos e⟩
    · exact if_neg e
  · have := ok.lr
    simp
    omega
  · rw [List.nil_append, gRoad_map]
    have hh : (m.rs.filter fun x => decide (x.n = r.n)).head? = some r := by
      rw [List.head?_filter]
      exact h
    cases hf : m.rs.filter fun x => decide (x.n = r.n) with
    | nil => rw [hf] at hh; cases hh
    | cons y l =>
      rw [hf] at hh
      cases hh
      walk_at "dv"
      refine v_ix (ix_zero _ _) ?_
      walk_at "dv"
      first | exact ⟨rfl, rfl⟩ | exact rfl
theorem law_rule_ok (ok : m.Ok) {s : Step} {r : Road} (h : m.road s.1 = some r) : m_law_rule [m.d, stD s] S = .ok (.tup [.int (r.rule s.2).1, .int (r.rule s.2).2]) S := by
  refine Pe.eq (v_fn ?_)
  unfold b_law_rule
  walk_at "dv"
  refine Pe.of (law_road_ok ok h) ?_
  walk_at "dv"
  unfold Road.rule
  refine v_dec (fun e => ?_) (fun e => ?_)
  · walk_at "dv"
    rw [if_pos e]
    first | exact ⟨rfl, rfl⟩ | exact rfl
  · walk_at "dv"
    rw [if_neg e]
    first | exact ⟨rfl, rfl⟩ | exact rfl
theorem law_undone_ok {s : Step} : m_law_undone [stD s] S = .ok (stD (und s)) S := by
  refine Pe.eq (v_fn ?_)
  unfold b_law_undone
  walk_at "dv"
  first | exact ⟨rfl, rfl⟩ | exact rfl
theorem web_road_ok (ok : m.Ok) {n : Str} {r : Road} (h : m.road n = some r) : m_Web_road_of [m.w, .str n] S = .ok r.d S := by
  obtain ⟨hr, rfl⟩ := road_in h
  refine Pe.eq (v_fn ?_)
  unfold b_Web_road_of
  walk_at "dv"
  refine v_loop (fun ds en S' => ∃ (l : List Road) (x : Option Dt), ds = l.map Road.d ∧ (∀ y ∈ l, y ∈ m.rs) ∧ l.find? (fun y => decide (y.n = r.n)) = some r ∧ en = [some m.w, some (.str r.n), x] ∧ S' = S) ⟨m.rs, _, rfl, fun _ h => h, h, rfl, rfl⟩ ?_ ?_
  · rintro d ds en S' ⟨l, x, e1, hm, hf, rfl, rfl⟩
    cases l with
    | nil => cases e1
    | cons y l =>
      cases e1
      refine ⟨_, _, rfl, ?_⟩
      walk_at "dv"
      refine v_eqS (ok.sr y (hm y List.mem_cons_self)).1 (ok.sr r hr).1 ?_
      refine ⟨_, rfl, ?_⟩
      rw [List.find?_cons] at hf
      refine v_dec (fun e => ?_) (fun e => ?_)
      · rw [decide_eq_true e] at hf
        cases hf
        walk_at "dv"
        first | exact ⟨rfl, rfl⟩ | exact rfl
      · rw [decide_eq_false e] at hf
        walk_at "dv"
        exact ⟨l, _, rfl, fun z hz => hm z (List.mem_cons_of_mem _ hz), hf, rfl, rfl⟩
  · rintro en S' ⟨l, x, e1, hm, hf, rfl, rfl⟩
    cases l with
    | nil => cases hf
    | cons y l => cases e1
theorem web_so_ok (ok : m.Ok) {s : Step} {r : Road} (h : m.road s.1 = some r) (hw : s.2 = 1 ∨ s.2 = -1) : m_Web_turned_so [m.w, stD s, .int 1] S = .ok (.tup [.str (r.ends s.2).1, .str (r.ends s.2).2]) S ∧ m_Web_turned_so [m.w, stD s, .int 3] S = .ok (.tup [.int (r.rule s.2).1, .int (r.rule s.2).2]) S := by
  have go : ∀ (at_ : Int) (a b : Dt), (∀ S, ixD S r.d at_ = some a ∧ ixD S r.d (at_ + 1) = some b) → m_Web_turned_so [m.w, stD s, .int at_] S = .ok (if s.2 = 1 then .tup [a, b] else .tup [b, a]) S := by
    intro at_ a b hab
    refine Pe.eq (v_fn ?_)
    unfold b_Web_turned_so
    walk_at "dv"
    refine Pe.of (web_road_ok ok h) ?_
    walk_at "dv"
    refine v_bF (by rcases hw with e | e <;> rw [e] <;> rfl) ?_
    walk_at "dv"
    refine v_dec (fun e => ?_) (fun e => ?_)
    · walk_at "dv"
      refine v_ix (hab S).1 ?_
      walk_at "dv"
      refine v_ix (hab S).2 ?_
      walk_at "dv"
      rw [if_pos e]
      first | exact ⟨rfl, rfl⟩ | exact rfl
    · walk_at "dv"
      refine v_ix (hab S).2 ?_
      walk_at "dv"
      refine v_ix (hab S).1 ?_
      walk_at "dv"
      rw [if_neg e]
      first | exact ⟨rfl, rfl⟩ | exact rfl
  constructor
  · rw [go 1 (.str r.b) (.str r.e) fun S => ⟨rfl, rfl⟩]
    unfold Road.ends
    split <;> rfl
  · rw [go 3 (.int r.h) (.int r.t) fun S => ⟨rfl, rfl⟩]
    unfold Road.rule
    split <;> rfl
theorem web_ends_ok (ok : m.Ok) {s : Step} {r : Road} (h : m.road s.1 = some r) (hw : s.2 = 1 ∨ s.2 = -1) : m_Web_ends [m.w, stD s] S = .ok (.tup [.str (r.ends s.2).1, .str (r.ends s.2).2]) S := by
  refine Pe.eq (v_fn ?_)
  unfold b_Web_ends
  walk_at "dv"
  refine Pe.of (web_so_ok ok h hw).1 ?_
  walk_at "dv"
  first | exact ⟨rfl, rfl⟩ | exact rfl
theorem web_rule_ok (ok : m.Ok) {s : Step} {r : Road} (h : m.road s.1 = some r) (hw : s.2 = 1 ∨ s.2 = -1) : m_Web_rule [m.w, stD s] S = .ok (.tup [.int (r.rule s.2).1, .int (r.rule s.2).2]) S := by
  refine Pe.eq (v_fn ?_)
  unfold b_Web_rule
  walk_at "dv"
  refine Pe.of (web_so_ok ok h hw).2 ?_
  walk_at "dv"
  first | exact ⟨rfl, rfl⟩ | exact rfl
end
end Lw
set_option Elab.async false
set_option linter.all false
set_option maxRecDepth 100000
set_option maxHeartbeats 4000000
set_option autoImplicit false
namespace Lw
open PySem Dv
/-! steps of our own words -/
local macro_rules | `(tactic| walk_at "num") => `(tactic| first | assumption | decide | omega)
local macro_rules | `(tactic| walk_at "dv0") => `(tactic| with_reducible first
  | refine v_seq ?_ | refine v_ifS ?_ | refine v_set ?_ | refine v_ret ?_ | refine v_asg ?_ | refine v_par ?_ | refine v_drop ?_ | refine v_nx ?_ | refine v_bk ?_ | refine v_ct ?_ | refine v_retN ?_ | refine v_for ?_
  | refine v_c ?_ | refine v_nil ?_ | refine v_cons ?_ | refine v_op ?_ | refine v_B ?_ | refine v_truth ?_ | refine v_andT ?_ | refine v_orT ?_ | refine v_notT ?_
  | refine v_andV ?_ | refine v_orV ?_ | refine v_notV ?_ | refine v_if ?_ | refine v_neg ?_ | refine v_chain ?_ | refine v_tup ?_ | refine v_lst ?_ | refine v_lstR ?_ | refine v_noPart ?_ | refine v_part ?_ | refine v_sl ?_
  | refine v_CB ?_ | refine v_call ?_ | refine v_abs ?_ | refine v_lc ?_ | refine v_yes ?_ | refine v_it ?_ | refine v_rng1 ?_ | refine v_rng2 ?_ | refine v_rng3 ?_ | refine v_T ?_ | refine v_F ?_
  | refine v_add ?_ | refine v_sub ?_ | refine v_iadd ?_ | refine v_lt ?_ | refine v_le ?_ | refine v_gt ?_ | refine v_ge ?_ | refine v_eqI ?_ | refine v_neI ?_ | refine v_eqB ?_ | refine v_neB ?_)
local macro_rules | `(tactic| walk_at "dv1") => `(tactic| first
  | (with_reducible refine' v_var ?h ?_); (case h => rfl)
  | (with_reducible refine' v_aug ?h ?_); (case h => rfl)
  | (with_reducible refine' v_div ?h1 ?h2 ?_); (case h1 => walk_at "num"); (case h2 => walk_at "num")
  | (with_reducible refine' v_mod ?h1 ?_); (case h1 => walk_at "num")
  | (with_reducible refine' v_pow ?h1 ?_); (case h1 => walk_at "num")
  | (with_reducible refine' v_mulR ?h1 ?_); (case h1 => walk_at "num")
  | (with_reducible refine' v_mulL ?h1 ?_); (case h1 => walk_at "num")
  | (with_reducible refine' v_fin ?h1 ?_); (case h1 => first | exact Or.inl rfl | exact Or.inr rfl | (refine Or.inr ?_; simp only [List.length_set, *]; done))
  | (with_reducible refine' v_ix ?h1 ?_); (case h1 => first | exact ixD_ref (by assumption) (by rfl) | rfl)
  | (with_reducible refine' v_len ?h1 ?_); (case h1 => first | exact lenD_ref (by assumption) | rfl)
  | (with_reducible refine' v_list ?h1 ?_); (case h1 => rfl)
  | (with_reducible refine' v_listR ?h1 ?_); (case h1 => rfl)
  | (with_reducible refine' v_tuple ?h1 ?_); (case h1 => rfl)
  | (with_reducible refine' v_isd ?h1 ?_); (case h1 => rfl)
  | (with_reducible refine' v_isiTy ?h1 ?h2 ?_); (case h1 => rfl); (case h2 => rfl)
  | (with_reducible refine' v_isiT ?h1 ?_); (case h1 => rfl))
local macro_rules | `(tactic| walk_at "dv2") => `(tactic| first
  | refine v_gsub (by rfl) (by rfl) (by assumption) (by rfl) (fun _ _ _ => ?_) | refine ⟨_, rfl, ?_⟩ | (with_reducible refine' ⟨rng_ok ?h1 ?h2, ?_⟩); (case h1 => omega); (case h2 => omega) | refine ⟨rfl, ?_⟩ | refine ⟨_, _, rfl, ?_⟩ | refine ⟨Nat.le_of_ble_eq_true rfl, ?_⟩)
local macro_rules | `(tactic| walk_at "dv3") => `(tactic| first
  | (with_reducible refine' v_dec (fun _ => ?_) (fun hn => absurd ?h hn)); (case h => first | assumption | omega | decide)
  | (with_reducible refine' v_dec (fun hn => absurd hn ?h) (fun _ => ?_)); (case h => first | assumption | omega | decide)
  | (with_reducible refine' v_ndec (fun _ => ?_) (fun hn => absurd hn ?h)); (case h => first | assumption | omega | decide)
  | (with_reducible refine' v_ndec (fun hn => absurd ?h hn) (fun _ => ?_)); (case h => first | assumption | omega | decide)
  | (with_reducible refine' v_bT ?h ?_); (case h => first | assumption | rfl)
  | (with_reducible refine' v_bF ?h ?_); (case h => first | assumption | rfl))
local macro_rules | `(tactic| walk_at "dv4") => `(tactic| with_reducible first
  | refine v_places ?_ | refine v_roads ?_ | refine v_over ?_ | refine v_line ?_ | refine v_spots ?_ | refine v_myards ?_ | refine v_mroads ?_ | refine v_mW (by decide +kernel) ?_ | refine v_mK (by decide +kernel) ?_
  | refine v_itX ?_ | refine v_ev ?_ | refine v_rev ?_ | refine v_zs ?_ | refine v_enum ?_ | refine v_enum2 ?_ | refine v_makeV ?_ | refine v_tryN ?_ | refine v_lc2 ?_ | refine v_fz ?_ | refine v_make ?_ | refine v_fldS ?_)
local macro_rules | `(tactic| walk_at "dv5") => `(tactic| first
  | refine ⟨_, _, rfl, rfl, ?_⟩ | refine ⟨⟨_, _, rfl⟩, ?_⟩ | refine ⟨⟨_, _, _, rfl⟩, ?_⟩ | refine ⟨_, _, _, rfl, ?_⟩ | refine Or.inl ⟨_, rfl, ?_⟩ | refine Or.inr ⟨_, (fun _ z => by cases z), rfl, ?_⟩)
local macro_rules | `(tactic| walk_at "dv") => `(tactic| repeat (first | walk_at "dv0" | walk_at "dv4" | walk_at "dv1" | walk_at "dv3" | walk_at "dv2" | walk_at "dv5"))
/-! ### webs that are built -/
theorem v_loop0 {g : Dt → Dv.Env → Store → Option (Dv.Env × Store)} {ba : Dv.Env → Store → RS} {en : Dv.Env} {S : Store} {QS : Fl → Dv.Env → Store → Prop} {XS : Ex → Dv.Env → Store → Prop} (q : QS .nx en S) : Ps (fLoop g ba [] en S) QS XS := q
theorem v_loop1 {g : Dt → Dv.Env → Store → Option (Dv.Env × Store)} {ba : Dv.Env → Store → RS} {en : Dv.Env} {S : Store} {d : Dt} {ds : List Dt} {QS : Fl → Dv.Env → Store → Prop} {XS : Ex → Dv.Env → Store → Prop}
    (h : ∃ e1 S1, g d en S = some (e1, S1) ∧ Ps (ba e1 S1) (fun f e2 S2 => match f with | .nx => Ps (fLoop g ba ds e2 S2) QS XS | .ct => Ps (fLoop g ba ds e2 S2) QS XS | .bk => QS .nx e2 S2 | .rt d => QS (.rt d) e2 S2) XS) : Ps (fLoop g ba (d :: ds) en S) QS XS := by
  obtain ⟨e1, S1, e, k⟩ := h
  unfold fLoop
  rw [e]
  dsimp only
  cases eb : ba e1 S1 with
  | stuck => rw [eb] at k; exact k
  | err x e2 S2 => rw [eb] at k; exact k
  | ok f e2 S2 =>
    rw [eb] at k
    cases f <;> exact k
theorem setFld_ins {S : Store} {k : Nat} {c : String} {ns : List Str} {ds : List Dt} {f : Str} {d : Dt} {cs : List String} (hS : S[k]? = some (.ins c ns ds)) (hc : c ∈ cs) (hl : ns.length < 1000) : setFld cs f S (.ref k) d = some (S.set k (.ins c (putN f ns) (putW f d ns ds))) := by
  unfold setFld
  simp only [hS]
  rw [if_pos ⟨hc, hl⟩]
theorem putN_r : putN ("roads" : Str) [("places" : Str)] = wF := by decide +kernel
theorem putW_r (a b : Dt) : putW ("roads" : Str) b [("places" : Str)] [a] = [a, b] := by
  unfold putW
  rw [if_neg (by decide +kernel)]
  rfl
theorem putN_p2 : putN ("places" : Str) wF = wF := by decide +kernel
theorem putW_p2 (a b x : Dt) : putW ("places" : Str) x wF [a, b] = [x, b] := by
  unfold putW
  rw [if_pos rfl]
theorem putN_r2 : putN ("roads" : Str) wF = wF := by decide +kernel
theorem putW_r2 (a b x : Dt) : putW ("roads" : Str) x wF [a, b] = [a, x] := by
  unfold putW
  rw [if_neg (by decide +kernel)]
  unfold putW
  rw [if_pos rfl]
theorem frz_refI {n k : Nat} {S : Store} {c : String} {ns : List Str} {ds : List Dt} (hS : S[k]? = some (.ins c ns ds)) (hk : n ≤ k) (h : ds.all (noRef 11) = true) : frz n S deepF (.ref k) = some (.ins c ns ds) := by
  show frz n S (11 + 1) (.ref k) = _
  unfold frz
  rw [if_neg (by simp [noRef])]
  dsimp only
  rw [if_neg (by omega), hS]
  dsimp only
  rw [mapO_pure h]
  rfl
/-- the instance at k, by value -/
theorem v_finI {S T : Store} {k : Nat} {c : String} {ns : List Str} {ds : List Dt} {Q : Dt → Store → Prop} {X : Ex → Store → Prop} (j : Jz S T) (hp : PureS S) (hT : T[k]? = some (.ins c ns ds)) (hk : S.length ≤ k) (h : ds.all (noRef 11) = true) (q : Q (.ins c ns ds) S) : Pe (fin false S.length (.ref k) T) Q X := by
  have hl : k < T.length := (List.getElem?_eq_some_iff.mp hT).1
  refine v_finL (frz_refI hT hk h) (by omega) ?_ ?_
  · rw [j.eq]
    exact hp
  · rw [j.eq]
    exact q
theorem last_at {S : Store} {o : Ob} : (S ++ [o])[S.length]? = some o := by simp
theorem strs_pure (l : List Str) (k : Nat) : (l.map Dt.str).all (noRef k) = true := by
  rw [List.all_eq_true]
  intro x hx
  obtain ⟨s, _, rfl⟩ := List.mem_map.mp hx
  cases k <;> rfl
theorem road_pure (r : Road) (k : Nat) : noRef (k + 1) r.d = true := by
  show [Dt.str r.n, .str r.b, .str r.e, .int r.h, .int r.t].all (noRef k) = true
  cases k <;> rfl
theorem roads_pure (l : List Road) (k : Nat) : (l.map Road.d).all (noRef (k + 1)) = true := by
  rw [List.all_eq_true]
  intro x hx
  obtain ⟨s, _, rfl⟩ := List.mem_map.mp hx
  exact road_pure s k
theorem mod_pure (m : Mod) : [Dt.tup m.ysD, .tup m.rsD].all (noRef 11) = true := by
  simp only [List.all_cons, List.all_nil, Bool.and_true, Bool.and_eq_true]
  exact ⟨strs_pure m.ys 10, roads_pure m.rs 9⟩
section
variable {m : Mod} {S : Store}
theorem web_init_ok {k : Nat} (hS : S[k]? = some (.ins "Web" [] [])) {Q : Dt → Store → Prop} {X : Ex → Store → Prop} (q : Q .non (S.set k (.ins "Web" wF [.tup [], .tup []]))) : Pe (m_Web_dinit [.ref k] S) Q X := by
  refine v_fn ?_
  unfold b_Web_dinit
  walk_at "dv"
  refine ⟨_, setFld_ins hS (List.mem_singleton.mpr rfl) (by decide), ?_⟩
  walk_at "dv"
  refine ⟨_, setFld_ins (set_same hS) (List.mem_singleton.mpr rfl) (by decide), ?_⟩
  dsimp only
  refine v_fin (.inr (by simp)) ?_
  rw [List.set_set, show putN ("roads" : Str) (putN ("places" : Str) []) = wF from putN_r, show putW ("roads" : Str) (Dt.tup []) (putN ("places" : Str) []) (putW ("places" : Str) (Dt.tup []) [] []) = [Dt.tup [], Dt.tup []] from putW_r _ _]
  exact q
theorem turned_ok (hp : PureS S) {x a b : Dt} {ys : List Str} {rs : List Road} (ha : asS S a = some (ys.map Dt.str)) (hb : asS S b = some (rs.map Road.d)) (ht : ∀ T, asS (S ++ T) a = asS S a ∧ asS (S ++ T) b = asS S b) : m_Web_turned [x, a, b] S = .ok (Mod.mk ys rs).w S := by
  refine Pe.eq (v_fn ?_)
  unfold b_Web_turned
  walk_at "dv"
  refine web_init_ok last_at ⟨rfl, ?_⟩
  have e0 : (S ++ [Ob.ins "Web" [] []]).set S.length (.ins "Web" wF [.tup [], .tup []]) = S ++ [.ins "Web" wF [.tup [], .tup []]] := by
    rw [List.set_append_right _ _ (Nat.le_refl _), Nat.sub_self]
    rfl
  rw [e0]
  walk_at "dv"
  refine v_tuple ((ht _).1.trans ha) ?_
  walk_at "dv"
  refine v_tuple ((ht _).2.trans hb) ?_
  walk_at "dv"
  refine ⟨[some x, some a, some b, some (.ref S.length)], S ++ [.ins "Web" wF [.tup (ys.map Dt.str), .tup (rs.map Road.d)]], ?_, ?_⟩
  · have s1 : gFldD ["Web"] "places" (mVar 3) (.tup (ys.map Dt.str)) [some x, some a, some b, some (.ref S.length)] (S ++ [.ins "Web" wF [.tup [], .tup []]]) = some ([some x, some a, some b, some (.ref S.length)], S ++ [.ins "Web" wF [.tup (ys.map Dt.str), .tup []]]) := by
      unfold gFldD
      show (setFld ["Web"] "places" _ (.ref S.length) _).map _ = _
      rw [setFld_ins last_at (List.mem_singleton.mpr rfl) (by decide), putN_p2, putW_p2, List.set_append_right _ _ (Nat.le_refl _), Nat.sub_self]
      rfl
    have s2 : gFldD ["Web"] "roads" (mVar 3) (.tup (rs.map Road.d)) [some x, some a, some b, some (.ref S.length)] (S ++ [.ins "Web" wF [.tup (ys.map Dt.str), .tup []]]) = some ([some x, some a, some b, some (.ref S.length)], S ++ [.ins "Web" wF [.tup (ys.map Dt.str), .tup (rs.map Road.d)]]) := by
      unfold gFldD
      show (setFld ["Web"] "roads" _ (.ref S.length) _).map _ = _
      rw [setFld_ins last_at (List.mem_singleton.mpr rfl) (by decide), putN_r2, putW_r2, List.set_append_right _ _ (Nat.le_refl _), Nat.sub_self]
      rfl
    show (match gFldD ["Web"] "places" (mVar 3) (.tup (ys.map Dt.str)) [some x, some a, some b, some (.ref S.length)] (S ++ [.ins "Web" wF [.tup [], .tup []]]) with | some (e1, S1) => _ | none => none) = _
    rw [s1]
    show (match gFldD ["Web"] "roads" (mVar 3) (.tup (rs.map Road.d)) [some x, some a, some b, some (.ref S.length)] (S ++ [.ins "Web" wF [.tup (ys.map Dt.str), .tup []]]) with | some (e1, S1) => _ | none => none) = _
    rw [s2]
    rfl
  · walk_at "dv"
    exact v_finI Jz.refl.push hp last_at (Nat.le_refl _) (mod_pure ⟨ys, rs⟩) ⟨rfl, rfl⟩
end
end Lw
set_option Elab.async false
set_option linter.all false
set_option maxRecDepth 100000
set_option maxHeartbeats 4000000
set_option autoImplicit false
namespace Lw
open PySem Dv
/-! steps of our own words -/
local macro_rules | `(tactic| walk_at "num") => `(tactic| first | assumption | decide | omega)
local macro_rules | `(tactic| walk_at "dv0") => `(tactic| with_reducible first
  | refine v_seq ?_ | refine v_ifS ?_ | refine v_set ?_ | refine v_ret ?_ | refine v_asg ?_ | refine v_par ?_ | refine v_drop ?_ | refine v_nx ?_ | refine v_bk ?_ | refine v_ct ?_ | refine v_retN ?_ | refine v_for ?_
  | refine v_c ?_ | refine v_nil ?_ | refine v_cons ?_ | refine v_op ?_ | refine v_B ?_ | refine v_truth ?_ | refine v_andT ?_ | refine v_orT ?_ | refine v_notT ?_
  | refine v_andV ?_ | refine v_orV ?_ | refine v_notV ?_ | refine v_if ?_ | refine v_neg ?_ | refine v_chain ?_ | refine v_tup ?_ | refine v_lst ?_ | refine v_lstR ?_ | refine v_noPart ?_ | refine v_part ?_ | refine v_sl ?_
  | refine v_CB ?_ | refine v_call ?_ | refine v_abs ?_ | refine v_lc ?_ | refine v_yes ?_ | refine v_it ?_ | refine v_rng1 ?_ | refine v_rng2 ?_ | refine v_rng3 ?_ | refine v_T ?_ | refine v_F ?_
  | refine v_add ?_ | refine v_sub ?_ | refine v_iadd ?_ | refine v_lt ?_ | refine v_le ?_ | refine v_gt ?_ | refine v_ge ?_ | refine v_eqI ?_ | refine v_neI ?_ | refine v_eqB ?_ | refine v_neB ?_)
local macro_rules | `(tactic| walk_at "dv1") => `(tactic| first
  | (with_reducible refine' v_var ?h ?_); (case h => rfl)
  | (with_reducible refine' v_aug ?h ?_); (case h => rfl)
  | (with_reducible refine' v_div ?h1 ?h2 ?_); (case h1 => walk_at "num"); (case h2 => walk_at "num")
  | (with_reducible refine' v_mod ?h1 ?_); (case h1 => walk_at "num")
  | (with_reducible refine' v_pow ?h1 ?_); (case h1 => walk_at "num")
  | (with_reducible refine' v_mulR ?h1 ?_); (case h1 => walk_at "num")
  | (with_reducible refine' v_mulL ?h1 ?_); (case h1 => walk_at "num")
  | (with_reducible refine' v_fin ?h1 ?_); (case h1 => first | exact Or.inl rfl | exact Or.inr rfl | (refine Or.inr ?_; simp only [List.length_set, *]; done))
  | (with_reducible refine' v_ix ?h1 ?_); (case h1 => first | exact ixD_ref (by assumption) (by rfl) | rfl)
  | (with_reducible refine' v_len ?h1 ?_); (case h1 => first | exact lenD_ref (by assumption) | rfl)
  | (with_reducible refine' v_list ?h1 ?_); (case h1 => rfl)
  | (with_reducible refine' v_listR ?h1 ?_); (case h1 => rfl)
  | (with_reducible refine' v_tuple ?h1 ?_); (case h1 => rfl)
  | (with_reducible refine' v_isd ?h1 ?_); (case h1 => rfl)
  | (with_reducible refine' v_isiTy ?h1 ?h2 ?_); (case h1 => rfl); (case h2 => rfl)
  | (with_reducible refine' v_isiT ?h1 ?_); (case h1 => rfl))
local macro_rules | `(tactic| walk_at "dv2") => `(tactic| first
  | refine v_gsub (by rfl) (by rfl) (by assumption) (by rfl) (fun _ _ _ => ?_) | refine ⟨_, rfl, ?_⟩ | (with_reducible refine' ⟨rng_ok ?h1 ?h2, ?_⟩); (case h1 => omega); (case h2 => omega) | refine ⟨rfl, ?_⟩ | refine ⟨_, _, rfl, ?_⟩ | refine ⟨Nat.le_of_ble_eq_true rfl, ?_⟩)
local macro_rules | `(tactic| walk_at "dv3") => `(tactic| first
  | (with_reducible refine' v_dec (fun _ => ?_) (fun hn => absurd ?h hn)); (case h => first | assumption | omega | decide)
  | (with_reducible refine' v_dec (fun hn => absurd hn ?h) (fun _ => ?_)); (case h => first | assumption | omega | decide)
  | (with_reducible refine' v_ndec (fun _ => ?_) (fun hn => absurd hn ?h)); (case h => first | assumption | omega | decide)
  | (with_reducible refine' v_ndec (fun hn => absurd ?h hn) (fun _ => ?_)); (case h => first | assumption | omega | decide)
  | (with_reducible refine' v_bT ?h ?_); (case h => first | assumption | rfl)
  | (with_reducible refine' v_bF ?h ?_); (case h => first | assumption | rfl))
local macro_rules | `(tactic| walk_at "dv4") => `(tactic| with_reducible first
  | refine v_places ?_ | refine v_roads ?_ | refine v_over ?_ | refine v_line ?_ | refine v_spots ?_ | refine v_myards ?_ | refine v_mroads ?_ | refine v_mW (by decide +kernel) ?_ | refine v_mK (by decide +kernel) ?_
  | refine v_itX ?_ | refine v_ev ?_ | refine v_rev ?_ | refine v_zs ?_ | refine v_enum ?_ | refine v_enum2 ?_ | refine v_makeV ?_ | refine v_tryN ?_ | refine v_lc2 ?_ | refine v_fz ?_ | refine v_make ?_ | refine v_fldS ?_)
local macro_rules | `(tactic| walk_at "dv5") => `(tactic| first
  | refine ⟨_, _, rfl, rfl, ?_⟩ | refine ⟨⟨_, _, rfl⟩, ?_⟩ | refine ⟨⟨_, _, _, rfl⟩, ?_⟩ | refine ⟨_, _, _, rfl, ?_⟩ | refine Or.inl ⟨_, rfl, ?_⟩ | refine Or.inr ⟨_, (fun _ z => by cases z), rfl, ?_⟩)
local macro_rules | `(tactic| walk_at "dv") => `(tactic| repeat (first | walk_at "dv0" | walk_at "dv4" | walk_at "dv1" | walk_at "dv3" | walk_at "dv2" | walk_at "dv5"))
/-! ### names, yards and passages more -/
def letters : Str := "abcdefghijklmnopqrstuvwxyz"
def nameOk (s : Str) : Bool := decide (1 ≤ s.length) && decide (s.length ≤ 8) && s.cps.toList.all fun c => decide (c ∈ letters.cps.toList)
theorem signs_true (l : List Nat) : (l.map fun c => Dt.str ⟨#[c]⟩).filterMap (fun _ => some (Dt.bl true)) = List.replicate l.length (Dt.bl true) := by
  induction l with
  | nil => rfl
  | cons c l ih =>
    rw [List.map_cons, List.filterMap_cons, ih]
    rfl
theorem len_cps (s : Str) : s.cps.toList.length = s.length := by
  rw [Array.length_toList]
  rfl
section
variable {m : Mod} {S : Store}
theorem is_name_ok {s : Str} (h : nameOk s = true) : m_is_name [.str s] S = .ok (.bl true) S := by
  unfold nameOk at h
  rw [Bool.and_eq_true, Bool.and_eq_true] at h
  have h1 : 1 ≤ s.length := of_decide_eq_true h.1.1
  have h2 : s.length ≤ 8 := of_decide_eq_true h.1.2
  refine Pe.eq (v_fn ?_)
  unfold b_is_name
  walk_at "dv"
  refine v_len (n := s.length) (if_pos (by omega)) ?_
  refine v_le ?_
  refine ⟨true, by rw [decide_eq_true (by omega : (1 : Int) ≤ (s.length : Int))], ?_⟩
  walk_at "dv"
  refine v_cloop (fun _ => some (.bl true)) (fun d hd => ?_) ?_ ?_
  · obtain ⟨c, hc, rfl⟩ := List.mem_map.mp hd
    refine ⟨_, rfl, v_yes ⟨rfl, v_T ?_⟩⟩
    walk_at "dv"
    have hin : c ∈ letters.cps.toList := of_decide_eq_true (List.all_eq_true.mp h.2 c hc)
    show some (Dt.bl true) = some (Dt.bl (decide (c ∈ letters.cps.toList)))
    rw [decide_eq_true hin]
  · unfold strs1
    rw [List.length_map, len_cps, List.length_nil]
    omega
  · rw [List.nil_append, strs1, signs_true]
    walk_at "dv"
    unfold mAll
    simp only [asL, Option.bind_some, all_true]
    refine v_ok ?_
    walk_at "dv"
    simp
theorem in_strs (x : Str) : ∀ l : List Str, ((l.map Dt.str).any fun z => eqD z (.str x)) = decide (x ∈ l)
  | [] => rfl
  | y :: l => by
    rw [List.map_cons, List.any_cons, in_strs x l]
    show ((y == x) || _) = _
    rw [str_eq, ← Bool.decide_or]
    congr 1
    simp only [List.mem_cons, eq_comm]
theorem flat_strs (l : List Str) : (l.map Dt.str).all flatD = true := by
  rw [List.all_eq_true]
  intro d hd
  obtain ⟨s, _, rfl⟩ := List.mem_map.mp hd
  rfl
theorem v_inS {neg : Bool} {x : Str} {l : List Str} {y : Dt} {Q : Dt → Store → Prop} {X : Ex → Store → Prop} (hy : ∀ s, y ≠ .str s) (ha : asS S y = some (l.map Dt.str)) (q : Q (.bl (if neg then !decide (x ∈ l) else decide (x ∈ l))) S) : Pe (mIn neg (.str x) y S) Q X := by
  have e : mIn neg (.str x) y S = .ok (.bl (if neg then !decide (x ∈ l) else decide (x ∈ l))) S := by
    unfold mIn
    split
    · rename_i b
      exact absurd rfl (hy b)
    · rw [ha]
      dsimp only
      rw [if_pos ⟨rfl, flat_strs l⟩, in_strs]
  rw [e]
  exact q
theorem need_yard_ok {y : Str} (h : y ∈ m.ys) : m_Web_need_yard [m.w, .str y] S = .ok .non S := by
  refine Pe.eq (v_fn ?_)
  unfold b_Web_need_yard
  walk_at "dv"
  refine v_inS (l := m.ys) (fun s z => by cases z) rfl ?_
  refine ⟨_, rfl, ?_⟩
  refine v_bF (by rw [decide_eq_true h]; rfl) ?_
  walk_at "dv"
  first | exact ⟨rfl, rfl⟩ | exact rfl
theorem need_new_ok {y : Str} (hl : m.rs.length ≤ 100) (hn : nameOk y = true) (h1 : y ∉ m.ys) (h2 : y ∉ m.rs.map Road.n) : m_Web_need_new [m.w, .str y] S = .ok .non S := by
  refine Pe.eq (v_fn ?_)
  unfold b_Web_need_new
  walk_at "dv"
  refine Pe.of (is_name_ok hn) ?_
  walk_at "dv"
  refine v_inS (l := m.ys) (fun s z => by cases z) rfl ?_
  refine ⟨_, rfl, ?_⟩
  refine v_bF (by rw [decide_eq_false h1]; rfl) ?_
  walk_at "dv"
  refine v_cloop (fun d => match d with | .tup (x :: _) => some x | _ => none) (fun d hd => ?_) ?_ ?_
  · obtain ⟨r, hr, rfl⟩ := List.mem_map.mp hd
    refine ⟨_, rfl, v_yes ⟨rfl, v_T ?_⟩⟩
    walk_at "dv"
    first | exact ⟨rfl, rfl⟩ | exact rfl
  · simp
    omega
  · have e : m.rsD.filterMap (fun d => match d with | .tup (x :: _) => some x | _ => none) = (m.rs.map Road.n).map Dt.str := by
      show (m.rs.map Road.d).filterMap _ = _
      induction m.rs with
      | nil => rfl
      | cons r l ih =>
        rw [List.map_cons, List.filterMap_cons, ih]
        rfl
    rw [List.nil_append, e]
    refine v_inS (l := m.rs.map Road.n) (fun s z => by cases z) rfl ?_
    refine ⟨_, rfl, ?_⟩
    refine v_bF (by rw [decide_eq_false h2]; rfl) ?_
    walk_at "dv"
    first | exact ⟨rfl, rfl⟩ | exact rfl
theorem with_yard_ok (hp : PureS S) {y : Str} (hl : m.rs.length ≤ 100) (hn : nameOk y = true) (h1 : y ∉ m.ys) (h2 : y ∉ m.rs.map Road.n) (h6 : m.ys.length < 6) : m_Web_with_yard [m.w, .str y] S = .ok (Mod.mk (m.ys ++ [y]) m.rs).w S := by
  refine Pe.eq (v_fn ?_)
  unfold b_Web_with_yard
  walk_at "dv"
  refine Pe.of (need_new_ok hl hn h1 h2) ?_
  walk_at "dv"
  refine v_dec (fun z => ?_) (fun _ => ?_)
  · exfalso
    simp at z
    omega
  walk_at "dv"
  refine v_ifok (by simp; omega) ?_
  walk_at "dv"
  refine Pe.of (turned_ok hp (ys := m.ys ++ [y]) (rs := m.rs) (by simp [asS]) rfl fun T => ⟨rfl, rfl⟩) ?_
  walk_at "dv"
  first | exact ⟨rfl, rfl⟩ | exact rfl
theorem is_whole_ok {i lo hi : Int} (h1 : lo ≤ i) (h2 : i ≤ hi) : m_is_whole [.int i, .int lo, .int hi] S = .ok (.bl true) S := by
  refine Pe.eq (v_fn ?_)
  unfold b_is_whole
  walk_at "dv"
  rw [decide_eq_true h2]
  exact ⟨rfl, rfl⟩
theorem need_turns_ok {i : Int} (h0 : i ≠ 0) (h : i.natAbs ≤ 99) : m_need_turns [.int i] S = .ok .non S := by
  refine Pe.eq (v_fn ?_)
  unfold b_need_turns
  walk_at "dv"
  refine Pe.of (is_whole_ok (by omega) (by omega)) ?_
  walk_at "dv"
  first | exact ⟨rfl, rfl⟩ | exact rfl
end
end Lw
set_option Elab.async false
set_option linter.all false
set_option maxRecDepth 100000
set_option maxHeartbeats 4000000
set_option autoImplicit false
namespace Lw
open PySem Dv
/-! steps of our own words -/
local macro_rules | `(tactic| walk_at "num") => `(tactic| first | assumption | decide | omega)
local macro_rules | `(tactic| walk_at "dv0") => `(tactic| with_reducible first
  | refine v_seq ?_ | refine v_ifS ?_ | refine v_set ?_ | refine v_ret ?_ | refine v_asg ?_ | refine v_par ?_ | refine v_drop ?_ | refine v_nx ?_ | refine v_bk ?_ | refine v_ct ?_ | refine v_retN ?_ | refine v_for ?_
  | refine v_c ?_ | refine v_nil ?_ | refine v_cons ?_ | refine v_op ?_ | refine v_B ?_ | refine v_truth ?_ | refine v_andT ?_ | refine v_orT ?_ | refine v_notT ?_
  | refine v_andV ?_ | refine v_orV ?_ | refine v_notV ?_ | refine v_if ?_ | refine v_neg ?_ | refine v_chain ?_ | refine v_tup ?_ | refine v_lst ?_ | refine v_lstR ?_ | refine v_noPart ?_ | refine v_part ?_ | refine v_sl ?_
  | refine v_CB ?_ | refine v_call ?_ | refine v_abs ?_ | refine v_lc ?_ | refine v_yes ?_ | refine v_it ?_ | refine v_rng1 ?_ | refine v_rng2 ?_ | refine v_rng3 ?_ | refine v_T ?_ | refine v_F ?_
  | refine v_add ?_ | refine v_sub ?_ | refine v_iadd ?_ | refine v_lt ?_ | refine v_le ?_ | refine v_gt ?_ | refine v_ge ?_ | refine v_eqI ?_ | refine v_neI ?_ | refine v_eqB ?_ | refine v_neB ?_)
local macro_rules | `(tactic| walk_at "dv1") => `(tactic| first
  | (with_reducible refine' v_var ?h ?_); (case h => rfl)
  | (with_reducible refine' v_aug ?h ?_); (case h => rfl)
  | (with_reducible refine' v_div ?h1 ?h2 ?_); (case h1 => walk_at "num"); (case h2 => walk_at "num")
  | (with_reducible refine' v_mod ?h1 ?_); (case h1 => walk_at "num")
  | (with_reducible refine' v_pow ?h1 ?_); (case h1 => walk_at "num")
  | (with_reducible refine' v_mulR ?h1 ?_); (case h1 => walk_at "num")
  | (with_reducible refine' v_mulL ?h1 ?_); (case h1 => walk_at "num")
  | (with_reducible refine' v_fin ?h1 ?_); (case h1 => first | exact Or.inl rfl | exact Or.inr rfl | (refine Or.inr ?_; simp only [List.length_set, *]; done))
  | (with_reducible refine' v_ix ?h1 ?_); (case h1 => first | exact ixD_ref (by assumption) (by rfl) | rfl)
  | (with_reducible refine' v_len ?h1 ?_); (case h1 => first | exact lenD_ref (by assumption) | rfl)
  | (with_reducible refine' v_list ?h1 ?_); (case h1 => rfl)
  | (with_reducible refine' v_listR ?h1 ?_); (case h1 => rfl)
  | (with_reducible refine' v_tuple ?h1 ?_); (case h1 => rfl)
  | (with_reducible refine' v_isd ?h1 ?_); (case h1 => rfl)
  | (with_reducible refine' v_isiTy ?h1 ?h2 ?_); (case h1 => rfl); (case h2 => rfl)
  | (with_reducible refine' v_isiT ?h1 ?_); (case h1 => rfl))
local macro_rules | `(tactic| walk_at "dv2") => `(tactic| first
  | refine v_gsub (by rfl) (by rfl) (by assumption) (by rfl) (fun _ _ _ => ?_) | refine ⟨_, rfl, ?_⟩ | (with_reducible refine' ⟨rng_ok ?h1 ?h2, ?_⟩); (case h1 => omega); (case h2 => omega) | refine ⟨rfl, ?_⟩ | refine ⟨_, _, rfl, ?_⟩ | refine ⟨Nat.le_of_ble_eq_true rfl, ?_⟩)
local macro_rules | `(tactic| walk_at "dv3") => `(tactic| first
  | (with_reducible refine' v_dec (fun _ => ?_) (fun hn => absurd ?h hn)); (case h => first | assumption | omega | decide)
  | (with_reducible refine' v_dec (fun hn => absurd hn ?h) (fun _ => ?_)); (case h => first | assumption | omega | decide)
  | (with_reducible refine' v_ndec (fun _ => ?_) (fun hn => absurd hn ?h)); (case h => first | assumption | omega | decide)
  | (with_reducible refine' v_ndec (fun hn => absurd ?h hn) (fun _ => ?_)); (case h => first | assumption | omega | decide)
  | (with_reducible refine' v_bT ?h ?_); (case h => first | assumption | rfl)
  | (with_reducible refine' v_bF ?h ?_); (case h => first | assumption | rfl))
local macro_rules | `(tactic| walk_at "dv4") => `(tactic| with_reducible first
  | refine v_places ?_ | refine v_roads ?_ | refine v_over ?_ | refine v_line ?_ | refine v_spots ?_ | refine v_myards ?_ | refine v_mroads ?_ | refine v_mW (by decide +kernel) ?_ | refine v_mK (by decide +kernel) ?_
  | refine v_itX ?_ | refine v_ev ?_ | refine v_rev ?_ | refine v_zs ?_ | refine v_enum ?_ | refine v_enum2 ?_ | refine v_makeV ?_ | refine v_tryN ?_ | refine v_lc2 ?_ | refine v_fz ?_ | refine v_make ?_ | refine v_fldS ?_)
local macro_rules | `(tactic| walk_at "dv5") => `(tactic| first
  | refine ⟨_, _, rfl, rfl, ?_⟩ | refine ⟨⟨_, _, rfl⟩, ?_⟩ | refine ⟨⟨_, _, _, rfl⟩, ?_⟩ | refine ⟨_, _, _, rfl, ?_⟩ | refine Or.inl ⟨_, rfl, ?_⟩ | refine Or.inr ⟨_, (fun _ z => by cases z), rfl, ?_⟩)
local macro_rules | `(tactic| walk_at "dv") => `(tactic| repeat (first | walk_at "dv0" | walk_at "dv4" | walk_at "dv1" | walk_at "dv3" | walk_at "dv2" | walk_at "dv5"))
/-! ### whole webs -/
structure Mod.Nm (m : Mod) : Prop where
  ny : ∀ y ∈ m.ys, nameOk y = true
  nr : ∀ r ∈ m.rs, nameOk r.n = true
section
variable {m : Mod} {S : Store}
theorem with_passage_ok (hp : PureS S) {r : Road} (hn : nameOk r.n = true) (h1 : r.n ∉ m.ys) (h2 : r.n ∉ m.rs.map Road.n) (hb : r.b ∈ m.ys) (he : r.e ∈ m.ys) (hh : r.h ≠ 0 ∧ r.h.natAbs ≤ 99) (ht : r.t ≠ 0 ∧ r.t.natAbs ≤ 99) (h8 : m.rs.length < 8) :
    m_Web_with_passage [m.w, .str r.n, .str r.b, .str r.e, .int r.h, .int r.t] S = .ok (Mod.mk m.ys (m.rs ++ [r])).w S := by
  refine Pe.eq (v_fn ?_)
  unfold b_Web_with_passage
  walk_at "dv"
  refine Pe.of (need_new_ok (by omega) hn h1 h2) ?_
  walk_at "dv"
  refine v_loop1 ⟨_, _, rfl, ?_⟩
  walk_at "dv"
  refine Pe.of (need_yard_ok hb) ?_
  refine v_loop1 ⟨_, _, rfl, ?_⟩
  walk_at "dv"
  refine Pe.of (need_yard_ok he) ?_
  refine v_loop0 ?_
  walk_at "dv"
  refine v_loop1 ⟨_, _, rfl, ?_⟩
  walk_at "dv"
  refine Pe.of (need_turns_ok hh.1 hh.2) ?_
  refine v_loop1 ⟨_, _, rfl, ?_⟩
  walk_at "dv"
  refine Pe.of (need_turns_ok ht.1 ht.2) ?_
  refine v_loop0 ?_
  walk_at "dv"
  refine v_dec (fun z => ?_) (fun _ => ?_)
  · exfalso
    simp at z
    omega
  walk_at "dv"
  refine v_ifok (by simp; omega) ?_
  walk_at "dv"
  refine Pe.of (turned_ok hp (ys := m.ys) (rs := m.rs ++ [r]) rfl (by simp [asS]) fun T => ⟨rfl, rfl⟩) ?_
  walk_at "dv"
  first | exact ⟨rfl, rfl⟩ | exact rfl
theorem law_web_ok (ok : m.Ok) (nm : m.Nm) (hp : PureS S) : m_law_web [m.d] S = .ok m.w S := by
  have nd := List.nodup_append.mp ok.nd
  refine Pe.eq (v_fn ?_)
  unfold b_law_web
  walk_at "dv"
  refine web_init_ok last_at ⟨rfl, ?_⟩
  refine v_finI (Jz.refl.push.set (Nat.le_refl _)) hp (set_same last_at) (Nat.le_refl _) (mod_pure ⟨[], []⟩) ?_
  walk_at "dv"
  refine v_loop (fun ds en S' => ∃ (a b : List Str) (x : Option Dt), m.ys = a ++ b ∧ ds = b.map Dt.str ∧ en = [some m.d, some (Mod.mk a []).w, x, none, none, none, none, none] ∧ S = S') ⟨[], m.ys, _, rfl, rfl, rfl, rfl⟩ ?_ ?_
  · rintro d ds en S' ⟨a, b, x, e1, e2, rfl, rfl⟩
    cases b with
    | nil => cases e2
    | cons y b =>
      cases e2
      have hy : y ∈ m.ys := by rw [e1]; simp
      have hna : y ∉ a := fun z => by
        have q := nd.1
        rw [e1, List.nodup_append] at q
        exact q.2.2 y z y List.mem_cons_self rfl
      have hl : a.length < 6 := by
        have := ok.ly
        rw [e1, List.length_append, List.length_cons] at this
        omega
      refine ⟨_, _, rfl, ?_⟩
      walk_at "dv"
      refine Pe.of (with_yard_ok (m := ⟨a, []⟩) hp (by simp) (nm.ny y hy) hna (by simp) hl) ?_
      refine ⟨a ++ [y], b, _, by rw [e1]; simp, rfl, rfl, rfl⟩
  · rintro en S' ⟨a, b, x, e1, e2, rfl, rfl⟩
    have hb : b = [] := by simpa using e2.symm
    subst hb
    rw [List.append_nil] at e1
    subst e1
    walk_at "dv"
    refine v_loop (fun ds en S' => ∃ (a b : List Road) (x1 x2 x3 x4 x5 x6 : Option Dt), m.rs = a ++ b ∧ ds = b.map Road.d ∧ en = [some m.d, some (Mod.mk m.ys a).w, x1, x2, x3, x4, x5, x6] ∧ S = S') ⟨[], m.rs, _, _, _, _, _, _, rfl, rfl, rfl, rfl⟩ ?_ ?_
    · rintro d ds en S' ⟨a, b, x1, x2, x3, x4, x5, x6, e1, e2, rfl, rfl⟩
      cases b with
      | nil => cases e2
      | cons r b =>
        cases e2
        have hr : r ∈ m.rs := by rw [e1]; simp
        have h1 : r.n ∉ m.ys := fun z => nd.2.2 _ z _ (List.mem_map_of_mem hr) rfl
        have h2 : r.n ∉ a.map Road.n := fun z => by
          have q := nd.2.1
          rw [e1, List.map_append, List.nodup_append] at q
          exact q.2.2 _ z _ (List.mem_map_of_mem List.mem_cons_self) rfl
        have hl : a.length < 8 := by
          have := ok.lr
          rw [e1, List.length_append, List.length_cons] at this
          omega
        refine ⟨_, _, rfl, ?_⟩
        walk_at "dv"
        refine v_methK ?_
        walk_at "dv"
        refine ⟨⟨_, _, rfl, by decide +kernel⟩, ?_⟩
        walk_at "dv"
        refine ⟨⟨rfl, rfl, rfl⟩, ?_⟩
        refine Pe.of (with_passage_ok (m := ⟨m.ys, a⟩) (r := r) hp (nm.nr r hr) h1 h2 (ok.en r hr).1 (ok.en r hr).2 (ok.th r hr).1 (ok.th r hr).2 hl) ?_
        exact ⟨a ++ [r], b, _, _, _, _, _, _, by rw [e1]; simp, rfl, rfl, rfl⟩
    · rintro en S' ⟨a, b, x1, x2, x3, x4, x5, x6, e1, e2, rfl, rfl⟩
      have hb : b = [] := by simpa using e2.symm
      subst hb
      rw [List.append_nil] at e1
      walk_at "dv"
      refine ⟨?_, rfl⟩
      rw [← e1]
end
end Lw
set_option Elab.async false
set_option linter.all false
set_option maxRecDepth 100000
set_option maxHeartbeats 4000000
set_option autoImplicit false
namespace Lw
open PySem Dv
/-! steps of our own words -/
local macro_rules | `(tactic| walk_at "num") => `(tactic| first | assumption | decide | omega)
local macro_rules | `(tactic| walk_at "dv0") => `(tactic| with_reducible first
  | refine v_seq ?_ | refine v_ifS ?_ | refine v_set ?_ | refine v_ret ?_ | refine v_asg ?_ | refine v_par ?_ | refine v_drop ?_ | refine v_nx ?_ | refine v_bk ?_ | refine v_ct ?_ | refine v_retN ?_ | refine v_for ?_
  | refine v_c ?_ | refine v_nil ?_ | refine v_cons ?_ | refine v_op ?_ | refine v_B ?_ | refine v_truth ?_ | refine v_andT ?_ | refine v_orT ?_ | refine v_notT ?_
  | refine v_andV ?_ | refine v_orV ?_ | refine v_notV ?_ | refine v_if ?_ | refine v_neg ?_ | refine v_chain ?_ | refine v_tup ?_ | refine v_lst ?_ | refine v_lstR ?_ | refine v_noPart ?_ | refine v_part ?_ | refine v_sl ?_
  | refine v_CB ?_ | refine v_call ?_ | refine v_abs ?_ | refine v_lc ?_ | refine v_yes ?_ | refine v_it ?_ | refine v_rng1 ?_ | refine v_rng2 ?_ | refine v_rng3 ?_ | refine v_T ?_ | refine v_F ?_
  | refine v_add ?_ | refine v_sub ?_ | refine v_iadd ?_ | refine v_lt ?_ | refine v_le ?_ | refine v_gt ?_ | refine v_ge ?_ | refine v_eqI ?_ | refine v_neI ?_ | refine v_eqB ?_ | refine v_neB ?_)
local macro_rules | `(tactic| walk_at "dv1") => `(tactic| first
  | (with_reducible refine' v_var ?h ?_); (case h => rfl)
  | (with_reducible refine' v_aug ?h ?_); (case h => rfl)
  | (with_reducible refine' v_div ?h1 ?h2 ?_); (case h1 => walk_at "num"); (case h2 => walk_at "num")
  | (with_reducible refine' v_mod ?h1 ?_); (case h1 => walk_at "num")
  | (with_reducible refine' v_pow ?h1 ?_); (case h1 => walk_at "num")
  | (with_reducible refine' v_mulR ?h1 ?_); (case h1 => walk_at "num")
  | (with_reducible refine' v_mulL ?h1 ?_); (case h1 => walk_at "num")
  | (with_reducible refine' v_fin ?h1 ?_); (case h1 => first | exact Or.inl rfl | exact Or.inr rfl | (refine Or.inr ?_; simp only [List.length_set, *]; done))
  | (with_reducible refine' v_ix ?h1 ?_); (case h1 => first | exact ixD_ref (by assumption) (by rfl) | rfl)
  | (with_reducible refine' v_len ?h1 ?_); (case h1 => first | exact lenD_ref (by assumption) | rfl)
  | (with_reducible refine' v_list ?h1 ?_); (case h1 => rfl)
  | (with_reducible refine' v_listR ?h1 ?_); (case h1 => rfl)
  | (with_reducible refine' v_tuple ?h1 ?_); (case h1 => rfl)
  | (with_reducible refine' v_isd ?h1 ?_); (case h1 => rfl)
  | (with_reducible refine' v_isiTy ?h1 ?h2 ?_); (case h1 => rfl); (case h2 => rfl)
  | (with_reducible refine' v_isiT ?h1 ?_); (case h1 => rfl))
local macro_rules | `(tactic| walk_at "dv2") => `(tactic| first
  | refine v_gsub (by rfl) (by rfl) (by assumption) (by rfl) (fun _ _ _ => ?_) | refine ⟨_, rfl, ?_⟩ | (with_reducible refine' ⟨rng_ok ?h1 ?h2, ?_⟩); (case h1 => omega); (case h2 => omega) | refine ⟨rfl, ?_⟩ | refine ⟨_, _, rfl, ?_⟩ | refine ⟨Nat.le_of_ble_eq_true rfl, ?_⟩)
local macro_rules | `(tactic| walk_at "dv3") => `(tactic| first
  | (with_reducible refine' v_dec (fun _ => ?_) (fun hn => absurd ?h hn)); (case h => first | assumption | omega | decide)
  | (with_reducible refine' v_dec (fun hn => absurd hn ?h) (fun _ => ?_)); (case h => first | assumption | omega | decide)
  | (with_reducible refine' v_ndec (fun _ => ?_) (fun hn => absurd hn ?h)); (case h => first | assumption | omega | decide)
  | (with_reducible refine' v_ndec (fun hn => absurd ?h hn) (fun _ => ?_)); (case h => first | assumption | omega | decide)
  | (with_reducible refine' v_bT ?h ?_); (case h => first | assumption | rfl)
  | (with_reducible refine' v_bF ?h ?_); (case h => first | assumption | rfl))
local macro_rules | `(tactic| walk_at "dv4") => `(tactic| with_reducible first
  | refine v_places ?_ | refine v_roads ?_ | refine v_over ?_ | refine v_line ?_ | refine v_spots ?_ | refine v_myards ?_ | refine v_mroads ?_ | refine v_mW (by decide +kernel) ?_ | refine v_mK (by decide +kernel) ?_
  | refine v_itX ?_ | refine v_ev ?_ | refine v_rev ?_ | refine v_zs ?_ | refine v_enum ?_ | refine v_enum2 ?_ | refine v_makeV ?_ | refine v_tryN ?_ | refine v_lc2 ?_ | refine v_fz ?_ | refine v_make ?_ | refine v_fldS ?_)
local macro_rules | `(tactic| walk_at "dv5") => `(tactic| first
  | refine ⟨_, _, rfl, rfl, ?_⟩ | refine ⟨⟨_, _, rfl⟩, ?_⟩ | refine ⟨⟨_, _, _, rfl⟩, ?_⟩ | refine ⟨_, _, _, rfl, ?_⟩ | refine Or.inl ⟨_, rfl, ?_⟩ | refine Or.inr ⟨_, (fun _ z => by cases z), rfl, ?_⟩)
local macro_rules | `(tactic| walk_at "dv") => `(tactic| repeat (first | walk_at "dv0" | walk_at "dv4" | walk_at "dv1" | walk_at "dv3" | walk_at "dv2" | walk_at "dv5"))
/-! ### rows and walks -/
abbrev Seg := List (Step × Int)
def segD (l : Seg) : List Dt := l.flatMap fun p => [stD p.1, .int p.2]
abbrev rowD (t : Int) (l : Seg) : List Dt := .int t :: segD l
theorem segD_cons (p : Step × Int) (l : Seg) : segD (p :: l) = stD p.1 :: rowD p.2 l := rfl
theorem segD_len (l : Seg) : (segD l).length = 2 * l.length := by
  induction l with
  | nil => rfl
  | cons p l ih =>
    rw [segD_cons, List.length_cons, List.length_cons, ih, List.length_cons]
    omega
theorem segD_app (a b : Seg) : segD (a ++ b) = segD a ++ segD b := by
  unfold segD
  rw [List.flatMap_append]
inductive Path (m : Mod) : Str → Seg → Str → Prop
  | nil (y : Str) : Path m y [] y
  | cons {y : Str} {s : Step} {t : Int} {l : Seg} {z : Str} {r : Road} : m.road s.1 = some r → (s.2 = 1 ∨ s.2 = -1) → (r.ends s.2).1 = y → Path m (r.ends s.2).2 l z → Path m y ((s, t) :: l) z
def goes (m : Mod) (s : Step) : Str := match m.road s.1 with
  | some r => (r.ends s.2).2
  | none => s.1
def spots (m : Mod) (y : Str) (l : Seg) : List Str := y :: l.map fun p => goes m p.1
/-- the turns stay within -/
def Within (B : Nat) (l : Seg) : Prop := ∀ p ∈ l, p.2.natAbs ≤ B
theorem Path.app {m : Mod} {y z w : Str} {a b : Seg} (h : Path m y a z) (k : Path m z b w) : Path m y (a ++ b) w := by
  induction h with
  | nil y => exact k
  | cons h1 h2 h3 _ ih => exact .cons h1 h2 h3 (ih k)
theorem Path.one {m : Mod} {y : Str} {s : Step} {t : Int} {r : Road} (h1 : m.road s.1 = some r) (h2 : s.2 = 1 ∨ s.2 = -1) (h3 : (r.ends s.2).1 = y) : Path m y [(s, t)] (r.ends s.2).2 := .cons h1 h2 h3 (.nil _)
theorem Path.str {m : Mod} {y z : Str} {l : Seg} (h : Path m y l z) (ok : m.Ok) : ∀ p ∈ l, PyData.strOk p.1.1 = true := by
  induction h with
  | nil y => intro p hp; cases hp
  | cons h1 h2 h3 _ ih =>
    intro p hp
    rcases List.mem_cons.mp hp with e | hp
    · subst e
      obtain ⟨hr, e⟩ := road_in h1
      rw [← e]
      exact (ok.sr _ hr).1
    · exact ih p hp
theorem ends_in {m : Mod} (ok : m.Ok) {n : Str} {r : Road} (h : m.road n = some r) (w : Int) : (r.ends w).1 ∈ m.ys ∧ (r.ends w).2 ∈ m.ys := by
  obtain ⟨hr, _⟩ := road_in h
  have := ok.en r hr
  unfold Road.ends
  split
  · exact this
  · exact ⟨this.2, this.1⟩
theorem Path.to_in {m : Mod} (ok : m.Ok) {y z : Str} {l : Seg} (h : Path m y l z) (hy : y ∈ m.ys) : z ∈ m.ys := by
  induction h with
  | nil y => exact hy
  | cons h1 h2 h3 _ ih => exact ih (ends_in ok h1 _).2
theorem spots_last {m : Mod} {y z : Str} {l : Seg} (h : Path m y l z) : (spots m y l).getLast? = some z := by
  induction h with
  | nil y => rfl
  | @cons y s t l z r h1 h2 h3 p ih =>
    have e : goes m s = (r.ends s.2).2 := by simp [goes, h1]
    show (y :: goes m s :: l.map fun p => goes m p.1).getLast? = some z
    rw [e, List.getLast?_cons_cons]
    exact ih
theorem segD_pure (l : Seg) (k : Nat) : (segD l).all (noRef (k + 1)) = true := by
  rw [List.all_eq_true]
  intro x hx
  obtain ⟨p, _, h⟩ := List.mem_flatMap.mp hx
  simp only [List.mem_cons, List.not_mem_nil, or_false] at h
  rcases h with rfl | rfl
  · show [Dt.str p.1.1, .int p.1.2].all (noRef k) = true
    cases k <;> rfl
  · rfl
theorem rowD_pure (t : Int) (l : Seg) (k : Nat) : (rowD t l).all (noRef (k + 1)) = true := by
  rw [List.all_cons, segD_pure]
  rfl
section
variable {m : Mod} {S : Store}
theorem need_form_ok {t : Int} {l : Seg} (hl : l.length ≤ 100000) : m_need_form [.lst (rowD t l)] S = .ok .non S := by
  refine Pe.eq (v_fn ?_)
  unfold b_need_form
  walk_at "dv"
  refine v_loop (fun ds en S' => ((∃ (j : Nat) (t : Int) (l : Seg), ds = numbered (2 * j) (rowD t l)) ∨ ∃ (j : Nat) (l : Seg), ds = numbered (2 * j + 1) (segD l)) ∧ (∃ x1 x2, en = [some (.lst (rowD t l)), x1, x2]) ∧ S = S') ⟨.inl ⟨0, t, l, rfl⟩, ⟨_, _, rfl⟩, rfl⟩ ?_ ?_
  · rintro d ds en S' ⟨hd, ⟨x1, x2, rfl⟩, rfl⟩
    rcases hd with ⟨j, t', l', e⟩ | ⟨j, l', e⟩
    · cases e
      refine ⟨_, _, rfl, ?_⟩
      walk_at "dv"
      have e1 : decide (((2 * j : Nat) : Int).fmod 2 = 1) = false := by
        rw [decide_eq_false]
        rw [Int.fmod_eq_emod_of_nonneg _ (by decide)]
        omega
      rw [e1]
      walk_at "dv"
      exact ⟨.inr ⟨j, l', rfl⟩, ⟨_, _, rfl⟩, rfl⟩
    · cases l' with
      | nil => cases e
      | cons p l' =>
        cases e
        refine ⟨_, _, rfl, ?_⟩
        walk_at "dv"
        have e1 : decide (((2 * j + 1 : Nat) : Int).fmod 2 = 1) = true := by
          rw [decide_eq_true]
          rw [Int.fmod_eq_emod_of_nonneg _ (by decide)]
          omega
        rw [e1]
        walk_at "dv"
        exact ⟨.inl ⟨j + 1, p.2, l', rfl⟩, ⟨_, _, rfl⟩, rfl⟩
  · rintro en S' ⟨_, ⟨x1, x2, rfl⟩, rfl⟩
    walk_at "dv"
    refine v_dec (fun z => ?_) (fun z => ?_)
    · exfalso
      rw [List.length_cons, segD_len, Int.fmod_eq_emod_of_nonneg _ (by decide)] at z
      omega
    · walk_at "dv"
      first | exact ⟨rfl, rfl⟩ | exact rfl
theorem last_ix {xs : List Dt} {x : Dt} (h : xs.getLast? = some x) : L2.atI xs (-1) = some x := by
  have hn : xs ≠ [] := by rintro rfl; cases h
  have hl := List.length_pos_iff.mpr hn
  rw [List.getLast?_eq_getElem?] at h
  have e : L2.ixN xs.length (-1) = some (xs.length - 1) := by
    unfold L2.ixN
    rw [if_neg (by decide)]
    rw [if_pos (by omega)]
    congr 1
    omega
  unfold L2.atI
  rw [e]
  exact h
theorem yards_on_ok (ok : m.Ok) (hp : PureS S) {y z : Str} {t : Int} {l : Seg} (h : Path m y l z) (hy : y ∈ m.ys) (ht : t.natAbs ≤ 10 ^ 60) (hw : Within (10 ^ 60) l) (hl : l.length ≤ 100000) : m_yards_on [m.w, .str y, .lst (rowD t l)] S = .ok (.lst ((spots m y l).map Dt.str)) S := by
  refine Pe.eq (v_fn ?_)
  unfold b_yards_on
  walk_at "dv"
  refine v_loop (fun ds en T => (∃ x4 x5 x6 x7, en = [some m.w, some (.str y), some (.lst (rowD t l)), some (.ref S.length), x4, x5, x6, x7]) ∧ Jz S T ∧ ∃ (a b : Seg) (w : Str), l = a ++ b ∧ Path m y a w ∧ Path m w b z ∧ T[S.length]? = some (.lst ((spots m y a).map Dt.str)) ∧
      ((∃ (j : Nat) (u : Int), u.natAbs ≤ 10 ^ 60 ∧ ds = numbered (2 * j) (rowD u b)) ∨ ∃ j : Nat, ds = numbered (2 * j + 1) (segD b))) ⟨⟨_, _, _, _, rfl⟩, Jz.refl.push, [], l, y, rfl, .nil y, h, last_at, .inl ⟨0, t, ht, rfl⟩⟩ ?_ ?_
  · rintro d ds en T ⟨⟨x4, x5, x6, x7, rfl⟩, jz, a, b, w, el, pa, pb, hT, hd⟩
    rcases hd with ⟨j, u, hu, e⟩ | ⟨j, e⟩
    · cases e
      refine ⟨_, _, rfl, ?_⟩
      walk_at "dv"
      have e1 : decide (((2 * j : Nat) : Int).fmod 2 = 0) = true := by
        rw [decide_eq_true]
        rw [Int.fmod_eq_emod_of_nonneg _ (by decide)]
        omega
      rw [e1]
      walk_at "dv"
      exact ⟨⟨_, _, _, _, rfl⟩, jz, a, b, w, el, pa, pb, hT, .inr ⟨j, rfl⟩⟩
    · cases pb with
      | nil => cases e
      | @cons _ s u l' _ r h1 h2 h3 p' =>
        cases e
        refine ⟨_, _, rfl, ?_⟩
        walk_at "dv"
        have e1 : decide (((2 * j + 1 : Nat) : Int).fmod 2 = 0) = false := by
          rw [decide_eq_false]
          rw [Int.fmod_eq_emod_of_nonneg _ (by decide)]
          omega
        rw [e1]
        walk_at "dv"
        refine Pe.of (web_ends_ok ok h1 h2) ?_
        walk_at "dv"
        have hlast : ixD T (.ref S.length) (-1) = some (.str w) := ixD_ref hT (last_ix (by rw [List.getLast?_map, spots_last pa]; rfl))
        refine v_ix hlast ?_
        have so : PyData.strOk w = true := ok.sy w (Path.to_in ok pa hy)
        rw [h3]
        refine v_neS so so ?_
        refine ⟨_, rfl, ?_⟩
        refine v_bF (by simp) ?_
        walk_at "dv"
        have hle : (spots m y a).length ≤ 100001 := by
          have : a.length ≤ l.length := by rw [el, List.length_append]; omega
          simp [spots]
          omega
        refine v_app1K rfl hT ?_
        walk_at "dv"
        refine ⟨_, hT, by rw [List.length_map]; omega, ?_⟩
        have e2 : goes m s = (r.ends s.2).2 := by simp [goes, h1]
        have hwi := hw (s, u) (by rw [el]; simp)
        refine ⟨⟨_, _, _, _, rfl⟩, jz.set (Nat.le_refl _), a ++ [(s, u)], l', (r.ends s.2).2, by rw [el]; simp, pa.app (Path.one h1 h2 h3), p', ?_, .inl ⟨j + 1, u, hwi, rfl⟩⟩
        rw [set_same hT]
        simp [spots, e2]
  · rintro en T ⟨⟨x4, x5, x6, x7, rfl⟩, jz, a, b, w, el, pa, pb, hT, hd⟩
    have hb : b = [] := by
      rcases hd with ⟨j, u, _, e⟩ | ⟨j, e⟩
      · cases e
      · cases b with
        | nil => rfl
        | cons p b => cases e
    subst hb
    rw [List.append_nil] at el
    subst el
    walk_at "dv"
    refine v_finJ jz hp hT (Nat.le_refl _) (strs_pure _ _) ?_
    exact ⟨rfl, rfl⟩
end
end Lw
set_option Elab.async false
set_option linter.all false
set_option maxRecDepth 100000
set_option maxHeartbeats 4000000
set_option autoImplicit false
namespace Lw
open PySem Dv
/-! steps of our own words -/
local macro_rules | `(tactic| walk_at "num") => `(tactic| first | assumption | decide | omega)
local macro_rules | `(tactic| walk_at "dv0") => `(tactic| with_reducible first
  | refine v_seq ?_ | refine v_ifS ?_ | refine v_set ?_ | refine v_ret ?_ | refine v_asg ?_ | refine v_par ?_ | refine v_drop ?_ | refine v_nx ?_ | refine v_bk ?_ | refine v_ct ?_ | refine v_retN ?_ | refine v_for ?_
  | refine v_c ?_ | refine v_nil ?_ | refine v_cons ?_ | refine v_op ?_ | refine v_B ?_ | refine v_truth ?_ | refine v_andT ?_ | refine v_orT ?_ | refine v_notT ?_
  | refine v_andV ?_ | refine v_orV ?_ | refine v_notV ?_ | refine v_if ?_ | refine v_neg ?_ | refine v_chain ?_ | refine v_tup ?_ | refine v_lst ?_ | refine v_lstR ?_ | refine v_noPart ?_ | refine v_part ?_ | refine v_sl ?_
  | refine v_CB ?_ | refine v_call ?_ | refine v_abs ?_ | refine v_lc ?_ | refine v_yes ?_ | refine v_it ?_ | refine v_rng1 ?_ | refine v_rng2 ?_ | refine v_rng3 ?_ | refine v_T ?_ | refine v_F ?_
  | refine v_add ?_ | refine v_sub ?_ | refine v_iadd ?_ | refine v_lt ?_ | refine v_le ?_ | refine v_gt ?_ | refine v_ge ?_ | refine v_eqI ?_ | refine v_neI ?_ | refine v_eqB ?_ | refine v_neB ?_)
local macro_rules | `(tactic| walk_at "dv1") => `(tactic| first
  | (with_reducible refine' v_var ?h ?_); (case h => rfl)
  | (with_reducible refine' v_aug ?h ?_); (case h => rfl)
  | (with_reducible refine' v_div ?h1 ?h2 ?_); (case h1 => walk_at "num"); (case h2 => walk_at "num")
  | (with_reducible refine' v_mod ?h1 ?_); (case h1 => walk_at "num")
  | (with_reducible refine' v_pow ?h1 ?_); (case h1 => walk_at "num")
  | (with_reducible refine' v_mulR ?h1 ?_); (case h1 => walk_at "num")
  | (with_reducible refine' v_mulL ?h1 ?_); (case h1 => walk_at "num")
  | (with_reducible refine' v_fin ?h1 ?_); (case h1 => first | exact Or.inl rfl | exact Or.inr rfl | (refine Or.inr ?_; simp only [List.length_set, *]; done))
  | (with_reducible refine' v_ix ?h1 ?_); (case h1 => first | exact ixD_ref (by assumption) (by rfl) | rfl)
  | (with_reducible refine' v_len ?h1 ?_); (case h1 => first | exact lenD_ref (by assumption) | rfl)
  | (with_reducible refine' v_list ?h1 ?_); (case h1 => rfl)
  | (with_reducible refine' v_listR ?h1 ?_); (case h1 => rfl)
  | (with_reducible refine' v_tuple ?h1 ?_); (case h1 => rfl)
  | (with_reducible refine' v_isd ?h1 ?_); (case h1 => rfl)
  | (with_reducible refine' v_isiTy ?h1 ?h2 ?_); (case h1 => rfl); (case h2 => rfl)
  | (with_reducible refine' v_isiT ?h1 ?_); (case h1 => rfl))
local macro_rules | `(tactic| walk_at "dv2") => `(tactic| first
  | refine v_gsub (by rfl) (by rfl) (by assumption) (by rfl) (fun _ _ _ => ?_) | refine ⟨_, rfl, ?_⟩ | (with_reducible refine' ⟨rng_ok ?h1 ?h2, ?_⟩); (case h1 => omega); (case h2 => omega) | refine ⟨rfl, ?_⟩ | refine ⟨_, _, rfl, ?_⟩ | refine ⟨Nat.le_of_ble_eq_true rfl, ?_⟩)
local macro_rules | `(tactic| walk_at "dv3") => `(tactic| first
  | (with_reducible refine' v_dec (fun _ => ?_) (fun hn => absurd ?h hn)); (case h => first | assumption | omega | decide)
  | (with_reducible refine' v_dec (fun hn => absurd hn ?h) (fun _ => ?_)); (case h => first | assumption | omega | decide)
  | (with_reducible refine' v_ndec (fun _ => ?_) (fun hn => absurd hn ?h)); (case h => first | assumption | omega | decide)
  | (with_reducible refine' v_ndec (fun hn => absurd ?h hn) (fun _ => ?_)); (case h => first | assumption | omega | decide)
  | (with_reducible refine' v_bT ?h ?_); (case h => first | assumption | rfl)
  | (with_reducible refine' v_bF ?h ?_); (case h => first | assumption | rfl))
local macro_rules | `(tactic| walk_at "dv4") => `(tactic| with_reducible first
  | refine v_places ?_ | refine v_roads ?_ | refine v_over ?_ | refine v_line ?_ | refine v_spots ?_ | refine v_myards ?_ | refine v_mroads ?_ | refine v_mW (by decide +kernel) ?_ | refine v_mK (by decide +kernel) ?_
  | refine v_itX ?_ | refine v_ev ?_ | refine v_rev ?_ | refine v_zs ?_ | refine v_enum ?_ | refine v_enum2 ?_ | refine v_makeV ?_ | refine v_tryN ?_ | refine v_lc2 ?_ | refine v_fz ?_ | refine v_make ?_ | refine v_fldS ?_)
local macro_rules | `(tactic| walk_at "dv5") => `(tactic| first
  | refine ⟨_, _, rfl, rfl, ?_⟩ | refine ⟨⟨_, _, rfl⟩, ?_⟩ | refine ⟨⟨_, _, _, rfl⟩, ?_⟩ | refine ⟨_, _, _, rfl, ?_⟩ | refine Or.inl ⟨_, rfl, ?_⟩ | refine Or.inr ⟨_, (fun _ z => by cases z), rfl, ?_⟩)
local macro_rules | `(tactic| walk_at "dv") => `(tactic| repeat (first | walk_at "dv0" | walk_at "dv4" | walk_at "dv1" | walk_at "dv3" | walk_at "dv2" | walk_at "dv5"))
/-! ### walks that are made; what they tell -/
abbrev walkD (m : Mod) (y : Str) (t : Int) (l : Seg) : Dt := walkV m.w (.tup (rowD t l)) (.lst ((spots m y l).map Dt.str))
theorem putN_l : putN ("line" : Str) [("over" : Str)] = [("over" : Str), "line"] := by decide +kernel
theorem putN_s : putN ("spots" : Str) [("over" : Str), "line"] = kF := by decide +kernel
theorem putW_l (a b : Dt) : putW ("line" : Str) b [("over" : Str)] [a] = [a, b] := by
  unfold putW
  rw [if_neg (by decide +kernel)]
  rfl
theorem putW_s (a b c : Dt) : putW ("spots" : Str) c [("over" : Str), "line"] [a, b] = [a, b, c] := by
  unfold putW
  rw [if_neg (by decide +kernel)]
  unfold putW
  rw [if_neg (by decide +kernel)]
  rfl
theorem PureS.push {S : Store} {o : Ob} (h : PureS S) (ho : pureO o = true) : PureS (S ++ [o]) := by
  intro x hx
  rcases List.mem_append.mp hx with z | z
  · exact h x z
  · rw [List.mem_singleton.mp z]
    exact ho
theorem web_pure (m : Mod) (k : Nat) : noRef (k + 3) m.w = true := by
  show [Dt.tup m.ysD, .tup m.rsD].all (noRef (k + 2)) = true
  simp only [List.all_cons, List.all_nil, Bool.and_true, Bool.and_eq_true]
  exact ⟨strs_pure m.ys (k + 1), roads_pure m.rs k⟩
theorem set_last {S : Store} {o o' : Ob} : (S ++ [o]).set S.length o' = S ++ [o'] := by
  rw [List.set_append_right _ _ (Nat.le_refl _), Nat.sub_self]
  rfl
section
variable {m : Mod} {S : Store}
theorem walk_pure (y : Str) (t : Int) (l : Seg) : [m.w, .tup (rowD t l), .lst ((spots m y l).map Dt.str)].all (noRef 11) = true := by
  simp only [List.all_cons, List.all_nil, Bool.and_true, Bool.and_eq_true]
  exact ⟨web_pure m 8, rowD_pure t l 9, strs_pure _ 10⟩
theorem walk_init_ok (ok : m.Ok) (hp : PureS S) {y z : Str} {t : Int} {l : Seg} (h : Path m y l z) (hy : y ∈ m.ys) (ht : t.natAbs ≤ 10 ^ 60) (hw : Within (10 ^ 60) l) (hl : l.length ≤ 200) {Q : Dt → Store → Prop} {X : Ex → Store → Prop}
    (q : Q .non (S ++ [.ins "Walk" kF [m.w, .tup (rowD t l), .lst ((spots m y l).map Dt.str)]])) : Pe (m_Walk_dinit [.ref S.length, m.w, .str y, .lst (rowD t l)] (S ++ [.ins "Walk" [] []])) Q X := by
  refine v_fn ?_
  unfold b_Walk_dinit
  walk_at "dv"
  refine Pe.of (need_yard_ok hy) ?_
  walk_at "dv"
  refine v_dec (fun z => ?_) (fun _ => ?_)
  · exfalso
    rw [List.length_cons, segD_len] at z
    omega
  walk_at "dv"
  refine Pe.of (need_form_ok (by omega)) ?_
  walk_at "dv"
  refine ⟨_, setFld_ins last_at (List.mem_singleton.mpr rfl) (by decide), ?_⟩
  rw [set_last]
  walk_at "dv"
  refine ⟨_, setFld_ins last_at (List.mem_singleton.mpr rfl) (by decide), ?_⟩
  rw [set_last, show putN ("line" : Str) (putN ("over" : Str) []) = [("over" : Str), "line"] from putN_l, show putW ("line" : Str) (Dt.tup (rowD t l)) (putN ("over" : Str) []) (putW ("over" : Str) m.w [] []) = [m.w, .tup (rowD t l)] from putW_l _ _]
  walk_at "dv"
  have hp2 : PureS (S ++ [.ins "Walk" [("over" : Str), "line"] [m.w, .tup (rowD t l)]]) := hp.push (by
    show [m.w, .tup (rowD t l)].all (noRef 11) = true
    simp only [List.all_cons, List.all_nil, Bool.and_true, Bool.and_eq_true]
    exact ⟨web_pure m 8, rowD_pure t l 9⟩)
  refine Pe.of (yards_on_ok ok hp2 h hy ht hw (by omega)) ?_
  walk_at "dv"
  refine ⟨_, setFld_ins last_at (List.mem_singleton.mpr rfl) (by decide), ?_⟩
  rw [set_last, putN_s, putW_s]
  dsimp only
  refine v_fin (.inr (by simp)) ?_
  exact q
theorem walk_web_ok {y : Str} {t : Int} {l : Seg} : m_Walk_web [walkD m y t l] S = .ok m.w S := by
  refine Pe.eq (v_fn ?_)
  unfold b_Walk_web
  walk_at "dv"
  first | exact ⟨rfl, rfl⟩ | exact rfl
theorem walk_row_ok {y : Str} {t : Int} {l : Seg} : m_Walk_row [walkD m y t l] S = .ok (.lst (rowD t l)) S := by
  refine Pe.eq (v_fn ?_)
  unfold b_Walk_row
  walk_at "dv"
  first | exact ⟨rfl, rfl⟩ | exact rfl
theorem walk_start_ok {y : Str} {t : Int} {l : Seg} : m_Walk_start [walkD m y t l] S = .ok (.str y) S := by
  refine Pe.eq (v_fn ?_)
  unfold b_Walk_start
  walk_at "dv"
  refine v_ix (ix_zero _ _) ?_
  walk_at "dv"
  first | exact ⟨rfl, rfl⟩ | exact rfl
theorem ix_last {xs : List Dt} {x : Dt} (h : xs.getLast? = some x) {S : Store} : ixD S (.lst xs) (-1) = some x := last_ix h
/-! ### the steps from a yard -/
def stepsOf (y : Str) (l : List Road) : List Step := l.flatMap fun r => (if r.b = y then [(r.n, (1 : Int))] else []) ++ if r.e = y then [(r.n, (-1 : Int))] else []
theorem stepsOf_cons {y : Str} (r : Road) (l : List Road) : stepsOf y (r :: l) = ((if r.b = y then [(r.n, (1 : Int))] else []) ++ if r.e = y then [(r.n, (-1 : Int))] else []) ++ stepsOf y l := by
  unfold stepsOf
  rw [List.flatMap_cons]
theorem stepsOf_len {y : Str} : ∀ l : List Road, (stepsOf y l).length ≤ 2 * l.length
  | [] => Nat.le_refl _
  | r :: l => by
    have ih := stepsOf_len (y := y) l
    rw [stepsOf_cons, List.length_append, List.length_append, List.length_cons]
    have h1 : (if r.b = y then [(r.n, (1 : Int))] else []).length ≤ 1 := by split <;> simp
    have h2 : (if r.e = y then [(r.n, (-1 : Int))] else []).length ≤ 1 := by split <;> simp
    omega
theorem stepsOf_mem {y : Str} {s : Step} (ok : m.Ok) (h : s ∈ stepsOf y m.rs) : ∃ r, m.road s.1 = some r ∧ (s.2 = 1 ∨ s.2 = -1) ∧ (r.ends s.2).1 = y := by
  unfold stepsOf at h
  obtain ⟨r, hr, hs⟩ := List.mem_flatMap.mp h
  rcases List.mem_append.mp hs with q | q
  · split at q
    · rename_i e
      rw [List.mem_singleton.mp q]
      exact ⟨r, road_of ok hr, .inl rfl, e⟩
    · cases q
  · split at q
    · rename_i e
      rw [List.mem_singleton.mp q]
      exact ⟨r, road_of ok hr, .inr rfl, e⟩
    · cases q
theorem steps_pure (l : List Step) (k : Nat) : (l.map stD).all (noRef (k + 1)) = true := by
  rw [List.all_eq_true]
  intro x hx
  obtain ⟨s, _, rfl⟩ := List.mem_map.mp hx
  show [Dt.str s.1, .int s.2].all (noRef k) = true
  cases k <;> rfl
end
/-! ### a walk made, by value -/
section
variable {m : Mod} {S : Store}
theorem v_walk2 (ok : m.Ok) (hp : PureS S) {y z : Str} {t : Int} {l : Seg} (h : Path m y l z) (hy : y ∈ m.ys) (ht : t.natAbs ≤ 10 ^ 60) (hw : Within (10 ^ 60) l) (hl : l.length ≤ 200) {Q : Dt → Store → Prop} {X X' : Ex → Store → Prop} (q : Q (walkD m y t l) S) :
    Pe (m_Walk_dinit [.ref S.length, m.w, .str y, .lst (rowD t l)] (S ++ [.ins "Walk" [] []])) (fun r S2 => r = .non ∧ Pe (fin false S.length (.ref S.length) S2) Q X) X' := by
  refine walk_init_ok ok hp h hy ht hw hl ⟨rfl, ?_⟩
  exact v_finI Jz.refl.push hp last_at (Nat.le_refl _) (walk_pure y t l) q
end
end Lw
set_option Elab.async false
set_option linter.all false
set_option maxRecDepth 100000
set_option maxHeartbeats 4000000
set_option autoImplicit false
namespace Lw
open PySem Dv
/-! steps of our own words -/
local macro_rules | `(tactic| walk_at "num") => `(tactic| first | assumption | decide | omega)
local macro_rules | `(tactic| walk_at "dv0") => `(tactic| with_reducible first
  | refine v_seq ?_ | refine v_ifS ?_ | refine v_set ?_ | refine v_ret ?_ | refine v_asg ?_ | refine v_par ?_ | refine v_drop ?_ | refine v_nx ?_ | refine v_bk ?_ | refine v_ct ?_ | refine v_retN ?_ | refine v_for ?_
  | refine v_c ?_ | refine v_nil ?_ | refine v_cons ?_ | refine v_op ?_ | refine v_B ?_ | refine v_truth ?_ | refine v_andT ?_ | refine v_orT ?_ | refine v_notT ?_
  | refine v_andV ?_ | refine v_orV ?_ | refine v_notV ?_ | refine v_if ?_ | refine v_neg ?_ | refine v_chain ?_ | refine v_tup ?_ | refine v_lst ?_ | refine v_lstR ?_ | refine v_noPart ?_ | refine v_part ?_ | refine v_sl ?_
  | refine v_CB ?_ | refine v_call ?_ | refine v_abs ?_ | refine v_lc ?_ | refine v_yes ?_ | refine v_it ?_ | refine v_rng1 ?_ | refine v_rng2 ?_ | refine v_rng3 ?_ | refine v_T ?_ | refine v_F ?_
  | refine v_add ?_ | refine v_sub ?_ | refine v_iadd ?_ | refine v_lt ?_ | refine v_le ?_ | refine v_gt ?_ | refine v_ge ?_ | refine v_eqI ?_ | refine v_neI ?_ | refine v_eqB ?_ | refine v_neB ?_)
local macro_rules | `(tactic| walk_at "dv1") => `(tactic| first
  | (with_reducible refine' v_var ?h ?_); (case h => rfl)
  | (with_reducible refine' v_aug ?h ?_); (case h => rfl)
  | (with_reducible refine' v_div ?h1 ?h2 ?_); (case h1 => walk_at "num"); (case h2 => walk_at "num")
  | (with_reducible refine' v_mod ?h1 ?_); (case h1 => walk_at "num")
  | (with_reducible refine' v_pow ?h1 ?_); (case h1 => walk_at "num")
  | (with_reducible refine' v_mulR ?h1 ?_); (case h1 => walk_at "num")
  | (with_reducible refine' v_mulL ?h1 ?_); (case h1 => walk_at "num")
  | (with_reducible refine' v_fin ?h1 ?_); (case h1 => first | exact Or.inl rfl | exact Or.inr rfl | (refine Or.inr ?_; simp only [List.length_set, *]; done))
  | (with_reducible refine' v_ix ?h1 ?_); (case h1 => first | exact ixD_ref (by assumption) (by rfl) | rfl)
  | (with_reducible refine' v_len ?h1 ?_); (case h1 => first | exact lenD_ref (by assumption) | rfl)
  | (with_reducible refine' v_list ?h1 ?_); (case h1 => rfl)
  | (with_reducible refine' v_listR ?h1 ?_); (case h1 => rfl)
  | (with_reducible refine' v_tuple ?h1 ?_); (case h1 => rfl)
  | (with_reducible refine' v_isd ?h1 ?_); (case h1 => rfl)
  | (with_reducible refine' v_isiTy ?h1 ?h2 ?_); (case h1 => rfl); (case h2 => rfl)
  | (with_reducible refine' v_isiT ?h1 ?_); (case h1 => rfl))
local macro_rules | `(tactic| walk_at "dv2") => `(tactic| first
  | refine v_gsub (by rfl) (by rfl) (by assumption) (by rfl) (fun _ _ _ => ?_) | refine ⟨_, rfl, ?_⟩ | (with_reducible refine' ⟨rng_ok ?h1 ?h2, ?_⟩); (case h1 => omega); (case h2 => omega) | refine ⟨rfl, ?_⟩ | refine ⟨_, _, rfl, ?_⟩ | refine ⟨Nat.le_of_ble_eq_true rfl, ?_⟩)
local macro_rules | `(tactic| walk_at "dv3") => `(tactic| first
  | (with_reducible refine' v_dec (fun _ => ?_) (fun hn => absurd ?h hn)); (case h => first | assumption | omega | decide)
  | (with_reducible refine' v_dec (fun hn => absurd hn ?h) (fun _ => ?_)); (case h => first | assumption | omega | decide)
  | (with_reducible refine' v_ndec (fun _ => ?_) (fun hn => absurd hn ?h)); (case h => first | assumption | omega | decide)
  | (with_reducible refine' v_ndec (fun hn => absurd ?h hn) (fun _ => ?_)); (case h => first | assumption | omega | decide)
  | (with_reducible refine' v_bT ?h ?_); (case h => first | assumption | rfl)
  | (with_reducible refine' v_bF ?h ?_); (case h => first | assumption | rfl))
local macro_rules | `(tactic| walk_at "dv4") => `(tactic| with_reducible first
  | refine v_places ?_ | refine v_roads ?_ | refine v_over ?_ | refine v_line ?_ | refine v_spots ?_ | refine v_myards ?_ | refine v_mroads ?_ | refine v_mW (by decide +kernel) ?_ | refine v_mK (by decide +kernel) ?_
  | refine v_itX ?_ | refine v_ev ?_ | refine v_rev ?_ | refine v_zs ?_ | refine v_enum ?_ | refine v_enum2 ?_ | refine v_makeV ?_ | refine v_tryN ?_ | refine v_lc2 ?_ | refine v_fz ?_ | refine v_make ?_ | refine v_fldS ?_)
local macro_rules | `(tactic| walk_at "dv5") => `(tactic| first
  | refine ⟨_, _, rfl, rfl, ?_⟩ | refine ⟨⟨_, _, rfl⟩, ?_⟩ | refine ⟨⟨_, _, _, rfl⟩, ?_⟩ | refine ⟨_, _, _, rfl, ?_⟩ | refine Or.inl ⟨_, rfl, ?_⟩ | refine Or.inr ⟨_, (fun _ z => by cases z), rfl, ?_⟩)
local macro_rules | `(tactic| walk_at "dv") => `(tactic| repeat (first | walk_at "dv0" | walk_at "dv4" | walk_at "dv1" | walk_at "dv3" | walk_at "dv2" | walk_at "dv5"))
/-! ### rows that are drawn -/
theorem PureS.set {S : Store} {k : Nat} {o : Ob} (h : PureS S) (ho : pureO o = true) : PureS (S.set k o) := by
  intro x hx
  rcases List.mem_or_eq_of_mem_set hx with z | z
  · exact h x z
  · rw [z]
    exact ho
theorem und_ends (r : Road) {w : Int} (h : w = 1 ∨ w = -1) : r.ends (0 - w) = ((r.ends w).2, (r.ends w).1) := by
  rcases h with rfl | rfl <;> rfl
theorem und_rule (r : Road) {w : Int} (h : w = 1 ∨ w = -1) : r.rule (0 - w) = ((r.rule w).2, (r.rule w).1) := by
  rcases h with rfl | rfl <;> rfl
theorem Path.snoc {m : Mod} {y z : Str} {l : Seg} {s : Step} {t : Int} (h : Path m y (l ++ [(s, t)]) z) : ∃ r w, Path m y l w ∧ m.road s.1 = some r ∧ (s.2 = 1 ∨ s.2 = -1) ∧ (r.ends s.2).1 = w ∧ (r.ends s.2).2 = z := by
  induction l generalizing y with
  | nil =>
    cases h with
    | cons h1 h2 h3 p =>
      cases p
      exact ⟨_, _, .nil _, h1, h2, h3, rfl⟩
  | cons q l ih =>
    cases h with
    | cons h1 h2 h3 p =>
      obtain ⟨r, w, p', h4⟩ := ih p
      exact ⟨r, w, .cons h1 h2 h3 p', h4⟩
theorem rule_b {m : Mod} (ok : m.Ok) {n : Str} {r : Road} (h : m.road n = some r) (w : Int) : ((r.rule w).1 ≠ 0 ∧ (r.rule w).1.natAbs ≤ 99) ∧ (r.rule w).2 ≠ 0 ∧ (r.rule w).2.natAbs ≤ 99 := by
  obtain ⟨hr, _⟩ := road_in h
  have := ok.th r hr
  unfold Road.rule
  split
  · exact this
  · exact ⟨this.2, this.1⟩
theorem row_snoc (t : Int) (l : Seg) (s : Step) (u : Int) : rowD t (l ++ [(s, u)]) = (.int t :: (segD l ++ [stD s])) ++ [.int u] := by
  show Dt.int t :: segD (l ++ [(s, u)]) = _
  rw [segD_app]
  simp [segD]
theorem row_len (t : Int) (l : Seg) : (rowD t l).length = 2 * l.length + 1 := by rw [List.length_cons, segD_len]
theorem row_add (t : Int) (l : Seg) (s : Step) (u : Int) : rowD t l ++ [stD s, .int u] = rowD t (l ++ [(s, u)]) := by
  rw [row_snoc]
  simp
end Lw
set_option Elab.async false
set_option linter.all false
set_option maxRecDepth 100000
set_option maxHeartbeats 4000000
set_option autoImplicit false
namespace Lw
open PySem Dv
/-! steps of our own words -/
local macro_rules | `(tactic| walk_at "num") => `(tactic| first | assumption | decide | omega)
local macro_rules | `(tactic| walk_at "dv0") => `(tactic| with_reducible first
  | refine v_seq ?_ | refine v_ifS ?_ | refine v_set ?_ | refine v_ret ?_ | refine v_asg ?_ | refine v_par ?_ | refine v_drop ?_ | refine v_nx ?_ | refine v_bk ?_ | refine v_ct ?_ | refine v_retN ?_ | refine v_for ?_
  | refine v_c ?_ | refine v_nil ?_ | refine v_cons ?_ | refine v_op ?_ | refine v_B ?_ | refine v_truth ?_ | refine v_andT ?_ | refine v_orT ?_ | refine v_notT ?_
  | refine v_andV ?_ | refine v_orV ?_ | refine v_notV ?_ | refine v_if ?_ | refine v_neg ?_ | refine v_chain ?_ | refine v_tup ?_ | refine v_lst ?_ | refine v_lstR ?_ | refine v_noPart ?_ | refine v_part ?_ | refine v_sl ?_
  | refine v_CB ?_ | refine v_call ?_ | refine v_abs ?_ | refine v_lc ?_ | refine v_yes ?_ | refine v_it ?_ | refine v_rng1 ?_ | refine v_rng2 ?_ | refine v_rng3 ?_ | refine v_T ?_ | refine v_F ?_
  | refine v_add ?_ | refine v_sub ?_ | refine v_iadd ?_ | refine v_lt ?_ | refine v_le ?_ | refine v_gt ?_ | refine v_ge ?_ | refine v_eqI ?_ | refine v_neI ?_ | refine v_eqB ?_ | refine v_neB ?_)
local macro_rules | `(tactic| walk_at "dv1") => `(tactic| first
  | (with_reducible refine' v_var ?h ?_); (case h => rfl)
  | (with_reducible refine' v_aug ?h ?_); (case h => rfl)
  | (with_reducible refine' v_div ?h1 ?h2 ?_); (case h1 => walk_at "num"); (case h2 => walk_at "num")
  | (with_reducible refine' v_mod ?h1 ?_); (case h1 => walk_at "num")
  | (with_reducible refine' v_pow ?h1 ?_); (case h1 => walk_at "num")
  | (with_reducible refine' v_mulR ?h1 ?_); (case h1 => walk_at "num")
  | (with_reducible refine' v_mulL ?h1 ?_); (case h1 => walk_at "num")
  | (with_reducible refine' v_fin ?h1 ?_); (case h1 => first | exact Or.inl rfl | exact Or.inr rfl | (refine Or.inr ?_; simp only [List.length_set, *]; done))
  | (with_reducible refine' v_ix ?h1 ?_); (case h1 => first | exact ixD_ref (by assumption) (by rfl) | rfl)
  | (with_reducible refine' v_len ?h1 ?_); (case h1 => first | exact lenD_ref (by assumption) | rfl)
  | (with_reducible refine' v_list ?h1 ?_); (case h1 => rfl)
  | (with_reducible refine' v_listR ?h1 ?_); (case h1 => rfl)
  | (with_reducible refine' v_tuple ?h1 ?_); (case h1 => rfl)
  | (with_reducible refine' v_isd ?h1 ?_); (case h1 => rfl)
  | (with_reducible refine' v_isiTy ?h1 ?h2 ?_); (case h1 => rfl); (case h2 => rfl)
  | (with_reducible refine' v_isiT ?h1 ?_); (case h1 => rfl))
local macro_rules | `(tactic| walk_at "dv2") => `(tactic| first
  | refine v_gsub (by rfl) (by rfl) (by assumption) (by rfl) (fun _ _ _ => ?_) | refine ⟨_, rfl, ?_⟩ | (with_reducible refine' ⟨rng_ok ?h1 ?h2, ?_⟩); (case h1 => omega); (case h2 => omega) | refine ⟨rfl, ?_⟩ | refine ⟨_, _, rfl, ?_⟩ | refine ⟨Nat.le_of_ble_eq_true rfl, ?_⟩)
local macro_rules | `(tactic| walk_at "dv3") => `(tactic| first
  | (with_reducible refine' v_dec (fun _ => ?_) (fun hn => absurd ?h hn)); (case h => first | assumption | omega | decide)
  | (with_reducible refine' v_dec (fun hn => absurd hn ?h) (fun _ => ?_)); (case h => first | assumption | omega | decide)
  | (with_reducible refine' v_ndec (fun _ => ?_) (fun hn => absurd hn ?h)); (case h => first | assumption | omega | decide)
  | (with_reducible refine' v_ndec (fun hn => absurd ?h hn) (fun _ => ?_)); (case h => first | assumption | omega | decide)
  | (with_reducible refine' v_bT ?h ?_); (case h => first | assumption | rfl)
  | (with_reducible refine' v_bF ?h ?_); (case h => first | assumption | rfl))
local macro_rules | `(tactic| walk_at "dv4") => `(tactic| with_reducible first
  | refine v_places ?_ | refine v_roads ?_ | refine v_over ?_ | refine v_line ?_ | refine v_spots ?_ | refine v_myards ?_ | refine v_mroads ?_ | refine v_mW (by decide +kernel) ?_ | refine v_mK (by decide +kernel) ?_
  | refine v_itX ?_ | refine v_ev ?_ | refine v_rev ?_ | refine v_zs ?_ | refine v_enum ?_ | refine v_enum2 ?_ | refine v_makeV ?_ | refine v_tryN ?_ | refine v_lc2 ?_ | refine v_fz ?_ | refine v_make ?_ | refine v_fldS ?_)
local macro_rules | `(tactic| walk_at "dv5") => `(tactic| first
  | refine ⟨_, _, rfl, rfl, ?_⟩ | refine ⟨⟨_, _, rfl⟩, ?_⟩ | refine ⟨⟨_, _, _, rfl⟩, ?_⟩ | refine ⟨_, _, _, rfl, ?_⟩ | refine Or.inl ⟨_, rfl, ?_⟩ | refine Or.inr ⟨_, (fun _ z => by cases z), rfl, ?_⟩)
local macro_rules | `(tactic| walk_at "dv") => `(tactic| repeat (first | walk_at "dv0" | walk_at "dv4" | walk_at "dv1" | walk_at "dv3" | walk_at "dv2" | walk_at "dv5"))
/-! ### exchanges of rows -/
theorem evens_seg : ∀ l : Seg, evens (segD l) = l.map fun p => stD p.1
  | [] => rfl
  | p :: l => by
    show evens (stD p.1 :: .int p.2 :: segD l) = _
    rw [evens, evens_seg l]
    rfl
theorem evens_row (t : Int) : ∀ l : Seg, evens (rowD t l) = .int t :: l.map fun p => Dt.int p.2
  | [] => rfl
  | p :: l => by
    show evens (.int t :: stD p.1 :: rowD p.2 l) = _
    rw [evens, evens_row p.2 l]
    rfl
def turnAt (t : Int) (l : Seg) : Nat → Int
  | 0 => t
  | j + 1 => match l[j]? with
    | some p => p.2
    | none => 0
theorem row_turn (t : Int) : ∀ (l : Seg) (j : Nat), j ≤ l.length → (rowD t l)[2 * j]? = some (.int (turnAt t l j))
  | l, 0, _ => rfl
  | [], j + 1, h => by simp at h
  | p :: l, j + 1, h => by
    have ih := row_turn p.2 l j (by simpa using h)
    show (.int t :: stD p.1 :: rowD p.2 l)[2 * (j + 1)]? = _
    rw [show 2 * (j + 1) = 2 * j + 1 + 1 by omega, List.getElem?_cons_succ, List.getElem?_cons_succ, ih]
    cases j with
    | zero => rfl
    | succ j => rfl
theorem row_step (t : Int) : ∀ (l : Seg) (j : Nat) (p : Step × Int), l[j]? = some p → (rowD t l)[2 * j + 1]? = some (stD p.1)
  | [], j, p, h => by simp at h
  | q :: l, 0, p, h => by
    cases h
    rfl
  | q :: l, j + 1, p, h => by
    have ih := row_step q.2 l j p (by simpa using h)
    show (.int t :: stD q.1 :: rowD q.2 l)[2 * (j + 1) + 1]? = _
    rw [show 2 * (j + 1) + 1 = 2 * j + 1 + 1 + 1 by omega, List.getElem?_cons_succ, List.getElem?_cons_succ, ih]
inductive Exch where
  | pass (at_ : Nat) (many : Int) | fold (at_ : Nat) | unfold (at_ : Nat) (s : Step) (many : Int)
def Exch.d : Exch → Dt
  | .pass k n => .tup [.str "pass", .int k, .int n]
  | .fold k => .tup [.str "fold", .int k]
  | .unfold k s n => .tup [.str "unfold", .int k, stD s, .int n]
end Lw
set_option Elab.async false
set_option linter.all false
set_option maxRecDepth 100000
set_option maxHeartbeats 4000000
set_option autoImplicit false
namespace Lw
open PySem Dv
/-! steps of our own words -/
local macro_rules | `(tactic| walk_at "num") => `(tactic| first | assumption | decide | omega)
local macro_rules | `(tactic| walk_at "dv0") => `(tactic| with_reducible first
  | refine v_seq ?_ | refine v_ifS ?_ | refine v_set ?_ | refine v_ret ?_ | refine v_asg ?_ | refine v_par ?_ | refine v_drop ?_ | refine v_nx ?_ | refine v_bk ?_ | refine v_ct ?_ | refine v_retN ?_ | refine v_for ?_
  | refine v_c ?_ | refine v_nil ?_ | refine v_cons ?_ | refine v_op ?_ | refine v_B ?_ | refine v_truth ?_ | refine v_andT ?_ | refine v_orT ?_ | refine v_notT ?_
  | refine v_andV ?_ | refine v_orV ?_ | refine v_notV ?_ | refine v_if ?_ | refine v_neg ?_ | refine v_chain ?_ | refine v_tup ?_ | refine v_lst ?_ | refine v_lstR ?_ | refine v_noPart ?_ | refine v_part ?_ | refine v_sl ?_
  | refine v_CB ?_ | refine v_call ?_ | refine v_abs ?_ | refine v_lc ?_ | refine v_yes ?_ | refine v_it ?_ | refine v_rng1 ?_ | refine v_rng2 ?_ | refine v_rng3 ?_ | refine v_T ?_ | refine v_F ?_
  | refine v_add ?_ | refine v_sub ?_ | refine v_iadd ?_ | refine v_lt ?_ | refine v_le ?_ | refine v_gt ?_ | refine v_ge ?_ | refine v_eqI ?_ | refine v_neI ?_ | refine v_eqB ?_ | refine v_neB ?_)
local macro_rules | `(tactic| walk_at "dv1") => `(tactic| first
  | (with_reducible refine' v_var ?h ?_); (case h => rfl)
  | (with_reducible refine' v_aug ?h ?_); (case h => rfl)
  | (with_reducible refine' v_div ?h1 ?h2 ?_); (case h1 => walk_at "num"); (case h2 => walk_at "num")
  | (with_reducible refine' v_mod ?h1 ?_); (case h1 => walk_at "num")
  | (with_reducible refine' v_pow ?h1 ?_); (case h1 => walk_at "num")
  | (with_reducible refine' v_mulR ?h1 ?_); (case h1 => walk_at "num")
  | (with_reducible refine' v_mulL ?h1 ?_); (case h1 => walk_at "num")
  | (with_reducible refine' v_fin ?h1 ?_); (case h1 => first | exact Or.inl rfl | exact Or.inr rfl | (refine Or.inr ?_; simp only [List.length_set, *]; done))
  | (with_reducible refine' v_ix ?h1 ?_); (case h1 => first | exact ixD_ref (by assumption) (by rfl) | rfl)
  | (with_reducible refine' v_len ?h1 ?_); (case h1 => first | exact lenD_ref (by assumption) | rfl)
  | (with_reducible refine' v_list ?h1 ?_); (case h1 => rfl)
  | (with_reducible refine' v_listR ?h1 ?_); (case h1 => rfl)
  | (with_reducible refine' v_tuple ?h1 ?_); (case h1 => rfl)
  | (with_reducible refine' v_isd ?h1 ?_); (case h1 => rfl)
  | (with_reducible refine' v_isiTy ?h1 ?h2 ?_); (case h1 => rfl); (case h2 => rfl)
  | (with_reducible refine' v_isiT ?h1 ?_); (case h1 => rfl))
local macro_rules | `(tactic| walk_at "dv2") => `(tactic| first
  | refine v_gsub (by rfl) (by rfl) (by assumption) (by rfl) (fun _ _ _ => ?_) | refine ⟨_, rfl, ?_⟩ | (with_reducible refine' ⟨rng_ok ?h1 ?h2, ?_⟩); (case h1 => omega); (case h2 => omega) | refine ⟨rfl, ?_⟩ | refine ⟨_, _, rfl, ?_⟩ | refine ⟨Nat.le_of_ble_eq_true rfl, ?_⟩)
local macro_rules | `(tactic| walk_at "dv3") => `(tactic| first
  | (with_reducible refine' v_dec (fun _ => ?_) (fun hn => absurd ?h hn)); (case h => first | assumption | omega | decide)
  | (with_reducible refine' v_dec (fun hn => absurd hn ?h) (fun _ => ?_)); (case h => first | assumption | omega | decide)
  | (with_reducible refine' v_ndec (fun _ => ?_) (fun hn => absurd hn ?h)); (case h => first | assumption | omega | decide)
  | (with_reducible refine' v_ndec (fun hn => absurd ?h hn) (fun _ => ?_)); (case h => first | assumption | omega | decide)
  | (with_reducible refine' v_bT ?h ?_); (case h => first | assumption | rfl)
  | (with_reducible refine' v_bF ?h ?_); (case h => first | assumption | rfl))
local macro_rules | `(tactic| walk_at "dv4") => `(tactic| with_reducible first
  | refine v_places ?_ | refine v_roads ?_ | refine v_over ?_ | refine v_line ?_ | refine v_spots ?_ | refine v_myards ?_ | refine v_mroads ?_ | refine v_mW (by decide +kernel) ?_ | refine v_mK (by decide +kernel) ?_
  | refine v_itX ?_ | refine v_ev ?_ | refine v_rev ?_ | refine v_zs ?_ | refine v_enum ?_ | refine v_enum2 ?_ | refine v_makeV ?_ | refine v_tryN ?_ | refine v_lc2 ?_ | refine v_fz ?_ | refine v_make ?_ | refine v_fldS ?_)
local macro_rules | `(tactic| walk_at "dv5") => `(tactic| first
  | refine ⟨_, _, rfl, rfl, ?_⟩ | refine ⟨⟨_, _, rfl⟩, ?_⟩ | refine ⟨⟨_, _, _, rfl⟩, ?_⟩ | refine ⟨_, _, _, rfl, ?_⟩ | refine Or.inl ⟨_, rfl, ?_⟩ | refine Or.inr ⟨_, (fun _ z => by cases z), rfl, ?_⟩)
local macro_rules | `(tactic| walk_at "dv") => `(tactic| repeat (first | walk_at "dv0" | walk_at "dv4" | walk_at "dv1" | walk_at "dv3" | walk_at "dv2" | walk_at "dv5"))
/-! ### rows cut at a place -/
def preD (t : Int) : Seg → List Dt
  | [] => []
  | p :: a => .int t :: stD p.1 :: preD p.2 a
def lastT (t : Int) : Seg → Int
  | [] => t
  | p :: a => lastT p.2 a
def setT (t : Int) (a : Seg) (v : Int) : Int × Seg := match a with
  | [] => (v, [])
  | p :: a => (t, (p.1, (setT p.2 a v).1) :: (setT p.2 a v).2)
theorem preD_len (t : Int) : ∀ a : Seg, (preD t a).length = 2 * a.length
  | [] => rfl
  | p :: a => by
    rw [preD, List.length_cons, List.length_cons, preD_len p.2 a, List.length_cons]
    omega
theorem row_split (t : Int) : ∀ a b : Seg, rowD t (a ++ b) = preD t a ++ .int (lastT t a) :: segD b
  | [], b => rfl
  | p :: a, b => by
    have ih := row_split p.2 a b
    show Dt.int t :: stD p.1 :: rowD p.2 (a ++ b) = _
    rw [ih]
    rfl
theorem row_set (t : Int) : ∀ (a b : Seg) (v : Int), rowD (setT t a v).1 ((setT t a v).2 ++ b) = preD t a ++ .int v :: segD b
  | [], b, v => rfl
  | p :: a, b, v => by
    have ih := row_set p.2 a b v
    show Dt.int t :: stD p.1 :: rowD (setT p.2 a v).1 ((setT p.2 a v).2 ++ b) = _
    rw [ih]
    rfl
theorem setT_len (t : Int) : ∀ (a : Seg) (v : Int), (setT t a v).2.length = a.length
  | [], v => rfl
  | p :: a, v => by
    show ((p.1, (setT p.2 a v).1) :: (setT p.2 a v).2).length = _
    rw [List.length_cons, setT_len p.2 a v, List.length_cons]
theorem setT_path {m : Mod} {w : Str} : ∀ {a : Seg} {y : Str} {t v : Int}, Path m y a w → Path m y (setT t a v).2 w
  | [], _, _, _, h => h
  | p :: a, y, t, v, h => by
    cases h with
    | cons h1 h2 h3 p' => exact .cons h1 h2 h3 (setT_path p')
theorem Path.split {m : Mod} {z : Str} : ∀ {a b : Seg} {y : Str}, Path m y (a ++ b) z → ∃ w, Path m y a w ∧ Path m w b z ∧ (spots m y (a ++ b))[a.length]? = some w
  | [], b, y, h => ⟨y, .nil y, h, rfl⟩
  | p :: a, b, y, h => by
    cases h with
    | @cons _ s u l' _ r h1 h2 h3 p' =>
      obtain ⟨w, q1, q2, q3⟩ := Path.split p'
      refine ⟨w, .cons h1 h2 h3 q1, q2, ?_⟩
      have e : goes m s = (r.ends s.2).2 := by simp [goes, h1]
      show (y :: goes m s :: (a ++ b).map fun p => goes m p.1)[a.length + 1]? = some w
      rw [e]
      exact q3
theorem cut_drop {α : Type} (xs : List α) (k : Nat) : cutA xs (some (k : Int)) none = xs.drop k := by
  unfold cutA
  rw [HT.sIx_nat, HT.sIx_none, dropIx]
  rw [List.take_of_length_le]
  rw [List.length_drop]
  omega
theorem v_dict {en : Dv.Env} {S : Store} {ks : List Str} {ms : List (Dv.Env → Store → R Dt)} {Q : Dt → Store → Prop} {X : Ex → Store → Prop} (h : Pe (mPs ms en S) (fun ds S1 => ds.length = ks.length ∧ Q (.dct (ks.map Sum.inr) ds) S1) X) : Pe (mDict ks ms en S) Q X := by
  refine Pe.bind (h.imp (fun ds S1 ⟨hl, q⟩ => ?_) fun _ _ z => z)
  rw [if_pos hl]
  exact q
end Lw
set_option Elab.async false
set_option linter.all false
set_option maxRecDepth 100000
set_option maxHeartbeats 4000000
set_option autoImplicit false
namespace Lw
open PySem Dv
/-! steps of our own words -/
local macro_rules | `(tactic| walk_at "num") => `(tactic| first | assumption | decide | omega)
local macro_rules | `(tactic| walk_at "dv0") => `(tactic| with_reducible first
  | refine v_seq ?_ | refine v_ifS ?_ | refine v_set ?_ | refine v_ret ?_ | refine v_asg ?_ | refine v_par ?_ | refine v_drop ?_ | refine v_nx ?_ | refine v_bk ?_ | refine v_ct ?_ | refine v_retN ?_ | refine v_for ?_
  | refine v_c ?_ | refine v_nil ?_ | refine v_cons ?_ | refine v_op ?_ | refine v_B ?_ | refine v_truth ?_ | refine v_andT ?_ | refine v_orT ?_ | refine v_notT ?_
  | refine v_andV ?_ | refine v_orV ?_ | refine v_notV ?_ | refine v_if ?_ | refine v_neg ?_ | refine v_chain ?_ | refine v_tup ?_ | refine v_lst ?_ | refine v_lstR ?_ | refine v_noPart ?_ | refine v_part ?_ | refine v_sl ?_
  | refine v_CB ?_ | refine v_call ?_ | refine v_abs ?_ | refine v_lc ?_ | refine v_yes ?_ | refine v_it ?_ | refine v_rng1 ?_ | refine v_rng2 ?_ | refine v_rng3 ?_ | refine v_T ?_ | refine v_F ?_
  | refine v_add ?_ | refine v_sub ?_ | refine v_iadd ?_ | refine v_lt ?_ | refine v_le ?_ | refine v_gt ?_ | refine v_ge ?_ | refine v_eqI ?_ | refine v_neI ?_ | refine v_eqB ?_ | refine v_neB ?_)
local macro_rules | `(tactic| walk_at "dv1") => `(tactic| first
  | (with_reducible refine' v_var ?h ?_); (case h => rfl)
  | (with_reducible refine' v_aug ?h ?_); (case h => rfl)
  | (with_reducible refine' v_div ?h1 ?h2 ?_); (case h1 => walk_at "num"); (case h2 => walk_at "num")
  | (with_reducible refine' v_mod ?h1 ?_); (case h1 => walk_at "num")
  | (with_reducible refine' v_pow ?h1 ?_); (case h1 => walk_at "num")
  | (with_reducible refine' v_mulR ?h1 ?_); (case h1 => walk_at "num")
  | (with_reducible refine' v_mulL ?h1 ?_); (case h1 => walk_at "num")
  | (with_reducible refine' v_fin ?h1 ?_); (case h1 => first | exact Or.inl rfl | exact Or.inr rfl | (refine Or.inr ?_; simp only [List.length_set, *]; done))
  | (with_reducible refine' v_ix ?h1 ?_); (case h1 => first | exact ixD_ref (by assumption) (by rfl) | rfl)
  | (with_reducible refine' v_len ?h1 ?_); (case h1 => first | exact lenD_ref (by assumption) | rfl)
  | (with_reducible refine' v_list ?h1 ?_); (case h1 => rfl)
  | (with_reducible refine' v_listR ?h1 ?_); (case h1 => rfl)
  | (with_reducible refine' v_tuple ?h1 ?_); (case h1 => rfl)
  | (with_reducible refine' v_isd ?h1 ?_); (case h1 => rfl)
  | (with_reducible refine' v_isiTy ?h1 ?h2 ?_); (case h1 => rfl); (case h2 => rfl)
  | (with_reducible refine' v_isiT ?h1 ?_); (case h1 => rfl))
local macro_rules | `(tactic| walk_at "dv2") => `(tactic| first
  | refine v_gsub (by rfl) (by rfl) (by assumption) (by rfl) (fun _ _ _ => ?_) | refine ⟨_, rfl, ?_⟩ | (with_reducible refine' ⟨rng_ok ?h1 ?h2, ?_⟩); (case h1 => omega); (case h2 => omega) | refine ⟨rfl, ?_⟩ | refine ⟨_, _, rfl, ?_⟩ | refine ⟨Nat.le_of_ble_eq_true rfl, ?_⟩)
local macro_rules | `(tactic| walk_at "dv3") => `(tactic| first
  | (with_reducible refine' v_dec (fun _ => ?_) (fun hn => absurd ?h hn)); (case h => first | assumption | omega | decide)
  | (with_reducible refine' v_dec (fun hn => absurd hn ?h) (fun _ => ?_)); (case h => first | assumption | omega | decide)
  | (with_reducible refine' v_ndec (fun _ => ?_) (fun hn => absurd hn ?h)); (case h => first | assumption | omega | decide)
  | (with_reducible refine' v_ndec (fun hn => absurd ?h hn) (fun _ => ?_)); (case h => first | assumption | omega | decide)
  | (with_reducible refine' v_bT ?h ?_); (case h => first | assumption | rfl)
  | (with_reducible refine' v_bF ?h ?_); (case h => first | assumption | rfl))
local macro_rules | `(tactic| walk_at "dv4") => `(tactic| with_reducible first
  | refine v_places ?_ | refine v_roads ?_ | refine v_over ?_ | refine v_line ?_ | refine v_spots ?_ | refine v_myards ?_ | refine v_mroads ?_ | refine v_mW (by decide +kernel) ?_ | refine v_mK (by decide +kernel) ?_
  | refine v_itX ?_ | refine v_ev ?_ | refine v_rev ?_ | refine v_zs ?_ | refine v_enum ?_ | refine v_enum2 ?_ | refine v_makeV ?_ | refine v_tryN ?_ | refine v_lc2 ?_ | refine v_fz ?_ | refine v_make ?_ | refine v_fldS ?_)
local macro_rules | `(tactic| walk_at "dv5") => `(tactic| first
  | refine ⟨_, _, rfl, rfl, ?_⟩ | refine ⟨⟨_, _, rfl⟩, ?_⟩ | refine ⟨⟨_, _, _, rfl⟩, ?_⟩ | refine ⟨_, _, _, rfl, ?_⟩ | refine Or.inl ⟨_, rfl, ?_⟩ | refine Or.inr ⟨_, (fun _ z => by cases z), rfl, ?_⟩)
local macro_rules | `(tactic| walk_at "dv") => `(tactic| repeat (first | walk_at "dv0" | walk_at "dv4" | walk_at "dv1" | walk_at "dv3" | walk_at "dv2" | walk_at "dv5"))
/-! ### exchanges done -/
theorem cut_n {α : Type} (xs : List α) (k : Nat) (i : Int) (h : i = k := by rfl) : cutA xs (some i) none = xs.drop k := by
  rw [h]
  exact cut_drop xs k
theorem v_addL {xs ys : List Dt} {S : Store} {Q : Dt → Store → Prop} {X : Ex → Store → Prop} (hl : xs.length + ys.length ≤ 1000000) (q : Q (.lst (xs ++ ys)) S) : Pe (mAdd (.lst xs) (.lst ys) S) Q X := v_ifok hl q
/-! ### lists of the store, compared and popped -/
theorem v_popX {k : Nat} {ds : List Dt} {d : Dt} {mo : Dv.Env → Store → R Dt} {en : Dv.Env} {S : Store} {Q : Dt → Store → Prop} {X : Ex → Store → Prop} (ho : mo en S = .ok (.ref k) S) (hS : S[k]? = some (.lst ds)) (hd : ds.getLast? = some d) (q : Q d (S.set k (.lst ds.dropLast))) : Pe (mPop mo en S) Q X := by
  have e : mPop mo en S = .ok d (S.set k (.lst ds.dropLast)) := by
    unfold mPop
    rw [ho]
    show (match S[k]? with
      | some (.lst ds) => match ds.getLast? with
        | some d => R.ok d (S.set k (.lst ds.dropLast))
        | none => .stuck
      | _ => .stuck) = _
    rw [hS]
    dsimp only
    rw [hd]
  rw [e]
  exact q
theorem v_neRN {α : Type} {f : α → Dt} {l : List α} {k : Nat} {S : Store} {Q : Dt → Store → Prop} {X : Ex → Store → Prop} (hS : S[k]? = some (.lst (l.map f))) (h : (l.map f).all (okD 11) = true) (q : Q (.bl (!l.isEmpty)) S) : Pe (mNe (.ref k) (.lst []) S) Q X := by
  have e1 : res S (.ref k) = .lst (l.map f) := by
    simp [res, hS]
  refine v_ifok ⟨by rw [e1]; exact h, rfl⟩ ?_
  have e : eqD (.lst (l.map f)) (.lst []) = l.isEmpty := by
    cases l with
    | nil => rfl
    | cons s l => rfl
  rw [e1]
  show Q (.bl (!eqD (.lst (l.map f)) (.lst []))) S
  rw [e]
  exact q
theorem eqDs_map {α : Type} [DecidableEq α] {f : α → Dt} (h : ∀ a b, eqD (f a) (f b) = decide (a = b)) : ∀ l l' : List α, eqDs (l.map f) (l'.map f) = decide (l = l')
  | [], [] => rfl
  | [], b :: l' => rfl
  | a :: l, [] => rfl
  | a :: l, b :: l' => by
    show (eqD (f a) (f b) && eqDs (l.map f) (l'.map f)) = _
    rw [h, eqDs_map h, ← Bool.decide_and]
    congr 1
    simp
theorem all_map {α : Type} {p : Dt → Bool} {f : α → Dt} {l : List α} (h : ∀ a ∈ l, p (f a) = true) : (l.map f).all p = true := by
  rw [List.all_eq_true]
  intro x hx
  obtain ⟨s, hs, rfl⟩ := List.mem_map.mp hx
  exact h s hs
end Lw
set_option Elab.async false
set_option linter.all false
set_option maxRecDepth 100000
set_option maxHeartbeats 4000000
set_option autoImplicit false
namespace Lw
open PySem Dv
/-! steps of our own words -/
local macro_rules | `(tactic| walk_at "num") => `(tactic| first | assumption | decide | omega)
local macro_rules | `(tactic| walk_at "dv0") => `(tactic| with_reducible first
  | refine v_seq ?_ | refine v_ifS ?_ | refine v_set ?_ | refine v_ret ?_ | refine v_asg ?_ | refine v_par ?_ | refine v_drop ?_ | refine v_nx ?_ | refine v_bk ?_ | refine v_ct ?_ | refine v_retN ?_ | refine v_for ?_
  | refine v_c ?_ | refine v_nil ?_ | refine v_cons ?_ | refine v_op ?_ | refine v_B ?_ | refine v_truth ?_ | refine v_andT ?_ | refine v_orT ?_ | refine v_notT ?_
  | refine v_andV ?_ | refine v_orV ?_ | refine v_notV ?_ | refine v_if ?_ | refine v_neg ?_ | refine v_chain ?_ | refine v_tup ?_ | refine v_lst ?_ | refine v_lstR ?_ | refine v_noPart ?_ | refine v_part ?_ | refine v_sl ?_
  | refine v_CB ?_ | refine v_call ?_ | refine v_abs ?_ | refine v_lc ?_ | refine v_yes ?_ | refine v_it ?_ | refine v_rng1 ?_ | refine v_rng2 ?_ | refine v_rng3 ?_ | refine v_T ?_ | refine v_F ?_
  | refine v_add ?_ | refine v_sub ?_ | refine v_iadd ?_ | refine v_lt ?_ | refine v_le ?_ | refine v_gt ?_ | refine v_ge ?_ | refine v_eqI ?_ | refine v_neI ?_ | refine v_eqB ?_ | refine v_neB ?_)
local macro_rules | `(tactic| walk_at "dv1") => `(tactic| first
  | (with_reducible refine' v_var ?h ?_); (case h => rfl)
  | (with_reducible refine' v_aug ?h ?_); (case h => rfl)
  | (with_reducible refine' v_div ?h1 ?h2 ?_); (case h1 => walk_at "num"); (case h2 => walk_at "num")
  | (with_reducible refine' v_mod ?h1 ?_); (case h1 => walk_at "num")
  | (with_reducible refine' v_pow ?h1 ?_); (case h1 => walk_at "num")
  | (with_reducible refine' v_mulR ?h1 ?_); (case h1 => walk_at "num")
  | (with_reducible refine' v_mulL ?h1 ?_); (case h1 => walk_at "num")
  | (with_reducible refine' v_fin ?h1 ?_); (case h1 => first | exact Or.inl rfl | exact Or.inr rfl | (refine Or.inr ?_; simp only [List.length_set, *]; done))
  | (with_reducible refine' v_ix ?h1 ?_); (case h1 => first | exact ixD_ref (by assumption) (by rfl) | rfl)
  | (with_reducible refine' v_len ?h1 ?_); (case h1 => first | exact lenD_ref (by assumption) | rfl)
  | (with_reducible refine' v_list ?h1 ?_); (case h1 => rfl)
  | (with_reducible refine' v_listR ?h1 ?_); (case h1 => rfl)
  | (with_reducible refine' v_tuple ?h1 ?_); (case h1 => rfl)
  | (with_reducible refine' v_isd ?h1 ?_); (case h1 => rfl)
  | (with_reducible refine' v_isiTy ?h1 ?h2 ?_); (case h1 => rfl); (case h2 => rfl)
  | (with_reducible refine' v_isiT ?h1 ?_); (case h1 => rfl))
local macro_rules | `(tactic| walk_at "dv2") => `(tactic| first
  | refine v_gsub (by rfl) (by rfl) (by assumption) (by rfl) (fun _ _ _ => ?_) | refine ⟨_, rfl, ?_⟩ | (with_reducible refine' ⟨rng_ok ?h1 ?h2, ?_⟩); (case h1 => omega); (case h2 => omega) | refine ⟨rfl, ?_⟩ | refine ⟨_, _, rfl, ?_⟩ | refine ⟨Nat.le_of_ble_eq_true rfl, ?_⟩)
local macro_rules | `(tactic| walk_at "dv3") => `(tactic| first
  | (with_reducible refine' v_dec (fun _ => ?_) (fun hn => absurd ?h hn)); (case h => first | assumption | omega | decide)
  | (with_reducible refine' v_dec (fun hn => absurd hn ?h) (fun _ => ?_)); (case h => first | assumption | omega | decide)
  | (with_reducible refine' v_ndec (fun _ => ?_) (fun hn => absurd hn ?h)); (case h => first | assumption | omega | decide)
  | (with_reducible refine' v_ndec (fun hn => absurd ?h hn) (fun _ => ?_)); (case h => first | assumption | omega | decide)
  | (with_reducible refine' v_bT ?h ?_); (case h => first | assumption | rfl)
  | (with_reducible refine' v_bF ?h ?_); (case h => first | assumption | rfl))
local macro_rules | `(tactic| walk_at "dv4") => `(tactic| with_reducible first
  | refine v_places ?_ | refine v_roads ?_ | refine v_over ?_ | refine v_line ?_ | refine v_spots ?_ | refine v_myards ?_ | refine v_mroads ?_ | refine v_mW (by decide +kernel) ?_ | refine v_mK (by decide +kernel) ?_
  | refine v_itX ?_ | refine v_ev ?_ | refine v_rev ?_ | refine v_zs ?_ | refine v_enum ?_ | refine v_enum2 ?_ | refine v_makeV ?_ | refine v_tryN ?_ | refine v_lc2 ?_ | refine v_fz ?_ | refine v_make ?_ | refine v_fldS ?_)
local macro_rules | `(tactic| walk_at "dv5") => `(tactic| first
  | refine ⟨_, _, rfl, rfl, ?_⟩ | refine ⟨⟨_, _, rfl⟩, ?_⟩ | refine ⟨⟨_, _, _, rfl⟩, ?_⟩ | refine ⟨_, _, _, rfl, ?_⟩ | refine Or.inl ⟨_, rfl, ?_⟩ | refine Or.inr ⟨_, (fun _ z => by cases z), rfl, ?_⟩)
local macro_rules | `(tactic| walk_at "dv") => `(tactic| repeat (first | walk_at "dv0" | walk_at "dv4" | walk_at "dv1" | walk_at "dv3" | walk_at "dv2" | walk_at "dv5"))
/-! ### any good exchange; walks led on -/
theorem Within.app {B : Nat} {a b : Seg} : Within B (a ++ b) ↔ Within B a ∧ Within B b := by
  constructor
  · exact fun h => ⟨fun p hp => h p (List.mem_append.mpr (.inl hp)), fun p hp => h p (List.mem_append.mpr (.inr hp))⟩
  · rintro ⟨h, k⟩ p hp
    rcases List.mem_append.mp hp with z | z
    · exact h p z
    · exact k p z
theorem Within.cons {B : Nat} {p : Step × Int} {b : Seg} : Within B (p :: b) ↔ p.2.natAbs ≤ B ∧ Within B b := by
  constructor
  · exact fun h => ⟨h p List.mem_cons_self, fun q hq => h q (List.mem_cons_of_mem _ hq)⟩
  · rintro ⟨h, k⟩ q hq
    rcases List.mem_cons.mp hq with z | z
    · rw [z]
      exact h
    · exact k q z
end Lw
set_option Elab.async false
set_option linter.all false
set_option maxRecDepth 100000
set_option maxHeartbeats 4000000
set_option autoImplicit false
namespace Lw
open PySem Dv
/-! steps of our own words -/
local macro_rules | `(tactic| walk_at "num") => `(tactic| first | assumption | decide | omega)
local macro_rules | `(tactic| walk_at "dv0") => `(tactic| with_reducible first
  | refine v_seq ?_ | refine v_ifS ?_ | refine v_set ?_ | refine v_ret ?_ | refine v_asg ?_ | refine v_par ?_ | refine v_drop ?_ | refine v_nx ?_ | refine v_bk ?_ | refine v_ct ?_ | refine v_retN ?_ | refine v_for ?_
  | refine v_c ?_ | refine v_nil ?_ | refine v_cons ?_ | refine v_op ?_ | refine v_B ?_ | refine v_truth ?_ | refine v_andT ?_ | refine v_orT ?_ | refine v_notT ?_
  | refine v_andV ?_ | refine v_orV ?_ | refine v_notV ?_ | refine v_if ?_ | refine v_neg ?_ | refine v_chain ?_ | refine v_tup ?_ | refine v_lst ?_ | refine v_lstR ?_ | refine v_noPart ?_ | refine v_part ?_ | refine v_sl ?_
  | refine v_CB ?_ | refine v_call ?_ | refine v_abs ?_ | refine v_lc ?_ | refine v_yes ?_ | refine v_it ?_ | refine v_rng1 ?_ | refine v_rng2 ?_ | refine v_rng3 ?_ | refine v_T ?_ | refine v_F ?_
  | refine v_add ?_ | refine v_sub ?_ | refine v_iadd ?_ | refine v_lt ?_ | refine v_le ?_ | refine v_gt ?_ | refine v_ge ?_ | refine v_eqI ?_ | refine v_neI ?_ | refine v_eqB ?_ | refine v_neB ?_)
local macro_rules | `(tactic| walk_at "dv1") => `(tactic| first
  | (with_reducible refine' v_var ?h ?_); (case h => rfl)
  | (with_reducible refine' v_aug ?h ?_); (case h => rfl)
  | (with_reducible refine' v_div ?h1 ?h2 ?_); (case h1 => walk_at "num"); (case h2 => walk_at "num")
  | (with_reducible refine' v_mod ?h1 ?_); (case h1 => walk_at "num")
  | (with_reducible refine' v_pow ?h1 ?_); (case h1 => walk_at "num")
  | (with_reducible refine' v_mulR ?h1 ?_); (case h1 => walk_at "num")
  | (with_reducible refine' v_mulL ?h1 ?_); (case h1 => walk_at "num")
  | (with_reducible refine' v_fin ?h1 ?_); (case h1 => first | exact Or.inl rfl | exact Or.inr rfl | (refine Or.inr ?_; simp only [List.length_set, *]; done))
  | (with_reducible refine' v_ix ?h1 ?_); (case h1 => first | exact ixD_ref (by assumption) (by rfl) | rfl)
  | (with_reducible refine' v_len ?h1 ?_); (case h1 => first | exact lenD_ref (by assumption) | rfl)
  | (with_reducible refine' v_list ?h1 ?_); (case h1 => rfl)
  | (with_reducible refine' v_listR ?h1 ?_); (case h1 => rfl)
  | (with_reducible refine' v_tuple ?h1 ?_); (case h1 => rfl)
  | (with_reducible refine' v_isd ?h1 ?_); (case h1 => rfl)
  | (with_reducible refine' v_isiTy ?h1 ?h2 ?_); (case h1 => rfl); (case h2 => rfl)
  | (with_reducible refine' v_isiT ?h1 ?_); (case h1 => rfl))
local macro_rules | `(tactic| walk_at "dv2") => `(tactic| first
  | refine v_gsub (by rfl) (by rfl) (by assumption) (by rfl) (fun _ _ _ => ?_) | refine ⟨_, rfl, ?_⟩ | (with_reducible refine' ⟨rng_ok ?h1 ?h2, ?_⟩); (case h1 => omega); (case h2 => omega) | refine ⟨rfl, ?_⟩ | refine ⟨_, _, rfl, ?_⟩ | refine ⟨Nat.le_of_ble_eq_true rfl, ?_⟩)
local macro_rules | `(tactic| walk_at "dv3") => `(tactic| first
  | (with_reducible refine' v_dec (fun _ => ?_) (fun hn => absurd ?h hn)); (case h => first | assumption | omega | decide)
  | (with_reducible refine' v_dec (fun hn => absurd hn ?h) (fun _ => ?_)); (case h => first | assumption | omega | decide)
  | (with_reducible refine' v_ndec (fun _ => ?_) (fun hn => absurd hn ?h)); (case h => first | assumption | omega | decide)
  | (with_reducible refine' v_ndec (fun hn => absurd ?h hn) (fun _ => ?_)); (case h => first | assumption | omega | decide)
  | (with_reducible refine' v_bT ?h ?_); (case h => first | assumption | rfl)
  | (with_reducible refine' v_bF ?h ?_); (case h => first | assumption | rfl))
local macro_rules | `(tactic| walk_at "dv4") => `(tactic| with_reducible first
  | refine v_places ?_ | refine v_roads ?_ | refine v_over ?_ | refine v_line ?_ | refine v_spots ?_ | refine v_myards ?_ | refine v_mroads ?_ | refine v_mW (by decide +kernel) ?_ | refine v_mK (by decide +kernel) ?_
  | refine v_itX ?_ | refine v_ev ?_ | refine v_rev ?_ | refine v_zs ?_ | refine v_enum ?_ | refine v_enum2 ?_ | refine v_makeV ?_ | refine v_tryN ?_ | refine v_lc2 ?_ | refine v_fz ?_ | refine v_make ?_ | refine v_fldS ?_)
local macro_rules | `(tactic| walk_at "dv5") => `(tactic| first
  | refine ⟨_, _, rfl, rfl, ?_⟩ | refine ⟨⟨_, _, rfl⟩, ?_⟩ | refine ⟨⟨_, _, _, rfl⟩, ?_⟩ | refine ⟨_, _, _, rfl, ?_⟩ | refine Or.inl ⟨_, rfl, ?_⟩ | refine Or.inr ⟨_, (fun _ z => by cases z), rfl, ?_⟩)
local macro_rules | `(tactic| walk_at "dv") => `(tactic| repeat (first | walk_at "dv0" | walk_at "dv4" | walk_at "dv1" | walk_at "dv3" | walk_at "dv2" | walk_at "dv5"))
theorem parted_eq {S : Store} {a b : Int} (h0 : b ≠ 0) (hl : b.natAbs.log2 < 9000) : m_parted [.int a, .int b] S = .ok (.tup [.int ((a - a.fmod b.natAbs).fdiv b), .int (a.fmod b.natAbs)]) S := by
  refine Pe.eq ?_
  refine v_fn ?_
  unfold b_parted
  have e : (if b < 0 then -b else b) = (b.natAbs : Int) := by split <;> omega
  walk_at "dv"
  rw [e]
  exact ⟨rfl, rfl⟩
/-! ### settled -/
abbrev Pairs := List (Int × Step)
abbrev prD (p : Int × Step) : Dt := .tup [.int p.1, stD p.2]
def ruleOf (m : Mod) (s : Step) : Int × Int := match m.road s.1 with
  | some r => r.rule s.2
  | none => (1, 1)
def pushS (h : Int × Int) (ps : Pairs) (x : Int) (s : Step) : Pairs × Int := (ps ++ [(x.fmod h.1.natAbs, s)], (x - x.fmod h.1.natAbs).fdiv h.1 * h.2)
def stl1 (h : Int × Int) (ps : Pairs) (x : Int) (s : Step) : Pairs × Int := match ps.getLast? with
  | some p => if p.2 = und s ∧ x.fmod h.1 = 0 then (ps.dropLast, p.1 + x.fdiv h.1 * h.2) else pushS h ps x s
  | none => pushS h ps x s
def stl (m : Mod) (ps : Pairs) (x : Int) : Seg → Pairs × Int
  | [] => (ps, x)
  | (s, u) :: l => stl m (stl1 (ruleOf m s) ps x s).1 ((stl1 (ruleOf m s) ps x s).2 + u) l
theorem evens_turns (t : Int) : ∀ l : Seg, evens (List.drop 2 (rowD t l)) = l.map fun p => Dt.int p.2
  | [] => rfl
  | p :: l => by
    show evens (rowD p.2 l) = _
    rw [evens_row]
    rfl
theorem pairs_row : ∀ l : Seg, pairsD (l.map fun p => stD p.1) (l.map fun p => Dt.int p.2) = l.map fun p => Dt.tup [stD p.1, .int p.2]
  | [] => rfl
  | p :: l => by
    show Dt.tup [stD p.1, .int p.2] :: pairsD (l.map fun p => stD p.1) (l.map fun p => Dt.int p.2) = _
    rw [pairs_row l]
    rfl
section
variable {m : Mod} {S : Store}
theorem undone_ok {s : Step} : m_undone [stD s] S = .ok (stD (und s)) S := by
  refine Pe.eq (v_fn ?_)
  unfold b_undone
  walk_at "dv"
  first | exact ⟨rfl, rfl⟩ | exact rfl
theorem okD_pr {p : Int × Step} (h : PyData.strOk p.2.1 = true) (k : Nat) : okD (k + 2) (prD p) = true := by
  show [Dt.int p.1, stD p.2].all (okD (k + 1)) = true
  simp only [List.all_cons, List.all_nil, Bool.and_true, Bool.and_eq_true]
  exact ⟨by simp [okD], okD_st h k⟩
theorem stl1_mem {h : Int × Int} {ps : Pairs} {x : Int} {s : Step} {p : Int × Step} (hp : p ∈ (stl1 h ps x s).1) : p ∈ ps ∨ p.2 = s := by
  unfold stl1 pushS at hp
  split at hp
  · split at hp
    · exact .inl (List.dropLast_subset _ hp)
    · rcases List.mem_append.mp hp with z | z
      · exact .inl z
      · rw [List.mem_singleton.mp z]
        exact .inr rfl
  · rcases List.mem_append.mp hp with z | z
    · exact .inl z
    · rw [List.mem_singleton.mp z]
      exact .inr rfl
theorem stl1_len (h : Int × Int) (ps : Pairs) (x : Int) (s : Step) : (stl1 h ps x s).1.length ≤ ps.length + 1 := by
  unfold stl1 pushS
  split
  · split
    · rw [List.length_dropLast]
      omega
    · simp
  · simp
theorem frz_pair2 {n k : Nat} {T : Store} {d : Dt} {ds : List Dt} (hd : noRef 11 d = true) (hT : T[k]? = some (.lst ds)) (hk : n ≤ k) (h : ds.all (noRef 10) = true) : frz n T deepF (.tup [.ref k, d]) = some (.tup [.lst ds, d]) := by
  show frz n T (11 + 1) _ = _
  unfold frz
  rw [if_neg (by simp [noRef])]
  dsimp only
  have e : frz n T 11 (.ref k) = some (.lst ds) := by
    show frz n T (10 + 1) (.ref k) = _
    unfold frz
    rw [if_neg (by simp [noRef])]
    dsimp only
    rw [if_neg (by omega), hT]
    dsimp only
    rw [mapO_pure h]
    rfl
  unfold mapO
  rw [e]
  unfold mapO
  rw [frz_pure hd]
  rfl
theorem settled_push {k : Nat} {w r y8 y9 : Option Dt} {T : Store} {x : Int} {s : Step} {u : Option Dt} {h : Int × Int} {ps : Pairs} (hT : T[k]? = some (.lst (ps.map prD))) (h0 : h.1 ≠ 0) (hb1 : h.1.natAbs ≤ 99) (hb2 : h.2.natAbs ≤ 99) (hps : ps.length < 1000)
    {QS : Fl → Dv.Env → Store → Prop} {XS : Ex → Dv.Env → Store → Prop}
    (q : ∀ y8 y9, QS .nx [w, r, some (.ref k), some (.int (pushS h ps x s).2), some (stD s), u, some (.int h.1), some (.int h.2), y8, y9] (T.set k (.lst ((pushS h ps x s).1.map prD)))) :
    Ps (mSeq (mAsg (gTp 2 (gCons' (gNm 8) (gCons' (gNm 9) gNil'))) (mCall 2 m_parted (mCons (mVar 3) (mCons (mVar 6) mNil))))
      (mSeq (mDrop (mApp1 (mVar 2) (mTup (mCons (mVar 9) (mCons (mVar 4) mNil))))) (mSet 3 (mOp mMul (mVar 8) (mVar 7)))) [w, r, some (.ref k), some (.int x), some (stD s), u, some (.int h.1), some (.int h.2), y8, y9] T) QS XS := by
  walk_at "dv"
  refine Pe.of (parted_eq h0 ?_) ?_
  · have := Nat.log2_lt (n := h.1.natAbs) (k := 64) (by omega)
    omega
  walk_at "dv"
  refine v_app1K rfl hT ?_
  walk_at "dv"
  refine ⟨_, hT, by rw [List.length_map]; omega, ?_⟩
  have hh : h.2.natAbs < 2 ^ 64 := by omega
  walk_at "dv"
  have := q (some (.int ((x - x.fmod h.1.natAbs).fdiv h.1))) (some (.int (x.fmod h.1.natAbs)))
  unfold pushS at this
  rw [List.map_append] at this
  exact this
theorem settled_ok (ok : m.Ok) (hp : PureS S) {y z : Str} {t : Int} {l : Seg} (h : Path m y l z) (hl : l.length ≤ 1000) : m_settled [m.w, .lst (rowD t l)] S = .ok (.tup [.lst ((stl m [] t l).1.map prD), .int (stl m [] t l).2]) S := by
  refine Pe.eq (v_fn ?_)
  unfold b_settled
  walk_at "dv"
  refine v_ix (ix_zero _ _) ?_
  walk_at "dv"
  have e1 : evens (List.drop 1 (rowD t l)) = l.map fun p => stD p.1 := evens_seg l
  rw [e1, evens_turns]
  refine ⟨_, _, _, _, rfl, rfl, rfl, by simp, ?_⟩
  rw [pairs_row]
  refine v_loop (fun ds en T => ∃ (x4 x5 x6 x7 x8 x9 : Option Dt) (b : Seg) (w : Str) (ps : Pairs) (x : Int), en = [some m.w, some (.lst (rowD t l)), some (.ref S.length), some (.int x), x4, x5, x6, x7, x8, x9] ∧ Jz S T ∧ T[S.length]? = some (.lst (ps.map prD)) ∧
      ds = b.map (fun p => .tup [stD p.1, .int p.2]) ∧ Path m w b z ∧ stl m ps x b = stl m [] t l ∧ ps.length + b.length ≤ 1000 ∧ (∀ p ∈ ps, PyData.strOk p.2.1 = true))
    ⟨_, _, _, _, _, _, l, y, [], t, rfl, Jz.refl.push, last_at, rfl, h, rfl, by simpa using hl, fun p hp => (List.not_mem_nil hp).elim⟩ ?_ ?_
  · rintro d ds en T ⟨x4, x5, x6, x7, x8, x9, b, w, ps, x, rfl, jz, hT, e2, pb, es, hlen, hst⟩
    cases pb with
    | nil => cases e2
    | @cons _ s u b' _ r h1 h2 h3 p' =>
      cases e2
      have so : PyData.strOk s.1 = true := by
        have := (road_in h1)
        rw [← this.2]
        exact (ok.sr r this.1).1
      have er : ruleOf m s = r.rule s.2 := by simp [ruleOf, h1]
      have rb := rule_b ok h1 s.2
      rw [List.length_cons] at hlen
      refine ⟨_, _, rfl, ?_⟩
      generalize hP : (mSeq (mAsg (gTp 2 (gCons' (gNm 8) (gCons' (gNm 9) gNil'))) (mCall 2 m_parted (mCons (mVar 3) (mCons (mVar 6) mNil)))) (mSeq (mDrop (mApp1 (mVar 2) (mTup (mCons (mVar 9) (mCons (mVar 4) mNil))))) (mSet 3 (mOp mMul (mVar 8) (mVar 7))))) = P
      walk_at "dv"
      refine Pe.of (web_rule_ok ok h1 h2) ?_
      walk_at "dv"
      have okps : (ps.map prD).all (okD 11) = true := all_map fun p hp => okD_pr (hst p hp) 9
      refine v_neRN hT okps ?_
      refine ⟨_, rfl, ?_⟩
      have next : ∀ (T2 : Store) (x8 x9 : Option Dt) (v : Int), Jz S T2 → T2[S.length]? = some (.lst ((stl1 (r.rule s.2) ps x s).1.map prD)) → v = (stl1 (r.rule s.2) ps x s).2 + u →
          (∃ (x4 x5 x6 x7 y8 y9 : Option Dt) (b : Seg) (w : Str) (ps : Pairs) (x : Int), [some m.w, some (Dt.lst (rowD t l)), some (.ref S.length), some (.int v), some (stD s), some (.int u), some (.int (r.rule s.2).1), some (.int (r.rule s.2).2), x8, x9] = [some m.w, some (Dt.lst (rowD t l)), some (.ref S.length), some (.int x), x4, x5, x6, x7, y8, y9] ∧ Jz S T2 ∧ T2[S.length]? = some (.lst (ps.map prD)) ∧
          b'.map (fun p => Dt.tup [stD p.1, .int p.2]) = b.map (fun p => Dt.tup [stD p.1, .int p.2]) ∧ Path m w b z ∧ stl m ps x b = stl m [] t l ∧ ps.length + b.length ≤ 1000 ∧ (∀ p ∈ ps, PyData.strOk p.2.1 = true)) := by
        intro T2 x8 x9 v j2 hT2 ev
        refine ⟨_, _, _, _, _, _, b', _, (stl1 (r.rule s.2) ps x s).1, v, rfl, j2, hT2, rfl, p', ?_, ?_, fun p hp => ?_⟩
        · rw [← es, ev, ← er]
          rfl
        · have := stl1_len (r.rule s.2) ps x s
          omega
        · rcases stl1_mem hp with z | z
          · exact hst p z
          · rw [z]
            exact so
      have h0 : (r.rule s.2).1 ≠ 0 := rb.1.1
      have hlg : (r.rule s.2).1.natAbs.log2 < 9000 := by
        have := Nat.log2_lt (n := (r.rule s.2).1.natAbs) (k := 64) (by omega)
        omega
      have hh : (r.rule s.2).2.natAbs < 2 ^ 64 := by omega
      rcases List.eq_nil_or_concat ps with rfl | ⟨ps', p, rfl⟩
      · refine v_bF rfl ?_
        subst hP
        refine settled_push (h := r.rule s.2) hT rb.1.1 rb.1.2 rb.2.2 (by omega) fun y8 y9 => ?_
        walk_at "dv"
        exact next _ _ _ _ (jz.set (Nat.le_refl _)) (set_same hT) rfl
      · rw [List.concat_eq_append] at *
        have hpp := hst p (by simp)
        have hlast : (ps' ++ [p]).getLast? = some p := by simp
        refine v_bT (by simp) ?_
        walk_at "dv"
        refine v_ix (ixD_ref hT (last_ix (x := prD p) (by simp))) ?_
        walk_at "dv"
        refine Pe.of undone_ok ?_
        refine v_eqT hpp so ?_
        refine ⟨_, rfl, ?_⟩
        refine v_dec (fun e => ?_) (fun e => ?_)
        · walk_at "dv"
          refine v_dec (fun e2 => ?_) (fun e2 => ?_)
          · walk_at "dv"
            refine v_popX rfl hT (d := prD p) (by simp) ?_
            walk_at "dv"
            refine next _ _ _ _ (jz.set (Nat.le_refl _)) ?_ ?_
            · rw [set_same hT]
              simp [stl1, hlast, e, e2]
            · simp [stl1, hlast, e, e2]
          · subst hP
            refine settled_push (h := r.rule s.2) hT rb.1.1 rb.1.2 rb.2.2 (by omega) fun y8 y9 => ?_
            walk_at "dv"
            refine next _ _ _ _ (jz.set (Nat.le_refl _)) ?_ ?_
            · rw [set_same hT]
              simp [stl1, hlast, e, e2]
            · simp [stl1, hlast, e, e2]
        · subst hP
          refine settled_push (h := r.rule s.2) hT rb.1.1 rb.1.2 rb.2.2 (by omega) fun y8 y9 => ?_
          walk_at "dv"
          refine next _ _ _ _ (jz.set (Nat.le_refl _)) ?_ ?_
          · rw [set_same hT]
            simp [stl1, hlast, e]
          · simp [stl1, hlast, e]
  · rintro en T ⟨x4, x5, x6, x7, x8, x9, b, w, ps, x, rfl, jz, hT, e2, pb, es, hlen, hst⟩
    have hb : b = [] := by simpa using e2.symm
    subst hb
    walk_at "dv"
    have hl0 : S.length < T.length := (List.getElem?_eq_some_iff.mp hT).1
    refine v_finL (frz_pair2 rfl hT (Nat.le_refl _) (all_map fun p _ => by simp [noRef])) hl0 (by rw [jz.eq]; exact hp) ?_
    rw [jz.eq, ← es]
    exact ⟨rfl, rfl⟩
end
end Lw
set_option Elab.async false
set_option linter.all false
set_option maxRecDepth 100000
set_option maxHeartbeats 4000000
set_option autoImplicit false
namespace Lw
open PySem Dv
/-! steps of our own words -/
local macro_rules | `(tactic| walk_at "num") => `(tactic| first | assumption | decide | omega)
local macro_rules | `(tactic| walk_at "dv0") => `(tactic| with_reducible first
  | refine v_seq ?_ | refine v_ifS ?_ | refine v_set ?_ | refine v_ret ?_ | refine v_asg ?_ | refine v_par ?_ | refine v_drop ?_ | refine v_nx ?_ | refine v_bk ?_ | refine v_ct ?_ | refine v_retN ?_ | refine v_for ?_
  | refine v_c ?_ | refine v_nil ?_ | refine v_cons ?_ | refine v_op ?_ | refine v_B ?_ | refine v_truth ?_ | refine v_andT ?_ | refine v_orT ?_ | refine v_notT ?_
  | refine v_andV ?_ | refine v_orV ?_ | refine v_notV ?_ | refine v_if ?_ | refine v_neg ?_ | refine v_chain ?_ | refine v_tup ?_ | refine v_lst ?_ | refine v_lstR ?_ | refine v_noPart ?_ | refine v_part ?_ | refine v_sl ?_
  | refine v_CB ?_ | refine v_call ?_ | refine v_abs ?_ | refine v_lc ?_ | refine v_yes ?_ | refine v_it ?_ | refine v_rng1 ?_ | refine v_rng2 ?_ | refine v_rng3 ?_ | refine v_T ?_ | refine v_F ?_
  | refine v_add ?_ | refine v_sub ?_ | refine v_iadd ?_ | refine v_lt ?_ | refine v_le ?_ | refine v_gt ?_ | refine v_ge ?_ | refine v_eqI ?_ | refine v_neI ?_ | refine v_eqB ?_ | refine v_neB ?_)
local macro_rules | `(tactic| walk_at "dv1") => `(tactic| first
  | (with_reducible refine' v_var ?h ?_); (case h => rfl)
  | (with_reducible refine' v_aug ?h ?_); (case h => rfl)
  | (with_reducible refine' v_div ?h1 ?h2 ?_); (case h1 => walk_at "num"); (case h2 => walk_at "num")
  | (with_reducible refine' v_mod ?h1 ?_); (case h1 => walk_at "num")
  | (with_reducible refine' v_pow ?h1 ?_); (case h1 => walk_at "num")
  | (with_reducible refine' v_mulR ?h1 ?_); (case h1 => walk_at "num")
  | (with_reducible refine' v_mulL ?h1 ?_); (case h1 => walk_at "num")
  | (with_reducible refine' v_fin ?h1 ?_); (case h1 => first | exact Or.inl rfl | exact Or.inr rfl | (refine Or.inr ?_; simp only [List.length_set, *]; done))
  | (with_reducible refine' v_ix ?h1 ?_); (case h1 => first | exact ixD_ref (by assumption) (by rfl) | rfl)
  | (with_reducible refine' v_len ?h1 ?_); (case h1 => first | exact lenD_ref (by assumption) | rfl)
  | (with_reducible refine' v_list ?h1 ?_); (case h1 => rfl)
  | (with_reducible refine' v_listR ?h1 ?_); (case h1 => rfl)
  | (with_reducible refine' v_tuple ?h1 ?_); (case h1 => rfl)
  | (with_reducible refine' v_isd ?h1 ?_); (case h1 => rfl)
  | (with_reducible refine' v_isiTy ?h1 ?h2 ?_); (case h1 => rfl); (case h2 => rfl)
  | (with_reducible refine' v_isiT ?h1 ?_); (case h1 => rfl))
local macro_rules | `(tactic| walk_at "dv2") => `(tactic| first
  | refine v_gsub (by rfl) (by rfl) (by assumption) (by rfl) (fun _ _ _ => ?_) | refine ⟨_, rfl, ?_⟩ | (with_reducible refine' ⟨rng_ok ?h1 ?h2, ?_⟩); (case h1 => omega); (case h2 => omega) | refine ⟨rfl, ?_⟩ | refine ⟨_, _, rfl, ?_⟩ | refine ⟨Nat.le_of_ble_eq_true rfl, ?_⟩)
local macro_rules | `(tactic| walk_at "dv3") => `(tactic| first
  | (with_reducible refine' v_dec (fun _ => ?_) (fun hn => absurd ?h hn)); (case h => first | assumption | omega | decide)
  | (with_reducible refine' v_dec (fun hn => absurd hn ?h) (fun _ => ?_)); (case h => first | assumption | omega | decide)
  | (with_reducible refine' v_ndec (fun _ => ?_) (fun hn => absurd hn ?h)); (case h => first | assumption | omega | decide)
  | (with_reducible refine' v_ndec (fun hn => absurd ?h hn) (fun _ => ?_)); (case h => first | assumption | omega | decide)
  | (with_reducible refine' v_bT ?h ?_); (case h => first | assumption | rfl)
  | (with_reducible refine' v_bF ?h ?_); (case h => first | assumption | rfl))
local macro_rules | `(tactic| walk_at "dv4") => `(tactic| with_reducible first
  | refine v_places ?_ | refine v_roads ?_ | refine v_over ?_ | refine v_line ?_ | refine v_spots ?_ | refine v_myards ?_ | refine v_mroads ?_ | refine v_mW (by decide +kernel) ?_ | refine v_mK (by decide +kernel) ?_
  | refine v_itX ?_ | refine v_ev ?_ | refine v_rev ?_ | refine v_zs ?_ | refine v_enum ?_ | refine v_enum2 ?_ | refine v_makeV ?_ | refine v_tryN ?_ | refine v_lc2 ?_ | refine v_fz ?_ | refine v_make ?_ | refine v_fldS ?_)
local macro_rules | `(tactic| walk_at "dv5") => `(tactic| first
  | refine ⟨_, _, rfl, rfl, ?_⟩ | refine ⟨⟨_, _, rfl⟩, ?_⟩ | refine ⟨⟨_, _, _, rfl⟩, ?_⟩ | refine ⟨_, _, _, rfl, ?_⟩ | refine Or.inl ⟨_, rfl, ?_⟩ | refine Or.inr ⟨_, (fun _ z => by cases z), rfl, ?_⟩)
local macro_rules | `(tactic| walk_at "dv") => `(tactic| repeat (first | walk_at "dv0" | walk_at "dv4" | walk_at "dv1" | walk_at "dv3" | walk_at "dv2" | walk_at "dv5"))
/-! ### alike and plain -/
theorem cloop2_ok (f : Dt → List Dt) {tg tg1 : Dt → Dv.Env → Option Dv.Env} {tt t1 : Dv.Env → Store → R Bool} {mi1 : Dv.Env → Store → R (List Dt)} {own1 : List Nat} {me : Dv.Env → Store → R Dt} {en : Dv.Env} {S : Store} : ∀ (items acc : List Dt),
    (∀ d ∈ items, ∃ e1 its, tg d en = some e1 ∧ tt e1 S = .ok true S ∧ mi1 e1 S = .ok its S ∧ ∀ acc, acc.length + (f d).length < 1000000 → cLoop tg1 t1 me (wipeE e1 own1) its acc S = .ok (acc ++ f d) S) → acc.length + (items.flatMap f).length < 1000000 → cLoop2 tg tt mi1 own1 tg1 t1 me en items acc S = .ok (acc ++ items.flatMap f) S
  | [], acc, _, _ => by
    rw [List.flatMap_nil, List.append_nil]
    rfl
  | d :: items, acc, h, hl => by
    obtain ⟨e1, its, h1, h2, h3, h4⟩ := h d List.mem_cons_self
    rw [List.flatMap_cons, List.length_append] at hl
    have ih := cloop2_ok f items (acc ++ f d) (fun x hx => h x (List.mem_cons_of_mem _ hx)) (by rw [List.length_append]; omega)
    unfold cLoop2
    rw [h1]
    dsimp only
    rw [h2]
    show ((mi1 e1 S).nx.bind fun its S2 => (cLoop tg1 t1 me (wipeE e1 own1) its acc S2).bind fun acc2 S3 => cLoop2 tg tt mi1 own1 tg1 t1 me en items acc2 S3) = _
    rw [h3]
    show ((cLoop tg1 t1 me (wipeE e1 own1) its acc S).bind fun acc2 S3 => cLoop2 tg tt mi1 own1 tg1 t1 me en items acc2 S3) = _
    rw [h4 acc (by omega)]
    show cLoop2 tg tt mi1 own1 tg1 t1 me en items (acc ++ f d) S = _
    rw [ih, List.flatMap_cons, List.append_assoc]
theorem eqD_pr (p q : Int × Step) : eqD (prD p) (prD q) = decide (p = q) := by
  obtain ⟨i, s⟩ := p
  obtain ⟨j, t⟩ := q
  show ((i == j) && (eqD (stD s) (stD t) && true)) = _
  rw [eqD_st]
  have e : (i == j) = decide (i = j) := rfl
  rw [e, Bool.and_true, ← Bool.decide_and]
  congr 1
  simp [Prod.ext_iff]
theorem v_eqB {x y : Dt} {b : Bool} {S : Store} {Q : Dt → Store → Prop} {X : Ex → Store → Prop} (h : okD 12 (res S x) = true) (h' : okD 12 (res S y) = true) (e : eqD (res S x) (res S y) = b) (q : Q (.bl b) S) : Pe (mEq x y S) Q X := by
  refine v_ifok ⟨h, h'⟩ ?_
  rw [e]
  exact q
section
variable {m : Mod} {S : Store}
abbrev stlD (q : Pairs × Int) : Dt := .tup [.lst (q.1.map prD), .int q.2]
theorem okD_stl {q : Pairs × Int} (h : ∀ p ∈ q.1, PyData.strOk p.2.1 = true) : okD 12 (stlD q) = true := by
  show [Dt.lst (q.1.map prD), .int q.2].all (okD 11) = true
  have e : okD 11 (Dt.lst (q.1.map prD)) = true := all_map (p := okD 10) fun p hp => okD_pr (h p hp) 8
  simp only [List.all_cons, List.all_nil, Bool.and_true, Bool.and_eq_true]
  exact ⟨e, by simp [okD]⟩
theorem eqD_stl (q r : Pairs × Int) : eqD (stlD q) (stlD r) = decide (q = r) := by
  show (eqDs (q.1.map prD) (r.1.map prD) && ((q.2 == r.2) && true)) = _
  have e : (q.2 == r.2) = decide (q.2 = r.2) := rfl
  rw [eqDs_map eqD_pr, e, Bool.and_true, ← Bool.decide_and]
  congr 1
  simp [Prod.ext_iff]
theorem stl_str (ok : m.Ok) {y z : Str} {l : Seg} (h : Path m y l z) : ∀ {ps : Pairs} {x : Int}, (∀ p ∈ ps, PyData.strOk p.2.1 = true) → ∀ p ∈ (stl m ps x l).1, PyData.strOk p.2.1 = true := by
  induction h with
  | nil => exact fun h => h
  | @cons _ s u l _ r h1 h2 h3 p' ih =>
    intro ps x h
    refine ih fun p hp => ?_
    rcases stl1_mem hp with z | z
    · exact h p z
    · rw [z]
      have := road_in h1
      rw [← this.2]
      exact (ok.sr r this.1).1
theorem settled_walk_ok (ok : m.Ok) (hp : PureS S) {y z : Str} {t : Int} {l : Seg} (h : Path m y l z) (hl : l.length ≤ 1000) : m_settled_walk [walkD m y t l] S = .ok (stlD (stl m [] t l)) S := by
  refine Pe.eq (v_fn ?_)
  unfold b_settled_walk
  walk_at "dv"
  refine Pe.of walk_web_ok ?_
  walk_at "dv"
  refine Pe.of walk_row_ok ?_
  walk_at "dv"
  refine Pe.of (settled_ok ok hp h hl) ?_
  walk_at "dv"
  first | exact ⟨rfl, rfl⟩ | exact rfl
end
section
variable {m : Mod} {S : Store}
theorem strs_eq (l : List Str) : eqDs (l.map Dt.str) (l.map Dt.str) = true := by
  induction l with
  | nil => rfl
  | cons a l ih =>
    show ((a == a) && eqDs (l.map Dt.str) (l.map Dt.str)) = true
    rw [ih, beq_self_eq_true]
    rfl
theorem okD_road (ok : m.Ok) {r : Road} (h : r ∈ m.rs) (k : Nat) : okD (k + 1) r.d = true := by
  obtain ⟨h1, h2, h3⟩ := ok.sr r h
  show [Dt.str r.n, .str r.b, .str r.e, .int r.h, .int r.t].all (okD k) = true
  cases k <;> simp [okD, h1, h2, h3]
theorem road_eq (r : Road) : eqD r.d r.d = true := by
  show ((r.n == r.n) && ((r.b == r.b) && ((r.e == r.e) && ((r.h == r.h) && ((r.t == r.t) && true))))) = true
  simp
theorem roads_eq (l : List Road) : eqDs (l.map Road.d) (l.map Road.d) = true := by
  induction l with
  | nil => rfl
  | cons a l ih =>
    show (eqD a.d a.d && eqDs (l.map Road.d) (l.map Road.d)) = true
    rw [ih, road_eq]
    rfl
theorem web_eq_ok (ok : m.Ok) : m_Web_deq [m.w, m.w] S = .ok (.bl true) S := by
  refine Pe.eq (v_fn ?_)
  unfold b_Web_deq
  walk_at "dv"
  have k1 : okD 12 (Dt.tup m.ysD) = true := all_map (p := okD 11) fun y hy => by simp [okD, ok.sy y hy]
  have k2 : okD 12 (Dt.tup m.rsD) = true := all_map (p := okD 11) fun r hr => okD_road ok hr 10
  refine v_eqB (b := true) k1 k1 (strs_eq m.ys) ?_
  refine ⟨_, rfl, ?_⟩
  refine v_bT rfl ?_
  walk_at "dv"
  refine v_eqB (b := true) k2 k2 (roads_eq m.rs) ?_
  walk_at "dv"
  first | exact ⟨rfl, rfl⟩ | exact rfl
end
end Lw
set_option Elab.async false
set_option linter.all false
set_option maxRecDepth 100000
set_option maxHeartbeats 4000000
set_option autoImplicit false
namespace Lw
open PySem Dv
/-! steps of our own words -/
local macro_rules | `(tactic| walk_at "num") => `(tactic| first | assumption | decide | omega)
local macro_rules | `(tactic| walk_at "dv0") => `(tactic| with_reducible first
  | refine v_seq ?_ | refine v_ifS ?_ | refine v_set ?_ | refine v_ret ?_ | refine v_asg ?_ | refine v_par ?_ | refine v_drop ?_ | refine v_nx ?_ | refine v_bk ?_ | refine v_ct ?_ | refine v_retN ?_ | refine v_for ?_
  | refine v_c ?_ | refine v_nil ?_ | refine v_cons ?_ | refine v_op ?_ | refine v_B ?_ | refine v_truth ?_ | refine v_andT ?_ | refine v_orT ?_ | refine v_notT ?_
  | refine v_andV ?_ | refine v_orV ?_ | refine v_notV ?_ | refine v_if ?_ | refine v_neg ?_ | refine v_chain ?_ | refine v_tup ?_ | refine v_lst ?_ | refine v_lstR ?_ | refine v_noPart ?_ | refine v_part ?_ | refine v_sl ?_
  | refine v_CB ?_ | refine v_call ?_ | refine v_abs ?_ | refine v_lc ?_ | refine v_yes ?_ | refine v_it ?_ | refine v_rng1 ?_ | refine v_rng2 ?_ | refine v_rng3 ?_ | refine v_T ?_ | refine v_F ?_
  | refine v_add ?_ | refine v_sub ?_ | refine v_iadd ?_ | refine v_lt ?_ | refine v_le ?_ | refine v_gt ?_ | refine v_ge ?_ | refine v_eqI ?_ | refine v_neI ?_ | refine v_eqB ?_ | refine v_neB ?_)
local macro_rules | `(tactic| walk_at "dv1") => `(tactic| first
  | (with_reducible refine' v_var ?h ?_); (case h => rfl)
  | (with_reducible refine' v_aug ?h ?_); (case h => rfl)
  | (with_reducible refine' v_div ?h1 ?h2 ?_); (case h1 => walk_at "num"); (case h2 => walk_at "num")
  | (with_reducible refine' v_mod ?h1 ?_); (case h1 => walk_at "num")
  | (with_reducible refine' v_pow ?h1 ?_); (case h1 => walk_at "num")
  | (with_reducible refine' v_mulR ?h1 ?_); (case h1 => walk_at "num")
  | (with_reducible refine' v_mulL ?h1 ?_); (case h1 => walk_at "num")
  | (with_reducible refine' v_fin ?h1 ?_); (case h1 => first | exact Or.inl rfl | exact Or.inr rfl | (refine Or.inr ?_; simp only [List.length_set, *]; done))
  | (with_reducible refine' v_ix ?h1 ?_); (case h1 => first | exact ixD_ref (by assumption) (by rfl) | rfl)
  | (with_reducible refine' v_len ?h1 ?_); (case h1 => first | exact lenD_ref (by assumption) | rfl)
  | (with_reducible refine' v_list ?h1 ?_); (case h1 => rfl)
  | (with_reducible refine' v_listR ?h1 ?_); (case h1 => rfl)
  | (with_reducible refine' v_tuple ?h1 ?_); (case h1 => rfl)
  | (with_reducible refine' v_isd ?h1 ?_); (case h1 => rfl)
  | (with_reducible refine' v_isiTy ?h1 ?h2 ?_); (case h1 => rfl); (case h2 => rfl)
  | (with_reducible refine' v_isiT ?h1 ?_); (case h1 => rfl))
local macro_rules | `(tactic| walk_at "dv2") => `(tactic| first
  | refine v_gsub (by rfl) (by rfl) (by assumption) (by rfl) (fun _ _ _ => ?_) | refine ⟨_, rfl, ?_⟩ | (with_reducible refine' ⟨rng_ok ?h1 ?h2, ?_⟩); (case h1 => omega); (case h2 => omega) | refine ⟨rfl, ?_⟩ | refine ⟨_, _, rfl, ?_⟩ | refine ⟨Nat.le_of_ble_eq_true rfl, ?_⟩)
local macro_rules | `(tactic| walk_at "dv3") => `(tactic| first
  | (with_reducible refine' v_dec (fun _ => ?_) (fun hn => absurd ?h hn)); (case h => first | assumption | omega | decide)
  | (with_reducible refine' v_dec (fun hn => absurd hn ?h) (fun _ => ?_)); (case h => first | assumption | omega | decide)
  | (with_reducible refine' v_ndec (fun _ => ?_) (fun hn => absurd hn ?h)); (case h => first | assumption | omega | decide)
  | (with_reducible refine' v_ndec (fun hn => absurd ?h hn) (fun _ => ?_)); (case h => first | assumption | omega | decide)
  | (with_reducible refine' v_bT ?h ?_); (case h => first | assumption | rfl)
  | (with_reducible refine' v_bF ?h ?_); (case h => first | assumption | rfl))
local macro_rules | `(tactic| walk_at "dv4") => `(tactic| with_reducible first
  | refine v_places ?_ | refine v_roads ?_ | refine v_over ?_ | refine v_line ?_ | refine v_spots ?_ | refine v_myards ?_ | refine v_mroads ?_ | refine v_mW (by decide +kernel) ?_ | refine v_mK (by decide +kernel) ?_
  | refine v_itX ?_ | refine v_ev ?_ | refine v_rev ?_ | refine v_zs ?_ | refine v_enum ?_ | refine v_enum2 ?_ | refine v_makeV ?_ | refine v_tryN ?_ | refine v_lc2 ?_ | refine v_fz ?_ | refine v_make ?_ | refine v_fldS ?_)
local macro_rules | `(tactic| walk_at "dv5") => `(tactic| first
  | refine ⟨_, _, rfl, rfl, ?_⟩ | refine ⟨⟨_, _, rfl⟩, ?_⟩ | refine ⟨⟨_, _, _, rfl⟩, ?_⟩ | refine ⟨_, _, _, rfl, ?_⟩ | refine Or.inl ⟨_, rfl, ?_⟩ | refine Or.inr ⟨_, (fun _ z => by cases z), rfl, ?_⟩)
local macro_rules | `(tactic| walk_at "dv") => `(tactic| repeat (first | walk_at "dv0" | walk_at "dv4" | walk_at "dv1" | walk_at "dv3" | walk_at "dv2" | walk_at "dv5"))
/-! ### one step on a plain walk's pairs: an action -/
theorem fmod_abs {x q : Int} (h : q ≠ 0) : ∃ y, x = x.fmod q.natAbs + y * q ∧ (x - x.fmod q.natAbs).fdiv q = y ∧ 0 ≤ x.fmod q.natAbs ∧ x.fmod q.natAbs < q.natAbs := by
  have hq : (0 : Int) < q.natAbs := by omega
  have e1 := Int.fmod_add_mul_fdiv x (q.natAbs : Int)
  have h1 := Int.fmod_nonneg_of_pos x hq
  have h2 := Int.fmod_lt_of_pos x hq
  rcases Int.natAbs_eq q with e | e
  · refine ⟨x.fdiv q.natAbs, ?_, ?_, h1, h2⟩
    · rw [Int.mul_comm]
      rw [← e] at e1 ⊢
      omega
    · have e3 : x - x.fmod q.natAbs = q * x.fdiv q.natAbs := by
        rw [← e] at e1 ⊢
        omega
      rw [e3, Int.mul_fdiv_cancel_left _ h]
  · refine ⟨-(x.fdiv q.natAbs), ?_, ?_, h1, h2⟩
    · have e2 : -(x.fdiv q.natAbs) * q = (q.natAbs : Int) * x.fdiv q.natAbs := by
        rw [Int.neg_mul, Int.mul_comm, ← Int.neg_mul]
        congr 1
        omega
      rw [e2]
      omega
    · have e3 : x - x.fmod q.natAbs = q * -(x.fdiv q.natAbs) := by
        rw [Int.mul_neg, ← Int.neg_mul, show -q = (q.natAbs : Int) by omega]
        omega
      rw [e3, Int.mul_fdiv_cancel_left _ h]
/-- the rest is told by any way to write it -/
theorem rest_uni {x q r y : Int} (h : q ≠ 0) (e : x = r + y * q) (h0 : 0 ≤ r) (h1 : r < q.natAbs) : x.fmod q.natAbs = r ∧ (x - x.fmod q.natAbs).fdiv q = y := by
  obtain ⟨z, e1, e2, e3, e4⟩ := fmod_abs (x := x) h
  generalize x.fmod q.natAbs = ρ at *
  have hz : (z - y) * q = r - ρ := by
    rw [Int.sub_mul]
    omega
  have key : z - y = 0 := by
    apply Classical.byContradiction
    intro hn
    have : q.natAbs ≤ ((z - y) * q).natAbs := by
      rw [Int.natAbs_mul]
      exact Nat.le_mul_of_pos_left _ (by omega)
    omega
  rw [key, Int.zero_mul] at hz
  exact ⟨by omega, by rw [e2]; omega⟩
theorem rest_zero {x q : Int} (h : q ≠ 0) : x.fmod q = 0 ↔ x.fmod q.natAbs = 0 := by
  obtain ⟨z, e1, e2, e3, e4⟩ := fmod_abs (x := x) h
  constructor
  · intro h0
    have e := Int.fmod_add_mul_fdiv x q
    rw [h0, Int.zero_add, Int.mul_comm] at e
    exact (rest_uni (r := 0) (y := x.fdiv q) h (by omega) (by omega) (by omega)).1
  · intro h0
    rw [h0, Int.zero_add] at e1
    rw [e1]
    exact Int.mul_fmod_left _ _
def WayOk (s : Step) : Prop := s.2 = 1 ∨ s.2 = -1
theorem und_way {s : Step} (h : WayOk s) : WayOk (und s) := by
  rcases h with e | e
  · exact .inr (by show 0 - s.2 = -1; rw [e]; rfl)
  · exact .inl (by show 0 - s.2 = 1; rw [e]; rfl)
theorem und_und (s : Step) : und (und s) = s := by
  obtain ⟨n, w⟩ := s
  show (n, 0 - (0 - w)) = (n, w)
  rw [show 0 - (0 - w) = w by omega]
theorem rule_und (m : Mod) {s : Step} (h : WayOk s) : ruleOf m (und s) = ((ruleOf m s).2, (ruleOf m s).1) := by
  show (match m.road s.1 with | some r => r.rule (0 - s.2) | none => (1, 1)) = _
  unfold ruleOf
  cases m.road s.1 with
  | none => rfl
  | some r => exact und_rule r h
theorem rule_ne {m : Mod} (ok : m.Ok) (s : Step) : ((ruleOf m s).1 ≠ 0 ∧ (ruleOf m s).1.natAbs ≤ 99) ∧ (ruleOf m s).2 ≠ 0 ∧ (ruleOf m s).2.natAbs ≤ 99 := by
  unfold ruleOf
  cases e : m.road s.1 with
  | none => exact ⟨⟨show (1 : Int) ≠ 0 by decide, show (1 : Int).natAbs ≤ 99 by decide⟩, show (1 : Int) ≠ 0 by decide, show (1 : Int).natAbs ≤ 99 by decide⟩
  | some r => exact rule_b ok e s.2
theorem ruleOf_road {m : Mod} {s : Step} {r : Road} (h : m.road s.1 = some r) : ruleOf m s = r.rule s.2 := by
  unfold ruleOf
  rw [h]
/-- the pairs of a plain walk -/
inductive Pl (m : Mod) : Pairs → Prop
  | nil : Pl m []
  | push {ps : Pairs} {r : Int} {s : Step} : Pl m ps → 0 ≤ r → r < (ruleOf m s).1.natAbs → WayOk s → (∀ p, ps.getLast? = some p → p.2 = und s → r ≠ 0) → Pl m (ps ++ [(r, s)])
abbrev G (m : Mod) (s : Step) (ps : Pairs) (x : Int) : Pairs × Int := stl1 (ruleOf m s) ps x s
theorem G_pop {m : Mod} {s : Step} {ps : Pairs} {r x : Int} (h : x.fmod (ruleOf m s).1 = 0) : G m s (ps ++ [(r, und s)]) x = (ps, r + x.fdiv (ruleOf m s).1 * (ruleOf m s).2) := by
  unfold G stl1
  simp [h]
theorem G_push {m : Mod} {s : Step} {ps : Pairs} {x : Int} (h : ∀ p, ps.getLast? = some p → p.2 = und s → x.fmod (ruleOf m s).1 ≠ 0) : G m s ps x = (ps ++ [(x.fmod (ruleOf m s).1.natAbs, s)], (x - x.fmod (ruleOf m s).1.natAbs).fdiv (ruleOf m s).1 * (ruleOf m s).2) := by
  unfold G stl1
  split
  · rename_i p hp
    rw [if_neg fun z => h p hp z.1 z.2]
    rfl
  · rfl
/-- either of the two -/
theorem G_two {m : Mod} (s : Step) (ps : Pairs) (x : Int) : (∃ qs r, ps = qs ++ [(r, und s)] ∧ x.fmod (ruleOf m s).1 = 0) ∨ ∀ p, ps.getLast? = some p → p.2 = und s → x.fmod (ruleOf m s).1 ≠ 0 := by
  by_cases h : ∃ qs r, ps = qs ++ [(r, und s)] ∧ x.fmod (ruleOf m s).1 = 0
  · exact .inl h
  · refine .inr fun p hp e h0 => h ?_
    obtain ⟨qs, rfl⟩ := List.getLast?_eq_some_iff.mp hp
    exact ⟨qs, p.1, by rw [← e], h0⟩
theorem Pl.last {m : Mod} {ps : Pairs} {r : Int} {s : Step} (h : Pl m (ps ++ [(r, s)])) : Pl m ps ∧ 0 ≤ r ∧ r < (ruleOf m s).1.natAbs ∧ WayOk s ∧ ∀ p, ps.getLast? = some p → p.2 = und s → r ≠ 0 := by
  generalize e : ps ++ [(r, s)] = qs at h
  cases h with
  | nil => simp at e
  | @push ps' r' s' h1 h2 h3 h4 h5 =>
    obtain ⟨e1, e2⟩ := List.append_inj' e rfl
    obtain ⟨rfl, rfl⟩ := Prod.mk.injEq .. ▸ List.cons.inj e2 |>.1
    subst e1
    exact ⟨h1, h2, h3, h4, h5⟩
section
variable {m : Mod}
theorem G_pl (ok : m.Ok) {s : Step} (hs : WayOk s) {ps : Pairs} (h : Pl m ps) (x : Int) : Pl m (G m s ps x).1 := by
  rcases G_two (m := m) s ps x with ⟨qs, r, rfl, h0⟩ | h0
  · rw [G_pop h0]
    exact h.last.1
  · rw [G_push h0]
    have n0 := (rule_ne ok s).1.1
    obtain ⟨_, _, _, h1, h2⟩ := fmod_abs (x := x) n0
    exact .push h h1 h2 hs fun p hp e z => h0 p hp e ((rest_zero n0).mpr z)
theorem G_inv (ok : m.Ok) {s : Step} (hs : WayOk s) {ps : Pairs} (h : Pl m ps) (x : Int) : G m (und s) (G m s ps x).1 (G m s ps x).2 = (ps, x) := by
  have n1 := (rule_ne ok s).1.1
  have n2 := (rule_ne ok s).2.1
  have ru := rule_und m hs
  rcases G_two (m := m) s ps x with ⟨qs, r, rfl, h0⟩ | h0
  · rw [G_pop h0]
    obtain ⟨_, h1, h2, h3, h4⟩ := h.last
    rw [ru] at h2
    have e0 : x.fdiv (ruleOf m s).1 * (ruleOf m s).1 = x := by
      have e := Int.fmod_add_mul_fdiv x (ruleOf m s).1
      rw [h0, Int.zero_add, Int.mul_comm] at e
      exact e
    generalize x.fdiv (ruleOf m s).1 = k at *
    obtain ⟨u1, u2⟩ := rest_uni (x := r + k * (ruleOf m s).2) n2 rfl h1 h2
    show G m (und s) qs (r + k * (ruleOf m s).2) = _
    rw [G_push, ru]
    · show (qs ++ [((r + k * (ruleOf m s).2).fmod (ruleOf m s).2.natAbs, und s)], (r + k * (ruleOf m s).2 - (r + k * (ruleOf m s).2).fmod (ruleOf m s).2.natAbs).fdiv (ruleOf m s).2 * (ruleOf m s).1) = _
      rw [u2, u1, e0]
    · intro p hp e z
      rw [ru] at z
      have z : (r + k * (ruleOf m s).2).fmod (ruleOf m s).2 = 0 := z
      rw [rest_zero n2, u1] at z
      exact h4 p hp e z
  · rw [G_push h0]
    obtain ⟨k, e1, e2, h1, h2⟩ := fmod_abs (x := x) n1
    show G m (und s) (ps ++ [(x.fmod (ruleOf m s).1.natAbs, s)]) ((x - x.fmod (ruleOf m s).1.natAbs).fdiv (ruleOf m s).1 * (ruleOf m s).2) = _
    rw [e2]
    have hu : ps ++ [(x.fmod (ruleOf m s).1.natAbs, s)] = ps ++ [(x.fmod (ruleOf m s).1.natAbs, und (und s))] := by rw [und_und]
    rw [hu, G_pop (by rw [ru]; exact Int.mul_fmod_left _ _), ru]
    show (ps, x.fmod (ruleOf m s).1.natAbs + (k * (ruleOf m s).2).fdiv (ruleOf m s).2 * (ruleOf m s).1) = _
    rw [Int.mul_fdiv_cancel _ n2, ← e1]
theorem G_add (ok : m.Ok) (s : Step) (ps : Pairs) (x n : Int) : G m s ps (x + n * (ruleOf m s).1) = ((G m s ps x).1, (G m s ps x).2 + n * (ruleOf m s).2) := by
  have n1 := (rule_ne ok s).1.1
  obtain ⟨k, e1, e2, h1, h2⟩ := fmod_abs (x := x) n1
  obtain ⟨u1, u2⟩ := rest_uni (x := x + n * (ruleOf m s).1) (r := x.fmod (ruleOf m s).1.natAbs) (y := k + n) n1 (by rw [Int.add_mul]; omega) h1 h2
  have iz : (x + n * (ruleOf m s).1).fmod (ruleOf m s).1 = 0 ↔ x.fmod (ruleOf m s).1 = 0 := by rw [rest_zero n1, rest_zero n1, u1]
  rcases G_two (m := m) s ps x with ⟨qs, r, rfl, h0⟩ | h0
  · rw [G_pop h0, G_pop (iz.mpr h0), Int.add_mul_fdiv_right _ _ n1, Int.add_mul, Int.add_assoc]
  · rw [G_push h0, G_push (fun p hp e z => h0 p hp e (iz.mp z)), u2, u1, e2, Int.add_mul]
end
/-! ### rows act on plain pairs; exchanges keep what they do -/
section
variable {m : Mod}
theorem stl_cons (ps : Pairs) (x : Int) (s : Step) (u : Int) (l : Seg) : stl m ps x ((s, u) :: l) = stl m (G m s ps x).1 ((G m s ps x).2 + u) l := rfl
theorem stl_app : ∀ (a b : Seg) (ps : Pairs) (x : Int), stl m ps x (a ++ b) = stl m (stl m ps x a).1 (stl m ps x a).2 b
  | [], _, _, _ => rfl
  | (s, u) :: a, b, ps, x => stl_app a b _ _
theorem stl_set : ∀ (a : Seg) (ps : Pairs) (x t v : Int), stl m ps (x + (setT t a v).1) (setT t a v).2 = ((stl m ps (x + t) a).1, (stl m ps (x + t) a).2 - lastT t a + v)
  | [], ps, x, t, v => by
    show (ps, x + v) = (ps, x + t - t + v)
    rw [Int.add_sub_cancel]
  | (s, u) :: a, ps, x, t, v => stl_set a (G m s ps (x + t)).1 (G m s ps (x + t)).2 u v
def Ways (l : Seg) : Prop := ∀ p ∈ l, WayOk p.1
theorem Path.ways {y z : Str} {l : Seg} (h : Path m y l z) : Ways l := by
  induction h with
  | nil y => exact fun p hp => (List.not_mem_nil hp).elim
  | cons h1 h2 h3 _ ih =>
    intro p hp
    rcases List.mem_cons.mp hp with rfl | hp
    · exact h2
    · exact ih p hp
theorem Ways.cons {p : Step × Int} {l : Seg} : Ways (p :: l) ↔ WayOk p.1 ∧ Ways l := by
  unfold Ways
  simp
theorem Ways.app {a b : Seg} : Ways (a ++ b) ↔ Ways a ∧ Ways b := by
  unfold Ways
  constructor
  · exact fun h => ⟨fun p hp => h p (List.mem_append_left _ hp), fun p hp => h p (List.mem_append_right _ hp)⟩
  · rintro ⟨h1, h2⟩ p hp
    rcases List.mem_append.mp hp with z | z
    · exact h1 p z
    · exact h2 p z
theorem stl_pl (ok : m.Ok) : ∀ {l : Seg} {ps : Pairs} {x : Int}, Ways l → Pl m ps → Pl m (stl m ps x l).1
  | [], _, _, _, h => h
  | (s, u) :: l, ps, x, hw, h => by
    rw [stl_cons]
    exact stl_pl ok (Ways.cons.mp hw).2 (G_pl ok (Ways.cons.mp hw).1 h x)
/-- a row undone -/
def bk (t : Int) : Seg → Int × Seg
  | [] => (0 - t, [])
  | (s, u) :: l => ((bk u l).1, (bk u l).2 ++ [(und s, 0 - t)])
/-- a row and another one behind it -/
def jn (t : Int) (l : Seg) (t' : Int) (l' : Seg) : Int × Seg := ((setT t l (lastT t l + t')).1, (setT t l (lastT t l + t')).2 ++ l')
theorem bk_len (t : Int) (l : Seg) : (bk t l).2.length = l.length := by
  induction l generalizing t with
  | nil => rfl
  | cons p l ih =>
    show ((bk p.2 l).2 ++ [(und p.1, 0 - t)]).length = _
    rw [List.length_append, ih]
    rfl
theorem jn_len (t : Int) (l : Seg) (t' : Int) (l' : Seg) : (jn t l t' l').2.length = l.length + l'.length := by
  show ((setT t l (lastT t l + t')).2 ++ l').length = _
  rw [List.length_append, setT_len]
theorem stl_jn (ps : Pairs) (x t t' : Int) (l l' : Seg) : stl m ps (x + (jn t l t' l').1) (jn t l t' l').2 = stl m (stl m ps (x + t) l).1 ((stl m ps (x + t) l).2 + t') l' := by
  unfold jn
  rw [stl_app, stl_set]
  dsimp only
  rw [show (stl m ps (x + t) l).2 - lastT t l + (lastT t l + t') = (stl m ps (x + t) l).2 + t' by omega]
theorem stl_bk (ok : m.Ok) : ∀ {l : Seg} {ps : Pairs} {x t : Int}, Ways l → Pl m ps → stl m (stl m ps (x + t) l).1 ((stl m ps (x + t) l).2 + (bk t l).1) (bk t l).2 = (ps, x)
  | [], ps, x, t, _, h => by
    show (ps, x + t + (0 - t)) = (ps, x)
    rw [show x + t + (0 - t) = x by omega]
  | (s, u) :: l, ps, x, t, hw, h => by
    have ih := stl_bk ok (x := (G m s ps (x + t)).2) (t := u) (Ways.cons.mp hw).2 (G_pl ok (Ways.cons.mp hw).1 h (x + t))
    rw [stl_cons]
    show stl m (stl m (G m s ps (x + t)).1 ((G m s ps (x + t)).2 + u) l).1 ((stl m (G m s ps (x + t)).1 ((G m s ps (x + t)).2 + u) l).2 + (bk u l).1) ((bk u l).2 ++ [(und s, 0 - t)]) = _
    rw [stl_app, ih]
    show stl m _ _ [(und s, 0 - t)] = _
    rw [stl_cons, G_inv ok (Ways.cons.mp hw).1 h]
    show (ps, x + t + (0 - t)) = (ps, x)
    rw [show x + t + (0 - t) = x by omega]
theorem Path.und1 {y z : Str} {s : Step} {t u : Int} (h : Path m y [(s, t)] z) : Path m z [(und s, u)] y := by
  cases h with
  | cons h1 h2 h3 h4 =>
    cases h4
    rename_i r
    have hu := und_way h2
    refine .cons (show m.road (und s).1 = some r from h1) hu ?_ ?_
    · show (r.ends (0 - s.2)).1 = _
      rw [und_ends r h2]
    · have : (r.ends (und s).2).2 = y := by
        show (r.ends (0 - s.2)).2 = y
        rw [und_ends r h2]
        exact h3
      rw [this]
      exact .nil y
theorem bk_path {y z : Str} {l : Seg} (h : Path m y l z) (t : Int) : Path m z (bk t l).2 y := by
  induction l generalizing y t with
  | nil =>
    cases h
    exact .nil _
  | cons p l ih =>
    obtain ⟨s, u⟩ := p
    cases h with
    | cons h1 h2 h3 h4 =>
      exact (ih h4 u).app (Path.und1 (t := u) (.cons h1 h2 h3 (.nil _)))
theorem jn_path {y z w : Str} {t t' : Int} {l l' : Seg} (h : Path m y l z) (h' : Path m z l' w) : Path m y (jn t l t' l').2 w := (setT_path h).app h'
end
end Lw
set_option Elab.async false
set_option linter.all false
set_option maxRecDepth 100000
set_option maxHeartbeats 4000000
set_option autoImplicit false
namespace Lw
open PySem Dv
/-! steps of our own words -/
local macro_rules | `(tactic| walk_at "num") => `(tactic| first | assumption | decide | omega)
local macro_rules | `(tactic| walk_at "dv0") => `(tactic| with_reducible first
  | refine v_seq ?_ | refine v_ifS ?_ | refine v_set ?_ | refine v_ret ?_ | refine v_asg ?_ | refine v_par ?_ | refine v_drop ?_ | refine v_nx ?_ | refine v_bk ?_ | refine v_ct ?_ | refine v_retN ?_ | refine v_for ?_
  | refine v_c ?_ | refine v_nil ?_ | refine v_cons ?_ | refine v_op ?_ | refine v_B ?_ | refine v_truth ?_ | refine v_andT ?_ | refine v_orT ?_ | refine v_notT ?_
  | refine v_andV ?_ | refine v_orV ?_ | refine v_notV ?_ | refine v_if ?_ | refine v_neg ?_ | refine v_chain ?_ | refine v_tup ?_ | refine v_lst ?_ | refine v_lstR ?_ | refine v_noPart ?_ | refine v_part ?_ | refine v_sl ?_
  | refine v_CB ?_ | refine v_call ?_ | refine v_abs ?_ | refine v_lc ?_ | refine v_yes ?_ | refine v_it ?_ | refine v_rng1 ?_ | refine v_rng2 ?_ | refine v_rng3 ?_ | refine v_T ?_ | refine v_F ?_
  | refine v_add ?_ | refine v_sub ?_ | refine v_iadd ?_ | refine v_lt ?_ | refine v_le ?_ | refine v_gt ?_ | refine v_ge ?_ | refine v_eqI ?_ | refine v_neI ?_ | refine v_eqB ?_ | refine v_neB ?_)
local macro_rules | `(tactic| walk_at "dv1") => `(tactic| first
  | (with_reducible refine' v_var ?h ?_); (case h => rfl)
  | (with_reducible refine' v_aug ?h ?_); (case h => rfl)
  | (with_reducible refine' v_div ?h1 ?h2 ?_); (case h1 => walk_at "num"); (case h2 => walk_at "num")
  | (with_reducible refine' v_mod ?h1 ?_); (case h1 => walk_at "num")
  | (with_reducible refine' v_pow ?h1 ?_); (case h1 => walk_at "num")
  | (with_reducible refine' v_mulR ?h1 ?_); (case h1 => walk_at "num")
  | (with_reducible refine' v_mulL ?h1 ?_); (case h1 => walk_at "num")
  | (with_reducible refine' v_fin ?h1 ?_); (case h1 => first | exact Or.inl rfl | exact Or.inr rfl | (refine Or.inr ?_; simp only [List.length_set, *]; done))
  | (with_reducible refine' v_ix ?h1 ?_); (case h1 => first | exact ixD_ref (by assumption) (by rfl) | rfl)
  | (with_reducible refine' v_len ?h1 ?_); (case h1 => first | exact lenD_ref (by assumption) | rfl)
  | (with_reducible refine' v_list ?h1 ?_); (case h1 => rfl)
  | (with_reducible refine' v_listR ?h1 ?_); (case h1 => rfl)
  | (with_reducible refine' v_tuple ?h1 ?_); (case h1 => rfl)
  | (with_reducible refine' v_isd ?h1 ?_); (case h1 => rfl)
  | (with_reducible refine' v_isiTy ?h1 ?h2 ?_); (case h1 => rfl); (case h2 => rfl)
  | (with_reducible refine' v_isiT ?h1 ?_); (case h1 => rfl))
local macro_rules | `(tactic| walk_at "dv2") => `(tactic| first
  | refine v_gsub (by rfl) (by rfl) (by assumption) (by rfl) (fun _ _ _ => ?_) | refine ⟨_, rfl, ?_⟩ | (with_reducible refine' ⟨rng_ok ?h1 ?h2, ?_⟩); (case h1 => omega); (case h2 => omega) | refine ⟨rfl, ?_⟩ | refine ⟨_, _, rfl, ?_⟩ | refine ⟨Nat.le_of_ble_eq_true rfl, ?_⟩)
local macro_rules | `(tactic| walk_at "dv3") => `(tactic| first
  | (with_reducible refine' v_dec (fun _ => ?_) (fun hn => absurd ?h hn)); (case h => first | assumption | omega | decide)
  | (with_reducible refine' v_dec (fun hn => absurd hn ?h) (fun _ => ?_)); (case h => first | assumption | omega | decide)
  | (with_reducible refine' v_ndec (fun _ => ?_) (fun hn => absurd hn ?h)); (case h => first | assumption | omega | decide)
  | (with_reducible refine' v_ndec (fun hn => absurd ?h hn) (fun _ => ?_)); (case h => first | assumption | omega | decide)
  | (with_reducible refine' v_bT ?h ?_); (case h => first | assumption | rfl)
  | (with_reducible refine' v_bF ?h ?_); (case h => first | assumption | rfl))
local macro_rules | `(tactic| walk_at "dv4") => `(tactic| with_reducible first
  | refine v_places ?_ | refine v_roads ?_ | refine v_over ?_ | refine v_line ?_ | refine v_spots ?_ | refine v_myards ?_ | refine v_mroads ?_ | refine v_mW (by decide +kernel) ?_ | refine v_mK (by decide +kernel) ?_
  | refine v_itX ?_ | refine v_ev ?_ | refine v_rev ?_ | refine v_zs ?_ | refine v_enum ?_ | refine v_enum2 ?_ | refine v_makeV ?_ | refine v_tryN ?_ | refine v_lc2 ?_ | refine v_fz ?_ | refine v_make ?_ | refine v_fldS ?_)
local macro_rules | `(tactic| walk_at "dv5") => `(tactic| first
  | refine ⟨_, _, rfl, rfl, ?_⟩ | refine ⟨⟨_, _, rfl⟩, ?_⟩ | refine ⟨⟨_, _, _, rfl⟩, ?_⟩ | refine ⟨_, _, _, rfl, ?_⟩ | refine Or.inl ⟨_, rfl, ?_⟩ | refine Or.inr ⟨_, (fun _ z => by cases z), rfl, ?_⟩)
local macro_rules | `(tactic| walk_at "dv") => `(tactic| repeat (first | walk_at "dv0" | walk_at "dv4" | walk_at "dv1" | walk_at "dv3" | walk_at "dv2" | walk_at "dv5"))
/-! ### walks undone, joined -/
def gBack : Dt → Option Dt
  | .int i => some (.int (0 - i))
  | .tup [.str n, .int w] => some (stD (n, 0 - w))
  | _ => none
theorem back_rows : ∀ (l : Seg) (t : Int), (rowD t l).reverse.filterMap gBack = rowD (bk t l).1 (bk t l).2
  | [], t => rfl
  | (s, u) :: l, t => by
    have ih := back_rows l u
    have e : rowD t ((s, u) :: l) = .int t :: stD s :: rowD u l := rfl
    have er : ∀ ls : List Dt, (Dt.int t :: stD s :: ls).reverse = ls.reverse ++ [stD s, .int t] := fun ls => by simp
    rw [e, er, List.filterMap_append, ih]
    show rowD (bk u l).1 (bk u l).2 ++ [stD (und s), .int (0 - t)] = rowD (bk u l).1 ((bk u l).2 ++ [(und s, 0 - t)])
    exact row_add _ _ _ _
theorem cut_one {α : Type} (x : α) (l : List α) : cutA (x :: l) (some 1) none = l := cut_n (x :: l) 1 1
theorem lastT_pre (t : Int) (l : Seg) : cutA (rowD t l) none (some (-1)) = preD t l := by
  have e := row_split t l []
  rw [List.append_nil] at e
  rw [e]
  have hn : (preD t l ++ Dt.int (lastT t l) :: segD []).length = (preD t l).length + 1 := by
    rw [List.length_append]
    rfl
  have hs : HT.sIx (preD t l ++ Dt.int (lastT t l) :: segD []).length (preD t l ++ Dt.int (lastT t l) :: segD []).length (some (-1)) = (preD t l).length := by
    unfold HT.sIx
    dsimp only
    rw [if_pos (by decide), hn]
    omega
  unfold cutA
  rw [HT.sIx_none, hs, List.drop_zero, Nat.sub_zero, List.take_left]
theorem row_lastT (t : Int) (l : Seg) {S : Store} : ixD S (.lst (rowD t l)) (-1) = some (.int (lastT t l)) := by
  have e := row_split t l []
  rw [List.append_nil] at e
  rw [e]
  exact last_ix (by simp [segD])
theorem row_jn (t : Int) (l : Seg) (t' : Int) (l' : Seg) : preD t l ++ [Dt.int (lastT t l + t')] ++ segD l' = rowD (jn t l t' l').1 (jn t l t' l').2 := by
  unfold jn
  rw [row_set, List.append_assoc]
  rfl
section
variable {m : Mod} {S : Store}
theorem joined_row_ok {t t' : Int} {l l' : Seg} (hl : l.length ≤ 100000) (hl' : l'.length ≤ 100000) : m_joined_row [.lst (rowD t l), .lst (rowD t' l')] S = .ok (.lst (rowD (jn t l t' l').1 (jn t l t' l').2)) S := by
  refine Pe.eq (v_fn ?_)
  unfold b_joined_row
  walk_at "dv"
  refine v_ix (row_lastT _ _) ?_
  walk_at "dv"
  refine v_ix (ix_zero _ _) ?_
  walk_at "dv"
  dsimp only
  rw [lastT_pre]
  have pl := preD_len t l
  have sl := segD_len l'
  refine v_addL (by rw [pl]; simp; omega) ?_
  walk_at "dv"
  dsimp only
  rw [cut_one]
  refine v_addL (by rw [List.length_append, pl, sl]; simp; omega) ?_
  rw [row_jn]
  walk_at "dv"
  first | exact ⟨rfl, rfl⟩ | exact rfl
theorem back_row_ok {t : Int} {l : Seg} (hl : l.length ≤ 100000) : m_back_row [.lst (rowD t l)] S = .ok (.lst (rowD (bk t l).1 (bk t l).2)) S := by
  refine Pe.eq (v_fn ?_)
  unfold b_back_row
  walk_at "dv"
  refine v_cloop gBack (fun d hd => ?_) ?_ ?_
  · have hd : d ∈ rowD t l := List.mem_reverse.mp hd
    have two : (∃ i, d = .int i) ∨ ∃ s : Step, d = stD s := by
      rcases List.mem_cons.mp hd with z | z
      · exact .inl ⟨_, z⟩
      · obtain ⟨p, _, hp⟩ := List.mem_flatMap.mp z
        rcases List.mem_cons.mp hp with z | z
        · exact .inr ⟨_, z⟩
        · exact .inl ⟨_, List.mem_singleton.mp z⟩
    refine ⟨_, rfl, ?_⟩
    rcases two with ⟨i, rfl⟩ | ⟨s, rfl⟩
    · walk_at "dv"
      first | exact ⟨rfl, rfl⟩ | exact rfl
    · walk_at "dv"
      refine Pe.of undone_ok ?_
      first | exact ⟨rfl, rfl⟩ | exact rfl
  · rw [List.length_reverse, row_len]
    simp
    omega
  · rw [List.nil_append, back_rows]
    walk_at "dv"
    first | exact ⟨rfl, rfl⟩ | exact rfl
end
end Lw
set_option Elab.async false
set_option linter.all false
set_option maxRecDepth 100000
set_option maxHeartbeats 4000000
set_option autoImplicit false
namespace Lw
open PySem Dv
/-! steps of our own words -/
local macro_rules | `(tactic| walk_at "num") => `(tactic| first | assumption | decide | omega)
local macro_rules | `(tactic| walk_at "dv0") => `(tactic| with_reducible first
  | refine v_seq ?_ | refine v_ifS ?_ | refine v_set ?_ | refine v_ret ?_ | refine v_asg ?_ | refine v_par ?_ | refine v_drop ?_ | refine v_nx ?_ | refine v_bk ?_ | refine v_ct ?_ | refine v_retN ?_ | refine v_for ?_
  | refine v_c ?_ | refine v_nil ?_ | refine v_cons ?_ | refine v_op ?_ | refine v_B ?_ | refine v_truth ?_ | refine v_andT ?_ | refine v_orT ?_ | refine v_notT ?_
  | refine v_andV ?_ | refine v_orV ?_ | refine v_notV ?_ | refine v_if ?_ | refine v_neg ?_ | refine v_chain ?_ | refine v_tup ?_ | refine v_lst ?_ | refine v_lstR ?_ | refine v_noPart ?_ | refine v_part ?_ | refine v_sl ?_
  | refine v_CB ?_ | refine v_call ?_ | refine v_abs ?_ | refine v_lc ?_ | refine v_yes ?_ | refine v_it ?_ | refine v_rng1 ?_ | refine v_rng2 ?_ | refine v_rng3 ?_ | refine v_T ?_ | refine v_F ?_
  | refine v_add ?_ | refine v_sub ?_ | refine v_iadd ?_ | refine v_lt ?_ | refine v_le ?_ | refine v_gt ?_ | refine v_ge ?_ | refine v_eqI ?_ | refine v_neI ?_ | refine v_eqB ?_ | refine v_neB ?_)
local macro_rules | `(tactic| walk_at "dv1") => `(tactic| first
  | (with_reducible refine' v_var ?h ?_); (case h => rfl)
  | (with_reducible refine' v_aug ?h ?_); (case h => rfl)
  | (with_reducible refine' v_div ?h1 ?h2 ?_); (case h1 => walk_at "num"); (case h2 => walk_at "num")
  | (with_reducible refine' v_mod ?h1 ?_); (case h1 => walk_at "num")
  | (with_reducible refine' v_pow ?h1 ?_); (case h1 => walk_at "num")
  | (with_reducible refine' v_mulR ?h1 ?_); (case h1 => walk_at "num")
  | (with_reducible refine' v_mulL ?h1 ?_); (case h1 => walk_at "num")
  | (with_reducible refine' v_fin ?h1 ?_); (case h1 => first | exact Or.inl rfl | exact Or.inr rfl | (refine Or.inr ?_; simp only [List.length_set, *]; done))
  | (with_reducible refine' v_ix ?h1 ?_); (case h1 => first | exact ixD_ref (by assumption) (by rfl) | rfl)
  | (with_reducible refine' v_len ?h1 ?_); (case h1 => first | exact lenD_ref (by assumption) | rfl)
  | (with_reducible refine' v_list ?h1 ?_); (case h1 => rfl)
  | (with_reducible refine' v_listR ?h1 ?_); (case h1 => rfl)
  | (with_reducible refine' v_tuple ?h1 ?_); (case h1 => rfl)
  | (with_reducible refine' v_isd ?h1 ?_); (case h1 => rfl)
  | (with_reducible refine' v_isiTy ?h1 ?h2 ?_); (case h1 => rfl); (case h2 => rfl)
  | (with_reducible refine' v_isiT ?h1 ?_); (case h1 => rfl))
local macro_rules | `(tactic| walk_at "dv2") => `(tactic| first
  | refine v_gsub (by rfl) (by rfl) (by assumption) (by rfl) (fun _ _ _ => ?_) | refine ⟨_, rfl, ?_⟩ | (with_reducible refine' ⟨rng_ok ?h1 ?h2, ?_⟩); (case h1 => omega); (case h2 => omega) | refine ⟨rfl, ?_⟩ | refine ⟨_, _, rfl, ?_⟩ | refine ⟨Nat.le_of_ble_eq_true rfl, ?_⟩)
local macro_rules | `(tactic| walk_at "dv3") => `(tactic| first
  | (with_reducible refine' v_dec (fun _ => ?_) (fun hn => absurd ?h hn)); (case h => first | assumption | omega | decide)
  | (with_reducible refine' v_dec (fun hn => absurd hn ?h) (fun _ => ?_)); (case h => first | assumption | omega | decide)
  | (with_reducible refine' v_ndec (fun _ => ?_) (fun hn => absurd hn ?h)); (case h => first | assumption | omega | decide)
  | (with_reducible refine' v_ndec (fun hn => absurd ?h hn) (fun _ => ?_)); (case h => first | assumption | omega | decide)
  | (with_reducible refine' v_bT ?h ?_); (case h => first | assumption | rfl)
  | (with_reducible refine' v_bF ?h ?_); (case h => first | assumption | rfl))
local macro_rules | `(tactic| walk_at "dv4") => `(tactic| with_reducible first
  | refine v_places ?_ | refine v_roads ?_ | refine v_over ?_ | refine v_line ?_ | refine v_spots ?_ | refine v_myards ?_ | refine v_mroads ?_ | refine v_mW (by decide +kernel) ?_ | refine v_mK (by decide +kernel) ?_
  | refine v_itX ?_ | refine v_ev ?_ | refine v_rev ?_ | refine v_zs ?_ | refine v_enum ?_ | refine v_enum2 ?_ | refine v_makeV ?_ | refine v_tryN ?_ | refine v_lc2 ?_ | refine v_fz ?_ | refine v_make ?_ | refine v_fldS ?_)
local macro_rules | `(tactic| walk_at "dv5") => `(tactic| first
  | refine ⟨_, _, rfl, rfl, ?_⟩ | refine ⟨⟨_, _, rfl⟩, ?_⟩ | refine ⟨⟨_, _, _, rfl⟩, ?_⟩ | refine ⟨_, _, _, rfl, ?_⟩ | refine Or.inl ⟨_, rfl, ?_⟩ | refine Or.inr ⟨_, (fun _ z => by cases z), rfl, ?_⟩)
local macro_rules | `(tactic| walk_at "dv") => `(tactic| repeat (first | walk_at "dv0" | walk_at "dv4" | walk_at "dv1" | walk_at "dv3" | walk_at "dv2" | walk_at "dv5"))
theorem log_lt {n : Int} (h : n.natAbs < 2 ^ 64) (h0 : n ≠ 0) : n.natAbs.log2 < 9000 := by
  have := Nat.log2_lt (n := n.natAbs) (k := 64) (by omega)
  omega
/-! ### the greatest common measure -/
theorem abs_if (a : Int) : (if a < 0 then -a else a) = (a.natAbs : Int) := by split <;> omega
theorem gcd_step {m k g : Nat} (h : Nat.gcd m k = g) : Nat.gcd k (m % k) = g := by
  rw [← h, Nat.gcd_comm m k, Nat.gcd_rec k m, Nat.gcd_comm]
/-! ### range(1, len(row), 2) -/
theorem rng_row (n : Nat) (hn : n ≤ 1000) : rngN 1 ((2 * n + 1 : Nat) : Int) 2 = n ∧ rngC 1 ((2 * n + 1 : Nat) : Int) 2 = true := by
  have e : Builtin.Range.rangeSize 1 ((2 * n + 1 : Nat) : Int) 2 = n := by
    unfold Builtin.Range.rangeSize
    rw [if_pos (by decide)]
    split
    · omega
    · omega
  have e2 : rngN 1 ((2 * n + 1 : Nat) : Int) 2 = n := by
    unfold rngN
    rw [e]
    rfl
  refine ⟨e2, ?_⟩
  have e3 : Builtin.Range.small 1 ((2 * n + 1 : Nat) : Int) 2 = true := by
    have f : ∀ x : Int, -100000 ≤ x → x ≤ 100000 → Builtin.Range.rangeFitsLong x = true := by
      intro x h1 h2
      unfold Builtin.Range.rangeFitsLong
      simp only [Bool.and_eq_true, decide_eq_true_eq]
      omega
    unfold Builtin.Range.small
    rw [e, f 1 (by decide) (by decide), f 2 (by decide) (by decide), f _ (by omega) (by omega), f n (by omega) (by omega)]
    simp only [Bool.and_self, Bool.true_and]
    rw [if_pos (by decide), f _ (by omega) (by omega), Bool.or_true]
  unfold rngC
  rw [e, e2, e3]
  simp
theorem range_drop {n k : Nat} (h : k < n) : (rangeC 1 2 n).drop k = .int (1 + (k : Int) * 2) :: (rangeC 1 2 n).drop (k + 1) := by
  have hl : k < (rangeC 1 2 n).length := by simp [rangeC, h]
  rw [List.drop_eq_getElem_cons hl]
  simp [rangeC]
/-! ### the law's own settling -/
section
variable {m : Mod} {S : Store}
theorem law_settled_ok (ok : m.Ok) (hp : PureS S) {y z : Str} {t : Int} {l : Seg} (h : Path m y l z) (hl : l.length ≤ 900) : m_law_settled [m.d, .lst (rowD t l)] S = .ok (stlD (stl m [] t l)) S := by
  refine Pe.eq (v_fn ?_)
  unfold b_law_settled
  generalize hR : mRng3 = R
  walk_at "dv"
  refine v_ix (ix_zero _ _) ?_
  walk_at "dv"
  subst hR
  with_reducible refine v_rng3 ?_
  refine Pe.of (show (mCons (mC (.int 1)) (mCons (mCB mLen (mCons (mVar 1) mNil)) (mCons (mC (.int 2)) mNil))) [some m.d, some (.lst (rowD t l)), some (.ref S.length), some (.int t), none, none, none, none] (S ++ [.lst []]) = R.ok [.int 1, .int ((rowD t l).length : Nat), .int 2] (S ++ [.lst []]) from rfl) ?_
  have hr := rng_row l.length (by omega)
  rw [← row_len t l] at hr
  refine ⟨_, _, _, rfl, hr.2, ?_⟩
  rw [hr.1]
  refine v_loop (fun ds en T => ∃ (x4 x5 x6 x7 : Option Dt) (a b : Seg) (w : Str) (ps : Pairs) (x : Int), l = a ++ b ∧ ds = (rangeC 1 2 l.length).drop a.length ∧ en = [some m.d, some (.lst (rowD t l)), some (.ref S.length), some (.int x), x4, x5, x6, x7] ∧ Jz S T ∧ T[S.length]? = some (.lst (ps.map prD)) ∧
      Path m w b z ∧ stl m ps x b = stl m [] t l ∧ ps.length + b.length ≤ 900 ∧ (∀ p ∈ ps, PyData.strOk p.2.1 = true))
    ⟨_, _, _, _, [], l, y, [], t, rfl, rfl, rfl, Jz.refl.push, last_at, h, rfl, by simpa using hl, fun p hp => (List.not_mem_nil hp).elim⟩ ?_ ?_
  · rintro d ds en T ⟨x4, x5, x6, x7, a, b, w, ps, x, el, ed, rfl, jz, hT, pb, es, hlen, hst⟩
    cases pb with
    | nil =>
      have := congrArg List.length ed
      have e2 := congrArg List.length el
      simp [rangeC] at this
      simp at e2
      omega
    | @cons _ s u b' _ r h1 h2 h3 p' =>
      have hk : a.length < l.length := by
        rw [el, List.length_append, List.length_cons]
        omega
      rw [range_drop hk] at ed
      obtain ⟨rfl, rfl⟩ := List.cons.inj ed
      have so : PyData.strOk s.1 = true := by
        have := (road_in h1)
        rw [← this.2]
        exact (ok.sr r this.1).1
      have er : ruleOf m s = r.rule s.2 := by simp [ruleOf, h1]
      have rb := rule_b ok h1 s.2
      rw [List.length_cons] at hlen
      have hp0 : l[a.length]? = some (s, u) := by rw [el, List.getElem?_append_right (Nat.le_refl _), Nat.sub_self]; rfl
      have x1 : ∀ T : Store, ixD T (.lst (rowD t l)) (1 + (a.length : Int) * 2) = some (stD s) := fun T => by
        have e : L2.atI (rowD t l) ((2 * a.length + 1 : Nat) : Int) = some (stD s) := atI_in (row_step t l a.length _ hp0)
        rw [show ((2 * a.length + 1 : Nat) : Int) = 1 + (a.length : Int) * 2 by omega] at e
        exact e
      have x2 : ∀ T : Store, ixD T (.lst (rowD t l)) (1 + (a.length : Int) * 2 + 1) = some (.int u) := fun T => by
        have e : L2.atI (rowD t l) ((2 * (a.length + 1) : Nat) : Int) = some (.int (turnAt t l (a.length + 1))) := atI_in (row_turn t l (a.length + 1) (by omega))
        rw [show ((2 * (a.length + 1) : Nat) : Int) = 1 + (a.length : Int) * 2 + 1 by omega] at e
        have e2 : turnAt t l (a.length + 1) = u := by simp [turnAt, hp0]
        rw [e2] at e
        exact e
      have h0 : (r.rule s.2).1 ≠ 0 := rb.1.1
      have h0' : ((r.rule s.2).1.natAbs : Int) ≠ 0 := by omega
      have hh : (r.rule s.2).2.natAbs < 2 ^ 64 := by omega
      have hlg : (r.rule s.2).1.natAbs.log2 < 9000 := log_lt (by omega) h0
      refine ⟨_, _, rfl, ?_⟩
      generalize hP : (mSeq (mSet 7 (mOp mMod (mVar 3) (mCB mAbs (mCons (mVar 5) mNil)))) (mSeq (mDrop (mApp1 (mVar 2) (mTup (mCons (mVar 7) (mCons (mOp mIx (mVar 1) (mVar 4)) mNil))))) (mSet 3 (mOp mMul (mOp mDiv (mOp mSub (mVar 3) (mVar 7)) (mVar 5)) (mVar 6))))) = P
      generalize hL : mSet 3 (mOp mAdd (mVar 3) (mOp mIx (mVar 1) (mOp mAdd (mVar 4) (mC (.int 1))))) = L
      walk_at "dv"
      refine v_ix (x1 _) ?_
      walk_at "dv"
      refine Pe.of (law_rule_ok ok h1) ?_
      walk_at "dv"
      have okps : (ps.map prD).all (okD 11) = true := all_map fun p hp => okD_pr (hst p hp) 9
      refine v_neRN hT okps ?_
      refine ⟨_, rfl, ?_⟩
      have next : ∀ (T2 : Store) (x7 : Option Dt) (v : Int), Jz S T2 → T2[S.length]? = some (.lst ((stl1 (r.rule s.2) ps x s).1.map prD)) → v = (stl1 (r.rule s.2) ps x s).2 →
          ∀ {QS : Fl → Dv.Env → Store → Prop} {XS : Ex → Dv.Env → Store → Prop}, ((∃ (x4' x5' x6' x7' : Option Dt) (a' b : Seg) (w : Str) (ps : Pairs) (x : Int), l = a' ++ b ∧ (rangeC 1 2 l.length).drop (a.length + 1) = (rangeC 1 2 l.length).drop a'.length ∧ [some m.d, some (Dt.lst (rowD t l)), some (.ref S.length), some (.int (v + u)), some (.int (1 + (a.length : Int) * 2)), some (.int (r.rule s.2).1), some (.int (r.rule s.2).2), x7] = [some m.d, some (.lst (rowD t l)), some (.ref S.length), some (.int x), x4', x5', x6', x7'] ∧ Jz S T2 ∧ T2[S.length]? = some (.lst (ps.map prD)) ∧ Path m w b z ∧ stl m ps x b = stl m [] t l ∧ ps.length + b.length ≤ 900 ∧ (∀ p ∈ ps, PyData.strOk p.2.1 = true)) → QS .nx [some m.d, some (Dt.lst (rowD t l)), some (.ref S.length), some (.int (v + u)), some (.int (1 + (a.length : Int) * 2)), some (.int (r.rule s.2).1), some (.int (r.rule s.2).2), x7] T2) → Ps (L [some m.d, some (Dt.lst (rowD t l)), some (.ref S.length), some (.int v), some (.int (1 + (a.length : Int) * 2)), some (.int (r.rule s.2).1), some (.int (r.rule s.2).2), x7] T2) QS XS := by
        intro T2 x7 v j2 hT2 ev QS XS q
        subst hL
        walk_at "dv"
        refine v_ix (x2 _) ?_
        walk_at "dv"
        refine q ⟨_, _, _, _, a ++ [(s, u)], b', _, (stl1 (r.rule s.2) ps x s).1, v + u, by rw [el]; simp, by simp, rfl, j2, hT2, p', ?_, ?_, fun p hp => ?_⟩
        · rw [← es, ev, ← er]
          rfl
        · have := stl1_len (r.rule s.2) ps x s
          omega
        · rcases stl1_mem hp with z | z
          · exact hst p z
          · rw [z]
            exact so
      have push : ∀ (x7 : Option Dt), stl1 (r.rule s.2) ps x s = pushS (r.rule s.2) ps x s → ∀ {QS : Fl → Dv.Env → Store → Prop} {XS : Ex → Dv.Env → Store → Prop},
          (∀ x7, QS .nx [some m.d, some (Dt.lst (rowD t l)), some (.ref S.length), some (.int (stl1 (r.rule s.2) ps x s).2), some (.int (1 + (a.length : Int) * 2)), some (.int (r.rule s.2).1), some (.int (r.rule s.2).2), x7] (T.set S.length (.lst ((stl1 (r.rule s.2) ps x s).1.map prD)))) →
          Ps (P [some m.d, some (Dt.lst (rowD t l)), some (.ref S.length), some (.int x), some (.int (1 + (a.length : Int) * 2)), some (.int (r.rule s.2).1), some (.int (r.rule s.2).2), x7] T) QS XS := by
        intro x7 ep QS XS q
        subst hP
        rw [ep] at q
        walk_at "dv"
        rw [abs_if]
        refine v_app1K rfl hT ?_
        walk_at "dv"
        refine v_ix (x1 _) ?_
        walk_at "dv"
        refine ⟨_, hT, by rw [List.length_map]; omega, ?_⟩
        walk_at "dv"
        have := q (some (.int (x.fmod (r.rule s.2).1.natAbs)))
        unfold pushS at this
        rw [List.map_append] at this
        exact this
      rcases List.eq_nil_or_concat ps with rfl | ⟨ps', p, rfl⟩
      · refine v_bF rfl ?_
        refine push _ rfl fun x7 => ?_
        exact next _ _ _ (jz.set (Nat.le_refl _)) (set_same hT) rfl fun z => z
      · rw [List.concat_eq_append] at *
        have hpp := hst p (by simp)
        have hlast : (ps' ++ [p]).getLast? = some p := by simp
        refine v_bT (by simp) ?_
        walk_at "dv"
        refine v_ix (ixD_ref hT (last_ix (x := prD p) (by simp))) ?_
        walk_at "dv"
        refine v_ix (x1 _) ?_
        walk_at "dv"
        refine Pe.of law_undone_ok ?_
        refine v_eqT hpp so ?_
        refine ⟨_, rfl, ?_⟩
        refine v_dec (fun e => ?_) (fun e => ?_)
        · walk_at "dv"
          rw [abs_if]
          refine v_dec (fun e2 => ?_) (fun e2 => ?_)
          · have e2 := (rest_zero h0).mpr e2
            walk_at "dv"
            refine v_popX rfl hT (d := prD p) (by simp) ?_
            walk_at "dv"
            refine next _ _ _ (jz.set (Nat.le_refl _)) ?_ ?_ fun z => z
            · rw [set_same hT]
              simp [stl1, hlast, e, e2]
            · simp [stl1, hlast, e, e2]
          · have e2 : ¬ x.fmod (r.rule s.2).1 = 0 := fun z => e2 ((rest_zero h0).mp z)
            refine push _ (by simp [stl1, hlast, e, e2]) fun x7 => ?_
            exact next _ _ _ (jz.set (Nat.le_refl _)) (set_same hT) rfl fun z => z
        · refine push _ (by simp [stl1, hlast, e]) fun x7 => ?_
          exact next _ _ _ (jz.set (Nat.le_refl _)) (set_same hT) rfl fun z => z
  · rintro en T ⟨x4, x5, x6, x7, a, b, w, ps, x, el, ed, rfl, jz, hT, pb, es, hlen, hst⟩
    have hb : b = [] := by
      have := congrArg List.length ed
      have e2 := congrArg List.length el
      simp [rangeC] at this
      rw [List.length_append] at e2
      exact List.length_eq_zero_iff.mp (by omega)
    subst hb
    walk_at "dv"
    have hl0 : S.length < T.length := (List.getElem?_eq_some_iff.mp hT).1
    refine v_finL (frz_pair2 rfl hT (Nat.le_refl _) (all_map fun p _ => by simp [noRef])) hl0 (by rw [jz.eq]; exact hp) ?_
    rw [jz.eq, ← es]
    first | exact ⟨rfl, rfl⟩ | exact rfl
end
end Lw
set_option Elab.async false
set_option linter.all false
set_option maxRecDepth 100000
set_option maxHeartbeats 4000000
set_option autoImplicit false
namespace Lw
open PySem Dv
/-! steps of our own words -/
local macro_rules | `(tactic| walk_at "num") => `(tactic| first | assumption | decide | omega)
local macro_rules | `(tactic| walk_at "dv0") => `(tactic| with_reducible first
  | refine v_seq ?_ | refine v_ifS ?_ | refine v_set ?_ | refine v_ret ?_ | refine v_asg ?_ | refine v_par ?_ | refine v_drop ?_ | refine v_nx ?_ | refine v_bk ?_ | refine v_ct ?_ | refine v_retN ?_ | refine v_for ?_
  | refine v_c ?_ | refine v_nil ?_ | refine v_cons ?_ | refine v_op ?_ | refine v_B ?_ | refine v_truth ?_ | refine v_andT ?_ | refine v_orT ?_ | refine v_notT ?_
  | refine v_andV ?_ | refine v_orV ?_ | refine v_notV ?_ | refine v_if ?_ | refine v_neg ?_ | refine v_chain ?_ | refine v_tup ?_ | refine v_lst ?_ | refine v_lstR ?_ | refine v_noPart ?_ | refine v_part ?_ | refine v_sl ?_
  | refine v_CB ?_ | refine v_call ?_ | refine v_abs ?_ | refine v_lc ?_ | refine v_yes ?_ | refine v_it ?_ | refine v_rng1 ?_ | refine v_rng2 ?_ | refine v_rng3 ?_ | refine v_T ?_ | refine v_F ?_
  | refine v_add ?_ | refine v_sub ?_ | refine v_iadd ?_ | refine v_lt ?_ | refine v_le ?_ | refine v_gt ?_ | refine v_ge ?_ | refine v_eqI ?_ | refine v_neI ?_ | refine v_eqB ?_ | refine v_neB ?_)
local macro_rules | `(tactic| walk_at "dv1") => `(tactic| first
  | (with_reducible refine' v_var ?h ?_); (case h => rfl)
  | (with_reducible refine' v_aug ?h ?_); (case h => rfl)
  | (with_reducible refine' v_div ?h1 ?h2 ?_); (case h1 => walk_at "num"); (case h2 => walk_at "num")
  | (with_reducible refine' v_mod ?h1 ?_); (case h1 => walk_at "num")
  | (with_reducible refine' v_pow ?h1 ?_); (case h1 => walk_at "num")
  | (with_reducible refine' v_mulR ?h1 ?_); (case h1 => walk_at "num")
  | (with_reducible refine' v_mulL ?h1 ?_); (case h1 => walk_at "num")
  | (with_reducible refine' v_fin ?h1 ?_); (case h1 => first | exact Or.inl rfl | exact Or.inr rfl | (refine Or.inr ?_; simp only [List.length_set, *]; done))
  | (with_reducible refine' v_ix ?h1 ?_); (case h1 => first | exact ixD_ref (by assumption) (by rfl) | rfl)
  | (with_reducible refine' v_len ?h1 ?_); (case h1 => first | exact lenD_ref (by assumption) | rfl)
  | (with_reducible refine' v_list ?h1 ?_); (case h1 => rfl)
  | (with_reducible refine' v_listR ?h1 ?_); (case h1 => rfl)
  | (with_reducible refine' v_tuple ?h1 ?_); (case h1 => rfl)
  | (with_reducible refine' v_isd ?h1 ?_); (case h1 => rfl)
  | (with_reducible refine' v_isiTy ?h1 ?h2 ?_); (case h1 => rfl); (case h2 => rfl)
  | (with_reducible refine' v_isiT ?h1 ?_); (case h1 => rfl))
local macro_rules | `(tactic| walk_at "dv2") => `(tactic| first
  | refine v_gsub (by rfl) (by rfl) (by assumption) (by rfl) (fun _ _ _ => ?_) | refine ⟨_, rfl, ?_⟩ | (with_reducible refine' ⟨rng_ok ?h1 ?h2, ?_⟩); (case h1 => omega); (case h2 => omega) | refine ⟨rfl, ?_⟩ | refine ⟨_, _, rfl, ?_⟩ | refine ⟨Nat.le_of_ble_eq_true rfl, ?_⟩)
local macro_rules | `(tactic| walk_at "dv3") => `(tactic| first
  | (with_reducible refine' v_dec (fun _ => ?_) (fun hn => absurd ?h hn)); (case h => first | assumption | omega | decide)
  | (with_reducible refine' v_dec (fun hn => absurd hn ?h) (fun _ => ?_)); (case h => first | assumption | omega | decide)
  | (with_reducible refine' v_ndec (fun _ => ?_) (fun hn => absurd hn ?h)); (case h => first | assumption | omega | decide)
  | (with_reducible refine' v_ndec (fun hn => absurd ?h hn) (fun _ => ?_)); (case h => first | assumption | omega | decide)
  | (with_reducible refine' v_bT ?h ?_); (case h => first | assumption | rfl)
  | (with_reducible refine' v_bF ?h ?_); (case h => first | assumption | rfl))
local macro_rules | `(tactic| walk_at "dv4") => `(tactic| with_reducible first
  | refine v_places ?_ | refine v_roads ?_ | refine v_over ?_ | refine v_line ?_ | refine v_spots ?_ | refine v_myards ?_ | refine v_mroads ?_ | refine v_mW (by decide +kernel) ?_ | refine v_mK (by decide +kernel) ?_
  | refine v_itX ?_ | refine v_ev ?_ | refine v_rev ?_ | refine v_zs ?_ | refine v_enum ?_ | refine v_enum2 ?_ | refine v_makeV ?_ | refine v_tryN ?_ | refine v_lc2 ?_ | refine v_fz ?_ | refine v_make ?_ | refine v_fldS ?_)
local macro_rules | `(tactic| walk_at "dv5") => `(tactic| first
  | refine ⟨_, _, rfl, rfl, ?_⟩ | refine ⟨⟨_, _, rfl⟩, ?_⟩ | refine ⟨⟨_, _, _, rfl⟩, ?_⟩ | refine ⟨_, _, _, rfl, ?_⟩ | refine Or.inl ⟨_, rfl, ?_⟩ | refine Or.inr ⟨_, (fun _ z => by cases z), rfl, ?_⟩)
local macro_rules | `(tactic| walk_at "dv") => `(tactic| repeat (first | walk_at "dv0" | walk_at "dv4" | walk_at "dv1" | walk_at "dv3" | walk_at "dv2" | walk_at "dv5"))
/-! ### the same, told of bools, texts and rows -/
theorem same_bool {S : Store} {k : Nat} {b : Bool} : m_law_same (k + 1) [.bl b, .bl b] S = .ok (.bl true) S := by
  refine Pe.eq (v_fn ?_)
  unfold b_law_same
  walk_at "dv"
  refine v_eqB (b := true) (by simp [okD, res]) (by simp [okD, res]) (by cases b <;> rfl) ?_
  walk_at "dv"
  first | exact ⟨rfl, rfl⟩ | exact rfl
theorem same_str {S : Store} {k : Nat} {s : Str} (h : PyData.strOk s = true) : m_law_same (k + 1) [.str s, .str s] S = .ok (.bl true) S := by
  refine Pe.eq (v_fn ?_)
  unfold b_law_same
  walk_at "dv"
  refine v_eqS h h ?_
  walk_at "dv"
  first | exact ⟨rfl, rfl⟩ | exact rfl | exact ⟨by simp, rfl⟩
/-! ### the same, told of any plain data -/
theorem same_non {S : Store} {k : Nat} : m_law_same (k + 1) [.non, .non] S = .ok (.bl true) S := by
  refine Pe.eq (v_fn ?_)
  unfold b_law_same
  walk_at "dv"
  first | exact ⟨rfl, rfl⟩ | exact rfl
def sok : Nat → Dt → Bool
  | 0, _ => false
  | k + 1, d => match d with
    | .non => true
    | .bl _ => true
    | .int _ => true
    | .str s => PyData.strOk s
    | .tup ds => decide (ds.length ≤ 100000) && ds.all (sok k)
    | .lst ds => decide (ds.length ≤ 100000) && ds.all (sok k)
    | _ => false
theorem same_all {S : Store} : ∀ (k : Nat) (d : Dt), sok k d = true → m_law_same k [d, d] S = .ok (.bl true) S
  | 0, _, h => nomatch h
  | k + 1, d, h => by
    unfold sok at h
    split at h
    · exact same_non
    · exact same_bool
    · exact same_int
    · exact same_str h
    · rename_i ds
      rw [Bool.and_eq_true] at h
      refine Pe.eq (same_seq (.inl rfl) (of_decide_eq_true h.1) fun d hd => same_all k d (List.all_eq_true.mp h.2 d hd))
    · rename_i ds
      rw [Bool.and_eq_true] at h
      refine Pe.eq (same_seq (.inr rfl) (of_decide_eq_true h.1) fun d hd => same_all k d (List.all_eq_true.mp h.2 d hd))
    · cases h
/-- the law's same, of the same -/
theorem v_same {x y : Dt} {S : Store} {Q : Dt → Store → Prop} {X : Ex → Store → Prop} (e : x = y) (h : sok 20 x = true) (q : Q (.bl true) S) : Pe (m_law_same 20 [x, y] S) Q X := by
  subst e
  exact Pe.of (same_all 20 x h) q
/-! ### == of plain data with itself -/
theorem sok_ok : ∀ (k : Nat) (d : Dt), sok k d = true → okD k d = true
  | 0, _, h => nomatch h
  | k + 1, d, h => by
    unfold sok at h
    split at h
    · rfl
    · rfl
    · rfl
    · exact h
    · rename_i ds
      rw [Bool.and_eq_true] at h
      exact List.all_eq_true.mpr fun x hx => sok_ok k x (List.all_eq_true.mp h.2 x hx)
    · rename_i ds
      rw [Bool.and_eq_true] at h
      exact List.all_eq_true.mpr fun x hx => sok_ok k x (List.all_eq_true.mp h.2 x hx)
    · cases h
theorem eqDs_refl : ∀ {ds : List Dt}, (∀ d ∈ ds, eqD d d = true) → eqDs ds ds = true
  | [], _ => rfl
  | d :: ds, h => by
    show (eqD d d && eqDs ds ds) = true
    rw [h d List.mem_cons_self, eqDs_refl fun x hx => h x (List.mem_cons_of_mem _ hx)]
    rfl
theorem sok_eq : ∀ (k : Nat) (d : Dt), sok k d = true → eqD d d = true
  | 0, _, h => nomatch h
  | k + 1, d, h => by
    unfold sok at h
    split at h
    · rfl
    · rename_i b
      show (b == b) = true
      simp
    · rename_i b
      show (b == b) = true
      simp
    · rename_i b
      show (b == b) = true
      simp
    · rename_i ds
      rw [Bool.and_eq_true] at h
      exact eqDs_refl fun x hx => sok_eq k x (List.all_eq_true.mp h.2 x hx)
    · rename_i ds
      rw [Bool.and_eq_true] at h
      exact eqDs_refl fun x hx => sok_eq k x (List.all_eq_true.mp h.2 x hx)
    · cases h
theorem res_sok {k : Nat} {d : Dt} {S : Store} (h : sok k d = true) : res S d = d := by
  cases k with
  | zero => cases h
  | succ k => cases d <;> first | rfl | cases h
/-- == and != of the same plain data -/
theorem v_eqSame {x y : Dt} {S : Store} {Q : Dt → Store → Prop} {X : Ex → Store → Prop} (e : x = y) (h : sok 12 x = true) (q : Q (.bl true) S) : Pe (mEq x y S) Q X := by
  subst e
  refine v_ifok ?_ ?_
  · rw [res_sok h]
    exact ⟨sok_ok 12 x h, sok_ok 12 x h⟩
  · rw [res_sok h, sok_eq 12 x h]
    exact q
section
variable {m : Mod} {S : Store}
/-! ### pairs as a row -/
def unp (x : Int) : Pairs → Int × Seg
  | [] => (x, [])
  | (r, s) :: ps => (r, (s, (unp x ps).1) :: (unp x ps).2)
theorem unp_row (x : Int) : ∀ ps : Pairs, rowD (unp x ps).1 (unp x ps).2 = ps.flatMap (fun p => [Dt.int p.1, stD p.2]) ++ [.int x]
  | [] => rfl
  | (r, s) :: ps => by
    show Dt.int r :: stD s :: rowD (unp x ps).1 (unp x ps).2 = _
    rw [unp_row x ps]
    rfl
theorem unp_steps (x : Int) : ∀ ps : Pairs, (unp x ps).2.map (·.1) = ps.map (·.2)
  | [] => rfl
  | (r, s) :: ps => by
    show s :: (unp x ps).2.map (·.1) = s :: ps.map (·.2)
    rw [unp_steps x ps]
theorem row_of_ok {ps : Pairs} {x : Int} (hl : ps.length ≤ 1000) : m_row_of [.lst (ps.map prD), .int x] S = .ok (.lst (rowD (unp x ps).1 (unp x ps).2)) S := by
  refine Pe.eq (v_fn ?_)
  unfold b_row_of
  walk_at "dv"
  have e : (ps.map prD).flatMap (fun d => match d with | .tup xs => xs | _ => []) = ps.flatMap fun p => [Dt.int p.1, stD p.2] := by rw [List.flatMap_map]
  have e2 : ∀ qs : Pairs, (qs.flatMap fun p => [Dt.int p.1, stD p.2]).length = 2 * qs.length := by
    intro qs
    induction qs with
    | nil => rfl
    | cons q qs ih =>
      rw [List.flatMap_cons, List.length_append, ih]
      show 2 + 2 * qs.length = 2 * (qs.length + 1)
      omega
  refine Pe.of (cloop2_ok (fun d => match d with | .tup xs => xs | _ => []) _ _ (fun d hd => ?_) (by rw [e, e2]; simp; omega)) ?_
  · obtain ⟨p, hp, rfl⟩ := List.mem_map.mp hd
    refine ⟨_, _, rfl, rfl, rfl, fun acc ha => ?_⟩
    have ha : acc.length + 2 < 1000000 := ha
    show (if acc.length < 1000000 then (if (acc ++ [Dt.int p.1]).length < 1000000 then R.ok ((acc ++ [Dt.int p.1]) ++ [stD p.2]) S else .stuck) else .stuck) = _
    rw [if_pos (by omega), if_pos (by rw [List.length_append, List.length_singleton]; omega), List.append_assoc]
    rfl
  walk_at "dv"
  rw [List.nil_append, e]
  refine v_addL (by rw [e2]; simp; omega) ?_
  walk_at "dv"
  rw [unp_row]
  first | exact ⟨rfl, rfl⟩ | exact rfl
end
/-! ### the plain walk, made -/
theorem unp_len (x : Int) : ∀ ps : Pairs, (unp x ps).2.length = ps.length
  | [] => rfl
  | (r, s) :: ps => by
    show (unp x ps).2.length + 1 = ps.length + 1
    rw [unp_len x ps]
/-! ### plain walks: their way, how great they are -/
theorem Path.same {m : Mod} {z : Str} : ∀ {a b : Seg} {y : Str}, Path m y a z → a.map (·.1) = b.map (·.1) → Path m y b z
  | [], [], _, h, _ => h
  | [], _ :: _, _, _, e => by cases e
  | _ :: _, [], _, _, e => by cases e
  | (s, t) :: a, (s', u) :: b, y, h, e => by
    have e1 : s = s' := (List.cons.inj e).1
    have e2 : a.map (·.1) = b.map (·.1) := (List.cons.inj e).2
    subst e1
    cases h with
    | cons h1 h2 h3 p => exact .cons h1 h2 h3 (p.same e2)
section
variable {m : Mod}
def prS (ps : Pairs) : Seg := ps.map fun p => (p.2, (0 : Int))
theorem G_path {y w v : Str} {s : Step} {u x : Int} {ps : Pairs} (h : Path m y (prS ps) w) (k : Path m w [(s, u)] v) : Path m y (prS (G m s ps x).1) v := by
  rcases G_two (m := m) s ps x with ⟨qs, r, rfl, h0⟩ | h0
  · rw [G_pop h0]
    have e : prS (qs ++ [(r, und s)]) = prS qs ++ [(und s, 0)] := by simp [prS]
    rw [e] at h
    obtain ⟨r', w', p1, p2, p3, p4, p5⟩ := h.snoc
    cases k with
    | @cons _ _ _ _ _ r2 h1 h2 h3 h4 =>
      cases h4
      have er : r' = r2 := Option.some.inj (p2.symm.trans h1)
      subst er
      have ew : (r'.ends s.2).2 = w' := by
        rw [← p4]
        show _ = (r'.ends (0 - s.2)).1
        rw [und_ends r' h2]
      rw [ew]
      exact p1
  · rw [G_push h0]
    have e : prS (ps ++ [(x.fmod (ruleOf m s).1.natAbs, s)]) = prS ps ++ [(s, 0)] := by simp [prS]
    rw [e]
    refine h.app ?_
    cases k with
    | cons h1 h2 h3 h4 => exact .cons h1 h2 h3 h4
theorem stl_path {z : Str} : ∀ {l : Seg} {y w : Str} {ps : Pairs} {x : Int}, Path m y (prS ps) w → Path m w l z → Path m y (prS (stl m ps x l).1) z
  | [], _, _, _, _, h, k => by
    cases k
    exact h
  | (s, u) :: l, _, _, ps, x, h, k => by
    cases k with
    | cons h1 h2 h3 h4 =>
      rw [stl_cons]
      exact stl_path (G_path (u := u) h (.cons h1 h2 h3 (.nil _))) h4
theorem stl_len (ps : Pairs) (x : Int) (l : Seg) : (stl m ps x l).1.length ≤ ps.length + l.length := by
  induction l generalizing ps x with
  | nil => exact Nat.le_refl _
  | cons p l ih =>
    have h1 := stl1_len (ruleOf m p.1) ps x p.1
    have h2 := ih (G m p.1 ps x).1 ((G m p.1 ps x).2 + p.2)
    show (stl m (G m p.1 ps x).1 ((G m p.1 ps x).2 + p.2) l).1.length ≤ ps.length + (l.length + 1)
    have h1 : (G m p.1 ps x).1.length ≤ ps.length + 1 := h1
    omega
theorem unp_path {y z : Str} {ps : Pairs} (h : Path m y (prS ps) z) (x : Int) : Path m y (unp x ps).2 z := by
  refine h.same ?_
  rw [unp_steps]
  unfold prS
  rw [List.map_map]
  rfl
theorem unp_b {B : Nat} {x : Int} (hx : x.natAbs ≤ B) : ∀ {ps : Pairs}, (∀ p ∈ ps, p.1.natAbs ≤ B) → (unp x ps).1.natAbs ≤ B ∧ Within B (unp x ps).2
  | [], _ => ⟨hx, fun p hp => (List.not_mem_nil hp).elim⟩
  | (r, s) :: ps, h => by
    obtain ⟨i1, i2⟩ := unp_b hx (ps := ps) fun p hp => h p (List.mem_cons_of_mem _ hp)
    exact ⟨h (r, s) List.mem_cons_self, Within.cons.mpr ⟨i1, i2⟩⟩
end
end Lw
set_option Elab.async false
set_option linter.all false
set_option maxRecDepth 100000
set_option maxHeartbeats 4000000
set_option autoImplicit false
namespace Lw
open PySem Dv
/-! steps of our own words -/
local macro_rules | `(tactic| walk_at "num") => `(tactic| first | assumption | decide | omega)
local macro_rules | `(tactic| walk_at "dv0") => `(tactic| with_reducible first
  | refine v_seq ?_ | refine v_ifS ?_ | refine v_set ?_ | refine v_ret ?_ | refine v_asg ?_ | refine v_par ?_ | refine v_drop ?_ | refine v_nx ?_ | refine v_bk ?_ | refine v_ct ?_ | refine v_retN ?_ | refine v_for ?_
  | refine v_c ?_ | refine v_nil ?_ | refine v_cons ?_ | refine v_op ?_ | refine v_B ?_ | refine v_truth ?_ | refine v_andT ?_ | refine v_orT ?_ | refine v_notT ?_
  | refine v_andV ?_ | refine v_orV ?_ | refine v_notV ?_ | refine v_if ?_ | refine v_neg ?_ | refine v_chain ?_ | refine v_tup ?_ | refine v_lst ?_ | refine v_lstR ?_ | refine v_noPart ?_ | refine v_part ?_ | refine v_sl ?_
  | refine v_CB ?_ | refine v_call ?_ | refine v_abs ?_ | refine v_lc ?_ | refine v_yes ?_ | refine v_it ?_ | refine v_rng1 ?_ | refine v_rng2 ?_ | refine v_rng3 ?_ | refine v_T ?_ | refine v_F ?_
  | refine v_add ?_ | refine v_sub ?_ | refine v_iadd ?_ | refine v_lt ?_ | refine v_le ?_ | refine v_gt ?_ | refine v_ge ?_ | refine v_eqI ?_ | refine v_neI ?_ | refine v_eqB ?_ | refine v_neB ?_)
local macro_rules | `(tactic| walk_at "dv1") => `(tactic| first
  | (with_reducible refine' v_var ?h ?_); (case h => rfl)
  | (with_reducible refine' v_aug ?h ?_); (case h => rfl)
  | (with_reducible refine' v_div ?h1 ?h2 ?_); (case h1 => walk_at "num"); (case h2 => walk_at "num")
  | (with_reducible refine' v_mod ?h1 ?_); (case h1 => walk_at "num")
  | (with_reducible refine' v_pow ?h1 ?_); (case h1 => walk_at "num")
  | (with_reducible refine' v_mulR ?h1 ?_); (case h1 => walk_at "num")
  | (with_reducible refine' v_mulL ?h1 ?_); (case h1 => walk_at "num")
  | (with_reducible refine' v_fin ?h1 ?_); (case h1 => first | exact Or.inl rfl | exact Or.inr rfl | (refine Or.inr ?_; simp only [List.length_set, *]; done))
  | (with_reducible refine' v_ix ?h1 ?_); (case h1 => first | exact ixD_ref (by assumption) (by rfl) | rfl)
  | (with_reducible refine' v_len ?h1 ?_); (case h1 => first | exact lenD_ref (by assumption) | rfl)
  | (with_reducible refine' v_list ?h1 ?_); (case h1 => rfl)
  | (with_reducible refine' v_listR ?h1 ?_); (case h1 => rfl)
  | (with_reducible refine' v_tuple ?h1 ?_); (case h1 => rfl)
  | (with_reducible refine' v_isd ?h1 ?_); (case h1 => rfl)
  | (with_reducible refine' v_isiTy ?h1 ?h2 ?_); (case h1 => rfl); (case h2 => rfl)
  | (with_reducible refine' v_isiT ?h1 ?_); (case h1 => rfl))
local macro_rules | `(tactic| walk_at "dv2") => `(tactic| first
  | refine v_gsub (by rfl) (by rfl) (by assumption) (by rfl) (fun _ _ _ => ?_) | refine ⟨_, rfl, ?_⟩ | (with_reducible refine' ⟨rng_ok ?h1 ?h2, ?_⟩); (case h1 => omega); (case h2 => omega) | refine ⟨rfl, ?_⟩ | refine ⟨_, _, rfl, ?_⟩ | refine ⟨Nat.le_of_ble_eq_true rfl, ?_⟩)
local macro_rules | `(tactic| walk_at "dv3") => `(tactic| first
  | (with_reducible refine' v_dec (fun _ => ?_) (fun hn => absurd ?h hn)); (case h => first | assumption | omega | decide)
  | (with_reducible refine' v_dec (fun hn => absurd hn ?h) (fun _ => ?_)); (case h => first | assumption | omega | decide)
  | (with_reducible refine' v_ndec (fun _ => ?_) (fun hn => absurd hn ?h)); (case h => first | assumption | omega | decide)
  | (with_reducible refine' v_ndec (fun hn => absurd ?h hn) (fun _ => ?_)); (case h => first | assumption | omega | decide)
  | (with_reducible refine' v_bT ?h ?_); (case h => first | assumption | rfl)
  | (with_reducible refine' v_bF ?h ?_); (case h => first | assumption | rfl))
local macro_rules | `(tactic| walk_at "dv4") => `(tactic| with_reducible first
  | refine v_places ?_ | refine v_roads ?_ | refine v_over ?_ | refine v_line ?_ | refine v_spots ?_ | refine v_myards ?_ | refine v_mroads ?_ | refine v_mW (by decide +kernel) ?_ | refine v_mK (by decide +kernel) ?_
  | refine v_itX ?_ | refine v_ev ?_ | refine v_rev ?_ | refine v_zs ?_ | refine v_enum ?_ | refine v_enum2 ?_ | refine v_makeV ?_ | refine v_tryN ?_ | refine v_lc2 ?_ | refine v_fz ?_ | refine v_make ?_ | refine v_fldS ?_)
local macro_rules | `(tactic| walk_at "dv5") => `(tactic| first
  | refine ⟨_, _, rfl, rfl, ?_⟩ | refine ⟨⟨_, _, rfl⟩, ?_⟩ | refine ⟨⟨_, _, _, rfl⟩, ?_⟩ | refine ⟨_, _, _, rfl, ?_⟩ | refine Or.inl ⟨_, rfl, ?_⟩ | refine Or.inr ⟨_, (fun _ z => by cases z), rfl, ?_⟩)
local macro_rules | `(tactic| walk_at "dv") => `(tactic| repeat (first | walk_at "dv0" | walk_at "dv4" | walk_at "dv1" | walk_at "dv3" | walk_at "dv2" | walk_at "dv5"))
/-! ### the law's own laying out of pairs -/
/-! ### places -/
section
variable {m : Mod}
theorem Pl.pre : ∀ {qs : Pairs}, Pl m qs → ∀ {a b : Pairs}, qs = a ++ b → Pl m a := by
  intro qs h
  induction h with
  | nil =>
    intro a b e
    have e1 : a = [] := (List.append_eq_nil_iff.mp e.symm).1
    rw [e1]
    exact .nil
  | @push ps r s h1 h2 h3 h4 h5 ih =>
    intro a b e
    rcases List.eq_nil_or_concat b with rfl | ⟨b', p, rfl⟩
    · rw [List.append_nil] at e
      rw [← e]
      exact .push h1 h2 h3 h4 h5
    · rw [List.concat_eq_append, ← List.append_assoc] at e
      exact ih (List.append_inj' e rfl).1
theorem Pl.at_ {a b : Pairs} {r : Int} {s : Step} (h : Pl m (a ++ (r, s) :: b)) : 0 ≤ r ∧ r < (ruleOf m s).1.natAbs ∧ WayOk s ∧ ∀ p, a.getLast? = some p → p.2 = und s → r ≠ 0 := by
  have h1 : Pl m (a ++ [(r, s)]) := h.pre (b := b) (by simp)
  obtain ⟨_, k1, k2, k3, k4⟩ := h1.last
  exact ⟨k1, k2, k3, k4⟩
theorem Pl.b (ok : m.Ok) {ps : Pairs} (h : Pl m ps) : ∀ p ∈ ps, p.1.natAbs ≤ 99 := by
  intro p hp
  obtain ⟨a, b, rfl⟩ := List.append_of_mem hp
  obtain ⟨h1, h2, _⟩ := h.at_
  have := (rule_ne ok p.2).1.2
  omega
theorem prS_app (a b : Pairs) : prS (a ++ b) = prS a ++ prS b := by
  unfold prS
  exact List.map_append
end
/-! ### a plain row settles to itself -/
section
variable {m : Mod}
theorem stl_unp (ok : m.Ok) (x : Int) : ∀ {ps qs : Pairs}, Pl m (qs ++ ps) → stl m qs (unp x ps).1 (unp x ps).2 = (qs ++ ps, x)
  | [], qs, _ => by
    show (qs, x) = _
    rw [List.append_nil]
  | (r, s) :: ps, qs, h => by
    obtain ⟨k1, k2, k3, k4⟩ := h.at_
    have n0 := (rule_ne ok s).1.1
    obtain ⟨u1, u2⟩ := rest_uni (x := r) (r := r) (y := 0) n0 (by rw [Int.zero_mul, Int.add_zero]) k1 k2
    show stl m qs r ((s, (unp x ps).1) :: (unp x ps).2) = _
    rw [stl_cons, G_push (fun p hp e z => k4 p hp e (by rw [rest_zero n0, u1] at z; exact z)), u2, u1, Int.zero_mul]
    show stl m (qs ++ [(r, s)]) (0 + (unp x ps).1) (unp x ps).2 = _
    rw [Int.zero_add, stl_unp ok x (by rw [List.append_assoc]; exact h), List.append_assoc]
    rfl
end
end Lw
set_option Elab.async false
set_option linter.all false
set_option maxRecDepth 100000
set_option maxHeartbeats 4000000
set_option autoImplicit false
namespace Lw
open PySem Dv
/-! steps of our own words -/
local macro_rules | `(tactic| walk_at "num") => `(tactic| first | assumption | decide | omega)
local macro_rules | `(tactic| walk_at "dv0") => `(tactic| with_reducible first
  | refine v_seq ?_ | refine v_ifS ?_ | refine v_set ?_ | refine v_ret ?_ | refine v_asg ?_ | refine v_par ?_ | refine v_drop ?_ | refine v_nx ?_ | refine v_bk ?_ | refine v_ct ?_ | refine v_retN ?_ | refine v_for ?_
  | refine v_c ?_ | refine v_nil ?_ | refine v_cons ?_ | refine v_op ?_ | refine v_B ?_ | refine v_truth ?_ | refine v_andT ?_ | refine v_orT ?_ | refine v_notT ?_
  | refine v_andV ?_ | refine v_orV ?_ | refine v_notV ?_ | refine v_if ?_ | refine v_neg ?_ | refine v_chain ?_ | refine v_tup ?_ | refine v_lst ?_ | refine v_lstR ?_ | refine v_noPart ?_ | refine v_part ?_ | refine v_sl ?_
  | refine v_CB ?_ | refine v_call ?_ | refine v_abs ?_ | refine v_lc ?_ | refine v_yes ?_ | refine v_it ?_ | refine v_rng1 ?_ | refine v_rng2 ?_ | refine v_rng3 ?_ | refine v_T ?_ | refine v_F ?_
  | refine v_add ?_ | refine v_sub ?_ | refine v_iadd ?_ | refine v_lt ?_ | refine v_le ?_ | refine v_gt ?_ | refine v_ge ?_ | refine v_eqI ?_ | refine v_neI ?_ | refine v_eqB ?_ | refine v_neB ?_)
local macro_rules | `(tactic| walk_at "dv1") => `(tactic| first
  | (with_reducible refine' v_var ?h ?_); (case h => rfl)
  | (with_reducible refine' v_aug ?h ?_); (case h => rfl)
  | (with_reducible refine' v_div ?h1 ?h2 ?_); (case h1 => walk_at "num"); (case h2 => walk_at "num")
  | (with_reducible refine' v_mod ?h1 ?_); (case h1 => walk_at "num")
  | (with_reducible refine' v_pow ?h1 ?_); (case h1 => walk_at "num")
  | (with_reducible refine' v_mulR ?h1 ?_); (case h1 => walk_at "num")
  | (with_reducible refine' v_mulL ?h1 ?_); (case h1 => walk_at "num")
  | (with_reducible refine' v_fin ?h1 ?_); (case h1 => first | exact Or.inl rfl | exact Or.inr rfl | (refine Or.inr ?_; simp only [List.length_set, *]; done))
  | (with_reducible refine' v_ix ?h1 ?_); (case h1 => first | exact ixD_ref (by assumption) (by rfl) | rfl)
  | (with_reducible refine' v_len ?h1 ?_); (case h1 => first | exact lenD_ref (by assumption) | rfl)
  | (with_reducible refine' v_list ?h1 ?_); (case h1 => rfl)
  | (with_reducible refine' v_listR ?h1 ?_); (case h1 => rfl)
  | (with_reducible refine' v_tuple ?h1 ?_); (case h1 => rfl)
  | (with_reducible refine' v_isd ?h1 ?_); (case h1 => rfl)
  | (with_reducible refine' v_isiTy ?h1 ?h2 ?_); (case h1 => rfl); (case h2 => rfl)
  | (with_reducible refine' v_isiT ?h1 ?_); (case h1 => rfl))
local macro_rules | `(tactic| walk_at "dv2") => `(tactic| first
  | refine v_gsub (by rfl) (by rfl) (by assumption) (by rfl) (fun _ _ _ => ?_) | refine ⟨_, rfl, ?_⟩ | (with_reducible refine' ⟨rng_ok ?h1 ?h2, ?_⟩); (case h1 => omega); (case h2 => omega) | refine ⟨rfl, ?_⟩ | refine ⟨_, _, rfl, ?_⟩ | refine ⟨Nat.le_of_ble_eq_true rfl, ?_⟩)
local macro_rules | `(tactic| walk_at "dv3") => `(tactic| first
  | (with_reducible refine' v_dec (fun _ => ?_) (fun hn => absurd ?h hn)); (case h => first | assumption | omega | decide)
  | (with_reducible refine' v_dec (fun hn => absurd hn ?h) (fun _ => ?_)); (case h => first | assumption | omega | decide)
  | (with_reducible refine' v_ndec (fun _ => ?_) (fun hn => absurd hn ?h)); (case h => first | assumption | omega | decide)
  | (with_reducible refine' v_ndec (fun hn => absurd ?h hn) (fun _ => ?_)); (case h => first | assumption | omega | decide)
  | (with_reducible refine' v_bT ?h ?_); (case h => first | assumption | rfl)
  | (with_reducible refine' v_bF ?h ?_); (case h => first | assumption | rfl))
local macro_rules | `(tactic| walk_at "dv4") => `(tactic| with_reducible first
  | refine v_places ?_ | refine v_roads ?_ | refine v_over ?_ | refine v_line ?_ | refine v_spots ?_ | refine v_myards ?_ | refine v_mroads ?_ | refine v_mW (by decide +kernel) ?_ | refine v_mK (by decide +kernel) ?_
  | refine v_itX ?_ | refine v_ev ?_ | refine v_rev ?_ | refine v_zs ?_ | refine v_enum ?_ | refine v_enum2 ?_ | refine v_makeV ?_ | refine v_tryN ?_ | refine v_lc2 ?_ | refine v_fz ?_ | refine v_make ?_ | refine v_fldS ?_)
local macro_rules | `(tactic| walk_at "dv5") => `(tactic| first
  | refine ⟨_, _, rfl, rfl, ?_⟩ | refine ⟨⟨_, _, rfl⟩, ?_⟩ | refine ⟨⟨_, _, _, rfl⟩, ?_⟩ | refine ⟨_, _, _, rfl, ?_⟩ | refine Or.inl ⟨_, rfl, ?_⟩ | refine Or.inr ⟨_, (fun _ z => by cases z), rfl, ?_⟩)
local macro_rules | `(tactic| walk_at "dv") => `(tactic| repeat (first | walk_at "dv0" | walk_at "dv4" | walk_at "dv1" | walk_at "dv3" | walk_at "dv2" | walk_at "dv5"))
/-! ### places as lists: how far, which ways -/
/-! ### far, way -/
section
variable {m : Mod} {S : Store}
/-- a place of the tree from y -/
structure Plc (m : Mod) (y : Str) (a : Pairs) : Prop where
  pl : Pl m a
  way : ∃ z, Path m y (prS a) z
theorem Plc.str {y : Str} {a : Pairs} (h : Plc m y a) (ok : m.Ok) : ∀ p ∈ a, PyData.strOk p.2.1 = true := fun p hp => by
  obtain ⟨z, hz⟩ := h.way
  exact hz.str ok (p.2, 0) (List.mem_map_of_mem hp)
theorem Plc.take {y : Str} {a : Pairs} (h : Plc m y a) (k : Nat) : Plc m y (a.take k) := by
  refine ⟨h.pl.pre (b := a.drop k) (List.take_append_drop k a).symm, ?_⟩
  obtain ⟨z, hz⟩ := h.way
  rw [← List.take_append_drop k a, prS_app] at hz
  obtain ⟨w, h1, _⟩ := hz.split
  exact ⟨w, h1⟩
end
end Lw
set_option Elab.async false
set_option linter.all false
set_option maxRecDepth 100000
set_option maxHeartbeats 4000000
set_option autoImplicit false
namespace Lw
open PySem Dv
/-! steps of our own words -/
local macro_rules | `(tactic| walk_at "num") => `(tactic| first | assumption | decide | omega)
local macro_rules | `(tactic| walk_at "dv0") => `(tactic| with_reducible first
  | refine v_seq ?_ | refine v_ifS ?_ | refine v_set ?_ | refine v_ret ?_ | refine v_asg ?_ | refine v_par ?_ | refine v_drop ?_ | refine v_nx ?_ | refine v_bk ?_ | refine v_ct ?_ | refine v_retN ?_ | refine v_for ?_
  | refine v_c ?_ | refine v_nil ?_ | refine v_cons ?_ | refine v_op ?_ | refine v_B ?_ | refine v_truth ?_ | refine v_andT ?_ | refine v_orT ?_ | refine v_notT ?_
  | refine v_andV ?_ | refine v_orV ?_ | refine v_notV ?_ | refine v_if ?_ | refine v_neg ?_ | refine v_chain ?_ | refine v_tup ?_ | refine v_lst ?_ | refine v_lstR ?_ | refine v_noPart ?_ | refine v_part ?_ | refine v_sl ?_
  | refine v_CB ?_ | refine v_call ?_ | refine v_abs ?_ | refine v_lc ?_ | refine v_yes ?_ | refine v_it ?_ | refine v_rng1 ?_ | refine v_rng2 ?_ | refine v_rng3 ?_ | refine v_T ?_ | refine v_F ?_
  | refine v_add ?_ | refine v_sub ?_ | refine v_iadd ?_ | refine v_lt ?_ | refine v_le ?_ | refine v_gt ?_ | refine v_ge ?_ | refine v_eqI ?_ | refine v_neI ?_ | refine v_eqB ?_ | refine v_neB ?_)
local macro_rules | `(tactic| walk_at "dv1") => `(tactic| first
  | (with_reducible refine' v_var ?h ?_); (case h => rfl)
  | (with_reducible refine' v_aug ?h ?_); (case h => rfl)
  | (with_reducible refine' v_div ?h1 ?h2 ?_); (case h1 => walk_at "num"); (case h2 => walk_at "num")
  | (with_reducible refine' v_mod ?h1 ?_); (case h1 => walk_at "num")
  | (with_reducible refine' v_pow ?h1 ?_); (case h1 => walk_at "num")
  | (with_reducible refine' v_mulR ?h1 ?_); (case h1 => walk_at "num")
  | (with_reducible refine' v_mulL ?h1 ?_); (case h1 => walk_at "num")
  | (with_reducible refine' v_fin ?h1 ?_); (case h1 => first | exact Or.inl rfl | exact Or.inr rfl | (refine Or.inr ?_; simp only [List.length_set, *]; done))
  | (with_reducible refine' v_ix ?h1 ?_); (case h1 => first | exact ixD_ref (by assumption) (by rfl) | rfl)
  | (with_reducible refine' v_len ?h1 ?_); (case h1 => first | exact lenD_ref (by assumption) | rfl)
  | (with_reducible refine' v_list ?h1 ?_); (case h1 => rfl)
  | (with_reducible refine' v_listR ?h1 ?_); (case h1 => rfl)
  | (with_reducible refine' v_tuple ?h1 ?_); (case h1 => rfl)
  | (with_reducible refine' v_isd ?h1 ?_); (case h1 => rfl)
  | (with_reducible refine' v_isiTy ?h1 ?h2 ?_); (case h1 => rfl); (case h2 => rfl)
  | (with_reducible refine' v_isiT ?h1 ?_); (case h1 => rfl))
local macro_rules | `(tactic| walk_at "dv2") => `(tactic| first
  | refine v_gsub (by rfl) (by rfl) (by assumption) (by rfl) (fun _ _ _ => ?_) | refine ⟨_, rfl, ?_⟩ | (with_reducible refine' ⟨rng_ok ?h1 ?h2, ?_⟩); (case h1 => omega); (case h2 => omega) | refine ⟨rfl, ?_⟩ | refine ⟨_, _, rfl, ?_⟩ | refine ⟨Nat.le_of_ble_eq_true rfl, ?_⟩)
local macro_rules | `(tactic| walk_at "dv3") => `(tactic| first
  | (with_reducible refine' v_dec (fun _ => ?_) (fun hn => absurd ?h hn)); (case h => first | assumption | omega | decide)
  | (with_reducible refine' v_dec (fun hn => absurd hn ?h) (fun _ => ?_)); (case h => first | assumption | omega | decide)
  | (with_reducible refine' v_ndec (fun _ => ?_) (fun hn => absurd hn ?h)); (case h => first | assumption | omega | decide)
  | (with_reducible refine' v_ndec (fun hn => absurd ?h hn) (fun _ => ?_)); (case h => first | assumption | omega | decide)
  | (with_reducible refine' v_bT ?h ?_); (case h => first | assumption | rfl)
  | (with_reducible refine' v_bF ?h ?_); (case h => first | assumption | rfl))
local macro_rules | `(tactic| walk_at "dv4") => `(tactic| with_reducible first
  | refine v_places ?_ | refine v_roads ?_ | refine v_over ?_ | refine v_line ?_ | refine v_spots ?_ | refine v_myards ?_ | refine v_mroads ?_ | refine v_mW (by decide +kernel) ?_ | refine v_mK (by decide +kernel) ?_
  | refine v_itX ?_ | refine v_ev ?_ | refine v_rev ?_ | refine v_zs ?_ | refine v_enum ?_ | refine v_enum2 ?_ | refine v_makeV ?_ | refine v_tryN ?_ | refine v_lc2 ?_ | refine v_fz ?_ | refine v_make ?_ | refine v_fldS ?_)
local macro_rules | `(tactic| walk_at "dv5") => `(tactic| first
  | refine ⟨_, _, rfl, rfl, ?_⟩ | refine ⟨⟨_, _, rfl⟩, ?_⟩ | refine ⟨⟨_, _, _, rfl⟩, ?_⟩ | refine ⟨_, _, _, rfl, ?_⟩ | refine Or.inl ⟨_, rfl, ?_⟩ | refine Or.inr ⟨_, (fun _ z => by cases z), rfl, ?_⟩)
local macro_rules | `(tactic| walk_at "dv") => `(tactic| repeat (first | walk_at "dv0" | walk_at "dv4" | walk_at "dv1" | walk_at "dv3" | walk_at "dv2" | walk_at "dv5"))
/-! ### walks move the tree -/
section
variable {m : Mod}
/-- the pairs, one behind another, from a state -/
def runP (m : Mod) (st : Pairs × Int) : Pairs → Pairs × Int
  | [] => st
  | (r, s) :: a => runP m (G m s st.1 (st.2 + r)) a
theorem runP_app (a b : Pairs) : ∀ st : Pairs × Int, runP m st (a ++ b) = runP m (runP m st a) b := by
  induction a with
  | nil => exact fun _ => rfl
  | cons p a ih =>
    intro st
    exact ih _
theorem stl_run (v : Int) : ∀ (a : Pairs) (st : Pairs × Int), stl m st.1 (st.2 + (unp v a).1) (unp v a).2 = ((runP m st a).1, (runP m st a).2 + v)
  | [], st => rfl
  | (r, s) :: a, st => by
    have ih := stl_run v a (G m s st.1 (st.2 + r))
    show stl m st.1 (st.2 + r) ((s, (unp v a).1) :: (unp v a).2) = _
    rw [stl_cons]
    exact ih
def PlA (m : Mod) (a : Pairs) : Prop := ∀ p ∈ a, WayOk p.2
theorem Pl.ways {a : Pairs} (h : Pl m a) : PlA m a := by
  intro p hp
  obtain ⟨x, y, rfl⟩ := List.append_of_mem hp
  exact h.at_.2.2.1
theorem runP_pl (ok : m.Ok) : ∀ {a : Pairs} {st : Pairs × Int}, PlA m a → Pl m st.1 → Pl m (runP m st a).1
  | [], _, _, h => h
  | (r, s) :: a, st, hw, h => runP_pl (a := a) (st := G m s st.1 (st.2 + r)) ok (fun p hp => hw p (List.mem_cons_of_mem _ hp)) (G_pl ok (hw (r, s) List.mem_cons_self) h _)
theorem plain_self (ok : m.Ok) (v : Int) {a : Pairs} (h : Pl m a) : runP m ([], 0) a = (a, 0) := by
  have e := stl_run (m := m) 0 a ([], 0)
  rw [show (([] : Pairs), (0 : Int)).2 + (unp 0 a).1 = (unp 0 a).1 by show 0 + _ = _; omega] at e
  have e2 := stl_unp ok 0 (ps := a) (qs := []) h
  rw [show (([] : Pairs), (0 : Int)).1 = [] from rfl, e2] at e
  have h1 := congrArg Prod.fst e
  have h2 := congrArg Prod.snd e
  dsimp only at h1 h2
  exact Prod.ext h1.symm (by show _ = (0 : Int); omega)
/-- a row acts as its plain one -/
theorem nf_act (ok : m.Ok) : ∀ {l : Seg} {t : Int} {P : Pairs} {x : Int}, Ways l → Pl m P → stl m P (x + t) l = ((runP m (P, x) (stl m [] t l).1).1, (runP m (P, x) (stl m [] t l).1).2 + (stl m [] t l).2) := by
  have key : ∀ {s : Step} {A P : Pairs} {x v : Int}, WayOk s → Pl m A → Pl m P → G m s (runP m (P, x) A).1 ((runP m (P, x) A).2 + v) = ((runP m (P, x) (G m s A v).1).1, (runP m (P, x) (G m s A v).1).2 + (G m s A v).2) := by
    intro s A P x v hs hA hP
    rcases G_two (m := m) s A v with ⟨qs, r, rfl, h0⟩ | h0
    · rw [G_pop h0, runP_app]
      have e0 : v.fdiv (ruleOf m s).1 * (ruleOf m s).1 = v := by
        have e := Int.fmod_add_mul_fdiv v (ruleOf m s).1
        rw [h0, Int.zero_add, Int.mul_comm] at e
        exact e
      have hq := runP_pl (st := (P, x)) ok (fun p hp => hA.ways p (List.mem_append_left _ hp)) hP
      generalize runP m (P, x) qs = X at *
      generalize v.fdiv (ruleOf m s).1 = k at *
      show G m s (G m (und s) X.1 (X.2 + r)).1 ((G m (und s) X.1 (X.2 + r)).2 + v) = (X.1, X.2 + (r + k * (ruleOf m s).2))
      rw [← e0, G_add ok]
      have hu := G_inv ok (und_way hs) hq (X.2 + r)
      rw [und_und] at hu
      rw [hu]
      show (X.1, X.2 + r + k * (ruleOf m s).2) = _
      rw [Int.add_assoc]
    · rw [G_push h0, runP_app]
      obtain ⟨k, e1, e2, h1, h2⟩ := fmod_abs (x := v) (rule_ne ok s).1.1
      rw [e2]
      generalize runP m (P, x) A = X at *
      generalize v.fmod (ruleOf m s).1.natAbs = ρ at *
      show G m s X.1 (X.2 + v) = ((G m s X.1 (X.2 + ρ)).1, (G m s X.1 (X.2 + ρ)).2 + k * (ruleOf m s).2)
      rw [e1, ← Int.add_assoc]
      exact G_add ok s X.1 (X.2 + ρ) k
  intro l
  suffices H : ∀ (l : Seg) (A : Pairs) (v : Int) (P : Pairs) (x : Int), Ways l → Pl m A → Pl m P → stl m (runP m (P, x) A).1 ((runP m (P, x) A).2 + v) l = ((runP m (P, x) (stl m A v l).1).1, (runP m (P, x) (stl m A v l).1).2 + (stl m A v l).2) by
    intro t P x hw hP
    exact H l [] t P x hw .nil hP
  intro l
  induction l with
  | nil => exact fun _ _ _ _ _ _ _ => rfl
  | cons p l ih =>
    intro A v P x hw hA hP
    obtain ⟨s, u⟩ := p
    obtain ⟨hs, hw⟩ := Ways.cons.mp hw
    rw [stl_cons, stl_cons, key hs hA hP]
    dsimp only
    rw [Int.add_assoc]
    exact ih _ _ _ _ hw (G_pl ok hs hA v) hP
/-- moved -/
def mvP (m : Mod) (st : Pairs × Int) (a : Pairs) : Pairs := (runP m st a).1
end
/-! ### the law's own joining -/
theorem law_join_ok {S : Store} {t t' : Int} {l l' : Seg} (hl : l.length ≤ 100000) (hl' : l'.length ≤ 100000) : m_law_join [.lst (rowD t l), .lst (rowD t' l')] S = .ok (.lst (rowD (jn t l t' l').1 (jn t l t' l').2)) S := by
  refine Pe.eq (v_fn ?_)
  unfold b_law_join
  walk_at "dv"
  refine v_ix (row_lastT _ _) ?_
  walk_at "dv"
  refine v_ix (ix_zero _ _) ?_
  walk_at "dv"
  dsimp only
  rw [lastT_pre]
  have pl := preD_len t l
  have sl := segD_len l'
  refine v_addL (by rw [pl]; simp; omega) ?_
  walk_at "dv"
  dsimp only
  rw [cut_one]
  refine v_addL (by rw [List.length_append, pl, sl]; simp; omega) ?_
  rw [row_jn]
  walk_at "dv"
  first | exact ⟨rfl, rfl⟩ | exact rfl
end Lw
set_option Elab.async false
set_option linter.all false
set_option maxRecDepth 100000
set_option maxHeartbeats 4000000
set_option autoImplicit false
namespace Lw
open PySem Dv
/-! steps of our own words -/
local macro_rules | `(tactic| walk_at "num") => `(tactic| first | assumption | decide | omega)
local macro_rules | `(tactic| walk_at "dv0") => `(tactic| with_reducible first
  | refine v_seq ?_ | refine v_ifS ?_ | refine v_set ?_ | refine v_ret ?_ | refine v_asg ?_ | refine v_par ?_ | refine v_drop ?_ | refine v_nx ?_ | refine v_bk ?_ | refine v_ct ?_ | refine v_retN ?_ | refine v_for ?_
  | refine v_c ?_ | refine v_nil ?_ | refine v_cons ?_ | refine v_op ?_ | refine v_B ?_ | refine v_truth ?_ | refine v_andT ?_ | refine v_orT ?_ | refine v_notT ?_
  | refine v_andV ?_ | refine v_orV ?_ | refine v_notV ?_ | refine v_if ?_ | refine v_neg ?_ | refine v_chain ?_ | refine v_tup ?_ | refine v_lst ?_ | refine v_lstR ?_ | refine v_noPart ?_ | refine v_part ?_ | refine v_sl ?_
  | refine v_CB ?_ | refine v_call ?_ | refine v_abs ?_ | refine v_lc ?_ | refine v_yes ?_ | refine v_it ?_ | refine v_rng1 ?_ | refine v_rng2 ?_ | refine v_rng3 ?_ | refine v_T ?_ | refine v_F ?_
  | refine v_add ?_ | refine v_sub ?_ | refine v_iadd ?_ | refine v_lt ?_ | refine v_le ?_ | refine v_gt ?_ | refine v_ge ?_ | refine v_eqI ?_ | refine v_neI ?_ | refine v_eqB ?_ | refine v_neB ?_)
local macro_rules | `(tactic| walk_at "dv1") => `(tactic| first
  | (with_reducible refine' v_var ?h ?_); (case h => rfl)
  | (with_reducible refine' v_aug ?h ?_); (case h => rfl)
  | (with_reducible refine' v_div ?h1 ?h2 ?_); (case h1 => walk_at "num"); (case h2 => walk_at "num")
  | (with_reducible refine' v_mod ?h1 ?_); (case h1 => walk_at "num")
  | (with_reducible refine' v_pow ?h1 ?_); (case h1 => walk_at "num")
  | (with_reducible refine' v_mulR ?h1 ?_); (case h1 => walk_at "num")
  | (with_reducible refine' v_mulL ?h1 ?_); (case h1 => walk_at "num")
  | (with_reducible refine' v_fin ?h1 ?_); (case h1 => first | exact Or.inl rfl | exact Or.inr rfl | (refine Or.inr ?_; simp only [List.length_set, *]; done))
  | (with_reducible refine' v_ix ?h1 ?_); (case h1 => first | exact ixD_ref (by assumption) (by rfl) | rfl)
  | (with_reducible refine' v_len ?h1 ?_); (case h1 => first | exact lenD_ref (by assumption) | rfl)
  | (with_reducible refine' v_list ?h1 ?_); (case h1 => rfl)
  | (with_reducible refine' v_listR ?h1 ?_); (case h1 => rfl)
  | (with_reducible refine' v_tuple ?h1 ?_); (case h1 => rfl)
  | (with_reducible refine' v_isd ?h1 ?_); (case h1 => rfl)
  | (with_reducible refine' v_isiTy ?h1 ?h2 ?_); (case h1 => rfl); (case h2 => rfl)
  | (with_reducible refine' v_isiT ?h1 ?_); (case h1 => rfl))
local macro_rules | `(tactic| walk_at "dv2") => `(tactic| first
  | refine v_gsub (by rfl) (by rfl) (by assumption) (by rfl) (fun _ _ _ => ?_) | refine ⟨_, rfl, ?_⟩ | (with_reducible refine' ⟨rng_ok ?h1 ?h2, ?_⟩); (case h1 => omega); (case h2 => omega) | refine ⟨rfl, ?_⟩ | refine ⟨_, _, rfl, ?_⟩ | refine ⟨Nat.le_of_ble_eq_true rfl, ?_⟩)
local macro_rules | `(tactic| walk_at "dv3") => `(tactic| first
  | (with_reducible refine' v_dec (fun _ => ?_) (fun hn => absurd ?h hn)); (case h => first | assumption | omega | decide)
  | (with_reducible refine' v_dec (fun hn => absurd hn ?h) (fun _ => ?_)); (case h => first | assumption | omega | decide)
  | (with_reducible refine' v_ndec (fun _ => ?_) (fun hn => absurd hn ?h)); (case h => first | assumption | omega | decide)
  | (with_reducible refine' v_ndec (fun hn => absurd ?h hn) (fun _ => ?_)); (case h => first | assumption | omega | decide)
  | (with_reducible refine' v_bT ?h ?_); (case h => first | assumption | rfl)
  | (with_reducible refine' v_bF ?h ?_); (case h => first | assumption | rfl))
local macro_rules | `(tactic| walk_at "dv4") => `(tactic| with_reducible first
  | refine v_places ?_ | refine v_roads ?_ | refine v_over ?_ | refine v_line ?_ | refine v_spots ?_ | refine v_myards ?_ | refine v_mroads ?_ | refine v_mW (by decide +kernel) ?_ | refine v_mK (by decide +kernel) ?_
  | refine v_itX ?_ | refine v_ev ?_ | refine v_rev ?_ | refine v_zs ?_ | refine v_enum ?_ | refine v_enum2 ?_ | refine v_makeV ?_ | refine v_tryN ?_ | refine v_lc2 ?_ | refine v_fz ?_ | refine v_make ?_ | refine v_fldS ?_)
local macro_rules | `(tactic| walk_at "dv5") => `(tactic| first
  | refine ⟨_, _, rfl, rfl, ?_⟩ | refine ⟨⟨_, _, rfl⟩, ?_⟩ | refine ⟨⟨_, _, _, rfl⟩, ?_⟩ | refine ⟨_, _, _, rfl, ?_⟩ | refine Or.inl ⟨_, rfl, ?_⟩ | refine Or.inr ⟨_, (fun _ z => by cases z), rfl, ?_⟩)
local macro_rules | `(tactic| walk_at "dv") => `(tactic| repeat (first | walk_at "dv0" | walk_at "dv4" | walk_at "dv1" | walk_at "dv3" | walk_at "dv2" | walk_at "dv5"))
/-! ### what a walk moves -/
end Lw
set_option Elab.async false
set_option linter.all false
set_option maxRecDepth 100000
set_option maxHeartbeats 4000000
set_option autoImplicit false
namespace Lw
open PySem Dv
/-! steps of our own words -/
local macro_rules | `(tactic| walk_at "num") => `(tactic| first | assumption | decide | omega)
local macro_rules | `(tactic| walk_at "dv0") => `(tactic| with_reducible first
  | refine v_seq ?_ | refine v_ifS ?_ | refine v_set ?_ | refine v_ret ?_ | refine v_asg ?_ | refine v_par ?_ | refine v_drop ?_ | refine v_nx ?_ | refine v_bk ?_ | refine v_ct ?_ | refine v_retN ?_ | refine v_for ?_
  | refine v_c ?_ | refine v_nil ?_ | refine v_cons ?_ | refine v_op ?_ | refine v_B ?_ | refine v_truth ?_ | refine v_andT ?_ | refine v_orT ?_ | refine v_notT ?_
  | refine v_andV ?_ | refine v_orV ?_ | refine v_notV ?_ | refine v_if ?_ | refine v_neg ?_ | refine v_chain ?_ | refine v_tup ?_ | refine v_lst ?_ | refine v_lstR ?_ | refine v_noPart ?_ | refine v_part ?_ | refine v_sl ?_
  | refine v_CB ?_ | refine v_call ?_ | refine v_abs ?_ | refine v_lc ?_ | refine v_yes ?_ | refine v_it ?_ | refine v_rng1 ?_ | refine v_rng2 ?_ | refine v_rng3 ?_ | refine v_T ?_ | refine v_F ?_
  | refine v_add ?_ | refine v_sub ?_ | refine v_iadd ?_ | refine v_lt ?_ | refine v_le ?_ | refine v_gt ?_ | refine v_ge ?_ | refine v_eqI ?_ | refine v_neI ?_ | refine v_eqB ?_ | refine v_neB ?_)
local macro_rules | `(tactic| walk_at "dv1") => `(tactic| first
  | (with_reducible refine' v_var ?h ?_); (case h => rfl)
  | (with_reducible refine' v_aug ?h ?_); (case h => rfl)
  | (with_reducible refine' v_div ?h1 ?h2 ?_); (case h1 => walk_at "num"); (case h2 => walk_at "num")
  | (with_reducible refine' v_mod ?h1 ?_); (case h1 => walk_at "num")
  | (with_reducible refine' v_pow ?h1 ?_); (case h1 => walk_at "num")
  | (with_reducible refine' v_mulR ?h1 ?_); (case h1 => walk_at "num")
  | (with_reducible refine' v_mulL ?h1 ?_); (case h1 => walk_at "num")
  | (with_reducible refine' v_fin ?h1 ?_); (case h1 => first | exact Or.inl rfl | exact Or.inr rfl | (refine Or.inr ?_; simp only [List.length_set, *]; done))
  | (with_reducible refine' v_ix ?h1 ?_); (case h1 => first | exact ixD_ref (by assumption) (by rfl) | rfl)
  | (with_reducible refine' v_len ?h1 ?_); (case h1 => first | exact lenD_ref (by assumption) | rfl)
  | (with_reducible refine' v_list ?h1 ?_); (case h1 => rfl)
  | (with_reducible refine' v_listR ?h1 ?_); (case h1 => rfl)
  | (with_reducible refine' v_tuple ?h1 ?_); (case h1 => rfl)
  | (with_reducible refine' v_isd ?h1 ?_); (case h1 => rfl)
  | (with_reducible refine' v_isiTy ?h1 ?h2 ?_); (case h1 => rfl); (case h2 => rfl)
  | (with_reducible refine' v_isiT ?h1 ?_); (case h1 => rfl))
local macro_rules | `(tactic| walk_at "dv2") => `(tactic| first
  | refine v_gsub (by rfl) (by rfl) (by assumption) (by rfl) (fun _ _ _ => ?_) | refine ⟨_, rfl, ?_⟩ | (with_reducible refine' ⟨rng_ok ?h1 ?h2, ?_⟩); (case h1 => omega); (case h2 => omega) | refine ⟨rfl, ?_⟩ | refine ⟨_, _, rfl, ?_⟩ | refine ⟨Nat.le_of_ble_eq_true rfl, ?_⟩)
local macro_rules | `(tactic| walk_at "dv3") => `(tactic| first
  | (with_reducible refine' v_dec (fun _ => ?_) (fun hn => absurd ?h hn)); (case h => first | assumption | omega | decide)
  | (with_reducible refine' v_dec (fun hn => absurd hn ?h) (fun _ => ?_)); (case h => first | assumption | omega | decide)
  | (with_reducible refine' v_ndec (fun _ => ?_) (fun hn => absurd hn ?h)); (case h => first | assumption | omega | decide)
  | (with_reducible refine' v_ndec (fun hn => absurd ?h hn) (fun _ => ?_)); (case h => first | assumption | omega | decide)
  | (with_reducible refine' v_bT ?h ?_); (case h => first | assumption | rfl)
  | (with_reducible refine' v_bF ?h ?_); (case h => first | assumption | rfl))
local macro_rules | `(tactic| walk_at "dv4") => `(tactic| with_reducible first
  | refine v_places ?_ | refine v_roads ?_ | refine v_over ?_ | refine v_line ?_ | refine v_spots ?_ | refine v_myards ?_ | refine v_mroads ?_ | refine v_mW (by decide +kernel) ?_ | refine v_mK (by decide +kernel) ?_
  | refine v_itX ?_ | refine v_ev ?_ | refine v_rev ?_ | refine v_zs ?_ | refine v_enum ?_ | refine v_enum2 ?_ | refine v_makeV ?_ | refine v_tryN ?_ | refine v_lc2 ?_ | refine v_fz ?_ | refine v_make ?_ | refine v_fldS ?_)
local macro_rules | `(tactic| walk_at "dv5") => `(tactic| first
  | refine ⟨_, _, rfl, rfl, ?_⟩ | refine ⟨⟨_, _, rfl⟩, ?_⟩ | refine ⟨⟨_, _, _, rfl⟩, ?_⟩ | refine ⟨_, _, _, rfl, ?_⟩ | refine Or.inl ⟨_, rfl, ?_⟩ | refine Or.inr ⟨_, (fun _ z => by cases z), rfl, ?_⟩)
local macro_rules | `(tactic| walk_at "dv") => `(tactic| repeat (first | walk_at "dv0" | walk_at "dv4" | walk_at "dv1" | walk_at "dv3" | walk_at "dv2" | walk_at "dv5"))
/-! ### what is asked of a walk -/
theorem bk_app (t : Int) (l : Seg) (s : Step) (u : Int) : bk t (l ++ [(s, u)]) = (0 - u, (und s, (bk t l).1) :: (bk t l).2) := by
  induction l generalizing t with
  | nil => rfl
  | cons p l ih =>
    obtain ⟨s', u'⟩ := p
    show ((bk u' (l ++ [(s, u)])).1, (bk u' (l ++ [(s, u)])).2 ++ [(und s', 0 - t)]) = _
    rw [ih]
    rfl
theorem bk_bk : ∀ (l : Seg) (t : Int), bk (bk t l).1 (bk t l).2 = (t, l)
  | [], t => by
    show ((0 - (0 - t) : Int), ([] : Seg)) = (t, [])
    rw [show (0 - (0 - t) : Int) = t by omega]
  | (s, u) :: l, t => by
    have ih := bk_bk l u
    show bk (bk u l).1 ((bk u l).2 ++ [(und s, 0 - t)]) = _
    rw [bk_app, ih, und_und, show (0 - (0 - t) : Int) = t by omega]
section
variable {m m' : Mod} {S : Store}
theorem law_back_ok {t : Int} {l : Seg} (hl : l.length ≤ 100000) : m_law_back [.lst (rowD t l)] S = .ok (.lst (rowD (bk t l).1 (bk t l).2)) S := by
  refine Pe.eq (v_fn ?_)
  unfold b_law_back
  walk_at "dv"
  refine v_cloop gBack (fun d hd => ?_) ?_ ?_
  · have hd : d ∈ rowD t l := List.mem_reverse.mp hd
    have two : (∃ i, d = .int i) ∨ ∃ s : Step, d = stD s := by
      rcases List.mem_cons.mp hd with z | z
      · exact .inl ⟨_, z⟩
      · obtain ⟨p, _, hp⟩ := List.mem_flatMap.mp z
        rcases List.mem_cons.mp hp with z | z
        · exact .inr ⟨_, z⟩
        · exact .inl ⟨_, List.mem_singleton.mp z⟩
    refine ⟨_, rfl, ?_⟩
    rcases two with ⟨i, rfl⟩ | ⟨s, rfl⟩
    · walk_at "dv"
      first | exact ⟨rfl, rfl⟩ | exact rfl
    · walk_at "dv"
      refine Pe.of law_undone_ok ?_
      first | exact ⟨rfl, rfl⟩ | exact rfl
  · rw [List.length_reverse, row_len]
    simp
    omega
  · rw [List.nil_append, back_rows]
    walk_at "dv"
    first | exact ⟨rfl, rfl⟩ | exact rfl
end
/-! ### rows as they move places: products, powers, the way to the line -/
section
variable {m : Mod}
def act (m : Mod) (st e : Pairs × Int) : Pairs × Int := ((runP m st e.1).1, (runP m st e.1).2 + e.2)
theorem act_row (st e : Pairs × Int) : stl m st.1 (st.2 + (unp e.2 e.1).1) (unp e.2 e.1).2 = act m st e := stl_run e.2 e.1 st
theorem setT_ways {v : Int} : ∀ {l : Seg} {t : Int}, Ways l → Ways (setT t l v).2
  | [], _, h => h
  | (s, u) :: l, t, h => by
    obtain ⟨h1, h2⟩ := Ways.cons.mp h
    exact Ways.cons.mpr ⟨h1, setT_ways (t := u) h2⟩
theorem bk_ways : ∀ {l : Seg} (t : Int), Ways l → Ways (bk t l).2
  | [], _, h => h
  | (s, u) :: l, t, h => by
    obtain ⟨h1, h2⟩ := Ways.cons.mp h
    exact Ways.app.mpr ⟨bk_ways u h2, Ways.cons.mpr ⟨und_way h1, fun p hp => (List.not_mem_nil hp).elim⟩⟩
theorem unp_ways {v : Int} : ∀ {a : Pairs}, PlA m a → Ways (unp v a).2
  | [], _ => fun p hp => (List.not_mem_nil hp).elim
  | (r, s) :: a, h => Ways.cons.mpr ⟨h (r, s) List.mem_cons_self, unp_ways fun p hp => h p (List.mem_cons_of_mem _ hp)⟩
theorem act_pl (ok : m.Ok) {st e : Pairs × Int} (hs : Pl m st.1) (he : Pl m e.1) : Pl m (act m st e).1 := runP_pl ok he.ways hs
theorem act_one (ok : m.Ok) {e : Pairs × Int} (he : Pl m e.1) : act m ([], 0) e = e := by
  unfold act
  rw [plain_self ok 0 he]
  show (e.1, 0 + e.2) = e
  rw [Int.zero_add]
theorem act_assoc (ok : m.Ok) {st e f : Pairs × Int} (hs : Pl m st.1) (he : Pl m e.1) (hf : Pl m f.1) : act m (act m st e) f = act m st (act m e f) := by
  have j1 := stl_jn (m := m) st.1 st.2 (unp e.2 e.1).1 (unp f.2 f.1).1 (unp e.2 e.1).2 (unp f.2 f.1).2
  have j2 := stl_jn (m := m) [] 0 (unp e.2 e.1).1 (unp f.2 f.1).1 (unp e.2 e.1).2 (unp f.2 f.1).2
  rw [act_row st e, act_row (act m st e) f] at j1
  have r1 := act_row (m := m) ([], 0) e
  have r1 : stl m [] (0 + (unp e.2 e.1).1) (unp e.2 e.1).2 = act m ([], 0) e := r1
  rw [r1, act_one ok he, act_row e f, Int.zero_add] at j2
  have hj : Ways (jn (unp e.2 e.1).1 (unp e.2 e.1).2 (unp f.2 f.1).1 (unp f.2 f.1).2).2 := by
    have he2 : Ways (unp e.2 e.1).2 := unp_ways he.ways
    have hf2 : Ways (unp f.2 f.1).2 := unp_ways hf.ways
    refine Ways.app.mpr ⟨?_, hf2⟩
    exact setT_ways he2
  have n := nf_act ok (t := (jn (unp e.2 e.1).1 (unp e.2 e.1).2 (unp f.2 f.1).1 (unp f.2 f.1).2).1) (x := st.2) hj hs
  rw [j2] at n
  exact j1.symm.trans n
theorem mv_act (ok : m.Ok) {e f : Pairs × Int} {P : Pairs} (he : Pl m e.1) (hf : Pl m f.1) (hP : Pl m P) : mvP m (act m e f) P = mvP m e (mvP m f P) := by
  have h := congrArg Prod.fst (act_assoc ok (st := e) (e := f) (f := (P, 0)) he hf hP)
  exact h
theorem mv_pl (ok : m.Ok) {e : Pairs × Int} {P : Pairs} (he : Pl m e.1) (hP : Pl m P) : Pl m (mvP m e P) := runP_pl ok hP.ways he
theorem stl_self (ok : m.Ok) {e : Pairs × Int} (he : Pl m e.1) : stl m [] (unp e.2 e.1).1 (unp e.2 e.1).2 = e := by
  have h := stl_unp ok e.2 (ps := e.1) (qs := []) he
  exact h
/-! powers -/
/-- seen from its line -/
structure Cyc (m : Mod) (r : Int) (s : Step) (rest : Pairs) (x : Int) : Prop where
  pl : Pl m ((r, s) :: rest)
  no : ∀ p, rest.getLast? = some p → p.2 = und s → (x + r).fmod (ruleOf m s).1 ≠ 0
def pw (m : Mod) (h : Pairs × Int) : Nat → Pairs × Int
  | 0 => ([], 0)
  | n + 1 => act m (pw m h n) h
end
/-! ### the way to the line, cut off -/
section
variable {m : Mod}
theorem Pl.tail_ {a b : Pairs} (h : Pl m (a ++ b)) : Pl m b := by
  generalize e : a ++ b = qs at h
  induction h generalizing b with
  | nil =>
    rw [(List.append_eq_nil_iff.mp e).2]
    exact .nil
  | @push ps r s h1 h2 h3 h4 h5 ih =>
    rcases List.eq_nil_or_concat b with rfl | ⟨b', p, rfl⟩
    · exact .nil
    · rw [List.concat_eq_append, ← List.append_assoc] at e
      obtain ⟨e1, e2⟩ := List.append_inj' e rfl
      have ep : p = (r, s) := (List.cons.inj e2).1
      subst ep
      rw [List.concat_eq_append]
      refine .push (ih e1) h2 h3 h4 fun q hq eq => h5 q ?_ eq
      rw [← e1, List.getLast?_append, hq]
      rfl
/-- seen from a place: w is g before h -/
def Seen (m : Mod) (w h : Pairs × Int) (g : Pairs) : Prop := ∀ P, Pl m P → mvP m w (mvP m (g, 0) P) = mvP m (g, 0) (mvP m h P)
theorem pre_act (ok : m.Ok) {g b : Pairs} {x : Int} (h : Pl m (g ++ b)) : act m (g, 0) (b, x) = (g ++ b, x) := by
  have e := plain_self ok 0 h
  rw [runP_app, plain_self ok 0 (h.pre rfl)] at e
  unfold act
  rw [e]
  show (g ++ b, 0 + x) = _
  rw [Int.zero_add]
theorem seen_one (ok : m.Ok) {r rL x : Int} {s : Step} {mid : Pairs} (h : Pl m ((r, s) :: (mid ++ [(rL, und s)]))) (h0 : (x + r).fmod (ruleOf m s).1 = 0) :
    Seen m ((r, s) :: (mid ++ [(rL, und s)]), x) (mid, rL + (x + r).fdiv (ruleOf m s).1 * (ruleOf m s).2) [(r, s)] := by
  intro P hP
  have h1 : Pl m ((r, s) :: mid) := h.pre (a := (r, s) :: mid) (b := [(rL, und s)]) rfl
  have hg : Pl m [(r, s)] := h1.pre (a := [(r, s)]) (b := mid) rfl
  have hm : Pl m mid := Pl.tail_ (a := [(r, s)]) h1
  have e1 : act m ((r, s) :: (mid ++ [(rL, und s)]), x) ([(r, s)], 0) = ((r, s) :: mid, rL + (x + r).fdiv (ruleOf m s).1 * (ruleOf m s).2) := by
    show ((G m s ((r, s) :: (mid ++ [(rL, und s)])) (x + r)).1, (G m s ((r, s) :: (mid ++ [(rL, und s)])) (x + r)).2 + 0) = _
    have e : (r, s) :: (mid ++ [(rL, und s)]) = ((r, s) :: mid) ++ [(rL, und s)] := rfl
    rw [e, G_pop h0, Int.add_zero]
  have e2 : act m ([(r, s)], 0) (mid, rL + (x + r).fdiv (ruleOf m s).1 * (ruleOf m s).2) = ((r, s) :: mid, rL + (x + r).fdiv (ruleOf m s).1 * (ruleOf m s).2) := pre_act ok (g := [(r, s)]) h1
  rw [← mv_act ok (e := ((r, s) :: (mid ++ [(rL, und s)]), x)) (f := ([(r, s)], 0)) h hg hP, e1, ← e2, mv_act ok (e := ([(r, s)], 0)) (f := (mid, rL + (x + r).fdiv (ruleOf m s).1 * (ruleOf m s).2)) hg hm hP]
/-- exactly so -/
def SeenE (m : Mod) (w h : Pairs × Int) (g : Pairs) : Prop := act m w (g, 0) = act m (g, 0) h
theorem seen_oneE (ok : m.Ok) {r rL x : Int} {s : Step} {mid : Pairs} (h : Pl m ((r, s) :: (mid ++ [(rL, und s)]))) (h0 : (x + r).fmod (ruleOf m s).1 = 0) :
    SeenE m ((r, s) :: (mid ++ [(rL, und s)]), x) (mid, rL + (x + r).fdiv (ruleOf m s).1 * (ruleOf m s).2) [(r, s)] := by
  have h1 : Pl m ((r, s) :: mid) := h.pre (a := (r, s) :: mid) (b := [(rL, und s)]) rfl
  have e1 : act m ((r, s) :: (mid ++ [(rL, und s)]), x) ([(r, s)], 0) = ((r, s) :: mid, rL + (x + r).fdiv (ruleOf m s).1 * (ruleOf m s).2) := by
    show ((G m s ((r, s) :: (mid ++ [(rL, und s)])) (x + r)).1, (G m s ((r, s) :: (mid ++ [(rL, und s)])) (x + r)).2 + 0) = _
    have e : (r, s) :: (mid ++ [(rL, und s)]) = ((r, s) :: mid) ++ [(rL, und s)] := rfl
    rw [e, G_pop h0, Int.add_zero]
  have e2 : act m ([(r, s)], 0) (mid, rL + (x + r).fdiv (ruleOf m s).1 * (ruleOf m s).2) = ((r, s) :: mid, rL + (x + r).fdiv (ruleOf m s).1 * (ruleOf m s).2) := pre_act ok (g := [(r, s)]) h1
  exact e1.trans e2.symm
theorem SeenE.step (ok : m.Ok) {w h h' : Pairs × Int} {g : Pairs} {p : Int × Step} (a : SeenE m w h g) (b : SeenE m h h' [p]) (hw : Pl m w.1) (hg : Pl m (g ++ [p])) (hh : Pl m h.1) (hh' : Pl m h'.1) : SeenE m w h' (g ++ [p]) := by
  have h1 : Pl m g := hg.pre rfl
  have h2 : Pl m [p] := Pl.tail_ hg
  have e : act m (g, 0) ([p], 0) = (g ++ [p], 0) := pre_act ok hg
  have a : act m w (g, 0) = act m (g, 0) h := a
  have b : act m h ([p], 0) = act m ([p], 0) h' := b
  show act m w (g ++ [p], 0) = act m (g ++ [p], 0) h'
  rw [← e, ← act_assoc ok (e := (g, 0)) (f := ([p], 0)) hw h1 h2, a, act_assoc ok (st := (g, 0)) (f := ([p], 0)) h1 hh h2, b, ← act_assoc ok (st := (g, 0)) (e := ([p], 0)) h1 h2 hh']
theorem Seen.step (ok : m.Ok) {w h h' : Pairs × Int} {g : Pairs} {p : Int × Step} (a : Seen m w h g) (b : Seen m h h' [p]) (hg : Pl m (g ++ [p])) (hh : Pl m h'.1) : Seen m w h' (g ++ [p]) := by
  intro P hP
  have h1 : Pl m g := hg.pre rfl
  have h2 : Pl m [p] := Pl.tail_ hg
  have e : act m (g, 0) ([p], 0) = (g ++ [p], 0) := pre_act ok hg
  rw [← e, mv_act ok h1 h2 hP, a _ (mv_pl ok h2 hP), b P hP, ← mv_act ok h1 h2 (mv_pl ok hh hP)]
/-- what cutting comes to: the way there, what is left -/
structure Cut (m : Mod) (w : Pairs × Int) (g : Pairs) (h : Pairs × Int) : Prop where
  plg : Pl m g
  plh : Pl m h.1
  seen : Seen m w h g
  ex : SeenE m w h g
  len : w.1.length = 2 * g.length + h.1.length
  end_ : h.1 = [] ∨ ∃ r s rest, h.1 = (r, s) :: rest ∧ Cyc m r s rest h.2
  sub : ∀ p ∈ h.1, p ∈ w.1
  pre : ∃ b, w.1 = g ++ b
  all : ∃ tl, w.1 = g ++ h.1 ++ tl ∧ tl.length = g.length
end
end Lw
set_option Elab.async false
set_option linter.all false
set_option maxRecDepth 100000
set_option maxHeartbeats 4000000
set_option autoImplicit false
namespace Lw
open PySem Dv
/-! steps of our own words -/
local macro_rules | `(tactic| walk_at "num") => `(tactic| first | assumption | decide | omega)
local macro_rules | `(tactic| walk_at "dv0") => `(tactic| with_reducible first
  | refine v_seq ?_ | refine v_ifS ?_ | refine v_set ?_ | refine v_ret ?_ | refine v_asg ?_ | refine v_par ?_ | refine v_drop ?_ | refine v_nx ?_ | refine v_bk ?_ | refine v_ct ?_ | refine v_retN ?_ | refine v_for ?_
  | refine v_c ?_ | refine v_nil ?_ | refine v_cons ?_ | refine v_op ?_ | refine v_B ?_ | refine v_truth ?_ | refine v_andT ?_ | refine v_orT ?_ | refine v_notT ?_
  | refine v_andV ?_ | refine v_orV ?_ | refine v_notV ?_ | refine v_if ?_ | refine v_neg ?_ | refine v_chain ?_ | refine v_tup ?_ | refine v_lst ?_ | refine v_lstR ?_ | refine v_noPart ?_ | refine v_part ?_ | refine v_sl ?_
  | refine v_CB ?_ | refine v_call ?_ | refine v_abs ?_ | refine v_lc ?_ | refine v_yes ?_ | refine v_it ?_ | refine v_rng1 ?_ | refine v_rng2 ?_ | refine v_rng3 ?_ | refine v_T ?_ | refine v_F ?_
  | refine v_add ?_ | refine v_sub ?_ | refine v_iadd ?_ | refine v_lt ?_ | refine v_le ?_ | refine v_gt ?_ | refine v_ge ?_ | refine v_eqI ?_ | refine v_neI ?_ | refine v_eqB ?_ | refine v_neB ?_)
local macro_rules | `(tactic| walk_at "dv1") => `(tactic| first
  | (with_reducible refine' v_var ?h ?_); (case h => rfl)
  | (with_reducible refine' v_aug ?h ?_); (case h => rfl)
  | (with_reducible refine' v_div ?h1 ?h2 ?_); (case h1 => walk_at "num"); (case h2 => walk_at "num")
  | (with_reducible refine' v_mod ?h1 ?_); (case h1 => walk_at "num")
  | (with_reducible refine' v_pow ?h1 ?_); (case h1 => walk_at "num")
  | (with_reducible refine' v_mulR ?h1 ?_); (case h1 => walk_at "num")
  | (with_reducible refine' v_mulL ?h1 ?_); (case h1 => walk_at "num")
  | (with_reducible refine' v_fin ?h1 ?_); (case h1 => first | exact Or.inl rfl | exact Or.inr rfl | (refine Or.inr ?_; simp only [List.length_set, *]; done))
  | (with_reducible refine' v_ix ?h1 ?_); (case h1 => first | exact ixD_ref (by assumption) (by rfl) | rfl)
  | (with_reducible refine' v_len ?h1 ?_); (case h1 => first | exact lenD_ref (by assumption) | rfl)
  | (with_reducible refine' v_list ?h1 ?_); (case h1 => rfl)
  | (with_reducible refine' v_listR ?h1 ?_); (case h1 => rfl)
  | (with_reducible refine' v_tuple ?h1 ?_); (case h1 => rfl)
  | (with_reducible refine' v_isd ?h1 ?_); (case h1 => rfl)
  | (with_reducible refine' v_isiTy ?h1 ?h2 ?_); (case h1 => rfl); (case h2 => rfl)
  | (with_reducible refine' v_isiT ?h1 ?_); (case h1 => rfl))
local macro_rules | `(tactic| walk_at "dv2") => `(tactic| first
  | refine v_gsub (by rfl) (by rfl) (by assumption) (by rfl) (fun _ _ _ => ?_) | refine ⟨_, rfl, ?_⟩ | (with_reducible refine' ⟨rng_ok ?h1 ?h2, ?_⟩); (case h1 => omega); (case h2 => omega) | refine ⟨rfl, ?_⟩ | refine ⟨_, _, rfl, ?_⟩ | refine ⟨Nat.le_of_ble_eq_true rfl, ?_⟩)
local macro_rules | `(tactic| walk_at "dv3") => `(tactic| first
  | (with_reducible refine' v_dec (fun _ => ?_) (fun hn => absurd ?h hn)); (case h => first | assumption | omega | decide)
  | (with_reducible refine' v_dec (fun hn => absurd hn ?h) (fun _ => ?_)); (case h => first | assumption | omega | decide)
  | (with_reducible refine' v_ndec (fun _ => ?_) (fun hn => absurd hn ?h)); (case h => first | assumption | omega | decide)
  | (with_reducible refine' v_ndec (fun hn => absurd ?h hn) (fun _ => ?_)); (case h => first | assumption | omega | decide)
  | (with_reducible refine' v_bT ?h ?_); (case h => first | assumption | rfl)
  | (with_reducible refine' v_bF ?h ?_); (case h => first | assumption | rfl))
local macro_rules | `(tactic| walk_at "dv4") => `(tactic| with_reducible first
  | refine v_places ?_ | refine v_roads ?_ | refine v_over ?_ | refine v_line ?_ | refine v_spots ?_ | refine v_myards ?_ | refine v_mroads ?_ | refine v_mW (by decide +kernel) ?_ | refine v_mK (by decide +kernel) ?_
  | refine v_itX ?_ | refine v_ev ?_ | refine v_rev ?_ | refine v_zs ?_ | refine v_enum ?_ | refine v_enum2 ?_ | refine v_makeV ?_ | refine v_tryN ?_ | refine v_lc2 ?_ | refine v_fz ?_ | refine v_make ?_ | refine v_fldS ?_)
local macro_rules | `(tactic| walk_at "dv5") => `(tactic| first
  | refine ⟨_, _, rfl, rfl, ?_⟩ | refine ⟨⟨_, _, rfl⟩, ?_⟩ | refine ⟨⟨_, _, _, rfl⟩, ?_⟩ | refine ⟨_, _, _, rfl, ?_⟩ | refine Or.inl ⟨_, rfl, ?_⟩ | refine Or.inr ⟨_, (fun _ z => by cases z), rfl, ?_⟩)
local macro_rules | `(tactic| walk_at "dv") => `(tactic| repeat (first | walk_at "dv0" | walk_at "dv4" | walk_at "dv1" | walk_at "dv3" | walk_at "dv2" | walk_at "dv5"))
/-! ### what makes one -/
/-- a row of two pairs of the law of rests -/
structure Eu (one by' a b : Nat) (x y : Int) : Prop where
  g : Nat.gcd a b = Nat.gcd one by'
  pos : 1 ≤ a
  dx : (by' : Int) ∣ x * one - a
  dy : (by' : Int) ∣ y * one - b
  sum : x.natAbs * b + y.natAbs * a = by'
  sgn : (0 ≤ x ∧ y ≤ 0) ∨ (x ≤ 0 ∧ 0 ≤ y)
theorem Eu.start {one by' : Nat} (h : 1 ≤ one) : Eu one by' one by' 1 0 :=
  ⟨rfl, h, by simp, ⟨-1, by simp⟩, by simp, .inl ⟨by decide, by decide⟩⟩
theorem Eu.step {one by' a b : Nat} {x y : Int} (h : Eu one by' a b x y) (hb : b ≠ 0) : Eu one by' b (a % b) y (x - ((a / b : Nat) : Int) * y) := by
  have hs : (x - ((a / b : Nat) : Int) * y).natAbs = x.natAbs + (a / b) * y.natAbs ∧ ((0 ≤ y ∧ x - ((a / b : Nat) : Int) * y ≤ 0) ∨ (y ≤ 0 ∧ 0 ≤ x - ((a / b : Nat) : Int) * y)) := by
    have e : (((a / b : Nat) : Int) * y).natAbs = (a / b) * y.natAbs := by rw [Int.natAbs_mul]; rfl
    have hq : (0 : Int) ≤ ((a / b : Nat) : Int) := Int.natCast_nonneg _
    rcases h.sgn with ⟨h1, h2⟩ | ⟨h1, h2⟩
    · have h3 : ((a / b : Nat) : Int) * y ≤ 0 := Int.mul_nonpos_of_nonneg_of_nonpos hq h2
      exact ⟨by omega, .inr ⟨h2, by omega⟩⟩
    · have h3 : 0 ≤ ((a / b : Nat) : Int) * y := Int.mul_nonneg hq h2
      exact ⟨by omega, .inl ⟨h2, by omega⟩⟩
  have hm : b * (a / b) + a % b = a := Nat.div_add_mod a b
  refine ⟨(gcd_step rfl).trans h.g, by omega, h.dy, ?_, ?_, hs.2⟩
  · have e : (x - ((a / b : Nat) : Int) * y) * one - ((a % b : Nat) : Int) = (x * one - a) - ((a / b : Nat) : Int) * (y * one - b) := by
      have hm' : (b : Int) * ((a / b : Nat) : Int) + ((a % b : Nat) : Int) = a := by exact_mod_cast hm
      rw [Int.sub_mul, Int.mul_sub, Int.mul_assoc, ← hm', Int.mul_comm ((a / b : Nat) : Int) (b : Int)]
      omega
    rw [e]
    exact Int.dvd_sub h.dx (Int.dvd_trans h.dy (Int.dvd_mul_left _ _))
  · rw [hs.1]
    have h1 := h.sum
    have h2 : (x.natAbs + a / b * y.natAbs) * b = x.natAbs * b + y.natAbs * (b * (a / b)) := by
      rw [Nat.add_mul, Nat.mul_assoc, Nat.mul_left_comm, Nat.mul_comm (a / b) b]
    have h3 : y.natAbs * a = y.natAbs * (b * (a / b)) + y.natAbs * (a % b) := by rw [← Nat.mul_add, hm]
    omega
theorem Eu.done {one by' a : Nat} {x y : Int} (h : Eu one by' a 0 x y) (hg : Nat.gcd one by' = 1) : a = 1 ∧ (by' : Int) ∣ x * one - 1 := by
  have h1 := h.g
  rw [Nat.gcd_zero_right, hg] at h1
  subst h1
  exact ⟨rfl, h.dx⟩
/-- what solves a likeness -/
structure Sol (f n b x s : Int) : Prop where
  lo : 0 ≤ x
  hi : x < s
  put : b ∣ f * x + n
  step : s * (Nat.gcd f.natAbs b.natAbs : Int) = b.natAbs
theorem cop_dvd {f x s : Int} (h : Nat.gcd f.natAbs s.natAbs = 1) (d : s ∣ f * x) : s ∣ x := by
  have d1 := Int.natAbs_dvd_natAbs.mpr d
  rw [Int.natAbs_mul] at d1
  exact Int.natAbs_dvd_natAbs.mp ((show Nat.Coprime s.natAbs f.natAbs by rw [Nat.Coprime, Nat.gcd_comm]; exact h).dvd_of_dvd_mul_left d1)
/-- where the measure does not go into the number, nothing solves it -/
theorem no_sol {f n b x : Int} (h : ¬ (Nat.gcd f.natAbs b.natAbs : Int) ∣ n) : ¬ b ∣ f * x + n := fun d => h (by
  have h1 : (Nat.gcd f.natAbs b.natAbs : Int) ∣ f := Int.ofNat_dvd_left.mpr (Nat.gcd_dvd_left _ _)
  have h2 : (Nat.gcd f.natAbs b.natAbs : Int) ∣ b := Int.ofNat_dvd_left.mpr (Nat.gcd_dvd_right _ _)
  have h3 := Int.dvd_sub (Int.dvd_trans h2 d) (Int.dvd_mul_of_dvd_left (c := x) h1)
  have e : f * x + n - f * x = n := by omega
  rwa [e] at h3)
/-- the parts of a likeness -/
theorem parts {f b : Int} (hb : b ≠ 0) : ∃ g s : Nat, ∃ f' : Int, g = Nat.gcd f.natAbs b.natAbs ∧ g ≠ 0 ∧ s ≠ 0 ∧ f = g * f' ∧ b.natAbs = g * s ∧ Nat.gcd f'.natAbs s = 1 ∧ f.fdiv g = f' ∧ (b.natAbs : Int).fdiv g = s := by
  have hg : Nat.gcd f.natAbs b.natAbs ≠ 0 := Nat.gcd_ne_zero_right (by omega)
  obtain ⟨f', hf⟩ : (Nat.gcd f.natAbs b.natAbs : Int) ∣ f := Int.ofNat_dvd_left.mpr (Nat.gcd_dvd_left _ _)
  obtain ⟨s, hs⟩ := Nat.gcd_dvd_right f.natAbs b.natAbs
  have hs0 : s ≠ 0 := fun z => by subst z; rw [Nat.mul_zero] at hs; omega
  have hc := Nat.coprime_div_gcd_div_gcd (m := f.natAbs) (n := b.natAbs) (by omega)
  generalize hG : Nat.gcd f.natAbs b.natAbs = g at *
  refine ⟨g, s, f', rfl, hg, hs0, hf, hs, ?_, ?_, ?_⟩
  · have e1 : f.natAbs / g = f'.natAbs := by rw [hf, Int.natAbs_mul, Int.natAbs_natCast, Nat.mul_div_cancel_left _ (by omega)]
    have e2 : b.natAbs / g = s := by rw [hs, Nat.mul_div_cancel_left _ (by omega)]
    rw [e1, e2] at hc
    exact hc
  · rw [hf, Int.mul_fdiv_cancel_left _ (by omega)]
  · rw [hs, Int.natCast_mul, Int.mul_fdiv_cancel_left _ (by omega)]
/-- all that solves it -/
theorem Sol.all {f n b x s y : Int} (h : Sol f n b x s) (hb : b ≠ 0) : b ∣ f * y + n ↔ s ∣ y - x := by
  obtain ⟨g, s', f', hg, g0, s0, hf, hs, hc, _, _⟩ := parts (f := f) hb
  have e : s = s' := by
    have h1 := h.step
    rw [← hg, hs, Int.natCast_mul, Int.mul_comm] at h1
    exact Int.eq_of_mul_eq_mul_left (by omega) h1
  subst e
  have k1 : b ∣ f * y + n ↔ b ∣ f * (y - x) := by
    have e : f * y + n = (f * x + n) + f * (y - x) := by rw [Int.mul_sub]; omega
    rw [e, Int.dvd_add_right h.put]
  rw [k1, ← Int.natAbs_dvd, hs, Int.natCast_mul, hf, Int.mul_assoc]
  constructor
  · intro d
    have := Int.dvd_of_mul_dvd_mul_left (by omega) d
    exact cop_dvd (by simpa using hc) this
  · intro d
    exact Int.mul_dvd_mul_left _ (Int.dvd_trans d (Int.dvd_mul_left _ _))
/-! ### rounds of one passage: turns seen through its steps -/
inductive Rel (p q : Int) : Int → List Int → List Int → Int → Prop
  | nil (x : Int) : Rel p q x [] [] x
  | cons {x t o k y : Int} {ts os : List Int} : x + o - t = k * p → Rel p q (k * q) ts os y → Rel p q x (t :: ts) (o :: os) y
section
variable {p q : Int}
theorem Rel.same : ∀ ts : List Int, Rel p q 0 ts ts 0
  | [] => .nil 0
  | t :: ts => .cons (k := 0) (by rw [Int.zero_mul]; omega) (by rw [Int.zero_mul]; exact Rel.same ts)
theorem Rel.trans {x y x' y' : Int} {ts os ws : List Int} (h : Rel p q x ts os y) (h' : Rel p q x' os ws y') : Rel p q (x + x') ts ws (y + y') := by
  induction h generalizing x' y' ws with
  | nil x =>
    cases h' with
    | nil => exact .nil _
  | @cons x t o k y ts os e r ih =>
    cases h' with
    | @cons _ _ w k' _ _ ws e' r' =>
      refine .cons (k := k + k') (by rw [Int.add_mul]; omega) ?_
      rw [Int.add_mul]
      exact ih r'
theorem Rel.symm {x y : Int} {ts os : List Int} (h : Rel p q x ts os y) : Rel p q (-x) os ts (-y) := by
  induction h with
  | nil x => exact .nil _
  | @cons x t o k y ts os e r ih =>
    refine .cons (k := -k) (by rw [Int.neg_mul]; omega) ?_
    rw [Int.neg_mul]
    exact ih
theorem Rel.app {x y z : Int} {ts os vs ws : List Int} (h : Rel p q x ts os z) (h' : Rel p q z vs ws y) : Rel p q x (ts ++ vs) (os ++ ws) y := by
  induction h with
  | nil x => exact h'
  | @cons x t o k y ts os e r ih => exact .cons e (ih h')
theorem Rel.len {x y : Int} {ts os : List Int} (h : Rel p q x ts os y) : ts.length = os.length := by
  induction h with
  | nil x => rfl
  | @cons x t o k y ts os e r ih => simp [ih]
theorem Rel.cut {x y : Int} {ts os : List Int} (h : Rel p q x ts os y) : ∀ n : Nat, ∃ z, Rel p q x (ts.take n) (os.take n) z ∧ Rel p q z (ts.drop n) (os.drop n) y := by
  induction h with
  | nil x => exact fun n => ⟨x, by rw [List.take_nil]; exact .nil x, by rw [List.drop_nil]; exact .nil x⟩
  | @cons x t o k y ts os e r ih =>
    intro n
    cases n with
    | zero => exact ⟨x, .nil x, .cons e r⟩
    | succ n =>
      obtain ⟨z, h1, h2⟩ := ih n
      exact ⟨z, .cons e h1, h2⟩
theorem Rel.snoc {x y t o : Int} {ts os : List Int} (hl : ts.length = os.length) : Rel p q x (ts ++ [t]) (os ++ [o]) y ↔ ∃ z k, Rel p q x ts os z ∧ z + o - t = k * p ∧ y = k * q := by
  constructor
  · intro h
    obtain ⟨z, h1, h2⟩ := h.cut ts.length
    rw [List.take_left, hl, List.take_left] at h1
    rw [List.drop_left, hl, List.drop_left] at h2
    cases h2 with
    | @cons _ _ _ k _ _ _ e r =>
      cases r with
      | nil => exact ⟨z, k, h1, e, rfl⟩
  · rintro ⟨z, k, h1, e, rfl⟩
    exact h1.app (.cons e (.nil _))
/-- all that goes through the steps so far -/
def Sh (p q : Int) (ts os : List Int) (least step here grows : Int) : Prop := ∀ x y, Rel p q x ts os y ↔ ∃ k, x = least + step * k ∧ y = here + grows * k
theorem Sh.start : Sh p q [] [] 0 1 0 1 := fun x y => by
  constructor
  · intro h
    cases h with
    | nil => exact ⟨x, by omega, by omega⟩
  · rintro ⟨k, e1, e2⟩
    have : x = y := by omega
    subst this
    exact .nil _
theorem Sh.next {ts os : List Int} {L s h g t o first by' : Int} (hl : ts.length = os.length) (sh : Sh p q ts os L s h g) (h0 : p ≠ 0) (sol : Sol g (h + o - t) p first by') : p ∣ (h + g * first) + o - t ∧ p ∣ g * by' ∧ Sh p q (ts ++ [t]) (os ++ [o]) (L + s * first) (s * by') (((h + g * first) + o - t).fdiv p * q) ((g * by').fdiv p * q) := by
  have d1 : p ∣ (h + g * first) + o - t := by
    have := sol.put
    rwa [show g * first + (h + o - t) = (h + g * first) + o - t by omega] at this
  have d2 : p ∣ g * by' := by
    have h1 := (sol.all (y := first + by') h0).mpr ⟨1, by omega⟩
    have h2 := Int.dvd_sub h1 sol.put
    rw [Int.mul_add] at h2
    rwa [show g * first + g * by' + (h + o - t) - (g * first + (h + o - t)) = g * by' by omega] at h2
  refine ⟨d1, d2, fun x y => ?_⟩
  obtain ⟨a, ea⟩ := d1
  obtain ⟨b, eb⟩ := d2
  rw [ea, eb, Int.mul_fdiv_cancel_left _ h0, Int.mul_fdiv_cancel_left _ h0, Rel.snoc hl]
  constructor
  · rintro ⟨z, k', hr, e1, e2⟩
    obtain ⟨k, rfl, rfl⟩ := (sh x z).mp hr
    have hd : p ∣ g * k + (h + o - t) := ⟨k', by rw [Int.mul_comm p]; omega⟩
    obtain ⟨j, ej⟩ := (sol.all h0).mp hd
    have ek : k = first + by' * j := by omega
    subst ek
    refine ⟨j, by rw [Int.mul_add, Int.mul_assoc, Int.add_assoc], ?_⟩
    have e3 : k' = a + b * j := by
      refine Int.eq_of_mul_eq_mul_right h0 ?_
      rw [← e1, Int.mul_add, ← Int.mul_assoc, eb, Int.add_mul]
      rw [Int.mul_comm a p, ← ea, show b * j * p = p * b * j by rw [Int.mul_comm (b * j), Int.mul_assoc]]
      omega
    rw [e2, e3, Int.add_mul, Int.mul_assoc, Int.mul_comm j q, ← Int.mul_assoc]
  · rintro ⟨j, e1, e2⟩
    refine ⟨h + g * (first + by' * j), a + b * j, (sh _ _).mpr ⟨first + by' * j, ?_, rfl⟩, ?_, ?_⟩
    · rw [e1, Int.mul_add, Int.mul_assoc, Int.add_assoc]
    · rw [Int.mul_add, ← Int.mul_assoc, eb, Int.add_mul, Int.mul_comm a p, ← ea, show b * j * p = p * b * j by rw [Int.mul_comm (b * j), Int.mul_assoc]]
      omega
    · rw [e2, Int.add_mul, Int.mul_assoc, Int.mul_assoc, Int.mul_comm q j]
theorem Sh.none {ts os ts' os' : List Int} {L s h g t o x y : Int} (hl : ts.length = os.length) (sh : Sh p q ts os L s h g) (no : ¬ (Nat.gcd g.natAbs p.natAbs : Int) ∣ h + o - t) : ¬ Rel p q x (ts ++ t :: ts') (os ++ o :: os') y := by
  intro hr
  obtain ⟨z, h1, h2⟩ := hr.cut ts.length
  rw [List.take_left, hl, List.take_left] at h1
  rw [List.drop_left, hl, List.drop_left] at h2
  obtain ⟨k, e1, e2⟩ := (sh x z).mp h1
  cases h2 with
  | @cons _ _ _ k' _ _ _ e r =>
    exact no_sol (x := k) no ⟨k', by rw [Int.mul_comm p]; omega⟩
end
/-! ### one step's words in the tree -/
def mono (s : Step) (ts : List Int) : Pairs := ts.map fun t => (t, s)
end Lw
set_option Elab.async false
set_option linter.all false
set_option maxRecDepth 100000
set_option maxHeartbeats 4000000
set_option autoImplicit false
namespace Lw
open PySem Dv
/-! steps of our own words -/
local macro_rules | `(tactic| walk_at "num") => `(tactic| first | assumption | decide | omega)
local macro_rules | `(tactic| walk_at "dv0") => `(tactic| with_reducible first
  | refine v_seq ?_ | refine v_ifS ?_ | refine v_set ?_ | refine v_ret ?_ | refine v_asg ?_ | refine v_par ?_ | refine v_drop ?_ | refine v_nx ?_ | refine v_bk ?_ | refine v_ct ?_ | refine v_retN ?_ | refine v_for ?_
  | refine v_c ?_ | refine v_nil ?_ | refine v_cons ?_ | refine v_op ?_ | refine v_B ?_ | refine v_truth ?_ | refine v_andT ?_ | refine v_orT ?_ | refine v_notT ?_
  | refine v_andV ?_ | refine v_orV ?_ | refine v_notV ?_ | refine v_if ?_ | refine v_neg ?_ | refine v_chain ?_ | refine v_tup ?_ | refine v_lst ?_ | refine v_lstR ?_ | refine v_noPart ?_ | refine v_part ?_ | refine v_sl ?_
  | refine v_CB ?_ | refine v_call ?_ | refine v_abs ?_ | refine v_lc ?_ | refine v_yes ?_ | refine v_it ?_ | refine v_rng1 ?_ | refine v_rng2 ?_ | refine v_rng3 ?_ | refine v_T ?_ | refine v_F ?_
  | refine v_add ?_ | refine v_sub ?_ | refine v_iadd ?_ | refine v_lt ?_ | refine v_le ?_ | refine v_gt ?_ | refine v_ge ?_ | refine v_eqI ?_ | refine v_neI ?_ | refine v_eqB ?_ | refine v_neB ?_)
local macro_rules | `(tactic| walk_at "dv1") => `(tactic| first
  | (with_reducible refine' v_var ?h ?_); (case h => rfl)
  | (with_reducible refine' v_aug ?h ?_); (case h => rfl)
  | (with_reducible refine' v_div ?h1 ?h2 ?_); (case h1 => walk_at "num"); (case h2 => walk_at "num")
  | (with_reducible refine' v_mod ?h1 ?_); (case h1 => walk_at "num")
  | (with_reducible refine' v_pow ?h1 ?_); (case h1 => walk_at "num")
  | (with_reducible refine' v_mulR ?h1 ?_); (case h1 => walk_at "num")
  | (with_reducible refine' v_mulL ?h1 ?_); (case h1 => walk_at "num")
  | (with_reducible refine' v_fin ?h1 ?_); (case h1 => first | exact Or.inl rfl | exact Or.inr rfl | (refine Or.inr ?_; simp only [List.length_set, *]; done))
  | (with_reducible refine' v_ix ?h1 ?_); (case h1 => first | exact ixD_ref (by assumption) (by rfl) | rfl)
  | (with_reducible refine' v_len ?h1 ?_); (case h1 => first | exact lenD_ref (by assumption) | rfl)
  | (with_reducible refine' v_list ?h1 ?_); (case h1 => rfl)
  | (with_reducible refine' v_listR ?h1 ?_); (case h1 => rfl)
  | (with_reducible refine' v_tuple ?h1 ?_); (case h1 => rfl)
  | (with_reducible refine' v_isd ?h1 ?_); (case h1 => rfl)
  | (with_reducible refine' v_isiTy ?h1 ?h2 ?_); (case h1 => rfl); (case h2 => rfl)
  | (with_reducible refine' v_isiT ?h1 ?_); (case h1 => rfl))
local macro_rules | `(tactic| walk_at "dv2") => `(tactic| first
  | refine v_gsub (by rfl) (by rfl) (by assumption) (by rfl) (fun _ _ _ => ?_) | refine ⟨_, rfl, ?_⟩ | (with_reducible refine' ⟨rng_ok ?h1 ?h2, ?_⟩); (case h1 => omega); (case h2 => omega) | refine ⟨rfl, ?_⟩ | refine ⟨_, _, rfl, ?_⟩ | refine ⟨Nat.le_of_ble_eq_true rfl, ?_⟩)
local macro_rules | `(tactic| walk_at "dv3") => `(tactic| first
  | (with_reducible refine' v_dec (fun _ => ?_) (fun hn => absurd ?h hn)); (case h => first | assumption | omega | decide)
  | (with_reducible refine' v_dec (fun hn => absurd hn ?h) (fun _ => ?_)); (case h => first | assumption | omega | decide)
  | (with_reducible refine' v_ndec (fun _ => ?_) (fun hn => absurd hn ?h)); (case h => first | assumption | omega | decide)
  | (with_reducible refine' v_ndec (fun hn => absurd ?h hn) (fun _ => ?_)); (case h => first | assumption | omega | decide)
  | (with_reducible refine' v_bT ?h ?_); (case h => first | assumption | rfl)
  | (with_reducible refine' v_bF ?h ?_); (case h => first | assumption | rfl))
local macro_rules | `(tactic| walk_at "dv4") => `(tactic| with_reducible first
  | refine v_places ?_ | refine v_roads ?_ | refine v_over ?_ | refine v_line ?_ | refine v_spots ?_ | refine v_myards ?_ | refine v_mroads ?_ | refine v_mW (by decide +kernel) ?_ | refine v_mK (by decide +kernel) ?_
  | refine v_itX ?_ | refine v_ev ?_ | refine v_rev ?_ | refine v_zs ?_ | refine v_enum ?_ | refine v_enum2 ?_ | refine v_makeV ?_ | refine v_tryN ?_ | refine v_lc2 ?_ | refine v_fz ?_ | refine v_make ?_ | refine v_fldS ?_)
local macro_rules | `(tactic| walk_at "dv5") => `(tactic| first
  | refine ⟨_, _, rfl, rfl, ?_⟩ | refine ⟨⟨_, _, rfl⟩, ?_⟩ | refine ⟨⟨_, _, _, rfl⟩, ?_⟩ | refine ⟨_, _, _, rfl, ?_⟩ | refine Or.inl ⟨_, rfl, ?_⟩ | refine Or.inr ⟨_, (fun _ z => by cases z), rfl, ?_⟩)
local macro_rules | `(tactic| walk_at "dv") => `(tactic| repeat (first | walk_at "dv0" | walk_at "dv4" | walk_at "dv1" | walk_at "dv3" | walk_at "dv2" | walk_at "dv5"))
/-! ### rounds seen from elsewhere -/
def Rw (m : Mod) (a : Int × Seg) (σ : Pairs × Int) : Pairs × Int := stl m σ.1 (σ.2 + a.1) a.2
def jj (a b : Int × Seg) : Int × Seg := jn a.1 a.2 b.1 b.2
def bb (a : Int × Seg) : Int × Seg := bk a.1 a.2
section
variable {m : Mod} {s : Step} {p q : Int}
theorem Rw.jj (a b : Int × Seg) (σ : Pairs × Int) : Rw m (jj a b) σ = Rw m b (Rw m a σ) := stl_jn σ.1 σ.2 a.1 b.1 a.2 b.2
theorem Rw.unp (u : Pairs) (v : Int) (σ : Pairs × Int) : Rw m (unp v u) σ = ((runP m σ u).1, (runP m σ u).2 + v) := stl_run v u σ
theorem Rw.bb (ok : m.Ok) {a : Int × Seg} {σ : Pairs × Int} (hw : Ways a.2) (h : Pl m σ.1) : Rw m (bb a) (Rw m a σ) = σ := stl_bk ok hw h
theorem bb_bb (a : Int × Seg) : bb (bb a) = a := bk_bk a.2 a.1
theorem bb_ways {a : Int × Seg} (h : Ways a.2) : Ways (bb a).2 := bk_ways a.1 h
theorem Rw.kb (ok : m.Ok) {a : Int × Seg} {σ : Pairs × Int} (hw : Ways a.2) (h : Pl m σ.1) : Rw m a (Rw m (Lw.bb a) σ) = σ := by
  have e := Rw.bb ok (a := Lw.bb a) (bb_ways hw) h
  rwa [bb_bb] at e
theorem Rw.pl (ok : m.Ok) {a : Int × Seg} {σ : Pairs × Int} (hw : Ways a.2) (h : Pl m σ.1) : Pl m (Rw m a σ).1 := stl_pl ok hw h
theorem Rw.one (a : Int × Seg) : Rw m a ([], 0) = stl m [] a.1 a.2 := by
  show stl m [] (0 + a.1) a.2 = _
  rw [Int.zero_add]
theorem Rw.nf (ok : m.Ok) {a : Int × Seg} {σ : Pairs × Int} (hw : Ways a.2) (h : Pl m σ.1) : Rw m a σ = act m σ (stl m [] a.1 a.2) := nf_act ok hw h
theorem Rw.self (ok : m.Ok) {a : Int × Seg} {σ : Pairs × Int} (hw : Ways a.2) (h : Pl m σ.1) : Rw m (Lw.unp (stl m [] a.1 a.2).2 (stl m [] a.1 a.2).1) σ = Rw m a σ := by
  rw [Rw.nf ok hw h, Rw.unp]
  rfl
theorem Rw.turn (x : Int) (σ : Pairs × Int) : Rw m (x, []) σ = (σ.1, σ.2 + x) := rfl
end
section
variable {m : Mod} {S : Store}
theorem is_home_ok (ok : m.Ok) {y z : Str} {t : Int} {l : Seg} (h : Path m y l z) (hy : y ∈ m.ys) : m_Walk_is_home [walkD m y t l] S = .ok (.bl (decide (y = z))) S := by
  refine Pe.eq (v_fn ?_)
  unfold b_Walk_is_home
  walk_at "dv"
  refine v_ix (ix_zero _ _) ?_
  walk_at "dv"
  refine v_ix (ix_last (by rw [List.getLast?_map, spots_last h]; rfl)) ?_
  refine v_eqS (ok.sy _ hy) (ok.sy _ (h.to_in ok hy)) ?_
  walk_at "dv"
  first | exact ⟨rfl, rfl⟩ | exact rfl
end
/-! ### the way to a walk's line, as it is cut -/
theorem cut_mid {a b : Dt} {mid : List Dt} : cutA (a :: (mid ++ [b])) (some 1) (some (-1)) = mid := by
  have hn : (a :: (mid ++ [b])).length = mid.length + 2 := by simp
  have h1 : HT.sIx (a :: (mid ++ [b])).length 0 (some 1) = 1 := by
    have e := HT.sIx_nat (a :: (mid ++ [b])).length 0 1
    have e : HT.sIx (a :: (mid ++ [b])).length 0 (some 1) = min 1 (a :: (mid ++ [b])).length := e
    rw [e, hn]
    omega
  have h2 : HT.sIx (a :: (mid ++ [b])).length (a :: (mid ++ [b])).length (some (-1)) = mid.length + 1 := by
    unfold HT.sIx
    dsimp only
    rw [if_pos (by decide), hn]
    omega
  unfold cutA
  rw [h1, h2]
  show (mid ++ [b]).take (mid.length + 1 - 1) = mid
  rw [Nat.add_sub_cancel]
  exact List.take_left
theorem frz_tri {n k : Nat} {T : Store} {d e : Dt} {ds : List Dt} (hd : noRef 11 d = true) (he : noRef 11 e = true) (hT : T[k]? = some (.lst ds)) (hk : n ≤ k) (h : ds.all (noRef 10) = true) : frz n T deepF (.tup [.ref k, d, e]) = some (.tup [.lst ds, d, e]) := by
  show frz n T (11 + 1) _ = _
  unfold frz
  rw [if_neg (by simp [noRef])]
  dsimp only
  have e0 : frz n T 11 (.ref k) = some (.lst ds) := by
    show frz n T (10 + 1) (.ref k) = _
    unfold frz
    rw [if_neg (by simp [noRef])]
    dsimp only
    rw [if_neg (by omega), hT]
    dsimp only
    rw [mapO_pure h]
    rfl
  unfold mapO
  rw [e0]
  unfold mapO
  rw [frz_pure hd]
  unfold mapO
  rw [frz_pure he]
  rfl
theorem v_nePr {ps : Pairs} {S : Store} {Q : Dt → Store → Prop} {X : Ex → Store → Prop} (h : ∀ p ∈ ps, PyData.strOk p.2.1 = true) (q : Q (.bl (!decide (ps = []))) S) : Pe (mNe (.lst (ps.map prD)) (.lst []) S) Q X := by
  refine v_ifok ⟨all_map (p := okD 11) fun p hp => okD_pr (h p hp) 9, rfl⟩ ?_
  have e : eqD (.lst (ps.map prD)) (.lst []) = decide (ps = []) := by
    cases ps with
    | nil => rfl
    | cons p ps => rfl
  show Q (.bl (!eqD (.lst (ps.map prD)) (.lst []))) S
  rw [e]
  exact q
section
variable {m : Mod} {S : Store}
theorem prS_road {z : Str} : ∀ {ps : Pairs} {y : Str}, Path m y (prS ps) z → ∀ p ∈ ps, ∃ r, m.road p.2.1 = some r
  | [], _, _, p, hp => (List.not_mem_nil hp).elim
  | q :: ps, _, h, p, hp => by
    have h : Path m _ ((q.2, (0 : Int)) :: prS ps) z := h
    cases h with
    | cons h1 h2 h3 k =>
      rcases List.mem_cons.mp hp with rfl | hp
      · exact ⟨_, h1⟩
      · exact prS_road k p hp
theorem Cut.str {w h : Pairs × Int} {g : Pairs} (c : Cut m w g h) (hs : ∀ p ∈ w.1, PyData.strOk p.2.1 = true) : ∀ p ∈ h.1, PyData.strOk p.2.1 = true := fun p hp => hs p (c.sub p hp)
structure CutI (m : Mod) (w : Pairs × Int) (g ps : Pairs) (x : Int) : Prop where
  all : ∃ tl, w.1 = g ++ ps ++ tl ∧ tl.length = g.length
  seen : Seen m w (ps, x) g
  ex : SeenE m w (ps, x) g
theorem CutI.plh {w : Pairs × Int} {g ps : Pairs} {x : Int} (c : CutI m w g ps x) (hw : Pl m w.1) : Pl m ps := by
  obtain ⟨tl, e, _⟩ := c.all
  have h1 : Pl m (g ++ ps) := hw.pre e
  exact Pl.tail_ h1
theorem CutI.done {w : Pairs × Int} {g ps : Pairs} {x : Int} (c : CutI m w g ps x) (hw : Pl m w.1) (he : ps = [] ∨ ∃ r s rest, ps = (r, s) :: rest ∧ ∀ p, rest.getLast? = some p → p.2 = und s → (x + r).fmod (ruleOf m s).1 ≠ 0) : Cut m w g (ps, x) := by
  have hp := c.plh hw
  obtain ⟨tl, e, hl⟩ := c.all
  refine ⟨hw.pre (b := ps ++ tl) (by rw [e, List.append_assoc]), hp, c.seen, c.ex, ?_, ?_, fun p hp => by rw [e]; exact List.mem_append_left _ (List.mem_append_right _ hp), ⟨ps ++ tl, by rw [e, List.append_assoc]⟩, ⟨tl, e, hl⟩⟩
  · rw [e, List.length_append, List.length_append, hl]
    show g.length + ps.length + g.length = 2 * g.length + ps.length
    omega
  · rcases he with z | ⟨r, s, rest, e2, no⟩
    · exact .inl z
    · subst e2
      exact .inr ⟨r, s, rest, rfl, hp, no⟩
theorem CutI.next (ok : m.Ok) {w : Pairs × Int} {g mid : Pairs} {x r rL : Int} {s : Step} (c : CutI m w g ((r, s) :: (mid ++ [(rL, und s)])) x) (hw : Pl m w.1) (h0 : (x + r).fmod (ruleOf m s).1 = 0) : CutI m w (g ++ [(r, s)]) mid (rL + (x + r).fdiv (ruleOf m s).1 * (ruleOf m s).2) := by
  have hp := c.plh hw
  obtain ⟨tl, e, hl⟩ := c.all
  have e2 : w.1 = (g ++ [(r, s)]) ++ mid ++ ((rL, und s) :: tl) := by rw [e]; simp
  have hm : Pl m (g ++ [(r, s)] ++ mid) := hw.pre e2
  refine ⟨⟨(rL, und s) :: tl, e2, by rw [List.length_cons, List.length_append, hl]; rfl⟩, ?_, ?_⟩
  · exact c.seen.step ok (seen_one ok hp h0) (hm.pre rfl) (Pl.tail_ hm)
  · exact c.ex.step ok (seen_oneE ok hp h0) hw (hm.pre rfl) hp (Pl.tail_ hm)
theorem CutI.start (ok : m.Ok) {W : Pairs × Int} (hw : Pl m W.1) : CutI m W [] W.1 W.2 := by
  refine ⟨⟨[], by simp, rfl⟩, fun P hP => ?_, ?_⟩
  · have e1 : ∀ P, Pl m P → mvP m (([], 0) : Pairs × Int) P = P := fun P hP => by
      show (runP m ([], 0) P).1 = P
      rw [plain_self ok 0 hP]
    rw [e1 P hP, e1 _ (mv_pl ok hw hP)]
  · show act m W ([], 0) = act m ([], 0) W
    rw [act_one ok hw]
    show (W.1, W.2 + 0) = W
    rw [Int.add_zero]
theorem cut_round_ok (ok : m.Ok) (hp : PureS S) {y : Str} {t : Int} {l : Seg} (h : Path m y l y) (hy : y ∈ m.ys) (hl : l.length ≤ 900) {Q : Dt → Store → Prop} {X : Ex → Store → Prop}
    (q : ∀ g ps x, Cut m (stl m [] t l) g (ps, x) → Q (.tup [.lst (g.map prD), .lst (ps.map prD), .int x]) S) : Pe (m_cut_round [walkD m y t l] S) Q X := by
  have hw := stl_pl ok (x := t) h.ways .nil
  have hst := stl_str ok h (ps := []) (x := t) fun p hp => (List.not_mem_nil hp).elim
  have hpa := stl_path (ps := ([] : Pairs)) (x := t) (.nil y) h
  have sl := stl_len (m := m) [] t l
  rw [List.length_nil, Nat.zero_add] at sl
  have hrd := prS_road hpa
  refine v_fn ?_
  unfold b_cut_round
  walk_at "dv"
  refine Pe.of (is_home_ok ok h hy) ?_
  rw [decide_eq_true rfl]
  walk_at "dv"
  refine Pe.of (settled_walk_ok ok hp h (by omega)) ?_
  have e0 : stl m [] t l = ((stl m [] t l).1, (stl m [] t l).2) := rfl
  generalize hW : stl m [] t l = W at *
  walk_at "dv"
  have start : CutI m W [] W.1 W.2 := CutI.start ok hw
  have mem : ∀ {g ps : Pairs} {x : Int}, CutI m W g ps x → ∀ p ∈ ps, p ∈ W.1 := fun c p hp => by
    obtain ⟨tl, e, _⟩ := c.all
    rw [e]
    exact List.mem_append_left _ (List.mem_append_right _ hp)
  refine v_while (fun n en T => ∃ (x4 x5 x6 x7 : Option Dt) (g ps : Pairs) (x : Int), en = [some (walkD m y t l), some (.lst (ps.map prD)), some (.int x), some (.ref S.length), x4, x5, x6, x7] ∧ Jz S T ∧ T[S.length]? = some (.lst (g.map prD)) ∧ CutI m W g ps x ∧ ps.length < n)
    ⟨_, _, _, _, [], W.1, W.2, rfl, Jz.refl.push, last_at, start, by show W.1.length < 1000; omega⟩ ?_
  rintro n en T ⟨x4, x5, x6, x7, g, ps, x, rfl, jz, hT, ci, hn⟩
  have lps : (ps.map prD).length = ps.length := List.length_map ..
  have fin : (ps = [] ∨ ∃ r s rest, ps = (r, s) :: rest ∧ ∀ p, rest.getLast? = some p → p.2 = und s → (x + r).fmod (ruleOf m s).1 ≠ 0) → Pe (fin false S.length (.tup [.ref S.length, .lst (ps.map prD), .int x]) T) Q X := by
    intro he
    have hl0 : S.length < T.length := (List.getElem?_eq_some_iff.mp hT).1
    refine v_finL (frz_tri (show (ps.map prD).all (noRef 10) = true from all_map fun p _ => by simp [noRef]) rfl hT (Nat.le_refl _) (all_map fun p _ => by simp [noRef])) hl0 (by rw [jz.eq]; exact hp) ?_
    rw [jz.eq]
    exact q g ps x (ci.done hw he)
  refine ⟨n - 1, by omega, ?_⟩
  rcases ps with _ | ⟨⟨r, s⟩, rest⟩
  · walk_at "dv"
    exact fin (.inl rfl)
  rcases List.eq_nil_or_concat rest with rfl | ⟨mid, pL, rfl⟩
  · walk_at "dv"
    exact fin (.inr ⟨r, s, [], rfl, fun p hp => by cases hp⟩)
  obtain ⟨rL, sL⟩ := pL
  rw [List.concat_eq_append] at *
  have in1 := mem ci (r, s) List.mem_cons_self
  have in2 := mem ci (rL, sL) (by simp)
  have so1 := hst _ in1
  have so2 := hst _ in2
  obtain ⟨ro, hro⟩ := hrd _ in1
  have hwy : WayOk s := hw.ways _ in1
  have er := ruleOf_road (s := s) hro
  have n0 := rule_ne ok s
  have lm : (((r, s) :: (mid ++ [(rL, sL)])).map prD).length = mid.length + 2 := by simp
  have ixl : ∀ T : Store, ixD T (.lst (((r, s) :: (mid ++ [(rL, sL)])).map prD)) (-1) = some (prD (rL, sL)) := fun T => last_ix (by rw [List.getLast?_map, show ((r, s) :: (mid ++ [(rL, sL)])).getLast? = some (rL, sL) by rw [show (r, s) :: (mid ++ [(rL, sL)]) = ((r, s) :: mid) ++ [(rL, sL)] from rfl, List.getLast?_append]; rfl]; rfl)
  have ix0 : ∀ T : Store, ixD T (.lst (((r, s) :: (mid ++ [(rL, sL)])).map prD)) 0 = some (prD (r, s)) := fun T => ix_zero _ _
  walk_at "dv"
  refine v_ix (ixl _) ?_
  walk_at "dv"
  refine v_ix (ix0 _) ?_
  walk_at "dv"
  refine Pe.of undone_ok ?_
  refine v_eqT so2 so1 ?_
  refine ⟨_, rfl, ?_⟩
  refine v_dec (fun e => ?_) (fun e => ?_)
  · subst e
    walk_at "dv"
    refine v_ix (ix0 _) ?_
    walk_at "dv"
    refine Pe.of walk_web_ok ?_
    walk_at "dv"
    refine Pe.of (web_rule_ok ok hro hwy) ?_
    rw [← er]
    walk_at "dv"
    refine v_ndec (fun h0 => ?_) (fun h0 => ?_)
    · walk_at "dv"
      refine fin (.inr ⟨r, s, _, rfl, fun p hp e2 => ?_⟩)
      exact h0
    · have n9 : (ruleOf m s).1.natAbs.log2 < 9000 := log_lt (by have := n0.1.2; omega) n0.1.1
      walk_at "dv"
      refine v_ix (ixl _) ?_
      walk_at "dv"
      refine v_app1K rfl hT ?_
      walk_at "dv"
      refine v_ix (ix0 _) ?_
      obtain ⟨tl, eW, hl2⟩ := ci.all
      have gl : g.length ≤ 900 := by
        have e := congrArg List.length eW
        rw [List.length_append, List.length_append] at e
        omega
      refine ⟨_, hT, by rw [List.length_map]; omega, ?_⟩
      walk_at "dv"
      have em : cutA (((r, s) :: (mid ++ [(rL, und s)])).map prD) (some 1) (some (-1)) = mid.map prD := by
        rw [List.map_cons, List.map_append]
        exact cut_mid
      refine ⟨_, _, _, _, g ++ [(r, s)], mid, rL + (x + r).fdiv (ruleOf m s).1 * (ruleOf m s).2, by rw [← em]; rfl, jz.set (Nat.le_refl _), by rw [set_same hT]; simp, ci.next ok hw h0, ?_⟩
      rw [List.length_cons, List.length_append, List.length_singleton] at hn
      omega
  · walk_at "dv"
    refine fin (.inr ⟨r, s, _, rfl, fun p hp e2 => ?_⟩)
    have e3 : (mid ++ [(rL, sL)]).getLast? = some (rL, sL) := by simp
    rw [e3] at hp
    cases hp
    exact absurd e2 e
end
end Lw
set_option Elab.async false
set_option linter.all false
set_option maxRecDepth 100000
set_option maxHeartbeats 4000000
set_option autoImplicit false
namespace Lw
open PySem Dv
/-! steps of our own words -/
local macro_rules | `(tactic| walk_at "num") => `(tactic| first | assumption | decide | omega)
local macro_rules | `(tactic| walk_at "dv0") => `(tactic| with_reducible first
  | refine v_seq ?_ | refine v_ifS ?_ | refine v_set ?_ | refine v_ret ?_ | refine v_asg ?_ | refine v_par ?_ | refine v_drop ?_ | refine v_nx ?_ | refine v_bk ?_ | refine v_ct ?_ | refine v_retN ?_ | refine v_for ?_
  | refine v_c ?_ | refine v_nil ?_ | refine v_cons ?_ | refine v_op ?_ | refine v_B ?_ | refine v_truth ?_ | refine v_andT ?_ | refine v_orT ?_ | refine v_notT ?_
  | refine v_andV ?_ | refine v_orV ?_ | refine v_notV ?_ | refine v_if ?_ | refine v_neg ?_ | refine v_chain ?_ | refine v_tup ?_ | refine v_lst ?_ | refine v_lstR ?_ | refine v_noPart ?_ | refine v_part ?_ | refine v_sl ?_
  | refine v_CB ?_ | refine v_call ?_ | refine v_abs ?_ | refine v_lc ?_ | refine v_yes ?_ | refine v_it ?_ | refine v_rng1 ?_ | refine v_rng2 ?_ | refine v_rng3 ?_ | refine v_T ?_ | refine v_F ?_
  | refine v_add ?_ | refine v_sub ?_ | refine v_iadd ?_ | refine v_lt ?_ | refine v_le ?_ | refine v_gt ?_ | refine v_ge ?_ | refine v_eqI ?_ | refine v_neI ?_ | refine v_eqB ?_ | refine v_neB ?_)
local macro_rules | `(tactic| walk_at "dv1") => `(tactic| first
  | (with_reducible refine' v_var ?h ?_); (case h => rfl)
  | (with_reducible refine' v_aug ?h ?_); (case h => rfl)
  | (with_reducible refine' v_div ?h1 ?h2 ?_); (case h1 => walk_at "num"); (case h2 => walk_at "num")
  | (with_reducible refine' v_mod ?h1 ?_); (case h1 => walk_at "num")
  | (with_reducible refine' v_pow ?h1 ?_); (case h1 => walk_at "num")
  | (with_reducible refine' v_mulR ?h1 ?_); (case h1 => walk_at "num")
  | (with_reducible refine' v_mulL ?h1 ?_); (case h1 => walk_at "num")
  | (with_reducible refine' v_fin ?h1 ?_); (case h1 => first | exact Or.inl rfl | exact Or.inr rfl | (refine Or.inr ?_; simp only [List.length_set, *]; done))
  | (with_reducible refine' v_ix ?h1 ?_); (case h1 => first | exact ixD_ref (by assumption) (by rfl) | rfl)
  | (with_reducible refine' v_len ?h1 ?_); (case h1 => first | exact lenD_ref (by assumption) | rfl)
  | (with_reducible refine' v_list ?h1 ?_); (case h1 => rfl)
  | (with_reducible refine' v_listR ?h1 ?_); (case h1 => rfl)
  | (with_reducible refine' v_tuple ?h1 ?_); (case h1 => rfl)
  | (with_reducible refine' v_isd ?h1 ?_); (case h1 => rfl)
  | (with_reducible refine' v_isiTy ?h1 ?h2 ?_); (case h1 => rfl); (case h2 => rfl)
  | (with_reducible refine' v_isiT ?h1 ?_); (case h1 => rfl))
local macro_rules | `(tactic| walk_at "dv2") => `(tactic| first
  | refine v_gsub (by rfl) (by rfl) (by assumption) (by rfl) (fun _ _ _ => ?_) | refine ⟨_, rfl, ?_⟩ | (with_reducible refine' ⟨rng_ok ?h1 ?h2, ?_⟩); (case h1 => omega); (case h2 => omega) | refine ⟨rfl, ?_⟩ | refine ⟨_, _, rfl, ?_⟩ | refine ⟨Nat.le_of_ble_eq_true rfl, ?_⟩)
local macro_rules | `(tactic| walk_at "dv3") => `(tactic| first
  | (with_reducible refine' v_dec (fun _ => ?_) (fun hn => absurd ?h hn)); (case h => first | assumption | omega | decide)
  | (with_reducible refine' v_dec (fun hn => absurd hn ?h) (fun _ => ?_)); (case h => first | assumption | omega | decide)
  | (with_reducible refine' v_ndec (fun _ => ?_) (fun hn => absurd hn ?h)); (case h => first | assumption | omega | decide)
  | (with_reducible refine' v_ndec (fun hn => absurd ?h hn) (fun _ => ?_)); (case h => first | assumption | omega | decide)
  | (with_reducible refine' v_bT ?h ?_); (case h => first | assumption | rfl)
  | (with_reducible refine' v_bF ?h ?_); (case h => first | assumption | rfl))
local macro_rules | `(tactic| walk_at "dv4") => `(tactic| with_reducible first
  | refine v_places ?_ | refine v_roads ?_ | refine v_over ?_ | refine v_line ?_ | refine v_spots ?_ | refine v_myards ?_ | refine v_mroads ?_ | refine v_mW (by decide +kernel) ?_ | refine v_mK (by decide +kernel) ?_
  | refine v_itX ?_ | refine v_ev ?_ | refine v_rev ?_ | refine v_zs ?_ | refine v_enum ?_ | refine v_enum2 ?_ | refine v_makeV ?_ | refine v_tryN ?_ | refine v_lc2 ?_ | refine v_fz ?_ | refine v_make ?_ | refine v_fldS ?_)
local macro_rules | `(tactic| walk_at "dv5") => `(tactic| first
  | refine ⟨_, _, rfl, rfl, ?_⟩ | refine ⟨⟨_, _, rfl⟩, ?_⟩ | refine ⟨⟨_, _, _, rfl⟩, ?_⟩ | refine ⟨_, _, _, rfl, ?_⟩ | refine Or.inl ⟨_, rfl, ?_⟩ | refine Or.inr ⟨_, (fun _ z => by cases z), rfl, ?_⟩)
local macro_rules | `(tactic| walk_at "dv") => `(tactic| repeat (first | walk_at "dv0" | walk_at "dv4" | walk_at "dv1" | walk_at "dv3" | walk_at "dv2" | walk_at "dv5"))
/-! ### rounds of one passage: what is told -/
section
variable {m : Mod} {S : Store}
theorem alike_webs_ok (ok : m.Ok) {y y' : Str} {t t' : Int} {l l' : Seg} : m_need_alike_webs [walkD m y t l, walkD m y' t' l'] S = .ok .non S := by
  refine Pe.eq (v_fn ?_)
  unfold b_need_alike_webs
  walk_at "dv"
  refine Pe.of walk_web_ok ?_
  walk_at "dv"
  refine Pe.of walk_web_ok ?_
  walk_at "dv"
  refine v_eqInst (c := "Web") rfl rfl ?_
  refine Pe.of (web_eq_ok ok) ?_
  refine ⟨true, rfl, ?_⟩
  refine ⟨_, rfl, ?_⟩
  refine v_bF rfl ?_
  walk_at "dv"
  first | exact ⟨rfl, rfl⟩ | exact rfl
end
end Lw
set_option Elab.async false
set_option linter.all false
set_option maxRecDepth 100000
set_option maxHeartbeats 4000000
set_option autoImplicit false
namespace Lw
open PySem Dv
/-! steps of our own words -/
local macro_rules | `(tactic| walk_at "num") => `(tactic| first | assumption | decide | omega)
local macro_rules | `(tactic| walk_at "dv0") => `(tactic| with_reducible first
  | refine v_seq ?_ | refine v_ifS ?_ | refine v_set ?_ | refine v_ret ?_ | refine v_asg ?_ | refine v_par ?_ | refine v_drop ?_ | refine v_nx ?_ | refine v_bk ?_ | refine v_ct ?_ | refine v_retN ?_ | refine v_for ?_
  | refine v_c ?_ | refine v_nil ?_ | refine v_cons ?_ | refine v_op ?_ | refine v_B ?_ | refine v_truth ?_ | refine v_andT ?_ | refine v_orT ?_ | refine v_notT ?_
  | refine v_andV ?_ | refine v_orV ?_ | refine v_notV ?_ | refine v_if ?_ | refine v_neg ?_ | refine v_chain ?_ | refine v_tup ?_ | refine v_lst ?_ | refine v_lstR ?_ | refine v_noPart ?_ | refine v_part ?_ | refine v_sl ?_
  | refine v_CB ?_ | refine v_call ?_ | refine v_abs ?_ | refine v_lc ?_ | refine v_yes ?_ | refine v_it ?_ | refine v_rng1 ?_ | refine v_rng2 ?_ | refine v_rng3 ?_ | refine v_T ?_ | refine v_F ?_
  | refine v_add ?_ | refine v_sub ?_ | refine v_iadd ?_ | refine v_lt ?_ | refine v_le ?_ | refine v_gt ?_ | refine v_ge ?_ | refine v_eqI ?_ | refine v_neI ?_ | refine v_eqB ?_ | refine v_neB ?_)
local macro_rules | `(tactic| walk_at "dv1") => `(tactic| first
  | (with_reducible refine' v_var ?h ?_); (case h => rfl)
  | (with_reducible refine' v_aug ?h ?_); (case h => rfl)
  | (with_reducible refine' v_div ?h1 ?h2 ?_); (case h1 => walk_at "num"); (case h2 => walk_at "num")
  | (with_reducible refine' v_mod ?h1 ?_); (case h1 => walk_at "num")
  | (with_reducible refine' v_pow ?h1 ?_); (case h1 => walk_at "num")
  | (with_reducible refine' v_mulR ?h1 ?_); (case h1 => walk_at "num")
  | (with_reducible refine' v_mulL ?h1 ?_); (case h1 => walk_at "num")
  | (with_reducible refine' v_fin ?h1 ?_); (case h1 => first | exact Or.inl rfl | exact Or.inr rfl | (refine Or.inr ?_; simp only [List.length_set, *]; done))
  | (with_reducible refine' v_ix ?h1 ?_); (case h1 => first | exact ixD_ref (by assumption) (by rfl) | rfl)
  | (with_reducible refine' v_len ?h1 ?_); (case h1 => first | exact lenD_ref (by assumption) | rfl)
  | (with_reducible refine' v_list ?h1 ?_); (case h1 => rfl)
  | (with_reducible refine' v_listR ?h1 ?_); (case h1 => rfl)
  | (with_reducible refine' v_tuple ?h1 ?_); (case h1 => rfl)
  | (with_reducible refine' v_isd ?h1 ?_); (case h1 => rfl)
  | (with_reducible refine' v_isiTy ?h1 ?h2 ?_); (case h1 => rfl); (case h2 => rfl)
  | (with_reducible refine' v_isiT ?h1 ?_); (case h1 => rfl))
local macro_rules | `(tactic| walk_at "dv2") => `(tactic| first
  | refine v_gsub (by rfl) (by rfl) (by assumption) (by rfl) (fun _ _ _ => ?_) | refine ⟨_, rfl, ?_⟩ | (with_reducible refine' ⟨rng_ok ?h1 ?h2, ?_⟩); (case h1 => omega); (case h2 => omega) | refine ⟨rfl, ?_⟩ | refine ⟨_, _, rfl, ?_⟩ | refine ⟨Nat.le_of_ble_eq_true rfl, ?_⟩)
local macro_rules | `(tactic| walk_at "dv3") => `(tactic| first
  | (with_reducible refine' v_dec (fun _ => ?_) (fun hn => absurd ?h hn)); (case h => first | assumption | omega | decide)
  | (with_reducible refine' v_dec (fun hn => absurd hn ?h) (fun _ => ?_)); (case h => first | assumption | omega | decide)
  | (with_reducible refine' v_ndec (fun _ => ?_) (fun hn => absurd hn ?h)); (case h => first | assumption | omega | decide)
  | (with_reducible refine' v_ndec (fun hn => absurd ?h hn) (fun _ => ?_)); (case h => first | assumption | omega | decide)
  | (with_reducible refine' v_bT ?h ?_); (case h => first | assumption | rfl)
  | (with_reducible refine' v_bF ?h ?_); (case h => first | assumption | rfl))
local macro_rules | `(tactic| walk_at "dv4") => `(tactic| with_reducible first
  | refine v_places ?_ | refine v_roads ?_ | refine v_over ?_ | refine v_line ?_ | refine v_spots ?_ | refine v_myards ?_ | refine v_mroads ?_ | refine v_mW (by decide +kernel) ?_ | refine v_mK (by decide +kernel) ?_
  | refine v_itX ?_ | refine v_ev ?_ | refine v_rev ?_ | refine v_zs ?_ | refine v_enum ?_ | refine v_enum2 ?_ | refine v_makeV ?_ | refine v_tryN ?_ | refine v_lc2 ?_ | refine v_fz ?_ | refine v_make ?_ | refine v_fldS ?_)
local macro_rules | `(tactic| walk_at "dv5") => `(tactic| first
  | refine ⟨_, _, rfl, rfl, ?_⟩ | refine ⟨⟨_, _, rfl⟩, ?_⟩ | refine ⟨⟨_, _, _, rfl⟩, ?_⟩ | refine ⟨_, _, _, rfl, ?_⟩ | refine Or.inl ⟨_, rfl, ?_⟩ | refine Or.inr ⟨_, (fun _ z => by cases z), rfl, ?_⟩)
local macro_rules | `(tactic| walk_at "dv") => `(tactic| repeat (first | walk_at "dv0" | walk_at "dv4" | walk_at "dv1" | walk_at "dv3" | walk_at "dv2" | walk_at "dv5"))
theorem rangeD_drop {n k : Nat} (h : k < n) : (rangeD 0 n).drop k = .int (k : Int) :: (rangeD 0 n).drop (k + 1) := by
  have hl : k < (rangeD 0 n).length := by simp [rangeD, h]
  rw [List.drop_eq_getElem_cons hl]
  simp [rangeD]
theorem rangeD_end (n : Nat) : (rangeD 0 n).drop n = [] := by
  rw [List.drop_eq_nil_iff]
  simp [rangeD]
/-! ### the walk over that is told -/
def rowL (a : Int × Seg) : Dt := .lst (rowD a.1 a.2)
section
variable {m : Mod} {S : Store}
theorem together_ok {rows : List (Int × Seg)} (hr : ∀ a ∈ rows, a.2.length ≤ 1000) (hn : rows.length ≤ 50) : m_put_together [.lst (rows.map rowL)] S = .ok (rowL (rows.foldl jj (0, []))) S := by
  refine Pe.eq (v_fn ?_)
  unfold b_put_together
  walk_at "dv"
  refine v_loop (fun ds en T => T = S ∧ ∃ (x2 : Option Dt) (a b : List (Int × Seg)), rows = a ++ b ∧ ds = b.map rowL ∧ en = [some (.lst (rows.map rowL)), some (rowL (a.foldl jj (0, []))), x2] ∧ (a.foldl jj (0, [])).2.length ≤ 1000 * a.length)
    ⟨rfl, _, [], rows, rfl, rfl, rfl, Nat.le_refl _⟩ ?_ ?_
  · rintro d ds en T ⟨rfl, x2, a, b, e, ed, rfl, hl⟩
    cases b with
    | nil => cases ed
    | cons c b =>
      obtain ⟨rfl, rfl⟩ := List.cons.inj ed
      have hc := hr c (by rw [e]; simp)
      have ha : a.length ≤ 50 := by
        have := congrArg List.length e
        rw [List.length_append] at this
        omega
      refine ⟨_, _, rfl, ?_⟩
      walk_at "dv"
      refine Pe.of (joined_row_ok (t := (a.foldl jj (0, [])).1) (l := (a.foldl jj (0, [])).2) (t' := c.1) (l' := c.2) (by omega) (by omega)) ?_
      refine ⟨rfl, _, a ++ [c], b, by rw [e]; simp, rfl, by rw [List.foldl_append]; rfl, ?_⟩
      rw [List.foldl_append, List.length_append]
      show (jn _ _ _ _).2.length ≤ _
      rw [jn_len, List.length_singleton]
      omega
  · rintro en T ⟨rfl, x2, a, b, e, ed, rfl, hl⟩
    have hb : b = [] := by
      cases b with
      | nil => rfl
      | cons c b => cases ed
    subst hb
    rw [List.append_nil] at e
    subst e
    walk_at "dv"
    first | exact ⟨rfl, rfl⟩ | exact rfl
theorem plain_from_ok (ok : m.Ok) (hp : PureS S) {rows : List (Int × Seg)} (hr : ∀ a ∈ rows, a.2.length ≤ 1000) (hn : rows.length ≤ 50) {K0 : Int × Seg} (e0 : rows.foldl jj (0, []) = K0) {y z : Str} (h : Path m y K0.2 z) (hy : y ∈ m.ys) (hl : K0.2.length ≤ 200)
    {K : Pairs × Int} (eK : stl m [] K0.1 K0.2 = K) (b1 : (unp K.2 K.1).1.natAbs ≤ 10 ^ 60) (b2 : Within (10 ^ 60) (unp K.2 K.1).2) {Q : Dt → Store → Prop} {X : Ex → Store → Prop} (q : Q (walkD m y (unp K.2 K.1).1 (unp K.2 K.1).2) S) :
    Pe (m_plain_from [m.w, .str y, .lst (rows.map rowL)] S) Q X := by
  have sl := stl_len (m := m) [] K0.1 K0.2
  rw [eK, List.length_nil, Nat.zero_add] at sl
  have hP : Path m y (unp K.2 K.1).2 z := by
    have := stl_path (ps := ([] : Pairs)) (x := K0.1) (.nil y) h
    rw [eK] at this
    exact unp_path this _
  refine v_fn ?_
  unfold b_plain_from
  walk_at "dv"
  refine Pe.of (together_ok hr hn) ?_
  rw [e0]
  walk_at "dv"
  refine Pe.of (settled_ok ok hp h (by omega)) ?_
  rw [eK]
  walk_at "dv"
  refine Pe.of (row_of_ok (ps := K.1) (x := K.2) (by omega)) ?_
  walk_at "dv"
  refine v_walk2 ok hp hP hy b1 b2 (by rw [unp_len]; omega) ?_
  walk_at "dv"
  exact q
end
end Lw
set_option Elab.async false
set_option linter.all false
set_option maxRecDepth 100000
set_option maxHeartbeats 4000000
set_option autoImplicit false
namespace Lw
open PySem Dv
/-! steps of our own words -/
local macro_rules | `(tactic| walk_at "num") => `(tactic| first | assumption | decide | omega)
local macro_rules | `(tactic| walk_at "dv0") => `(tactic| with_reducible first
  | refine v_seq ?_ | refine v_ifS ?_ | refine v_set ?_ | refine v_ret ?_ | refine v_asg ?_ | refine v_par ?_ | refine v_drop ?_ | refine v_nx ?_ | refine v_bk ?_ | refine v_ct ?_ | refine v_retN ?_ | refine v_for ?_
  | refine v_c ?_ | refine v_nil ?_ | refine v_cons ?_ | refine v_op ?_ | refine v_B ?_ | refine v_truth ?_ | refine v_andT ?_ | refine v_orT ?_ | refine v_notT ?_
  | refine v_andV ?_ | refine v_orV ?_ | refine v_notV ?_ | refine v_if ?_ | refine v_neg ?_ | refine v_chain ?_ | refine v_tup ?_ | refine v_lst ?_ | refine v_lstR ?_ | refine v_noPart ?_ | refine v_part ?_ | refine v_sl ?_
  | refine v_CB ?_ | refine v_call ?_ | refine v_abs ?_ | refine v_lc ?_ | refine v_yes ?_ | refine v_it ?_ | refine v_rng1 ?_ | refine v_rng2 ?_ | refine v_rng3 ?_ | refine v_T ?_ | refine v_F ?_
  | refine v_add ?_ | refine v_sub ?_ | refine v_iadd ?_ | refine v_lt ?_ | refine v_le ?_ | refine v_gt ?_ | refine v_ge ?_ | refine v_eqI ?_ | refine v_neI ?_ | refine v_eqB ?_ | refine v_neB ?_)
local macro_rules | `(tactic| walk_at "dv1") => `(tactic| first
  | (with_reducible refine' v_var ?h ?_); (case h => rfl)
  | (with_reducible refine' v_aug ?h ?_); (case h => rfl)
  | (with_reducible refine' v_div ?h1 ?h2 ?_); (case h1 => walk_at "num"); (case h2 => walk_at "num")
  | (with_reducible refine' v_mod ?h1 ?_); (case h1 => walk_at "num")
  | (with_reducible refine' v_pow ?h1 ?_); (case h1 => walk_at "num")
  | (with_reducible refine' v_mulR ?h1 ?_); (case h1 => walk_at "num")
  | (with_reducible refine' v_mulL ?h1 ?_); (case h1 => walk_at "num")
  | (with_reducible refine' v_fin ?h1 ?_); (case h1 => first | exact Or.inl rfl | exact Or.inr rfl | (refine Or.inr ?_; simp only [List.length_set, *]; done))
  | (with_reducible refine' v_ix ?h1 ?_); (case h1 => first | exact ixD_ref (by assumption) (by rfl) | rfl)
  | (with_reducible refine' v_len ?h1 ?_); (case h1 => first | exact lenD_ref (by assumption) | rfl)
  | (with_reducible refine' v_list ?h1 ?_); (case h1 => rfl)
  | (with_reducible refine' v_listR ?h1 ?_); (case h1 => rfl)
  | (with_reducible refine' v_tuple ?h1 ?_); (case h1 => rfl)
  | (with_reducible refine' v_isd ?h1 ?_); (case h1 => rfl)
  | (with_reducible refine' v_isiTy ?h1 ?h2 ?_); (case h1 => rfl); (case h2 => rfl)
  | (with_reducible refine' v_isiT ?h1 ?_); (case h1 => rfl))
local macro_rules | `(tactic| walk_at "dv2") => `(tactic| first
  | refine v_gsub (by rfl) (by rfl) (by assumption) (by rfl) (fun _ _ _ => ?_) | refine ⟨_, rfl, ?_⟩ | (with_reducible refine' ⟨rng_ok ?h1 ?h2, ?_⟩); (case h1 => omega); (case h2 => omega) | refine ⟨rfl, ?_⟩ | refine ⟨_, _, rfl, ?_⟩ | refine ⟨Nat.le_of_ble_eq_true rfl, ?_⟩)
local macro_rules | `(tactic| walk_at "dv3") => `(tactic| first
  | (with_reducible refine' v_dec (fun _ => ?_) (fun hn => absurd ?h hn)); (case h => first | assumption | omega | decide)
  | (with_reducible refine' v_dec (fun hn => absurd hn ?h) (fun _ => ?_)); (case h => first | assumption | omega | decide)
  | (with_reducible refine' v_ndec (fun _ => ?_) (fun hn => absurd hn ?h)); (case h => first | assumption | omega | decide)
  | (with_reducible refine' v_ndec (fun hn => absurd ?h hn) (fun _ => ?_)); (case h => first | assumption | omega | decide)
  | (with_reducible refine' v_bT ?h ?_); (case h => first | assumption | rfl)
  | (with_reducible refine' v_bF ?h ?_); (case h => first | assumption | rfl))
local macro_rules | `(tactic| walk_at "dv4") => `(tactic| with_reducible first
  | refine v_places ?_ | refine v_roads ?_ | refine v_over ?_ | refine v_line ?_ | refine v_spots ?_ | refine v_myards ?_ | refine v_mroads ?_ | refine v_mW (by decide +kernel) ?_ | refine v_mK (by decide +kernel) ?_
  | refine v_itX ?_ | refine v_ev ?_ | refine v_rev ?_ | refine v_zs ?_ | refine v_enum ?_ | refine v_enum2 ?_ | refine v_makeV ?_ | refine v_tryN ?_ | refine v_lc2 ?_ | refine v_fz ?_ | refine v_make ?_ | refine v_fldS ?_)
local macro_rules | `(tactic| walk_at "dv5") => `(tactic| first
  | refine ⟨_, _, rfl, rfl, ?_⟩ | refine ⟨⟨_, _, rfl⟩, ?_⟩ | refine ⟨⟨_, _, _, rfl⟩, ?_⟩ | refine ⟨_, _, _, rfl, ?_⟩ | refine Or.inl ⟨_, rfl, ?_⟩ | refine Or.inr ⟨_, (fun _ z => by cases z), rfl, ?_⟩)
local macro_rules | `(tactic| walk_at "dv") => `(tactic| repeat (first | walk_at "dv0" | walk_at "dv4" | walk_at "dv1" | walk_at "dv3" | walk_at "dv2" | walk_at "dv5"))
/-! ### the steps that a web tells -/
theorem Ps.imp {r : RS} {QS QS' : Fl → Dv.Env → Store → Prop} {XS XS' : Ex → Dv.Env → Store → Prop} (h : Ps r QS XS) (hq : ∀ f e S, QS f e S → QS' f e S) (hx : ∀ x e S, XS x e S → XS' x e S) : Ps r QS' XS' := by
  cases r with
  | ok f e S => exact hq _ _ _ h
  | err x e S => exact hx _ _ _ h
  | stuck => exact h.elim
section
variable {m : Mod} {S : Store}
theorem web_steps_b (ok : m.Ok) {y : Str} (hy : y ∈ m.ys) : Ps (b_Web_steps_from [some m.w, some (.str y), none, none, none, none, none] S) (fun f _ T => f = .rt (.ref S.length) ∧ T = S ++ [.lst ((stepsOf y m.rs).map stD)]) (fun _ _ _ => False) := by
  have hs := ok.sy y hy
  unfold b_Web_steps_from
  walk_at "dv"
  refine Pe.of (need_yard_ok hy) ?_
  walk_at "dv"
  refine v_loop (fun ds en T => ∃ (x3 x4 x5 x6 : Option Dt) (a b : List Road), en = [some m.w, some (.str y), some (.ref S.length), x3, x4, x5, x6] ∧ m.rs = a ++ b ∧ ds = b.map Road.d ∧ T = S ++ [.lst ((stepsOf y a).map stD)]) ⟨_, _, _, _, [], m.rs, rfl, rfl, rfl, rfl⟩ ?_ ?_
  · rintro d ds en T ⟨x3, x4, x5, x6, a, b, rfl, el, e2, rfl⟩
    cases b with
    | nil => cases e2
    | cons r b =>
      obtain ⟨rfl, rfl⟩ := List.cons.inj e2
      have hr : r ∈ m.rs := by rw [el]; simp
      have hle : (stepsOf y a).length ≤ 100 := by
        have h1 : a.length ≤ 8 := by
          have := ok.lr
          rw [el, List.length_append] at this
          omega
        have := stepsOf_len (y := y) a
        omega
      refine ⟨_, _, rfl, ?_⟩
      have second : ∀ (l1 : List Step), l1 = (if r.b = y then [(r.n, (1 : Int))] else []) → l1.length ≤ 1 → Ps (mIfS (mB (mOp mEq (mVar 5) (mVar 1))) (mDrop (mApp1 (mVar 2) (mTup (mCons (mVar 3) (mCons (mNeg (mC (.int 1))) mNil))))) mNx [some m.w, some (.str y), some (.ref S.length), some (.str r.n), some (.str r.b), some (.str r.e), some (.lst [.int r.h, .int r.t])] (S ++ [.lst ((stepsOf y a ++ l1).map stD)]))
          (fun f e2 S2 => match f with | .nx => ∃ (x3 x4 x5 x6 : Option Dt) (a b' : List Road), e2 = [some m.w, some (.str y), some (.ref S.length), x3, x4, x5, x6] ∧ m.rs = a ++ b' ∧ b.map Road.d = b'.map Road.d ∧ S2 = S ++ [.lst ((stepsOf y a).map stD)] | _ => False) (fun _ _ _ => False) := by
        intro l1 el1 hl1
        walk_at "dv"
        refine v_eqS (ok.sr r hr).2.2 hs ?_
        refine ⟨_, rfl, ?_⟩
        refine v_dec (fun e => ?_) (fun e => ?_)
        · walk_at "dv"
          refine v_app1K rfl last_at ?_
          walk_at "dv"
          refine ⟨_, last_at, by rw [List.length_map, List.length_append]; omega, ?_⟩
          refine ⟨_, _, _, _, a ++ [r], b, rfl, by rw [el]; simp, rfl, ?_⟩
          rw [set_last]
          have z : stepsOf y (a ++ [r]) = stepsOf y a ++ l1 ++ [(r.n, (-1 : Int))] := by
            unfold stepsOf
            rw [List.flatMap_append, List.flatMap_cons, List.flatMap_nil, List.append_nil, if_pos e, el1, List.append_assoc]
          rw [z]
          simp only [List.map_append, List.map_cons, List.map_nil]
        · walk_at "dv"
          refine ⟨_, _, _, _, a ++ [r], b, rfl, by rw [el]; simp, rfl, ?_⟩
          have z : stepsOf y (a ++ [r]) = stepsOf y a ++ l1 := by
            unfold stepsOf
            rw [List.flatMap_append, List.flatMap_cons, List.flatMap_nil, List.append_nil, if_neg e, el1, List.append_nil]
          rw [z]
      have fin2 : ∀ {r : RS} {P : Dv.Env → Store → Prop} {QS : Fl → Dv.Env → Store → Prop} {XS : Ex → Dv.Env → Store → Prop}, Ps r (fun f e2 S2 => match f with | .nx => P e2 S2 | _ => False) (fun _ _ _ => False) → (∀ e2 S2, P e2 S2 → QS .nx e2 S2) → Ps r QS XS := by
        intro r P QS XS h hq
        cases r with
        | stuck => exact h.elim
        | err x e s => exact h.elim
        | ok f e s =>
          cases f with
          | nx => exact hq _ _ h
          | _ => exact h.elim
      walk_at "dv"
      refine v_eqS (ok.sr r hr).2.1 hs ?_
      refine ⟨_, rfl, ?_⟩
      refine v_dec (fun e => ?_) (fun e => ?_)
      · walk_at "dv"
        refine v_app1K rfl last_at ?_
        walk_at "dv"
        refine ⟨_, last_at, by rw [List.length_map]; omega, ?_⟩
        rw [set_last]
        have h := second [(r.n, 1)] (by rw [if_pos e]) (Nat.le_refl _)
        rw [List.map_append] at h
        exact fin2 h fun _ _ z => z
      · walk_at "dv0"
        have h := second [] (by rw [if_neg e]) (Nat.zero_le _)
        rw [List.append_nil] at h
        exact fin2 h fun _ _ z => z
  · rintro en T ⟨x3, x4, x5, x6, a, b, rfl, el, e2, rfl⟩
    have hb : b = [] := by simpa using e2.symm
    subst hb
    rw [List.append_nil] at el
    rw [← el]
    walk_at "dv"
    first | exact ⟨rfl, rfl⟩ | exact rfl
end
section
variable {m : Mod} {S : Store} {en : Dv.Env}
theorem web_steps_ok (ok : m.Ok) (hp : PureS S) {y : Str} (hy : y ∈ m.ys) : m_Web_steps_from [m.w, .str y] S = .ok (.lst ((stepsOf y m.rs).map stD)) S := by
  refine Pe.eq (v_fn (Ps.imp (web_steps_b ok hy) (fun f en T h => ?_) fun _ _ _ h => h.elim))
  obtain ⟨rfl, rfl⟩ := h
  exact v_finJ Jz.refl.push hp last_at (Nat.le_refl _) (steps_pure _ 10) ⟨rfl, rfl⟩
end
/-! ### the law's own seeing -/
section
variable {m : Mod} {S : Store}
theorem law_sees_ok (ok : m.Ok) (hp : PureS S) {y y' : Str} (hy : PyData.strOk y' = true) {u : Int × Seg} {t t' : Int} {l l' : Seg} (hu : Path m y' u.2 y) (h : Path m y l y) (h' : Path m y' l' y') (hl : u.2.length + l.length + u.2.length ≤ 900) (hl' : l'.length ≤ 900)
    (e : stl m [] (jj (jj u (t, l)) (bb u)).1 (jj (jj u (t, l)) (bb u)).2 = stl m [] t' l') : m_law_sees [m.d, walkD m y' u.1 u.2, .lst (rowD t l), .str y', .lst (rowD t' l')] S = .ok (.bl true) S := by
  have b1 := bk_len u.1 u.2
  have j1 := jn_len u.1 u.2 t l
  have j2 := jn_len (jn u.1 u.2 t l).1 (jn u.1 u.2 t l).2 (bk u.1 u.2).1 (bk u.1 u.2).2
  refine Pe.eq (v_fn ?_)
  unfold b_law_sees
  walk_at "dv"
  refine Pe.of walk_row_ok ?_
  walk_at "dv"
  refine Pe.of walk_start_ok ?_
  walk_at "dv"
  refine v_neS hy hy ?_
  refine ⟨_, rfl, ?_⟩
  refine v_bF (by simp) ?_
  walk_at "dv"
  refine Pe.of (law_join_ok (t := u.1) (l := u.2) (t' := t) (l' := l) (by omega) (by omega)) ?_
  walk_at "dv"
  refine Pe.of (law_back_ok (t := u.1) (l := u.2) (by omega)) ?_
  walk_at "dv"
  refine Pe.of (law_join_ok (by omega) (by omega)) ?_
  walk_at "dv"
  refine Pe.of (law_settled_ok ok hp (jn_path (jn_path (t := u.1) (t' := t) hu h) (bk_path hu u.1)) (by omega)) ?_
  walk_at "dv"
  refine Pe.of (law_settled_ok ok hp h' hl') ?_
  refine v_eqB (okD_stl (stl_str ok (jn_path (jn_path (t := u.1) (t' := t) hu h) (bk_path hu u.1)) fun p hp => (List.not_mem_nil hp).elim)) (okD_stl (stl_str ok h' fun p hp => (List.not_mem_nil hp).elim)) (eqD_stl _ _) ?_
  rw [decide_eq_true (show stl m [] (jn (jn u.1 u.2 t l).1 (jn u.1 u.2 t l).2 (bk u.1 u.2).1 (bk u.1 u.2).2).1 (jn (jn u.1 u.2 t l).1 (jn u.1 u.2 t l).2 (bk u.1 u.2).1 (bk u.1 u.2).2).2 = stl m [] t' l' from e)]
  walk_at "dv"
  first | exact ⟨rfl, rfl⟩ | exact rfl
end
end Lw
set_option Elab.async false
set_option linter.all false
set_option maxRecDepth 100000
set_option maxHeartbeats 4000000
set_option autoImplicit false
namespace Lw
open PySem Dv
/-! steps of our own words -/
local macro_rules | `(tactic| walk_at "num") => `(tactic| first | assumption | decide | omega)
local macro_rules | `(tactic| walk_at "dv0") => `(tactic| with_reducible first
  | refine v_seq ?_ | refine v_ifS ?_ | refine v_set ?_ | refine v_ret ?_ | refine v_asg ?_ | refine v_par ?_ | refine v_drop ?_ | refine v_nx ?_ | refine v_bk ?_ | refine v_ct ?_ | refine v_retN ?_ | refine v_for ?_
  | refine v_c ?_ | refine v_nil ?_ | refine v_cons ?_ | refine v_op ?_ | refine v_B ?_ | refine v_truth ?_ | refine v_andT ?_ | refine v_orT ?_ | refine v_notT ?_
  | refine v_andV ?_ | refine v_orV ?_ | refine v_notV ?_ | refine v_if ?_ | refine v_neg ?_ | refine v_chain ?_ | refine v_tup ?_ | refine v_lst ?_ | refine v_lstR ?_ | refine v_noPart ?_ | refine v_part ?_ | refine v_sl ?_
  | refine v_CB ?_ | refine v_call ?_ | refine v_abs ?_ | refine v_lc ?_ | refine v_yes ?_ | refine v_it ?_ | refine v_rng1 ?_ | refine v_rng2 ?_ | refine v_rng3 ?_ | refine v_T ?_ | refine v_F ?_
  | refine v_add ?_ | refine v_sub ?_ | refine v_iadd ?_ | refine v_lt ?_ | refine v_le ?_ | refine v_gt ?_ | refine v_ge ?_ | refine v_eqI ?_ | refine v_neI ?_ | refine v_eqB ?_ | refine v_neB ?_)
local macro_rules | `(tactic| walk_at "dv1") => `(tactic| first
  | (with_reducible refine' v_var ?h ?_); (case h => rfl)
  | (with_reducible refine' v_aug ?h ?_); (case h => rfl)
  | (with_reducible refine' v_div ?h1 ?h2 ?_); (case h1 => walk_at "num"); (case h2 => walk_at "num")
  | (with_reducible refine' v_mod ?h1 ?_); (case h1 => walk_at "num")
  | (with_reducible refine' v_pow ?h1 ?_); (case h1 => walk_at "num")
  | (with_reducible refine' v_mulR ?h1 ?_); (case h1 => walk_at "num")
  | (with_reducible refine' v_mulL ?h1 ?_); (case h1 => walk_at "num")
  | (with_reducible refine' v_fin ?h1 ?_); (case h1 => first | exact Or.inl rfl | exact Or.inr rfl | (refine Or.inr ?_; simp only [List.length_set, *]; done))
  | (with_reducible refine' v_ix ?h1 ?_); (case h1 => first | exact ixD_ref (by assumption) (by rfl) | rfl)
  | (with_reducible refine' v_len ?h1 ?_); (case h1 => first | exact lenD_ref (by assumption) | rfl)
  | (with_reducible refine' v_list ?h1 ?_); (case h1 => rfl)
  | (with_reducible refine' v_listR ?h1 ?_); (case h1 => rfl)
  | (with_reducible refine' v_tuple ?h1 ?_); (case h1 => rfl)
  | (with_reducible refine' v_isd ?h1 ?_); (case h1 => rfl)
  | (with_reducible refine' v_isiTy ?h1 ?h2 ?_); (case h1 => rfl); (case h2 => rfl)
  | (with_reducible refine' v_isiT ?h1 ?_); (case h1 => rfl))
local macro_rules | `(tactic| walk_at "dv2") => `(tactic| first
  | refine v_gsub (by rfl) (by rfl) (by assumption) (by rfl) (fun _ _ _ => ?_) | refine ⟨_, rfl, ?_⟩ | (with_reducible refine' ⟨rng_ok ?h1 ?h2, ?_⟩); (case h1 => omega); (case h2 => omega) | refine ⟨rfl, ?_⟩ | refine ⟨_, _, rfl, ?_⟩ | refine ⟨Nat.le_of_ble_eq_true rfl, ?_⟩)
local macro_rules | `(tactic| walk_at "dv3") => `(tactic| first
  | (with_reducible refine' v_dec (fun _ => ?_) (fun hn => absurd ?h hn)); (case h => first | assumption | omega | decide)
  | (with_reducible refine' v_dec (fun hn => absurd hn ?h) (fun _ => ?_)); (case h => first | assumption | omega | decide)
  | (with_reducible refine' v_ndec (fun _ => ?_) (fun hn => absurd hn ?h)); (case h => first | assumption | omega | decide)
  | (with_reducible refine' v_ndec (fun hn => absurd ?h hn) (fun _ => ?_)); (case h => first | assumption | omega | decide)
  | (with_reducible refine' v_bT ?h ?_); (case h => first | assumption | rfl)
  | (with_reducible refine' v_bF ?h ?_); (case h => first | assumption | rfl))
local macro_rules | `(tactic| walk_at "dv4") => `(tactic| with_reducible first
  | refine v_places ?_ | refine v_roads ?_ | refine v_over ?_ | refine v_line ?_ | refine v_spots ?_ | refine v_myards ?_ | refine v_mroads ?_ | refine v_mW (by decide +kernel) ?_ | refine v_mK (by decide +kernel) ?_
  | refine v_itX ?_ | refine v_ev ?_ | refine v_rev ?_ | refine v_zs ?_ | refine v_enum ?_ | refine v_enum2 ?_ | refine v_makeV ?_ | refine v_tryN ?_ | refine v_lc2 ?_ | refine v_fz ?_ | refine v_make ?_ | refine v_fldS ?_)
local macro_rules | `(tactic| walk_at "dv5") => `(tactic| first
  | refine ⟨_, _, rfl, rfl, ?_⟩ | refine ⟨⟨_, _, rfl⟩, ?_⟩ | refine ⟨⟨_, _, _, rfl⟩, ?_⟩ | refine ⟨_, _, _, rfl, ?_⟩ | refine Or.inl ⟨_, rfl, ?_⟩ | refine Or.inr ⟨_, (fun _ z => by cases z), rfl, ?_⟩)
local macro_rules | `(tactic| walk_at "dv") => `(tactic| repeat (first | walk_at "dv0" | walk_at "dv4" | walk_at "dv1" | walk_at "dv3" | walk_at "dv2" | walk_at "dv5"))
/-! followed in parts -/
def b_followed_1 : Bd := (mIfS (mAndT (mB (mOp mEq (mOp mMod (mVar 8) (mVar 10)) (mC (.int 0)))) (mB (mOp (mInT true) (mVar 12) (mVar 4)))) (mSeq (mAsg (gKeyT (mVar 4) (mVar 12)) (mCall 2 m_joined_row (mCons (mOp mIxT (mVar 4) (mTup (mCons (mVar 7) (mCons (mVar 8) mNil)))) (mCons (mLst (mCons (mC (.int 0)) (mCons (mVar 9) (mCons (mC (.int 0)) mNil)))) mNil)))) (mDrop (mApp1 (mVar 5) (mVar 12)))) mNx)
def b_followed_2 : Bd := (mSeq (mSet 12 (mTup (mCons (mOp mIx (mMeth "Web" "ends" 2 m_Web_ends (mVar 0) (mCons (mVar 9) mNil)) (mC (.int 1))) (mCons (mOp mMul (mOp mDiv (mVar 8) (mVar 10)) (mVar 11)) mNil)))) b_followed_1)
def b_followed_3 : Bd := (mSeq (mAsg (gTp 2 (gCons' (gNm 10) (gCons' (gNm 11) gNil'))) (mMeth "Web" "rule" 2 m_Web_rule (mVar 0) (mCons (mVar 9) mNil))) b_followed_2)
def b_followed_4 : Bd := (mSeq (mFor (mIt (mMeth "Web" "steps_from" 2 m_Web_steps_from (mVar 0) (mCons (mVar 7) mNil))) (gNm 9) b_followed_3) (mAug 6 mIAdd (mC (.int 1))))
def b_followed_5 : Bd := (mSeq (mAsg (gTp 2 (gCons' (gNm 7) (gCons' (gNm 8) gNil'))) (mOp mIx (mVar 5) (mVar 6))) b_followed_4)
def b_followed_6 : Bd := (mSeq (mWhile (fun e S => 100000) (mAndT (mB (mOp mLt (mVar 6) (mCB mLen (mCons (mVar 5) mNil)))) (mB (mOp mLe (mCB mLen (mCons (mVar 5) mNil)) (mVar 3)))) b_followed_5) (mRet (mVar 4)))
def b_followed_7 : Bd := (mSeq (mSet 6 (mC (.int 0))) b_followed_6)
def b_followed_8 : Bd := (mSeq (mSet 5 (mLstR (mCons (mTup (mCons (mVar 1) (mCons (mVar 2) mNil))) mNil))) b_followed_7)
theorem b_followed_eq : b_followed = (mSeq (mSet 4 (mDictT (mTup (mCons (mVar 1) (mCons (mVar 2) mNil))) (mLst (mCons (mC (.int 0)) mNil)))) b_followed_8) := rfl
/-! ### turns followed: the list of yards and turns that are reached -/
abbrev Sta := Str × Int
def keyS (p : Sta) : List L2.Key := [.inr p.1, .inl p.2]
theorem keyS_iff {p q : Sta} : keyS p = keyS q ↔ p = q := by
  constructor
  · intro h
    obtain ⟨a, b⟩ := p
    obtain ⟨c, d⟩ := q
    have h1 := List.cons.inj h
    have h2 := List.cons.inj h1.2
    have e1 : a = c := Sum.inr.inj h1.1
    have e2 : b = d := Sum.inl.inj h2.1
    rw [e1, e2]
  · rintro rfl
    rfl
def staD (p : Sta) : Dt := .tup [.str p.1, .int p.2]
abbrev seg0 (w : List Step) : Seg := w.map fun s => (s, (0 : Int))
def rowS (w : List Step) : Dt := .lst (rowD 0 (seg0 w))
abbrev Lin := List (Sta × List Step)
def keysL (l : Lin) : List (List L2.Key) := l.map fun e => keyS e.1
def valsL (l : Lin) : List Dt := l.map fun e => rowS e.2
def sts (l : Lin) : List Sta := l.map (·.1)
theorem look_none : ∀ {l : Lin} {p : Sta}, p ∉ sts l → lookT (keysL l) (valsL l) (keyS p) = none
  | [], p, _ => rfl
  | e :: l, p, h => by
    have h1 : e.1 ≠ p := fun z => h (by rw [← z]; exact List.mem_cons_self)
    have ih := look_none (l := l) (p := p) fun z => h (List.mem_cons_of_mem _ z)
    show (if keyS e.1 = keyS p then some (rowS e.2) else lookT (keysL l) (valsL l) (keyS p)) = none
    rw [if_neg fun z => h1 (keyS_iff.mp z), ih]
theorem look_at : ∀ {l : Lin} {p : Sta} {w : List Step} {k : Nat}, (sts l).Nodup → l[k]? = some (p, w) → lookT (keysL l) (valsL l) (keyS p) = some (rowS w)
  | [], p, w, k, _, h => by simp at h
  | e :: l, p, w, k, nd, h => by
    have nd' := List.nodup_cons.mp nd
    cases k with
    | zero =>
      have h : e = (p, w) := by simpa using h
      subst h
      exact if_pos rfl
    | succ k =>
      have h : l[k]? = some (p, w) := by simpa using h
      have hp : p ∈ sts l := List.mem_map.mpr ⟨(p, w), List.mem_of_getElem? h, rfl⟩
      have h1 : e.1 ≠ p := fun z => nd'.1 (by show e.1 ∈ sts l; rw [z]; exact hp)
      show (if keyS e.1 = keyS p then some (rowS e.2) else lookT (keysL l) (valsL l) (keyS p)) = _
      rw [if_neg fun z => h1 (keyS_iff.mp z)]
      exact look_at nd'.2 h
theorem look_is {l : Lin} {p : Sta} (nd : (sts l).Nodup) : (lookT (keysL l) (valsL l) (keyS p)).isSome = decide (p ∈ sts l) := by
  by_cases h : p ∈ sts l
  · obtain ⟨e, he, rfl⟩ := List.mem_map.mp h
    obtain ⟨k, hk⟩ := List.getElem?_of_mem he
    rw [look_at nd (p := e.1) (w := e.2) hk, decide_eq_true h]
    rfl
  · rw [look_none h, decide_eq_false h]
    rfl
/-- what turns come to that a step lets through -/
def thr (m : Mod) (p : Sta) (s : Step) : Sta := (goes m s, p.2.fdiv (ruleOf m s).1 * (ruleOf m s).2)
def bfsIn (m : Mod) (p : Sta) (w : List Step) : Lin → List Step → Lin
  | l, [] => l
  | l, s :: ss => if p.2.fmod (ruleOf m s).1 = 0 ∧ thr m p s ∉ sts l then bfsIn m p w (l ++ [(thr m p s, w ++ [s])]) ss else bfsIn m p w l ss
def bfs (m : Mod) (L : Nat) : Nat → Nat → Lin → Lin
  | 0, _, l => l
  | n + 1, k, l => match l[k]? with
    | some e => if l.length ≤ L then bfs m L n (k + 1) (bfsIn m e.1 e.2 l (stepsOf e.1.1 m.rs)) else l
    | none => l
/-- all that is reached, or more than the limit -/
def reachL (m : Mod) (p : Sta) (L : Nat) : Lin := bfs m L (L + 1) 0 [(p, [])]
theorem bfs_stop {m : Mod} {L n k : Nat} {l : Lin} (h : l[k]? = none ∨ L < l.length) : bfs m L n k l = l := by
  cases n with
  | zero => rfl
  | succ n =>
    unfold bfs
    cases e : l[k]? with
    | none => rfl
    | some x =>
      rcases h with h | h
      · rw [e] at h; cases h
      · dsimp only
        rw [if_neg (by omega)]
theorem bfs_go {m : Mod} {L n k : Nat} {l : Lin} {e : Sta × List Step} (h : l[k]? = some e) (hl : l.length ≤ L) : bfs m L (n + 1) k l = bfs m L n (k + 1) (bfsIn m e.1 e.2 l (stepsOf e.1.1 m.rs)) := by
  conv => lhs; unfold bfs
  rw [h]
  dsimp only
  rw [if_pos hl]
/-- moved exactly along steps -/
def Exa (m : Mod) : Sta → List Step → Sta → Prop
  | p, [], q => p = q
  | p, s :: w, q => s ∈ stepsOf p.1 m.rs ∧ p.2.fmod (ruleOf m s).1 = 0 ∧ Exa m (thr m p s) w q
theorem Exa.snoc {m : Mod} : ∀ {w : List Step} {p q : Sta} {s : Step}, Exa m p w q → s ∈ stepsOf q.1 m.rs → q.2.fmod (ruleOf m s).1 = 0 → Exa m p (w ++ [s]) (thr m q s)
  | [], p, q, s, h, h1, h2 => by
    have h : p = q := h
    subst h
    exact ⟨h1, h2, rfl⟩
  | a :: w, p, q, s, h, h1, h2 => ⟨h.1, h.2.1, Exa.snoc h.2.2 h1 h2⟩
structure Good (m : Mod) (p0 : Sta) (l : Lin) : Prop where
  nd : (sts l).Nodup
  ex : ∀ e ∈ l, Exa m p0 e.2 e.1
  ys : ∀ e ∈ l, e.1.1 ∈ m.ys
  ln : ∀ (j : Nat) (e : Sta × List Step), l[j]? = some e → e.2.length ≤ j
section
variable {m : Mod} {p0 : Sta}
theorem step_goes (ok : m.Ok) {y : Str} {s : Step} (h : s ∈ stepsOf y m.rs) : goes m s ∈ m.ys := by
  obtain ⟨r, h1, h2, h3⟩ := stepsOf_mem ok h
  have e : goes m s = (r.ends s.2).2 := by unfold goes; rw [h1]
  rw [e]
  exact (ends_in ok h1 s.2).2
theorem Good.add (ok : m.Ok) {l : Lin} (g : Good m p0 l) {p : Sta} {w : List Step} {k : Nat} (hk : l[k]? = some (p, w)) {s : Step} (hs : s ∈ stepsOf p.1 m.rs) (h1 : p.2.fmod (ruleOf m s).1 = 0) (h2 : thr m p s ∉ sts l) : Good m p0 (l ++ [(thr m p s, w ++ [s])]) := by
  have hm := List.mem_of_getElem? hk
  have hlt := (List.getElem?_eq_some_iff.mp hk).1
  refine ⟨?_, fun e he => ?_, fun e he => ?_, fun j e he => ?_⟩
  · unfold sts
    rw [List.map_append]
    refine List.nodup_append.mpr ⟨g.nd, by simp, fun a ha b hb z => ?_⟩
    have hb : b = thr m p s := by simpa using hb
    rw [z, hb] at ha
    exact h2 ha
  · rcases List.mem_append.mp he with z | z
    · exact g.ex e z
    · rw [List.mem_singleton.mp z]
      exact (g.ex _ hm).snoc hs h1
  · rcases List.mem_append.mp he with z | z
    · exact g.ys e z
    · rw [List.mem_singleton.mp z]
      exact step_goes ok hs
  · by_cases hj : j < l.length
    · rw [List.getElem?_append_left hj] at he
      exact g.ln j e he
    · rw [List.getElem?_append_right (by omega)] at he
      have hj2 : j - l.length = 0 := by
        have := (List.getElem?_eq_some_iff.mp he).1
        simp at this
        omega
      rw [hj2] at he
      have he : (thr m p s, w ++ [s]) = e := by simpa using he
      rw [← he]
      have := g.ln k _ hk
      rw [List.length_append, List.length_singleton]
      dsimp only at this
      omega
theorem in_good (ok : m.Ok) {p : Sta} {w : List Step} {k : Nat} : ∀ (ss : List Step) {l : Lin}, Good m p0 l → l[k]? = some (p, w) → (∀ s ∈ ss, s ∈ stepsOf p.1 m.rs) → Good m p0 (bfsIn m p w l ss) ∧ (∃ t, bfsIn m p w l ss = l ++ t ∧ t.length ≤ ss.length)
  | [], l, g, _, _ => ⟨g, [], (List.append_nil l).symm, Nat.le_refl _⟩
  | s :: ss, l, g, hk, hs => by
    unfold bfsIn
    by_cases h : p.2.fmod (ruleOf m s).1 = 0 ∧ thr m p s ∉ sts l
    · rw [if_pos h]
      have g' := g.add ok hk (hs s List.mem_cons_self) h.1 h.2
      have hlt := (List.getElem?_eq_some_iff.mp hk).1
      obtain ⟨h1, t, h2, h3⟩ := in_good ok ss g' (by rw [List.getElem?_append_left hlt]; exact hk) fun x hx => hs x (List.mem_cons_of_mem _ hx)
      exact ⟨h1, (thr m p s, w ++ [s]) :: t, by rw [h2, List.append_assoc]; rfl, by rw [List.length_cons, List.length_cons]; omega⟩
    · rw [if_neg h]
      obtain ⟨h1, t, h2, h3⟩ := in_good ok ss g hk fun x hx => hs x (List.mem_cons_of_mem _ hx)
      exact ⟨h1, t, h2, by rw [List.length_cons]; omega⟩
/-- the state that a step leads to is in the list behind it -/
theorem in_there {p : Sta} {w : List Step} : ∀ (ss : List Step) {l : Lin} {s : Step}, s ∈ ss → p.2.fmod (ruleOf m s).1 = 0 → thr m p s ∈ sts (bfsIn m p w l ss)
  | [], l, s, h, _ => by cases h
  | a :: ss, l, s, h, h1 => by
    have keep : ∀ {q : Sta} {l : Lin} {ss : List Step}, q ∈ sts l → q ∈ sts (bfsIn m p w l ss) := by
      intro q l ss
      induction ss generalizing l with
      | nil => exact fun z => z
      | cons b ss ih =>
        intro z
        unfold bfsIn
        split
        · exact ih (by unfold sts; rw [List.map_append]; exact List.mem_append_left _ z)
        · exact ih z
    unfold bfsIn
    rcases List.mem_cons.mp h with rfl | h
    · split
      · exact keep (by unfold sts; rw [List.map_append]; exact List.mem_append_right _ (by simp))
      · rename_i hc
        exact keep (Classical.byContradiction fun z => hc ⟨h1, z⟩)
    · split
      · exact in_there ss h h1
      · exact in_there ss h h1
/-- closed up to a number -/
def Clo (m : Mod) (k : Nat) (l : Lin) : Prop := ∀ (j : Nat) (e : Sta × List Step), j < k → l[j]? = some e → ∀ s ∈ stepsOf e.1.1 m.rs, e.1.2.fmod (ruleOf m s).1 = 0 → thr m e.1 s ∈ sts l
theorem bfs_all (ok : m.Ok) {L : Nat} : ∀ (n k : Nat) (l : Lin), k + n = L + 1 → k ≤ l.length → Good m p0 l → Clo m k l → l.length ≤ L + 20 →
    Good m p0 (bfs m L n k l) ∧ (bfs m L n k l).length ≤ L + 20 ∧ (∃ t, bfs m L n k l = l ++ t) ∧ ((bfs m L n k l).length ≤ L → Clo m (bfs m L n k l).length (bfs m L n k l))
  | 0, k, l, hk, hkl, g, c, hl => by
    refine ⟨g, hl, ⟨[], (List.append_nil l).symm⟩, fun h => ?_⟩
    have h : l.length ≤ L := h
    omega
  | n + 1, k, l, hk, hkl, g, c, hl => by
    by_cases hc : k < l.length ∧ l.length ≤ L
    · have he : l[k]? = some l[k] := by simp [hc.1]
      rw [bfs_go he hc.2]
      have ha : ∀ s ∈ stepsOf l[k].1.1 m.rs, s ∈ stepsOf l[k].1.1 m.rs := fun s h => h
      obtain ⟨g', t, et, ht⟩ := in_good ok (p := l[k].1) (w := l[k].2) (stepsOf l[k].1.1 m.rs) g he ha
      have hs8 : (stepsOf l[k].1.1 m.rs).length ≤ 16 := by
        have := stepsOf_len (y := l[k].1.1) m.rs
        have := ok.lr
        omega
      have c' : Clo m (k + 1) (bfsIn m l[k].1 l[k].2 l (stepsOf l[k].1.1 m.rs)) := by
        intro j e hj hje s hs hd
        have hjl : j < l.length := by omega
        rw [et, List.getElem?_append_left hjl] at hje
        by_cases hjk : j < k
        · have := c j e hjk hje s hs hd
          rw [et]
          unfold sts
          rw [List.map_append]
          exact List.mem_append_left _ this
        · have : j = k := by omega
          subst this
          rw [he] at hje
          cases hje
          exact in_there _ hs hd
      have hcl := hc.1
      have hll := hc.2
      obtain ⟨r1, r2, ⟨t2, r3⟩, r4⟩ := bfs_all ok (L := L) n (k + 1) (bfsIn m l[k].1 l[k].2 l (stepsOf l[k].1.1 m.rs)) (by omega) (by rw [et, List.length_append]; omega) g' c' (by rw [et, List.length_append]; omega)
      exact ⟨r1, r2, ⟨t ++ t2, by rw [r3, et, List.append_assoc]⟩, r4⟩
    · have hst : l[k]? = none ∨ L < l.length := by
        by_cases h1 : k < l.length
        · exact .inr (by omega)
        · exact .inl (List.getElem?_eq_none (by omega))
      rw [bfs_stop hst]
      refine ⟨g, hl, ⟨[], (List.append_nil l).symm⟩, fun h => ?_⟩
      have : k = l.length := by omega
      rw [← this]
      exact c
theorem good_one {p : Sta} (hp : p.1 ∈ m.ys) : Good m p [(p, [])] := by
  refine ⟨by simp [sts], fun e he => ?_, fun e he => ?_, fun j e he => ?_⟩
  · rw [List.mem_singleton.mp he]; rfl
  · rw [List.mem_singleton.mp he]; exact hp
  · have := List.mem_of_getElem? he
    rw [List.mem_singleton.mp this]
    exact Nat.zero_le _
theorem reach_all (ok : m.Ok) {p : Sta} (hp : p.1 ∈ m.ys) (L : Nat) : Good m p (reachL m p L) ∧ (reachL m p L).length ≤ L + 20 ∧ (∃ t, reachL m p L = [(p, [])] ++ t) ∧ ((reachL m p L).length ≤ L → Clo m (reachL m p L).length (reachL m p L)) :=
  bfs_all ok (L + 1) 0 [(p, [])] (by omega) (Nat.zero_le _) (good_one hp) (fun j e hj => by omega) (by simp)
end
/-! ### the ways there are the shortest -/
section
variable {m : Mod} {p0 : Sta}
structure Bf (m : Mod) (p0 : Sta) (d : Nat) (l : Lin) : Prop where
  mon : ∀ (i j : Nat) (e f : Sta × List Step), i ≤ j → l[i]? = some e → l[j]? = some f → e.2.length ≤ f.2.length
  top : ∀ e ∈ l, e.2.length ≤ d + 1
  sho : ∀ e ∈ l, ∀ v, Exa m p0 v e.1 → e.2.length ≤ v.length
theorem Exa.last : ∀ {v : List Step} {p q : Sta}, Exa m p v q → v = [] ∧ p = q ∨ ∃ v' s q', v = v' ++ [s] ∧ Exa m p v' q' ∧ s ∈ stepsOf q'.1 m.rs ∧ q'.2.fmod (ruleOf m s).1 = 0 ∧ q = thr m q' s
  | [], p, q, h => .inl ⟨rfl, h⟩
  | a :: v, p, q, h => by
    obtain ⟨h1, h2, h3⟩ := h
    rcases Exa.last h3 with ⟨rfl, e⟩ | ⟨v', s, q', rfl, h4, h5, h6, h7⟩
    · exact .inr ⟨[], a, p, rfl, rfl, h1, h2, e.symm⟩
    · exact .inr ⟨a :: v', s, q', rfl, ⟨h1, h2, h4⟩, h5, h6, h7⟩
/-- what is so near is there -/
theorem near_in {l : Lin} {k d : Nat} {e : Sta × List Step} (hk : l[k]? = some e) (hd : e.2.length = d) (b : Bf m p0 d l) (c : Clo m k l) (h0 : p0 ∈ sts l) : ∀ (n : Nat) (v : List Step) (q : Sta), v.length = n → n ≤ d → Exa m p0 v q → q ∈ sts l
  | 0, v, q, hv, _, h => by
    have : v = [] := List.eq_nil_of_length_eq_zero hv
    subst this
    have h : p0 = q := h
    rw [← h]
    exact h0
  | n + 1, v, q, hv, hn, h => by
    rcases h.last with ⟨rfl, _⟩ | ⟨v', s, q', rfl, h4, h5, h6, rfl⟩
    · cases hv
    · rw [List.length_append, List.length_singleton] at hv
      have ih := near_in hk hd b c h0 n v' q' (by omega) (by omega) h4
      obtain ⟨f, hf, ef⟩ := List.mem_map.mp ih
      obtain ⟨i, hi⟩ := List.getElem?_of_mem hf
      have hlen := b.sho f hf v' (by rw [ef]; exact h4)
      have hik : i < k := by
        apply Classical.byContradiction
        intro z
        have := b.mon k i e f (by omega) hk hi
        omega
      rw [← ef] at h5 h6 ⊢
      exact c i f hik hi s h5 h6
theorem Bf.add {l : Lin} {k d : Nat} {e : Sta × List Step} (hk : l[k]? = some e) (hd : e.2.length = d) (b : Bf m p0 d l) (c : Clo m k l) (h0 : p0 ∈ sts l) {g : Sta} {s : Step} (hg : g ∉ sts l) : Bf m p0 d (l ++ [(g, e.2 ++ [s])]) := by
  have hl : (e.2 ++ [s]).length = d + 1 := by rw [List.length_append, List.length_singleton, hd]
  have split : ∀ {i : Nat} {f : Sta × List Step}, (l ++ [(g, e.2 ++ [s])])[i]? = some f → l[i]? = some f ∧ i < l.length ∨ f = (g, e.2 ++ [s]) ∧ i = l.length := by
    intro i f h
    by_cases hi : i < l.length
    · rw [List.getElem?_append_left hi] at h
      exact .inl ⟨h, hi⟩
    · have hlt := (List.getElem?_eq_some_iff.mp h).1
      rw [List.length_append, List.length_singleton] at hlt
      rw [List.getElem?_append_right (by omega), show i - l.length = 0 by omega] at h
      have h : (g, e.2 ++ [s]) = f := by simpa using h
      exact .inr ⟨h.symm, by omega⟩
  refine ⟨fun i j e1 f1 hij h1 h2 => ?_, fun f hf => ?_, fun f hf v hv => ?_⟩
  · rcases split h1 with ⟨a, _⟩ | ⟨a, _⟩ <;> rcases split h2 with ⟨a2, _⟩ | ⟨a2, _⟩
    · exact b.mon i j e1 f1 hij a a2
    · rw [a2, hl]
      exact b.top e1 (List.mem_of_getElem? a)
    · omega
    · rw [a, a2]; exact Nat.le_refl _
  · rcases List.mem_append.mp hf with z | z
    · exact b.top f z
    · rw [List.mem_singleton.mp z, hl]
      exact Nat.le_refl _
  · rcases List.mem_append.mp hf with z | z
    · exact b.sho f z v hv
    · rw [List.mem_singleton.mp z] at hv ⊢
      rw [hl]
      apply Classical.byContradiction
      intro hn
      exact hg (near_in hk hd b c h0 v.length v g rfl (by omega) hv)
theorem Clo.app {l t : Lin} {k : Nat} (c : Clo m k l) (hk : k ≤ l.length) : Clo m k (l ++ t) := by
  intro j e hj he s hs hd
  rw [List.getElem?_append_left (by omega)] at he
  unfold sts
  rw [List.map_append]
  exact List.mem_append_left _ (c j e hj he s hs hd)
theorem in_short {p : Sta} {w : List Step} {k d : Nat} (hw : w.length = d) : ∀ (ss : List Step) {l : Lin}, l[k]? = some (p, w) → Bf m p0 d l → Clo m k l → p0 ∈ sts l → Bf m p0 d (bfsIn m p w l ss)
  | [], l, _, b, _, _ => b
  | s :: ss, l, hk, b, c, h0 => by
    have hlt := (List.getElem?_eq_some_iff.mp hk).1
    unfold bfsIn
    by_cases h : p.2.fmod (ruleOf m s).1 = 0 ∧ thr m p s ∉ sts l
    · rw [if_pos h]
      exact in_short hw ss (by rw [List.getElem?_append_left hlt]; exact hk) (b.add hk hw c h0 h.2) (c.app (by omega)) (by unfold sts; rw [List.map_append]; exact List.mem_append_left _ h0)
    · rw [if_neg h]
      exact in_short hw ss hk b c h0
theorem bfs_short (ok : m.Ok) {L : Nat} : ∀ (n k : Nat) (l : Lin), k ≤ l.length → Good m p0 l → Clo m k l → p0 ∈ sts l → (∀ e, l[k]? = some e → Bf m p0 e.2.length l) → (∀ e ∈ l, ∀ v, Exa m p0 v e.1 → e.2.length ≤ v.length) → ∀ e ∈ bfs m L n k l, ∀ v, Exa m p0 v e.1 → e.2.length ≤ v.length
  | 0, k, l, _, _, _, _, _, h => h
  | n + 1, k, l, hkl, g, c, h0, hb, h => by
    by_cases hc : k < l.length ∧ l.length ≤ L
    · have he : l[k]? = some l[k] := by simp [hc.1]
      rw [bfs_go he hc.2]
      have b := hb _ he
      obtain ⟨g', t, et, ht⟩ := in_good ok (p := l[k].1) (w := l[k].2) (stepsOf l[k].1.1 m.rs) g he fun s h => h
      have b' := in_short (p := l[k].1) (w := l[k].2) rfl (stepsOf l[k].1.1 m.rs) he b c h0
      have c' : Clo m (k + 1) (bfsIn m l[k].1 l[k].2 l (stepsOf l[k].1.1 m.rs)) := by
        intro j e hj hje s hs hd
        have hjl : j < l.length := by omega
        by_cases hjk : j < k
        · rw [et] at hje ⊢
          exact c.app hkl j e hjk hje s hs hd
        · have : j = k := by omega
          subst this
          rw [et, List.getElem?_append_left hjl, he] at hje
          cases hje
          exact in_there _ hs hd
      refine bfs_short ok n (k + 1) _ (by rw [et, List.length_append]; omega) g' c' (by rw [et]; unfold sts; rw [List.map_append]; exact List.mem_append_left _ h0) (fun e he2 => ?_) b'.sho
      have hm := b'.mon k (k + 1) l[k] e (by omega) (by rw [et, List.getElem?_append_left hc.1]; exact he) he2
      exact ⟨b'.mon, fun f hf => by have := b'.top f hf; omega, b'.sho⟩
    · have hst : l[k]? = none ∨ L < l.length := by
        by_cases h1 : k < l.length
        · exact .inr (by omega)
        · exact .inl (List.getElem?_eq_none (by omega))
      rw [bfs_stop hst]
      exact h
theorem reach_short (ok : m.Ok) {p : Sta} (hp : p.1 ∈ m.ys) (L : Nat) : ∀ e ∈ reachL m p L, ∀ v, Exa m p v e.1 → e.2.length ≤ v.length := by
  have one : ∀ e ∈ ([(p, [])] : Lin), ∀ v, Exa m p v e.1 → e.2.length ≤ v.length := fun e he v _ => by
    rw [List.mem_singleton.mp he]
    exact Nat.zero_le _
  refine bfs_short ok (L + 1) 0 [(p, [])] (Nat.zero_le _) (good_one hp) (fun j e hj => by omega) (by simp [sts]) (fun e he => ?_) one
  have he : (p, []) = e := by simpa using he
  subst he
  refine ⟨fun i j e f _ h1 h2 => ?_, fun e h => ?_, one⟩
  · have := List.mem_of_getElem? h1
    rw [List.mem_singleton.mp this]
    exact Nat.zero_le _
  · rw [List.mem_singleton.mp h]
    exact Nat.zero_le _
/-! how many are reached -/
theorem nodup_le {α : Type} [DecidableEq α] : ∀ {l c : List α}, l.Nodup → (∀ x ∈ l, x ∈ c) → l.length ≤ c.length
  | [], _, _, _ => Nat.zero_le _
  | a :: l, c, nd, h => by
    obtain ⟨n1, n2⟩ := List.nodup_cons.mp nd
    have ha := h a List.mem_cons_self
    have ih := nodup_le (l := l) (c := c.erase a) n2 fun x hx => by
      have ne : x ≠ a := fun z => n1 (by rw [← z]; exact hx)
      exact (List.mem_erase_of_ne ne).mpr (h x (List.mem_cons_of_mem _ hx))
    rw [List.length_erase_of_mem ha] at ih
    have : 0 < c.length := List.length_pos_of_mem ha
    rw [List.length_cons]
    omega
/-- a list of all that can be reached -/
structure Comp (m : Mod) (p : Sta) (C : List Sta) : Prop where
  nd : C.Nodup
  here : p ∈ C
  clo : ∀ q ∈ C, ∀ s ∈ stepsOf q.1 m.rs, q.2.fmod (ruleOf m s).1 = 0 → thr m q s ∈ C
  ex : ∀ q ∈ C, ∃ w, Exa m p w q
theorem Comp.all {p : Sta} {C : List Sta} (c : Comp m p C) : ∀ (w : List Step) (q q' : Sta), q ∈ C → Exa m q w q' → q' ∈ C
  | [], q, q', h, e => by
    have e : q = q' := e
    rw [← e]
    exact h
  | s :: w, q, q', h, e => c.all w _ q' (c.clo q h s e.1 e.2.1) e.2.2
theorem clo_all {p : Sta} {l : Lin} (c : Clo m l.length l) : ∀ (w : List Step) (q q' : Sta), q ∈ sts l → Exa m q w q' → q' ∈ sts l
  | [], q, q', h, e => by
    have e : q = q' := e
    rw [← e]
    exact h
  | s :: w, q, q', h, e => by
    obtain ⟨f, hf, ef⟩ := List.mem_map.mp h
    obtain ⟨i, hi⟩ := List.getElem?_of_mem hf
    have e1 := e.1
    have e2 := e.2.1
    rw [← ef] at e1 e2
    have := c i f (List.getElem?_eq_some_iff.mp hi).1 hi s e1 e2
    rw [ef] at this
    exact clo_all (p := p) c w _ q' this e.2.2
theorem comp_reach (ok : m.Ok) {p : Sta} (hp : p.1 ∈ m.ys) {C : List Sta} (c : Comp m p C) (L : Nat) : (L < (reachL m p L).length ↔ L < C.length) ∧ ((reachL m p L).length ≤ L → (reachL m p L).length = C.length ∧ ∀ q, q ∈ sts (reachL m p L) ↔ q ∈ C) ∧ ∀ q ∈ sts (reachL m p L), q ∈ C := by
  obtain ⟨g, _, ⟨t, et⟩, cl⟩ := reach_all ok hp L
  have h0 : p ∈ sts (reachL m p L) := by rw [et]; simp [sts]
  have sub : ∀ q ∈ sts (reachL m p L), q ∈ C := by
    intro q hq
    obtain ⟨e, he, rfl⟩ := List.mem_map.mp hq
    exact c.all e.2 p e.1 c.here (g.ex e he)
  have ls : (sts (reachL m p L)).length = (reachL m p L).length := by unfold sts; rw [List.length_map]
  have le1 := nodup_le g.nd sub
  rw [ls] at le1
  have full : (reachL m p L).length ≤ L → ∀ q ∈ C, q ∈ sts (reachL m p L) := by
    intro h q hq
    obtain ⟨w, hw⟩ := c.ex q hq
    exact clo_all (p := p) (cl h) w p q h0 hw
  refine ⟨⟨fun h => by omega, fun h => ?_⟩, fun h => ⟨?_, fun q => ⟨sub q, full h q⟩⟩, sub⟩
  · apply Classical.byContradiction
    intro z
    have := nodup_le c.nd (full (by omega))
    rw [ls] at this
    omega
  · have := nodup_le c.nd (full h)
    rw [ls] at this
    omega
end
/-! ### followed, walked -/
section
variable {m : Mod} {S : Store}
theorem jn0 (w : List Step) (s : Step) : jn 0 (seg0 w) 0 [(s, (0 : Int))] = (0, seg0 (w ++ [s])) := by
  have h : ∀ w : List Step, lastT 0 (seg0 w) = 0 := by
    intro w
    induction w with
    | nil => rfl
    | cons a w ih => exact ih
  have h2 : ∀ w : List Step, setT 0 (seg0 w) 0 = (0, seg0 w) := by
    intro w
    induction w with
    | nil => rfl
    | cons a w ih =>
      unfold seg0 at ih ⊢
      rw [List.map_cons]
      unfold setT
      rw [ih]
  unfold jn
  rw [h, Int.add_zero, h2]
  unfold seg0
  rw [List.map_append]
  rfl
theorem rowS_pure (w : List Step) : noRef 11 (rowS w) = true := by
  unfold rowS
  exact rowD_pure 0 (seg0 w) 9
theorem valsL_pure (l : Lin) : (valsL l).all (noRef 11) = true := by
  unfold valsL
  rw [List.all_map, List.all_eq_true]
  exact fun e _ => rowS_pure e.2
def staL (l : Lin) : List Dt := (sts l).map staD
theorem staL_pure (l : Lin) : (staL l).all (noRef 11) = true := by
  unfold staL
  rw [List.all_map, List.all_eq_true]
  exact fun e _ => rfl
abbrev folS (S : Store) (l : Lin) : Store := S ++ [.dkt (keysL l) (valsL l), .lst (staL l)]
theorem folS_pure (hp : PureS S) (l : Lin) : PureS (folS S l) := by
  intro o ho
  rcases List.mem_append.mp ho with z | z
  · exact hp o z
  · simp only [List.mem_cons, List.not_mem_nil, or_false] at z
    rcases z with rfl | rfl
    · exact valsL_pure l
    · exact staL_pure l
theorem fol_dkt (l : Lin) : (folS S l)[S.length]? = some (.dkt (keysL l) (valsL l)) := by simp
theorem fol_lst (l : Lin) : (folS S l)[S.length + 1]? = some (.lst (staL l)) := by
  rw [List.getElem?_append_right (by omega), Nat.add_sub_cancel_left]
  rfl
theorem fol_set (l l' : Lin) : ((folS S l).set S.length (.dkt (keysL l') (valsL l'))).set (S.length + 1) (.lst (staL l')) = folS S l' := by
  rw [List.set_append_right _ _ (Nat.le_refl _), Nat.sub_self, List.set_append_right _ _ (by omega), Nat.add_sub_cancel_left]
  rfl
theorem dkt_at {T : Store} {i : Nat} {ks : List (List L2.Key)} {ds : List Dt} (h : T[i]? = some (.dkt ks ds)) : dktAt T (.ref i) = some (ks, ds) := by
  unfold dktAt
  simp only [h]
theorem key_sta (p : Sta) : mapO keyD [.str p.1, .int p.2] = some (keyS p) := rfl
theorem v_inT2 {T : Store} {i : Nat} {l : Lin} {p : Sta} {neg : Bool} (hT : T[i]? = some (.dkt (keysL l) (valsL l))) (nd : (sts l).Nodup) {Q : Dt → Store → Prop} {X : Ex → Store → Prop} (q : Q (.bl (if neg then !decide (p ∈ sts l) else decide (p ∈ sts l))) T) : Pe (mInT neg (staD p) (.ref i) T) Q X := by
  have e : mInT neg (staD p) (.ref i) T = .ok (.bl (if neg then !decide (p ∈ sts l) else decide (p ∈ sts l))) T := by
    unfold mInT staD
    rw [dkt_at hT]
    dsimp only
    rw [key_sta]
    dsimp only
    rw [look_is nd]
  exact Pe.of e q
theorem v_ixT2 {T : Store} {i k : Nat} {l : Lin} {p : Sta} {w : List Step} (hT : T[i]? = some (.dkt (keysL l) (valsL l))) (nd : (sts l).Nodup) (hk : l[k]? = some (p, w)) {Q : Dt → Store → Prop} {X : Ex → Store → Prop} (q : Q (rowS w) T) : Pe (mIxT (.ref i) (staD p) T) Q X := by
  have e : mIxT (.ref i) (staD p) T = .ok (rowS w) T := by
    unfold mIxT staD
    rw [dkt_at hT]
    dsimp only
    rw [key_sta]
    show (match lookT (keysL l) (valsL l) (keyS p) with | some d => R.ok d T | none => .stuck) = _
    rw [look_at nd hk]
  exact Pe.of e q
theorem setK_new {T : Store} {i : Nat} {l : Lin} {p : Sta} {w : List Step} (hT : T[i]? = some (.dkt (keysL l) (valsL l))) (hn : p ∉ sts l) (hl : l.length < 100000) : Dv.setT T (.ref i) (staD p) (rowS w) = some (T.set i (.dkt (keysL (l ++ [(p, w)])) (valsL (l ++ [(p, w)])))) := by
  unfold Dv.setT staD
  dsimp only
  rw [hT, key_sta]
  dsimp only
  rw [if_pos ⟨by rw [look_none hn]; rfl, by unfold keysL; rw [List.length_map]; exact hl⟩]
  unfold keysL valsL
  rw [List.map_append, List.map_append]
  rfl
abbrev en13 (a b c d e f g h i j k l n : Option Dt) : Dv.Env := [a, b, c, d, e, f, g, h, i, j, k, l, n]
theorem followed_ok (ok : m.Ok) (hp : PureS S) {y : Str} {t : Int} (hy : y ∈ m.ys) {L : Nat} (hL : L ≤ 1000) {Q : Dt → Store → Prop} {X : Ex → Store → Prop} (q : Q (.ref S.length) (folS S (reachL m (y, t) L))) : Pe (m_followed [m.w, .str y, .int t, .int L] S) Q X := by
  refine v_fn ?_
  rw [b_followed_eq]
  have e1 : mDictT (mTup (mCons (mVar 1) (mCons (mVar 2) mNil))) (mLst (mCons (mC (.int 0)) mNil)) (en13 (some m.w) (some (.str y)) (some (.int t)) (some (.int L)) none none none none none none none none none) S = .ok (.ref S.length) (S ++ [.dkt [keyS (y, t)] [rowS []]]) := rfl
  refine v_seq (v_set (Pe.of e1 ?_))
  unfold b_followed_8
  refine v_seq (v_set (v_lstR (v_cons (v_tup (v_cons (v_var rfl (v_cons (v_var rfl (v_nil ⟨Nat.le_of_ble_eq_true rfl, v_nil ⟨Nat.le_of_ble_eq_true rfl, ?_⟩⟩)))))))))
  have e2 : (S ++ [Ob.dkt [keyS (y, t)] [rowS []]]).length = S.length + 1 := by simp
  rw [e2]
  have e3 : S ++ [Ob.dkt [keyS (y, t)] [rowS []]] ++ [.lst [.tup [.str y, .int t]]] = folS S [((y, t), [])] := by
    rw [List.append_assoc]
    rfl
  rw [e3]
  unfold b_followed_7
  refine v_seq (v_set (v_c ?_))
  obtain ⟨_, rlen, _, _⟩ := reach_all ok (p := (y, t)) hy L
  unfold b_followed_6
  refine v_seq (v_while (fun n en T => ∃ (k : Nat) (l : Lin) (x7 x8 x9 x10 x11 x12 : Option Dt), en = en13 (some m.w) (some (.str y)) (some (.int t)) (some (.int L)) (some (.ref S.length)) (some (.ref (S.length + 1))) (some (.int k)) x7 x8 x9 x10 x11 x12 ∧ T = folS S l ∧ n + k = 100000 ∧ k ≤ L + 1 ∧ Good m (y, t) l ∧ l.length ≤ L + 20 ∧ bfs m L (L + 1 - k) k l = reachL m (y, t) L)
    ⟨0, [((y, t), [])], _, _, _, _, _, _, rfl, rfl, rfl, Nat.zero_le _, good_one hy, by simp, rfl⟩ ?_)
  rintro n en T ⟨k, l, x7, x8, x9, x10, x11, x12, rfl, rfl, hn, hk, g, hl, hb⟩
  refine ⟨n - 1, by omega, ?_⟩
  have stop : (l[k]? = none ∨ L < l.length) → Ps (mRet (mVar 4) (en13 (some m.w) (some (.str y)) (some (.int t)) (some (.int L)) (some (.ref S.length)) (some (.ref (S.length + 1))) (some (.int k)) x7 x8 x9 x10 x11 x12) (folS S l)) (fun f _ S' => match f with
      | .rt d => Pe (fin true S.length d S') Q X
      | .nx => Pe (fin true S.length .non S') Q X
      | _ => False) (fun x _ S' => Pe (finX true S.length x S') Q X) := by
    intro h
    rw [bfs_stop h] at hb
    refine v_ret (v_var rfl (v_fin (.inl rfl) ?_))
    rw [hb]
    exact q
  have hlen : lenD (folS S l) (.ref (S.length + 1)) = some l.length := by
    have := lenD_ref (fol_lst (S := S) l)
    unfold staL sts at this
    rw [List.length_map, List.length_map] at this
    exact this
  refine v_andT (v_B (v_op (v_var rfl (v_CB (v_cons (v_var rfl (v_nil (v_len hlen (v_lt ⟨_, rfl, ?_⟩)))))))))
  refine v_dec (fun h1 => ?_) (fun h1 => ?_)
  · refine v_B (v_op (v_CB (v_cons (v_var rfl (v_nil (v_len hlen (v_var rfl (v_le ⟨_, rfl, ?_⟩))))))))
    refine v_dec (fun h2 => ?_) (fun h2 => stop (.inr (by omega)))
    obtain ⟨⟨p, w⟩, he⟩ : ∃ e, l[k]? = some e := ⟨l[k]'(by omega), by simp⟩
    have hm := List.mem_of_getElem? he
    have hpy := g.ys _ hm
    have hex := g.ex _ hm
    have hw := g.ln k _ he
    dsimp only at hpy hw
    have hix : ixD (folS S l) (.ref (S.length + 1)) (k : Int) = some (staD p) := ixD_ref (fol_lst l) (atI_in (j := k) (by unfold staL sts; rw [List.getElem?_map, List.getElem?_map, he]; rfl))
    unfold b_followed_5
    refine v_seq (v_asg (v_op (v_var rfl (v_var rfl (v_ix hix ⟨_, _, rfl, ?_⟩)))))
    unfold b_followed_4
    refine v_seq (v_for (v_it (ds := []) (d := .non) (v_mW (by decide +kernel) (v_var rfl ⟨⟨_, _, rfl⟩, v_cons (v_var rfl (v_nil ⟨rfl, ?_⟩))⟩))))
    refine Pe.of (web_steps_ok ok (folS_pure hp l) hpy) ⟨_, rfl, ?_⟩
    refine v_loop (fun ds en T => ∃ (rest : List Step) (l' : Lin) (x9 x10 x11 x12 : Option Dt), ds = rest.map stD ∧ en = en13 (some m.w) (some (.str y)) (some (.int t)) (some (.int L)) (some (.ref S.length)) (some (.ref (S.length + 1))) (some (.int k)) (some (.str p.1)) (some (.int p.2)) x9 x10 x11 x12 ∧ T = folS S l' ∧ (∀ s ∈ rest, s ∈ stepsOf p.1 m.rs) ∧ Good m (y, t) l' ∧ l'[k]? = some (p, w) ∧ l'.length + rest.length ≤ l.length + 16 ∧ bfsIn m p w l' rest = bfsIn m p w l (stepsOf p.1 m.rs))
      ⟨stepsOf p.1 m.rs, l, _, _, _, _, rfl, rfl, rfl, fun s h => h, g, he, by
        have := stepsOf_len (y := p.1) m.rs
        have := ok.lr
        omega, rfl⟩ ?_ ?_
    · rintro d ds en T ⟨rest, l', y9, y10, y11, y12, hds, rfl, rfl, hrest, g', he', hl', hb'⟩
      cases rest with
      | nil => cases hds
      | cons s rest =>
        rw [List.map_cons] at hds
        obtain ⟨rfl, rfl⟩ := List.cons.inj hds
        rw [List.length_cons] at hl'
        have hs := hrest s List.mem_cons_self
        obtain ⟨r, r1, r2, r3⟩ := stepsOf_mem ok hs
        have er := ruleOf_road r1
        have eg : goes m s = (r.ends s.2).2 := by unfold goes; rw [r1]
        obtain ⟨⟨n1, b1⟩, n2, b2⟩ := rule_ne ok s
        refine ⟨_, _, rfl, ?_⟩
        unfold b_followed_3
        refine v_seq (v_asg (v_mW (by decide +kernel) (v_var rfl ⟨⟨_, _, rfl⟩, v_cons (v_var rfl (v_nil ⟨rfl, ?_⟩))⟩)))
        refine Pe.of (web_rule_ok ok r1 r2) ⟨_, _, rfl, ?_⟩
        rw [← er]
        unfold b_followed_2
        refine v_seq (v_set (v_tup (v_cons (v_op (v_mW (by decide +kernel) (v_var rfl ⟨⟨_, _, rfl⟩, v_cons (v_var rfl (v_nil ⟨rfl, ?_⟩))⟩))))))
        refine Pe.of (web_ends_ok ok r1 r2) ?_
        refine v_c (v_ix (d := .str (goes m s)) (by rw [eg]; rfl) ?_)
        refine v_cons (v_op (v_op (v_var rfl (v_var rfl (v_div n1 (log_lt (by omega) n1) (v_var rfl (v_mulR (by omega) (v_nil ⟨Nat.le_of_ble_eq_true rfl, ?_⟩))))))))
        unfold b_followed_1
        refine v_ifS (v_andT (v_B (v_op (v_op (v_var rfl (v_var rfl (v_mod n1 (v_c (v_eqI ⟨_, rfl, ?_⟩)))))))))
        have go : ∀ {l2 : Lin} {en' : Dv.Env} {T' : Store}, en' = en13 (some m.w) (some (.str y)) (some (.int t)) (some (.int L)) (some (.ref S.length)) (some (.ref (S.length + 1))) (some (.int k)) (some (.str p.1)) (some (.int p.2)) (some (stD s)) (some (.int (ruleOf m s).1)) (some (.int (ruleOf m s).2)) (some (staD (thr m p s))) → T' = folS S l2 → Good m (y, t) l2 → l2[k]? = some (p, w) → l2.length ≤ l'.length + 1 → bfsIn m p w l2 rest = bfsIn m p w l (stepsOf p.1 m.rs) →
            ∃ (rest2 : List Step) (l' : Lin) (x9 x10 x11 x12 : Option Dt), rest.map stD = rest2.map stD ∧ en' = en13 (some m.w) (some (.str y)) (some (.int t)) (some (.int L)) (some (.ref S.length)) (some (.ref (S.length + 1))) (some (.int k)) (some (.str p.1)) (some (.int p.2)) x9 x10 x11 x12 ∧ T' = folS S l' ∧ (∀ s ∈ rest2, s ∈ stepsOf p.1 m.rs) ∧ Good m (y, t) l' ∧ l'[k]? = some (p, w) ∧ l'.length + rest2.length ≤ l.length + 16 ∧ bfsIn m p w l' rest2 = bfsIn m p w l (stepsOf p.1 m.rs) := by
          rintro l2 en' T' rfl rfl a1 a2 a3 a4
          exact ⟨rest, l2, _, _, _, _, rfl, rfl, rfl, fun x hx => hrest x (List.mem_cons_of_mem _ hx), a1, a2, by omega, a4⟩
        have unf : (if p.2.fmod (ruleOf m s).1 = 0 ∧ thr m p s ∉ sts l' then bfsIn m p w (l' ++ [(thr m p s, w ++ [s])]) rest else bfsIn m p w l' rest) = bfsIn m p w l (stepsOf p.1 m.rs) := hb'
        have hgl : (folS S l')[S.length + 1]? = some (.lst (staL l')) := fol_lst l'
        have lsta : (staL l').length = l'.length := by unfold staL sts; rw [List.length_map, List.length_map]
        refine v_dec (fun hd => ?_) (fun hd => ?_)
        · refine v_B (v_op (v_var rfl (v_var rfl (v_inT2 (p := thr m p s) (fol_dkt l') g'.nd ⟨_, rfl, ?_⟩))))
          refine v_ndec (fun hn => ?_) (fun hn => ?_)
          · rw [if_pos ⟨hd, hn⟩] at unf
            refine v_seq (v_asg (v_call (v_cons (v_op (v_var rfl (v_tup (v_cons (v_var rfl (v_cons (v_var rfl (v_nil ⟨Nat.le_of_ble_eq_true rfl, ?_⟩)))))))))))
            refine v_ixT2 (p := p) (fol_dkt l') g'.nd he' ?_
            refine v_cons (v_lst (v_cons (v_c (v_cons (v_var rfl (v_cons (v_c (v_nil ⟨Nat.le_of_ble_eq_true rfl, v_nil ⟨rfl, ?_⟩⟩))))))))
            have hj := joined_row_ok (S := folS S l') (t := 0) (l := seg0 w) (t' := 0) (l' := [(s, (0 : Int))]) (by unfold seg0; rw [List.length_map]; omega) (Nat.le_of_ble_eq_true rfl)
            rw [jn0] at hj
            refine Pe.of hj ?_
            refine ⟨en13 (some m.w) (some (.str y)) (some (.int t)) (some (.int L)) (some (.ref S.length)) (some (.ref (S.length + 1))) (some (.int k)) (some (.str p.1)) (some (.int p.2)) (some (stD s)) (some (.int (ruleOf m s).1)) (some (.int (ruleOf m s).2)) (some (staD (thr m p s))), (folS S l').set S.length (.dkt (keysL (l' ++ [(thr m p s, w ++ [s])])) (valsL (l' ++ [(thr m p s, w ++ [s])]))), ?_, ?_⟩
            · have hk2 := setK_new (T := folS S l') (w := w ++ [s]) (fol_dkt l') hn (by omega)
              exact congrArg (Option.map fun S3 => (_, S3)) hk2
            have hg2 : ((folS S l').set S.length (.dkt (keysL (l' ++ [(thr m p s, w ++ [s])])) (valsL (l' ++ [(thr m p s, w ++ [s])]))))[S.length + 1]? = some (.lst (staL l')) := by
              rw [List.getElem?_set_ne (by omega)]
              exact hgl
            refine v_drop (v_app1K rfl hg2 (v_var rfl ⟨_, hg2, by omega, ?_⟩))
            have es : staL l' ++ [staD (thr m p s)] = staL (l' ++ [(thr m p s, w ++ [s])]) := by
              unfold staL sts
              rw [List.map_append, List.map_append]
              rfl
            have hlt := (List.getElem?_eq_some_iff.mp he').1
            refine go rfl ?_ (g'.add ok he' hs hd hn) (by rw [List.getElem?_append_left hlt]; exact he') (by simp) unf
            rw [← fol_set l' (l' ++ [(thr m p s, w ++ [s])]), ← es]
          · rw [if_neg (fun z => z.2 hn)] at unf
            exact v_nx (go rfl rfl g' he' (by omega) unf)
        · rw [if_neg (fun z => hd z.1)] at unf
          exact v_F (v_nx (go rfl rfl g' he' (by omega) unf))
    · rintro en T ⟨rest, l', y9, y10, y11, y12, hds, rfl, rfl, hrest, g', he', hl', hb'⟩
      have hr : rest = [] := List.map_eq_nil_iff.mp hds.symm
      subst hr
      have hb2 : l' = bfsIn m p w l (stepsOf p.1 m.rs) := hb'
      refine v_aug rfl (v_c (v_iadd ?_))
      refine ⟨k + 1, l', _, _, _, _, _, _, rfl, rfl, by omega, by omega, g', by rw [List.length_nil] at hl'; omega, ?_⟩
      rw [show L + 1 - k = (L - k) + 1 by omega, bfs_go he (by omega)] at hb
      rw [show L + 1 - (k + 1) = L - k by omega, hb2]
      exact hb
  · exact v_F (stop (.inl (List.getElem?_eq_none (by omega))))
end
end Lw
set_option Elab.async false
set_option linter.all false
set_option maxRecDepth 100000
set_option maxHeartbeats 4000000
set_option autoImplicit false
namespace Lw
open PySem Dv
/-! steps of our own words -/
local macro_rules | `(tactic| walk_at "num") => `(tactic| first | assumption | decide | omega)
local macro_rules | `(tactic| walk_at "dv0") => `(tactic| with_reducible first
  | refine v_seq ?_ | refine v_ifS ?_ | refine v_set ?_ | refine v_ret ?_ | refine v_asg ?_ | refine v_par ?_ | refine v_drop ?_ | refine v_nx ?_ | refine v_bk ?_ | refine v_ct ?_ | refine v_retN ?_ | refine v_for ?_
  | refine v_c ?_ | refine v_nil ?_ | refine v_cons ?_ | refine v_op ?_ | refine v_B ?_ | refine v_truth ?_ | refine v_andT ?_ | refine v_orT ?_ | refine v_notT ?_
  | refine v_andV ?_ | refine v_orV ?_ | refine v_notV ?_ | refine v_if ?_ | refine v_neg ?_ | refine v_chain ?_ | refine v_tup ?_ | refine v_lst ?_ | refine v_lstR ?_ | refine v_noPart ?_ | refine v_part ?_ | refine v_sl ?_
  | refine v_CB ?_ | refine v_call ?_ | refine v_abs ?_ | refine v_lc ?_ | refine v_yes ?_ | refine v_it ?_ | refine v_rng1 ?_ | refine v_rng2 ?_ | refine v_rng3 ?_ | refine v_T ?_ | refine v_F ?_
  | refine v_add ?_ | refine v_sub ?_ | refine v_iadd ?_ | refine v_lt ?_ | refine v_le ?_ | refine v_gt ?_ | refine v_ge ?_ | refine v_eqI ?_ | refine v_neI ?_ | refine v_eqB ?_ | refine v_neB ?_)
local macro_rules | `(tactic| walk_at "dv1") => `(tactic| first
  | (with_reducible refine' v_var ?h ?_); (case h => rfl)
  | (with_reducible refine' v_aug ?h ?_); (case h => rfl)
  | (with_reducible refine' v_div ?h1 ?h2 ?_); (case h1 => walk_at "num"); (case h2 => walk_at "num")
  | (with_reducible refine' v_mod ?h1 ?_); (case h1 => walk_at "num")
  | (with_reducible refine' v_pow ?h1 ?_); (case h1 => walk_at "num")
  | (with_reducible refine' v_mulR ?h1 ?_); (case h1 => walk_at "num")
  | (with_reducible refine' v_mulL ?h1 ?_); (case h1 => walk_at "num")
  | (with_reducible refine' v_fin ?h1 ?_); (case h1 => first | exact Or.inl rfl | exact Or.inr rfl | (refine Or.inr ?_; simp only [List.length_set, *]; done))
  | (with_reducible refine' v_ix ?h1 ?_); (case h1 => first | exact ixD_ref (by assumption) (by rfl) | rfl)
  | (with_reducible refine' v_len ?h1 ?_); (case h1 => first | exact lenD_ref (by assumption) | rfl)
  | (with_reducible refine' v_list ?h1 ?_); (case h1 => rfl)
  | (with_reducible refine' v_listR ?h1 ?_); (case h1 => rfl)
  | (with_reducible refine' v_tuple ?h1 ?_); (case h1 => rfl)
  | (with_reducible refine' v_isd ?h1 ?_); (case h1 => rfl)
  | (with_reducible refine' v_isiTy ?h1 ?h2 ?_); (case h1 => rfl); (case h2 => rfl)
  | (with_reducible refine' v_isiT ?h1 ?_); (case h1 => rfl))
local macro_rules | `(tactic| walk_at "dv2") => `(tactic| first
  | refine v_gsub (by rfl) (by rfl) (by assumption) (by rfl) (fun _ _ _ => ?_) | refine ⟨_, rfl, ?_⟩ | (with_reducible refine' ⟨rng_ok ?h1 ?h2, ?_⟩); (case h1 => omega); (case h2 => omega) | refine ⟨rfl, ?_⟩ | refine ⟨_, _, rfl, ?_⟩ | refine ⟨Nat.le_of_ble_eq_true rfl, ?_⟩)
local macro_rules | `(tactic| walk_at "dv3") => `(tactic| first
  | (with_reducible refine' v_dec (fun _ => ?_) (fun hn => absurd ?h hn)); (case h => first | assumption | omega | decide)
  | (with_reducible refine' v_dec (fun hn => absurd hn ?h) (fun _ => ?_)); (case h => first | assumption | omega | decide)
  | (with_reducible refine' v_ndec (fun _ => ?_) (fun hn => absurd hn ?h)); (case h => first | assumption | omega | decide)
  | (with_reducible refine' v_ndec (fun hn => absurd ?h hn) (fun _ => ?_)); (case h => first | assumption | omega | decide)
  | (with_reducible refine' v_bT ?h ?_); (case h => first | assumption | rfl)
  | (with_reducible refine' v_bF ?h ?_); (case h => first | assumption | rfl))
local macro_rules | `(tactic| walk_at "dv4") => `(tactic| with_reducible first
  | refine v_places ?_ | refine v_roads ?_ | refine v_over ?_ | refine v_line ?_ | refine v_spots ?_ | refine v_myards ?_ | refine v_mroads ?_ | refine v_mW (by decide +kernel) ?_ | refine v_mK (by decide +kernel) ?_
  | refine v_itX ?_ | refine v_ev ?_ | refine v_rev ?_ | refine v_zs ?_ | refine v_enum ?_ | refine v_enum2 ?_ | refine v_makeV ?_ | refine v_tryN ?_ | refine v_lc2 ?_ | refine v_fz ?_ | refine v_make ?_ | refine v_fldS ?_)
local macro_rules | `(tactic| walk_at "dv5") => `(tactic| first
  | refine ⟨_, _, rfl, rfl, ?_⟩ | refine ⟨⟨_, _, rfl⟩, ?_⟩ | refine ⟨⟨_, _, _, rfl⟩, ?_⟩ | refine ⟨_, _, _, rfl, ?_⟩ | refine Or.inl ⟨_, rfl, ?_⟩ | refine Or.inr ⟨_, (fun _ z => by cases z), rfl, ?_⟩)
local macro_rules | `(tactic| walk_at "dv") => `(tactic| repeat (first | walk_at "dv0" | walk_at "dv4" | walk_at "dv1" | walk_at "dv3" | walk_at "dv2" | walk_at "dv5"))
/-! ### walks that stay: what stay_of tells -/
section
variable {m : Mod} {S : Store}
theorem ex_run (ok : m.Ok) : ∀ (w : List Step) (p q : Sta) (P : Pairs) (c : Int), Exa m p w q → stl m P (c + p.2) (seg0 w) = ((stl m P c (seg0 w)).1, (stl m P c (seg0 w)).2 + q.2)
  | [], p, q, P, c, h => by
    have h : p = q := h
    subst h
    rfl
  | s :: w, p, q, P, c, h => by
    obtain ⟨h1, h2, h3⟩ := h
    have e : p.2.fdiv (ruleOf m s).1 * (ruleOf m s).1 = p.2 := by
      have h9 := Int.fmod_add_mul_fdiv p.2 (ruleOf m s).1
      rwa [h2, Int.mul_comm, Int.zero_add] at h9
    show stl m (G m s P (c + p.2)).1 ((G m s P (c + p.2)).2 + 0) (seg0 w) = ((stl m (G m s P c).1 ((G m s P c).2 + 0) (seg0 w)).1, (stl m (G m s P c).1 ((G m s P c).2 + 0) (seg0 w)).2 + q.2)
    have e2 : G m s P (c + p.2) = ((G m s P c).1, (G m s P c).2 + (thr m p s).2) := by
      have := G_add ok s P c (p.2.fdiv (ruleOf m s).1)
      rw [e] at this
      exact this
    rw [e2]
    have ih := ex_run ok w (thr m p s) q (G m s P c).1 (G m s P c).2 h3
    rw [Int.add_zero, Int.add_zero]
    exact ih
theorem Exa.path (ok : m.Ok) : ∀ (w : List Step) (p q : Sta), Exa m p w q → Path m p.1 (seg0 w) q.1
  | [], p, q, h => by
    have h : p = q := h
    subst h
    exact .nil _
  | s :: w, p, q, h => by
    obtain ⟨h1, h2, h3⟩ := h
    obtain ⟨r, r1, r2, r3⟩ := stepsOf_mem ok h1
    have eg : goes m s = (r.ends s.2).2 := by unfold goes; rw [r1]
    have ih := Exa.path ok w (thr m p s) q h3
    have ih : Path m (goes m s) (seg0 w) q.1 := ih
    rw [eg] at ih
    exact .cons r1 r2 r3 ih
/-- the row that is told -/
def putS (g' : Pairs) (w : List Step) (g : Pairs) : Int × Seg := jj (jj (jj (0, []) (unp 0 g')) (bb (0, seg0 w))) (bb (unp 0 g))
theorem putS_run (g' : Pairs) (w : List Step) (g : Pairs) (σ : Pairs × Int) : Rw m (putS g' w g) σ = Rw m (bb (unp 0 g)) (Rw m (bb (0, seg0 w)) (runP m σ g')) := by
  unfold putS
  rw [Rw.jj, Rw.jj, Rw.jj]
  have e0 : Rw m (0, []) σ = σ := by
    rw [Rw.turn]
    show (σ.1, σ.2 + 0) = σ
    rw [Int.add_zero]
  rw [e0, Rw.unp, Int.add_zero]
theorem putS_ways {g' g : Pairs} {w : List Step} (h1 : PlA m g') (hw : Ways (seg0 w)) (h3 : PlA m g) : Ways (putS g' w g).2 := by
  have jw : ∀ {a b : Int × Seg}, Ways a.2 → Ways b.2 → Ways (jj a b).2 := fun h h' => Ways.app.mpr ⟨setT_ways h, h'⟩
  exact jw (jw (jw (fun p hp => (List.not_mem_nil hp).elim) (unp_ways h1)) (bb_ways hw)) (bb_ways (unp_ways h3))
theorem stay_sees (ok : m.Ok) {t t' x x' : Int} {l l' : Seg} {g g' : Pairs} {w : List Step} {y y' : Str} (hw : Ways l) (hw' : Ways l') (hg : Pl m g) (hg' : Pl m g') (h1 : SeenE m (stl m [] t l) ([], x) g) (h2 : SeenE m (stl m [] t' l') ([], x') g') (he : Exa m (y, x) w (y', x')) (ww : Ways (seg0 w))
    {K : Pairs × Int} (hK : K = stl m [] (putS g' w g).1 (putS g' w g).2) : stl m [] (jj (jj (unp K.2 K.1) (t, l)) (bb (unp K.2 K.1))).1 (jj (jj (unp K.2 K.1) (t, l)) (bb (unp K.2 K.1))).2 = stl m [] t' l' := by
  have kw := putS_ways hg'.ways ww hg.ways
  have hKp : Pl m K.1 := by rw [hK]; exact stl_pl ok kw .nil
  have kp : Ways (unp K.2 K.1).2 := unp_ways hKp.ways
  have pl1 : Pl m (stl m [] t l).1 := stl_pl ok hw .nil
  have pl2 : Pl m (stl m [] t' l').1 := stl_pl ok hw' .nil
  rw [← Rw.one, Rw.jj, Rw.jj]
  have e1 : Rw m (unp K.2 K.1) ([], 0) = K := by
    rw [Rw.one]
    exact stl_self ok hKp
  rw [e1]
  have e2 : Rw m (t, l) K = Rw m (unp K.2 K.1) (stl m [] t' l') := by
    have z := Rw.self ok (a := putS g' w g) kw pl2
    rw [← hK] at z
    rw [z, putS_run, Rw.nf ok (a := (t, l)) hw hKp]
    have hK2 := hK
    rw [← Rw.one, putS_run, plain_self ok 0 hg'] at hK2
    have h1 : act m (stl m [] t l) (g, 0) = act m (g, 0) ([], x) := h1
    have h2' : runP m (stl m [] t' l') g' = (g', x') := by
      have h2 : ((runP m (stl m [] t' l') g').1, (runP m (stl m [] t' l') g').2 + 0) = (g', 0 + x') := h2
      rwa [Int.add_zero, Int.zero_add] at h2
    rw [h2']
    generalize hY : Rw m (bb (0, seg0 w)) (g', 0) = Y at *
    have pY : Pl m Y.1 := by
      rw [← hY]
      exact Rw.pl ok (bb_ways ww) hg'
    have wY : Rw m (0, seg0 w) Y = (g', 0) := by
      rw [← hY]
      exact Rw.kb ok ww hg'
    have f1 : Rw m (bb (0, seg0 w)) (g', x') = (Y.1, Y.2 + x) := by
      have r := ex_run ok w (y, x) (y', x') Y.1 Y.2 he
      have r0 : stl m Y.1 Y.2 (seg0 w) = (g', 0) := by
        have z0 : stl m Y.1 (Y.2 + 0) (seg0 w) = (g', 0) := wY
        rwa [Int.add_zero] at z0
      rw [r0] at r
      have r : stl m Y.1 (Y.2 + x) (seg0 w) = (g', 0 + x') := r
      rw [Int.zero_add] at r
      have k := Rw.bb ok (a := (0, seg0 w)) (σ := (Y.1, Y.2 + x)) ww pY
      have r2 : Rw m (0, seg0 w) (Y.1, Y.2 + x) = (g', x') := by
        show stl m Y.1 (Y.2 + x + 0) (seg0 w) = _
        rw [Int.add_zero]
        exact r
      rwa [r2] at k
    rw [f1]
    have wg : Ways (unp 0 g).2 := unp_ways hg.ways
    have pW : Pl m (act m K (stl m [] t l)).1 := act_pl ok hKp pl1
    have pg : Pl m ((g, 0) : Pairs × Int).1 := hg
    have ph : Pl m (([], x) : Pairs × Int).1 := .nil
    have kg : act m K (g, 0) = Y := by
      have k := Rw.kb ok (a := unp 0 g) (σ := Y) wg pY
      rw [← hK2, Rw.unp] at k
      exact k
    have k1 : act m (act m K (stl m [] t l)) (g, 0) = (Y.1, Y.2 + x) := by
      rw [act_assoc ok hKp pl1 pg, h1, ← act_assoc ok hKp pg ph, kg]
      rfl
    have k2 := Rw.bb ok (a := unp 0 g) (σ := act m K (stl m [] t l)) wg pW
    have k3 : Rw m (unp 0 g) (act m K (stl m [] t l)) = (Y.1, Y.2 + x) := by
      rw [← k1, Rw.unp]
      rfl
    rw [k3] at k2
    exact k2.symm
  rw [e2, Rw.bb ok kp (stl_pl ok hw' .nil)]
end
end Lw
set_option Elab.async false
set_option linter.all false
set_option maxRecDepth 100000
set_option maxHeartbeats 4000000
set_option autoImplicit false
namespace Lw
open PySem Dv
/-! steps of our own words -/
local macro_rules | `(tactic| walk_at "num") => `(tactic| first | assumption | decide | omega)
local macro_rules | `(tactic| walk_at "dv0") => `(tactic| with_reducible first
  | refine v_seq ?_ | refine v_ifS ?_ | refine v_set ?_ | refine v_ret ?_ | refine v_asg ?_ | refine v_par ?_ | refine v_drop ?_ | refine v_nx ?_ | refine v_bk ?_ | refine v_ct ?_ | refine v_retN ?_ | refine v_for ?_
  | refine v_c ?_ | refine v_nil ?_ | refine v_cons ?_ | refine v_op ?_ | refine v_B ?_ | refine v_truth ?_ | refine v_andT ?_ | refine v_orT ?_ | refine v_notT ?_
  | refine v_andV ?_ | refine v_orV ?_ | refine v_notV ?_ | refine v_if ?_ | refine v_neg ?_ | refine v_chain ?_ | refine v_tup ?_ | refine v_lst ?_ | refine v_lstR ?_ | refine v_noPart ?_ | refine v_part ?_ | refine v_sl ?_
  | refine v_CB ?_ | refine v_call ?_ | refine v_abs ?_ | refine v_lc ?_ | refine v_yes ?_ | refine v_it ?_ | refine v_rng1 ?_ | refine v_rng2 ?_ | refine v_rng3 ?_ | refine v_T ?_ | refine v_F ?_
  | refine v_add ?_ | refine v_sub ?_ | refine v_iadd ?_ | refine v_lt ?_ | refine v_le ?_ | refine v_gt ?_ | refine v_ge ?_ | refine v_eqI ?_ | refine v_neI ?_ | refine v_eqB ?_ | refine v_neB ?_)
local macro_rules | `(tactic| walk_at "dv1") => `(tactic| first
  | (with_reducible refine' v_var ?h ?_); (case h => rfl)
  | (with_reducible refine' v_aug ?h ?_); (case h => rfl)
  | (with_reducible refine' v_div ?h1 ?h2 ?_); (case h1 => walk_at "num"); (case h2 => walk_at "num")
  | (with_reducible refine' v_mod ?h1 ?_); (case h1 => walk_at "num")
  | (with_reducible refine' v_pow ?h1 ?_); (case h1 => walk_at "num")
  | (with_reducible refine' v_mulR ?h1 ?_); (case h1 => walk_at "num")
  | (with_reducible refine' v_mulL ?h1 ?_); (case h1 => walk_at "num")
  | (with_reducible refine' v_fin ?h1 ?_); (case h1 => first | exact Or.inl rfl | exact Or.inr rfl | (refine Or.inr ?_; simp only [List.length_set, *]; done))
  | (with_reducible refine' v_ix ?h1 ?_); (case h1 => first | exact ixD_ref (by assumption) (by rfl) | rfl)
  | (with_reducible refine' v_len ?h1 ?_); (case h1 => first | exact lenD_ref (by assumption) | rfl)
  | (with_reducible refine' v_list ?h1 ?_); (case h1 => rfl)
  | (with_reducible refine' v_listR ?h1 ?_); (case h1 => rfl)
  | (with_reducible refine' v_tuple ?h1 ?_); (case h1 => rfl)
  | (with_reducible refine' v_isd ?h1 ?_); (case h1 => rfl)
  | (with_reducible refine' v_isiTy ?h1 ?h2 ?_); (case h1 => rfl); (case h2 => rfl)
  | (with_reducible refine' v_isiT ?h1 ?_); (case h1 => rfl))
local macro_rules | `(tactic| walk_at "dv2") => `(tactic| first
  | refine v_gsub (by rfl) (by rfl) (by assumption) (by rfl) (fun _ _ _ => ?_) | refine ⟨_, rfl, ?_⟩ | (with_reducible refine' ⟨rng_ok ?h1 ?h2, ?_⟩); (case h1 => omega); (case h2 => omega) | refine ⟨rfl, ?_⟩ | refine ⟨_, _, rfl, ?_⟩ | refine ⟨Nat.le_of_ble_eq_true rfl, ?_⟩)
local macro_rules | `(tactic| walk_at "dv3") => `(tactic| first
  | (with_reducible refine' v_dec (fun _ => ?_) (fun hn => absurd ?h hn)); (case h => first | assumption | omega | decide)
  | (with_reducible refine' v_dec (fun hn => absurd hn ?h) (fun _ => ?_)); (case h => first | assumption | omega | decide)
  | (with_reducible refine' v_ndec (fun _ => ?_) (fun hn => absurd hn ?h)); (case h => first | assumption | omega | decide)
  | (with_reducible refine' v_ndec (fun hn => absurd ?h hn) (fun _ => ?_)); (case h => first | assumption | omega | decide)
  | (with_reducible refine' v_bT ?h ?_); (case h => first | assumption | rfl)
  | (with_reducible refine' v_bF ?h ?_); (case h => first | assumption | rfl))
local macro_rules | `(tactic| walk_at "dv4") => `(tactic| with_reducible first
  | refine v_places ?_ | refine v_roads ?_ | refine v_over ?_ | refine v_line ?_ | refine v_spots ?_ | refine v_myards ?_ | refine v_mroads ?_ | refine v_mW (by decide +kernel) ?_ | refine v_mK (by decide +kernel) ?_
  | refine v_itX ?_ | refine v_ev ?_ | refine v_rev ?_ | refine v_zs ?_ | refine v_enum ?_ | refine v_enum2 ?_ | refine v_makeV ?_ | refine v_tryN ?_ | refine v_lc2 ?_ | refine v_fz ?_ | refine v_make ?_ | refine v_fldS ?_)
local macro_rules | `(tactic| walk_at "dv5") => `(tactic| first
  | refine ⟨_, _, rfl, rfl, ?_⟩ | refine ⟨⟨_, _, rfl⟩, ?_⟩ | refine ⟨⟨_, _, _, rfl⟩, ?_⟩ | refine ⟨_, _, _, rfl, ?_⟩ | refine Or.inl ⟨_, rfl, ?_⟩ | refine Or.inr ⟨_, (fun _ z => by cases z), rfl, ?_⟩)
local macro_rules | `(tactic| walk_at "dv") => `(tactic| repeat (first | walk_at "dv0" | walk_at "dv4" | walk_at "dv1" | walk_at "dv3" | walk_at "dv2" | walk_at "dv5"))
section
variable {m : Mod} {S : Store}
theorem yard_behind_ok (ok : m.Ok) {y z : Str} {t : Int} {l : Seg} {g : Pairs} (h : Path m y (prS g) z) : m_yard_behind [walkD m y t l, .lst (g.map prD)] S = .ok (.str z) S := by
  have hst : ∀ p ∈ g, PyData.strOk p.2.1 = true := fun p hp => h.str ok (p.2, 0) (List.mem_map.mpr ⟨p, hp, rfl⟩)
  refine Pe.eq (v_fn ?_)
  unfold b_yard_behind
  refine v_ret (v_if (v_B (v_op (v_var rfl (v_lst (v_nil ⟨by decide, ?_⟩))))))
  refine v_nePr hst ⟨_, rfl, ?_⟩
  refine v_ndec (fun hn => ?_) (fun hn => ?_)
  · rcases List.eq_nil_or_concat g with rfl | ⟨g0, p, rfl⟩
    · exact absurd rfl hn
    rw [List.concat_eq_append] at *
    obtain ⟨r, s⟩ := p
    rw [prS_app] at h
    obtain ⟨v, k1, k2, _⟩ := h.split
    have k2 : Path m v [(s, (0 : Int))] z := k2
    cases k2 with
    | cons a1 a2 a3 a4 =>
      cases a4
      have ixl : ∀ T : Store, ixD T (.lst ((g0 ++ [(r, s)]).map prD)) (-1) = some (prD (r, s)) := fun T => last_ix (by rw [List.getLast?_map, List.getLast?_append]; rfl)
      walk_at "dv"
      refine Pe.of walk_web_ok ?_
      walk_at "dv"
      refine v_ix (ixl _) ?_
      walk_at "dv"
      refine Pe.of (web_ends_ok ok a1 a2) ?_
      walk_at "dv"
      first | exact ⟨rfl, rfl⟩ | exact rfl
  · subst hn
    cases h
    walk_at "dv"
    refine Pe.of walk_start_ok ?_
    walk_at "dv"
    first | exact ⟨rfl, rfl⟩ | exact rfl
theorem v_ixT3 {T : Store} {i : Nat} {l : Lin} {p : Sta} {w : List Step} (hT : T[i]? = some (.dkt (keysL l) (valsL l))) (nd : (sts l).Nodup) (hk : (p, w) ∈ l) {Q : Dt → Store → Prop} {X : Ex → Store → Prop} (q : Q (rowS w) T) : Pe (mIxT (.ref i) (staD p) T) Q X := by
  obtain ⟨k, h⟩ := List.getElem?_of_mem hk
  exact v_ixT2 hT nd h q
theorem v_lenT {T : Store} {i : Nat} {l : Lin} (hT : T[i]? = some (.dkt (keysL l) (valsL l))) {Q : Dt → Store → Prop} {X : Ex → Store → Prop} (q : Q (.int l.length) T) : Pe (mLenT [.ref i] T) Q X := by
  have e : mLenT [.ref i] T = .ok (.int l.length) T := by
    unfold mLenT
    dsimp only
    rw [dkt_at hT]
    dsimp only
    unfold keysL
    rw [List.length_map]
  exact Pe.of e q
theorem walk_noRef (m : Mod) (y : Str) (t : Int) (l : Seg) : noRef 11 (walkD m y t l) = true := by
  show [m.w, .tup (rowD t l), .lst ((spots m y l).map Dt.str)].all (noRef 10) = true
  simp only [List.all_cons, List.all_nil, Bool.and_true, Bool.and_eq_true]
  exact ⟨web_pure m 7, rowD_pure t l 8, strs_pure _ 9⟩
/-- what stay_of tells where the end is not seen -/
def notS (L n : Nat) : Dt := if L < n then .tup [.str "unsure"] else .tup [.str "apart", .int n]
theorem take_fol (S : Store) (l : Lin) : (folS S l).take S.length = S := List.take_left
theorem v_finF (hp : PureS S) {d : Dt} {l : Lin} (hd : noRef 12 d = true) {Q : Dt → Store → Prop} {X : Ex → Store → Prop} (q : Q d S) : Pe (fin false S.length d (folS S l)) Q X := by
  refine v_finL (frz_pure hd) (by simp) (by rw [take_fol]; exact hp) ?_
  rw [take_fol]
  exact q
theorem stay_ok (ok : m.Ok) (hp : PureS S) {s1 s2 y1 y2 : Str} {t1 t2 x1 x2 : Int} {l1 l2 : Seg} {g1 g2 : Pairs} (hs2 : s2 ∈ m.ys) (hy1 : y1 ∈ m.ys) (c1 : m_cut_round [walkD m s1 t1 l1] S = .ok (.tup [.lst (g1.map prD), .lst [], .int x1]) S) (c2 : m_cut_round [walkD m s2 t2 l2] S = .ok (.tup [.lst (g2.map prD), .lst [], .int x2]) S)
    (p1 : Path m s1 (prS g1) y1) (p2 : Path m s2 (prS g2) y2) (n1 : g1.length ≤ 900) (n2 : g2.length ≤ 900) {L : Nat} (hL1 : 1 ≤ L) (hL : L ≤ 1000)
    (bd : ∀ w, ((y2, x2), w) ∈ reachL m (y1, x1) L → (putS g2 w g1).2.length ≤ 200 ∧ ∀ K, K = stl m [] (putS g2 w g1).1 (putS g2 w g1).2 → (unp K.2 K.1).1.natAbs ≤ 10 ^ 60 ∧ Within (10 ^ 60) (unp K.2 K.1).2) {Q : Dt → Store → Prop} {X : Ex → Store → Prop}
    (q1 : ∀ w, ((y2, x2), w) ∈ reachL m (y1, x1) L → ∀ K, K = stl m [] (putS g2 w g1).1 (putS g2 w g1).2 → Q (.tup [.str "seen", walkD m s2 (unp K.2 K.1).1 (unp K.2 K.1).2]) S)
    (q2 : (y2, x2) ∉ sts (reachL m (y1, x1) L) → Q (notS L (reachL m (y1, x1) L).length) S) : Pe (m_stay_of [walkD m s1 t1 l1, walkD m s2 t2 l2, .int L] S) Q X := by
  obtain ⟨gd, gl, _, _⟩ := reach_all ok (p := (y1, x1)) hy1 L
  refine v_fn ?_
  unfold b_stay_of
  refine v_seq (v_asg (v_call (v_cons (v_var rfl (v_nil ⟨rfl, Pe.of c1 ?_⟩)))))
  walk_at "dv"
  refine Pe.of c2 ?_
  walk_at "dv"
  refine Pe.of (alike_webs_ok ok) ?_
  walk_at "dv"
  refine Pe.of (is_whole_ok (by omega) (by omega)) ?_
  walk_at "dv"
  refine Pe.of walk_web_ok ?_
  walk_at "dv"
  refine Pe.of (yard_behind_ok ok p1) ?_
  walk_at "dv"
  refine followed_ok ok hp hy1 hL ?_
  walk_at "dv"
  refine Pe.of (yard_behind_ok ok p2) ?_
  walk_at "dv"
  refine v_inT2 (p := (y2, x2)) (fol_dkt _) gd.nd ?_
  refine ⟨_, rfl, ?_⟩
  refine v_dec (fun hin => ?_) (fun hno => ?_)
  · obtain ⟨e, he, ee⟩ := List.mem_map.mp hin
    obtain ⟨p, w⟩ := e
    have ee : p = (y2, x2) := ee
    subst ee
    have hw := gd.ex _ he
    have pw : Path m y1 (seg0 w) y2 := Exa.path ok w (y1, x1) (y2, x2) hw
    obtain ⟨b0, b1⟩ := bd w he
    obtain ⟨b2, b3⟩ := b1 _ rfl
    have wl : w.length ≤ 1000 := by
      have e1 : (putS g2 w g1).2.length = g2.length + w.length + g1.length := by
        unfold putS jj bb
        rw [jn_len, jn_len, jn_len, bk_len, bk_len, unp_len, unp_len]
        simp
      omega
    have pK : Path m s2 (putS g2 w g1).2 s1 := jn_path (jn_path (jn_path (.nil s2) (unp_path p2 0)) (bk_path pw 0)) (bk_path (unp_path p1 0) (unp 0 g1).1)
    walk_at "dv"
    refine Pe.of (row_of_ok (ps := g2) (x := 0) (by omega)) ?_
    walk_at "dv"
    refine v_ixT3 (p := (y2, x2)) (fol_dkt _) gd.nd he ?_
    walk_at "dv"
    refine Pe.of (back_row_ok (t := 0) (l := seg0 w) (by unfold seg0; rw [List.length_map]; omega)) ?_
    walk_at "dv"
    refine Pe.of (row_of_ok (ps := g1) (x := 0) (by omega)) ?_
    walk_at "dv"
    refine Pe.of (back_row_ok (t := (unp 0 g1).1) (l := (unp 0 g1).2) (by rw [unp_len]; omega)) ?_
    walk_at "dv"
    refine Pe.of walk_start_ok ?_
    walk_at "dv"
    refine plain_from_ok ok (folS_pure hp _) (rows := [unp 0 g2, bb (0, seg0 w), bb (unp 0 g1)]) (fun a ha => ?_) (Nat.le_of_ble_eq_true rfl) (K0 := putS g2 w g1) rfl pK hs2 b0 rfl b2 b3 ?_
    · simp only [List.mem_cons, List.not_mem_nil, or_false] at ha
      rcases ha with rfl | rfl | rfl
      · rw [unp_len]; omega
      · unfold bb; rw [bk_len]; unfold seg0; rw [List.length_map]; omega
      · unfold bb; rw [bk_len, unp_len]; omega
    walk_at "dv"
    refine v_finF hp (by show ([.str _, walkD m s2 _ _] : List Dt).all (noRef 11) = true; rw [List.all_cons, List.all_cons, walk_noRef]; rfl) (q1 w he _ rfl)
  · have q2 := q2 hno
    unfold notS at q2
    walk_at "dv"
    refine v_lenT (fol_dkt _) ?_
    walk_at "dv"
    refine v_dec (fun hl => ?_) (fun hl => ?_)
    · rw [if_pos (by omega)] at q2
      walk_at "dv"
      exact v_finF hp rfl q2
    · rw [if_neg (by omega)] at q2
      walk_at "dv"
      refine v_lenT (fol_dkt _) ?_
      walk_at "dv"
      exact v_finF hp rfl q2
end
end Lw
set_option Elab.async false
set_option linter.all false
set_option maxRecDepth 100000
set_option maxHeartbeats 4000000
set_option autoImplicit false
namespace Lw
open PySem Dv
/-! steps of our own words -/
local macro_rules | `(tactic| walk_at "num") => `(tactic| first | assumption | decide | omega)
local macro_rules | `(tactic| walk_at "dv0") => `(tactic| with_reducible first
  | refine v_seq ?_ | refine v_ifS ?_ | refine v_set ?_ | refine v_ret ?_ | refine v_asg ?_ | refine v_par ?_ | refine v_drop ?_ | refine v_nx ?_ | refine v_bk ?_ | refine v_ct ?_ | refine v_retN ?_ | refine v_for ?_
  | refine v_c ?_ | refine v_nil ?_ | refine v_cons ?_ | refine v_op ?_ | refine v_B ?_ | refine v_truth ?_ | refine v_andT ?_ | refine v_orT ?_ | refine v_notT ?_
  | refine v_andV ?_ | refine v_orV ?_ | refine v_notV ?_ | refine v_if ?_ | refine v_neg ?_ | refine v_chain ?_ | refine v_tup ?_ | refine v_lst ?_ | refine v_lstR ?_ | refine v_noPart ?_ | refine v_part ?_ | refine v_sl ?_
  | refine v_CB ?_ | refine v_call ?_ | refine v_abs ?_ | refine v_lc ?_ | refine v_yes ?_ | refine v_it ?_ | refine v_rng1 ?_ | refine v_rng2 ?_ | refine v_rng3 ?_ | refine v_T ?_ | refine v_F ?_
  | refine v_add ?_ | refine v_sub ?_ | refine v_iadd ?_ | refine v_lt ?_ | refine v_le ?_ | refine v_gt ?_ | refine v_ge ?_ | refine v_eqI ?_ | refine v_neI ?_ | refine v_eqB ?_ | refine v_neB ?_)
local macro_rules | `(tactic| walk_at "dv1") => `(tactic| first
  | (with_reducible refine' v_var ?h ?_); (case h => rfl)
  | (with_reducible refine' v_aug ?h ?_); (case h => rfl)
  | (with_reducible refine' v_div ?h1 ?h2 ?_); (case h1 => walk_at "num"); (case h2 => walk_at "num")
  | (with_reducible refine' v_mod ?h1 ?_); (case h1 => walk_at "num")
  | (with_reducible refine' v_pow ?h1 ?_); (case h1 => walk_at "num")
  | (with_reducible refine' v_mulR ?h1 ?_); (case h1 => walk_at "num")
  | (with_reducible refine' v_mulL ?h1 ?_); (case h1 => walk_at "num")
  | (with_reducible refine' v_fin ?h1 ?_); (case h1 => first | exact Or.inl rfl | exact Or.inr rfl | (refine Or.inr ?_; simp only [List.length_set, *]; done))
  | (with_reducible refine' v_ix ?h1 ?_); (case h1 => first | exact ixD_ref (by assumption) (by rfl) | rfl)
  | (with_reducible refine' v_len ?h1 ?_); (case h1 => first | exact lenD_ref (by assumption) | rfl)
  | (with_reducible refine' v_list ?h1 ?_); (case h1 => rfl)
  | (with_reducible refine' v_listR ?h1 ?_); (case h1 => rfl)
  | (with_reducible refine' v_tuple ?h1 ?_); (case h1 => rfl)
  | (with_reducible refine' v_isd ?h1 ?_); (case h1 => rfl)
  | (with_reducible refine' v_isiTy ?h1 ?h2 ?_); (case h1 => rfl); (case h2 => rfl)
  | (with_reducible refine' v_isiT ?h1 ?_); (case h1 => rfl))
local macro_rules | `(tactic| walk_at "dv2") => `(tactic| first
  | refine v_gsub (by rfl) (by rfl) (by assumption) (by rfl) (fun _ _ _ => ?_) | refine ⟨_, rfl, ?_⟩ | (with_reducible refine' ⟨rng_ok ?h1 ?h2, ?_⟩); (case h1 => omega); (case h2 => omega) | refine ⟨rfl, ?_⟩ | refine ⟨_, _, rfl, ?_⟩ | refine ⟨Nat.le_of_ble_eq_true rfl, ?_⟩)
local macro_rules | `(tactic| walk_at "dv3") => `(tactic| first
  | (with_reducible refine' v_dec (fun _ => ?_) (fun hn => absurd ?h hn)); (case h => first | assumption | omega | decide)
  | (with_reducible refine' v_dec (fun hn => absurd hn ?h) (fun _ => ?_)); (case h => first | assumption | omega | decide)
  | (with_reducible refine' v_ndec (fun _ => ?_) (fun hn => absurd hn ?h)); (case h => first | assumption | omega | decide)
  | (with_reducible refine' v_ndec (fun hn => absurd ?h hn) (fun _ => ?_)); (case h => first | assumption | omega | decide)
  | (with_reducible refine' v_bT ?h ?_); (case h => first | assumption | rfl)
  | (with_reducible refine' v_bF ?h ?_); (case h => first | assumption | rfl))
local macro_rules | `(tactic| walk_at "dv4") => `(tactic| with_reducible first
  | refine v_places ?_ | refine v_roads ?_ | refine v_over ?_ | refine v_line ?_ | refine v_spots ?_ | refine v_myards ?_ | refine v_mroads ?_ | refine v_mW (by decide +kernel) ?_ | refine v_mK (by decide +kernel) ?_
  | refine v_itX ?_ | refine v_ev ?_ | refine v_rev ?_ | refine v_zs ?_ | refine v_enum ?_ | refine v_enum2 ?_ | refine v_makeV ?_ | refine v_tryN ?_ | refine v_lc2 ?_ | refine v_fz ?_ | refine v_make ?_ | refine v_fldS ?_)
local macro_rules | `(tactic| walk_at "dv5") => `(tactic| first
  | refine ⟨_, _, rfl, rfl, ?_⟩ | refine ⟨⟨_, _, rfl⟩, ?_⟩ | refine ⟨⟨_, _, _, rfl⟩, ?_⟩ | refine ⟨_, _, _, rfl, ?_⟩ | refine Or.inl ⟨_, rfl, ?_⟩ | refine Or.inr ⟨_, (fun _ z => by cases z), rfl, ?_⟩)
local macro_rules | `(tactic| walk_at "dv") => `(tactic| repeat (first | walk_at "dv0" | walk_at "dv4" | walk_at "dv1" | walk_at "dv3" | walk_at "dv2" | walk_at "dv5"))
/-! ### all that comes of two to some power -/
def vl (i j k : Nat) : Nat := 2 ^ i * 3 ^ j * 5 ^ k
theorem pow_can {p : Nat} (hp : 2 ≤ p) : ∀ (i j : Nat) {a b : Nat}, ¬ p ∣ a → ¬ p ∣ b → p ^ i * a = p ^ j * b → i = j ∧ a = b
  | 0, 0, a, b, _, _, e => by simpa using e
  | 0, j + 1, a, b, h, _, e => by
    exfalso
    refine h ⟨p ^ j * b, ?_⟩
    rw [Nat.pow_zero, Nat.one_mul] at e
    rw [e, Nat.pow_succ, Nat.mul_comm (p ^ j) p, Nat.mul_assoc]
  | i + 1, 0, a, b, _, h, e => by
    exfalso
    refine h ⟨p ^ i * a, ?_⟩
    rw [Nat.pow_zero, Nat.one_mul] at e
    rw [← e, Nat.pow_succ, Nat.mul_comm (p ^ i) p, Nat.mul_assoc]
  | i + 1, j + 1, a, b, h, h', e => by
    have e2 : p ^ i * a = p ^ j * b := by
      refine Nat.eq_of_mul_eq_mul_left (show 0 < p by omega) ?_
      rw [← Nat.mul_assoc, ← Nat.mul_assoc, Nat.mul_comm p (p ^ i), Nat.mul_comm p (p ^ j), ← Nat.pow_succ, ← Nat.pow_succ]
      exact e
    obtain ⟨e3, e4⟩ := pow_can hp i j h h' e2
    exact ⟨by rw [e3], e4⟩
theorem odd3 : ∀ j, 3 ^ j % 2 = 1
  | 0 => rfl
  | j + 1 => by
    rw [Nat.pow_succ]
    have := odd3 j
    omega
theorem odd5 : ∀ j, 5 ^ j % 2 = 1
  | 0 => rfl
  | j + 1 => by
    rw [Nat.pow_succ]
    have := odd5 j
    omega
theorem thr5 : ∀ j, 5 ^ j % 3 ≠ 0
  | 0 => by decide
  | j + 1 => by
    rw [Nat.pow_succ]
    have := thr5 j
    omega
theorem fiv2 : ∀ j, 2 ^ j % 5 ≠ 0
  | 0 => by decide
  | j + 1 => by
    rw [Nat.pow_succ]
    have := fiv2 j
    omega
theorem odd35 (j k : Nat) : 3 ^ j * 5 ^ k % 2 = 1 := by rw [Nat.mul_mod, odd3, odd5]
theorem vl_inj {i j k i' j' k' : Nat} (e : vl i j k = vl i' j' k') : i = i' ∧ j = j' ∧ k = k' := by
  unfold vl at e
  rw [Nat.mul_assoc, Nat.mul_assoc] at e
  obtain ⟨e1, e2⟩ := pow_can (p := 2) (by decide) i i' (fun z => by have := odd35 j k; omega) (fun z => by have := odd35 j' k'; omega) e
  obtain ⟨e3, e4⟩ := pow_can (p := 3) (by decide) j j' (fun z => by have := thr5 k; omega) (fun z => by have := thr5 k'; omega) e2
  obtain ⟨e5, _⟩ := pow_can (p := 5) (a := 1) (b := 1) (by decide) k k' (by decide) (by decide) (by rw [e4])
  exact ⟨e1, e3, e5⟩
theorem vl_two (i j k : Nat) : vl (i + 1) j k = 2 * vl i j k := by
  unfold vl
  rw [Nat.pow_succ, Nat.mul_comm (2 ^ i) 2, Nat.mul_assoc 2, Nat.mul_assoc 2]
theorem vl_three (i j k : Nat) : vl i (j + 1) k = 3 * vl i j k := by
  unfold vl
  rw [Nat.pow_succ, Nat.mul_comm (3 ^ j) 3, Nat.mul_left_comm (2 ^ i), Nat.mul_assoc 3]
theorem vl_five (i j k : Nat) : vl i j (k + 1) = 5 * vl i j k := by
  unfold vl
  rw [Nat.pow_succ, Nat.mul_comm (5 ^ k) 5, Nat.mul_left_comm]
theorem vl_m2 (j k : Nat) : vl 0 j k % 2 = 1 := by
  unfold vl
  rw [Nat.pow_zero, Nat.one_mul, odd35]
theorem vl_m3 : ∀ i k : Nat, vl i 0 k % 3 ≠ 0
  | 0, k => by
    unfold vl
    simp only [Nat.pow_zero, Nat.one_mul]
    exact thr5 k
  | i + 1, k => by
    rw [vl_two]
    have := vl_m3 i k
    omega
theorem vl_m5 : ∀ i j : Nat, vl i j 0 % 5 ≠ 0
  | i, 0 => by
    unfold vl
    simp only [Nat.pow_zero, Nat.mul_one]
    exact fiv2 i
  | i, j + 1 => by
    rw [vl_three]
    have := vl_m5 i j
    omega
theorem vl_seven : ∀ i j k : Nat, vl i j k ≠ 7
  | i + 1, j, k => by rw [vl_two]; omega
  | 0, j + 1, k => by rw [vl_three]; omega
  | 0, 0, k + 1 => by rw [vl_five]; omega
  | 0, 0, 0 => by decide
def triA (h : Nat) : Nat → List (Nat × Nat)
  | 0 => []
  | n + 1 => triA h n ++ (List.range (h - n + 1)).map fun j => (n, j)
theorem tri_mem {h : Nat} {p : Nat × Nat} : ∀ {n : Nat}, p ∈ triA h n ↔ p.1 < n ∧ p.2 < h - p.1 + 1
  | 0 => by simp [triA]
  | n + 1 => by
    unfold triA
    rw [List.mem_append, tri_mem (n := n), List.mem_map]
    constructor
    · rintro (⟨h1, h2⟩ | ⟨j, hj, rfl⟩)
      · exact ⟨by omega, h2⟩
      · have hj := List.mem_range.mp hj
        exact ⟨Nat.lt_succ_self n, hj⟩
    · rintro ⟨h1, h2⟩
      by_cases e : p.1 = n
      · exact .inr ⟨p.2, List.mem_range.mpr (by rw [← e]; exact h2), by rw [← e]⟩
      · exact .inl ⟨by omega, h2⟩
theorem tri_nd {h : Nat} : ∀ n : Nat, (triA h n).Nodup
  | 0 => .nil
  | n + 1 => by
    unfold triA
    refine List.nodup_append.mpr ⟨tri_nd n, ?_, fun a ha b hb e => ?_⟩
    · exact List.pairwise_map.mpr (List.nodup_range.imp fun ne e => ne (congrArg Prod.snd e))
    · subst e
      obtain ⟨j, _, e2⟩ := List.mem_map.mp hb
      have := (tri_mem.mp ha).1
      rw [← e2] at this
      exact Nat.lt_irrefl _ this
theorem tri_len : ∀ h : Nat, h < 30 → (triA h (h + 1)).length = (h + 1) * (h + 2) / 2 := by decide +kernel
abbrev rdU : Road := ⟨"u", "a", "a", 2, 3⟩
abbrev rdW : Road := ⟨"w", "a", "a", 2, 5⟩
abbrev MU : Mod := ⟨["a"], [rdU, rdW]⟩
theorem two_mem {α : Type} {a b x : α} (h : x ∈ [a, b]) : x = a ∨ x = b := by simpa using h
theorem MU_ok : MU.Ok where
  sr := fun r hr => by
    rcases two_mem hr with rfl | rfl <;> decide +kernel
  sy := fun y hy => by
    rw [List.mem_singleton.mp hy]
    decide +kernel
  nd := by decide +kernel
  en := fun r hr => by
    rcases two_mem hr with rfl | rfl <;> simp
  th := fun r hr => by
    rcases two_mem hr with rfl | rfl <;> decide
  ly := by decide
  lr := by decide
theorem MU_nm : MU.Nm where
  ny := fun y hy => by
    rw [List.mem_singleton.mp hy]
    decide +kernel
  nr := fun r hr => by
    rcases two_mem hr with rfl | rfl <;> decide +kernel
def stV (n : Nat) : Sta := ("a", (n : Int))
def CU (h : Nat) : List Sta := (triA h (h + 1)).map fun p => stV (vl p.1 p.2 (h - p.1 - p.2))
theorem CU_len {h : Nat} (hh : h < 30) : (CU h).length = (h + 1) * (h + 2) / 2 := by
  unfold CU
  rw [List.length_map, tri_len h hh]
theorem stV_inj {a b : Nat} (h : stV a = stV b) : a = b := Int.ofNat.inj (congrArg Prod.snd h)
theorem CU_mem {h : Nat} {q : Sta} : q ∈ CU h ↔ ∃ i j k, i + j + k = h ∧ q = stV (vl i j k) := by
  unfold CU
  rw [List.mem_map]
  constructor
  · rintro ⟨p, hp, rfl⟩
    obtain ⟨h1, h2⟩ := tri_mem.mp hp
    exact ⟨p.1, p.2, h - p.1 - p.2, by omega, rfl⟩
  · rintro ⟨i, j, k, e, rfl⟩
    exact ⟨(i, j), tri_mem.mpr ⟨by show i < h + 1; omega, by show j < h - i + 1; omega⟩, by rw [show h - (i, j).1 - (i, j).2 = k by show h - i - j = k; omega]⟩
theorem CU_nd (h : Nat) : (CU h).Nodup := by
  refine List.pairwise_map.mpr ((tri_nd (h + 1)).imp fun {a b} ne e => ?_)
  obtain ⟨e1, e2, _⟩ := vl_inj (stV_inj e)
  exact ne (Prod.ext e1 e2)
theorem steps_MU : stepsOf "a" MU.rs = ([(("u" : Str), (1 : Int)), (("u" : Str), -1), (("w" : Str), 1), (("w" : Str), -1)] : List Step) := by decide +kernel
theorem stp {n c d a : Nat} (hc : 0 < c) (e : n = c * a) : ((n : Int).fdiv (c : Int)) * (d : Int) = ((d * a : Nat) : Int) := by
  rw [Int.fdiv_eq_ediv_of_nonneg _ (Int.natCast_nonneg c), e, Int.natCast_mul, Int.mul_ediv_cancel_left _ (by omega), Int.natCast_mul, Int.mul_comm]
theorem fm0 {n c : Nat} (h : (n : Int).fmod (c : Int) = 0) : n % c = 0 := by
  rw [Int.fmod_eq_emod_of_nonneg _ (Int.natCast_nonneg c)] at h
  exact_mod_cast h
theorem fm1 {n c : Nat} (h : n % c = 0) : (n : Int).fmod (c : Int) = 0 := by
  rw [Int.fmod_eq_emod_of_nonneg _ (Int.natCast_nonneg c)]
  exact_mod_cast h
/-- one step of the web -/
theorem thr_up {c d a : Nat} (hc : 0 < c) {s : Step} (h1 : ruleOf MU s = ((c : Int), (d : Int))) (h2 : goes MU s = "a") : thr MU (stV (c * a)) s = stV (d * a) := by
  unfold thr stV
  rw [h1, h2]
  exact congrArg (fun z => (("a" : Str), z)) (stp hc rfl)
theorem ex_MU {h : Nat} : ∀ (n i j k : Nat), j + k = n → i + n = h → ∃ w : List Step, w.length = n ∧ Exa MU (stV (vl h 0 0)) w (stV (vl i j k))
  | 0, i, j, k, e1, e2 => by
    have hj : j = 0 := by omega
    have hk : k = 0 := by omega
    have hi : i = h := by omega
    subst hj hk hi
    exact ⟨[], rfl, rfl⟩
  | n + 1, i, j, k, e1, e2 => by
    cases j with
    | succ j =>
      obtain ⟨w, hw, hx⟩ := ex_MU (h := h) n (i + 1) j k (by omega) (by omega)
      rw [vl_two] at hx
      have := hx.snoc (s := (("u" : Str), (1 : Int))) (by show _ ∈ stepsOf "a" MU.rs; rw [steps_MU]; simp) (fm1 (n := 2 * vl i j k) (c := 2) (by omega))
      rw [thr_up (c := 2) (d := 3) (by decide) rfl rfl, ← vl_three] at this
      exact ⟨_, by rw [List.length_append, hw, List.length_singleton], this⟩
    | zero =>
      cases k with
      | zero => omega
      | succ k =>
        obtain ⟨w, hw, hx⟩ := ex_MU (h := h) n (i + 1) 0 k (by omega) (by omega)
        rw [vl_two] at hx
        have := hx.snoc (s := (("w" : Str), (1 : Int))) (by show _ ∈ stepsOf "a" MU.rs; rw [steps_MU]; simp) (fm1 (n := 2 * vl i 0 k) (c := 2) (by omega))
        rw [thr_up (c := 2) (d := 5) (by decide) rfl rfl, ← vl_five] at this
        exact ⟨_, by rw [List.length_append, hw, List.length_singleton], this⟩
theorem comp_MU (h : Nat) : Comp MU (stV (vl h 0 0)) (CU h) where
  nd := CU_nd h
  here := CU_mem.mpr ⟨h, 0, 0, rfl, rfl⟩
  clo := fun q hq s hs hd => by
    obtain ⟨i, j, k, e, rfl⟩ := CU_mem.mp hq
    have hs : s ∈ stepsOf "a" MU.rs := hs
    rw [steps_MU] at hs
    simp only [List.mem_cons, List.not_mem_nil, or_false] at hs
    rcases hs with rfl | rfl | rfl | rfl
    · have hd := fm0 (n := vl i j k) (c := 2) hd
      cases i with
      | zero => have := vl_m2 j k; omega
      | succ i =>
        rw [vl_two, thr_up (c := 2) (d := 3) (by decide) rfl rfl, ← vl_three]
        exact CU_mem.mpr ⟨i, j + 1, k, by omega, rfl⟩
    · have hd := fm0 (n := vl i j k) (c := 3) hd
      cases j with
      | zero => have := vl_m3 i k; omega
      | succ j =>
        rw [vl_three, thr_up (c := 3) (d := 2) (by decide) rfl rfl, ← vl_two]
        exact CU_mem.mpr ⟨i + 1, j, k, by omega, rfl⟩
    · have hd := fm0 (n := vl i j k) (c := 2) hd
      cases i with
      | zero => have := vl_m2 j k; omega
      | succ i =>
        rw [vl_two, thr_up (c := 2) (d := 5) (by decide) rfl rfl, ← vl_five]
        exact CU_mem.mpr ⟨i, j, k + 1, by omega, rfl⟩
    · have hd := fm0 (n := vl i j k) (c := 5) hd
      cases k with
      | zero => have := vl_m5 i j; omega
      | succ k =>
        rw [vl_five, thr_up (c := 5) (d := 2) (by decide) rfl rfl, ← vl_two]
        exact CU_mem.mpr ⟨i + 1, j, k, by omega, rfl⟩
  ex := fun q hq => by
    obtain ⟨i, j, k, e, rfl⟩ := CU_mem.mp hq
    obtain ⟨w, _, hw⟩ := ex_MU (h := h) (j + k) i j k rfl (by omega)
    exact ⟨w, hw⟩
theorem comp_7 : Comp MU (stV 7) [stV 7] where
  nd := by simp
  here := List.mem_cons_self
  clo := fun q hq s hs hd => by
    rw [List.mem_singleton.mp hq] at hs hd
    have hs : s ∈ stepsOf "a" MU.rs := hs
    rw [steps_MU] at hs
    simp only [List.mem_cons, List.not_mem_nil, or_false] at hs
    rcases hs with rfl | rfl | rfl | rfl
    · exact absurd (fm0 (n := 7) (c := 2) hd) (by decide)
    · exact absurd (fm0 (n := 7) (c := 3) hd) (by decide)
    · exact absurd (fm0 (n := 7) (c := 2) hd) (by decide)
    · exact absurd (fm0 (n := 7) (c := 5) hd) (by decide)
  ex := fun q hq => ⟨[], (List.mem_singleton.mp hq).symm⟩
end Lw
set_option Elab.async false
set_option linter.all false
set_option maxRecDepth 100000
set_option maxHeartbeats 4000000
set_option autoImplicit false
namespace Lw
open PySem Dv
/-! steps of our own words -/
local macro_rules | `(tactic| walk_at "num") => `(tactic| first | assumption | decide | omega)
local macro_rules | `(tactic| walk_at "dv0") => `(tactic| with_reducible first
  | refine v_seq ?_ | refine v_ifS ?_ | refine v_set ?_ | refine v_ret ?_ | refine v_asg ?_ | refine v_par ?_ | refine v_drop ?_ | refine v_nx ?_ | refine v_bk ?_ | refine v_ct ?_ | refine v_retN ?_ | refine v_for ?_
  | refine v_c ?_ | refine v_nil ?_ | refine v_cons ?_ | refine v_op ?_ | refine v_B ?_ | refine v_truth ?_ | refine v_andT ?_ | refine v_orT ?_ | refine v_notT ?_
  | refine v_andV ?_ | refine v_orV ?_ | refine v_notV ?_ | refine v_if ?_ | refine v_neg ?_ | refine v_chain ?_ | refine v_tup ?_ | refine v_lst ?_ | refine v_lstR ?_ | refine v_noPart ?_ | refine v_part ?_ | refine v_sl ?_
  | refine v_CB ?_ | refine v_call ?_ | refine v_abs ?_ | refine v_lc ?_ | refine v_yes ?_ | refine v_it ?_ | refine v_rng1 ?_ | refine v_rng2 ?_ | refine v_rng3 ?_ | refine v_T ?_ | refine v_F ?_
  | refine v_add ?_ | refine v_sub ?_ | refine v_iadd ?_ | refine v_lt ?_ | refine v_le ?_ | refine v_gt ?_ | refine v_ge ?_ | refine v_eqI ?_ | refine v_neI ?_ | refine v_eqB ?_ | refine v_neB ?_)
local macro_rules | `(tactic| walk_at "dv1") => `(tactic| first
  | (with_reducible refine' v_var ?h ?_); (case h => rfl)
  | (with_reducible refine' v_aug ?h ?_); (case h => rfl)
  | (with_reducible refine' v_div ?h1 ?h2 ?_); (case h1 => walk_at "num"); (case h2 => walk_at "num")
  | (with_reducible refine' v_mod ?h1 ?_); (case h1 => walk_at "num")
  | (with_reducible refine' v_pow ?h1 ?_); (case h1 => walk_at "num")
  | (with_reducible refine' v_mulR ?h1 ?_); (case h1 => walk_at "num")
  | (with_reducible refine' v_mulL ?h1 ?_); (case h1 => walk_at "num")
  | (with_reducible refine' v_fin ?h1 ?_); (case h1 => first | exact Or.inl rfl | exact Or.inr rfl | (refine Or.inr ?_; simp only [List.length_set, *]; done))
  | (with_reducible refine' v_ix ?h1 ?_); (case h1 => first | exact ixD_ref (by assumption) (by rfl) | rfl)
  | (with_reducible refine' v_len ?h1 ?_); (case h1 => first | exact lenD_ref (by assumption) | rfl)
  | (with_reducible refine' v_list ?h1 ?_); (case h1 => rfl)
  | (with_reducible refine' v_listR ?h1 ?_); (case h1 => rfl)
  | (with_reducible refine' v_tuple ?h1 ?_); (case h1 => rfl)
  | (with_reducible refine' v_isd ?h1 ?_); (case h1 => rfl)
  | (with_reducible refine' v_isiTy ?h1 ?h2 ?_); (case h1 => rfl); (case h2 => rfl)
  | (with_reducible refine' v_isiT ?h1 ?_); (case h1 => rfl))
local macro_rules | `(tactic| walk_at "dv2") => `(tactic| first
  | refine v_gsub (by rfl) (by rfl) (by assumption) (by rfl) (fun _ _ _ => ?_) | refine ⟨_, rfl, ?_⟩ | (with_reducible refine' ⟨rng_ok ?h1 ?h2, ?_⟩); (case h1 => omega); (case h2 => omega) | refine ⟨rfl, ?_⟩ | refine ⟨_, _, rfl, ?_⟩ | refine ⟨Nat.le_of_ble_eq_true rfl, ?_⟩)
local macro_rules | `(tactic| walk_at "dv3") => `(tactic| first
  | (with_reducible refine' v_dec (fun _ => ?_) (fun hn => absurd ?h hn)); (case h => first | assumption | omega | decide)
  | (with_reducible refine' v_dec (fun hn => absurd hn ?h) (fun _ => ?_)); (case h => first | assumption | omega | decide)
  | (with_reducible refine' v_ndec (fun _ => ?_) (fun hn => absurd hn ?h)); (case h => first | assumption | omega | decide)
  | (with_reducible refine' v_ndec (fun hn => absurd ?h hn) (fun _ => ?_)); (case h => first | assumption | omega | decide)
  | (with_reducible refine' v_bT ?h ?_); (case h => first | assumption | rfl)
  | (with_reducible refine' v_bF ?h ?_); (case h => first | assumption | rfl))
local macro_rules | `(tactic| walk_at "dv4") => `(tactic| with_reducible first
  | refine v_places ?_ | refine v_roads ?_ | refine v_over ?_ | refine v_line ?_ | refine v_spots ?_ | refine v_myards ?_ | refine v_mroads ?_ | refine v_mW (by decide +kernel) ?_ | refine v_mK (by decide +kernel) ?_
  | refine v_itX ?_ | refine v_ev ?_ | refine v_rev ?_ | refine v_zs ?_ | refine v_enum ?_ | refine v_enum2 ?_ | refine v_makeV ?_ | refine v_tryN ?_ | refine v_lc2 ?_ | refine v_fz ?_ | refine v_make ?_ | refine v_fldS ?_)
local macro_rules | `(tactic| walk_at "dv5") => `(tactic| first
  | refine ⟨_, _, rfl, rfl, ?_⟩ | refine ⟨⟨_, _, rfl⟩, ?_⟩ | refine ⟨⟨_, _, _, rfl⟩, ?_⟩ | refine ⟨_, _, _, rfl, ?_⟩ | refine Or.inl ⟨_, rfl, ?_⟩ | refine Or.inr ⟨_, (fun _ z => by cases z), rfl, ?_⟩)
local macro_rules | `(tactic| walk_at "dv") => `(tactic| repeat (first | walk_at "dv0" | walk_at "dv4" | walk_at "dv1" | walk_at "dv3" | walk_at "dv2" | walk_at "dv5"))
/-! ### turns that stay: what stay_of tells -/
section
variable {m : Mod} {S : Store}
theorem cut_turn (ok : m.Ok) (hp : PureS S) {y : Str} {t : Int} (hy : y ∈ m.ys) : m_cut_round [walkD m y t []] S = .ok (.tup [.lst (([] : Pairs).map prD), .lst [], .int t]) S := by
  refine Pe.eq (cut_round_ok ok hp (.nil y) hy (Nat.zero_le _) fun g ps x c => ?_)
  obtain ⟨tl, e, _⟩ := c.all
  have e : ([] : Pairs) = g ++ ps ++ tl := e
  obtain ⟨e1, e2⟩ := List.append_eq_nil_iff.mp e.symm
  obtain ⟨rfl, rfl⟩ := List.append_eq_nil_iff.mp e1
  have ex : act m ([], t) ([], 0) = act m ([], 0) ([], x) := c.ex
  have ex : t + 0 = 0 + x := congrArg Prod.snd ex
  have : x = t := by omega
  subst this
  exact ⟨rfl, rfl⟩
/-- rows of no turns -/
def Zr (a : Int × Seg) : Prop := a.1 = 0 ∧ ∀ p ∈ a.2, p.2 = 0
theorem Zr.cons {s : Step} {u t : Int} {l : Seg} (h : Zr (t, (s, u) :: l)) : t = 0 ∧ Zr (u, l) := ⟨h.1, h.2 (s, u) List.mem_cons_self, fun p hp => h.2 p (List.mem_cons_of_mem _ hp)⟩
theorem zr_seg (w : List Step) : Zr (0, seg0 w) := ⟨rfl, fun p hp => by
  obtain ⟨s, _, rfl⟩ := List.mem_map.mp hp
  rfl⟩
theorem bk_zero : ∀ {l : Seg} {t : Int}, Zr (t, l) → Zr (bk t l)
  | [], t, h => by
    have h : t = 0 := h.1
    subst h
    exact ⟨rfl, fun p hp => (List.not_mem_nil hp).elim⟩
  | (s, u) :: l, t, h => by
    obtain ⟨e, h2⟩ := h.cons
    subst e
    have ih := bk_zero h2
    refine ⟨ih.1, fun p hp => ?_⟩
    rcases List.mem_append.mp hp with z | z
    · exact ih.2 p z
    · rw [List.mem_singleton.mp z]
      rfl
theorem last_zero : ∀ {l : Seg} {t : Int}, Zr (t, l) → lastT t l = 0
  | [], t, h => h.1
  | (s, u) :: l, t, h => last_zero (l := l) h.cons.2
theorem set_zero : ∀ {l : Seg} {t : Int}, Zr (t, l) → Zr (setT t l 0)
  | [], t, h => ⟨rfl, fun p hp => (List.not_mem_nil hp).elim⟩
  | (s, u) :: l, t, h => by
    obtain ⟨e, h2⟩ := h.cons
    have ih := set_zero h2
    refine ⟨e, fun p hp => ?_⟩
    rcases List.mem_cons.mp hp with z | z
    · rw [z]
      exact ih.1
    · exact ih.2 p z
theorem jj_zero {a b : Int × Seg} (h : Zr a) (h' : Zr b) : Zr (jj a b) := by
  have e := last_zero h
  have s := set_zero h
  unfold jj jn
  rw [e, h'.1]
  refine ⟨s.1, fun p hp => ?_⟩
  rcases List.mem_append.mp hp with z | z
  · exact s.2 p z
  · exact h'.2 p z
theorem G_zero {s : Step} {ps : Pairs} (h : ∀ p ∈ ps, p.1 = 0) : (∀ p ∈ (stl1 (ruleOf m s) ps 0 s).1, p.1 = 0) ∧ (stl1 (ruleOf m s) ps 0 s).2 = 0 := by
  have pu : (∀ p ∈ (pushS (ruleOf m s) ps 0 s).1, p.1 = 0) ∧ (pushS (ruleOf m s) ps 0 s).2 = 0 := by
    unfold pushS
    refine ⟨fun p hp => ?_, ?_⟩
    · rcases List.mem_append.mp hp with z | z
      · exact h p z
      · rw [List.mem_singleton.mp z]
        show Int.fmod 0 ((ruleOf m s).1.natAbs : Int) = 0
        exact Int.zero_fmod _
    · show (0 - Int.fmod 0 (ruleOf m s).1.natAbs).fdiv (ruleOf m s).1 * (ruleOf m s).2 = 0
      rw [Int.zero_fmod, Int.sub_zero, Int.zero_fdiv, Int.zero_mul]
  unfold stl1
  cases e : ps.getLast? with
  | none => exact pu
  | some q =>
    dsimp only
    split
    · refine ⟨fun p hp => h p ((List.dropLast_sublist _).subset hp), ?_⟩
      show q.1 + Int.fdiv 0 (ruleOf m s).1 * (ruleOf m s).2 = 0
      rw [h q (List.mem_of_getLast? e), Int.zero_fdiv, Int.zero_mul, Int.zero_add]
    · exact pu
theorem stl_zero : ∀ {l : Seg} {t : Int} {ps : Pairs}, (∀ p ∈ ps, p.1 = 0) → Zr (t, l) → (∀ p ∈ (stl m ps t l).1, p.1 = 0) ∧ (stl m ps t l).2 = 0
  | [], t, ps, h, z => ⟨h, z.1⟩
  | (s, u) :: l, t, ps, h, z => by
    obtain ⟨e, z2⟩ := z.cons
    subst e
    obtain ⟨g1, g2⟩ := G_zero (m := m) (s := s) h
    show (∀ p ∈ (stl m (stl1 (ruleOf m s) ps 0 s).1 ((stl1 (ruleOf m s) ps 0 s).2 + u) l).1, p.1 = 0) ∧ (stl m (stl1 (ruleOf m s) ps 0 s).1 ((stl1 (ruleOf m s) ps 0 s).2 + u) l).2 = 0
    rw [g2, Int.zero_add]
    exact stl_zero g1 z2
theorem putS_zero (w : List Step) : Zr (putS [] w []) := jj_zero (jj_zero (jj_zero ⟨rfl, fun p hp => (List.not_mem_nil hp).elim⟩ ⟨rfl, fun p hp => (List.not_mem_nil hp).elim⟩) (bk_zero (zr_seg w))) (bk_zero ⟨rfl, fun p hp => (List.not_mem_nil hp).elim⟩)
theorem putS_len (g' : Pairs) (w : List Step) (g : Pairs) : (putS g' w g).2.length = g'.length + w.length + g.length := by
  unfold putS jj bb
  rw [jn_len, jn_len, jn_len, bk_len, bk_len, unp_len, unp_len]
  simp
theorem stay_turns (ok : m.Ok) (hp : PureS S) {y y' : Str} {t t' : Int} (hy : y ∈ m.ys) (hy' : y' ∈ m.ys) {L : Nat} (hL1 : 1 ≤ L) (hL : L ≤ 1000) (bd : ∀ w, ((y', t'), w) ∈ reachL m (y, t) L → w.length ≤ 200) {Q : Dt → Store → Prop} {X : Ex → Store → Prop}
    (q1 : ∀ u v, ((y', t') ∈ sts (reachL m (y, t) L)) → v.length ≤ 200 → Path m y' v y → stl m [] (jj (jj (u, v) (t, [])) (bb (u, v))).1 (jj (jj (u, v) (t, [])) (bb (u, v))).2 = stl m [] t' [] → Q (.tup [.str "seen", walkD m y' u v]) S)
    (q2 : (y', t') ∉ sts (reachL m (y, t) L) → Q (notS L (reachL m (y, t) L).length) S) : Pe (m_stay_of [walkD m y t [], walkD m y' t' [], .int L] S) Q X := by
  obtain ⟨gd, gl, _, _⟩ := reach_all ok (p := (y, t)) hy L
  refine stay_ok ok hp hy' hy (cut_turn ok hp hy) (cut_turn ok hp hy') (.nil _) (.nil _) (Nat.zero_le _) (Nat.zero_le _) hL1 hL (fun w he => ⟨?_, fun K hK => ?_⟩) (fun w he K hK => ?_) q2
  · rw [putS_len]
    have := bd w he
    simpa using this
  · obtain ⟨z1, z2⟩ := stl_zero (m := m) (t := (putS [] w []).1) (l := (putS [] w []).2) (ps := []) (fun p hp => (List.not_mem_nil hp).elim) (putS_zero w)
    have hK : K = stl m [] (putS [] w []).1 (putS [] w []).2 := hK
    rw [← hK] at z1 z2
    obtain ⟨b1, b2⟩ := unp_b (B := 0) (x := K.2) (ps := K.1) (by rw [z2]; exact Nat.le_refl 0) (fun p hp => by rw [z1 p hp]; exact Nat.le_refl 0)
    exact ⟨Nat.le_trans b1 (Nat.zero_le _), fun p hp => Nat.le_trans (b2 p hp) (Nat.zero_le _)⟩
  · have hx := gd.ex _ he
    have pw : Path m y (seg0 w) y' := Exa.path ok w (y, t) (y', t') hx
    have hw : Ways (seg0 w) := pw.ways
    have nw : Ways ([] : Seg) := fun p hp => (List.not_mem_nil hp).elim
    have sn : ∀ t : Int, SeenE m (stl m [] t []) ([], t) [] := fun t => by
      show (([], t + 0) : Pairs × Int) = ([], 0 + t)
      rw [Int.add_zero, Int.zero_add]
    have see := stay_sees ok nw nw .nil .nil (sn t) (sn t') hx hw hK
    have sl := stl_len (m := m) [] (putS [] w []).1 (putS [] w []).2
    rw [← hK, putS_len] at sl
    have hb := bd w he
    simp only [List.length_nil, Nat.zero_add, Nat.add_zero] at sl
    have pK : Path m y' (putS [] w []).2 y := jn_path (jn_path (jn_path (.nil y') (.nil y')) (bk_path pw 0)) (bk_path (.nil y) 0)
    have pK2 := stl_path (ps := ([] : Pairs)) (x := (putS [] w []).1) (.nil y') pK
    rw [← hK] at pK2
    exact q1 _ _ (List.mem_map.mpr ⟨_, he, rfl⟩) (by rw [unp_len]; omega) (unp_path pK2 _) see
/-! the law's turns -/
theorem a_in : ("a" : Str) ∈ MU.ys := List.mem_cons_self
theorem stay_one (hp : PureS S) {h L : Nat} (hh : h < 30) (h1 : 1 ≤ L) (h2 : L ≤ 1000) {Q : Dt → Store → Prop} {X : Ex → Store → Prop} (q : Q (notS L ((h + 1) * (h + 2) / 2)) S) : Pe (m_stay_of [walkD MU "a" (vl h 0 0 : Nat) [], walkD MU "a" (7 : Nat) [], .int L] S) Q X := by
  obtain ⟨c1, c2, c3⟩ := comp_reach MU_ok (p := stV (vl h 0 0)) a_in (comp_MU h) L
  have no : stV 7 ∉ sts (reachL MU (stV (vl h 0 0)) L) := fun z => by
    obtain ⟨i, j, k, _, e⟩ := CU_mem.mp (c3 _ z)
    exact vl_seven i j k (stV_inj e).symm
  refine stay_turns MU_ok hp a_in a_in h1 h2 (fun w he => absurd (List.mem_map.mpr ⟨_, he, rfl⟩) no) (fun u v z => absurd z no) fun _ => ?_
  have e : notS L (reachL MU (stV (vl h 0 0)) L).length = notS L ((h + 1) * (h + 2) / 2) := by
    rw [← CU_len hh]
    unfold notS
    by_cases hc : L < (reachL MU (stV (vl h 0 0)) L).length
    · rw [if_pos hc, if_pos (c1.mp hc)]
    · rw [if_neg hc, if_neg fun z => hc (c1.mpr z), (c2 (by omega)).1]
  show Q (notS L (reachL MU (stV (vl h 0 0)) L).length) S
  rw [e]
  exact q
theorem stay_other (hp : PureS S) {h : Nat} {Q : Dt → Store → Prop} {X : Ex → Store → Prop} (q : Q (.tup [.str "apart", .int 1]) S) : Pe (m_stay_of [walkD MU "a" (7 : Nat) [], walkD MU "a" (vl h 0 0 : Nat) [], .int 300] S) Q X := by
  obtain ⟨c1, c2, c3⟩ := comp_reach MU_ok (p := stV 7) a_in comp_7 300
  have no : stV (vl h 0 0) ∉ sts (reachL MU (stV 7) 300) := fun z => vl_seven h 0 0 (stV_inj (List.mem_singleton.mp (c3 _ z)))
  refine stay_turns (L := 300) MU_ok hp a_in a_in (by decide) (by decide) (fun w he => absurd (List.mem_map.mpr ⟨_, he, rfl⟩) no) (fun u v z => absurd z no) fun _ => ?_
  have e : notS 300 (reachL MU (stV 7) 300).length = .tup [.str "apart", .int 1] := by
    have hc : ¬ 300 < (reachL MU (stV 7) 300).length := fun z => absurd (c1.mp z) (by decide)
    unfold notS
    rw [if_neg hc, (c2 (by omega)).1]
    rfl
  show Q (notS 300 (reachL MU (stV 7) 300).length) S
  rw [e]
  exact q
theorem stay_late (hp : PureS S) {h : Nat} (hh : h < 30) {Q : Dt → Store → Prop} {X : Ex → Store → Prop}
    (q1 : ∀ u v, v.length ≤ 200 → Path MU "a" v "a" → stl MU [] (jj (jj (u, v) ((vl h 0 0 : Nat), [])) (bb (u, v))).1 (jj (jj (u, v) ((vl h 0 0 : Nat), [])) (bb (u, v))).2 = stl MU [] (vl 0 h 0 : Nat) [] → Q (.tup [.str "seen", walkD MU "a" u v]) S)
    (q2 : 300 < (h + 1) * (h + 2) / 2 → Q (.tup [.str "unsure"]) S) : Pe (m_stay_of [walkD MU "a" (vl h 0 0 : Nat) [], walkD MU "a" (vl 0 h 0 : Nat) [], .int 300] S) Q X := by
  obtain ⟨c1, c2, c3⟩ := comp_reach MU_ok (p := stV (vl h 0 0)) a_in (comp_MU h) 300
  have sh := reach_short MU_ok (p := stV (vl h 0 0)) a_in 300
  refine stay_turns (L := 300) MU_ok hp a_in a_in (by decide) (by decide) (fun w he => ?_) (fun u v _ hl pa e => q1 u v hl pa e) fun no => ?_
  · obtain ⟨v, hv, ev⟩ := ex_MU (h := h) h 0 h 0 rfl (by omega)
    have := sh _ he v ev
    have this : w.length ≤ v.length := this
    omega
  · have no : stV (vl 0 h 0) ∉ sts (reachL MU (stV (vl h 0 0)) 300) := no
    have hc : 300 < (reachL MU (stV (vl h 0 0)) 300).length := by
      apply Classical.byContradiction
      intro hn
      exact no (((c2 (by omega)).2 _).mpr (CU_mem.mpr ⟨0, h, 0, by omega, rfl⟩))
    have hm := c1.mp hc
    rw [CU_len hh] at hm
    have q := q2 hm
    show Q (notS 300 (reachL MU (stV (vl h 0 0)) 300).length) S
    unfold notS
    rw [if_pos hc]
    exact q
end
end Lw
set_option Elab.async false
set_option linter.all false
set_option maxRecDepth 100000
set_option maxHeartbeats 4000000
set_option autoImplicit false
namespace Lw
open PySem Dv
/-! steps of our own words -/
local macro_rules | `(tactic| walk_at "num") => `(tactic| first | assumption | decide | omega)
local macro_rules | `(tactic| walk_at "dv0") => `(tactic| with_reducible first
  | refine v_seq ?_ | refine v_ifS ?_ | refine v_set ?_ | refine v_ret ?_ | refine v_asg ?_ | refine v_par ?_ | refine v_drop ?_ | refine v_nx ?_ | refine v_bk ?_ | refine v_ct ?_ | refine v_retN ?_ | refine v_for ?_
  | refine v_c ?_ | refine v_nil ?_ | refine v_cons ?_ | refine v_op ?_ | refine v_B ?_ | refine v_truth ?_ | refine v_andT ?_ | refine v_orT ?_ | refine v_notT ?_
  | refine v_andV ?_ | refine v_orV ?_ | refine v_notV ?_ | refine v_if ?_ | refine v_neg ?_ | refine v_chain ?_ | refine v_tup ?_ | refine v_lst ?_ | refine v_lstR ?_ | refine v_noPart ?_ | refine v_part ?_ | refine v_sl ?_
  | refine v_CB ?_ | refine v_call ?_ | refine v_abs ?_ | refine v_lc ?_ | refine v_yes ?_ | refine v_it ?_ | refine v_rng1 ?_ | refine v_rng2 ?_ | refine v_rng3 ?_ | refine v_T ?_ | refine v_F ?_
  | refine v_add ?_ | refine v_sub ?_ | refine v_iadd ?_ | refine v_lt ?_ | refine v_le ?_ | refine v_gt ?_ | refine v_ge ?_ | refine v_eqI ?_ | refine v_neI ?_ | refine v_eqB ?_ | refine v_neB ?_)
local macro_rules | `(tactic| walk_at "dv1") => `(tactic| first
  | (with_reducible refine' v_var ?h ?_); (case h => rfl)
  | (with_reducible refine' v_aug ?h ?_); (case h => rfl)
  | (with_reducible refine' v_div ?h1 ?h2 ?_); (case h1 => walk_at "num"); (case h2 => walk_at "num")
  | (with_reducible refine' v_mod ?h1 ?_); (case h1 => walk_at "num")
  | (with_reducible refine' v_pow ?h1 ?_); (case h1 => walk_at "num")
  | (with_reducible refine' v_mulR ?h1 ?_); (case h1 => walk_at "num")
  | (with_reducible refine' v_mulL ?h1 ?_); (case h1 => walk_at "num")
  | (with_reducible refine' v_fin ?h1 ?_); (case h1 => first | exact Or.inl rfl | exact Or.inr rfl | (refine Or.inr ?_; simp only [List.length_set, *]; done))
  | (with_reducible refine' v_ix ?h1 ?_); (case h1 => first | exact ixD_ref (by assumption) (by rfl) | rfl)
  | (with_reducible refine' v_len ?h1 ?_); (case h1 => first | exact lenD_ref (by assumption) | rfl)
  | (with_reducible refine' v_list ?h1 ?_); (case h1 => rfl)
  | (with_reducible refine' v_listR ?h1 ?_); (case h1 => rfl)
  | (with_reducible refine' v_tuple ?h1 ?_); (case h1 => rfl)
  | (with_reducible refine' v_isd ?h1 ?_); (case h1 => rfl)
  | (with_reducible refine' v_isiTy ?h1 ?h2 ?_); (case h1 => rfl); (case h2 => rfl)
  | (with_reducible refine' v_isiT ?h1 ?_); (case h1 => rfl))
local macro_rules | `(tactic| walk_at "dv2") => `(tactic| first
  | refine v_gsub (by rfl) (by rfl) (by assumption) (by rfl) (fun _ _ _ => ?_) | refine ⟨_, rfl, ?_⟩ | (with_reducible refine' ⟨rng_ok ?h1 ?h2, ?_⟩); (case h1 => omega); (case h2 => omega) | refine ⟨rfl, ?_⟩ | refine ⟨_, _, rfl, ?_⟩ | refine ⟨Nat.le_of_ble_eq_true rfl, ?_⟩)
local macro_rules | `(tactic| walk_at "dv3") => `(tactic| first
  | (with_reducible refine' v_dec (fun _ => ?_) (fun hn => absurd ?h hn)); (case h => first | assumption | omega | decide)
  | (with_reducible refine' v_dec (fun hn => absurd hn ?h) (fun _ => ?_)); (case h => first | assumption | omega | decide)
  | (with_reducible refine' v_ndec (fun _ => ?_) (fun hn => absurd hn ?h)); (case h => first | assumption | omega | decide)
  | (with_reducible refine' v_ndec (fun hn => absurd ?h hn) (fun _ => ?_)); (case h => first | assumption | omega | decide)
  | (with_reducible refine' v_bT ?h ?_); (case h => first | assumption | rfl)
  | (with_reducible refine' v_bF ?h ?_); (case h => first | assumption | rfl))
local macro_rules | `(tactic| walk_at "dv4") => `(tactic| with_reducible first
  | refine v_places ?_ | refine v_roads ?_ | refine v_over ?_ | refine v_line ?_ | refine v_spots ?_ | refine v_myards ?_ | refine v_mroads ?_ | refine v_mW (by decide +kernel) ?_ | refine v_mK (by decide +kernel) ?_
  | refine v_itX ?_ | refine v_ev ?_ | refine v_rev ?_ | refine v_zs ?_ | refine v_enum ?_ | refine v_enum2 ?_ | refine v_makeV ?_ | refine v_tryN ?_ | refine v_lc2 ?_ | refine v_fz ?_ | refine v_make ?_ | refine v_fldS ?_)
local macro_rules | `(tactic| walk_at "dv5") => `(tactic| first
  | refine ⟨_, _, rfl, rfl, ?_⟩ | refine ⟨⟨_, _, rfl⟩, ?_⟩ | refine ⟨⟨_, _, _, rfl⟩, ?_⟩ | refine ⟨_, _, _, rfl, ?_⟩ | refine Or.inl ⟨_, rfl, ?_⟩ | refine Or.inr ⟨_, (fun _ z => by cases z), rfl, ?_⟩)
local macro_rules | `(tactic| walk_at "dv") => `(tactic| repeat (first | walk_at "dv0" | walk_at "dv4" | walk_at "dv1" | walk_at "dv3" | walk_at "dv2" | walk_at "dv5"))
/-! law in parts -/
def b_law_1 : Bd := (mRet (mAndV (mOp mEq (mOp mIx (mVar 12) (mC (.int 0))) (mC (.str "seen"))) (mCall 5 m_law_sees (mCons (mVar 3) (mCons (mOp mIx (mVar 12) (mC (.int 1))) (mCons (mMeth "Walk" "row" 1 m_Walk_row (mVar 7) mNil) (mCons (mC (.str "a")) (mCons (mMeth "Walk" "row" 1 m_Walk_row (mVar 11) mNil) mNil))))))))
def b_law_2 : Bd := (mSeq (mIfS (mB (mOp mGt (mVar 6) (mC (.int 300)))) (mRet (mOrV (mOp mEqU (mVar 12) (mTup (mCons (mC (.str "unsure")) mNil))) (mCall 5 m_law_sees (mCons (mVar 3) (mCons (mOp mIx (mVar 12) (mC (.int 1))) (mCons (mMeth "Walk" "row" 1 m_Walk_row (mVar 7) mNil) (mCons (mC (.str "a")) (mCons (mMeth "Walk" "row" 1 m_Walk_row (mVar 11) mNil) mNil)))))))) mNx) b_law_1)
def b_law_3 : Bd := (mSeq (mSet 12 (mCallK 2 0 3 [0] [.int 300] m_stay_of (mCons (mVar 7) (mCons (mVar 11) mNil)) mNil)) b_law_2)
def b_law_4 : Bd := (mSeq (mSet 11 (mFz (mMake "Walk" 4 m_Walk_dinit (mCons (mVar 4) (mCons (mC (.str "a")) (mCons (mLst (mCons (mCall 2 m_law_power (mCons (mC (.int 3)) (mCons (mVar 5) mNil))) mNil)) mNil)))))) b_law_3)
def b_law_5 : Bd := (mSeq (mIfS (mNotT (mTruth (mCall 2 (m_law_same 20) (mCons (mCallK 2 1 3 [0] [] m_stay_of (mCons (mVar 7) (mCons (mVar 8) mNil)) (mCons (mVar 10) mNil)) (mCons (mIf (mB (mOp mLe (mVar 6) (mVar 10))) (mTup (mCons (mC (.str "apart")) (mCons (mVar 6) mNil))) (mTup (mCons (mC (.str "unsure")) mNil))) mNil))))) (mRet (mC (.bl false))) mNx) b_law_4)
def b_law_6 : Bd := (mSeq (mSet 10 (mOp mAdd (mC (.int 1)) (mCall 2 m_law_draw (mCons (mVar 1) (mCons (mC (.int 500)) mNil))))) b_law_5)
def b_law_7 : Bd := (mSeq (mIfS (mOrT (mNotT (mTruth (mCall 2 (m_law_same 20) (mCons (mCallK 2 0 3 [0] [.int 300] m_stay_of (mCons (mVar 7) (mCons (mVar 8) mNil)) mNil) (mCons (mVar 9) mNil))))) (mNotT (mTruth (mCall 2 (m_law_same 20) (mCons (mCallK 2 0 3 [0] [.int 300] m_stay_of (mCons (mVar 8) (mCons (mVar 7) mNil)) mNil) (mCons (mTup (mCons (mC (.str "apart")) (mCons (mC (.int 1)) mNil))) mNil)))))) (mRet (mC (.bl false))) mNx) b_law_6)
def b_law_8 : Bd := (mSeq (mSet 9 (mIf (mB (mOp mLe (mVar 6) (mC (.int 300)))) (mTup (mCons (mC (.str "apart")) (mCons (mVar 6) mNil))) (mTup (mCons (mC (.str "unsure")) mNil)))) b_law_7)
def b_law_9 : Bd := (mSeq (mPar 7 8 (mCons (mFz (mMake "Walk" 4 m_Walk_dinit (mCons (mVar 4) (mCons (mC (.str "a")) (mCons (mLst (mCons (mCall 2 m_law_power (mCons (mC (.int 2)) (mCons (mVar 5) mNil))) mNil)) mNil))))) (mCons (mFz (mMake "Walk" 4 m_Walk_dinit (mCons (mVar 4) (mCons (mC (.str "a")) (mCons (mLst (mCons (mC (.int 7)) mNil)) mNil))))) mNil))) b_law_8)
def b_law_10 : Bd := (mSeq (mSet 6 (mOp mDiv (mOp mMul (mOp mAdd (mVar 5) (mC (.int 1))) (mOp mAdd (mVar 5) (mC (.int 2)))) (mC (.int 2)))) b_law_9)
def b_law_11 : Bd := (mSeq (mSet 5 (mCall 2 m_law_pick (mCons (mVar 1) (mCons (mLst (mCons (mC (.int 7)) (mCons (mC (.int 22)) (mCons (mC (.int 23)) (mCons (mC (.int 24)) (mCons (mCall 2 m_law_draw (mCons (mVar 1) (mCons (mC (.int 30)) mNil))) mNil)))))) mNil)))) b_law_10)
def b_law_12 : Bd := (mSeq (mSet 4 (mCall 1 m_law_web (mCons (mVar 3) mNil))) b_law_11)
def b_law_13 : Bd := (mSeq (mSet 3 (mDict ["yards", "roads"] [(mLst (mCons (mC (.str "a")) mNil)), (mLst (mCons (mTup (mCons (mC (.str "u")) (mCons (mC (.str "a")) (mCons (mC (.str "a")) (mCons (mC (.int 2)) (mCons (mC (.int 3)) mNil)))))) (mCons (mTup (mCons (mC (.str "w")) (mCons (mC (.str "a")) (mCons (mC (.str "a")) (mCons (mC (.int 2)) (mCons (mC (.int 5)) mNil)))))) mNil)))])) b_law_12)
def b_law_14 : Bd := (mSeq (mIfS (mNotT (mTruth (mCall 2 (m_law_same 20) (mCons (mVar 2) (mCons (mLst (mCons (mC (.int 6)) (mCons (mC (.int 8)) (mCons (mC (.int 99)) (mCons (mC (.int 200)) (mCons (mOp mPow (mC (.int 10)) (mC (.int 60))) (mCons (mC (.int 6)) (mCons (mC (.int 60)) (mCons (mC (.int 999)) (mCons (mC (.int 24)) (mCons (mC (.int 300)) mNil))))))))))) mNil))))) (mRet (mC (.bl false))) mNx) b_law_13)
def b_law_15 : Bd := (mSeq (mSet 2 (mOp mAdd (mVar 2) (mLst (mCons (mC (.int 999)) (mCons (mC (.int 24)) (mCons (mC (.int 300)) mNil)))))) b_law_14)
def b_law_16 : Bd := (mSeq (mSet 2 (mLst (mCons (mC (.int 6)) (mCons (mC (.int 8)) (mCons (mC (.int 99)) (mCons (mC (.int 200)) (mCons (mC (.int 1000000000000000000000000000000000000000000000000000000000000)) (mCons (mC (.int 6)) (mCons (mC (.int 60)) mNil))))))))) b_law_15)
theorem b_law_eq : b_law = (mSeq (mSet 1 (mCall 1 m_law_flow (mCons (mVar 0) mNil))) b_law_16) := rfl
/-! ### the whole law -/
section
variable {S : Store}
theorem law_power_ok {b n : Nat} (hb : b ≤ 3) (hn : n ≤ 100) : m_law_power [.int b, .int n] S = .ok (.int ((b ^ n : Nat) : Int)) S := by
  refine Pe.eq (v_fn ?_)
  unfold b_law_power
  refine v_seq (v_set (v_c ?_))
  refine v_seq (v_for (v_rng1 (v_cons (v_var rfl (v_nil ⟨_, rfl, by unfold rngOk; simp; omega, ?_⟩)))))
  refine v_loop (fun ds en T => ∃ (k : Nat) (x3 : Option Dt), k ≤ n ∧ ds = (rangeD 0 n).drop k ∧ en = [some (.int b), some (.int n), some (.int ((b ^ k : Nat) : Int)), x3] ∧ T = S)
    ⟨0, _, Nat.zero_le _, rfl, rfl, rfl⟩ ?_ ?_
  · rintro d ds en T ⟨k, x3, hk, hds, rfl, rfl⟩
    have hlt : k < n := by
      apply Classical.byContradiction
      intro hc
      have : k = n := by omega
      subst this
      rw [rangeD_end] at hds
      cases hds
    rw [rangeD_drop hlt] at hds
    obtain ⟨rfl, rfl⟩ := List.cons.inj hds
    refine ⟨_, _, rfl, ?_⟩
    refine v_set (v_op (v_var rfl (v_var rfl (v_mulR (by omega) ?_))))
    refine ⟨k + 1, some (.int (k : Int)), hlt, rfl, ?_, rfl⟩
    rw [show ((b ^ (k + 1) : Nat) : Int) = ((b ^ k : Nat) : Int) * (b : Int) by rw [Nat.pow_succ, Int.natCast_mul]]
    rfl
  · rintro en T ⟨k, x3, hk, hds, rfl, rfl⟩
    have : k = n := by
      apply Classical.byContradiction
      intro hc
      rw [rangeD_drop (by omega)] at hds
      cases hds
    subst this
    refine v_ret (v_var rfl (v_fin (.inr rfl) ⟨rfl, rfl⟩))
theorem sok_notS (L n : Nat) : sok 20 (notS L n) = true := by
  have h1 : PyData.strOk ("unsure" : Str) = true := by decide +kernel
  have h2 : PyData.strOk ("apart" : Str) = true := by decide +kernel
  unfold notS
  split <;> simp [sok, h1, h2]
theorem vl_w {i j : Nat} (h : i + j < 30) : ((vl i j 0 : Nat) : Int).natAbs ≤ 10 ^ 60 := by
  rw [Int.natAbs_natCast]
  unfold vl
  have h1 : 2 ^ i ≤ 2 ^ 30 := Nat.pow_le_pow_right (by decide) (by omega)
  have h2 : 3 ^ j ≤ 3 ^ 30 := Nat.pow_le_pow_right (by decide) (by omega)
  rw [Nat.pow_zero, Nat.mul_one]
  exact Nat.le_trans (Nat.mul_le_mul h1 h2) (by decide)
theorem vl_2 (h : Nat) : 2 ^ h = vl h 0 0 := by simp [vl]
theorem vl_3 (h : Nat) : 3 ^ h = vl 0 h 0 := by simp [vl]
theorem many_ok (h : Nat) : (((h : Int) + 1) * ((h : Int) + 2)).fdiv 2 = (((h + 1) * (h + 2) / 2 : Nat) : Int) := by
  rw [Int.fdiv_eq_ediv_of_nonneg _ (by decide)]
  push_cast
  rfl
theorem due_ok {en : Dv.Env} {M L : Nat} {ml : Dv.Env → Store → R Dt} (h : en[6]? = some (some (.int M))) (hl : ml en S = .ok (.int L) S) : mIf (mB (mOp mLe (mVar 6) ml)) (mTup (mCons (mC (.str "apart")) (mCons (mVar 6) mNil))) (mTup (mCons (mC (.str "unsure")) mNil)) en S = .ok (notS L M) S := by
  refine Pe.eq (v_if (v_B (v_op (v_var h (Pe.of hl (v_le ⟨_, rfl, ?_⟩))))))
  unfold notS
  refine v_dec (fun hc => ?_) (fun hc => ?_)
  · refine v_tup (v_cons (v_c (v_cons (v_var h (v_nil ⟨Nat.le_of_ble_eq_true rfl, ?_⟩)))))
    rw [if_neg (by omega)]
    exact ⟨rfl, rfl⟩
  · refine v_tup (v_cons (v_c (v_nil ⟨Nat.le_of_ble_eq_true rfl, ?_⟩)))
    rw [if_pos (by omega)]
    exact ⟨rfl, rfl⟩
abbrev tE (a x2 x3 x4 x5 x6 x7 x8 x9 x10 x11 x12 : Option Dt) : Dv.Env := [a, some (.ref 0), x2, x3, x4, x5, x6, x7, x8, x9, x10, x11, x12]
abbrev wOne (h : Nat) : Dt := walkD MU "a" (vl h 0 0 : Nat) []
abbrev wSev : Dt := walkD MU "a" (7 : Nat) []
abbrev many (h : Nat) : Nat := (h + 1) * (h + 2) / 2
abbrev midE (a x2 : Option Dt) (h : Nat) (x9 x10 x11 x12 : Option Dt) : Dv.Env := tE a x2 (some MU.d) (some MU.w) (some (.int h)) (some (.int (many h))) (some (wOne h)) (some wSev) x9 x10 x11 x12
section
variable {QS : Fl → Dv.Env → Store → Prop} {XS : Ex → Dv.Env → Store → Prop}
theorem a_ok : PyData.strOk ("a" : Str) = true := by decide +kernel
theorem sees_one (hp : PureS S) {h : Nat} {u : Int} {v : Seg} (hl : v.length ≤ 200) (pa : Path MU "a" v "a") (e : stl MU [] (jj (jj (u, v) ((vl h 0 0 : Nat), [])) (bb (u, v))).1 (jj (jj (u, v) ((vl h 0 0 : Nat), [])) (bb (u, v))).2 = stl MU [] (vl 0 h 0 : Nat) []) :
    m_law_sees [MU.d, walkD MU "a" u v, .lst [.int (vl h 0 0 : Nat)], .str "a", .lst [.int (vl 0 h 0 : Nat)]] S = .ok (.bl true) S :=
  law_sees_ok MU_ok hp a_ok (u := (u, v)) (t := (vl h 0 0 : Nat)) (l := []) (t' := (vl 0 h 0 : Nat)) (l' := []) pa (.nil _) (.nil _) (by simp only [List.length_nil]; omega) (by simp) e
theorem tail4 (hp : PureS S) {h : Nat} (hh : h < 30) {a x2 x9 x10 x11 x12 : Option Dt} (q : ∀ en T, QS (.rt (.bl true)) en T) : Ps (b_law_4 (midE a x2 h x9 x10 x11 x12) S) QS XS := by
  unfold b_law_4
  walk_at "dv"
  refine Pe.of (law_power_ok (b := 3) (n := h) (by decide) (by omega)) ?_
  rw [vl_3]
  walk_at "dv"
  refine v_walk2 MU_ok hp (.nil _) a_in (vl_w (by omega)) (fun p hp => (List.not_mem_nil hp).elim) (by simp) ?_
  unfold b_law_3
  refine v_seq (v_set (v_callK ?_))
  walk_at "dv"
  refine stay_late hp hh (fun u v hl pa e => ?_) fun hm => ?_
  · unfold b_law_2
    walk_at "dv"
    refine v_dec (fun hc => ?_) (fun hc => ?_)
    · walk_at "dv"
      refine Pe.of walk_row_ok ?_
      walk_at "dv"
      refine Pe.of walk_row_ok ?_
      walk_at "dv"
      refine Pe.of (sees_one hp hl pa e) ?_
      exact q _ _
    · unfold b_law_1
      walk_at "dv"
      refine v_eqSame rfl (by decide +kernel) ?_
      walk_at "dv"
      refine Pe.of walk_row_ok ?_
      walk_at "dv"
      refine Pe.of walk_row_ok ?_
      walk_at "dv"
      refine Pe.of (sees_one hp hl pa e) ?_
      exact q _ _
  · have hm : 300 < many h := hm
    unfold b_law_2
    walk_at "dv"
    show QS (.rt (.bl (decide (("unsure" : Str) = "unsure") && true))) _ _
    rw [decide_eq_true rfl]
    exact q _ _
theorem tail8 (hp : PureS S) (hF : FlowAt S 0) {h : Nat} (hh : h < 30) {a x2 x9 x10 x11 x12 : Option Dt} (q : ∀ en T, QS (.rt (.bl true)) en T) : Ps (b_law_8 (midE a x2 h x9 x10 x11 x12) S) QS XS := by
  unfold b_law_8
  refine v_seq (v_set (Pe.of (due_ok (M := many h) (L := 300) rfl rfl) ?_))
  unfold b_law_7
  refine v_seq (v_ifS (v_orT (v_notT (v_truth (v_call (v_cons (v_callK ?_)))))))
  walk_at "dv"
  refine stay_one (L := 300) hp hh (by decide) (by decide) ?_
  walk_at "dv"
  refine v_same rfl (sok_notS _ _) ?_
  walk_at "dv"
  refine v_callK ?_
  walk_at "dv"
  refine stay_other hp ?_
  walk_at "dv"
  refine v_same rfl (by decide +kernel) ?_
  walk_at "dv"
  unfold b_law_6
  walk_at "dv"
  refine draw_fz hF (by decide) (by decide) fun c S2 c0 c1 z2 => ?_
  have p2 := z2.pure hp
  obtain ⟨c, rfl⟩ : ∃ j : Nat, c = j := ⟨c.toNat, by omega⟩
  walk_at "dv"
  rw [show (1 + (c : Int)) = ((1 + c : Nat) : Int) by omega]
  unfold b_law_5
  refine v_seq (v_ifS (v_notT (v_truth (v_call (v_cons (v_callK ?_))))))
  walk_at "dv"
  refine stay_one (L := 1 + c) p2 hh (by omega) (by omega) ?_
  refine v_cons (Pe.of (due_ok (M := many h) (L := 1 + c) rfl rfl) ?_)
  walk_at "dv"
  refine v_same rfl (sok_notS _ _) ?_
  walk_at "dv"
  exact tail4 p2 hh q
theorem head12 (hp : PureS S) (hF : FlowAt S 0) {a x2 x4 x5 x6 x7 x8 x9 x10 x11 x12 : Option Dt} (q : ∀ en T, QS (.rt (.bl true)) en T) : Ps (b_law_12 (tE a x2 (some MU.d) x4 x5 x6 x7 x8 x9 x10 x11 x12) S) QS XS := by
  unfold b_law_12
  walk_at "dv"
  refine Pe.of (law_web_ok MU_ok MU_nm hp) ?_
  unfold b_law_11
  walk_at "dv"
  refine draw_fz hF (by decide) (by decide) fun c S2 c0 c1 z2 => ?_
  have p2 := z2.pure hp
  walk_at "dv"
  refine pick_fz z2.flow (Nat.le_of_ble_eq_true rfl) (Nat.le_of_ble_eq_true rfl) fun d S3 hd z3 => ?_
  have p3 := z3.pure p2
  obtain ⟨h, hh, rfl⟩ : ∃ h : Nat, h < 30 ∧ d = .int h := by
    simp only [List.mem_cons, List.not_mem_nil, or_false] at hd
    rcases hd with rfl | rfl | rfl | rfl | rfl
    · exact ⟨7, by decide, rfl⟩
    · exact ⟨22, by decide, rfl⟩
    · exact ⟨23, by decide, rfl⟩
    · exact ⟨24, by decide, rfl⟩
    · exact ⟨c.toNat, by omega, by rw [Int.toNat_of_nonneg c0]⟩
  clear hd
  unfold b_law_10
  refine v_seq (v_set (v_op (v_op (v_op (v_var rfl (v_c (v_add (v_op (v_var rfl (v_c (v_add (v_mulR (by omega) (v_c (v_div (by decide) (by decide) ?_))))))))))))))
  rw [many_ok]
  unfold b_law_9
  walk_at "dv"
  refine Pe.of (law_power_ok (b := 2) (n := h) (by decide) (by omega)) ?_
  rw [vl_2]
  walk_at "dv"
  refine v_walk2 MU_ok p3 (.nil _) a_in (vl_w (by omega)) (fun p hp => (List.not_mem_nil hp).elim) (by simp) ?_
  walk_at "dv"
  refine v_walk2 (t := (7 : Nat)) MU_ok p3 (.nil _) a_in (by decide) (fun p hp => (List.not_mem_nil hp).elim) (by simp) ?_
  walk_at "dv"
  exact tail8 p3 z3.flow hh q
end
end
theorem law_true (ns : List Int) (hn : ns.length ≤ 63) : ∃ S, m_law [.fz (ns.map Dt.int)] [] = .ok (.bl true) S := by
  suffices h : Pe (m_law [.fz (ns.map Dt.int)] []) (fun d _ => d = .bl true) X0 by
    obtain ⟨a, S, e, rfl⟩ := h.ex
    exact ⟨S, e⟩
  refine v_fn ?_
  rw [b_law_eq]
  walk_at "dv"
  refine flow_new fun S1 hl1 _ hf => ?_
  have hl : S1.length = 1 := hl1
  have hf : FlowAt S1 0 := hf
  have hp : PureS S1 := by
    obtain ⟨f, h1, _⟩ := hf
    match S1, hl, h1 with
    | [o], _, h1 =>
      intro x hx
      rw [List.mem_singleton.mp hx, Option.some.inj h1]
      exact f.pure
  show Ps (b_law_16 (tE (some (.fz (ns.map Dt.int))) none none none none none none none none none none none) S1) _ _
  unfold b_law_16
  walk_at "dv"
  unfold b_law_15
  walk_at "dv"
  unfold b_law_14
  refine v_seq (v_ifS ?_)
  walk_at "dv"
  refine v_same (by rfl) (by decide +kernel) ?_
  walk_at "dv"
  unfold b_law_13
  refine v_seq (v_set ?_)
  walk_at "dv"
  refine v_dict ?_
  walk_at "dv"
  exact head12 hp hf fun _ _ => rfl
end Lw
set_option Elab.async false
set_option linter.all false
set_option maxRecDepth 100000
set_option maxHeartbeats 4000000
set_option autoImplicit false
namespace Lw
open PySem PySem.Spec PyProof.Rows L2 Dv
theorem all_of {l : PySem.W.OpenLaw} {w : World} {K : PySem.W.Frag} {h : Heap} {mg : Str → Option Value} {fa : Addr} (X : K.In h) (G : h.Ns mainGlobals mg) (hfa : mg "law" = some (.ref fa)) (c : SaysL hTests hDefs K) :
    ∃ fd : FuncData, (∀ (s : Shared) (v : Value), BindsTo s fd ⟨[v], []⟩ [("_law_script", v)]) ∧ ∀ base : Heap, K.In base → base.Ns mainGlobals mg → FnOk l.prog w K mg base (L2.CX l.prog w) 22 fa fd ["_law_script"] (spLaw K []) := by
  have a1 : PySem.W.findIn K (.ref (He.ga K "Web")) "need_yard" = some (some (.ref (He.fAd K ("Web", some "need_yard")))) := He.eqO_ok (c.fact 0 rfl)
  have i1 : PySem.W.isFn K (.ref (He.fAd K ("Web", some "need_yard"))) = true := c.fact 1 rfl
  have a2 : PySem.W.nsIn K mainGlobals "need_form" = some (some (.ref (He.fAd K ("need_form", none)))) := He.eqO_ok (c.fact 2 rfl)
  have a3 : PySem.W.findIn K (.ref (He.ga K "Web")) "road_of" = some (some (.ref (He.fAd K ("Web", some "road_of")))) := He.eqO_ok (c.fact 3 rfl)
  have i3 : PySem.W.isFn K (.ref (He.fAd K ("Web", some "road_of"))) = true := c.fact 4 rfl
  have a4 : PySem.W.findIn K (.ref (He.ga K "Web")) "turned_so" = some (some (.ref (He.fAd K ("Web", some "turned_so")))) := He.eqO_ok (c.fact 5 rfl)
  have i4 : PySem.W.isFn K (.ref (He.fAd K ("Web", some "turned_so"))) = true := c.fact 6 rfl
  have a5 : PySem.W.findIn K (.ref (He.ga K "Web")) "ends" = some (some (.ref (He.fAd K ("Web", some "ends")))) := He.eqO_ok (c.fact 7 rfl)
  have i5 : PySem.W.isFn K (.ref (He.fAd K ("Web", some "ends"))) = true := c.fact 8 rfl
  have a6 : PySem.W.nsIn K mainGlobals "yards_on" = some (some (.ref (He.fAd K ("yards_on", none)))) := He.eqO_ok (c.fact 9 rfl)
  have a7 : PySem.W.findIn K (.ref (He.ga K "Walk")) "__init__" = some (some (.ref (He.fAd K ("Walk", some "__init__")))) := He.eqO_ok (c.fact 10 rfl)
  have i7 : PySem.W.isFn K (.ref (He.fAd K ("Walk", some "__init__"))) = true := c.fact 11 rfl
  have a8 : PySem.W.findIn K (.ref (He.ga K "Walk")) "row" = some (some (.ref (He.fAd K ("Walk", some "row")))) := He.eqO_ok (c.fact 12 rfl)
  have i8 : PySem.W.isFn K (.ref (He.fAd K ("Walk", some "row"))) = true := c.fact 13 rfl
  have a9 : PySem.W.nsIn K mainGlobals "_law_draw" = some (some (.ref (He.fAd K ("_law_draw", none)))) := He.eqO_ok (c.fact 14 rfl)
  have a10 : PySem.W.nsIn K mainGlobals "_law_flow" = some (some (.ref (He.fAd K ("_law_flow", none)))) := He.eqO_ok (c.fact 15 rfl)
  have a11 : PySem.W.nsIn K mainGlobals "_law_pick" = some (some (.ref (He.fAd K ("_law_pick", none)))) := He.eqO_ok (c.fact 16 rfl)
  have a12 : PySem.W.nsIn K mainGlobals "_law_power" = some (some (.ref (He.fAd K ("_law_power", none)))) := He.eqO_ok (c.fact 17 rfl)
  have a13 : PySem.W.nsIn K mainGlobals "_law_same" = some (some (.ref (He.fAd K ("_law_same", none)))) := He.eqO_ok (c.fact 18 rfl)
  have a14 : PySem.W.findIn K (.ref (He.ga K "Walk")) "start" = some (some (.ref (He.fAd K ("Walk", some "start")))) := He.eqO_ok (c.fact 19 rfl)
  have i14 : PySem.W.isFn K (.ref (He.fAd K ("Walk", some "start"))) = true := c.fact 20 rfl
  have a15 : PySem.W.nsIn K mainGlobals "_law_undone" = some (some (.ref (He.fAd K ("_law_undone", none)))) := He.eqO_ok (c.fact 21 rfl)
  have a16 : PySem.W.nsIn K mainGlobals "_law_back" = some (some (.ref (He.fAd K ("_law_back", none)))) := He.eqO_ok (c.fact 22 rfl)
  have a17 : PySem.W.nsIn K mainGlobals "_law_join" = some (some (.ref (He.fAd K ("_law_join", none)))) := He.eqO_ok (c.fact 23 rfl)
  have a18 : PySem.W.nsIn K mainGlobals "_law_road" = some (some (.ref (He.fAd K ("_law_road", none)))) := He.eqO_ok (c.fact 24 rfl)
  have a19 : PySem.W.nsIn K mainGlobals "_law_rule" = some (some (.ref (He.fAd K ("_law_rule", none)))) := He.eqO_ok (c.fact 25 rfl)
  have a20 : PySem.W.nsIn K mainGlobals "_law_settled" = some (some (.ref (He.fAd K ("_law_settled", none)))) := He.eqO_ok (c.fact 26 rfl)
  have a21 : PySem.W.nsIn K mainGlobals "_law_sees" = some (some (.ref (He.fAd K ("_law_sees", none)))) := He.eqO_ok (c.fact 27 rfl)
  have a22 : PySem.W.findIn K (.ref (He.ga K "Web")) "__init__" = some (some (.ref (He.fAd K ("Web", some "__init__")))) := He.eqO_ok (c.fact 28 rfl)
  have i22 : PySem.W.isFn K (.ref (He.fAd K ("Web", some "__init__"))) = true := c.fact 29 rfl
  have a23 : PySem.W.nsIn K mainGlobals "is_name" = some (some (.ref (He.fAd K ("is_name", none)))) := He.eqO_ok (c.fact 30 rfl)
  have a24 : PySem.W.findIn K (.ref (He.ga K "Web")) "need_new" = some (some (.ref (He.fAd K ("Web", some "need_new")))) := He.eqO_ok (c.fact 31 rfl)
  have i24 : PySem.W.isFn K (.ref (He.fAd K ("Web", some "need_new"))) = true := c.fact 32 rfl
  have a25 : PySem.W.findIn K (.ref (He.ga K "Web")) "turned" = some (some (.ref (He.fAd K ("Web", some "turned")))) := He.eqO_ok (c.fact 33 rfl)
  have i25 : PySem.W.isFn K (.ref (He.fAd K ("Web", some "turned"))) = true := c.fact 34 rfl
  have a26 : PySem.W.nsIn K mainGlobals "is_whole" = some (some (.ref (He.fAd K ("is_whole", none)))) := He.eqO_ok (c.fact 35 rfl)
  have a27 : PySem.W.nsIn K mainGlobals "need_turns" = some (some (.ref (He.fAd K ("need_turns", none)))) := He.eqO_ok (c.fact 36 rfl)
  have a28 : PySem.W.findIn K (.ref (He.ga K "Web")) "with_passage" = some (some (.ref (He.fAd K ("Web", some "with_passage")))) := He.eqO_ok (c.fact 37 rfl)
  have i28 : PySem.W.isFn K (.ref (He.fAd K ("Web", some "with_passage"))) = true := c.fact 38 rfl
  have a29 : PySem.W.findIn K (.ref (He.ga K "Web")) "with_yard" = some (some (.ref (He.fAd K ("Web", some "with_yard")))) := He.eqO_ok (c.fact 39 rfl)
  have i29 : PySem.W.isFn K (.ref (He.fAd K ("Web", some "with_yard"))) = true := c.fact 40 rfl
  have a30 : PySem.W.nsIn K mainGlobals "_law_web" = some (some (.ref (He.fAd K ("_law_web", none)))) := He.eqO_ok (c.fact 41 rfl)
  have a31 : PySem.W.findIn K (.ref (He.ga K "Walk")) "web" = some (some (.ref (He.fAd K ("Walk", some "web")))) := He.eqO_ok (c.fact 42 rfl)
  have i31 : PySem.W.isFn K (.ref (He.fAd K ("Walk", some "web"))) = true := c.fact 43 rfl
  have a32 : PySem.W.nsIn K mainGlobals "undone" = some (some (.ref (He.fAd K ("undone", none)))) := He.eqO_ok (c.fact 44 rfl)
  have a33 : PySem.W.nsIn K mainGlobals "back_row" = some (some (.ref (He.fAd K ("back_row", none)))) := He.eqO_ok (c.fact 45 rfl)
  have a34 : PySem.W.findIn K (.ref (He.ga K "Walk")) "is_home" = some (some (.ref (He.fAd K ("Walk", some "is_home")))) := He.eqO_ok (c.fact 46 rfl)
  have i34 : PySem.W.isFn K (.ref (He.fAd K ("Walk", some "is_home"))) = true := c.fact 47 rfl
  have a35 : PySem.W.findIn K (.ref (He.ga K "Web")) "rule" = some (some (.ref (He.fAd K ("Web", some "rule")))) := He.eqO_ok (c.fact 48 rfl)
  have i35 : PySem.W.isFn K (.ref (He.fAd K ("Web", some "rule"))) = true := c.fact 49 rfl
  have a36 : PySem.W.nsIn K mainGlobals "parted" = some (some (.ref (He.fAd K ("parted", none)))) := He.eqO_ok (c.fact 50 rfl)
  have a37 : PySem.W.nsIn K mainGlobals "settled" = some (some (.ref (He.fAd K ("settled", none)))) := He.eqO_ok (c.fact 51 rfl)
  have a38 : PySem.W.nsIn K mainGlobals "settled_walk" = some (some (.ref (He.fAd K ("settled_walk", none)))) := He.eqO_ok (c.fact 52 rfl)
  have a39 : PySem.W.nsIn K mainGlobals "cut_round" = some (some (.ref (He.fAd K ("cut_round", none)))) := He.eqO_ok (c.fact 53 rfl)
  have a40 : PySem.W.findIn K (.ref (He.ga K "Web")) "steps_from" = some (some (.ref (He.fAd K ("Web", some "steps_from")))) := He.eqO_ok (c.fact 54 rfl)
  have i40 : PySem.W.isFn K (.ref (He.fAd K ("Web", some "steps_from"))) = true := c.fact 55 rfl
  have a41 : PySem.W.nsIn K mainGlobals "joined_row" = some (some (.ref (He.fAd K ("joined_row", none)))) := He.eqO_ok (c.fact 56 rfl)
  have a42 : PySem.W.nsIn K mainGlobals "followed" = some (some (.ref (He.fAd K ("followed", none)))) := He.eqO_ok (c.fact 57 rfl)
  have a43 : PySem.W.findIn K (.ref (He.ga K "Web")) "__eq__" = some (some (.ref (He.fAd K ("Web", some "__eq__")))) := He.eqO_ok (c.fact 58 rfl)
  have i43 : PySem.W.isFn K (.ref (He.fAd K ("Web", some "__eq__"))) = true := c.fact 59 rfl
  have a44 : PySem.W.nsIn K mainGlobals "need_alike_webs" = some (some (.ref (He.fAd K ("need_alike_webs", none)))) := He.eqO_ok (c.fact 60 rfl)
  have a45 : PySem.W.nsIn K mainGlobals "put_together" = some (some (.ref (He.fAd K ("put_together", none)))) := He.eqO_ok (c.fact 61 rfl)
  have a46 : PySem.W.nsIn K mainGlobals "row_of" = some (some (.ref (He.fAd K ("row_of", none)))) := He.eqO_ok (c.fact 62 rfl)
  have a47 : PySem.W.nsIn K mainGlobals "plain_from" = some (some (.ref (He.fAd K ("plain_from", none)))) := He.eqO_ok (c.fact 63 rfl)
  have a48 : PySem.W.nsIn K mainGlobals "yard_behind" = some (some (.ref (He.fAd K ("yard_behind", none)))) := He.eqO_ok (c.fact 64 rfl)
  have a49 : PySem.W.nsIn K mainGlobals "stay_of" = some (some (.ref (He.fAd K ("stay_of", none)))) := He.eqO_ok (c.fact 65 rfl)
  have a50 : PySem.W.nsIn K mainGlobals "law" = some (some (.ref (He.fAd K ("law", none)))) := He.eqO_ok (c.fact 66 rfl)
  have gWalk : PySem.W.nsIn K mainGlobals "Walk" = some (some (.ref (He.ga K "Walk"))) := He.eqO_ok (c.fact 67 rfl)
  have pgWalk : PySem.W.plainGet K (He.ga K "Walk") Str.empty = true := c.fact 68 rfl
  have hdWalk : PySem.W.hasDictIn K (He.ga K "Walk") = true := c.fact 69 rfl
  have poWalk : PySem.W.plainOver K (He.ga K "Walk") = true := c.fact 70 rfl
  have saWalk : PySem.W.findIn K (.ref (He.ga K "Walk")) "__setattr__" = some (some (.builtin "object.__setattr__")) := He.eqO_ok (c.fact 71 rfl)
  have haWalk : PySem.W.findIn K (.ref (He.ga K "Walk")) "__class__" = some (some (.builtin "object.__class__")) := He.eqO_ok (c.fact 72 rfl)
  have hmWalk : PySem.W.mroIn K (He.ga K "Walk") (.type "object") = some true := of_decide_eq_true (c.fact 73 rfl)
  have miWalk : PySem.W.makesIn K (He.ga K "Walk") = true := c.fact 74 rfl
  have kcWalk : PySem.W.keepIn K (.ref (He.ga K "Walk")) = true := c.fact 75 rfl
  have gWeb : PySem.W.nsIn K mainGlobals "Web" = some (some (.ref (He.ga K "Web"))) := He.eqO_ok (c.fact 76 rfl)
  have pgWeb : PySem.W.plainGet K (He.ga K "Web") Str.empty = true := c.fact 77 rfl
  have hdWeb : PySem.W.hasDictIn K (He.ga K "Web") = true := c.fact 78 rfl
  have poWeb : PySem.W.plainOver K (He.ga K "Web") = true := c.fact 79 rfl
  have saWeb : PySem.W.findIn K (.ref (He.ga K "Web")) "__setattr__" = some (some (.builtin "object.__setattr__")) := He.eqO_ok (c.fact 80 rfl)
  have haWeb : PySem.W.findIn K (.ref (He.ga K "Web")) "__class__" = some (some (.builtin "object.__class__")) := He.eqO_ok (c.fact 81 rfl)
  have hmWeb : PySem.W.mroIn K (He.ga K "Web") (.type "object") = some true := of_decide_eq_true (c.fact 82 rfl)
  have miWeb : PySem.W.makesIn K (He.ga K "Web") = true := c.fact 83 rfl
  have kcWeb : PySem.W.keepIn K (.ref (He.ga K "Web")) = true := c.fact 84 rfl
  have neWeb : PySem.W.findIn K (.ref (He.ga K "Web")) "__ne__" = some (some (.builtin "object.__ne__")) := He.eqO_ok (c.fact 85 rfl)
  have na_Walk_over : PySem.W.findIn K (.ref (He.ga K "Walk")) "over" = some none := He.eqO_ok (c.fact 86 rfl)
  have na_Walk_line : PySem.W.findIn K (.ref (He.ga K "Walk")) "line" = some none := He.eqO_ok (c.fact 87 rfl)
  have na_Walk_spots : PySem.W.findIn K (.ref (He.ga K "Walk")) "spots" = some none := He.eqO_ok (c.fact 88 rfl)
  have na_Web_places : PySem.W.findIn K (.ref (He.ga K "Web")) "places" = some none := He.eqO_ok (c.fact 89 rfl)
  have na_Web_roads : PySem.W.findIn K (.ref (He.ga K "Web")) "roads" = some none := He.eqO_ok (c.fact 90 rfl)
  have hn : PySem.W.specialIn K (.builtin "object.__class__") "__get__" = some (some (.builtin "getset_descriptor.__get__")) := He.eqO_ok (c.fact 91 rfl)
  have htk : PySem.W.takesIn K (.builtin "object.__class__") = some true := of_decide_eq_true (c.fact 92 rfl)
  have cb : clsB K [("Walk", (He.ga K "Walk")), ("Web", (He.ga K "Web"))] = true := c.fact 93 rfl
  have zlen : PySem.W.nsIn K mainGlobals "len" = some none := He.eqO_ok (c.fact 94 rfl)
  have ztuple : PySem.W.nsIn K mainGlobals "tuple" = some none := He.eqO_ok (c.fact 95 rfl)
  have zenumerate : PySem.W.nsIn K mainGlobals "enumerate" = some none := He.eqO_ok (c.fact 96 rfl)
  have zisinstance : PySem.W.nsIn K mainGlobals "isinstance" = some none := He.eqO_ok (c.fact 97 rfl)
  have zabs : PySem.W.nsIn K mainGlobals "abs" = some none := He.eqO_ok (c.fact 98 rfl)
  have zlist : PySem.W.nsIn K mainGlobals "list" = some none := He.eqO_ok (c.fact 99 rfl)
  have zrange : PySem.W.nsIn K mainGlobals "range" = some none := He.eqO_ok (c.fact 100 rfl)
  have zbool : PySem.W.nsIn K mainGlobals "bool" = some none := He.eqO_ok (c.fact 101 rfl)
  have zint : PySem.W.nsIn K mainGlobals "int" = some none := He.eqO_ok (c.fact 102 rfl)
  have zstr : PySem.W.nsIn K mainGlobals "str" = some none := He.eqO_ok (c.fact 103 rfl)
  have zall : PySem.W.nsIn K mainGlobals "all" = some none := He.eqO_ok (c.fact 104 rfl)
  have zzip : PySem.W.nsIn K mainGlobals "zip" = some none := He.eqO_ok (c.fact 105 rfl)
  have cMOST_TERMS := He.int_ok X G (c.fact 106 rfl)
  have cDEEPEST := He.int_ok X G (c.fact 107 rfl)
  have cGREATEST := He.int_ok X G (c.fact 108 rfl)
  have cLONGEST := He.int_ok X G (c.fact 109 rfl)
  have cMOST_TURNS := He.int_ok X G (c.fact 110 rfl)
  have cMOST_PASSAGES := He.int_ok X G (c.fact 111 rfl)
  have cMOST_YARDS := He.int_ok X G (c.fact 112 rfl)
  have cLOOKED := He.int_ok X G (c.fact 113 rfl)
  have cMOST_WALKS := He.int_ok X G (c.fact 114 rfl)
  have cMOST_TIMES := He.int_ok X G (c.fact 115 rfl)
  have cLETTERS := He.str_ok X G (c.fact 116 rfl)
  have cLONGEST_NAME := He.int_ok X G (c.fact 117 rfl)
  have cMOST_LOOKED := He.int_ok X G (c.fact 118 rfl)
  have e := hfa.symm.trans (PySem.W.mg_of X G a50)
  have e2 : (He.fAd K ("law", none)) = fa := by cases e; rfl
  subst e2
  obtain ⟨d1, FD1⟩ := c.def_ 0 rfl
  have F1 : Fun K "need_yard" "Web.need_yard" s_Web_need_yard (He.fAd K ("Web", some "need_yard")) d1 := funOfD FD1
  have b1 := F1.binds (ps := ["self", "name"]) fun _ _ _ _ _ _ us hl => match us, hl with | [_, _], _ => rfl
  obtain ⟨d2, FD2⟩ := c.def_ 1 rfl
  have F2 : Fun K "need_form" "need_form" s_need_form (He.fAd K ("need_form", none)) d2 := funOfD FD2
  have b2 := F2.binds (ps := ["row"]) fun _ _ _ _ _ _ us hl => match us, hl with | [_], _ => rfl
  obtain ⟨d3, FD3⟩ := c.def_ 2 rfl
  have F3 : Fun K "road_of" "Web.road_of" s_Web_road_of (He.fAd K ("Web", some "road_of")) d3 := funOfD FD3
  have b3 := F3.binds (ps := ["self", "name"]) fun _ _ _ _ _ _ us hl => match us, hl with | [_, _], _ => rfl
  obtain ⟨d4, FD4⟩ := c.def_ 3 rfl
  have F4 : Fun K "turned_so" "Web.turned_so" s_Web_turned_so (He.fAd K ("Web", some "turned_so")) d4 := funOfD FD4
  have b4 := F4.binds (ps := ["self", "step", "at"]) fun _ _ _ _ _ _ us hl => match us, hl with | [_, _, _], _ => rfl
  obtain ⟨d5, FD5⟩ := c.def_ 4 rfl
  have F5 : Fun K "ends" "Web.ends" s_Web_ends (He.fAd K ("Web", some "ends")) d5 := funOfD FD5
  have b5 := F5.binds (ps := ["self", "step"]) fun _ _ _ _ _ _ us hl => match us, hl with | [_, _], _ => rfl
  obtain ⟨d6, FD6⟩ := c.def_ 5 rfl
  have F6 : Fun K "yards_on" "yards_on" s_yards_on (He.fAd K ("yards_on", none)) d6 := funOfD FD6
  have b6 := F6.binds (ps := ["web", "start", "row"]) fun _ _ _ _ _ _ us hl => match us, hl with | [_, _, _], _ => rfl
  obtain ⟨d7, FD7⟩ := c.def_ 6 rfl
  have F7 := FD7
  have b7 := funD_all (st := s_Walk_dinit) (ps := ["self", "web", "start", "row"]) (dvs := [.ref (He.dflAt ("Walk", some "__init__") 0 K)]) F7 (by simp) fun _ _ _ _ _ _ _ us its hl hi => match us, hl with | [_, _, _, _], _ => match its, hi with | [_], _ => ⟨_, rfl, rfl⟩
  obtain ⟨d8, FD8⟩ := c.def_ 7 rfl
  have F8 : Fun K "row" "Walk.row" s_Walk_row (He.fAd K ("Walk", some "row")) d8 := funOfD FD8
  have b8 := F8.binds (ps := ["self"]) fun _ _ _ _ _ _ us hl => match us, hl with | [_], _ => rfl
  obtain ⟨d9, FD9⟩ := c.def_ 8 rfl
  have F9 : Fun K "_law_draw" "_law_draw" s_law_draw (He.fAd K ("_law_draw", none)) d9 := funOfD FD9
  have b9 := F9.binds (ps := ["_law_flow_here", "_law_size"]) fun _ _ _ _ _ _ us hl => match us, hl with | [_, _], _ => rfl
  obtain ⟨d10, FD10⟩ := c.def_ 9 rfl
  have F10 : Fun K "_law_flow" "_law_flow" s_law_flow (He.fAd K ("_law_flow", none)) d10 := funOfD FD10
  have b10 := F10.binds (ps := ["_law_script"]) fun _ _ _ _ _ _ us hl => match us, hl with | [_], _ => rfl
  obtain ⟨d11, FD11⟩ := c.def_ 10 rfl
  have F11 : Fun K "_law_pick" "_law_pick" s_law_pick (He.fAd K ("_law_pick", none)) d11 := funOfD FD11
  have b11 := F11.binds (ps := ["_law_flow_here", "_law_lot"]) fun _ _ _ _ _ _ us hl => match us, hl with | [_, _], _ => rfl
  obtain ⟨d12, FD12⟩ := c.def_ 11 rfl
  have F12 : Fun K "_law_power" "_law_power" s_law_power (He.fAd K ("_law_power", none)) d12 := funOfD FD12
  have b12 := F12.binds (ps := ["_law_base", "_law_many"]) fun _ _ _ _ _ _ us hl => match us, hl with | [_, _], _ => rfl
  obtain ⟨d13, FD13⟩ := c.def_ 12 rfl
  have F13 : Fun K "_law_same" "_law_same" s_law_same (He.fAd K ("_law_same", none)) d13 := funOfD FD13
  have b13 := F13.binds (ps := ["_law_found", "_law_due"]) fun _ _ _ _ _ _ us hl => match us, hl with | [_, _], _ => rfl
  obtain ⟨d14, FD14⟩ := c.def_ 13 rfl
  have F14 : Fun K "start" "Walk.start" s_Walk_start (He.fAd K ("Walk", some "start")) d14 := funOfD FD14
  have b14 := F14.binds (ps := ["self"]) fun _ _ _ _ _ _ us hl => match us, hl with | [_], _ => rfl
  obtain ⟨d15, FD15⟩ := c.def_ 14 rfl
  have F15 : Fun K "_law_undone" "_law_undone" s_law_undone (He.fAd K ("_law_undone", none)) d15 := funOfD FD15
  have b15 := F15.binds (ps := ["_law_step"]) fun _ _ _ _ _ _ us hl => match us, hl with | [_], _ => rfl
  obtain ⟨d16, FD16⟩ := c.def_ 15 rfl
  have F16 : Fun K "_law_back" "_law_back" s_law_back (He.fAd K ("_law_back", none)) d16 := funOfD FD16
  have b16 := F16.binds (ps := ["_law_row"]) fun _ _ _ _ _ _ us hl => match us, hl with | [_], _ => rfl
  obtain ⟨d17, FD17⟩ := c.def_ 16 rfl
  have F17 : Fun K "_law_join" "_law_join" s_law_join (He.fAd K ("_law_join", none)) d17 := funOfD FD17
  have b17 := F17.binds (ps := ["_law_row", "_law_other"]) fun _ _ _ _ _ _ us hl => match us, hl with | [_, _], _ => rfl
  obtain ⟨d18, FD18⟩ := c.def_ 17 rfl
  have F18 : Fun K "_law_road" "_law_road" s_law_road (He.fAd K ("_law_road", none)) d18 := funOfD FD18
  have b18 := F18.binds (ps := ["_law_m", "_law_name"]) fun _ _ _ _ _ _ us hl => match us, hl with | [_, _], _ => rfl
  obtain ⟨d19, FD19⟩ := c.def_ 18 rfl
  have F19 : Fun K "_law_rule" "_law_rule" s_law_rule (He.fAd K ("_law_rule", none)) d19 := funOfD FD19
  have b19 := F19.binds (ps := ["_law_m", "_law_step"]) fun _ _ _ _ _ _ us hl => match us, hl with | [_, _], _ => rfl
  obtain ⟨d20, FD20⟩ := c.def_ 19 rfl
  have F20 : Fun K "_law_settled" "_law_settled" s_law_settled (He.fAd K ("_law_settled", none)) d20 := funOfD FD20
  have b20 := F20.binds (ps := ["_law_m", "_law_row"]) fun _ _ _ _ _ _ us hl => match us, hl with | [_, _], _ => rfl
  obtain ⟨d21, FD21⟩ := c.def_ 20 rfl
  have F21 : Fun K "_law_sees" "_law_sees" s_law_sees (He.fAd K ("_law_sees", none)) d21 := funOfD FD21
  have b21 := F21.binds (ps := ["_law_m", "_law_told", "_law_one_row", "_law_other_start", "_law_other_row"]) fun _ _ _ _ _ _ us hl => match us, hl with | [_, _, _, _, _], _ => rfl
  obtain ⟨d22, FD22⟩ := c.def_ 21 rfl
  have F22 : Fun K "__init__" "Web.__init__" s_Web_dinit (He.fAd K ("Web", some "__init__")) d22 := funOfD FD22
  have b22 := F22.binds (ps := ["self"]) fun _ _ _ _ _ _ us hl => match us, hl with | [_], _ => rfl
  obtain ⟨d23, FD23⟩ := c.def_ 22 rfl
  have F23 : Fun K "is_name" "is_name" s_is_name (He.fAd K ("is_name", none)) d23 := funOfD FD23
  have b23 := F23.binds (ps := ["text"]) fun _ _ _ _ _ _ us hl => match us, hl with | [_], _ => rfl
  obtain ⟨d24, FD24⟩ := c.def_ 23 rfl
  have F24 : Fun K "need_new" "Web.need_new" s_Web_need_new (He.fAd K ("Web", some "need_new")) d24 := funOfD FD24
  have b24 := F24.binds (ps := ["self", "name"]) fun _ _ _ _ _ _ us hl => match us, hl with | [_, _], _ => rfl
  obtain ⟨d25, FD25⟩ := c.def_ 24 rfl
  have F25 : Fun K "turned" "Web.turned" s_Web_turned (He.fAd K ("Web", some "turned")) d25 := funOfD FD25
  have b25 := F25.binds (ps := ["self", "places", "roads"]) fun _ _ _ _ _ _ us hl => match us, hl with | [_, _, _], _ => rfl
  obtain ⟨d26, FD26⟩ := c.def_ 25 rfl
  have F26 : Fun K "is_whole" "is_whole" s_is_whole (He.fAd K ("is_whole", none)) d26 := funOfD FD26
  have b26 := F26.binds (ps := ["thing", "low", "high"]) fun _ _ _ _ _ _ us hl => match us, hl with | [_, _, _], _ => rfl
  obtain ⟨d27, FD27⟩ := c.def_ 26 rfl
  have F27 : Fun K "need_turns" "need_turns" s_need_turns (He.fAd K ("need_turns", none)) d27 := funOfD FD27
  have b27 := F27.binds (ps := ["number"]) fun _ _ _ _ _ _ us hl => match us, hl with | [_], _ => rfl
  obtain ⟨d28, FD28⟩ := c.def_ 27 rfl
  have F28 : Fun K "with_passage" "Web.with_passage" s_Web_with_passage (He.fAd K ("Web", some "with_passage")) d28 := funOfD FD28
  obtain ⟨d29, FD29⟩ := c.def_ 28 rfl
  have F29 : Fun K "with_yard" "Web.with_yard" s_Web_with_yard (He.fAd K ("Web", some "with_yard")) d29 := funOfD FD29
  have b29 := F29.binds (ps := ["self", "name"]) fun _ _ _ _ _ _ us hl => match us, hl with | [_, _], _ => rfl
  obtain ⟨d30, FD30⟩ := c.def_ 29 rfl
  have F30 : Fun K "_law_web" "_law_web" s_law_web (He.fAd K ("_law_web", none)) d30 := funOfD FD30
  have b30 := F30.binds (ps := ["_law_m"]) fun _ _ _ _ _ _ us hl => match us, hl with | [_], _ => rfl
  obtain ⟨d31, FD31⟩ := c.def_ 30 rfl
  have F31 : Fun K "web" "Walk.web" s_Walk_web (He.fAd K ("Walk", some "web")) d31 := funOfD FD31
  have b31 := F31.binds (ps := ["self"]) fun _ _ _ _ _ _ us hl => match us, hl with | [_], _ => rfl
  obtain ⟨d32, FD32⟩ := c.def_ 31 rfl
  have F32 : Fun K "undone" "undone" s_undone (He.fAd K ("undone", none)) d32 := funOfD FD32
  have b32 := F32.binds (ps := ["step"]) fun _ _ _ _ _ _ us hl => match us, hl with | [_], _ => rfl
  obtain ⟨d33, FD33⟩ := c.def_ 32 rfl
  have F33 : Fun K "back_row" "back_row" s_back_row (He.fAd K ("back_row", none)) d33 := funOfD FD33
  have b33 := F33.binds (ps := ["row"]) fun _ _ _ _ _ _ us hl => match us, hl with | [_], _ => rfl
  obtain ⟨d34, FD34⟩ := c.def_ 33 rfl
  have F34 : Fun K "is_home" "Walk.is_home" s_Walk_is_home (He.fAd K ("Walk", some "is_home")) d34 := funOfD FD34
  have b34 := F34.binds (ps := ["self"]) fun _ _ _ _ _ _ us hl => match us, hl with | [_], _ => rfl
  obtain ⟨d35, FD35⟩ := c.def_ 34 rfl
  have F35 : Fun K "rule" "Web.rule" s_Web_rule (He.fAd K ("Web", some "rule")) d35 := funOfD FD35
  have b35 := F35.binds (ps := ["self", "step"]) fun _ _ _ _ _ _ us hl => match us, hl with | [_, _], _ => rfl
  obtain ⟨d36, FD36⟩ := c.def_ 35 rfl
  have F36 : Fun K "parted" "parted" s_parted (He.fAd K ("parted", none)) d36 := funOfD FD36
  have b36 := F36.binds (ps := ["number", "by"]) fun _ _ _ _ _ _ us hl => match us, hl with | [_, _], _ => rfl
  obtain ⟨d37, FD37⟩ := c.def_ 36 rfl
  have F37 : Fun K "settled" "settled" s_settled (He.fAd K ("settled", none)) d37 := funOfD FD37
  have b37 := F37.binds (ps := ["web", "row"]) fun _ _ _ _ _ _ us hl => match us, hl with | [_, _], _ => rfl
  obtain ⟨d38, FD38⟩ := c.def_ 37 rfl
  have F38 : Fun K "settled_walk" "settled_walk" s_settled_walk (He.fAd K ("settled_walk", none)) d38 := funOfD FD38
  have b38 := F38.binds (ps := ["walk"]) fun _ _ _ _ _ _ us hl => match us, hl with | [_], _ => rfl
  obtain ⟨d39, FD39⟩ := c.def_ 38 rfl
  have F39 : Fun K "cut_round" "cut_round" s_cut_round (He.fAd K ("cut_round", none)) d39 := funOfD FD39
  have b39 := F39.binds (ps := ["walk"]) fun _ _ _ _ _ _ us hl => match us, hl with | [_], _ => rfl
  obtain ⟨d40, FD40⟩ := c.def_ 39 rfl
  have F40 : Fun K "steps_from" "Web.steps_from" s_Web_steps_from (He.fAd K ("Web", some "steps_from")) d40 := funOfD FD40
  have b40 := F40.binds (ps := ["self", "yard"]) fun _ _ _ _ _ _ us hl => match us, hl with | [_, _], _ => rfl
  obtain ⟨d41, FD41⟩ := c.def_ 40 rfl
  have F41 : Fun K "joined_row" "joined_row" s_joined_row (He.fAd K ("joined_row", none)) d41 := funOfD FD41
  have b41 := F41.binds (ps := ["row", "other"]) fun _ _ _ _ _ _ us hl => match us, hl with | [_, _], _ => rfl
  obtain ⟨d42, FD42⟩ := c.def_ 41 rfl
  have F42 : Fun K "followed" "followed" s_followed (He.fAd K ("followed", none)) d42 := funOfD FD42
  have b42 := F42.binds (ps := ["web", "yard", "turns", "limit"]) fun _ _ _ _ _ _ us hl => match us, hl with | [_, _, _, _], _ => rfl
  obtain ⟨d43, FD43⟩ := c.def_ 42 rfl
  have F43 : Fun K "__eq__" "Web.__eq__" s_Web_deq (He.fAd K ("Web", some "__eq__")) d43 := funOfD FD43
  have b43 := F43.binds (ps := ["self", "other"]) fun _ _ _ _ _ _ us hl => match us, hl with | [_, _], _ => rfl
  obtain ⟨d44, FD44⟩ := c.def_ 43 rfl
  have F44 : Fun K "need_alike_webs" "need_alike_webs" s_need_alike_webs (He.fAd K ("need_alike_webs", none)) d44 := funOfD FD44
  have b44 := F44.binds (ps := ["one", "other"]) fun _ _ _ _ _ _ us hl => match us, hl with | [_, _], _ => rfl
  obtain ⟨d45, FD45⟩ := c.def_ 44 rfl
  have F45 : Fun K "put_together" "put_together" s_put_together (He.fAd K ("put_together", none)) d45 := funOfD FD45
  have b45 := F45.binds (ps := ["rows"]) fun _ _ _ _ _ _ us hl => match us, hl with | [_], _ => rfl
  obtain ⟨d46, FD46⟩ := c.def_ 45 rfl
  have F46 : Fun K "row_of" "row_of" s_row_of (He.fAd K ("row_of", none)) d46 := funOfD FD46
  have b46 := F46.binds (ps := ["pairs", "here"]) fun _ _ _ _ _ _ us hl => match us, hl with | [_, _], _ => rfl
  obtain ⟨d47, FD47⟩ := c.def_ 46 rfl
  have F47 : Fun K "plain_from" "plain_from" s_plain_from (He.fAd K ("plain_from", none)) d47 := funOfD FD47
  have b47 := F47.binds (ps := ["web", "start", "rows"]) fun _ _ _ _ _ _ us hl => match us, hl with | [_, _, _], _ => rfl
  obtain ⟨d48, FD48⟩ := c.def_ 47 rfl
  have F48 : Fun K "yard_behind" "yard_behind" s_yard_behind (He.fAd K ("yard_behind", none)) d48 := funOfD FD48
  have b48 := F48.binds (ps := ["walk", "begun"]) fun _ _ _ _ _ _ us hl => match us, hl with | [_, _], _ => rfl
  obtain ⟨d49, FD49⟩ := c.def_ 48 rfl
  have F49 : Fun K "stay_of" "stay_of" s_stay_of (He.fAd K ("stay_of", none)) d49 := funOfDK FD49
  obtain ⟨d50, FD50⟩ := c.def_ 49 rfl
  have F50 : Fun K "law" "law" s_law (He.fAd K ("law", none)) d50 := funOfD FD50
  have b50 := F50.binds (ps := ["_law_script"]) fun _ _ _ _ _ _ us hl => match us, hl with | [_], _ => rfl
  have kb0_Web_with_passage := fun_kbn (ps := ["self", "name", "begin", "end", "here", "there"]) (ks := ["there", "here"]) F28 4 [1, 0] fun _ _ _ _ _ _ us ws hl hw => match us, hl with | [_, _, _, _], _ => match ws, hw with | [_, _], _ => rfl
  have kf0_stay_of := funK_kbn (st := s_stay_of) (ps := ["one", "other", "limit"]) (ks := []) (kws := [("limit", .int 300)]) FD49 2 [0] [("limit", .int 300)] (by simp) (by simp) fun _ _ _ _ _ _ us mv ws hu hm hw => match us, hu with | [_, _], _ => match mv, hm with | [_], _ => match ws, hw with | [], _ => ⟨_, _, _, _, _, _, rfl, rfl, rfl⟩
  have kf1_stay_of := funK_kbn (st := s_stay_of) (ps := ["one", "other", "limit"]) (ks := ["limit"]) (kws := [("limit", .int 300)]) FD49 2 [0] [] (by simp) (by simp) fun _ _ _ _ _ _ us mv ws hu hm hw => match us, hu with | [_, _], _ => match mv, hm with | [], _ => match ws, hw with | [_], _ => rfl
  have T : Tx K mg ⟨(He.fAd K ("Web", some "need_yard")), d1, (He.fAd K ("need_form", none)), d2, (He.fAd K ("Web", some "road_of")), d3, (He.fAd K ("Web", some "turned_so")), d4, (He.fAd K ("Web", some "ends")), d5, (He.fAd K ("yards_on", none)), d6, (He.fAd K ("Walk", some "__init__")), d7, [.ref (He.dflAt ("Walk", some "__init__") 0 K)], (He.fAd K ("Walk", some "row")), d8, (He.fAd K ("_law_draw", none)), d9, (He.fAd K ("_law_flow", none)), d10, (He.fAd K ("_law_pick", none)), d11, (He.fAd K ("_law_power", none)), d12, (He.fAd K ("_law_same", none)), d13, (He.fAd K ("Walk", some "start")), d14, (He.fAd K ("_law_undone", none)), d15, (He.fAd K ("_law_back", none)), d16, (He.fAd K ("_law_join", none)), d17, (He.fAd K ("_law_road", none)), d18, (He.fAd K ("_law_rule", none)), d19, (He.fAd K ("_law_settled", none)), d20, (He.fAd K ("_law_sees", none)), d21, (He.fAd K ("Web", some "__init__")), d22, (He.fAd K ("is_name", none)), d23, (He.fAd K ("Web", some "need_new")), d24, (He.fAd K ("Web", some "turned")), d25, (He.fAd K ("is_whole", none)), d26, (He.fAd K ("need_turns", none)), d27, (He.fAd K ("Web", some "with_passage")), d28, (He.fAd K ("Web", some "with_yard")), d29, (He.fAd K ("_law_web", none)), d30, (He.fAd K ("Walk", some "web")), d31, (He.fAd K ("undone", none)), d32, (He.fAd K ("back_row", none)), d33, (He.fAd K ("Walk", some "is_home")), d34, (He.fAd K ("Web", some "rule")), d35, (He.fAd K ("parted", none)), d36, (He.fAd K ("settled", none)), d37, (He.fAd K ("settled_walk", none)), d38, (He.fAd K ("cut_round", none)), d39, (He.fAd K ("Web", some "steps_from")), d40, (He.fAd K ("joined_row", none)), d41, (He.fAd K ("followed", none)), d42, (He.fAd K ("Web", some "__eq__")), d43, (He.fAd K ("need_alike_webs", none)), d44, (He.fAd K ("put_together", none)), d45, (He.fAd K ("row_of", none)), d46, (He.fAd K ("plain_from", none)), d47, (He.fAd K ("yard_behind", none)), d48, (He.fAd K ("stay_of", none)), d49, (He.fAd K ("law", none)), d50, He.ga K "Walk", He.ga K "Web"⟩ := {
    F_Web_need_yard := F1, me_Web_need_yard := ⟨a1, i1, F1.kp⟩, b_Web_need_yard := b1,
    F_need_form := F2, g_need_form := PySem.W.mg_of X G a2, b_need_form := b2,
    F_Web_road_of := F3, me_Web_road_of := ⟨a3, i3, F3.kp⟩, b_Web_road_of := b3,
    F_Web_turned_so := F4, me_Web_turned_so := ⟨a4, i4, F4.kp⟩, b_Web_turned_so := b4,
    F_Web_ends := F5, me_Web_ends := ⟨a5, i5, F5.kp⟩, b_Web_ends := b5,
    F_yards_on := F6, g_yards_on := PySem.W.mg_of X G a6, b_yards_on := b6,
    F_Walk_dinit := F7, mk_Walk := ⟨miWalk, a7, i7, kcWalk⟩, b_Walk_dinit := b7,
    F_Walk_row := F8, me_Walk_row := ⟨a8, i8, F8.kp⟩, b_Walk_row := b8,
    F_law_draw := F9, g_law_draw := PySem.W.mg_of X G a9, b_law_draw := b9,
    F_law_flow := F10, g_law_flow := PySem.W.mg_of X G a10, b_law_flow := b10,
    F_law_pick := F11, g_law_pick := PySem.W.mg_of X G a11, b_law_pick := b11,
    F_law_power := F12, g_law_power := PySem.W.mg_of X G a12, b_law_power := b12,
    F_law_same := F13, g_law_same := PySem.W.mg_of X G a13, b_law_same := b13,
    F_Walk_start := F14, me_Walk_start := ⟨a14, i14, F14.kp⟩, b_Walk_start := b14,
    F_law_undone := F15, g_law_undone := PySem.W.mg_of X G a15, b_law_undone := b15,
    F_law_back := F16, g_law_back := PySem.W.mg_of X G a16, b_law_back := b16,
    F_law_join := F17, g_law_join := PySem.W.mg_of X G a17, b_law_join := b17,
    F_law_road := F18, g_law_road := PySem.W.mg_of X G a18, b_law_road := b18,
    F_law_rule := F19, g_law_rule := PySem.W.mg_of X G a19, b_law_rule := b19,
    F_law_settled := F20, g_law_settled := PySem.W.mg_of X G a20, b_law_settled := b20,
    F_law_sees := F21, g_law_sees := PySem.W.mg_of X G a21, b_law_sees := b21,
    F_Web_dinit := F22, mk_Web := ⟨miWeb, a22, i22, kcWeb⟩, b_Web_dinit := b22,
    F_is_name := F23, g_is_name := PySem.W.mg_of X G a23, b_is_name := b23,
    F_Web_need_new := F24, me_Web_need_new := ⟨a24, i24, F24.kp⟩, b_Web_need_new := b24,
    F_Web_turned := F25, me_Web_turned := ⟨a25, i25, F25.kp⟩, b_Web_turned := b25,
    F_is_whole := F26, g_is_whole := PySem.W.mg_of X G a26, b_is_whole := b26,
    F_need_turns := F27, g_need_turns := PySem.W.mg_of X G a27, b_need_turns := b27,
    F_Web_with_passage := F28, me_Web_with_passage := ⟨a28, i28, F28.kp⟩,
    F_Web_with_yard := F29, me_Web_with_yard := ⟨a29, i29, F29.kp⟩, b_Web_with_yard := b29,
    F_law_web := F30, g_law_web := PySem.W.mg_of X G a30, b_law_web := b30,
    F_Walk_web := F31, me_Walk_web := ⟨a31, i31, F31.kp⟩, b_Walk_web := b31,
    F_undone := F32, g_undone := PySem.W.mg_of X G a32, b_undone := b32,
    F_back_row := F33, g_back_row := PySem.W.mg_of X G a33, b_back_row := b33,
    F_Walk_is_home := F34, me_Walk_is_home := ⟨a34, i34, F34.kp⟩, b_Walk_is_home := b34,
    F_Web_rule := F35, me_Web_rule := ⟨a35, i35, F35.kp⟩, b_Web_rule := b35,
    F_parted := F36, g_parted := PySem.W.mg_of X G a36, b_parted := b36,
    F_settled := F37, g_settled := PySem.W.mg_of X G a37, b_settled := b37,
    F_settled_walk := F38, g_settled_walk := PySem.W.mg_of X G a38, b_settled_walk := b38,
    F_cut_round := F39, g_cut_round := PySem.W.mg_of X G a39, b_cut_round := b39,
    F_Web_steps_from := F40, me_Web_steps_from := ⟨a40, i40, F40.kp⟩, b_Web_steps_from := b40,
    F_joined_row := F41, g_joined_row := PySem.W.mg_of X G a41, b_joined_row := b41,
    F_followed := F42, g_followed := PySem.W.mg_of X G a42, b_followed := b42,
    F_Web_deq := F43, me_Web_deq := ⟨a43, i43, F43.kp⟩, b_Web_deq := b43,
    F_need_alike_webs := F44, g_need_alike_webs := PySem.W.mg_of X G a44, b_need_alike_webs := b44,
    F_put_together := F45, g_put_together := PySem.W.mg_of X G a45, b_put_together := b45,
    F_row_of := F46, g_row_of := PySem.W.mg_of X G a46, b_row_of := b46,
    F_plain_from := F47, g_plain_from := PySem.W.mg_of X G a47, b_plain_from := b47,
    F_yard_behind := F48, g_yard_behind := PySem.W.mg_of X G a48, b_yard_behind := b48,
    F_stay_of := F49, g_stay_of := PySem.W.mg_of X G a49,
    F_law := F50, g_law := PySem.W.mg_of X G a50, b_law := b50,
    kf0_stay_of := kf0_stay_of,
    kf1_stay_of := kf1_stay_of,
    kb0_Web_with_passage := kb0_Web_with_passage,
    g_Walk := PySem.W.mg_of X G gWalk, cF_Walk := ⟨pgWalk, hdWalk, poWalk, saWalk, haWalk, hmWalk⟩,
    g_Web := PySem.W.mg_of X G gWeb, cF_Web := ⟨pgWeb, hdWeb, poWeb, saWeb, haWeb, hmWeb⟩,
    eq_Web := ⟨a43, neWeb, i43, hmWeb⟩,
    na_Walk_over := na_Walk_over,
    na_Walk_line := na_Walk_line,
    na_Walk_spots := na_Walk_spots,
    na_Web_places := na_Web_places,
    na_Web_roads := na_Web_roads,
    cb := cb, hn := hn, htk := htk,
    z_len := PySem.W.mg_none_of X G zlen,
    z_tuple := PySem.W.mg_none_of X G ztuple,
    z_enumerate := PySem.W.mg_none_of X G zenumerate,
    z_isinstance := PySem.W.mg_none_of X G zisinstance,
    z_abs := PySem.W.mg_none_of X G zabs,
    z_list := PySem.W.mg_none_of X G zlist,
    z_range := PySem.W.mg_none_of X G zrange,
    z_bool := PySem.W.mg_none_of X G zbool,
    z_int := PySem.W.mg_none_of X G zint,
    z_str := PySem.W.mg_none_of X G zstr,
    z_all := PySem.W.mg_none_of X G zall,
    z_zip := PySem.W.mg_none_of X G zzip,
    c_MOST_TERMS := cMOST_TERMS,
    c_DEEPEST := cDEEPEST,
    c_GREATEST := cGREATEST,
    c_LONGEST := cLONGEST,
    c_MOST_TURNS := cMOST_TURNS,
    c_MOST_PASSAGES := cMOST_PASSAGES,
    c_MOST_YARDS := cMOST_YARDS,
    c_LOOKED := cLOOKED,
    c_MOST_WALKS := cMOST_WALKS,
    c_MOST_TIMES := cMOST_TIMES,
    c_LETTERS := cLETTERS,
    c_LONGEST_NAME := cLONGEST_NAME,
    c_MOST_LOOKED := cMOST_LOOKED }
  have bA := FunD.bindsA (ps := ["_law_script"]) FD50 fun _ _ _ _ _ _ us hl => match us, hl with | [_], _ => rfl
  refine ⟨_, fun s v => ?_, fun base _ _ => law_sp (G := Gx K _) rfl (ok_law T) law_true⟩
  exact bA s [v] rfl
end Lw
open PySem PySem.W PySem.Calls PyProof.Rows in
set_option maxRecDepth 100000 in
set_option maxHeartbeats 0 in
theorem PySem.Challenge.cw_hawserweb_k72_whole_bounds_as_they_are_n_holds : PySem.Challenge.rw_hawserweb_k72_whole_bounds_as_they_are_n.Holds := by
  w_on; o_law
  refine HandSHeadRun.head_any (r := Lw.hRow) (q := view Lw.hRow.prog [74]) (H := Lw.hk) (ob := Lw.hOb) (M := 60000) (loose := Lw.hNames) (d := HandSHeadRun.topDef Lw.hRow.prog 74) (kwd := []) Lw.hOb_eq
    (by kernel_rfl) (fun s => by kernel_rfl) Lw.hRun (by kernel_rfl) (by kernel_rfl) (by kernel_rfl) (by rfl) (by first | assumption | decide +kernel) (by decide +kernel) ⟨rfl, rfl, rfl, rfl, rfl, by decide +kernel⟩ ?hw ?hc
  case hw => w_witness2
  case hc =>
    refine Dv.walk_lawE (l := PySem.Challenge.rw_hawserweb_k72_whole_bounds_as_they_are_n) (k := 22) (x := "_law_script") rfl (by kernel_rfl) ⟨rfl, by decide, by decide⟩ ?F
    intro w mg fa h Y G hmg0
    obtain ⟨K, KX, c⟩ := Y
    have hmg : mg ("law" : PySem.Str) = some (.ref fa) := by
      have e : (HandSHeadRun.topDef Lw.hRow.prog 74).name = ("law" : PySem.Str) := by kernel_rfl
      rw [← e]
      exact hmg0
    obtain ⟨fd, hb, hF⟩ := Lw.all_of (l := PySem.Challenge.rw_hawserweb_k72_whole_bounds_as_they_are_n) (w := w) KX G hmg c
    exact ⟨K, fd, KX, hb, hF⟩
