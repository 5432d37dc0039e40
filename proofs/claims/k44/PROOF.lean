import PyProof.Rows.All
import PySem.Challenge.RW_hawserweb_k44_sums
import Wide.All
import OpenK.AllK
import Wide.FinOn
import HandS.ForMost
import HandS.Wide
import HandS.Exc
import HandS.ExcOwn
import HandS.ExcInit
import HandS.Head0
import HandS.Head1
import HandS.Head2
import HandS.HeadEnd
import HandS.HeadHook1
import HandS.HeadHook2
import KE.KNestM
import KE.KTryMore
import HandS.ExcField
import KE.KExcInit
import HandS.HeadHook3
import HandS.TryOnly
import HandS.TryMany
import HandS.WordsExc
import HandS.CallSlots
import HandS.TupAny
import HandS.IsInst
import HandS.Flow
import HandS.Lambda
import HandS.Style
import HandS.FStr
import HandS.RaiseMore
import HandS.Dict
import KE.KUnpackStar
import HandS.Iter
import KE.GoesEnumKw
import HandS.Defaults
import HandS.OwnEq
import KE.GoesMore
import KE.GoesEnum
import HandS.Deep
import HandS.HeadWalk
import KE.KExcStr
import HandS.Small
import HandS.List
import HandS.DictEq
import HandS.DeepEq
import PyProof.P3Eq
import HandS.WrittenGet
import HandS.TupMul
import HandS.More
import PyProof.StrBlock2
import HandS.Text
import HandS.TupLen
import KE.KDictDisplayH
import PyProof.EqAt
import PyProof.EqKinds
import HandS.Sort
import HandS.Conv
import HandS.DictComp
set_option Elab.async false
set_option linter.all false
set_option maxRecDepth 100000
set_option maxHeartbeats 4000000
set_option autoImplicit false
/-! what the head decides: ahead of all else, for its run wants room -/
namespace Dv
open PySem PySem.Spec PyProof.Rows L2
abbrev tys : List String := ["NoneType", "bool", "int", "str", "tuple", "list", "dict"]
abbrev clss : List String := ["bool", "int", "str", "tuple", "list", "dict"]
/-- the classes' addresses by name -/
abbrev CL := List (String × Addr)
def clsB (K : PySem.W.Frag) (L : CL) : Bool := L.all fun p => tys.all (fun t => PySem.W.kitOne K (.type t) (.ref p.2) == some false) && clss.all (fun t => PySem.W.kitOne K (.ref p.2) (.type t) == some false) &&
  L.all fun q => PySem.W.kitOne K (.ref p.2) (.ref q.2) == some (p.1 == q.1)
abbrev Test : Type := PySem.W.Frag → Bool
def obsL (fs : List Test) (fn : List He.DefD) (K : PySem.W.Frag) : He.AlD := ((fs.all fun f => f K) && fn.all fun d => d.ok K, fn.map fun d => He.fnW K d.at_)
def SaysL (fs : List Test) (fn : List He.DefD) (K : PySem.W.Frag) : Prop := obsL fs fn K = He.valD fn
def obsLG (as : List Addr) (fs : List Test) (fn : List He.DefD) (g : Addr → Option Obj) : He.AlD := obsL fs fn (He.frG g as)
def hookL (as : List Addr) (fs : List Test) (fn : List He.DefD) : PySem.W.Hook where
  α := He.AlD
  obs := fun s => obsLG as fs fn s.heap.get?
  val := fun _ => He.valD fn
  says := fun _ h => ∃ K : PySem.W.Frag, K.In h ∧ SaysL fs fn K
  of := fun _ _ e => ⟨_, He.frG_in, e⟩
  keeps := fun _ _ _ ⟨K, hK, c⟩ k => ⟨K, PySem.W.Frag.In.keeps hK k, c⟩
theorem obsLG_eq {as : List Addr} {fs : List Test} {fn : List He.DefD} {g : Addr → Option Obj} {s : Shared} (h : ∀ a, g a = s.heap.get? a) : obsLG as fs fn g = (hookL as fs fn).obs s := by
  have e : g = s.heap.get? := funext h
  rw [e] <;> rfl
/-! ### tables of code objects: left out of K -/
/-! ### a world whose answer to one question is told -/
def w1 (w : World) (b : Bool) : World := { w with params := { w.params with followText := fun s => match decide (s = "special-get-raises") with
  | true => b
  | false => w.params.followText s } }
/-! ### tables of the top with text keys -/
abbrev TabD : Type := (PySem.W.Frag → Addr) × List Str
def SaysW (ts : List TabD) (w : World) (K : PySem.W.Frag) : Prop := (ts.map fun t => He.dicW K (t.1 K)) = ts.map fun t => some (He.keysIn w.params t.2)
theorem SaysW.tab {ts : List TabD} {w : World} {K : PySem.W.Frag} (c : SaysW ts w K) (i : Nat) {t : TabD} (h : ts[i]? = some t := by rfl) : He.dicW K (t.1 K) = some (He.keysIn w.params t.2) := by
  have e2 : (ts.map fun t => He.dicW K (t.1 K))[i]? = (ts.map fun t => some (He.keysIn w.params t.2))[i]? := by rw [show (ts.map fun t => He.dicW K (t.1 K)) = _ from c]
  rw [List.getElem?_map, List.getElem?_map, h] at e2
  exact Option.some.inj e2
end Dv
set_option Elab.async false
set_option linter.all false
set_option maxRecDepth 100000
set_option maxHeartbeats 4000000
set_option autoImplicit false
namespace Lw
open PySem PySem.Spec PyProof.Rows L2 Dv
def topS (i : Nat) : Stmt := PySem.Challenge.pw_hawserweb_k44_sums.main.body.getD i (.Pass ⟨0, 0, 0, 0⟩)
abbrev s_Web_need_yard : Stmt := inClass (topS 28) 6
theorem sc_Web_need_yard : FnScope ["self", "name"] ["self", "name"] (defScope s_Web_need_yard) := ⟨rfl, rfl, rfl, by decide +kernel, rfl, by decide +kernel, by decide +kernel⟩
abbrev s_need_form : Stmt := topS 30
theorem sc_need_form : FnScope ["row", "at", "thing"] ["row"] (defScope s_need_form) := ⟨rfl, rfl, rfl, by decide +kernel, rfl, by decide +kernel, by decide +kernel⟩
abbrev s_Web_road_of : Stmt := inClass (topS 28) 13
theorem sc_Web_road_of : FnScope ["self", "name", "road"] ["self", "name"] (defScope s_Web_road_of) := ⟨rfl, rfl, rfl, by decide +kernel, rfl, by decide +kernel, by decide +kernel⟩
abbrev s_Web_turned_so : Stmt := inClass (topS 28) 16
theorem sc_Web_turned_so : FnScope ["self", "step", "at", "name", "way", "road"] ["self", "step", "at"] (defScope s_Web_turned_so) := ⟨rfl, rfl, rfl, by decide +kernel, rfl, by decide +kernel, by decide +kernel⟩
abbrev s_Web_ends : Stmt := inClass (topS 28) 14
theorem sc_Web_ends : FnScope ["self", "step"] ["self", "step"] (defScope s_Web_ends) := ⟨rfl, rfl, rfl, by decide +kernel, rfl, by decide +kernel, by decide +kernel⟩
abbrev s_yards_on : Stmt := topS 31
theorem sc_yards_on : FnScope ["web", "start", "row", "found", "at", "thing", "begin", "end"] ["web", "start", "row"] (defScope s_yards_on) := ⟨rfl, rfl, rfl, by decide +kernel, rfl, by decide +kernel, by decide +kernel⟩
abbrev s_Walk_dinit : Stmt := inClass (topS 33) 0
theorem sc_Walk_dinit : FnScope ["self", "web", "start", "row"] ["self", "web", "start", "row"] (defScope s_Walk_dinit) := ⟨rfl, rfl, rfl, by decide +kernel, rfl, by decide +kernel, by decide +kernel⟩
abbrev s_Walk_end : Stmt := inClass (topS 33) 5
theorem sc_Walk_end : FnScope ["self"] ["self"] (defScope s_Walk_end) := ⟨rfl, rfl, rfl, by decide +kernel, rfl, by decide +kernel, by decide +kernel⟩
abbrev s_Walk_row : Stmt := inClass (topS 33) 6
theorem sc_Walk_row : FnScope ["self"] ["self"] (defScope s_Walk_row) := ⟨rfl, rfl, rfl, by decide +kernel, rfl, by decide +kernel, by decide +kernel⟩
abbrev s_undone : Stmt := topS 26
theorem sc_undone : FnScope ["step", "name", "way"] ["step"] (defScope s_undone) := ⟨rfl, rfl, rfl, by decide +kernel, rfl, by decide +kernel, by decide +kernel⟩
abbrev s_back_row : Stmt := topS 32
theorem sc_back_row : FnScope ["row", "thing"] ["row"] (defScope s_back_row) := ⟨rfl, rfl, rfl, by decide +kernel, rfl, by decide +kernel, by decide +kernel⟩
abbrev s_Walk_back : Stmt := inClass (topS 33) 10
theorem sc_Walk_back : FnScope ["self"] ["self"] (defScope s_Walk_back) := ⟨rfl, rfl, rfl, by decide +kernel, rfl, by decide +kernel, by decide +kernel⟩
abbrev s_law_flow : Stmt := topS 37
theorem sc_law_flow : FnScope ["_law_script"] ["_law_script"] (defScope s_law_flow) := ⟨rfl, rfl, rfl, by decide +kernel, rfl, by decide +kernel, by decide +kernel⟩
abbrev s_law_same : Stmt := topS 40
theorem sc_law_same : FnScope ["_law_found", "_law_due", "_law_k"] ["_law_found", "_law_due"] (defScope s_law_same) := ⟨rfl, rfl, rfl, by decide +kernel, rfl, by decide +kernel, by decide +kernel⟩
abbrev s_law_draw : Stmt := topS 38
theorem sc_law_draw : FnScope ["_law_flow_here", "_law_size", "_law_found", "_law_cell", "_law_base"] ["_law_flow_here", "_law_size"] (defScope s_law_draw) := ⟨rfl, rfl, rfl, by decide +kernel, rfl, by decide +kernel, by decide +kernel⟩
abbrev s_law_pick : Stmt := topS 39
theorem sc_law_pick : FnScope ["_law_flow_here", "_law_lot"] ["_law_flow_here", "_law_lot"] (defScope s_law_pick) := ⟨rfl, rfl, rfl, by decide +kernel, rfl, by decide +kernel, by decide +kernel⟩
abbrev s_law_names : Stmt := topS 41
theorem sc_law_names : FnScope ["_law_flow_here", "_law_many", "_law_words", "_law_found", "_law_k"] ["_law_flow_here", "_law_many"] (defScope s_law_names) := ⟨rfl, rfl, rfl, by decide +kernel, rfl, by decide +kernel, by decide +kernel⟩
abbrev s_law_number : Stmt := topS 42
theorem sc_law_number : FnScope ["_law_flow_here", "_law_most_now", "_law_pick_here"] ["_law_flow_here", "_law_most_now"] (defScope s_law_number) := ⟨rfl, rfl, rfl, by decide +kernel, rfl, by decide +kernel, by decide +kernel⟩
abbrev s_law_drawn_web : Stmt := topS 43
theorem sc_law_drawn_web : FnScope ["_law_flow_here", "_law_many", "_law_more", "_law_most_now", "_law_words", "_law_m", "_law_k", "_law_one", "_law_other", "_law_road_here"] ["_law_flow_here", "_law_many", "_law_more", "_law_most_now"] (defScope s_law_drawn_web) := ⟨rfl, rfl, rfl, by decide +kernel, rfl, by decide +kernel, by decide +kernel⟩
abbrev s_law_small_web : Stmt := topS 53
theorem sc_law_small_web : FnScope ["_law_flow_here", "_law_many"] ["_law_flow_here"] (defScope s_law_small_web) := ⟨rfl, rfl, rfl, by decide +kernel, rfl, by decide +kernel, by decide +kernel⟩
abbrev s_law_road : Stmt := topS 46
theorem sc_law_road : FnScope ["_law_m", "_law_name", "_law_road_here"] ["_law_m", "_law_name"] (defScope s_law_road) := ⟨rfl, rfl, rfl, by decide +kernel, rfl, by decide +kernel, by decide +kernel⟩
abbrev s_law_ends : Stmt := topS 47
theorem sc_law_ends : FnScope ["_law_m", "_law_step", "_law_road_here"] ["_law_m", "_law_step"] (defScope s_law_ends) := ⟨rfl, rfl, rfl, by decide +kernel, rfl, by decide +kernel, by decide +kernel⟩
abbrev s_law_rule : Stmt := topS 48
theorem sc_law_rule : FnScope ["_law_m", "_law_step", "_law_road_here"] ["_law_m", "_law_step"] (defScope s_law_rule) := ⟨rfl, rfl, rfl, by decide +kernel, rfl, by decide +kernel, by decide +kernel⟩
abbrev s_law_steps_from : Stmt := topS 49
theorem sc_law_steps_from : FnScope ["_law_m", "_law_yard", "_law_found", "_law_name", "_law_begin", "_law_end", "_law_near", "_law_beyond"] ["_law_m", "_law_yard"] (defScope s_law_steps_from) := ⟨rfl, rfl, rfl, by decide +kernel, rfl, by decide +kernel, by decide +kernel⟩
abbrev s_law_turns : Stmt := topS 50
theorem sc_law_turns : FnScope ["_law_flow_here", "_law_far_now"] ["_law_flow_here", "_law_far_now"] (defScope s_law_turns) := ⟨rfl, rfl, rfl, by decide +kernel, rfl, by decide +kernel, by decide +kernel⟩
abbrev s_law_undone : Stmt := topS 45
theorem sc_law_undone : FnScope ["_law_step"] ["_law_step"] (defScope s_law_undone) := ⟨rfl, rfl, rfl, by decide +kernel, rfl, by decide +kernel, by decide +kernel⟩
abbrev s_law_drawn_row : Stmt := topS 51
theorem sc_law_drawn_row : FnScope ["_law_flow_here", "_law_m", "_law_start", "_law_many", "_law_far_now", "_law_yard", "_law_row", "_law_k", "_law_some", "_law_step"] ["_law_flow_here", "_law_m", "_law_start", "_law_many", "_law_far_now"] (defScope s_law_drawn_row) := ⟨rfl, rfl, rfl, by decide +kernel, rfl, by decide +kernel, by decide +kernel⟩
abbrev s_law_walk_of : Stmt := topS 54
theorem sc_law_walk_of : FnScope ["_law_flow_here", "_law_m", "_law_most_now", "_law_far_now", "_law_start", "_law_row"] ["_law_flow_here", "_law_m", "_law_most_now", "_law_far_now"] (defScope s_law_walk_of) := ⟨rfl, rfl, rfl, by decide +kernel, rfl, by decide +kernel, by decide +kernel⟩
abbrev s_law_some_walk : Stmt := topS 55
theorem sc_law_some_walk : FnScope ["_law_flow_here", "_law_most_now", "_law_m", "_law_start", "_law_row"] ["_law_flow_here", "_law_most_now"] (defScope s_law_some_walk) := ⟨rfl, rfl, rfl, by decide +kernel, rfl, by decide +kernel, by decide +kernel⟩
abbrev s_law_yards_on : Stmt := topS 52
theorem sc_law_yards_on : FnScope ["_law_m", "_law_start", "_law_row", "_law_found", "_law_step"] ["_law_m", "_law_start", "_law_row"] (defScope s_law_yards_on) := ⟨rfl, rfl, rfl, by decide +kernel, rfl, by decide +kernel, by decide +kernel⟩
abbrev s_law_sums : Stmt := topS 56
theorem sc_law_sums : FnScope ["_law_m", "_law_start", "_law_row", "_law_turns_here", "_law_yards", "_law_k", "_law_at", "_law_gone", "_law_road_here"] ["_law_m", "_law_start", "_law_row"] (defScope s_law_sums) := ⟨rfl, rfl, rfl, by decide +kernel, rfl, by decide +kernel, by decide +kernel⟩
abbrev s_Web_dinit : Stmt := inClass (topS 28) 0
theorem sc_Web_dinit : FnScope ["self"] ["self"] (defScope s_Web_dinit) := ⟨rfl, rfl, rfl, by decide +kernel, rfl, by decide +kernel, by decide +kernel⟩
abbrev s_is_name : Stmt := topS 25
theorem sc_is_name : FnScope ["text", "sign"] ["text"] (defScope s_is_name) := ⟨rfl, rfl, rfl, by decide +kernel, rfl, by decide +kernel, by decide +kernel⟩
abbrev s_Web_need_new : Stmt := inClass (topS 28) 5
theorem sc_Web_need_new : FnScope ["self", "name", "road"] ["self", "name"] (defScope s_Web_need_new) := ⟨rfl, rfl, rfl, by decide +kernel, rfl, by decide +kernel, by decide +kernel⟩
abbrev s_Web_turned : Stmt := inClass (topS 28) 4
theorem sc_Web_turned : FnScope ["self", "places", "roads", "made"] ["self", "places", "roads"] (defScope s_Web_turned) := ⟨rfl, rfl, rfl, by decide +kernel, rfl, by decide +kernel, by decide +kernel⟩
abbrev s_is_whole : Stmt := topS 2
theorem sc_is_whole : FnScope ["thing", "low", "high"] ["thing", "low", "high"] (defScope s_is_whole) := ⟨rfl, rfl, rfl, by decide +kernel, rfl, by decide +kernel, by decide +kernel⟩
abbrev s_need_turns : Stmt := topS 27
theorem sc_need_turns : FnScope ["number"] ["number"] (defScope s_need_turns) := ⟨rfl, rfl, rfl, by decide +kernel, rfl, by decide +kernel, by decide +kernel⟩
abbrev s_Web_with_passage : Stmt := inClass (topS 28) 8
theorem sc_Web_with_passage : FnScope ["self", "name", "begin", "end", "here", "there", "yard", "number"] ["self", "name", "begin", "end", "here", "there"] (defScope s_Web_with_passage) := ⟨rfl, rfl, rfl, by decide +kernel, rfl, by decide +kernel, by decide +kernel⟩
abbrev s_Web_with_yard : Stmt := inClass (topS 28) 7
theorem sc_Web_with_yard : FnScope ["self", "name"] ["self", "name"] (defScope s_Web_with_yard) := ⟨rfl, rfl, rfl, by decide +kernel, rfl, by decide +kernel, by decide +kernel⟩
abbrev s_law_web : Stmt := topS 44
theorem sc_law_web : FnScope ["_law_m", "_law_web_here", "_law_yard", "_law_name", "_law_begin", "_law_end", "_law_near", "_law_beyond"] ["_law_m"] (defScope s_law_web) := ⟨rfl, rfl, rfl, by decide +kernel, rfl, by decide +kernel, by decide +kernel⟩
abbrev s_Walk_steps : Stmt := inClass (topS 33) 7
theorem sc_Walk_steps : FnScope ["self"] ["self"] (defScope s_Walk_steps) := ⟨rfl, rfl, rfl, by decide +kernel, rfl, by decide +kernel, by decide +kernel⟩
abbrev s_Walk_web : Stmt := inClass (topS 33) 3
theorem sc_Walk_web : FnScope ["self"] ["self"] (defScope s_Walk_web) := ⟨rfl, rfl, rfl, by decide +kernel, rfl, by decide +kernel, by decide +kernel⟩
abbrev s_Walk_yards : Stmt := inClass (topS 33) 8
theorem sc_Walk_yards : FnScope ["self"] ["self"] (defScope s_Walk_yards) := ⟨rfl, rfl, rfl, by decide +kernel, rfl, by decide +kernel, by decide +kernel⟩
abbrev s_Web_passages : Stmt := inClass (topS 28) 11
theorem sc_Web_passages : FnScope ["self"] ["self"] (defScope s_Web_passages) := ⟨rfl, rfl, rfl, by decide +kernel, rfl, by decide +kernel, by decide +kernel⟩
abbrev s_Web_yards : Stmt := inClass (topS 28) 10
theorem sc_Web_yards : FnScope ["self"] ["self"] (defScope s_Web_yards) := ⟨rfl, rfl, rfl, by decide +kernel, rfl, by decide +kernel, by decide +kernel⟩
abbrev s_sums : Stmt := topS 35
theorem sc_sums : FnScope ["walk", "web", "turns", "yard", "many", "gone", "road", "name", "way"] ["walk"] (defScope s_sums) := ⟨rfl, rfl, rfl, by decide +kernel, rfl, by decide +kernel, by decide +kernel⟩
abbrev s_law : Stmt := topS 57
theorem sc_law : FnScope ["_law_script", "_law_flow_here", "_law_turn", "_law_m", "_law_start", "_law_row", "_law_walk", "_law_due", "_law_found", "_law_many"] ["_law_script"] (defScope s_law) := ⟨rfl, rfl, rfl, by decide +kernel, rfl, by decide +kernel, by decide +kernel⟩
end Lw
set_option Elab.async false
set_option linter.all false
set_option maxRecDepth 100000
set_option maxHeartbeats 0
set_option autoImplicit false
namespace Lw
open PySem PySem.Spec PyProof.Rows L2 Dv
/-! the head by one run: printed by our gen.py -/
def hTests : List Test := [
  fun K => He.eqO (PySem.W.findIn K (.ref (He.ga K "Web")) "need_yard") (some (some (.ref (He.fAd K ("Web", some "need_yard"))))),
  fun K => PySem.W.isFn K (.ref (He.fAd K ("Web", some "need_yard"))),
  fun K => He.eqO (PySem.W.nsIn K mainGlobals "need_form") (some (some (.ref (He.fAd K ("need_form", none))))),
  fun K => He.eqO (PySem.W.findIn K (.ref (He.ga K "Web")) "road_of") (some (some (.ref (He.fAd K ("Web", some "road_of"))))),
  fun K => PySem.W.isFn K (.ref (He.fAd K ("Web", some "road_of"))),
  fun K => He.eqO (PySem.W.findIn K (.ref (He.ga K "Web")) "turned_so") (some (some (.ref (He.fAd K ("Web", some "turned_so"))))),
  fun K => PySem.W.isFn K (.ref (He.fAd K ("Web", some "turned_so"))),
  fun K => He.eqO (PySem.W.findIn K (.ref (He.ga K "Web")) "ends") (some (some (.ref (He.fAd K ("Web", some "ends"))))),
  fun K => PySem.W.isFn K (.ref (He.fAd K ("Web", some "ends"))),
  fun K => He.eqO (PySem.W.nsIn K mainGlobals "yards_on") (some (some (.ref (He.fAd K ("yards_on", none))))),
  fun K => He.eqO (PySem.W.findIn K (.ref (He.ga K "Walk")) "__init__") (some (some (.ref (He.fAd K ("Walk", some "__init__"))))),
  fun K => PySem.W.isFn K (.ref (He.fAd K ("Walk", some "__init__"))),
  fun K => He.eqO (PySem.W.findIn K (.ref (He.ga K "Walk")) "end") (some (some (.ref (He.fAd K ("Walk", some "end"))))),
  fun K => PySem.W.isFn K (.ref (He.fAd K ("Walk", some "end"))),
  fun K => He.eqO (PySem.W.findIn K (.ref (He.ga K "Walk")) "row") (some (some (.ref (He.fAd K ("Walk", some "row"))))),
  fun K => PySem.W.isFn K (.ref (He.fAd K ("Walk", some "row"))),
  fun K => He.eqO (PySem.W.nsIn K mainGlobals "undone") (some (some (.ref (He.fAd K ("undone", none))))),
  fun K => He.eqO (PySem.W.nsIn K mainGlobals "back_row") (some (some (.ref (He.fAd K ("back_row", none))))),
  fun K => He.eqO (PySem.W.findIn K (.ref (He.ga K "Walk")) "back") (some (some (.ref (He.fAd K ("Walk", some "back"))))),
  fun K => PySem.W.isFn K (.ref (He.fAd K ("Walk", some "back"))),
  fun K => He.eqO (PySem.W.nsIn K mainGlobals "_law_flow") (some (some (.ref (He.fAd K ("_law_flow", none))))),
  fun K => He.eqO (PySem.W.nsIn K mainGlobals "_law_same") (some (some (.ref (He.fAd K ("_law_same", none))))),
  fun K => He.eqO (PySem.W.nsIn K mainGlobals "_law_draw") (some (some (.ref (He.fAd K ("_law_draw", none))))),
  fun K => He.eqO (PySem.W.nsIn K mainGlobals "_law_pick") (some (some (.ref (He.fAd K ("_law_pick", none))))),
  fun K => He.eqO (PySem.W.nsIn K mainGlobals "_law_names") (some (some (.ref (He.fAd K ("_law_names", none))))),
  fun K => He.eqO (PySem.W.nsIn K mainGlobals "_law_number") (some (some (.ref (He.fAd K ("_law_number", none))))),
  fun K => He.eqO (PySem.W.nsIn K mainGlobals "_law_drawn_web") (some (some (.ref (He.fAd K ("_law_drawn_web", none))))),
  fun K => He.eqO (PySem.W.nsIn K mainGlobals "_law_small_web") (some (some (.ref (He.fAd K ("_law_small_web", none))))),
  fun K => He.eqO (PySem.W.nsIn K mainGlobals "_law_road") (some (some (.ref (He.fAd K ("_law_road", none))))),
  fun K => He.eqO (PySem.W.nsIn K mainGlobals "_law_ends") (some (some (.ref (He.fAd K ("_law_ends", none))))),
  fun K => He.eqO (PySem.W.nsIn K mainGlobals "_law_rule") (some (some (.ref (He.fAd K ("_law_rule", none))))),
  fun K => He.eqO (PySem.W.nsIn K mainGlobals "_law_steps_from") (some (some (.ref (He.fAd K ("_law_steps_from", none))))),
  fun K => He.eqO (PySem.W.nsIn K mainGlobals "_law_turns") (some (some (.ref (He.fAd K ("_law_turns", none))))),
  fun K => He.eqO (PySem.W.nsIn K mainGlobals "_law_undone") (some (some (.ref (He.fAd K ("_law_undone", none))))),
  fun K => He.eqO (PySem.W.nsIn K mainGlobals "_law_drawn_row") (some (some (.ref (He.fAd K ("_law_drawn_row", none))))),
  fun K => He.eqO (PySem.W.nsIn K mainGlobals "_law_walk_of") (some (some (.ref (He.fAd K ("_law_walk_of", none))))),
  fun K => He.eqO (PySem.W.nsIn K mainGlobals "_law_some_walk") (some (some (.ref (He.fAd K ("_law_some_walk", none))))),
  fun K => He.eqO (PySem.W.nsIn K mainGlobals "_law_yards_on") (some (some (.ref (He.fAd K ("_law_yards_on", none))))),
  fun K => He.eqO (PySem.W.nsIn K mainGlobals "_law_sums") (some (some (.ref (He.fAd K ("_law_sums", none))))),
  fun K => He.eqO (PySem.W.findIn K (.ref (He.ga K "Web")) "__init__") (some (some (.ref (He.fAd K ("Web", some "__init__"))))),
  fun K => PySem.W.isFn K (.ref (He.fAd K ("Web", some "__init__"))),
  fun K => He.eqO (PySem.W.nsIn K mainGlobals "is_name") (some (some (.ref (He.fAd K ("is_name", none))))),
  fun K => He.eqO (PySem.W.findIn K (.ref (He.ga K "Web")) "need_new") (some (some (.ref (He.fAd K ("Web", some "need_new"))))),
  fun K => PySem.W.isFn K (.ref (He.fAd K ("Web", some "need_new"))),
  fun K => He.eqO (PySem.W.findIn K (.ref (He.ga K "Web")) "turned") (some (some (.ref (He.fAd K ("Web", some "turned"))))),
  fun K => PySem.W.isFn K (.ref (He.fAd K ("Web", some "turned"))),
  fun K => He.eqO (PySem.W.nsIn K mainGlobals "is_whole") (some (some (.ref (He.fAd K ("is_whole", none))))),
  fun K => He.eqO (PySem.W.nsIn K mainGlobals "need_turns") (some (some (.ref (He.fAd K ("need_turns", none))))),
  fun K => He.eqO (PySem.W.findIn K (.ref (He.ga K "Web")) "with_passage") (some (some (.ref (He.fAd K ("Web", some "with_passage"))))),
  fun K => PySem.W.isFn K (.ref (He.fAd K ("Web", some "with_passage"))),
  fun K => He.eqO (PySem.W.findIn K (.ref (He.ga K "Web")) "with_yard") (some (some (.ref (He.fAd K ("Web", some "with_yard"))))),
  fun K => PySem.W.isFn K (.ref (He.fAd K ("Web", some "with_yard"))),
  fun K => He.eqO (PySem.W.nsIn K mainGlobals "_law_web") (some (some (.ref (He.fAd K ("_law_web", none))))),
  fun K => He.eqO (PySem.W.findIn K (.ref (He.ga K "Walk")) "steps") (some (some (.ref (He.fAd K ("Walk", some "steps"))))),
  fun K => PySem.W.isFn K (.ref (He.fAd K ("Walk", some "steps"))),
  fun K => He.eqO (PySem.W.findIn K (.ref (He.ga K "Walk")) "web") (some (some (.ref (He.fAd K ("Walk", some "web"))))),
  fun K => PySem.W.isFn K (.ref (He.fAd K ("Walk", some "web"))),
  fun K => He.eqO (PySem.W.findIn K (.ref (He.ga K "Walk")) "yards") (some (some (.ref (He.fAd K ("Walk", some "yards"))))),
  fun K => PySem.W.isFn K (.ref (He.fAd K ("Walk", some "yards"))),
  fun K => He.eqO (PySem.W.findIn K (.ref (He.ga K "Web")) "passages") (some (some (.ref (He.fAd K ("Web", some "passages"))))),
  fun K => PySem.W.isFn K (.ref (He.fAd K ("Web", some "passages"))),
  fun K => He.eqO (PySem.W.findIn K (.ref (He.ga K "Web")) "yards") (some (some (.ref (He.fAd K ("Web", some "yards"))))),
  fun K => PySem.W.isFn K (.ref (He.fAd K ("Web", some "yards"))),
  fun K => He.eqO (PySem.W.nsIn K mainGlobals "sums") (some (some (.ref (He.fAd K ("sums", none))))),
  fun K => He.eqO (PySem.W.nsIn K mainGlobals "law") (some (some (.ref (He.fAd K ("law", none))))),
  fun K => He.eqO (PySem.W.nsIn K mainGlobals "Walk") (some (some (.ref (He.ga K "Walk")))),
  fun K => PySem.W.plainGet K (He.ga K "Walk") Str.empty,
  fun K => PySem.W.hasDictIn K (He.ga K "Walk"),
  fun K => PySem.W.plainOver K (He.ga K "Walk"),
  fun K => He.eqO (PySem.W.findIn K (.ref (He.ga K "Walk")) "__setattr__") (some (some (.builtin "object.__setattr__"))),
  fun K => He.eqO (PySem.W.findIn K (.ref (He.ga K "Walk")) "__class__") (some (some (.builtin "object.__class__"))),
  fun K => decide (PySem.W.mroIn K (He.ga K "Walk") (.type "object") = some true),
  fun K => PySem.W.makesIn K (He.ga K "Walk"),
  fun K => PySem.W.keepIn K (.ref (He.ga K "Walk")),
  fun K => He.eqO (PySem.W.nsIn K mainGlobals "Web") (some (some (.ref (He.ga K "Web")))),
  fun K => PySem.W.plainGet K (He.ga K "Web") Str.empty,
  fun K => PySem.W.hasDictIn K (He.ga K "Web"),
  fun K => PySem.W.plainOver K (He.ga K "Web"),
  fun K => He.eqO (PySem.W.findIn K (.ref (He.ga K "Web")) "__setattr__") (some (some (.builtin "object.__setattr__"))),
  fun K => He.eqO (PySem.W.findIn K (.ref (He.ga K "Web")) "__class__") (some (some (.builtin "object.__class__"))),
  fun K => decide (PySem.W.mroIn K (He.ga K "Web") (.type "object") = some true),
  fun K => PySem.W.makesIn K (He.ga K "Web"),
  fun K => PySem.W.keepIn K (.ref (He.ga K "Web")),
  fun K => He.eqO (PySem.W.findIn K (.ref (He.ga K "Walk")) "over") (some none),
  fun K => He.eqO (PySem.W.findIn K (.ref (He.ga K "Walk")) "line") (some none),
  fun K => He.eqO (PySem.W.findIn K (.ref (He.ga K "Walk")) "spots") (some none),
  fun K => He.eqO (PySem.W.findIn K (.ref (He.ga K "Web")) "places") (some none),
  fun K => He.eqO (PySem.W.findIn K (.ref (He.ga K "Web")) "roads") (some none),
  fun K => He.eqO (PySem.W.specialIn K (.builtin "object.__class__") "__get__") (some (some (.builtin "getset_descriptor.__get__"))),
  fun K => decide (PySem.W.takesIn K (.builtin "object.__class__") = some true),
  fun K => clsB K [("Walk", (He.ga K "Walk")), ("Web", (He.ga K "Web"))],
  fun K => He.eqO (PySem.W.nsIn K mainGlobals "range") (some none),
  fun K => He.eqO (PySem.W.nsIn K mainGlobals "len") (some none),
  fun K => He.eqO (PySem.W.nsIn K mainGlobals "tuple") (some none),
  fun K => He.eqO (PySem.W.nsIn K mainGlobals "enumerate") (some none),
  fun K => He.eqO (PySem.W.nsIn K mainGlobals "isinstance") (some none),
  fun K => He.eqO (PySem.W.nsIn K mainGlobals "abs") (some none),
  fun K => He.eqO (PySem.W.nsIn K mainGlobals "list") (some none),
  fun K => He.eqO (PySem.W.nsIn K mainGlobals "bool") (some none),
  fun K => He.eqO (PySem.W.nsIn K mainGlobals "int") (some none),
  fun K => He.eqO (PySem.W.nsIn K mainGlobals "str") (some none),
  fun K => He.eqO (PySem.W.nsIn K mainGlobals "all") (some none),
  fun K => He.eqO (PySem.W.nsIn K mainGlobals "zip") (some none),
  fun K => (He.Fa.int "LONGEST" 200).ok K,
  fun K => (He.Fa.int "GREATEST" 1000000000000000000000000000000000000000000000000000000000000).ok K,
  fun K => (He.Fa.int "MOST_PASSAGES" 8).ok K,
  fun K => (He.Fa.str "LETTERS" "abcdefghijklmnopqrstuvwxyz").ok K,
  fun K => (He.Fa.int "LONGEST_NAME" 8).ok K,
  fun K => (He.Fa.int "MOST_TURNS" 99).ok K,
  fun K => (He.Fa.int "MOST_YARDS" 6).ok K]
def hDefs : List He.DefD := [
  ⟨("Web", some "need_yard"), "need_yard", "Web.need_yard", defArgs s_Web_need_yard, defBody s_Web_need_yard, defScope s_Web_need_yard, [], []⟩,
  ⟨("need_form", none), "need_form", "need_form", defArgs s_need_form, defBody s_need_form, defScope s_need_form, [], []⟩,
  ⟨("Web", some "road_of"), "road_of", "Web.road_of", defArgs s_Web_road_of, defBody s_Web_road_of, defScope s_Web_road_of, [], []⟩,
  ⟨("Web", some "turned_so"), "turned_so", "Web.turned_so", defArgs s_Web_turned_so, defBody s_Web_turned_so, defScope s_Web_turned_so, [], []⟩,
  ⟨("Web", some "ends"), "ends", "Web.ends", defArgs s_Web_ends, defBody s_Web_ends, defScope s_Web_ends, [], []⟩,
  ⟨("yards_on", none), "yards_on", "yards_on", defArgs s_yards_on, defBody s_yards_on, defScope s_yards_on, [], []⟩,
  ⟨("Walk", some "__init__"), "__init__", "Walk.__init__", defArgs s_Walk_dinit, defBody s_Walk_dinit, defScope s_Walk_dinit, [.adr (He.dflAt ("Walk", some "__init__") 0)], []⟩,
  ⟨("Walk", some "end"), "end", "Walk.end", defArgs s_Walk_end, defBody s_Walk_end, defScope s_Walk_end, [], []⟩,
  ⟨("Walk", some "row"), "row", "Walk.row", defArgs s_Walk_row, defBody s_Walk_row, defScope s_Walk_row, [], []⟩,
  ⟨("undone", none), "undone", "undone", defArgs s_undone, defBody s_undone, defScope s_undone, [], []⟩,
  ⟨("back_row", none), "back_row", "back_row", defArgs s_back_row, defBody s_back_row, defScope s_back_row, [], []⟩,
  ⟨("Walk", some "back"), "back", "Walk.back", defArgs s_Walk_back, defBody s_Walk_back, defScope s_Walk_back, [], []⟩,
  ⟨("_law_flow", none), "_law_flow", "_law_flow", defArgs s_law_flow, defBody s_law_flow, defScope s_law_flow, [], []⟩,
  ⟨("_law_same", none), "_law_same", "_law_same", defArgs s_law_same, defBody s_law_same, defScope s_law_same, [], []⟩,
  ⟨("_law_draw", none), "_law_draw", "_law_draw", defArgs s_law_draw, defBody s_law_draw, defScope s_law_draw, [], []⟩,
  ⟨("_law_pick", none), "_law_pick", "_law_pick", defArgs s_law_pick, defBody s_law_pick, defScope s_law_pick, [], []⟩,
  ⟨("_law_names", none), "_law_names", "_law_names", defArgs s_law_names, defBody s_law_names, defScope s_law_names, [], []⟩,
  ⟨("_law_number", none), "_law_number", "_law_number", defArgs s_law_number, defBody s_law_number, defScope s_law_number, [], []⟩,
  ⟨("_law_drawn_web", none), "_law_drawn_web", "_law_drawn_web", defArgs s_law_drawn_web, defBody s_law_drawn_web, defScope s_law_drawn_web, [], []⟩,
  ⟨("_law_small_web", none), "_law_small_web", "_law_small_web", defArgs s_law_small_web, defBody s_law_small_web, defScope s_law_small_web, [], []⟩,
  ⟨("_law_road", none), "_law_road", "_law_road", defArgs s_law_road, defBody s_law_road, defScope s_law_road, [], []⟩,
  ⟨("_law_ends", none), "_law_ends", "_law_ends", defArgs s_law_ends, defBody s_law_ends, defScope s_law_ends, [], []⟩,
  ⟨("_law_rule", none), "_law_rule", "_law_rule", defArgs s_law_rule, defBody s_law_rule, defScope s_law_rule, [], []⟩,
  ⟨("_law_steps_from", none), "_law_steps_from", "_law_steps_from", defArgs s_law_steps_from, defBody s_law_steps_from, defScope s_law_steps_from, [], []⟩,
  ⟨("_law_turns", none), "_law_turns", "_law_turns", defArgs s_law_turns, defBody s_law_turns, defScope s_law_turns, [], []⟩,
  ⟨("_law_undone", none), "_law_undone", "_law_undone", defArgs s_law_undone, defBody s_law_undone, defScope s_law_undone, [], []⟩,
  ⟨("_law_drawn_row", none), "_law_drawn_row", "_law_drawn_row", defArgs s_law_drawn_row, defBody s_law_drawn_row, defScope s_law_drawn_row, [], []⟩,
  ⟨("_law_walk_of", none), "_law_walk_of", "_law_walk_of", defArgs s_law_walk_of, defBody s_law_walk_of, defScope s_law_walk_of, [], []⟩,
  ⟨("_law_some_walk", none), "_law_some_walk", "_law_some_walk", defArgs s_law_some_walk, defBody s_law_some_walk, defScope s_law_some_walk, [], []⟩,
  ⟨("_law_yards_on", none), "_law_yards_on", "_law_yards_on", defArgs s_law_yards_on, defBody s_law_yards_on, defScope s_law_yards_on, [], []⟩,
  ⟨("_law_sums", none), "_law_sums", "_law_sums", defArgs s_law_sums, defBody s_law_sums, defScope s_law_sums, [], []⟩,
  ⟨("Web", some "__init__"), "__init__", "Web.__init__", defArgs s_Web_dinit, defBody s_Web_dinit, defScope s_Web_dinit, [], []⟩,
  ⟨("is_name", none), "is_name", "is_name", defArgs s_is_name, defBody s_is_name, defScope s_is_name, [], []⟩,
  ⟨("Web", some "need_new"), "need_new", "Web.need_new", defArgs s_Web_need_new, defBody s_Web_need_new, defScope s_Web_need_new, [], []⟩,
  ⟨("Web", some "turned"), "turned", "Web.turned", defArgs s_Web_turned, defBody s_Web_turned, defScope s_Web_turned, [], []⟩,
  ⟨("is_whole", none), "is_whole", "is_whole", defArgs s_is_whole, defBody s_is_whole, defScope s_is_whole, [], []⟩,
  ⟨("need_turns", none), "need_turns", "need_turns", defArgs s_need_turns, defBody s_need_turns, defScope s_need_turns, [], []⟩,
  ⟨("Web", some "with_passage"), "with_passage", "Web.with_passage", defArgs s_Web_with_passage, defBody s_Web_with_passage, defScope s_Web_with_passage, [], []⟩,
  ⟨("Web", some "with_yard"), "with_yard", "Web.with_yard", defArgs s_Web_with_yard, defBody s_Web_with_yard, defScope s_Web_with_yard, [], []⟩,
  ⟨("_law_web", none), "_law_web", "_law_web", defArgs s_law_web, defBody s_law_web, defScope s_law_web, [], []⟩,
  ⟨("Walk", some "steps"), "steps", "Walk.steps", defArgs s_Walk_steps, defBody s_Walk_steps, defScope s_Walk_steps, [], []⟩,
  ⟨("Walk", some "web"), "web", "Walk.web", defArgs s_Walk_web, defBody s_Walk_web, defScope s_Walk_web, [], []⟩,
  ⟨("Walk", some "yards"), "yards", "Walk.yards", defArgs s_Walk_yards, defBody s_Walk_yards, defScope s_Walk_yards, [], []⟩,
  ⟨("Web", some "passages"), "passages", "Web.passages", defArgs s_Web_passages, defBody s_Web_passages, defScope s_Web_passages, [], []⟩,
  ⟨("Web", some "yards"), "yards", "Web.yards", defArgs s_Web_yards, defBody s_Web_yards, defScope s_Web_yards, [], []⟩,
  ⟨("sums", none), "sums", "sums", defArgs s_sums, defBody s_sums, defScope s_sums, [], []⟩,
  ⟨("law", none), "law", "law", defArgs s_law, defBody s_law, defScope s_law, [], []⟩]
def hAs : List Nat := (List.range 1500).reverse
def hNames0 : List Str := ["_wall", "is_whole", "HawserError", "BadName", "Taken", "Full", "BadTurns", "BadWay", "BadRow", "Astray", "TooLong", "TooGreat", "Missing", "NoYard", "NoPassage", "MOST_YARDS", "MOST_PASSAGES", "MOST_TURNS", "LONGEST", "GREATEST", "LETTERS", "LONGEST_NAME", "is_name", "undone", "need_turns", "Web", "need_form", "yards_on", "back_row", "Walk"]
def hNames1 : List Str := ["sums", "_law_flow", "_law_draw", "_law_pick", "_law_same", "_law_names", "_law_number", "_law_drawn_web", "_law_web", "_law_undone", "_law_road", "_law_ends", "_law_rule", "_law_steps_from", "_law_turns", "_law_drawn_row", "_law_yards_on", "_law_small_web", "_law_walk_of", "_law_some_walk", "_law_sums"]
def hNames : List Str := hNames0 ++ hNames1
abbrev hk : PySem.W.Hook := hookL hAs hTests hDefs
def hOb (s : PySem.W.SharedT) : He.AlD := obsLG hAs hTests hDefs (HandSHeadRun.getT s)
theorem hOb_eq (s : PySem.W.SharedT) : hOb s = hk.obs s.abs := obsLG_eq (HandSHeadRun.getT_eq s)
abbrev hRow : PySem.W.OpenRow := PySem.W.OpenLaw.row PySem.Challenge.rw_hawserweb_k44_sums
theorem hRun (w : World) : HandSHeadRun.RunEq hRow (PySem.W.view hRow.prog [57]) hk hOb 60000 hNames w := by
  intro os
  kernel_rfl
end Lw
set_option Elab.async false
set_option linter.all false
set_option maxRecDepth 100000
set_option maxHeartbeats 4000000
set_option autoImplicit false
namespace Dv
open PySem PySem.Spec PyProof.Rows L2
/-! ### values as data; mutable objects stand in a store -/
/-- what is known of a function object and of its code -/
abbrev Pd := Addr → Addr → HO → HO → Prop
inductive Dt where
  | non | bl (b : Bool) | int (i : Int) | str (s : Str) | ty (n : String) | cls (c : String)
  | tup (ds : List Dt) | lst (ds : List Dt) | fz (ds : List Dt) | ins (c : String) (ns : List Str) (ds : List Dt) | dct (ks : List Key) (ds : List Dt) | ref (i : Nat) | lam (n : Nat) (p : Pd)
inductive Ob where
  | lst (ds : List Dt) | ins (c : String) (ns : List Str) (ds : List Dt) | dct (ks : List Key) (ds : List Dt) | dkt (ks : List (List Key)) (ds : List Dt)
abbrev Store := List Ob
abbrev Env := List (Option Dt)
/-- an exception of a class of the text -/
structure Ex where
  c : String
  ns : List Str
  ds : List Dt
inductive R (α : Type) where
  | ok (a : α) (S : Store) | err (x : Ex) (S : Store) | stuck
@[reducible] def R.bind {α β : Type} (r : R α) (f : α → Store → R β) : R β := match r with
  | .ok a S => f a S
  | .err x S => .err x S
  | .stuck => .stuck
inductive Fl where
  | nx | bk | ct | rt (d : Dt)
inductive RS where
  | ok (f : Fl) (σ : Env) (S : Store) | err (x : Ex) (σ : Env) (S : Store) | stuck
/-- what the names of classes mean -/
structure Gv where
  K : PySem.W.Frag
  cl : String → Option Addr
  /-- the exceptions of the text -/
  xl : String → Option Addr
  /-- the tables of code objects that lambdas are noted in -/
  T : List (Addr × Str)
  /-- whether tuples of the written part may be met as values -/
  kt : Bool
/-- no table -/
def NoTb (o : HO) : Prop := ∀ ps, o ≠ .tbl ps
/-- neither a table nor told by a law of its own -/
def NoTx (o : HO) : Prop := NoTb o ∧ ∀ φ, o ≠ .ext φ
/-- the addresses of the store; further ones that change meanwhile -/
structure Io where
  l : List Addr
  h : List Addr
instance : Membership Addr Io := ⟨fun io a => a ∈ io.l ∨ a ∈ io.h⟩
abbrev Io.push (io : Io) (p : Addr) : Io := ⟨io.l ++ [p], io.h⟩
abbrev Io.take (io : Io) (n : Nat) : Io := ⟨io.l.take n, io.h⟩
def KTup (K : PySem.W.Frag) (a : Addr) (xs : List V) : Prop := ∃ (o : Obj) (its : Array Value) (n : Nat), K.lookup a = some o ∧ o.cls = .type "tuple" ∧ o.data = .seq its n ∧ its.size ≤ sizeLine ∧ Vals xs its.toList
def KLst (K : PySem.W.Frag) (a : Addr) (xs : List V) : Prop := ∃ (o : Obj) (its : Array Value) (n : Nat), K.lookup a = some o ∧ o.cls = .type "list" ∧ o.dict = none ∧ o.data = .seq its n ∧ its.size ≤ sizeLine ∧ Vals xs its.toList
mutual
inductive RelD (G : Gv) (io : Io) (H : Hp) : Dt → V → Prop
  | non : RelD G io H .non .non
  | bl (b : Bool) : RelD G io H (.bl b) (.bl b)
  | int (i : Int) : RelD G io H (.int i) (.int i)
  | str (s : Str) : RelD G io H (.str s) (.str s)
  | ty (n : String) : RelD G io H (.ty n) (.ty n)
  | cls {c : String} {C : Addr} : G.cl c = some C → RelD G io H (.cls c) (.ref C)
  | tup {a : Addr} {ds : List Dt} {vs : List V} : (H a = some (.tup vs) ∧ a ∉ io) ∨ (KTup G.K a vs ∧ G.kt = true) → RelDs G io H ds vs → RelD G io H (.tup ds) (.ref a)
  | lst {a : Addr} {ds : List Dt} {vs : List V} : H a = some (.lst vs) → a ∉ io → RelDs G io H ds vs → RelD G io H (.lst ds) (.ref a)
  | fz {a : Addr} {ds : List Dt} {vs : List V} : (Rd H a (.lst vs) ∧ a ∉ io) ∨ KLst G.K a vs → RelDs G io H ds vs → RelD G io H (.fz ds) (.ref a)
  | ins {a C dx : Addr} {c : String} {ns : List Str} {ds : List Dt} {vs : List V} : H a = some (.ins C dx (ns.zip vs)) → a ∉ io → G.cl c = some C → ns.length = ds.length → RelDs G io H ds vs → RelD G io H (.ins c ns ds) (.ref a)
  | dct {a : Addr} {ks : List Key} {ds : List Dt} {vs : List V} : H a = some (.dK (ks.zip vs)) → a ∉ io → ks.length = ds.length → RelDs G io H ds vs → RelD G io H (.dct ks ds) (.ref a)
  | ref {a : Addr} {i : Nat} : io.l[i]? = some a → RelD G io H (.ref i) (.ref a)
  | lam {f c : Addr} {u w : HO} {n : Nat} {p : Pd} : p f c u w → (H f = some u ∧ f ∉ io ∧ NoTb u) → (H c = some w ∧ c ∉ io ∧ NoTb w) → RelD G io H (.lam n p) (.ref f)
inductive RelDs (G : Gv) (io : Io) (H : Hp) : List Dt → List V → Prop
  | nil : RelDs G io H [] []
  | cons {d : Dt} {v : V} {ds : List Dt} {vs : List V} : RelD G io H d v → RelDs G io H ds vs → RelDs G io H (d :: ds) (v :: vs)
end
structure Grow (io : Io) (H : Hp) (io' : Io) (H' : Hp) : Prop where
  pre : ∃ t, io' = ⟨io.l ++ t, io.h⟩
  keep : ∀ b o, H b = some o → b ∉ io.l → (nt : NoTb o := by first | assumption | (intro _ e; cases e)) → H' b = some o
  new : ∀ a, a ∈ io'.l → a ∉ io.l → ∀ o, H a = some o → ¬ NoTb o
theorem Grow.refl {io : Io} {H : Hp} : Grow io H io H := ⟨⟨[], by simp⟩, fun _ _ h _ _ => h, fun a h n => absurd h n⟩
theorem Grow.trans {io i1 i2 : Io} {H H1 H2 : Hp} (a : Grow io H i1 H1) (b : Grow i1 H1 i2 H2) : Grow io H i2 H2 := by
  obtain ⟨t, rfl⟩ := a.pre
  obtain ⟨u, rfl⟩ := b.pre
  refine ⟨⟨t ++ u, by simp⟩, fun c o h n nt => ?_, fun c h n => ?_⟩
  · exact b.keep c o (a.keep c o h n nt) (fun hm => a.new c hm n o h nt) nt
  · by_cases hm : c ∈ io.l ++ t
    · exact a.new c hm n
    · exact fun o q nt => b.new c h hm o (a.keep c o q n nt) nt
theorem Grow.notin {io i1 : Io} {H H1 : Hp} (g : Grow io H i1 H1) {a : Addr} {o : HO} (h : H a = some o) (n : a ∉ io) (nt : NoTb o := by first | assumption | (intro _ e; cases e)) : a ∉ i1 := fun hm => by
  rcases hm with hm | hm
  · exact g.new a hm (fun q => n (.inl q)) o h nt
  · obtain ⟨t, rfl⟩ := g.pre
    exact n (.inr hm)
theorem Grow.at {io i1 : Io} {H H1 : Hp} (g : Grow io H i1 H1) {i : Nat} {a : Addr} (h : io.l[i]? = some a) : i1.l[i]? = some a := by
  obtain ⟨t, rfl⟩ := g.pre
  rw [List.getElem?_append_left (List.getElem?_eq_some_iff.mp h).1]
  exact h
theorem Grow.kp {io i1 : Io} {H H1 : Hp} (g : Grow io H i1 H1) {b : Addr} {o : HO} (h : H b = some o) (n : b ∉ io) (nt : NoTb o := by first | assumption | (intro _ e; cases e)) : H1 b = some o := g.keep b o h (fun q => n (.inl q)) nt
/-- what data leans on -/
structure Base (io : Io) (H : Hp) (io' : Io) (H' : Hp) : Prop where
  at_ : ∀ (i : Nat) (a : Addr), io.l[i]? = some a → io'.l[i]? = some a
  keep : ∀ b o, H b = some o → b ∉ io → (nt : NoTb o := by first | assumption | (intro _ e; cases e)) → H' b = some o ∧ b ∉ io'
theorem Grow.base {io i1 : Io} {H H1 : Hp} (g : Grow io H i1 H1) : Base io H i1 H1 := ⟨fun _ _ h => g.at h, fun _ _ h n nt => ⟨g.kp h n nt, g.notin h n nt⟩⟩
section
variable {G : Gv} {io i1 : Io} {H H1 : Hp}
theorem Base.rd (g : Base io H i1 H1) {a : Addr} {u : HO} (h : Rd H a u) (n : a ∉ io) (nt : NoTb u := by first | assumption | (intro _ e; cases e)) : Rd H1 a u ∧ a ∉ i1 := by
  rcases h with h | ⟨o, h⟩
  · exact ⟨.inl (g.keep _ _ h n).1, (g.keep _ _ h n).2⟩
  · exact ⟨.inr ⟨o, (g.keep _ _ h n).1⟩, (g.keep _ _ h n).2⟩
mutual
theorem RelD.monoB (g : Base io H i1 H1) : ∀ {d : Dt} {v : V}, RelD G io H d v → RelD G i1 H1 d v
  | _, _, .non => .non
  | _, _, .bl b => .bl b
  | _, _, .int i => .int i
  | _, _, .str s => .str s
  | _, _, .ty n => .ty n
  | _, _, .cls h => .cls h
  | _, _, .tup h r => .tup (h.imp (fun z => g.keep _ _ z.1 z.2) id) (RelDs.monoB g r)
  | _, _, .lst h n r => .lst (g.keep _ _ h n).1 (g.keep _ _ h n).2 (RelDs.monoB g r)
  | _, _, .fz h r => .fz (h.imp (fun z => g.rd z.1 z.2) id) (RelDs.monoB g r)
  | _, _, .ins h n c l r => .ins (g.keep _ _ h n).1 (g.keep _ _ h n).2 c l (RelDs.monoB g r)
  | _, _, .dct h n l r => .dct (g.keep _ _ h n).1 (g.keep _ _ h n).2 l (RelDs.monoB g r)
  | _, _, .ref h => .ref (g.at_ _ _ h)
  | _, _, .lam h a b => .lam h ⟨(g.keep _ _ a.1 a.2.1 a.2.2).1, (g.keep _ _ a.1 a.2.1 a.2.2).2, a.2.2⟩ ⟨(g.keep _ _ b.1 b.2.1 b.2.2).1, (g.keep _ _ b.1 b.2.1 b.2.2).2, b.2.2⟩
theorem RelDs.monoB (g : Base io H i1 H1) : ∀ {ds : List Dt} {vs : List V}, RelDs G io H ds vs → RelDs G i1 H1 ds vs
  | _, _, .nil => .nil
  | _, _, .cons h r => .cons (RelD.monoB g h) (RelDs.monoB g r)
end
theorem RelD.mono (g : Grow io H i1 H1) {d : Dt} {v : V} (r : RelD G io H d v) : RelD G i1 H1 d v := r.monoB g.base
theorem RelDs.mono (g : Grow io H i1 H1) {ds : List Dt} {vs : List V} (r : RelDs G io H ds vs) : RelDs G i1 H1 ds vs := r.monoB g.base
theorem RelDs.length : ∀ {ds : List Dt} {vs : List V}, RelDs G io H ds vs → ds.length = vs.length
  | _, _, .nil => rfl
  | _, _, .cons _ r => by rw [List.length_cons, List.length_cons, RelDs.length r]
theorem RelDs.append : ∀ {ds es : List Dt} {vs us : List V}, RelDs G io H ds vs → RelDs G io H es us → RelDs G io H (ds ++ es) (vs ++ us)
  | _, _, _, _, .nil, s => s
  | _, _, _, _, .cons h r, s => .cons h (RelDs.append r s)
theorem RelDs.get : ∀ {ds : List Dt} {vs : List V} {i : Nat} {d : Dt}, RelDs G io H ds vs → ds[i]? = some d → ∃ v, vs[i]? = some v ∧ RelD G io H d v
  | _, _, _, _, .nil, e => by simp at e
  | _, _, 0, _, .cons h _, e => by simp at e; subst e; exact ⟨_, rfl, h⟩
  | _, _, i + 1, d, .cons _ r, e => by
    obtain ⟨u, h1, h2⟩ := RelDs.get (i := i) (d := d) r (by simpa using e)
    exact ⟨u, by simpa using h1, h2⟩
theorem RelDs.set : ∀ {ds : List Dt} {vs : List V} {d : Dt} {v : V} (i : Nat), RelD G io H d v → RelDs G io H ds vs → RelDs G io H (ds.set i d) (vs.set i v)
  | _, _, _, _, _, _, .nil => .nil
  | _, _, _, _, 0, h, .cons _ r => .cons h r
  | _, _, _, _, i + 1, h, .cons k r => .cons k (RelDs.set i h r)
theorem RelDs.take : ∀ {ds : List Dt} {vs : List V} (n : Nat), RelDs G io H ds vs → RelDs G io H (ds.take n) (vs.take n)
  | _, _, 0, _ => .nil
  | _, _, _ + 1, .nil => .nil
  | _, _, n + 1, .cons h r => .cons h (RelDs.take n r)
theorem RelDs.drop : ∀ {ds : List Dt} {vs : List V} (n : Nat), RelDs G io H ds vs → RelDs G io H (ds.drop n) (vs.drop n)
  | _, _, 0, r => r
  | _, _, _ + 1, .nil => .nil
  | _, _, n + 1, .cons _ r => RelDs.drop n r
theorem RelDs.reverse : ∀ {ds : List Dt} {vs : List V}, RelDs G io H ds vs → RelDs G io H ds.reverse vs.reverse
  | _, _, .nil => .nil
  | _, _, .cons h r => by
    rw [List.reverse_cons, List.reverse_cons]
    exact RelDs.append (RelDs.reverse r) (.cons h .nil)
end
/-- a mutable object at its address -/
inductive RelO (G : Gv) (io : Io) (H : Hp) : Ob → Addr → Prop
  | lst {a : Addr} {ds : List Dt} {vs : List V} : H a = some (.lst vs) → RelDs G io H ds vs → RelO G io H (.lst ds) a
  | ins {a C dx : Addr} {c : String} {ns : List Str} {ds : List Dt} {vs : List V} : H a = some (.ins C dx (ns.zip vs)) → G.cl c = some C → ns.length = ds.length → RelDs G io H ds vs → RelO G io H (.ins c ns ds) a
  | dct {a : Addr} {ks : List Key} {ds : List Dt} {vs : List V} : H a = some (.dK (ks.zip vs)) → ks.length = ds.length → RelDs G io H ds vs → RelO G io H (.dct ks ds) a
  | dkt {a : Addr} {ks : List (List Key)} {ds : List Dt} {vs : List V} : H a = some (.dT (ks.zip vs)) → ks.length = ds.length → RelDs G io H ds vs → RelO G io H (.dkt ks ds) a
structure StoreOk (G : Gv) (io : Io) (S : Store) (H : Hp) : Prop where
  nd : io.l.Nodup
  len : S.length = io.l.length
  dis : ∀ a ∈ io.l, a ∉ io.h
  hid : ∀ a ∈ io.h, ∃ u, H a = some u ∧ NoTx u
  ob : ∀ (i : Nat) (o : Ob) (a : Addr), S[i]? = some o → io.l[i]? = some a → RelO G io H o a
  tab : LamX.Tabs G.T H
structure RelEnv (G : Gv) (io : Io) (H : Hp) (e : Env) (σ : L2.St) : Prop where
  len : e.length = σ.length
  at_ : ∀ (i : Nat) (d : Dt), e[i]? = some (some d) → ∃ v, σ[i]? = some (some v) ∧ RelD G io H d v
theorem RelEnv.mono {G : Gv} {io i1 : Io} {H H1 : Hp} {e : Env} {σ : L2.St} (g : Grow io H i1 H1) (r : RelEnv G io H e σ) : RelEnv G i1 H1 e σ :=
  ⟨r.len, fun i d h => let ⟨v, h1, h2⟩ := r.at_ i d h; ⟨v, h1, h2.mono g⟩⟩
theorem RelEnv.set {G : Gv} {io : Io} {H : Hp} {e : Env} {σ : L2.St} {i : Nat} {d : Dt} {v : V} (r : RelEnv G io H e σ) (h : RelD G io H d v) : RelEnv G io H (e.set i (some d)) (σ.set i (some v)) := by
  refine ⟨by simpa using r.len, fun j x hj => ?_⟩
  by_cases hij : i = j
  · subst hij
    have hl : i < e.length := by
      by_cases q : i < e.length
      · exact q
      · rw [List.getElem?_eq_none (by simpa using q)] at hj
        cases hj
    rw [List.getElem?_set_self hl] at hj
    cases hj
    exact ⟨v, List.getElem?_set_self (by rw [← r.len]; exact hl), h⟩
  · rw [List.getElem?_set_ne hij] at hj ⊢
    exact r.at_ j x hj
/-- an exception of the text's classes -/
def RelX (G : Gv) (io : Io) (H : Hp) (x : Ex) (cls : Value) (dx : Option Addr) : Prop :=
  ∃ (C a : Addr) (vs : List V), cls = .ref C ∧ G.xl x.c = some C ∧ dx = some a ∧ H a = some (.xd (x.ns.zip vs)) ∧ a ∉ io ∧ x.ns.length = x.ds.length ∧ RelDs G io H x.ds vs
theorem RelX.mono {G : Gv} {io i1 : Io} {H H1 : Hp} (g : Grow io H i1 H1) {x : Ex} {cls : Value} {dx : Option Addr} (r : RelX G io H x cls dx) : RelX G i1 H1 x cls dx := by
  obtain ⟨C, a, vs, h1, h2, h3, h4, h5, h6, h7⟩ := r
  exact ⟨C, a, vs, h1, h2, h3, g.kp h4 h5, g.notin h4 h5, h6, h7.mono g⟩
/-! ### ends -/
def Out (G : Gv) (io : Io) (H : Hp) {α : Type} (wx : Ex → Io → Hp → Prop) (post : α → Store → Io → Hp → Prop) : R α → Prop
  | .ok a S => ∀ io' H', Grow io H io' H' → StoreOk G io' S H' → post a S io' H'
  | .err x S => ∀ io' H', Grow io H io' H' → StoreOk G io' S H' → wx x io' H'
  | .stuck => False
theorem Out.from {G : Gv} {io i1 : Io} {H H1 : Hp} {α : Type} {wx : Ex → Io → Hp → Prop} {post : α → Store → Io → Hp → Prop} {r : R α} (g : Grow io H i1 H1) (h : Out G io H wx post r) : Out G i1 H1 wx post r := by
  cases r with
  | ok a S => exact fun io' H' g' s => h io' H' (g.trans g') s
  | err x S => exact fun io' H' g' s => h io' H' (g.trans g') s
  | stuck => exact h
theorem Out.bind {G : Gv} {io : Io} {H : Hp} {α β : Type} {wx : Ex → Io → Hp → Prop} {post : β → Store → Io → Hp → Prop} {r : R α} {f : α → Store → R β} (h : Out G io H wx post (r.bind f)) :
    Out G io H wx (fun a S io' H' => Out G io' H' wx post (f a S)) r := by
  cases r with
  | ok a S => exact fun io' H' g s => Out.from g h
  | err x S => exact h
  | stuck => exact h
theorem Out.imp {G : Gv} {io : Io} {H : Hp} {α : Type} {wx wx' : Ex → Io → Hp → Prop} {post post' : α → Store → Io → Hp → Prop} {r : R α} (h : Out G io H wx post r)
    (hx : ∀ x io' H', Grow io H io' H' → wx x io' H' → wx' x io' H') (hp : ∀ a S io' H', Grow io H io' H' → StoreOk G io' S H' → post a S io' H' → post' a S io' H') : Out G io H wx' post' r := by
  cases r with
  | ok a S => exact fun io' H' g s => hp _ _ _ _ g s (h io' H' g s)
  | err x S => exact fun io' H' g s => hx _ _ _ g (h io' H' g s)
  | stuck => exact h
def OutS (G : Gv) (io : Io) (H : Hp) (wx : Ex → Env → Io → Hp → Prop) (post : Fl → Env → Store → Io → Hp → Prop) : RS → Prop
  | .ok f e S => ∀ io' H', Grow io H io' H' → StoreOk G io' S H' → post f e S io' H'
  | .err x e S => ∀ io' H', Grow io H io' H' → StoreOk G io' S H' → wx x e io' H'
  | .stuck => False
theorem OutS.from {G : Gv} {io i1 : Io} {H H1 : Hp} {wx : Ex → Env → Io → Hp → Prop} {post : Fl → Env → Store → Io → Hp → Prop} {r : RS} (g : Grow io H i1 H1) (h : OutS G io H wx post r) : OutS G i1 H1 wx post r := by
  cases r with
  | ok a e S => exact fun io' H' g' s => h io' H' (g.trans g') s
  | err x e S => exact fun io' H' g' s => h io' H' (g.trans g') s
  | stuck => exact h
/-- the wish for an exception at the slots σ -/
abbrev wxE (G : Gv) (W : WX) (σ : L2.St) : Ex → Io → Hp → Prop := fun x io' H' => ∀ cls dx, RelX G io' H' x cls dx → W cls dx σ H'
abbrev poE (G : Gv) (Q : VK) : Dt → Store → Io → Hp → Prop := fun d _ io' H' => ∀ v, RelD G io' H' d v → Q v H'
abbrev poA (G : Gv) (Q : List V → Hp → Prop) : List Dt → Store → Io → Hp → Prop := fun ds _ io' H' => ∀ vs, RelDs G io' H' ds vs → Q vs H'
abbrev poT (Q : Bool → Hp → Prop) : Bool → Store → Io → Hp → Prop := fun b _ _ H' => Q b H'
def SimE (G : Gv) (W : WX) (t : TE) (m : Env → Store → R Dt) : Prop := ∀ io H S e σ Q, StoreOk G io S H → RelEnv G io H e σ → Out G io H (wxE G W σ) (poE G Q) (m e S) → t σ H Q
def SimA (G : Gv) (W : WX) (t : TA) (m : Env → Store → R (List Dt)) : Prop := ∀ io H S e σ Q, StoreOk G io S H → RelEnv G io H e σ → Out G io H (wxE G W σ) (poA G Q) (m e S) → t σ H Q
def SimT (G : Gv) (W : WX) (t : TT) (m : Env → Store → R Bool) : Prop := ∀ io H S e σ Q, StoreOk G io S H → RelEnv G io H e σ → Out G io H (wxE G W σ) (poT Q) (m e S) → t σ H Q
abbrev wxS (G : Gv) (W : WX) : Ex → Env → Io → Hp → Prop := fun x e io' H' => ∀ σ cls dx, RelEnv G io' H' e σ → RelX G io' H' x cls dx → W cls dx σ H'
def poF (G : Gv) (D : Ends) : Fl → Env → Store → Io → Hp → Prop
  | .nx, e, _, io, H => ∀ σ, RelEnv G io H e σ → D.nx σ H
  | .bk, e, _, io, H => ∀ σ, RelEnv G io H e σ → D.bk σ H
  | .ct, e, _, io, H => ∀ σ, RelEnv G io H e σ → D.ct σ H
  | .rt d, _, _, io, H => ∀ v, RelD G io H d v → D.rt v H
def SimS (G : Gv) (W : WX) (t : TS) (m : Env → Store → RS) : Prop := ∀ io H S e σ D, StoreOk G io S H → RelEnv G io H e σ → OutS G io H (wxS G W) (poF G D) (m e S) → t D σ H
/-! ### judgements -/
def DE (G : Gv) (X : Cx) (W : WX) (e : Expr) (m : Env → Store → R Dt) : Prop := ∃ t, PE X e t ∧ SimE G W t m
def DA (G : Gv) (X : Cx) (W : WX) (e : List Expr) (m : Env → Store → R (List Dt)) : Prop := ∃ t, PA X e t ∧ SimA G W t m
def DT (G : Gv) (X : Cx) (W : WX) (e : Expr) (m : Env → Store → R Bool) : Prop := ∃ t, PT X e t ∧ SimT G W t m
def DW (G : Gv) (X : Cx) (W : WX) (e : Expr) (m : Env → Store → R Bool) : Prop := ∃ t, PW X e t ∧ SimT G W t m
def DS (G : Gv) (X : Cx) (W : WX) (s : Stmt) (m : Env → Store → RS) : Prop := ∃ t, PS X s t ∧ SimS G W t m
def DB (G : Gv) (X : Cx) (W : WX) (s : List Stmt) (m : Env → Store → RS) : Prop := ∃ t, PSs X s t ∧ SimS G W t m
/-! ### names and constants -/
@[reducible] def mVar (i : Nat) : Env → Store → R Dt := fun e S => match e[i]? with
  | some (some d) => .ok d S
  | _ => .stuck
@[reducible] def mC (d : Dt) : Env → Store → R Dt := fun _ S => .ok d S
section
variable {G : Gv} {X : Cx} {W : WX}
theorem simE_var (i : Nat) : SimE G W (tVar i) (mVar i) := by
  intro io H S e σ Q so re h
  unfold mVar at h
  split at h
  · rename_i d hd
    obtain ⟨v, h1, h2⟩ := re.at_ i d hd
    exact ⟨v, h1, h io H Grow.refl so v h2⟩
  · exact h.elim
theorem simE_c {d : Dt} {v : V} (hr : ∀ io H, RelD G io H d v) : SimE G W (tC v) (mC d) := by
  intro io H S e σ Q so re h
  exact h io H Grow.refl so v (hr io H)
theorem de_var (i : Nat) {x : Str} {pos : Pos} (hN : X.N[i]? = some x := by rfl) (hv : Vis X.env.scope x := by first | exact Or.inl rfl | exact Or.inr (Or.inl rfl) | exact Or.inr (Or.inr rfl)) (hd : (x == ("__debug__" : Str)) = false := by decide)
    (hcd : (x == ("__classdict__" : Str)) = false := by decide) : DE G X W (.Name x pos) (mVar i) := ⟨_, pe_var hN hv hd hcd, simE_var i⟩
theorem de_int {i : Int} {j pos} : DE G X W (.Constant (.int i) j pos) (mC (.int i)) := ⟨_, pe_int, simE_c fun _ _ => .int i⟩
theorem de_bl {b j pos} : DE G X W (.Constant (.bool b) j pos) (mC (.bl b)) := ⟨_, pe_bl, simE_c fun _ _ => .bl b⟩
theorem de_non {j pos} : DE G X W (.Constant .none j pos) (mC .non) := ⟨_, pe_non, simE_c fun _ _ => .non⟩
theorem de_str {x j pos} : DE G X W (.Constant (.str x) j pos) (mC (.str x)) := ⟨_, pe_str, simE_c fun _ _ => .str x⟩
theorem de_gint {x : Str} {i : Int} {t : Tok} {pos : Pos} (hg : Gl X x) (hm : X.mg x = some (.int i t)) (hd : (x == ("__debug__" : Str)) = false := by decide) : DE G X W (.Name x pos) (mC (.int i)) :=
  ⟨_, pe_glob (v := .int i) hg hm ⟨t, rfl⟩ hd, simE_c fun _ _ => .int i⟩
theorem de_gstr {x : Str} {i : Str} {t : Tok} {pos : Pos} (hg : Gl X x) (hm : X.mg x = some (.str i t)) (hd : (x == ("__debug__" : Str)) = false := by decide) : DE G X W (.Name x pos) (mC (.str i)) :=
  ⟨_, pe_glob (v := .str i) hg hm ⟨t, rfl⟩ hd, simE_c fun _ _ => .str i⟩
theorem de_ty {x : Str} {n : String} {pos : Pos} (hg : Gl X x) (hm : X.mg x = none) (hv : bootBuiltins x = some (.type n)) (hn : x ≠ "__name__" := by decide) (hd : (x == ("__debug__" : Str)) = false := by decide) : DE G X W (.Name x pos) (mC (.ty n)) :=
  ⟨_, pe_bltn (v := .ty n) hg hm hv rfl hn hd, simE_c fun _ _ => .ty n⟩
end
/-! ### argument lists -/
@[reducible] def mNil : Env → Store → R (List Dt) := fun _ S => .ok [] S
@[reducible] def mCons (ma : Env → Store → R Dt) (mr : Env → Store → R (List Dt)) : Env → Store → R (List Dt) := fun e S => (ma e S).bind fun d S1 => (mr e S1).bind fun ds S2 => .ok (d :: ds) S2
section
variable {G : Gv} {X : Cx} {W : WX} {e : Expr} {es : List Expr} {m : Env → Store → R Dt} {ms : Env → Store → R (List Dt)}
theorem da_nil : DA G X W [] mNil := ⟨_, pa_nil, fun io H S e σ Q so re h => h io H Grow.refl so [] .nil⟩
theorem da_cons (ha : DE G X W e m) (hr : DA G X W es ms) (hs : starEach (e :: es) X.env = (false, eval e X.env) :: starEach es X.env := by rfl) : DA G X W (e :: es) (mCons m ms) := by
  obtain ⟨t, p, q⟩ := ha
  obtain ⟨u, p', q'⟩ := hr
  refine ⟨_, pa_cons p p' hs, fun io H S e σ Q so re h => ?_⟩
  refine q io H S e σ _ so re (h.bind.imp (fun _ _ _ _ z => z) fun d S1 i1 H1 g1 s1 k1 v r => ?_)
  refine q' i1 H1 S1 e σ _ s1 (re.mono g1) (k1.bind.imp (fun _ _ _ _ z => z) fun ds S2 i2 H2 g2 s2 k2 vs rs => ?_)
  exact k2 i2 H2 Grow.refl s2 _ (.cons (r.mono g2) rs)
end
/-! ### operations on values -/
/-- a two-place operation -/
def SimO (G : Gv) (r : R2) (m : Dt → Dt → Store → R Dt) : Prop := ∀ io H S x y dx dy Q, StoreOk G io S H → RelD G io H dx x → RelD G io H dy y → Out G io H (fun _ _ _ => False) (poE G Q) (m dx dy S) → r x y H Q
@[reducible] def mOp (m : Dt → Dt → Store → R Dt) (ma mb : Env → Store → R Dt) : Env → Store → R Dt := fun e S => (ma e S).bind fun x S1 => (mb e S1).bind fun y S2 => m x y S2
def NoErr {α : Type} : R α → Prop
  | .err _ _ => False
  | _ => True
theorem Out.noErr {G : Gv} {io : Io} {H : Hp} {α : Type} {wx wx' : Ex → Io → Hp → Prop} {post : α → Store → Io → Hp → Prop} {r : R α} (n : NoErr r) (h : Out G io H wx post r) : Out G io H wx' post r := by
  cases r with
  | ok a S => exact h
  | err x S => exact n.elim
  | stuck => exact h
def DO (G : Gv) (X : Cx) (f : Value → Value → Sem Value) (m : Dt → Dt → Store → R Dt) : Prop := ∃ r, OpR X f r ∧ SimO G r m ∧ ∀ x y S, NoErr (m x y S)
section
variable {G : Gv} {X : Cx} {W : WX} {a b : Expr} {ma mb : Env → Store → R Dt}
theorem simE_op {r : R2} {ta tb : TE} {m : Dt → Dt → Store → R Dt} (ho : SimO G r m) (hn : ∀ x y S, NoErr (m x y S)) (ha : SimE G W ta ma) (hb : SimE G W tb mb) : SimE G W (tOp r ta tb) (mOp m ma mb) := by
  intro io H S e σ Q so re h
  refine ha io H S e σ _ so re (h.bind.imp (fun _ _ _ _ z => z) fun d S1 i1 H1 g1 s1 k1 v r1 => ?_)
  refine hb i1 H1 S1 e σ _ s1 (re.mono g1) (k1.bind.imp (fun _ _ _ _ z => z) fun d' S2 i2 H2 g2 s2 k2 v' r2 => ?_)
  exact ho i2 H2 S2 v v' d d' Q s2 (r1.mono g2) r2 (k2.noErr (hn _ _ _))
theorem de_op {op : Operator} {pos : Pos} {m : Dt → Dt → Store → R Dt} (ho : DO G X (binaryOp op) m) (ha : DE G X W a ma) (hb : DE G X W b mb) : DE G X W (.BinOp a op b pos) (mOp m ma mb) := by
  obtain ⟨r, p, q, n⟩ := ho
  obtain ⟨ta, pa, qa⟩ := ha
  obtain ⟨tb, pb, qb⟩ := hb
  exact ⟨_, pe_op p pa pb, simE_op q n qa qb⟩
theorem de_cmp {op : CmpOp} {pos : Pos} {m : Dt → Dt → Store → R Dt} (ho : DO G X (compareOp op) m) (ha : DE G X W a ma) (hb : DE G X W b mb) (hm : behindInMarks op b = false := by first | exact nomark _ | rfl) : DE G X W (.Compare a [op] [b] pos) (mOp m ma mb) := by
  obtain ⟨r, p, q, n⟩ := ho
  obtain ⟨ta, pa, qa⟩ := ha
  obtain ⟨tb, pb, qb⟩ := hb
  exact ⟨_, pe_cmpR p pa pb hm, simE_op q n qa qb⟩
/-- the truth of an answer that is a bool -/
@[reducible] def mB (m : Env → Store → R Dt) : Env → Store → R Bool := fun e S => (m e S).bind fun d S1 => match d with
  | .bl b => .ok b S1
  | _ => .stuck
theorem simT_b {t : TE} {m : Env → Store → R Dt} (h : SimE G W t m) : SimT G W (fun σ H Q => t σ H fun x H1 => ∃ c, x = .bl c ∧ Q c H1) (mB m) := by
  intro io H S e σ Q so re k
  refine h io H S e σ _ so re (k.bind.imp (fun _ _ _ _ z => z) fun d S1 i1 H1 g1 s1 k1 v r => ?_)
  cases r with
  | bl b => exact ⟨b, rfl, k1 i1 H1 Grow.refl s1⟩
  | _ => exact k1.elim
theorem dt_cmp {op : CmpOp} {pos : Pos} {m : Dt → Dt → Store → R Dt} (ho : DO G X (compareOp op) m) (ha : DE G X W a ma) (hb : DE G X W b mb) (hm : behindInMarks op b = false := by first | exact nomark _ | rfl) : DT G X W (.Compare a [op] [b] pos) (mB (mOp m ma mb)) := by
  obtain ⟨r, p, q, n⟩ := ho
  obtain ⟨ta, pa, qa⟩ := ha
  obtain ⟨tb, pb, qb⟩ := hb
  exact ⟨_, pt_cmpR p pa pb hm, simT_b (simE_op q n qa qb)⟩
end
end Dv
set_option Elab.async false
set_option linter.all false
set_option maxRecDepth 100000
set_option maxHeartbeats 4000000
set_option autoImplicit false
namespace Dv
open PySem PySem.Spec PyProof.Rows L2
/-! ### the store under extension -/
def ExtH (H H' : Hp) : Prop := ∀ b o, H b = some o → H' b = some o
theorem ExtH.new {H : Hp} {p : Addr} {o : HO} (h : H p = none) : ExtH H (upd H p o) := fun a u e => by
  rw [upd_ne (ne_of_none e h)]
  exact e
theorem ExtH.grow {io : Io} {H H' : Hp} (e : ExtH H H') : Grow io H io H' := ⟨⟨[], by simp⟩, fun b o h _ _ => e b o h, fun a h n => absurd h n⟩
/-- neither a table nor a code object -/
def PlainO (o : HO) : Prop := NoTb o ∧ ∀ f, o ≠ .ext f
theorem tabs_upd {T : List (Addr × Str)} {H : Hp} {p : Addr} {u : HO} (t : LamX.Tabs T H) (hp : ∀ o, H p = some o → PlainO o) : LamX.Tabs T (upd H p u) := fun x hx => by
  obtain ⟨ps, h1, h2, h3⟩ := t x hx
  have n1 : x.1 ≠ p := fun e => (hp _ (e ▸ h1)).1 ps rfl
  refine ⟨ps, by rw [upd_ne n1]; exact h1, h2, fun pos cv hc => ?_⟩
  obtain ⟨c, e1, e2⟩ := h3 pos cv hc
  have n2 : c ≠ p := fun e => (hp _ (e ▸ e2)).2 _ rfl
  exact ⟨c, e1, by rw [upd_ne n2]; exact e2⟩
theorem pl_none {H : Hp} {p : Addr} (h : H p = none) : ∀ o, H p = some o → PlainO o := fun o e => by
  rw [h] at e
  cases e
theorem pl_some {H : Hp} {p : Addr} {u : HO} (h : H p = some u) (hu : PlainO u := by exact ⟨(fun _ e => by cases e), (fun _ e => by cases e)⟩) : ∀ o, H p = some o → PlainO o := fun o e => by
  rw [h] at e
  cases e
  exact hu
section
variable {G : Gv} {io : Io} {H H' : Hp} {S : Store}
theorem RelO.there {o : Ob} {a : Addr} (r : RelO G io H o a) : ∃ u, H a = some u := by
  cases r with
  | lst h _ => exact ⟨_, h⟩
  | ins h _ _ _ => exact ⟨_, h⟩
  | dct h _ _ => exact ⟨_, h⟩
  | dkt h _ _ => exact ⟨_, h⟩
theorem RelO.pl {o : Ob} {a : Addr} (r : RelO G io H o a) : ∀ u, H a = some u → PlainO u := by
  cases r with
  | lst h _ => exact pl_some h
  | ins h _ _ _ => exact pl_some h
  | dct h _ _ => exact pl_some h
  | dkt h _ _ => exact pl_some h
theorem RelO.ext (e : ExtH H H') {o : Ob} {a : Addr} (r : RelO G io H o a) : RelO G io H' o a := by
  cases r with
  | lst h k => exact .lst (e _ _ h) (k.mono e.grow)
  | ins h c l k => exact .ins (e _ _ h) c l (k.mono e.grow)
  | dct h l k => exact .dct (e _ _ h) l (k.mono e.grow)
  | dkt h l k => exact .dkt (e _ _ h) l (k.mono e.grow)
theorem StoreOk.ext (e : ExtH H H') (so : StoreOk G io S H) : StoreOk G io S H' := ⟨so.nd, so.len, so.dis, fun a h => let ⟨u, z, nt⟩ := so.hid a h; ⟨u, e _ _ z, nt⟩, fun i o a h1 h2 => (so.ob i o a h1 h2).ext e, so.tab.ext e⟩
theorem StoreOk.at_ (so : StoreOk G io S H) {i : Nat} {o : Ob} (h : S[i]? = some o) : ∃ a, io.l[i]? = some a ∧ RelO G io H o a := by
  have hl : i < io.l.length := by
    rw [← so.len]
    exact (List.getElem?_eq_some_iff.mp h).1
  exact ⟨io.l[i], by simp [hl], so.ob i o _ h (by simp [hl])⟩
theorem StoreOk.there (so : StoreOk G io S H) {a : Addr} (h : a ∈ io) : ∃ u, H a = some u := by
  rcases h with h | h
  · obtain ⟨i, hl, e⟩ := List.getElem_of_mem h
    have hs : i < S.length := by rw [so.len]; exact hl
    exact (so.ob i S[i] a (by simp [hs]) (by simp [hl, e])).there
  · obtain ⟨u, e, _⟩ := so.hid a h
    exact ⟨u, e⟩
theorem StoreOk.fresh (so : StoreOk G io S H) {p : Addr} (h : H p = none) : p ∉ io := fun hm => by
  obtain ⟨u, e⟩ := so.there hm
  rw [h] at e
  cases e
theorem push_grow {p : Addr} {u : HO} (h : H p = none) : Grow io H (io.push p) (upd H p u) := by
  refine ⟨⟨[p], rfl⟩, fun b o h' _ _ => ExtH.new h b o h', fun a ha n => ?_⟩
  rcases List.mem_append.mp ha with z | z
  · exact absurd z n
  · rw [List.mem_singleton] at z
    rw [z]
    exact fun o e => by rw [h] at e; cases e
/-- a new object of the store -/
theorem StoreOk.push (so : StoreOk G io S H) {p : Addr} {o : Ob} {u : HO} (h : H p = none) (r : RelO G (io.push p) (upd H p u) o p) :
    Grow io H (io.push p) (upd H p u) ∧ StoreOk G (io.push p) (S ++ [o]) (upd H p u) := by
  have g : Grow io H (io.push p) (upd H p u) := push_grow h
  refine ⟨g, ?_, by simp [so.len], fun a ha => ?_, fun a ha => ?_, fun i ob a h1 h2 => ?_, tabs_upd so.tab (pl_none h)⟩
  · rw [List.nodup_append]
    refine ⟨so.nd, by simp, fun a ha b hb => ?_⟩
    rw [List.mem_singleton] at hb
    rw [hb]
    intro z
    rw [z] at ha
    exact so.fresh h (.inl ha)
  · rcases List.mem_append.mp ha with z | z
    · exact so.dis a z
    · rw [List.mem_singleton] at z
      rw [z]
      exact fun q => so.fresh h (.inr q)
  · obtain ⟨v, z, nt⟩ := so.hid a ha
    exact ⟨v, ExtH.new h _ _ z, nt⟩
  · by_cases hi : i < S.length
    · rw [List.getElem?_append_left hi] at h1
      rw [List.getElem?_append_left (by rw [← so.len]; exact hi)] at h2
      have q := so.ob i ob a h1 h2
      have e := ExtH.new (o := u) h
      cases q with
      | lst h k => exact .lst (e _ _ h) (k.mono g)
      | ins h c l k => exact .ins (e _ _ h) c l (k.mono g)
      | dct h l k => exact .dct (e _ _ h) l (k.mono g)
      | dkt h l k => exact .dkt (e _ _ h) l (k.mono g)
    · have hs : i = S.length := by
        have := (List.getElem?_eq_some_iff.mp h1).1
        rw [List.length_append, List.length_singleton] at this
        omega
      subst hs
      rw [List.getElem?_append_right (Nat.le_refl _)] at h1
      rw [so.len, List.getElem?_append_right (Nat.le_refl _)] at h2
      simp at h1 h2
      subst h1 h2
      exact r
/-- an object of the store is written -/
theorem StoreOk.write (so : StoreOk G io S H) {i : Nat} {p : Addr} {o : Ob} {u : HO} (hp : io.l[i]? = some p) (r : RelO G io (upd H p u) o p) : Grow io H io (upd H p u) ∧ StoreOk G io (S.set i o) (upd H p u) := by
  have hm : p ∈ io.l := List.mem_of_getElem? hp
  have hpl : ∀ o, H p = some o → PlainO o := by
    obtain ⟨hl, e⟩ := List.getElem?_eq_some_iff.mp hp
    have hs : i < S.length := by rw [so.len]; exact hl
    exact (so.ob i S[i] p (by simp [hs]) hp).pl
  have g : Grow io H io (upd H p u) := ⟨⟨[], by simp⟩, fun b o h n _ => by
    rw [upd_ne (fun z => n (by rw [z]; exact hm))]
    exact h, fun a h n => absurd h n⟩
  refine ⟨g, so.nd, by simp [so.len], so.dis, fun a ha => ?_, fun j ob a h1 h2 => ?_, tabs_upd so.tab hpl⟩
  · by_cases hb : a = p
    · exact absurd (hb ▸ ha) (so.dis p hm)
    · rw [upd_ne hb]
      exact so.hid a ha
  by_cases hj : i = j
  · subst hj
    have hl := (List.getElem?_eq_some_iff.mp hp).1
    rw [List.getElem?_set_self (by rw [so.len]; exact hl)] at h1
    rw [hp] at h2
    cases h1
    cases h2
    exact r
  · rw [List.getElem?_set_ne hj] at h1
    have ne : a ≠ p := fun z => by
      obtain ⟨l1, e1⟩ := List.getElem?_eq_some_iff.mp h2
      obtain ⟨l2, e2⟩ := List.getElem?_eq_some_iff.mp hp
      exact hj ((List.getElem_inj so.nd).mp (e2.trans (z.symm.trans e1.symm)))
    have q := so.ob j ob a h1 h2
    cases q with
    | lst h k => exact .lst (by rw [upd_ne ne]; exact h) (k.mono g)
    | ins h c l k => exact .ins (by rw [upd_ne ne]; exact h) c l (k.mono g)
    | dct h l k => exact .dct (by rw [upd_ne ne]; exact h) l (k.mono g)
    | dkt h l k => exact .dkt (by rw [upd_ne ne]; exact h) l (k.mono g)
end
/-! ### lists and tuples that are read -/
@[reducible] def asL (S : Store) : Dt → Option (List Dt)
  | .lst ds => some ds
  | .fz ds => some ds
  | .ref i => match S[i]? with
    | some (.lst ds) => some ds
    | _ => none
  | _ => none
@[reducible] def asP (S : Store) : Dt → Option (List Dt)
  | .lst ds => some ds
  | .ref i => match S[i]? with
    | some (.lst ds) => some ds
    | _ => none
  | _ => none
@[reducible] def asT : Dt → Option (List Dt)
  | .tup ds => some ds
  | _ => none
section
variable {G : Gv} {io : Io} {H H' : Hp} {S : Store} {d : Dt} {ds : List Dt} {v : V}
theorem asP_ok (so : StoreOk G io S H) (r : RelD G io H d v) (h : asP S d = some ds) : ∃ a vs, v = .ref a ∧ H a = some (.lst vs) ∧ RelDs G io H ds vs := by
  cases r with
  | lst e n k => cases h; exact ⟨_, _, rfl, e, k⟩
  | @ref a i e =>
    simp only [asP] at h
    split at h
    · rename_i xs hs
      cases h
      obtain ⟨a', h1, h2⟩ := so.at_ hs
      rw [e] at h1
      cases h1
      cases h2 with
      | lst h3 h4 => exact ⟨_, _, rfl, h3, h4⟩
    · cases h
  | _ => cases h
theorem asL_ok (so : StoreOk G io S H) (r : RelD G io H d v) (h : asL S d = some ds) : ∃ a vs, v = .ref a ∧ SqL G.K H a vs ∧ RelDs G io H ds vs := by
  cases r with
  | lst e n k => cases h; exact ⟨_, _, rfl, .inl (.inl e), k⟩
  | fz e k =>
    cases h
    refine ⟨_, _, rfl, ?_, k⟩
    rcases e with ⟨e, _⟩ | e
    · exact .inl e
    · exact .inr e
  | @ref a i e =>
    obtain ⟨a', vs, h1, h2, h3⟩ := asP_ok (d := .ref i) (ds := ds) so (.ref e) (by simpa only [asP, asL] using h)
    exact ⟨a', vs, h1, .inl (.inl h2), h3⟩
  | _ => cases h
theorem asT_ok (r : RelD G io H d v) (h : asT d = some ds) : ∃ a vs, v = .ref a ∧ SqT G.K H a vs ∧ RelDs G io H ds vs := by
  cases r with
  | tup e k =>
    cases h
    refine ⟨_, _, rfl, ?_, k⟩
    rcases e with ⟨e, _⟩ | e
    · exact .inl (.inl e)
    · exact .inr e.1
  | _ => cases h
/-- a new tuple, a new list by value -/
theorem new_tup (so : StoreOk G io S H) {ds : List Dt} {vs : List V} (r : RelDs G io H ds vs) {p : Addr} (h : H p = none) :
    Grow io H io (upd H p (.tup vs)) ∧ StoreOk G io S (upd H p (.tup vs)) ∧ RelD G io (upd H p (.tup vs)) (.tup ds) (.ref p) :=
  ⟨(ExtH.new h).grow, so.ext (ExtH.new h), .tup (.inl ⟨upd_same, so.fresh h⟩) (r.mono (ExtH.new h).grow)⟩
theorem new_lst (so : StoreOk G io S H) {ds : List Dt} {vs : List V} (r : RelDs G io H ds vs) {p : Addr} (h : H p = none) :
    Grow io H io (upd H p (.lst vs)) ∧ StoreOk G io S (upd H p (.lst vs)) ∧ RelD G io (upd H p (.lst vs)) (.lst ds) (.ref p) :=
  ⟨(ExtH.new h).grow, so.ext (ExtH.new h), .lst upd_same (so.fresh h) (r.mono (ExtH.new h).grow)⟩
theorem out_tup {wx : Ex → Io → Hp → Prop} {Q : VK} (so : StoreOk G io S H) {ds : List Dt} {vs : List V} (r : RelDs G io H ds vs) (h : Out G io H wx (poE G Q) (.ok (.tup ds) S)) {p : Addr} (hp : H p = none) : Q (.ref p) (upd H p (.tup vs)) := by
  obtain ⟨a, b, c⟩ := new_tup so r hp
  exact h io _ a b _ c
theorem out_lst {wx : Ex → Io → Hp → Prop} {Q : VK} (so : StoreOk G io S H) {ds : List Dt} {vs : List V} (r : RelDs G io H ds vs) (h : Out G io H wx (poE G Q) (.ok (.lst ds) S)) {p : Addr} (hp : H p = none) : Q (.ref p) (upd H p (.lst vs)) := by
  obtain ⟨a, b, c⟩ := new_lst so r hp
  exact h io _ a b _ c
theorem out_ref {wx : Ex → Io → Hp → Prop} {Q : VK} (so : StoreOk G io S H) {ds : List Dt} {vs : List V} (r : RelDs G io H ds vs) (h : Out G io H wx (poE G Q) (.ok (.ref S.length) (S ++ [.lst ds]))) {p : Addr} (hp : H p = none) : Q (.ref p) (upd H p (.lst vs)) := by
  obtain ⟨a, b⟩ := so.push (o := .lst ds) (u := .lst vs) hp (.lst upd_same (r.mono (push_grow hp)))
  exact h _ _ a b _ (.ref (by rw [so.len]; simp))
end
end Dv
set_option Elab.async false
set_option linter.all false
set_option maxRecDepth 100000
set_option maxHeartbeats 4000000
set_option autoImplicit false
namespace Dv
open PySem PySem.Spec PyProof.Rows L2
def mAdd (x y : Dt) (S : Store) : R Dt := match x, y with
  | .int i, .int j => .ok (.int (i + j)) S
  | .str a, .str b => if a.length + b.length ≤ 100000 then .ok (.str (a ++ b)) S else .stuck
  | .tup xs, .tup ys => if xs.length + ys.length ≤ 1000000 then .ok (.tup (xs ++ ys)) S else .stuck
  | x, y => match asP S x, asP S y with
    | some xs, some ys => if xs.length + ys.length ≤ 1000000 then .ok (.lst (xs ++ ys)) S else .stuck
    | _, _ => .stuck
def mSub (x y : Dt) (S : Store) : R Dt := match x, y with
  | .int i, .int j => .ok (.int (i - j)) S
  | _, _ => .stuck
/-- small enough for * -/
def mulOk (i j : Int) : Bool := decide (i.natAbs < 2 ^ 64) || decide (j.natAbs < 2 ^ 64) || decide (i.natAbs.log2 + j.natAbs.log2 < 1000000)
def mMul (x y : Dt) (S : Store) : R Dt := match x, y with
  | .int i, .int j => if mulOk i j = true then .ok (.int (i * j)) S else .stuck
  | x, .int k => match asP S x with
    | some xs => if -100000 ≤ k ∧ k ≤ 100000 ∧ xs.length ≤ 100 then .ok (.lst (List.replicate k.toNat xs).flatten) S else .stuck
    | none => .stuck
  | _, _ => .stuck
def divOk (j : Int) : Bool := decide (j ≠ 0) && decide (j.natAbs.log2 < 9000)
def mDiv (x y : Dt) (S : Store) : R Dt := match x, y with
  | .int i, .int j => if divOk j = true then .ok (.int (i.fdiv j)) S else .stuck
  | _, _ => .stuck
def mMod (x y : Dt) (S : Store) : R Dt := match x, y with
  | .int i, .int j => if j ≠ 0 then .ok (.int (i.fmod j)) S else .stuck
  | _, _ => .stuck
def powOk (i j : Int) : Bool := decide (0 ≤ j ∧ j ≤ 1000000 ∧ i.natAbs < 2 ^ 64)
def mPow (x y : Dt) (S : Store) : R Dt := match x, y with
  | .int i, .int j => if powOk i j = true then .ok (.int (i ^ j.toNat)) S else .stuck
  | _, _ => .stuck
def mCmpI (p : Int → Int → Bool) (x y : Dt) (S : Store) : R Dt := match x, y with
  | .int i, .int j => .ok (.bl (p i j)) S
  | _, _ => .stuck
def mLt : Dt → Dt → Store → R Dt := mCmpI fun i j => decide (i < j)
def mLe : Dt → Dt → Store → R Dt := mCmpI fun i j => decide (i ≤ j)
def mGt : Dt → Dt → Store → R Dt := mCmpI fun i j => decide (j < i)
def mGe : Dt → Dt → Store → R Dt := mCmpI fun i j => decide (j ≤ i)
/-- is, is not: None and bools -/
def mIs (neg : Bool) (x y : Dt) (S : Store) : R Dt := match x, y with
  | .non, .non => .ok (.bl (!neg)) S
  | .ref _, .non => .ok (.bl neg) S
  | .bl _, .non => .ok (.bl neg) S
  | .int _, .non => .ok (.bl neg) S
  | .str _, .non => .ok (.bl neg) S
  | .tup _, .non => .ok (.bl neg) S
  | .lst _, .non => .ok (.bl neg) S
  | .ins _ _ _, .non => .ok (.bl neg) S
  | .dct _ _, .non => .ok (.bl neg) S
  | .bl a, .bl b => .ok (.bl (if neg then !decide (a = b) else decide (a = b))) S
  | _, _ => .stuck
section
variable {G : Gv} {X : Cx}
theorem small6 {n : Nat} (h : n ≤ 1000000) : n ≤ sizeLine := Nat.le_trans h (by decide)
theorem rel_bl {G : Gv} {io : Io} {H : Hp} {i : Bool} {v : V} (r : RelD G io H (.bl i) v) : v = .bl i := by cases r; rfl
theorem nil_iff {G : Gv} {io : Io} {H : Hp} {ds : List Dt} {vs : List V} (r : RelDs G io H ds vs) : vs = [] ↔ ds = [] := by
  cases r with
  | nil => simp
  | cons _ _ => simp
/-- a rule on two ints -/
theorem sim_int {C : Int → Int → Prop} {c : Int → Int → Bool} {g : Int → Int → V} {gd : Int → Int → Dt} (hc : ∀ i j, c i j = true → C i j) (hg : ∀ G io H i j, RelD G io H (gd i j) (g i j)) :
    SimO G (rI C g) (fun x y S => match x, y with | .int i, .int j => if c i j = true then .ok (gd i j) S else .stuck | _, _ => .stuck) := by
  intro io H S x y dx dy Q so rx ry h
  dsimp only at h
  split at h
  · rename_i i j
    cases rx
    cases ry
    by_cases hcc : c i j = true
    · rw [if_pos hcc] at h
      exact ⟨_, _, rfl, rfl, hc _ _ hcc, h io H Grow.refl so _ (hg _ _ _ _ _)⟩
    · rw [if_neg hcc] at h
      exact h.elim
  · exact h.elim
theorem do_add (hK : X.K = G.K := by rfl) : DO G X (binaryOp .Add) mAdd := by
  refine ⟨_, (((op_add (X := X)).or op_add_str).or op_catA).or op_cat, ?_, ?_⟩
  · intro io H S x y dx dy Q so rx ry h
    unfold mAdd at h
    split at h
    · cases rx
      cases ry
      exact .inl (.inl (.inl ⟨_, _, rfl, rfl, h io H Grow.refl so _ (.int _)⟩))
    · rename_i a b
      cases rx
      cases ry
      by_cases hl : a.length + b.length ≤ 100000
      · rw [if_pos hl] at h
        exact .inl (.inl (.inr ⟨_, _, rfl, rfl, small6 (by omega), h io H Grow.refl so _ (.str _)⟩))
      · rw [if_neg hl] at h
        exact h.elim
    · rename_i xs ys
      by_cases hl : xs.length + ys.length ≤ 1000000
      · rw [if_pos hl] at h
        obtain ⟨a, vs, rfl, hs, rs⟩ := asT_ok rx rfl
        obtain ⟨b, us, rfl, ht, rt⟩ := asT_ok ry rfl
        have l1 := rs.length
        have l2 := rt.length
        refine .inl (.inr ⟨a, b, vs, us, rfl, rfl, by rw [hK]; exact hs, by rw [hK]; exact ht, small6 (by omega), fun e => ?_, fun e1 e2 => ?_, fun e1 e2 p hp => ?_⟩)
        · have e' := (nil_iff rs).mp e
          subst e'
          rw [List.nil_append] at h
          exact h io H Grow.refl so _ ry
        · have e' := (nil_iff rt).mp e2
          subst e'
          rw [List.append_nil] at h
          exact h io H Grow.refl so _ rx
        · exact out_tup so (rs.append rt) h hp
      · rw [if_neg hl] at h
        exact h.elim
    · split at h
      · rename_i xs ys e1 e2
        by_cases hl : xs.length + ys.length ≤ 1000000
        · rw [if_pos hl] at h
          obtain ⟨a, vs, rfl, hs, rs⟩ := asP_ok so rx e1
          obtain ⟨b, us, rfl, ht, rt⟩ := asP_ok so ry e2
          have l1 := rs.length
          have l2 := rt.length
          exact .inr ⟨a, b, vs, us, rfl, rfl, hs, ht, small6 (by omega), fun p hp => out_lst so (rs.append rt) h hp⟩
        · rw [if_neg hl] at h
          exact h.elim
      · exact h.elim
  · intro x y S
    unfold mAdd
    repeat' split
    all_goals trivial
theorem do_sub : DO G X (binaryOp .Sub) mSub := by
  refine ⟨_, op_sub, ?_, ?_⟩
  · intro io H S x y dx dy Q so rx ry h
    unfold mSub at h
    split at h
    · cases rx
      cases ry
      exact ⟨_, _, rfl, rfl, h io H Grow.refl so _ (.int _)⟩
    · exact h.elim
  · intro x y S
    unfold mSub
    split <;> trivial
theorem do_mul : DO G X (binaryOp .Mult) mMul := by
  refine ⟨_, ((op_mulW (X := X)).or op_mul).or op_rep, ?_, ?_⟩
  · intro io H S x y dx dy Q so rx ry h
    unfold mMul at h
    split at h
    · rename_i i j
      cases rx
      cases ry
      by_cases hc : mulOk i j = true
      · rw [if_pos hc] at h
        unfold mulOk at hc
        rw [Bool.or_eq_true, Bool.or_eq_true] at hc
        rcases hc with (hc | hc) | hc
        · have z := of_decide_eq_true hc
          exact .inl (.inr ⟨_, _, rfl, rfl, .inl (by omega), h io H Grow.refl so _ (.int _)⟩)
        · have z := of_decide_eq_true hc
          exact .inl (.inr ⟨_, _, rfl, rfl, .inr (by omega), h io H Grow.refl so _ (.int _)⟩)
        · exact .inl (.inl ⟨_, _, rfl, rfl, (of_decide_eq_true (p := i.natAbs.log2 + j.natAbs.log2 < 1000000) hc : CMulW i j), h io H Grow.refl so _ (.int _)⟩)
      · rw [if_neg hc] at h
        exact h.elim
    · rename_i k hne
      cases ry
      split at h
      · rename_i xs e1
        by_cases hl : -100000 ≤ k ∧ k ≤ 100000 ∧ xs.length ≤ 100
        · rw [if_pos hl] at h
          obtain ⟨a, vs, rfl, hs, rs⟩ := asP_ok so rx e1
          have l1 := rs.length
          refine .inr ⟨a, k, vs, rfl, rfl, hs, by omega, by omega, ?_, fun p hp => ?_⟩
          · have e : vs.length * k.toNat ≤ 100 * 100000 := Nat.mul_le_mul (by omega) (by omega)
            exact Nat.le_trans e (by decide)
          · have rr : ∀ n : Nat, RelDs G io H (List.replicate n xs).flatten (List.replicate n vs).flatten := fun n => by
              induction n with
              | zero => exact .nil
              | succ n ih =>
                rw [List.replicate_succ, List.replicate_succ, List.flatten_cons, List.flatten_cons]
                exact rs.append ih
            exact out_lst so (rr _) h hp
        · rw [if_neg hl] at h
          exact h.elim
      · exact h.elim
    · exact h.elim
  · intro x y S
    unfold mMul
    repeat' split
    all_goals trivial
theorem op_fdivA : OpR X (binaryOp .FloorDiv) (rI (fun _ j => j ≠ 0 ∧ j.natAbs.log2 < 9000) fun i j => .int (i.fdiv j)) := opI fun _ _ _ _ _ _ _ hc q =>
  floordiv_int hc.1 q (.inl (PyProof.noPylong_of_log2 hc.2))
theorem noErr_int {c : Int → Int → Bool} {gd : Int → Int → Dt} (x y : Dt) (S : Store) : NoErr (match x, y with | .int i, .int j => if c i j = true then R.ok (gd i j) S else .stuck | _, _ => .stuck) := by
  repeat' split
  all_goals trivial
theorem do_div : DO G X (binaryOp .FloorDiv) mDiv :=
  ⟨_, op_fdivA, sim_int (c := fun _ j => divOk j) (gd := fun i j => .int (i.fdiv j)) (fun i j h => by
    unfold divOk at h
    rw [Bool.and_eq_true] at h
    exact ⟨of_decide_eq_true h.1, of_decide_eq_true h.2⟩) (fun _ _ _ _ _ => .int _), fun x y S => noErr_int (c := fun _ j => divOk j) (gd := fun i j => .int (i.fdiv j)) x y S⟩
theorem do_mod : DO G X (binaryOp .Mod) mMod := by
  refine ⟨_, op_modN, ?_, ?_⟩
  · intro io H S x y dx dy Q so rx ry h
    unfold mMod at h
    split at h
    · rename_i i j
      cases rx
      cases ry
      by_cases hc : j ≠ 0
      · rw [if_pos hc] at h
        exact ⟨_, _, rfl, rfl, hc, h io H Grow.refl so _ (.int _)⟩
      · rw [if_neg hc] at h
        exact h.elim
    · exact h.elim
  · intro x y S
    unfold mMod
    repeat' split
    all_goals trivial
theorem do_pow : DO G X (binaryOp .Pow) mPow :=
  ⟨_, op_pow, sim_int (c := powOk) (gd := fun i j => .int (i ^ j.toNat)) (fun i j h => (of_decide_eq_true (p := 0 ≤ j ∧ j ≤ 1000000 ∧ i.natAbs < 2 ^ 64) h : CPow i j)) (fun _ _ _ _ _ => .int _), fun x y S => noErr_int (c := powOk) (gd := fun i j => .int (i ^ j.toNat)) x y S⟩
theorem do_cmpI {op : CmpOp} {p : Int → Int → Bool} (ho : OpR X (compareOp op) (rI0 fun i j => .bl (p i j))) : DO G X (compareOp op) (mCmpI p) := by
  refine ⟨_, ho, ?_, ?_⟩
  · intro io H S x y dx dy Q so rx ry h
    unfold mCmpI at h
    split at h
    · cases rx
      cases ry
      exact ⟨_, _, rfl, rfl, h io H Grow.refl so _ (.bl _)⟩
    · exact h.elim
  · intro x y S
    unfold mCmpI
    split <;> trivial
theorem do_lt : DO G X (compareOp .Lt) mLt := do_cmpI op_lt
theorem do_le : DO G X (compareOp .LtE) mLe := do_cmpI op_le
theorem do_gt : DO G X (compareOp .Gt) mGt := do_cmpI op_gt
theorem do_ge : DO G X (compareOp .GtE) mGe := do_cmpI op_ge
theorem do_is : DO G X (compareOp .Is) (mIs false) := by
  refine ⟨_, (op_isN (X := X)).or op_isBl, ?_, ?_⟩
  · intro io H S x y dx dy Q so rx ry h
    unfold mIs at h
    split at h
    case h_11 => exact h.elim
    case h_10 =>
      cases rx
      cases ry
      exact .inr ⟨_, _, rfl, rfl, h io H Grow.refl so _ (.bl _)⟩
    all_goals
      cases ry
      refine .inl ⟨rfl, ?_⟩
      cases rx
      exact h io H Grow.refl so _ (.bl _)
  · intro x y S
    unfold mIs
    split <;> trivial
end
/-! ### == of plain data -/
mutual
def eqD : Dt → Dt → Bool
  | .non, .non => true
  | .bl a, .bl b => a == b
  | .bl a, .int j => (if a then 1 else 0) == j
  | .int i, .bl b => i == (if b then 1 else 0)
  | .int i, .int j => i == j
  | .str a, .str b => a == b
  | .tup xs, .tup ys => eqDs xs ys
  | .lst xs, .lst ys => eqDs xs ys
  | _, _ => false
def eqDs : List Dt → List Dt → Bool
  | [], [] => true
  | x :: xs, y :: ys => eqD x y && eqDs xs ys
  | _, _ => false
end
/-- plain data, so deep at most -/
def okD : Nat → Dt → Bool
  | _, .non => true
  | _, .bl _ => true
  | _, .int _ => true
  | _, .str s => PyData.strOk s
  | k + 1, .tup ds => ds.all (okD k)
  | k + 1, .lst ds => ds.all (okD k)
  | _, _ => false
mutual
def toPy : Dt → PyData
  | .bl b => .bool b
  | .int i => .int i
  | .str s => .str s
  | .tup ds => .tuple (toPys ds)
  | .lst ds => .list (toPys ds)
  | _ => .none
def toPys : List Dt → List PyData
  | [] => []
  | d :: ds => toPy d :: toPys ds
end
section
variable {G : Gv} {io : Io} {H : Hp}
theorem all_cons {k : Nat} {d : Dt} {ds : List Dt} (h : (d :: ds).all (okD k) = true) : okD k d = true ∧ ds.all (okD k) = true := by
  rw [List.all_cons, Bool.and_eq_true] at h
  exact h
theorem dp_of : ∀ (k : Nat) {d : Dt} {v : V}, RelD G io H d v → okD k d = true → Dp G.K H v (toPy d) ∧ (toPy d).canLay0 = true ∧ (toPy d).depth ≤ k := by
  intro k
  induction k with
  | zero =>
    intro d v r h
    cases r with
    | non => exact ⟨.non, rfl, Nat.le_refl _⟩
    | bl b => exact ⟨.bl b, rfl, Nat.le_refl _⟩
    | int i => exact ⟨.int i, rfl, Nat.le_refl _⟩
    | str s => exact ⟨.str s, by simpa [okD, toPy, PyData.canLay0] using h, by simp [toPy, PyData.depth]⟩
    | _ => simp [okD] at h
  | succ k ih =>
    have all : ∀ {ds : List Dt} {vs : List V}, RelDs G io H ds vs → ds.all (okD k) = true → DpAll G.K H vs (toPys ds) ∧ PyData.canLayAll0 (toPys ds) = true ∧ PyData.depthAll (toPys ds) ≤ k := by
      intro ds
      induction ds with
      | nil =>
        intro vs r _
        cases r
        exact ⟨.nil, rfl, Nat.zero_le _⟩
      | cons d ds ih2 =>
        intro vs r h
        cases r with
        | cons r1 r2 =>
          obtain ⟨h1, h2⟩ := all_cons h
          obtain ⟨a1, a2, a3⟩ := ih r1 h1
          obtain ⟨b1, b2, b3⟩ := ih2 r2 h2
          refine ⟨.cons a1 b1, ?_, ?_⟩
          · show ((toPy d).canLay0 && PyData.canLayAll0 (toPys ds)) = true
            rw [a2, b2]
            rfl
          · show PyData.depthAll (toPy d :: toPys ds) ≤ k
            simp only [PyData.depthAll]
            omega
    intro d v r h
    cases r with
    | non => exact ⟨.non, rfl, by simp [toPy, PyData.depth]⟩
    | bl b => exact ⟨.bl b, rfl, by simp [toPy, PyData.depth]⟩
    | int i => exact ⟨.int i, rfl, by simp [toPy, PyData.depth]⟩
    | str s => exact ⟨.str s, by simpa [okD, toPy, PyData.canLay0] using h, by simp [toPy, PyData.depth]⟩
    | tup e rs =>
      obtain ⟨a1, a2, a3⟩ := all rs (by simpa [okD] using h)
      refine ⟨.tup ?_ a1, a2, ?_⟩
      · rcases e with ⟨e, _⟩ | e
        · exact .inl (.inl e)
        · exact .inr e.1
      · simp only [toPy, PyData.depth]
        omega
    | lst e n rs =>
      obtain ⟨a1, a2, a3⟩ := all rs (by simpa [okD] using h)
      refine ⟨.lst (.inl (.inl e)) a1, a2, ?_⟩
      simp only [toPy, PyData.depth]
      omega
    | _ => simp [okD] at h
theorem shaped_of {k : Nat} {d : Dt} {v : V} (hk : k ≤ 60) (r : RelD G io H d v) (h : okD k d = true) : SeqAt.shaped (toPy d) = true := by
  obtain ⟨_, a, b⟩ := dp_of k r h
  unfold SeqAt.shaped
  rw [a, Bool.true_and]
  exact decide_eq_true (by omega)
theorem eqv_of : ∀ (k : Nat) (d e : Dt), okD k d = true → okD k e = true → PyData.eqv (toPy d) (toPy e) = eqD d e := by
  intro k
  induction k with
  | zero =>
    intro d e h1 h2
    cases d <;> cases e <;> first
      | rfl
      | (simp [okD] at h1; done)
      | (simp [okD] at h2; done)
  | succ k ih =>
    have all : ∀ ds es : List Dt, ds.all (okD k) = true → es.all (okD k) = true → PyData.eqvAll (toPys ds) (toPys es) = eqDs ds es := by
      intro ds
      induction ds with
      | nil =>
        intro es _ _
        cases es <;> rfl
      | cons d ds ih2 =>
        intro es h1 h2
        cases es with
        | nil => rfl
        | cons e es =>
          obtain ⟨a1, a2⟩ := all_cons h1
          obtain ⟨b1, b2⟩ := all_cons h2
          show (PyData.eqv (toPy d) (toPy e) && PyData.eqvAll (toPys ds) (toPys es)) = (eqD d e && eqDs ds es)
          rw [ih d e a1 b1, ih2 es a2 b2]
    intro d e h1 h2
    cases d <;> cases e <;> first
      | rfl
      | (simp [okD] at h1; done)
      | (simp [okD] at h2; done)
      | exact all _ _ (by simpa [okD] using h1) (by simpa [okD] using h2)
end
/-- a list of the store, as it stands -/
def res (S : Store) (d : Dt) : Dt := match d with
  | .ref i => match S[i]? with
    | some (.lst ds) => .lst ds
    | _ => .ref i
  | d => d
theorem res_ok {G : Gv} {io : Io} {H : Hp} {S : Store} {d : Dt} {v : V} {k : Nat} (so : StoreOk G io S H) (r : RelD G io H d v) (h : okD k (res S d) = true) : Dp G.K H v (toPy (res S d)) ∧ (k ≤ 60 → SeqAt.shaped (toPy (res S d)) = true) := by
  cases d with
  | ref i =>
    unfold res at h ⊢
    dsimp only at h ⊢
    split at h
    · rename_i ds hs
      obtain ⟨a, vs, rfl, e, rs⟩ := asP_ok (d := .ref i) (ds := ds) so r (by simp [asP, hs])
      cases k with
      | zero => simp [okD] at h
      | succ k =>
        have z : ∀ (ds : List Dt) (vs : List V), RelDs G io H ds vs → ds.all (okD k) = true → DpAll G.K H vs (toPys ds) ∧ PyData.canLayAll0 (toPys ds) = true ∧ PyData.depthAll (toPys ds) ≤ k := by
          intro ds
          induction ds with
          | nil =>
            intro vs r _
            cases r
            exact ⟨.nil, rfl, Nat.zero_le _⟩
          | cons d ds ih2 =>
            intro vs r h
            cases r with
            | cons r1 r2 =>
              obtain ⟨h1, h2⟩ := all_cons h
              obtain ⟨a1, a2, a3⟩ := dp_of k r1 h1
              obtain ⟨b1, b2, b3⟩ := ih2 _ r2 h2
              refine ⟨.cons a1 b1, ?_, ?_⟩
              · show ((toPy d).canLay0 && PyData.canLayAll0 (toPys ds)) = true
                rw [a2, b2]
                rfl
              · show PyData.depthAll (toPy d :: toPys ds) ≤ k
                simp only [PyData.depthAll]
                omega
        obtain ⟨a1, a2, a3⟩ := z ds vs rs (by simpa [okD] using h)
        refine ⟨.lst (.inl (.inl e)) a1, fun hk => ?_⟩
        unfold SeqAt.shaped
        rw [show (toPy (Dt.lst ds)).canLay0 = true from a2, Bool.true_and]
        refine decide_eq_true ?_
        simp only [toPy, PyData.depth]
        omega
    · cases k <;> simp [okD] at h
  | _ => exact ⟨(dp_of k r h).1, fun hk => shaped_of hk r h⟩
def deep : Nat := 12
def mEq (x y : Dt) (S : Store) : R Dt := if okD deep (res S x) = true ∧ okD deep (res S y) = true then .ok (.bl (eqD (res S x) (res S y))) S else .stuck
def mNe (x y : Dt) (S : Store) : R Dt := if okD deep (res S x) = true ∧ okD deep (res S y) = true then .ok (.bl (!eqD (res S x) (res S y))) S else .stuck
section
variable {G : Gv} {X : Cx}
theorem do_eq (hu : X.A.units + 64 < cLine) (hK : X.K = G.K := by rfl) : DO G X (compareOp .Eq) mEq := by
  refine ⟨_, op_eqD hu, ?_, ?_⟩
  · intro io H S x y dx dy Q so rx ry h
    unfold mEq at h
    split at h
    · rename_i hc
      obtain ⟨p1, q1⟩ := res_ok so rx hc.1
      obtain ⟨p2, q2⟩ := res_ok so ry hc.2
      refine ⟨_, _, by rw [hK]; exact p1, by rw [hK]; exact p2, q1 (by decide), q2 (by decide), ?_⟩
      rw [eqv_of deep _ _ hc.1 hc.2]
      exact h io H Grow.refl so _ (.bl _)
    · exact h.elim
  · intro x y S
    unfold mEq
    split <;> trivial
theorem do_ne (hu : X.A.units + 64 < cLine) (hK : X.K = G.K := by rfl) : DO G X (compareOp .NotEq) mNe := by
  refine ⟨_, op_neD hu, ?_, ?_⟩
  · intro io H S x y dx dy Q so rx ry h
    unfold mNe at h
    split at h
    · rename_i hc
      obtain ⟨p1, q1⟩ := res_ok so rx hc.1
      obtain ⟨p2, q2⟩ := res_ok so ry hc.2
      refine ⟨_, _, by rw [hK]; exact p1, by rw [hK]; exact p2, q1 (by decide), q2 (by decide), ?_⟩
      rw [eqv_of deep _ _ hc.1 hc.2]
      exact h io H Grow.refl so _ (.bl _)
    · exact h.elim
  · intro x y S
    unfold mNe
    split <;> trivial
end
end Dv
set_option Elab.async false
set_option linter.all false
set_option maxRecDepth 100000
set_option maxHeartbeats 4000000
set_option autoImplicit false
namespace Dv
open PySem PySem.Spec PyProof.Rows L2
/-! ### truth -/
def tru (S : Store) (d : Dt) : Option Bool := match d with
  | .non => some false
  | .bl b => some b
  | .int i => some (i != 0)
  | .str s => if s.length ≤ 100000 then some ((s.length : Int) != 0) else none
  | .tup ds => some (!ds.isEmpty)
  | .dct ks _ => some (!ks.isEmpty)
  | d => match asL S d with
    | some ds => some (!ds.isEmpty)
    | none => none
def mTruth (m : Env → Store → R Dt) : Env → Store → R Bool := fun e S => (m e S).bind fun d S1 => match tru S1 d with
  | some b => .ok b S1
  | none => .stuck
section
variable {G : Gv} {X : Cx} {W : WX}
theorem isEmpty_rel {G : Gv} {io : Io} {H : Hp} {ds : List Dt} {vs : List V} (r : RelDs G io H ds vs) : ds.isEmpty = vs.isEmpty := by cases r <;> rfl
theorem tru_of {io : Io} {H : Hp} {S : Store} {d : Dt} {v : V} {b : Bool} (so : StoreOk G io S H) (r : RelD G io H d v) (h : tru S d = some b) : TruV G.K v H b := by
  have ls : ∀ {d : Dt}, RelD G io H d v → (match asL S d with | some ds => some (!ds.isEmpty) | none => none) = some b → TruV G.K v H b := fun {d} r h => by
    split at h
    · rename_i ds e
      obtain ⟨a, vs, rfl, h1, h2⟩ := asL_ok so r e
      cases h
      exact .inl ⟨vs, h1, by rw [isEmpty_rel h2]⟩
    · cases h
  unfold tru at h
  split at h
  · cases r; cases h; rfl
  · cases r; cases h; rfl
  · cases r; cases h; rfl
  · cases r
    split at h
    · cases h
      exact ⟨Nat.le_trans (by assumption) (by decide), rfl⟩
    · cases h
  · cases h
    obtain ⟨a, vs, rfl, h1, h2⟩ := asT_ok r rfl
    exact .inr (.inl ⟨vs, h1, by rw [isEmpty_rel h2]⟩)
  · rename_i ks ds
    cases h
    cases r with
    | @dct a _ _ vs e n l k =>
      refine .inr (.inr ⟨_, e, ?_⟩)
      have l2 := k.length
      cases ks with
      | nil => rfl
      | cons x xs =>
        cases vs with
        | nil =>
          rw [List.length_cons] at l
          rw [List.length_nil] at l2
          omega
        | cons _ _ => rfl
  · exact ls r h
theorem simT_truth {t : TE} {m : Env → Store → R Dt} (hK : X.K = G.K) (h : SimE G W t m) : SimT G W (fun σ H Q => t σ H fun x H' => ∃ k, TruV X.K x H' k ∧ Q k H') (mTruth m) := by
  intro io H S e σ Q so re k
  refine h io H S e σ _ so re (k.bind.imp (fun _ _ _ _ z => z) fun d S1 i1 H1 g1 s1 k1 v r => ?_)
  split at k1
  · rename_i b hb
    exact ⟨b, by rw [hK]; exact tru_of s1 r hb, k1 i1 H1 Grow.refl s1⟩
  · exact k1.elim
theorem dt_truth {a : Expr} {m : Env → Store → R Dt} (ha : DE G X W a m) (hK : X.K = G.K := by rfl) (he : ∀ whole, isTrue a X.env whole = (do let v ← whole; standAt a.pos; holding [v] (truthy v)) := by intro _; rfl) : DT G X W a (mTruth m) := by
  obtain ⟨t, p, q⟩ := ha
  exact ⟨_, pt_truth p he, simT_truth hK q⟩
/-! ### and, or, not as tests -/
def mAndT (a b : Env → Store → R Bool) : Env → Store → R Bool := fun e S => (a e S).bind fun c S1 => if c = true then b e S1 else .ok false S1
def mOrT (a b : Env → Store → R Bool) : Env → Store → R Bool := fun e S => (a e S).bind fun c S1 => if c = true then .ok true S1 else b e S1
def mNotT (a : Env → Store → R Bool) : Env → Store → R Bool := fun e S => (a e S).bind fun c S1 => .ok (!c) S1
variable {a b : Expr} {rest : List Expr} {pos : Pos} {ma mb : Env → Store → R Bool}
theorem dw_and1 (h : DT G X W a ma) : DW G X W (.BoolOp .And [a] pos) ma := let ⟨_, p, q⟩ := h; ⟨_, pw_and1 p, q⟩
theorem dw_or1 (h : DT G X W a ma) : DW G X W (.BoolOp .Or [a] pos) ma := let ⟨_, p, q⟩ := h; ⟨_, pw_or1 p, q⟩
theorem dw_and (h : DT G X W a ma) (k : DW G X W (.BoolOp .And (b :: rest) pos) mb) : DW G X W (.BoolOp .And (a :: b :: rest) pos) (mAndT ma mb) := by
  obtain ⟨t, p, q⟩ := h
  obtain ⟨u, p', q'⟩ := k
  refine ⟨_, pw_and p p', fun io H S e σ Q so re h => ?_⟩
  refine q io H S e σ _ so re (h.bind.imp (fun _ _ _ _ z => z) fun c S1 i1 H1 g1 s1 k1 => ?_)
  cases c with
  | true => exact q' i1 H1 S1 e σ Q s1 (re.mono g1) k1
  | false => exact k1 i1 H1 Grow.refl s1
theorem dw_or (h : DT G X W a ma) (k : DW G X W (.BoolOp .Or (b :: rest) pos) mb) : DW G X W (.BoolOp .Or (a :: b :: rest) pos) (mOrT ma mb) := by
  obtain ⟨t, p, q⟩ := h
  obtain ⟨u, p', q'⟩ := k
  refine ⟨_, pw_or p p', fun io H S e σ Q so re h => ?_⟩
  refine q io H S e σ _ so re (h.bind.imp (fun _ _ _ _ z => z) fun c S1 i1 H1 g1 s1 k1 => ?_)
  cases c with
  | false => exact q' i1 H1 S1 e σ Q s1 (re.mono g1) k1
  | true => exact k1 i1 H1 Grow.refl s1
theorem dt_w {e : Expr} {m : Env → Store → R Bool} (h : DW G X W e m) : DT G X W e m := let ⟨_, p, q⟩ := h; ⟨_, p.pt, q⟩
theorem dt_not (h : DT G X W a ma) : DT G X W (.UnaryOp .Not a pos) (mNotT ma) := by
  obtain ⟨t, p, q⟩ := h
  refine ⟨_, pt_not p, fun io H S e σ Q so re h => ?_⟩
  exact q io H S e σ _ so re (h.bind.imp (fun _ _ _ _ z => z) fun c S1 i1 H1 g1 s1 k1 => k1 i1 H1 Grow.refl s1)
/-! ### a < b < c -/
def mChain (m m' : Dt → Dt → Store → R Dt) (ma mb mc : Env → Store → R Dt) : Env → Store → R Dt := fun e S => (ma e S).bind fun x S1 => (mb e S1).bind fun y S2 => (m x y S2).bind fun z S3 => match z with
  | .bl true => (mc e S3).bind fun w S4 => m' y w S4
  | .bl false => .ok (.bl false) S3
  | _ => .stuck
theorem simE_chain {r r' : R2} {ta tb tc : TE} {m m' : Dt → Dt → Store → R Dt} {ma mb mc : Env → Store → R Dt} (ho : SimO G r m) (hn : ∀ x y S, NoErr (m x y S)) (ho' : SimO G r' m') (hn' : ∀ x y S, NoErr (m' x y S))
    (ha : SimE G W ta ma) (hb : SimE G W tb mb) (hc : SimE G W tc mc) : SimE G W (tChain r r' ta tb tc) (mChain m m' ma mb mc) := by
  intro io H S e σ Q so re h
  refine ha io H S e σ _ so re (h.bind.imp (fun _ _ _ _ z => z) fun d S1 i1 H1 g1 s1 k1 v r1 => ?_)
  refine hb i1 H1 S1 e σ _ s1 (re.mono g1) (k1.bind.imp (fun _ _ _ _ z => z) fun d' S2 i2 H2 g2 s2 k2 v' r2 => ?_)
  refine ho i2 H2 S2 v v' d d' _ s2 (r1.mono g2) r2 ((k2.bind.noErr (hn _ _ _)).imp (fun _ _ _ _ z => z) fun z S3 i3 H3 g3 s3 k3 vz rz => ?_)
  split at k3
  · refine ⟨true, rel_bl rz, ?_⟩
    rw [if_pos rfl]
    refine hc i3 H3 S3 e σ _ s3 ((re.mono (g1.trans g2)).mono g3) (k3.bind.imp (fun _ _ _ _ z => z) fun w S4 i4 H4 g4 s4 k4 vw rw' => ?_)
    exact ho' i4 H4 S4 v' vw d' w Q s4 ((r2.mono g3).mono g4) rw' (k4.noErr (hn' _ _ _))
  · refine ⟨false, rel_bl rz, ?_⟩
    rw [if_neg Bool.false_ne_true]
    exact k3 i3 H3 Grow.refl s3 _ (.bl _)
  · exact k3.elim
theorem de_chain {op op' : CmpOp} {m m' : Dt → Dt → Store → R Dt} {ma mb mc : Env → Store → R Dt} {c : Expr} (ho : DO G X (compareOp op) m) (ho' : DO G X (compareOp op') m') (ha : DE G X W a ma) (hb : DE G X W b mb) (hc : DE G X W c mc)
    (hm : lastMarks [op, op'] [b, c] = false := by with_unfolding_all rfl) : DE G X W (.Compare a [op, op'] [b, c] pos) (mChain m m' ma mb mc) := by
  obtain ⟨r, p, q, n⟩ := ho
  obtain ⟨r', p', q', n'⟩ := ho'
  obtain ⟨ta, pa, qa⟩ := ha
  obtain ⟨tb, pb, qb⟩ := hb
  obtain ⟨tc, pc, qc⟩ := hc
  exact ⟨_, pe_chain p p' pa pb pc hm, simE_chain q n q' n' qa qb qc⟩
end
/-! ### and, or, not, if as values -/
section
variable {G : Gv} {X : Cx} {W : WX} {a b : Expr} {rest : List Expr} {pos : Pos} {ma mb : Env → Store → R Dt}
def mAndV (a b : Env → Store → R Dt) : Env → Store → R Dt := fun e S => (a e S).bind fun d S1 => match tru S1 d with
  | some true => b e S1
  | some false => .ok d S1
  | none => .stuck
def mOrV (a b : Env → Store → R Dt) : Env → Store → R Dt := fun e S => (a e S).bind fun d S1 => match tru S1 d with
  | some true => .ok d S1
  | some false => b e S1
  | none => .stuck
def mNotV (a : Env → Store → R Dt) : Env → Store → R Dt := fun e S => (a e S).bind fun d S1 => match tru S1 d with
  | some b => .ok (.bl (!b)) S1
  | none => .stuck
theorem de_one {op} (h : DE G X W a ma) : DE G X W (.BoolOp op [a] pos) ma := let ⟨_, p, q⟩ := h; ⟨_, pe_one p, q⟩
theorem de_and (h : DE G X W a ma) (k : DE G X W (.BoolOp .And (b :: rest) pos) mb) (hK : X.K = G.K := by rfl) : DE G X W (.BoolOp .And (a :: b :: rest) pos) (mAndV ma mb) := by
  obtain ⟨t, p, q⟩ := h
  obtain ⟨u, p', q'⟩ := k
  refine ⟨_, pe_andT p p', fun io H S e σ Q so re h => ?_⟩
  refine q io H S e σ _ so re (h.bind.imp (fun _ _ _ _ z => z) fun d S1 i1 H1 g1 s1 k1 v r => ?_)
  split at k1
  · rename_i hb
    refine ⟨true, by rw [hK]; exact tru_of s1 r hb, ?_⟩
    rw [if_pos rfl]
    exact q' i1 H1 S1 e σ Q s1 (re.mono g1) k1
  · rename_i hb
    refine ⟨false, by rw [hK]; exact tru_of s1 r hb, ?_⟩
    rw [if_neg Bool.false_ne_true]
    exact k1 i1 H1 Grow.refl s1 _ r
  · exact k1.elim
theorem de_not (h : DE G X W a ma) (hK : X.K = G.K := by rfl) : DE G X W (.UnaryOp .Not a pos) (mNotV ma) := by
  obtain ⟨t, p, q⟩ := h
  refine ⟨_, pe_notT p, fun io H S e σ Q so re h => ?_⟩
  refine q io H S e σ _ so re (h.bind.imp (fun _ _ _ _ z => z) fun d S1 i1 H1 g1 s1 k1 v r => ?_)
  split at k1
  · rename_i c hb
    exact ⟨c, by rw [hK]; exact tru_of s1 r hb, k1 i1 H1 Grow.refl s1 _ (.bl _)⟩
  · exact k1.elim
def mIf (c : Env → Store → R Bool) (a b : Env → Store → R Dt) : Env → Store → R Dt := fun e S => (c e S).bind fun k S1 => if k = true then a e S1 else b e S1
theorem de_if {c : Expr} {mc : Env → Store → R Bool} (hc : DT G X W c mc) (ha : DE G X W a ma) (hb : DE G X W b mb) : DE G X W (.IfExp c a b pos) (mIf mc ma mb) := by
  obtain ⟨t, p, q⟩ := hc
  obtain ⟨ta, pa, qa⟩ := ha
  obtain ⟨tb, pb, qb⟩ := hb
  refine ⟨_, pe_ifExp p pa pb, fun io H S e σ Q so re h => ?_⟩
  refine q io H S e σ _ so re (h.bind.imp (fun _ _ _ _ z => z) fun c S1 i1 H1 g1 s1 k1 => ?_)
  cases c with
  | true => exact qa i1 H1 S1 e σ Q s1 (re.mono g1) k1
  | false => exact qb i1 H1 S1 e σ Q s1 (re.mono g1) k1
/-- -a -/
def mNeg (a : Env → Store → R Dt) : Env → Store → R Dt := fun e S => (a e S).bind fun d S1 => match d with
  | .int i => .ok (.int (-i)) S1
  | _ => .stuck
theorem de_neg (h : DE G X W a ma) : DE G X W (.UnaryOp .USub a pos) (mNeg ma) := by
  obtain ⟨t, p, q⟩ := h
  refine ⟨_, pe_un un_neg p, fun io H S e σ Q so re h => ?_⟩
  refine q io H S e σ _ so re (h.bind.imp (fun _ _ _ _ z => z) fun d S1 i1 H1 g1 s1 k1 v r => ?_)
  cases r with
  | int i => exact ⟨i, rfl, k1 i1 H1 Grow.refl s1 _ (.int _)⟩
  | _ => exact k1.elim
end
/-! ### displays -/
section
variable {G : Gv} {X : Cx} {W : WX} {es : List Expr} {pos : Pos} {ms : Env → Store → R (List Dt)}
def mTup (m : Env → Store → R (List Dt)) : Env → Store → R Dt := fun e S => (m e S).bind fun ds S1 => if ds.length ≤ 1000 then .ok (.tup ds) S1 else .stuck
def mLst (m : Env → Store → R (List Dt)) : Env → Store → R Dt := fun e S => (m e S).bind fun ds S1 => if ds.length ≤ 1000 then .ok (.lst ds) S1 else .stuck
/-- a list that will change: an object of the store -/
def mLstR (m : Env → Store → R (List Dt)) : Env → Store → R Dt := fun e S => (m e S).bind fun ds S1 => if ds.length ≤ 1000 then .ok (.ref S1.length) (S1 ++ [.lst ds]) else .stuck
theorem de_tup {x1} (h : DA G X W es ms) : DE G X W (.Tuple es x1 pos) (mTup ms) := by
  obtain ⟨t, p, q⟩ := h
  refine ⟨_, pe_tup p, fun io H S e σ Q so re h => ?_⟩
  refine q io H S e σ _ so re (h.bind.imp (fun _ _ _ _ z => z) fun ds S1 i1 H1 g1 s1 k1 vs r => ?_)
  split at k1
  · rename_i hl
    exact ⟨by rw [← r.length]; exact Nat.le_trans hl (by decide), fun p hp => out_tup s1 r k1 hp⟩
  · exact k1.elim
theorem de_lst (h : DA G X W es ms) : DE G X W (.List es pos) (mLst ms) := by
  obtain ⟨t, p, q⟩ := h
  refine ⟨_, pe_lst p, fun io H S e σ Q so re h => ?_⟩
  refine q io H S e σ _ so re (h.bind.imp (fun _ _ _ _ z => z) fun ds S1 i1 H1 g1 s1 k1 vs r => ?_)
  split at k1
  · rename_i hl
    exact ⟨by rw [← r.length]; exact Nat.le_trans hl (by decide), fun p hp => out_lst s1 r k1 hp⟩
  · exact k1.elim
theorem de_lstR (h : DA G X W es ms) : DE G X W (.List es pos) (mLstR ms) := by
  obtain ⟨t, p, q⟩ := h
  refine ⟨_, pe_lst p, fun io H S e σ Q so re h => ?_⟩
  refine q io H S e σ _ so re (h.bind.imp (fun _ _ _ _ z => z) fun ds S1 i1 H1 g1 s1 k1 vs r => ?_)
  split at k1
  · rename_i hl
    exact ⟨by rw [← r.length]; exact Nat.le_trans hl (by decide), fun p hp => out_ref s1 r k1 hp⟩
  · exact k1.elim
end
/-! ### subscripts -/
theorem rel_at {G : Gv} {io : Io} {H : Hp} {ds : List Dt} {vs : List V} {i : Int} {d : Dt} (r : RelDs G io H ds vs) (h : atI ds i = some d) : ∃ v, atI vs i = some v ∧ RelD G io H d v := by
  unfold atI at h ⊢
  rw [← r.length]
  cases e : ixN ds.length i with
  | none => rw [e] at h; cases h
  | some j =>
    rw [e] at h
    exact r.get h
def ixD (S : Store) (x : Dt) (i : Int) : Option Dt := match x with
  | .tup ds => atI ds i
  | .str s => if s.length ≤ 100000 then (atI s.cps.toList i).map fun c => .str ⟨#[c]⟩ else none
  | x => (asL S x).bind fun ds => atI ds i
def mIx (x y : Dt) (S : Store) : R Dt := match y with
  | .int i => match ixD S x i with
    | some d => .ok d S
    | none => .stuck
  | _ => .stuck
section
variable {G : Gv} {X : Cx} {W : WX} {a b : Expr} {pos : Pos} {ma mb : Env → Store → R Dt}
theorem sim_ix (hK : X.K = G.K) : SimO G (rIx X.K) mIx := by
  intro io H S x y dx dy Q so rx ry h
  unfold mIx at h
  split at h
  · rename_i i
    split at h
    · rename_i d hd
      cases ry
      have ls : ∀ {dx : Dt}, RelD G io H dx x → (asL S dx).bind (fun ds => atI ds i) = some d → rIx X.K x (.int i) H Q := fun {dx} r h' => by
        cases e : asL S dx with
        | none => rw [e] at h'; cases h'
        | some ds =>
          rw [e] at h'
          obtain ⟨p, vs, rfl, h1, h2⟩ := asL_ok so r e
          obtain ⟨v, e1, e2⟩ := rel_at h2 h'
          exact .inl ⟨p, vs, i, v, rfl, rfl, by rw [hK]; exact h1, e1, h io H Grow.refl so v e2⟩
      unfold ixD at hd
      split at hd
      · obtain ⟨p, vs, rfl, h1, h2⟩ := asT_ok rx rfl
        obtain ⟨v, e1, e2⟩ := rel_at h2 hd
        exact .inr (.inl ⟨p, vs, i, v, rfl, rfl, by rw [hK]; exact h1, e1, h io H Grow.refl so v e2⟩)
      · split at hd
        · rename_i s hl
          cases rx
          cases e : atI s.cps.toList i with
          | none => rw [e] at hd; cases hd
          | some c =>
            rw [e] at hd
            cases hd
            exact .inr (.inr ⟨s, i, c, rfl, rfl, Nat.le_trans hl (by decide), e, h io H Grow.refl so _ (.str _)⟩)
        · cases hd
      · exact ls rx hd
    · exact h.elim
  · exact h.elim
theorem noErr_ix (x y : Dt) (S : Store) : NoErr (mIx x y S) := by
  unfold mIx
  repeat' split
  all_goals trivial
theorem de_ix (ha : DE G X W a ma) (hb : DE G X W b mb) (hK : X.K = G.K := by rfl) (hs : PlainIx b := by exact fun _ _ => rfl) : DE G X W (.Subscript a b pos) (mOp mIx ma mb) := by
  obtain ⟨ta, pa, qa⟩ := ha
  obtain ⟨tb, pb, qb⟩ := hb
  exact ⟨_, pe_ix ix_seq pa pb hs, simE_op (sim_ix hK) noErr_ix qa qb⟩
/-- a slice's parts -/
def DP (G : Gv) (X : Cx) (W : WX) (e : Option Expr) (m : Env → Store → R (Option Int)) : Prop := ∃ t, PO X e t ∧ ∀ io H S e σ Q, StoreOk G io S H → RelEnv G io H e σ → Out G io H (wxE G W σ) (fun o _ _ H' => Q o H') (m e S) → t σ H Q
def mNoPart : Env → Store → R (Option Int) := fun _ S => .ok none S
def mPart (m : Env → Store → R Dt) : Env → Store → R (Option Int) := fun e S => (m e S).bind fun d S1 => match d with
  | .int i => .ok (some i) S1
  | _ => .stuck
theorem dp_none : DP G X W none mNoPart := ⟨_, po_none, fun io H S e σ Q so re h => h io H Grow.refl so⟩
theorem dp_some (ha : DE G X W a ma) : DP G X W (some a) (mPart ma) := by
  obtain ⟨t, p, q⟩ := ha
  refine ⟨_, po_some p, fun io H S e σ Q so re h => ?_⟩
  refine q io H S e σ _ so re (h.bind.imp (fun _ _ _ _ z => z) fun d S1 i1 H1 g1 s1 k1 v r => ?_)
  cases r with
  | int i => exact ⟨i, rfl, k1 i1 H1 Grow.refl s1⟩
  | _ => exact k1.elim
/-- the items of xs[lo:hi] -/
def cutA {α : Type} (xs : List α) (lo hi : Option Int) : List α := (xs.drop (HT.sIx xs.length 0 lo)).take (HT.sIx xs.length xs.length hi - HT.sIx xs.length 0 lo)
theorem rel_cut {G : Gv} {io : Io} {H : Hp} {ds : List Dt} {vs : List V} {lo hi : Option Int} (r : RelDs G io H ds vs) : RelDs G io H (cutA ds lo hi) (cutV vs lo hi) := by
  unfold cutA cutV
  rw [← r.length]
  exact (r.drop _).take _
def slD (S : Store) (x : Dt) (lo hi : Option Int) : Option Dt := match x with
  | .tup ds => some (.tup (cutA ds lo hi))
  | x => (asL S x).map fun ds => .lst (cutA ds lo hi)
def mSl (m : Env → Store → R Dt) (ml mh : Env → Store → R (Option Int)) : Env → Store → R Dt := fun e S => (m e S).bind fun x S1 => (ml e S1).bind fun l S2 => (mh e S2).bind fun h S3 => match slD S3 x l h with
  | some d => .ok d S3
  | none => .stuck
theorem cut_whole {α : Type} {xs : List α} {lo hi : Option Int} (h : HT.sIx xs.length 0 lo = 0 ∧ HT.sIx xs.length xs.length hi = xs.length) : cutA xs lo hi = xs := by
  unfold cutA
  rw [h.1, h.2]
  simp
theorem de_sl {lo hi : Option Expr} {p2 : Pos} {ml mh : Env → Store → R (Option Int)} (ha : DE G X W a ma) (hl : DP G X W lo ml) (hh : DP G X W hi mh) (hK : X.K = G.K := by rfl) : DE G X W (.Subscript a (.Slice lo hi none p2) pos) (mSl ma ml mh) := by
  obtain ⟨ta, pa, qa⟩ := ha
  obtain ⟨tl, pl, ql⟩ := hl
  obtain ⟨th, ph, qh⟩ := hh
  refine ⟨_, pe_slice (sl_list.or sl_tupA) pa pl ph, fun io H S e σ Q so re h => ?_⟩
  refine qa io H S e σ _ so re (h.bind.imp (fun _ _ _ _ z => z) fun x S1 i1 H1 g1 s1 k1 v rx => ?_)
  refine ql i1 H1 S1 e σ _ s1 (re.mono g1) (k1.bind.imp (fun _ _ _ _ z => z) fun l S2 i2 H2 g2 s2 k2 => ?_)
  refine qh i2 H2 S2 e σ _ s2 ((re.mono g1).mono g2) (k2.bind.imp (fun _ _ _ _ z => z) fun u S3 i3 H3 g3 s3 k3 => ?_)
  have rx3 := (rx.mono g2).mono g3
  split at k3
  · rename_i d hd
    unfold slD at hd
    split at hd
    · rename_i ds
      cases hd
      obtain ⟨p, vs, rfl, h1, h2⟩ := asT_ok rx3 rfl
      refine .inr ⟨p, vs, rfl, by rw [hK]; exact h1, fun hw => ?_, fun _ q hq => out_tup s3 (rel_cut h2) k3 hq⟩
      rw [← h2.length] at hw
      rw [cut_whole hw] at k3
      exact k3 i3 H3 Grow.refl s3 _ rx3
    · rename_i x' hne
      cases el : asL S3 x with
      | none => rw [el] at hd; cases hd
      | some ds =>
        rw [el] at hd
        cases hd
        obtain ⟨p, vs, rfl, h1, h2⟩ := asL_ok s3 rx3 el
        exact .inl ⟨p, vs, rfl, by rw [hK]; exact h1, fun q hq => out_lst s3 (rel_cut h2) k3 hq⟩
  · exact k3.elim
end
/-! ### built-in functions -/
def SimC (G : Gv) (r : List V → Hp → VK → Prop) (m : List Dt → Store → R Dt) : Prop := ∀ io H S ds vs Q, StoreOk G io S H → RelDs G io H ds vs → Out G io H (fun _ _ _ => False) (poE G Q) (m ds S) → r vs H Q
def DC (G : Gv) (X : Cx) (f : Value) (m : List Dt → Store → R Dt) : Prop := ∃ r, CallR X f r ∧ SimC G r m ∧ ∀ ds S, NoErr (m ds S)
def mCB (m : List Dt → Store → R Dt) (ma : Env → Store → R (List Dt)) : Env → Store → R Dt := fun e S => (ma e S).bind m
section
variable {G : Gv} {X : Cx} {W : WX} {e : Expr} {es : List Expr} {x : Str} {p pos : Pos} {ms : Env → Store → R (List Dt)} {id T : String} {m : List Dt → Store → R Dt}
theorem de_callB (hc : DC G X (.builtin id) m) (hg : Gl X x) (hm : X.mg x = none) (hv : bootBuiltins x = some (.builtin id)) (ha : DA G X W (e :: es) ms) (hn : x ≠ "__name__" := by decide) (hdb : (x == ("__debug__" : Str)) = false := by decide)
    (he : starEach (e :: es) X.env = (false, eval e X.env) :: starEach es X.env := by rfl) (hpl : (backTo pos (starEach es X.env)).any (·.1) = false := by rfl) : DE G X W (.Call (.Name x p) (e :: es) [] pos) (mCB m ms) := by
  obtain ⟨r, p1, q1, n1⟩ := hc
  obtain ⟨t, p2, q2⟩ := ha
  refine ⟨_, pe_callB p1 hg hm hv p2 hn hdb he hpl, fun io H S e σ Q so re h => ?_⟩
  exact q2 io H S e σ _ so re (h.bind.imp (fun _ _ _ _ z => z) fun ds S1 i1 H1 g1 s1 k1 vs r => q1 i1 H1 S1 ds vs Q s1 r (k1.noErr (n1 _ _)))
theorem de_callTy (hc : DC G X (.type T) m) (hg : Gl X x) (hm : X.mg x = none) (hv : bootBuiltins x = some (.type T)) (ha : DA G X W (e :: es) ms) (hn : x ≠ "__name__" := by decide) (hdb : (x == ("__debug__" : Str)) = false := by decide)
    (he : starEach (e :: es) X.env = (false, eval e X.env) :: starEach es X.env := by rfl) (hpl : (backTo pos (starEach es X.env)).any (·.1) = false := by rfl) : DE G X W (.Call (.Name x p) (e :: es) [] pos) (mCB m ms) := by
  obtain ⟨r, p1, q1, n1⟩ := hc
  obtain ⟨t, p2, q2⟩ := ha
  refine ⟨_, pe_callTy p1 hg hm hv p2 hn hdb he hpl, fun io H S e σ Q so re h => ?_⟩
  exact q2 io H S e σ _ so re (h.bind.imp (fun _ _ _ _ z => z) fun ds S1 i1 H1 g1 s1 k1 vs r => q1 i1 H1 S1 ds vs Q s1 r (k1.noErr (n1 _ _)))
def mAbs (ds : List Dt) (S : Store) : R Dt := match ds with
  | [.int i] => .ok (.int (if i < 0 then -i else i)) S
  | _ => .stuck
theorem dc_abs : DC G X (.builtin "abs") mAbs := by
  refine ⟨_, call_abs, ?_, ?_⟩
  · intro io H S ds vs Q so r h
    unfold mAbs at h
    split at h
    · cases r with
      | cons r1 r2 =>
        cases r1
        cases r2
        exact ⟨_, rfl, h io H Grow.refl so _ (.int _)⟩
    · exact h.elim
  · intro ds S
    unfold mAbs
    split <;> trivial
def lenD (S : Store) (d : Dt) : Option Nat := match d with
  | .tup ds => some ds.length
  | .str s => if s.length ≤ 100000 then some s.length else none
  | d => (asL S d).map List.length
def mLen (ds : List Dt) (S : Store) : R Dt := match ds with
  | [d] => match lenD S d with
    | some n => .ok (.int n) S
    | none => .stuck
  | _ => .stuck
theorem dc_len (hK : X.K = G.K := by rfl) : DC G X (.builtin "len") mLen := by
  refine ⟨_, (call_len_seq (X := X)).or call_len_str, ?_, ?_⟩
  · intro io H S ds vs Q so r h
    unfold mLen at h
    split at h
    · rename_i d
      cases r with
      | cons r1 r2 =>
        cases r2
        split at h
        · rename_i n hn
          unfold lenD at hn
          split at hn
          · cases hn
            obtain ⟨p, us, rfl, h1, h2⟩ := asT_ok r1 rfl
            refine .inl ⟨p, us, rfl, .inr (by rw [hK]; exact h1), ?_⟩
            rw [← h2.length]
            exact h io H Grow.refl so _ (.int _)
          · split at hn
            · rename_i hl
              cases hn
              cases r1
              exact .inr ⟨_, rfl, Nat.le_trans hl (by decide), h io H Grow.refl so _ (.int _)⟩
            · cases hn
          · cases el : asL S d with
            | none => rw [el] at hn; cases hn
            | some ds =>
              rw [el] at hn
              cases hn
              obtain ⟨p, us, rfl, h1, h2⟩ := asL_ok so r1 el
              refine .inl ⟨p, us, rfl, .inl (by rw [hK]; exact h1), ?_⟩
              rw [← h2.length]
              exact h io H Grow.refl so _ (.int _)
        · exact h.elim
    · exact h.elim
  · intro ds S
    unfold mLen
    repeat' split
    all_goals trivial
def asS (S : Store) (d : Dt) : Option (List Dt) := match d with
  | .tup ds => some ds
  | d => asL S d
theorem asS_ok {io : Io} {H : Hp} {S : Store} {d : Dt} {ds : List Dt} {v : V} (so : StoreOk G io S H) (r : RelD G io H d v) (h : asS S d = some ds) : ∃ a vs, v = .ref a ∧ (SqL G.K H a vs ∨ SqT G.K H a vs) ∧ RelDs G io H ds vs := by
  unfold asS at h
  split at h
  · obtain ⟨a, vs, h1, h2, h3⟩ := asT_ok r h
    exact ⟨a, vs, h1, .inr h2, h3⟩
  · obtain ⟨a, vs, h1, h2, h3⟩ := asL_ok so r h
    exact ⟨a, vs, h1, .inl h2, h3⟩
/-- list(xs): by value; an object of the store -/
def mList (ds : List Dt) (S : Store) : R Dt := match ds with
  | [d] => match asS S d with
    | some ds => .ok (.lst ds) S
    | none => .stuck
  | _ => .stuck
def mListR (ds : List Dt) (S : Store) : R Dt := match ds with
  | [d] => match asS S d with
    | some ds => .ok (.ref S.length) (S ++ [.lst ds])
    | none => .stuck
  | _ => .stuck
theorem dc_list (hK : X.K = G.K := by rfl) : DC G X (.type "list") mList := by
  refine ⟨_, call_list_of, ?_, ?_⟩
  · intro io H S ds vs Q so r h
    unfold mList at h
    split at h
    · cases r with
      | cons r1 r2 =>
        cases r2
        split at h
        · rename_i es he
          obtain ⟨a, us, rfl, h1, h2⟩ := asS_ok so r1 he
          exact ⟨a, us, rfl, by rw [hK]; exact h1, fun l hl => out_lst so h2 h hl⟩
        · exact h.elim
    · exact h.elim
  · intro ds S
    unfold mList
    repeat' split
    all_goals trivial
def mTuple (ds : List Dt) (S : Store) : R Dt := match ds with
  | [d] => match asS S d with
    | some ds => .ok (.tup ds) S
    | none => .stuck
  | _ => .stuck
theorem dc_tuple (hK : X.K = G.K := by rfl) : DC G X (.type "tuple") mTuple := by
  refine ⟨_, call_tuple_of, ?_, ?_⟩
  · intro io H S ds vs Q so r h
    unfold mTuple at h
    split at h
    · rename_i d
      cases r with
      | cons r1 r2 =>
        cases r2
        split at h
        · rename_i es he
          unfold asS at he
          split at he
          · cases he
            obtain ⟨a, us, rfl, h1, h2⟩ := asT_ok r1 rfl
            exact ⟨a, us, rfl, .inr ⟨by rw [hK]; exact h1, h io H Grow.refl so _ r1⟩⟩
          · obtain ⟨a, us, rfl, h1, h2⟩ := asL_ok so r1 he
            exact ⟨a, us, rfl, .inl ⟨by rw [hK]; exact h1, fun l hl => out_tup so h2 h hl⟩⟩
        · exact h.elim
    · exact h.elim
  · intro ds S
    unfold mTuple
    repeat' split
    all_goals trivial
/-- all, any, sum of a list -/
def bools : List Dt → Option (List Bool)
  | [] => some []
  | .bl b :: r => (bools r).map (b :: ·)
  | _ => none
theorem bools_ok {io : Io} {H : Hp} : ∀ {ds : List Dt} {vs : List V} {bs : List Bool}, RelDs G io H ds vs → bools ds = some bs → vs = bs.map V.bl
  | [], _, _, r, h => by cases r; cases h; rfl
  | d :: ds, _, bs, r, h => by
    cases r with
    | cons r1 r2 =>
      cases r1 with
      | bl b =>
        simp only [bools] at h
        cases e : bools ds with
        | none => rw [e] at h; cases h
        | some cs =>
          rw [e] at h
          cases h
          rw [bools_ok r2 e]
          rfl
      | _ => cases h
def mAll (ds : List Dt) (S : Store) : R Dt := match ds with
  | [d] => match (asL S d).bind bools with
    | some bs => .ok (.bl (bs.all fun b => b)) S
    | none => .stuck
  | _ => .stuck
theorem dc_all (hc : X.calm = true := by rfl) (hK : X.K = G.K := by rfl) : DC G X (.builtin "all") mAll := by
  refine ⟨_, cr_all hc, ?_, ?_⟩
  · intro io H S ds vs Q so r h
    unfold mAll at h
    split at h
    · rename_i d
      cases r with
      | cons r1 r2 =>
        cases r2
        split at h
        · rename_i bs hb
          cases el : asL S d with
          | none => rw [el] at hb; cases hb
          | some es =>
            rw [el] at hb
            obtain ⟨a, us, rfl, h1, h2⟩ := asL_ok so r1 el
            have e := bools_ok h2 hb
            subst e
            refine ⟨a, bs, rfl, by rw [hK]; exact h1, ?_⟩
            have e2 : bs.all (fun b => b) = bs.all id := rfl
            rw [e2] at h
            exact h io H Grow.refl so _ (.bl _)
        · exact h.elim
    · exact h.elim
  · intro ds S
    unfold mAll
    repeat' split
    all_goals trivial
end
end Dv
set_option Elab.async false
set_option linter.all false
set_option maxRecDepth 100000
set_option maxHeartbeats 4000000
set_option autoImplicit false
namespace Dv
open PySem PySem.Spec PyProof.Rows L2
/-! ### isinstance -/
/-- what isinstance asks of the text's own classes -/
structure ClsOk (G : Gv) : Prop where
  cls : ∀ c C, G.cl c = some C → Cls G.K C
  ha : ∀ c C, G.cl c = some C → PySem.W.findIn G.K (.ref C) "__class__" = some (some (.builtin "object.__class__"))
  hn : PySem.W.specialIn G.K (.builtin "object.__class__") "__get__" = some (some (.builtin "getset_descriptor.__get__")) ∨ ∀ c, G.cl c = none
  htk : PySem.W.takesIn G.K (.builtin "object.__class__") = some true ∨ ∀ c, G.cl c = none
  hm : ∀ c C, G.cl c = some C → PySem.W.mroIn G.K C (.type "object") = some true
  tyOwn : ∀ c C, G.cl c = some C → ∀ t ∈ tys, PySem.W.kitOne G.K (.type t) (.ref C) = some false
  ownTy : ∀ c C, G.cl c = some C → ∀ t ∈ clss, PySem.W.kitOne G.K (.ref C) (.type t) = some false
  ownOwn : ∀ c C d D, G.cl c = some C → G.cl d = some D → PySem.W.kitOne G.K (.ref C) (.ref D) = some (c == d)
theorem ClsOk.none {G : Gv} (h : ∀ c, G.cl c = none) : ClsOk G := by
  have z : ∀ {P : Prop} {c : String} {C : Addr}, G.cl c = some C → P := fun {P c C} e => by
    rw [h] at e
    cases e
  exact ⟨fun _ _ e => z e, fun _ _ e => z e, .inr h, .inr h, fun _ _ e => z e, fun _ _ e => z e, fun _ _ e => z e, fun _ _ _ _ e => z e⟩
theorem ClsOk.tyOf {G : Gv} (o : ClsOk G) {H : Hp} {a C dx : Addr} {fs : List (Str × V)} {c : String} (h : G.cl c = some C) (e : H a = some (.ins C dx fs)) : TyOf G.K H (.ref a) (.ref C) := by
  have n1 := o.hn.resolve_right fun z => by rw [z] at h; cases h
  have n2 := o.htk.resolve_right fun z => by rw [z] at h; cases h
  exact .ins e (o.cls c C h) (o.ha c C h) n1 n2 (o.hm c C h)
/-- the type of a value: a built-in one, or an own class -/
def tyS (S : Store) (d : Dt) : Option (String ⊕ String) := match d with
  | .non => some (.inl "NoneType")
  | .bl _ => some (.inl "bool")
  | .int _ => some (.inl "int")
  | .str _ => some (.inl "str")
  | .tup _ => some (.inl "tuple")
  | .lst _ => some (.inl "list")
  | .dct _ _ => some (.inl "dict")
  | .ins c _ _ => some (.inr c)
  | .ref i => match S[i]? with
    | some (.lst _) => some (.inl "list")
    | some (.dct _ _) => some (.inl "dict")
    | some (.ins c _ _) => some (.inr c)
    | some (.dkt _ _) => none
    | none => none
  | _ => none
def isiB (t c : String) : Bool := t == c || t == "bool" && c == "int"
theorem kit_isiB {K : PySem.W.Frag} {t c : String} (ht : t ∈ tys) (hc : c ∈ clss) : PySem.W.kitOne K (.type t) (.type c) = some (isiB t c) := by
  have all : (tys.all fun t => clss.all fun c => decide (kitB t c = some (isiB t c))) = true := by decide +kernel
  rw [List.all_eq_true] at all
  have z := List.all_eq_true.mp (all t ht) c hc
  exact kit_ty (of_decide_eq_true z)
def isiT (t : String ⊕ String) (c : Dt) : Option Bool := match t, c with
  | .inl t, .ty n => if n ∈ clss then some (isiB t n) else none
  | .inl _, .cls _ => some false
  | .inr _, .ty n => if n ∈ clss then some false else none
  | .inr c, .cls d => some (c == d)
  | _, _ => none
def isiAny (t : String ⊕ String) : List Dt → Option Bool
  | [] => some false
  | c :: r => match isiT t c with
    | some true => (isiAny t r).map fun _ => true
    | some false => isiAny t r
    | none => none
def mIsi (ds : List Dt) (S : Store) : R Dt := match ds with
  | [x, .tup cs] => match (tyS S x).bind fun t => isiAny t cs with
    | some b => .ok (.bl b) S
    | none => .stuck
  | [x, c] => match (tyS S x).bind fun t => isiT t c with
    | some b => .ok (.bl b) S
    | none => .stuck
  | _ => .stuck
/-- a type as a value of the model -/
inductive TyV (G : Gv) : String ⊕ String → Value → Prop
  | b {t : String} : t ∈ tys → TyV G (.inl t) (.type t)
  | own {c : String} {C : Addr} : G.cl c = some C → TyV G (.inr c) (.ref C)
section
variable {G : Gv} {X : Cx} {W : WX} {io : Io} {H : Hp} {S : Store}
theorem tyS_ok (o : ClsOk G) {d : Dt} {v : V} {t : String ⊕ String} (so : StoreOk G io S H) (r : RelD G io H d v) (h : tyS S d = some t) : ∃ u, TyV G t u ∧ TyX G.K H v u := by
  cases r with
  | non => cases h; exact ⟨_, .b (by decide), .base .non⟩
  | bl b => cases h; exact ⟨_, .b (by decide), .base (.bl b)⟩
  | int i => cases h; exact ⟨_, .b (by decide), .base (.int i)⟩
  | str s => cases h; exact ⟨_, .b (by decide), .base (.str s)⟩
  | tup e _ =>
    cases h
    rcases e with ⟨e, _⟩ | ⟨⟨o, its, n, h1, h2, _⟩, _⟩
    · exact ⟨_, .b (by decide), .base (.tup e)⟩
    · exact ⟨_, .b (by decide), .kTuple h1 h2⟩
  | lst e _ _ => cases h; exact ⟨_, .b (by decide), .base (.lst e)⟩
  | dct e _ _ _ => cases h; exact ⟨_, .b (by decide), .base (.dK e)⟩
  | ins e n c l k => cases h; exact ⟨_, .own c, .base (o.tyOf c e)⟩
  | @ref a i e =>
    unfold tyS at h
    dsimp only at h
    split at h
    · rename_i hs
      obtain ⟨a', h1, h2⟩ := so.at_ hs
      rw [e] at h1
      cases h1
      cases h
      cases h2 with
      | lst e1 _ => exact ⟨_, .b (by decide), .base (.lst e1)⟩
    · rename_i hs
      obtain ⟨a', h1, h2⟩ := so.at_ hs
      rw [e] at h1
      cases h1
      cases h
      cases h2 with
      | dct e1 _ _ => exact ⟨_, .b (by decide), .base (.dK e1)⟩
    · rename_i hs
      obtain ⟨a', h1, h2⟩ := so.at_ hs
      rw [e] at h1
      cases h1
      cases h
      cases h2 with
      | ins e1 c _ _ => exact ⟨_, .own c, .base (o.tyOf c e1)⟩
    · cases h
    · cases h
  | _ => cases h
theorem isiT_ok (o : ClsOk G) {t : String ⊕ String} {u : Value} {c : Dt} {vc : V} {b : Bool} (ht : TyV G t u) (r : RelD G io H c vc) (h : isiT t c = some b) : ∃ uc, ClsV vc uc ∧ PySem.W.kitOne G.K u uc = some b := by
  cases r with
  | ty n =>
    refine ⟨_, .ty n, ?_⟩
    cases ht with
    | b ht =>
      unfold isiT at h
      dsimp only at h
      split at h
      · rename_i hc
        cases h
        exact kit_isiB ht hc
      · cases h
    | own hc =>
      unfold isiT at h
      dsimp only at h
      split at h
      · rename_i hn
        cases h
        exact o.ownTy _ _ hc _ hn
      · cases h
  | @cls c C hC =>
    refine ⟨_, .own C, ?_⟩
    cases ht with
    | b ht =>
      cases h
      exact o.tyOwn _ _ hC _ ht
    | own hc =>
      cases h
      exact o.ownOwn _ _ _ _ hc hC
  | _ => cases ht <;> cases h
theorem isiAny_ok (o : ClsOk G) {t : String ⊕ String} {u : Value} (ht : TyV G t u) : ∀ {cs : List Dt} {vs : List V} {b : Bool}, RelDs G io H cs vs → isiAny t cs = some b → ∃ us, Paired ClsV vs us ∧ PySem.W.kitAny G.K u us = some b
  | [], _, b, r, h => by
    cases r
    cases h
    exact ⟨[], .nil, rfl⟩
  | c :: cs, _, b, r, h => by
    cases r with
    | cons r1 r2 =>
      unfold isiAny at h
      split at h
      · rename_i e1
        cases e : isiAny t cs with
        | none => rw [e] at h; cases h
        | some b' =>
          rw [e] at h
          cases h
          obtain ⟨uc, h1, h2⟩ := isiT_ok o ht r1 e1
          obtain ⟨us, h3, _⟩ := isiAny_ok o ht r2 e
          exact ⟨uc :: us, .cons h1 h3, kitAny_cons h2 (fun z => by cases z) fun _ => rfl⟩
      · rename_i e1
        obtain ⟨uc, h1, h2⟩ := isiT_ok o ht r1 e1
        obtain ⟨us, h3, h4⟩ := isiAny_ok o ht r2 h
        exact ⟨uc :: us, .cons h1 h3, kitAny_cons h2 (fun _ => h4) fun z => by cases z⟩
      · cases h
theorem dc_isi (o : ClsOk G) (hK : X.K = G.K := by rfl) : DC G X (.builtin "isinstance") mIsi := by
  refine ⟨_, ((call_isi (X := X)).or call_isiT).or call_isiK, ?_, ?_⟩
  · intro io H S ds vs Q so r h
    rw [hK]
    unfold mIsi at h
    split at h
    · rename_i x cs
      cases r with
      | cons r1 r2 =>
        cases r2 with
        | cons r2 r3 =>
          cases r3
          split at h
          · rename_i b hb
            cases et : tyS S x with
            | none => rw [et] at hb; cases hb
            | some t =>
              rw [et] at hb
              obtain ⟨u, h1, h2⟩ := tyS_ok o so r1 et
              cases r2 with
              | @tup a _ us e rs =>
                obtain ⟨ws, h3, h4⟩ := isiAny_ok o h1 rs hb
                have q := h io H Grow.refl so _ (.bl b)
                rcases e with ⟨e, _⟩ | ⟨⟨ob, its, n, k1, k2, k3, k4, k5⟩, _⟩
                · exact .inl (.inr ⟨_, _, _, _, _, b, rfl, e, h3, h2, h4, q⟩)
                · obtain ⟨oc, od, dt, sl⟩ := ob
                  simp only at k2 k3
                  subst k2 k3
                  have e3 := ClsV.all h3 k5
                  subst e3
                  exact .inr ⟨_, _, od, its.toList, n, sl, _, b, rfl, by simpa using k1, h2, h4, q⟩
          · exact h.elim
    · rename_i x c hne
      cases r with
      | cons r1 r2 =>
        cases r2 with
        | cons r2 r3 =>
          cases r3
          split at h
          · rename_i b hb
            cases et : tyS S x with
            | none => rw [et] at hb; cases hb
            | some t =>
              rw [et] at hb
              obtain ⟨u, h1, h2⟩ := tyS_ok o so r1 et
              obtain ⟨uc, h3, h4⟩ := isiT_ok o h1 r2 hb
              exact .inl (.inl ⟨_, _, _, _, b, rfl, h3, h2, h4, h io H Grow.refl so _ (.bl b)⟩)
          · exact h.elim
    · exact h.elim
  · intro ds S
    unfold mIsi
    repeat' split
    all_goals trivial
end
/-! ### statements -/
def R.toS {α : Type} (r : R α) (e : Env) (f : α → Store → RS) : RS := match r with
  | .ok a S => f a S
  | .err x S => .err x e S
  | .stuck => .stuck
theorem OutS.bind {G : Gv} {io : Io} {H : Hp} {α : Type} {wx : Ex → Env → Io → Hp → Prop} {post : Fl → Env → Store → Io → Hp → Prop} {r : R α} {e : Env} {f : α → Store → RS} (h : OutS G io H wx post (r.toS e f)) :
    Out G io H (fun x io' H' => wx x e io' H') (fun a S io' H' => OutS G io' H' wx post (f a S)) r := by
  cases r with
  | ok a S => exact fun io' H' g s => OutS.from g h
  | err x S => exact h
  | stuck => exact h
section
variable {G : Gv} {X : Cx} {W : WX} {e : Expr} {me : Env → Store → R Dt} {pos : Pos}
/-- a wish at the statement's slots -/
theorem wx_of {io : Io} {H : Hp} {en : Env} {σ : L2.St} (re : RelEnv G io H en σ) : ∀ x io' H', Grow io H io' H' → wxS G W x en io' H' → wxE G W σ x io' H' := fun x io' H' g z cls dx rx => z σ cls dx (re.mono g) rx
/-- targets -/
def DG (G : Gv) (X : Cx) (tg : Expr) (m : Dt → Env → Store → Option (Env × Store)) : Prop := ∃ g, PG X tg g ∧ ∀ io H S en σ d v (Q : L2.St → Hp → Prop), StoreOk G io S H → RelEnv G io H en σ → RelD G io H d v →
  (match m d en S with
    | some (e', S') => ∀ io' H', Grow io H io' H' → StoreOk G io' S' H' → ∀ σ', RelEnv G io' H' e' σ' → Q σ' H'
    | none => False) → g v σ H Q
def gNm (i : Nat) : Dt → Env → Store → Option (Env × Store) := fun d e S => some (e.set i (some d), S)
theorem dg_name {i : Nat} {x : Str} (hN : X.N.Nodup) (hi : X.N[i]? = some x) (hx : Loc X.env.scope x) (hf : X.fn x = true ∨ X.env.scope.names.lookup x = some .local := by first | exact .inl rfl | exact .inr rfl | assumption) : DG G X (.Name x pos) (gNm i) :=
  ⟨_, pg_name hN hi hx hf, fun io H S en σ d v Q so re r h => h io H Grow.refl so _ (re.set r)⟩
def DGs (G : Gv) (X : Cx) (tgs : List Expr) (m : List Dt → Env → Store → Option (Env × Store)) : Prop := ∃ g, PGs X tgs g ∧ ∀ io H S en σ ds vs (Q : L2.St → Hp → Prop), StoreOk G io S H → RelEnv G io H en σ → RelDs G io H ds vs →
  (match m ds en S with
    | some (e', S') => ∀ io' H', Grow io H io' H' → StoreOk G io' S' H' → ∀ σ', RelEnv G io' H' e' σ' → Q σ' H'
    | none => False) → g vs σ H Q
def gNil' : List Dt → Env → Store → Option (Env × Store) := fun ds e S => match ds with
  | [] => some (e, S)
  | _ => none
def gCons' (m : Dt → Env → Store → Option (Env × Store)) (ms : List Dt → Env → Store → Option (Env × Store)) : List Dt → Env → Store → Option (Env × Store) := fun ds e S => match ds with
  | d :: r => match m d e S with
    | some (e1, S1) => ms r e1 S1
    | none => none
  | [] => none
theorem dgs_nil : DGs G X [] gNil' := ⟨_, pgs_nil, fun io H S en σ ds vs Q so re r h => by
  cases r with
  | nil => exact ⟨rfl, h io H Grow.refl so _ re⟩
  | cons _ _ => exact h.elim⟩
theorem dgs_cons {tg : Expr} {tgs : List Expr} {m : Dt → Env → Store → Option (Env × Store)} {ms : List Dt → Env → Store → Option (Env × Store)} (h1 : DG G X tg m) (h2 : DGs G X tgs ms)
    (hs : (assignEach (tg :: tgs) X.env).map (·.2) = assign tg X.env :: (assignEach tgs X.env).map (·.2) := by rfl) : DGs G X (tg :: tgs) (gCons' m ms) := by
  obtain ⟨g, p, q⟩ := h1
  obtain ⟨g', p', q'⟩ := h2
  refine ⟨_, pgs_cons p p' hs, fun io H S en σ ds vs Q so re r h => ?_⟩
  cases r with
  | nil => exact h.elim
  | cons r1 r2 =>
    refine ⟨_, _, rfl, q io H S en σ _ _ _ so re r1 ?_⟩
    unfold gCons' at h
    dsimp only at h
    split
    · rename_i e1 S1 em
      rw [em] at h
      intro i1 H1 g1 s1 σ1 re1
      refine q' i1 H1 S1 e1 σ1 _ _ Q s1 re1 (r2.mono g1) ?_
      dsimp only at h
      split
      · rename_i e2 S2 em2
        rw [em2] at h
        exact fun i2 H2 g2 s2 σ2 re2 => h i2 H2 (g1.trans g2) s2 σ2 re2
      · rename_i em2
        rw [em2] at h
        exact h
    · rename_i em
      rw [em] at h
      exact h
def gTp (n : Nat) (m : List Dt → Env → Store → Option (Env × Store)) : Dt → Env → Store → Option (Env × Store) := fun d e S => match d with
  | .tup ds => if ds.length = n then m ds e S else none
  | _ => none
theorem dg_tup {es : List Expr} {k n : Nat} {m : List Dt → Env → Store → Option (Env × Store)} (h : DGs G X es m) (hc : X.calm = true := by rfl) (hn : (assignEach es X.env).length = n := by rfl) (hst : (assignEach es X.env).findIdx? (·.1) = none := by rfl)
    (hK : X.K = G.K := by rfl) : DG G X (.Tuple es k pos) (gTp n m) := by
  obtain ⟨g, p, q⟩ := h
  refine ⟨_, pg_tup hc p hn hst, fun io H S en σ d v Q so re r h => ?_⟩
  unfold gTp at h
  split at h
  · rename_i e' S' em
    split at em
    · rename_i ds
      split at em
      · rename_i hl
        obtain ⟨a, vs, rfl, h1, h2⟩ := asT_ok r rfl
        refine ⟨a, vs, rfl, by rw [hK]; exact h1, by rw [← h2.length]; exact hl, q io H S en σ _ _ Q so re h2 ?_⟩
        rw [em]
        exact h
      · cases em
    · cases em
  · exact h.elim
def mSet (i : Nat) (m : Env → Store → R Dt) : Env → Store → RS := fun en S => (m en S).toS en fun d S1 => .ok .nx (en.set i (some d)) S1
theorem ds_set {i : Nat} {x : Str} {pos' : Pos} (hN : X.N.Nodup) (he : DE G X W e me) (hi : X.N[i]? = some x := by rfl) (hx : Loc X.env.scope x := by first | exact Or.inl rfl | exact Or.inr rfl) (hs : swapsWith e (some (.Name x pos')) pos.line X.env = pure false := by rfl) (hf : X.fn x = true ∨ X.env.scope.names.lookup x = some .local := by first | exact .inl rfl | exact .inr rfl | assumption) :
    DS G X W (.Assign [.Name x pos'] e pos) (mSet i me) := by
  obtain ⟨t, p, q⟩ := he
  refine ⟨_, ps_set hN hi hx p hs hf, fun io H S en σ D so re h => ?_⟩
  refine q io H S en σ _ so re (h.bind.imp (wx_of re) fun d S1 i1 H1 g1 s1 k1 v r => ?_)
  exact k1 i1 H1 Grow.refl s1 _ ((re.mono g1).set r)
/-- target = value -/
def mAsg (g : Dt → Env → Store → Option (Env × Store)) (m : Env → Store → R Dt) : Env → Store → RS := fun en S => (m en S).toS en fun d S1 => match g d en S1 with
  | some (e', S') => .ok .nx e' S'
  | none => .stuck
theorem ds_asg {tg : Expr} {g : Dt → Env → Store → Option (Env × Store)} (he : DE G X W e me) (hg : DG G X tg g) (hs : swapsWithSole [tg] e pos.line X.env = pure false := by rfl) (hw : swappedStores [tg] e X.env = pure none := by rfl)
    (h1 : (assignEach [tg] X.env).map (·.2) = [assign tg X.env] := by rfl) : DS G X W (.Assign [tg] e pos) (mAsg g me) := by
  obtain ⟨t, p, q⟩ := he
  obtain ⟨g', p', q'⟩ := hg
  refine ⟨_, ps_asg p p' hs hw h1, fun io H S en σ D so re h => ?_⟩
  refine q io H S en σ _ so re (h.bind.imp (wx_of re) fun d S1 i1 H1 g1 s1 k1 v r => ?_)
  refine q' i1 H1 S1 en σ d v _ s1 (re.mono g1) r ?_
  split
  · rename_i e' S' em
    rw [em] at k1
    exact fun io' H' g s σ' re' => k1 io' H' g s σ' re'
  · rename_i em
    rw [em] at k1
    exact k1.elim
/-- a, b = x, y: plain names -/
def mPar (i j : Nat) (m : Env → Store → R (List Dt)) : Env → Store → RS := fun en S => (m en S).toS en fun ds S1 => match ds with
  | [d, d'] => .ok .nx ((en.set i (some d)).set j (some d')) S1
  | _ => .stuck
theorem ds_par {i j : Nat} {x y : Str} {a b : Expr} {ma : Env → Store → R (List Dt)} {px py pt : Pos} {kt k2 pt2} (hN : X.N.Nodup) (ha : DA G X W [a, b] ma) (hc : X.calm = true := by rfl) (hi : X.N[i]? = some x := by rfl) (hj : X.N[j]? = some y := by rfl) (hij : i ≠ j := by decide)
    (hx : X.env.scope.names.lookup x = some .local := by rfl) (hy : X.env.scope.names.lookup y = some .local := by rfl)
    (hw : swappedStores [.Tuple [.Name x px, .Name y py] kt pt] (.Tuple [a, b] k2 pt2) X.env = pure (some [x, y]) := by rfl)
    (hs : swapsWithSole [.Tuple [.Name x px, .Name y py] kt pt] (.Tuple [a, b] k2 pt2) pos.line X.env = pure false := by rfl) :
    DS G X W (.Assign [.Tuple [.Name x px, .Name y py] kt pt] (.Tuple [a, b] k2 pt2) pos) (mPar i j ma) := by
  obtain ⟨t, p, q⟩ := ha
  refine ⟨_, ps_par hc hN hi hj hij hx hy p hw hs, fun io H S en σ D so re h => ?_⟩
  refine q io H S en σ _ so re (h.bind.imp (wx_of re) fun ds S1 i1 H1 g1 s1 k1 vs r => ?_)
  cases r with
  | nil => exact k1.elim
  | cons r1 r2 =>
    cases r2 with
    | nil => exact k1.elim
    | cons r2 r3 =>
      cases r3 with
      | cons _ _ => exact k1.elim
      | nil => exact ⟨_, _, rfl, k1 i1 H1 Grow.refl s1 _ (((re.mono g1).set r1).set r2)⟩
/-- an expression alone -/
def mDrop (m : Env → Store → R Dt) : Env → Store → RS := fun en S => (m en S).toS en fun _ S1 => .ok .nx en S1
theorem ds_expr (he : DE G X W e me) (hs : swapsWith e none pos.line X.env = pure false := by rfl) : DS G X W (.Expr e pos) (mDrop me) := by
  obtain ⟨t, p, q⟩ := he
  refine ⟨_, ps_expr p hs, fun io H S en σ D so re h => ?_⟩
  exact q io H S en σ _ so re (h.bind.imp (wx_of re) fun d S1 i1 H1 g1 s1 k1 v r => k1 i1 H1 Grow.refl s1 _ (re.mono g1))
def mRet (m : Env → Store → R Dt) : Env → Store → RS := fun en S => (m en S).toS en fun d S1 => .ok (.rt d) en S1
theorem ds_ret (he : DE G X W e me) : DS G X W (.Return (some e) pos) (mRet me) := by
  obtain ⟨t, p, q⟩ := he
  refine ⟨_, ps_ret p, fun io H S en σ D so re h => ?_⟩
  exact q io H S en σ _ so re (h.bind.imp (wx_of re) fun d S1 i1 H1 g1 s1 k1 v r => k1 i1 H1 Grow.refl s1 _ r)
def mRetN : Env → Store → RS := fun en S => .ok (.rt .non) en S
def mNx : Env → Store → RS := fun en S => .ok .nx en S
def mBk : Env → Store → RS := fun en S => .ok .bk en S
def mCt : Env → Store → RS := fun en S => .ok .ct en S
/-- blocks -/
def mSeq (m k : Env → Store → RS) : Env → Store → RS := fun en S => match m en S with
  | .ok .nx e1 S1 => k e1 S1
  | r => r
variable {st : Stmt} {sts : List Stmt} {m k : Env → Store → RS}
theorem db_nil : DB G X W [] mNx := ⟨_, pss_nil, fun io H S en σ D so re h => h io H Grow.refl so _ re⟩
theorem db_one (h : DS G X W st m) : DB G X W [st] m := let ⟨_, p, q⟩ := h; ⟨_, pss_one p, q⟩
theorem db_cons (h : DS G X W st m) (h2 : DB G X W sts k) : DB G X W (st :: sts) (mSeq m k) := by
  obtain ⟨t, p, q⟩ := h
  obtain ⟨u, p', q'⟩ := h2
  refine ⟨_, pss_cons p p', fun io H S en σ D so re h => ?_⟩
  refine q io H S en σ _ so re ?_
  unfold mSeq at h
  cases em : m en S with
  | stuck => rw [em] at h; exact h
  | err x e1 S1 => rw [em] at h; exact h
  | ok f e1 S1 =>
    rw [em] at h
    cases f with
    | nx => exact fun i1 H1 g1 s1 σ1 re1 => q' i1 H1 S1 e1 σ1 D s1 re1 (OutS.from g1 h)
    | bk => exact h
    | ct => exact h
    | rt d => exact h
def mIfS (c : Env → Store → R Bool) (a b : Env → Store → RS) : Env → Store → RS := fun en S => (c en S).toS en fun t S1 => if t = true then a en S1 else b en S1
theorem ds_if {c : Expr} {a b : List Stmt} {mc : Env → Store → R Bool} {ma mb : Env → Store → RS} (hc : DT G X W c mc) (ha : DB G X W a ma) (hb : DB G X W b mb) : DS G X W (.If c a b pos) (mIfS mc ma mb) := by
  obtain ⟨t, p, q⟩ := hc
  obtain ⟨ta, pa, qa⟩ := ha
  obtain ⟨tb, pb, qb⟩ := hb
  refine ⟨_, ps_if p pa pb, fun io H S en σ D so re h => ?_⟩
  refine q io H S en σ _ so re (h.bind.imp (wx_of re) fun c S1 i1 H1 g1 s1 k1 => ?_)
  cases c with
  | true => exact qa i1 H1 S1 en σ D s1 (re.mono g1) k1
  | false => exact qb i1 H1 S1 en σ D s1 (re.mono g1) k1
/-! ### while -/
/-! ### for -/
/-- an iterator over these items -/
structure JOk (G : Gv) (io0 : Io) (H0 : Hp) (J : It) (items : List Dt) : Prop where
  go : ∀ i io H, Base io0 H0 io H → i < items.length → J.go i H
  stop : ∀ i io H, Base io0 H0 io H → items.length ≤ i → J.stop i H
  yld : ∀ i io H x H', Base io0 H0 io H → (∀ a, H a = none → a ∉ io) → i < items.length → J.yld i H x H' → ExtH H H' ∧ ∃ d, items[i]? = some d ∧ RelD G io H' d x
def DI (G : Gv) (X : Cx) (W : WX) (tg it : Expr) (m : Env → Store → R (List Dt)) : Prop := ∃ wi, PI X tg it wi ∧ ∀ io H S en σ (Q : It → Hp → Prop), StoreOk G io S H → RelEnv G io H en σ →
  Out G io H (wxE G W σ) (fun items _ io' H' => ∀ J, JOk G io' H' J items → Q J H') (m en S) → wi σ H Q
def fLoop (tg : Dt → Env → Store → Option (Env × Store)) (b : Env → Store → RS) : List Dt → Env → Store → RS
  | [], en, S => .ok .nx en S
  | d :: ds, en, S => match tg d en S with
    | none => .stuck
    | some (e1, S1) => match b e1 S1 with
      | .ok .nx e2 S2 => fLoop tg b ds e2 S2
      | .ok .ct e2 S2 => fLoop tg b ds e2 S2
      | .ok .bk e2 S2 => .ok .nx e2 S2
      | r => r
def mFor (mi : Env → Store → R (List Dt)) (tg : Dt → Env → Store → Option (Env × Store)) (b : Env → Store → RS) : Env → Store → RS := fun en S => (mi en S).toS en fun items S1 => fLoop tg b items en S1
theorem ds_for {tg it : Expr} {body : List Stmt} {mi : Env → Store → R (List Dt)} {g : Dt → Env → Store → Option (Env × Store)} {mb : Env → Store → RS} (hp : PassesOwn (model X.prog X.w) X.A X.env X.xe) (hi : DI G X W tg it mi) (hg : DG G X tg g) (hb : DB G X W body mb)
    (hc : X.calm = true := by rfl) (hs : ∀ x, foldedSetIterable it X.env x = pure x := by intro _; rfl) : DS G X W (.For tg it body [] pos) (mFor mi g mb) := by
  obtain ⟨wi, pi, qi⟩ := hi
  obtain ⟨g', pg, qg⟩ := hg
  obtain ⟨tb, pb, qb⟩ := hb
  refine ⟨_, ps_for hp hc pi pg pb hs, fun io H S en σ D so re h => ?_⟩
  refine qi io H S en σ _ so re (h.bind.imp (wx_of re) fun items S1 i1 H1 g1 s1 k1 J jo => ?_)
  refine ⟨fun i m σ H => m = items.length - i ∧ i ≤ items.length ∧ ∃ io en S, Grow i1 H1 io H ∧ StoreOk G io S H ∧ RelEnv G io H en σ ∧ OutS G io H (wxS G W) (poF G D) (fLoop g mb (items.drop i) en S),
    ⟨_, rfl, Nat.zero_le _, i1, en, S1, Grow.refl, s1, re.mono g1, by simpa using k1⟩, ?_⟩
  rintro i m σ2 H2 ⟨rfl, hle, i2, e2, S2, g2, s2, re2, h2⟩
  by_cases hlt : i < items.length
  · refine .inr ⟨jo.go i i2 H2 g2.base hlt, fun σ' H' => ∃ m', m' < items.length - i ∧ m' = items.length - (i + 1) ∧ i + 1 ≤ items.length ∧ ∃ io en S, Grow i1 H1 io H' ∧ StoreOk G io S H' ∧ RelEnv G io H' en σ' ∧ OutS G io H' (wxS G W) (poF G D) (fLoop g mb (items.drop (i + 1)) en S),
      fun σ' H' z => z, fun x H3 hy => ?_⟩
    obtain ⟨ex, d, hd, rd⟩ := jo.yld i i2 H2 x H3 g2.base (fun _ z => s2.fresh z) hlt hy
    have g3 : Grow i2 H2 i2 H3 := ex.grow
    have s3 := s2.ext ex
    have edr : items.drop i = d :: items.drop (i + 1) := by
      rw [List.drop_eq_getElem_cons hlt]
      have := (List.getElem?_eq_some_iff.mp hd).2
      rw [this]
    rw [edr] at h2
    unfold fLoop at h2
    refine qg i2 H3 S2 e2 σ2 d x _ s3 (re2.mono g3) rd ?_
    split
    · rename_i e4 S4 em
      rw [em] at h2
      dsimp only at h2
      intro i4 H4 g4 s4 σ4 re4
      refine qb i4 H4 S4 e4 σ4 _ s4 re4 ?_
      have h4 := OutS.from (g3.trans g4) h2
      have gg := g2.trans (g3.trans g4)
      cases eb : mb e4 S4 with
      | stuck => rw [eb] at h4; exact h4
      | err x e2 S2 => rw [eb] at h4; exact h4
      | ok fl e5 S5 =>
        rw [eb] at h4
        cases fl with
        | nx => exact fun i5 H5 g5 s5 σ5 re5 => ⟨_, by omega, rfl, hlt, i5, e5, S5, gg.trans g5, s5, re5, OutS.from g5 h4⟩
        | ct => exact fun i5 H5 g5 s5 σ5 re5 => ⟨_, by omega, rfl, hlt, i5, e5, S5, gg.trans g5, s5, re5, OutS.from g5 h4⟩
        | bk => exact h4
        | rt d => exact h4
    · rename_i em
      rw [em] at h2
      exact h2.elim
  · have e : i = items.length := by omega
    subst e
    rw [List.drop_length] at h2
    exact .inl ⟨jo.stop _ i2 H2 g2.base (Nat.le_refl _), h2 i2 H2 Grow.refl s2 _ re2⟩
end
end Dv
set_option Elab.async false
set_option linter.all false
set_option maxRecDepth 100000
set_option maxHeartbeats 4000000
set_option autoImplicit false
namespace Dv
open PySem PySem.Spec PyProof.Rows L2
/-! ### leaving a def: what it made is by value from there on -/
def noRef : Nat → Dt → Bool
  | _, .non => true
  | _, .bl _ => true
  | _, .int _ => true
  | _, .str _ => true
  | _, .ty _ => true
  | _, .cls _ => true
  | k + 1, .tup ds => ds.all (noRef k)
  | k + 1, .lst ds => ds.all (noRef k)
  | k + 1, .fz ds => ds.all (noRef k)
  | k + 1, .ins _ _ ds => ds.all (noRef k)
  | k + 1, .dct _ ds => ds.all (noRef k)
  | _, .lam _ _ => true
  | _, _ => false
def mapO {α β : Type} (f : α → Option β) : List α → Option (List β)
  | [] => some []
  | d :: ds => match f d with
    | some x => (mapO f ds).map (x :: ·)
    | none => none
/-- the first n objects of the store stay; the others become values -/
def frz (n : Nat) (S : Store) : Nat → Dt → Option Dt
  | 0, d => if noRef 0 d = true then some d else none
  | k + 1, d => if noRef (k + 1) d = true then some d else match d with
    | .ref i => if i < n then some (.ref i) else match S[i]? with
      | some (.lst ds) => (mapO (frz n S k) ds).map .lst
      | some (.ins c ns ds) => (mapO (frz n S k) ds).map (.ins c ns)
      | some (.dct ks ds) => (mapO (frz n S k) ds).map (.dct ks)
      | some (.dkt _ _) => none
      | none => none
    | .tup ds => (mapO (frz n S k) ds).map .tup
    | .lst ds => (mapO (frz n S k) ds).map .lst
    | .ins c ns ds => (mapO (frz n S k) ds).map (.ins c ns)
    | .dct ks ds => (mapO (frz n S k) ds).map (.dct ks)
    | _ => none
theorem frz_pure {n : Nat} {S : Store} {k : Nat} {d : Dt} (h : noRef k d = true) : frz n S k d = some d := by
  cases k with
  | zero => exact if_pos h
  | succ k => exact if_pos h
def frzO (n : Nat) (S : Store) (k : Nat) : Ob → Option Ob
  | .lst ds => (mapO (frz n S k) ds).map .lst
  | .ins c ns ds => (mapO (frz n S k) ds).map (.ins c ns)
  | .dct ks ds => (mapO (frz n S k) ds).map (.dct ks)
  | .dkt ks ds => (mapO (frz n S k) ds).map (.dkt ks)
section
variable {G : Gv} {io : Io} {H : Hp} {S : Store}
theorem notin_take {n : Nat} {a : Addr} (h : a ∉ io) : a ∉ io.take n := fun z => h (z.imp List.mem_of_mem_take id)
theorem mapO_len {α β : Type} {f : α → Option β} : ∀ {ds : List α} {es : List β}, mapO f ds = some es → ds.length = es.length
  | [], _, h => by cases h; rfl
  | d :: ds, es, h => by
    unfold mapO at h
    split at h
    · cases e : mapO f ds with
      | none => rw [e] at h; cases h
      | some l =>
        rw [e] at h
        cases h
        rw [List.length_cons, List.length_cons, mapO_len e]
    · cases h
theorem noRef_rel {n : Nat} : ∀ (k : Nat) {d : Dt} {v : V}, noRef k d = true → RelD G io H d v → RelD G (io.take n) H d v := by
  intro k
  induction k with
  | zero =>
    intro d v h r
    cases r with
    | non => exact .non
    | bl b => exact .bl b
    | int i => exact .int i
    | str s => exact .str s
    | ty n => exact .ty n
    | cls hc => exact .cls hc
    | lam e a b => exact .lam e ⟨a.1, notin_take a.2.1, a.2.2⟩ ⟨b.1, notin_take b.2.1, b.2.2⟩
    | _ => simp [noRef] at h
  | succ k ih =>
    have all : ∀ {ds : List Dt} {vs : List V}, ds.all (noRef k) = true → RelDs G io H ds vs → RelDs G (io.take n) H ds vs := by
      intro ds
      induction ds with
      | nil =>
        intro vs _ r
        cases r
        exact .nil
      | cons d ds ih2 =>
        intro vs h r
        rw [List.all_cons, Bool.and_eq_true] at h
        cases r with
        | cons r1 r2 => exact .cons (ih h.1 r1) (ih2 h.2 r2)
    intro d v h r
    cases r with
    | non => exact .non
    | bl b => exact .bl b
    | int i => exact .int i
    | str s => exact .str s
    | ty n => exact .ty n
    | cls hc => exact .cls hc
    | tup e rs => exact .tup (e.imp (fun z => ⟨z.1, notin_take z.2⟩) id) (all (by simpa [noRef] using h) rs)
    | lst e n rs => exact .lst e (notin_take n) (all (by simpa [noRef] using h) rs)
    | fz e rs => exact .fz (e.imp (fun z => ⟨z.1, notin_take z.2⟩) id) (all (by simpa [noRef] using h) rs)
    | ins e n c l rs => exact .ins e (notin_take n) c l (all (by simpa [noRef] using h) rs)
    | dct e n l rs => exact .dct e (notin_take n) l (all (by simpa [noRef] using h) rs)
    | ref e => simp [noRef] at h
    | lam e a b => exact .lam e ⟨a.1, notin_take a.2.1, a.2.2⟩ ⟨b.1, notin_take b.2.1, b.2.2⟩
theorem mapO_rel {n : Nat} {f : Dt → Option Dt} (hf : ∀ {d d' : Dt} {v : V}, f d = some d' → RelD G io H d v → RelD G (io.take n) H d' v) : ∀ {ds es : List Dt} {vs : List V}, mapO f ds = some es → RelDs G io H ds vs → RelDs G (io.take n) H es vs
  | [], _, _, h, r => by
    cases h
    cases r
    exact .nil
  | d :: ds, es, _, h, r => by
    unfold mapO at h
    cases r with
    | cons r1 r2 =>
      split at h
      · rename_i x ex
        cases e : mapO f ds with
        | none => rw [e] at h; cases h
        | some l =>
          rw [e] at h
          cases h
          exact .cons (hf ex r1) (mapO_rel hf e r2)
      · cases h
theorem take_at {n i : Nat} {a : Addr} (h : io.l[i]? = some a) (hi : i < n) : (io.take n).l[i]? = some a := by
  show (io.l.take n)[i]? = some a
  rw [List.getElem?_take_of_lt hi]
  exact h
theorem take_not {n i : Nat} {a : Addr} (so : StoreOk G io S H) (h : io.l[i]? = some a) (hi : ¬ i < n) : a ∉ io.take n := fun z => by
  rcases z with z | z
  · obtain ⟨j, hj, e⟩ := List.getElem_of_mem z
    rw [List.length_take] at hj
    rw [List.getElem_take] at e
    obtain ⟨l1, e1⟩ := List.getElem?_eq_some_iff.mp h
    have := (List.getElem_inj so.nd).mp (e.trans e1.symm)
    omega
  · exact so.dis a (List.mem_of_getElem? h) z
theorem map_some {α β : Type} {f : α → β} {o : Option α} {b : β} (h : o.map f = some b) : ∃ a, o = some a ∧ b = f a := by
  cases o with
  | none => cases h
  | some a => cases h; exact ⟨a, rfl, rfl⟩
theorem frz_rel {n : Nat} (so : StoreOk G io S H) : ∀ (k : Nat) {d d' : Dt} {v : V}, frz n S k d = some d' → RelD G io H d v → RelD G (io.take n) H d' v := by
  intro k
  induction k with
  | zero =>
    intro d d' v h r
    unfold frz at h
    split at h
    · rename_i hn
      cases h
      exact noRef_rel 0 hn r
    · cases h
  | succ k ih =>
    intro d d' v h r
    unfold frz at h
    split at h
    · rename_i hn
      cases h
      exact noRef_rel (k + 1) hn r
    · split at h
      · cases r with
        | @ref a i e =>
          split at h
          · rename_i hi
            cases h
            exact .ref (take_at e hi)
          · rename_i hi
            have na := take_not so e hi
            split at h
            · rename_i ds hs
              obtain ⟨es, e1, rfl⟩ := map_some h
              have q := so.ob _ _ _ hs e
              cases q with
              | lst h1 h2 => exact .lst h1 na (mapO_rel ih e1 h2)
            · rename_i c ns ds hs
              obtain ⟨es, e1, rfl⟩ := map_some h
              have q := so.ob _ _ _ hs e
              cases q with
              | ins h1 h2 h3 h4 => exact .ins h1 na h2 (by rw [h3, mapO_len e1]) (mapO_rel ih e1 h4)
            · rename_i ks ds hs
              obtain ⟨es, e1, rfl⟩ := map_some h
              have q := so.ob _ _ _ hs e
              cases q with
              | dct h1 h2 h3 => exact .dct h1 na (by rw [h2, mapO_len e1]) (mapO_rel ih e1 h3)
            · cases h
            · cases h
      · obtain ⟨es, e1, rfl⟩ := map_some h
        cases r with
        | tup e rs => exact .tup (e.imp (fun z => ⟨z.1, notin_take z.2⟩) id) (mapO_rel ih e1 rs)
      · obtain ⟨es, e1, rfl⟩ := map_some h
        cases r with
        | lst e n rs => exact .lst e (notin_take n) (mapO_rel ih e1 rs)
      · obtain ⟨es, e1, rfl⟩ := map_some h
        cases r with
        | ins e n c l rs => exact .ins e (notin_take n) c (by rw [l, mapO_len e1]) (mapO_rel ih e1 rs)
      · obtain ⟨es, e1, rfl⟩ := map_some h
        cases r with
        | dct e n l rs => exact .dct e (notin_take n) (by rw [l, mapO_len e1]) (mapO_rel ih e1 rs)
      · cases h
theorem mapOb_at {f : Ob → Option Ob} : ∀ {S S' : Store} {i : Nat} {o : Ob}, mapO f S = some S' → S'[i]? = some o → ∃ o0, S[i]? = some o0 ∧ f o0 = some o
  | [], _, i, o, h, e => by
    cases h
    simp at e
  | x :: xs, S', i, o, h, e => by
    unfold mapO at h
    split at h
    · rename_i y ey
      cases em : mapO f xs with
      | none => rw [em] at h; cases h
      | some l =>
        rw [em] at h
        cases h
        cases i with
        | zero =>
          cases e
          exact ⟨x, rfl, ey⟩
        | succ i =>
          obtain ⟨o0, h1, h2⟩ := mapOb_at em (i := i) (by simpa using e)
          exact ⟨o0, by simpa using h1, h2⟩
    · cases h
def deepF : Nat := 12
def exitS (n : Nat) (S : Store) : Option Store := mapO (frzO n S deepF) (S.take n)
theorem exitS_ok {n : Nat} {S2 : Store} (so : StoreOk G io S H) (h : exitS n S = some S2) (hn : n ≤ S.length) : StoreOk G (io.take n) S2 H := by
  refine ⟨so.nd.sublist (List.take_sublist _ _), ?_, fun a ha => so.dis a (List.mem_of_mem_take ha), so.hid, fun i o a h1 h2 => ?_, so.tab⟩
  · rw [← mapO_len h, List.length_take, List.length_take, so.len]
  · obtain ⟨o0, e0, e1⟩ := mapOb_at h h1
    rw [List.getElem?_take] at e0 h2
    split at e0
    · rename_i hi
      rw [if_pos hi] at h2
      have q := so.ob i o0 a e0 h2
      cases o0 with
      | lst ds =>
        obtain ⟨es, m1, rfl⟩ := map_some e1
        cases q with
        | lst k1 k2 => exact .lst k1 (mapO_rel (frz_rel so deepF) m1 k2)
      | ins c ns ds =>
        obtain ⟨es, m1, rfl⟩ := map_some e1
        cases q with
        | ins k1 k2 k3 k4 => exact .ins k1 k2 (by rw [k3, mapO_len m1]) (mapO_rel (frz_rel so deepF) m1 k4)
      | dct ks ds =>
        obtain ⟨es, m1, rfl⟩ := map_some e1
        cases q with
        | dct k1 k2 k3 => exact .dct k1 (by rw [k2, mapO_len m1]) (mapO_rel (frz_rel so deepF) m1 k3)
      | dkt ks ds =>
        obtain ⟨es, m1, rfl⟩ := map_some e1
        cases q with
        | dkt k1 k2 k3 => exact .dkt k1 (by rw [k2, mapO_len m1]) (mapO_rel (frz_rel so deepF) m1 k3)
    · cases e0
end
/-! ### defs -/
abbrev Fn := List Dt → Store → R Dt
def fin (keep : Bool) (n : Nat) (d : Dt) (S : Store) : R Dt := if keep = true ∨ S.length = n then .ok d S else match frz n S deepF d, exitS n S with
  | some d', some S' => .ok d' S'
  | _, _ => .stuck
def finX (keep : Bool) (n : Nat) (x : Ex) (S : Store) : R Dt := if keep = true ∨ S.length = n then .err x S else match mapO (frz n S deepF) x.ds, exitS n S with
  | some ds, some S' => .err ⟨x.c, x.ns, ds⟩ S'
  | _, _ => .stuck
/-- a def by its body: keep says that what it made stays an object -/
def fnRun (nl : Nat) (keep : Bool) (body : Env → Store → RS) : Fn := fun ds S => match body (ds.map some ++ List.replicate (nl - ds.length) none) S with
  | .ok (.rt d) _ S' => fin keep S.length d S'
  | .ok .nx _ S' => fin keep S.length .non S'
  | .ok _ _ _ => .stuck
  | .err x _ S' => finX keep S.length x S'
  | .stuck => .stuck
def spF (G : Gv) (np : Nat) (m : Fn) : Sp := fun vs H Q E => ∃ io S ds, StoreOk G io S H ∧ RelDs G io H ds vs ∧ ds.length = np ∧ Out G io H (fun x io' H' => ∀ cls dx, RelX G io' H' x cls dx → E cls dx H') (poE G Q) (m ds S)
theorem grow_take {io io' : Io} {H H' : Hp} (g : Grow io H io' H') : io'.take io.l.length = io ∧ Grow io H io H' := by
  obtain ⟨t, rfl⟩ := g.pre
  exact ⟨by cases io; simp [Io.take], ⟨⟨[], by simp⟩, fun b o h n nt => g.keep b o h n nt, fun a h n => absurd h n⟩⟩
theorem fin_ok {G : Gv} {io io' : Io} {H H' : Hp} {S S' : Store} {keep : Bool} {d : Dt} {v : V} {wx : Ex → Io → Hp → Prop} {Q : VK} (so : StoreOk G io S H) (g : Grow io H io' H') (so' : StoreOk G io' S' H') (r : RelD G io' H' d v)
    (h : Out G io H wx (poE G Q) (fin keep S.length d S')) : Q v H' := by
  unfold fin at h
  split at h
  · exact h io' H' g so' v r
  · split at h
    · rename_i d' S2 e1 e2
      obtain ⟨t1, t2⟩ := grow_take g
      have hn : S.length ≤ S'.length := by
        obtain ⟨t, rfl⟩ := g.pre
        rw [so.len, so'.len, List.length_append]
        omega
      have q1 := frz_rel so' deepF e1 r
      have q2 := exitS_ok so' e2 hn
      rw [so.len, t1] at q1 q2
      exact h io H' t2 q2 v q1
    · exact h.elim
theorem finX_ok {G : Gv} {io io' : Io} {H H' : Hp} {S S' : Store} {keep : Bool} {x : Ex} {cls : Value} {dx : Option Addr} {Q : VK} {E : XK} (so : StoreOk G io S H) (g : Grow io H io' H') (so' : StoreOk G io' S' H') (r : RelX G io' H' x cls dx)
    (h : Out G io H (fun x io' H' => ∀ cls dx, RelX G io' H' x cls dx → E cls dx H') (poE G Q) (finX keep S.length x S')) : E cls dx H' := by
  unfold finX at h
  split at h
  · exact h io' H' g so' cls dx r
  · split at h
    · rename_i ds S2 e1 e2
      obtain ⟨t1, t2⟩ := grow_take g
      have hn : S.length ≤ S'.length := by
        obtain ⟨t, rfl⟩ := g.pre
        rw [so.len, so'.len, List.length_append]
        omega
      have q2 := exitS_ok so' e2 hn
      rw [so.len, t1] at q2
      refine h io H' t2 q2 cls dx ?_
      obtain ⟨C, a, vs, h1, h2, h3, h4, h5, h6, h7⟩ := r
      refine ⟨C, a, vs, h1, h2, h3, h4, ?_, by rw [h6, mapO_len e1], ?_⟩
      · rw [← t1]
        exact notin_take h5
      · have q := mapO_rel (n := S.length) (frz_rel so' deepF) e1 h7
        rw [so.len, t1] at q
        exact q
    · exact h.elim
section
variable {P : Program} {w : World} {K : PySem.W.Frag} {mg : Str → Option Value} {base : Heap} {G : Gv}
theorem rel_start {io : Io} {H : Hp} {N : List Str} {ds : List Dt} {vs : List V} (r : RelDs G io H ds vs) (hl : vs.length ≤ N.length) : RelEnv G io H (ds.map some ++ List.replicate (N.length - ds.length) none) (L2.start N vs) := by
  have l := r.length
  refine ⟨by unfold L2.start; simp [l], fun i d h => ?_⟩
  unfold L2.start
  by_cases hi : i < ds.length
  · rw [List.getElem?_append_left (by simpa using hi), List.getElem?_map] at h
    cases e : ds[i]? with
    | none => rw [e] at h; cases h
    | some x =>
      rw [e] at h
      cases h
      obtain ⟨v, h1, h2⟩ := r.get e
      refine ⟨v, ?_, h2⟩
      rw [List.getElem?_append_left (by rw [List.length_map, ← l]; exact hi), List.getElem?_map, h1]
      rfl
  · rw [List.getElem?_append_right (by simpa using hi), List.getElem?_replicate] at h
    split at h <;> cases h
/-- THE RULE for a def -/
theorem fn_ok {x qual : Str} {st : Stmt} {f : Addr} {fd : FuncData} {N ps : List Str} {k : Nat} {m : Env → Store → RS} (keep : Bool) (F : Fun K x qual st f fd) (S : FnScope N ps (defScope st))
    (hbody : ∀ (cdv : Value) (A : Around) (outer : List PySem.Env) (s : Shared) (H : Hp) (E : XK), Room k (A.deeper (envOfC qual (defScope st) s.heap.objs.size f cdv)) →
      DB G (cxOf (L2.CX P w) P w K mg base N qual (defScope st) f cdv A outer s H E) (fun cls d _ H => E cls d H) (defBody st) m) : FnOk P w K mg base (L2.CX P w) (k + 1) f fd ps (spF G ps.length (fnRun N.length keep m)) := by
  refine F.okX S (fun vs H Q E h => ?_) (fun cdv A outer s H vs Q E hr h => ?_)
  · obtain ⟨io, St, ds, so, r, hl, _⟩ := h
    rw [← r.length]
    exact hl
  · obtain ⟨io, St, ds, so, r, hl, ho⟩ := h
    obtain ⟨t, p, q⟩ := hbody cdv A outer s H E hr
    refine ⟨t, p, ?_⟩
    have hpl : ps.length ≤ N.length := by have := congrArg List.length S.pre; rw [List.length_take] at this; omega
    have lv := r.length
    refine q io H St _ _ _ so (rel_start r (by omega)) ?_
    unfold fnRun at ho
    cases em : m (ds.map some ++ List.replicate (N.length - ds.length) none) St with
    | stuck => rw [em] at ho; exact ho
    | err x e1 S1 =>
      rw [em] at ho
      exact fun io' H' g so' σ cls dx re rx => finX_ok so g so' rx ho
    | ok fl e1 S1 =>
      rw [em] at ho
      cases fl with
      | nx => exact fun io' H' g so' σ re => fin_ok so g so' .non ho
      | bk => exact ho.elim
      | ct => exact ho.elim
      | rt d => exact fun io' H' g so' v r => fin_ok so g so' r ho
/-- no def is called deeper than its level -/
theorem fn_tk {qual : Str} {st : Stmt} {f : Addr} {N : List Str} {cdv : Value} {A : Around} {outer : List PySem.Env} {s : Shared} {H : Hp} {E : XK} : Takes (cxOf (L2.CX P w) P w K mg base N qual (defScope st) f cdv A outer s H E) (fun cls d _ H => E cls d H) := takes_of rfl rfl rfl rfl
theorem fn_po {qual : Str} {st : Stmt} {f : Addr} {N : List Str} {cdv : Value} {A : Around} {outer : List PySem.Env} {s : Shared} {H : Hp} {E : XK} : PassesOwn (model P w) (cxOf (L2.CX P w) P w K mg base N qual (defScope st) f cdv A outer s H E).A (cxOf (L2.CX P w) P w K mg base N qual (defScope st) f cdv A outer s H E).env (cxOf (L2.CX P w) P w K mg base N qual (defScope st) f cdv A outer s H E).xe := passes_of (X := cxOf (L2.CX P w) P w K mg base N qual (defScope st) f cdv A outer s H E) rfl
end
/-- f(e, ..) -/
def mCall (np : Nat) (m : Fn) (ma : Env → Store → R (List Dt)) : Env → Store → R Dt := fun en S => (ma en S).bind fun ds S1 => if ds.length = np then m ds S1 else .stuck
section
variable {G : Gv} {X : Cx} {W : WX} {k np : Nat} {f : Addr} {fd : FuncData} {ps : List Str} {x : Str} {p pos : Pos} {e : Expr} {es : List Expr} {ma : Env → Store → R (List Dt)} {m : Fn}
theorem de_call (F : FnOk X.prog X.w X.K X.mg X.base (L2.CX X.prog X.w) k f fd ps (spF G np m)) (hr : Room k X.A) (hm : X.mg x = some (.ref f)) (hk : PySem.W.keepIn X.K (.ref f) = true) (hb : Binds X.K fd ps []) (tk : Takes X W)
    (ha : DA G X W (e :: es) ma) (hg : Gl X x := by rfl) (hdb : (x == ("__debug__" : Str)) = false := by decide) (he : starEach (e :: es) X.env = (false, eval e X.env) :: starEach es X.env := by rfl) (hpl : (backTo pos (starEach es X.env)).any (·.1) = false := by rfl) :
    DE G X W (.Call (.Name x p) (e :: es) [] pos) (mCall np m ma) := by
  obtain ⟨t, pa, qa⟩ := ha
  refine ⟨_, pe_callS (E := WE W) F hr hg hm hk hb (fun σ => passAt tk σ) pa hdb he hpl, fun io H S en σ Q so re h => ?_⟩
  refine qa io H S en σ _ so re (h.bind.imp (fun _ _ _ _ z => z) fun ds S1 i1 H1 g1 s1 k1 vs r => ?_)
  split at k1
  · rename_i hl
    exact ⟨i1, S1, ds, s1, r, hl, k1⟩
  · exact k1.elim
end
end Dv
set_option Elab.async false
set_option linter.all false
set_option maxRecDepth 100000
set_option maxHeartbeats 4000000
set_option autoImplicit false
namespace Dv
open PySem PySem.Spec PyProof.Rows L2
/-! ### what is walked -/
theorem rel_sqL {G : Gv} {io i1 : Io} {H H1 : Hp} (g : Base io H i1 H1) {a : Addr} {vs : List V} (h : (Rd H a (.lst vs) ∧ a ∉ io) ∨ KLst G.K a vs) : SqL G.K H1 a vs := by
  rcases h with ⟨h, n⟩ | h
  · exact .inl (g.rd h n).1
  · exact .inr h
theorem jok_list {G : Gv} {io : Io} {H : Hp} {a : Addr} {ds : List Dt} {vs : List V} (h : (Rd H a (.lst vs) ∧ a ∉ io) ∨ KLst G.K a vs) (r : RelDs G io H ds vs) : JOk G io H (Itl G.K a) ds := by
  have l := r.length
  refine ⟨fun i i1 H1 g hi => ?_, fun i i1 H1 g hi => ?_, fun i i1 H1 x H' g _ hi hy => ?_⟩
  · exact ⟨vs, vs[i]'(by omega), rel_sqL g h, by simp [l ▸ hi]⟩
  · exact ⟨vs, rel_sqL g h, by omega⟩
  · obtain ⟨rfl, hx⟩ := hy
    have e := hx vs (rel_sqL g h)
    obtain ⟨v, e1, e2⟩ := r.get (i := i) (d := ds[i]'hi) (by simp [hi])
    rw [e] at e1
    cases e1
    exact ⟨fun _ _ z => z, _, by simp [hi], e2.monoB g⟩
theorem jok_tup {G : Gv} {io : Io} {H : Hp} {a : Addr} {ds : List Dt} {vs : List V} (h : (H a = some (.tup vs) ∧ a ∉ io) ∨ (KTup G.K a vs ∧ G.kt = true)) (r : RelDs G io H ds vs) : JOk G io H (Itt G.K a) ds := by
  have l := r.length
  have sq : ∀ {i1 : Io} {H1 : Hp}, Base io H i1 H1 → SqT G.K H1 a vs := fun g => by
    rcases h with ⟨h, n⟩ | h
    · exact .inl (.inl (g.keep _ _ h n).1)
    · exact .inr h.1
  refine ⟨fun i i1 H1 g hi => ?_, fun i i1 H1 g hi => ?_, fun i i1 H1 x H' g _ hi hy => ?_⟩
  · exact ⟨vs, vs[i]'(by omega), sq g, by simp [l ▸ hi]⟩
  · exact ⟨vs, sq g, by omega⟩
  · obtain ⟨rfl, hx⟩ := hy
    have e := hx vs (sq g)
    obtain ⟨v, e1, e2⟩ := r.get (i := i) (d := ds[i]'hi) (by simp [hi])
    rw [e] at e1
    cases e1
    exact ⟨fun _ _ z => z, _, by simp [hi], e2.monoB g⟩
theorem pi_or {X : Cx} {tg it : Expr} {w1 w2 : TI} (h1 : PI X tg it w1) (h2 : PI X tg it w2) : PI X tg it (fun σ H R => w1 σ H R ∨ w2 σ H R) :=
  ⟨fun pins s σ H R I h => h.elim (h1.run pins s σ H R I) (h2.run pins s σ H R I)⟩
def strs1 (s : Str) : List Dt := s.cps.toList.map fun c => .str ⟨#[c]⟩
/-- the items of a value that is walked -/
def itemsD (d : Dt) : Option (List Dt) := match d with
  | .lst ds => some ds
  | .fz ds => some ds
  | .tup ds => some ds
  | _ => none
def mIt (m : Env → Store → R Dt) : Env → Store → R (List Dt) := fun en S => (m en S).bind fun d S1 => match itemsD d with
  | some ds => .ok ds S1
  | none => .stuck
section
variable {G : Gv} {X : Cx} {W : WX} {tg e : Expr} {m : Env → Store → R Dt}
theorem di_seq (he : DE G X W e m) (hK : X.K = G.K := by rfl) : DI G X W tg e (mIt m) := by
  obtain ⟨t, p, q⟩ := he
  refine ⟨_, pi_or (pi_list p) (pi_tup p), fun io H S en σ Q so re h => ?_⟩
  cases em : m en S with
  | stuck =>
    unfold mIt at h
    rw [em] at h
    exact h.elim
  | err x S1 =>
    unfold mIt at h
    rw [em] at h
    exact .inl (q io H S en σ _ so re (by rw [em]; exact h))
  | ok d S1 =>
    unfold mIt at h
    rw [em] at h
    dsimp only [R.bind] at h
    split at h
    · rename_i ds hd
      unfold itemsD at hd
      split at hd
      · cases hd
        refine .inl (q io H S en σ _ so re ?_)
        rw [em]
        intro i1 H1 g1 s1 v r
        cases r with
        | lst e n rs =>
          refine ⟨_, rfl, ⟨_, .inl (.inl e)⟩, ?_⟩
          rw [hK]
          exact h i1 H1 g1 s1 _ (jok_list (.inl ⟨.inl e, n⟩) rs)
      · cases hd
        refine .inl (q io H S en σ _ so re ?_)
        rw [em]
        intro i1 H1 g1 s1 v r
        cases r with
        | fz e rs =>
          refine ⟨_, rfl, ⟨_, by rw [hK]; exact rel_sqL Grow.refl.base e⟩, ?_⟩
          rw [hK]
          exact h i1 H1 g1 s1 _ (jok_list e rs)
      · cases hd
        refine .inr (q io H S en σ _ so re ?_)
        rw [em]
        intro i1 H1 g1 s1 v r
        cases r with
        | @tup a _ vs e rs =>
          refine ⟨_, rfl, ⟨vs, ?_⟩, ?_⟩
          · rw [hK]
            rcases e with ⟨e, _⟩ | e
            · exact .inl (.inl e)
            · exact .inr e.1
          · rw [hK]
            exact h i1 H1 g1 s1 _ (jok_tup e rs)
      · cases hd
    · exact h.elim
/-- the signs of a text -/
def mItS (m : Env → Store → R Dt) : Env → Store → R (List Dt) := fun en S => (m en S).bind fun d S1 => match d with
  | .str s => .ok (strs1 s) S1
  | _ => .stuck
theorem di_str (he : DE G X W e m) : DI G X W tg e (mItS m) := by
  obtain ⟨t, p, q⟩ := he
  refine ⟨_, pi_str p, fun io H S en σ Q so re h => ?_⟩
  refine q io H S en σ _ so re (h.bind.imp (fun _ _ _ _ z => z) fun d S1 i1 H1 g1 s1 k1 v r => ?_)
  cases r with
  | str s =>
    refine ⟨s, rfl, k1 i1 H1 Grow.refl s1 _ ⟨fun i io H g hi => ?_, fun i io H g hi => ?_, fun i io H x H' g _ hi hy => ?_⟩⟩
    · simpa [Its, strs1] using hi
    · simpa [Its, strs1] using hi
    · obtain ⟨rfl, c, hc, rfl⟩ := hy
      refine ⟨fun _ _ z => z, .str ⟨#[c]⟩, ?_, .str _⟩
      unfold strs1
      rw [List.getElem?_map, Array.getElem?_toList, hc]
      rfl
  | _ => exact k1.elim
@[irreducible] def rngOk (i : Int) : Bool := decide (-(2 ^ 62) ≤ i ∧ i < 2 ^ 62)
theorem rng_iff {i : Int} : rngOk i = true ↔ -(2 ^ 62) ≤ i ∧ i < 2 ^ 62 := by
  unfold rngOk
  exact decide_eq_true_iff
theorem rng_ok {i : Int} (h0 : -4611686018427387904 ≤ i) (h1 : i < 4611686018427387904) : rngOk i = true := rng_iff.mpr ⟨by omega, by omega⟩
def rangeD (lo : Int) (n : Nat) : List Dt := (List.range n).map fun (k : Nat) => Dt.int (lo + (k : Int))
theorem jok_range {io : Io} {H : Hp} {lo : Int} {n : Nat} : JOk G io H (Itr lo n) (rangeD lo n) := by
  refine ⟨fun i io H g hi => ?_, fun i io H g hi => ?_, fun i io H x H' g _ hi hy => ?_⟩
  · simpa [Itr, rangeD] using hi
  · simpa [Itr, rangeD] using hi
  · obtain ⟨rfl, rfl⟩ := hy
    have hi' : i < n := by simpa [rangeD] using hi
    exact ⟨fun _ _ z => z, .int (lo + i), by simp [rangeD, hi'], .int _⟩
def mRng1 (m : Env → Store → R (List Dt)) : Env → Store → R (List Dt) := fun en S => (m en S).bind fun ds S1 => match ds with
  | [.int j] => if rngOk j = true then .ok (rangeD 0 j.toNat) S1 else .stuck
  | _ => .stuck
def mRng2 (m : Env → Store → R (List Dt)) : Env → Store → R (List Dt) := fun en S => (m en S).bind fun ds S1 => match ds with
  | [.int i, .int j] => if rngOk i = true ∧ rngOk j = true then .ok (rangeD i (j - i).toNat) S1 else .stuck
  | _ => .stuck
variable {a b : Expr} {ma : Env → Store → R (List Dt)} {p pos : Pos}
theorem di_range1 (hm : X.mg "range" = none) (ha : DA G X W [a] ma) (hg : Gl X "range" := by rfl) (hs : starEach [a] X.env = [(false, eval a X.env)] := by rfl) : DI G X W tg (.Call (.Name "range" p) [a] [] pos) (mRng1 ma) := by
  obtain ⟨t, pa, qa⟩ := ha
  refine ⟨_, pi_range1 hg hm pa hs, fun io H S en σ Q so re h => ?_⟩
  refine qa io H S en σ _ so re (h.bind.imp (fun _ _ _ _ z => z) fun ds S1 i1 H1 g1 s1 k1 vs r => ?_)
  split at k1
  · rename_i j
    split at k1
    · rename_i hj
      obtain ⟨h1, h2⟩ := rng_iff.mp hj
      cases r with
      | cons r1 r2 =>
        cases r1
        cases r2
        exact ⟨j, rfl, h1, h2, k1 i1 H1 Grow.refl s1 _ jok_range⟩
    · exact k1.elim
  · exact k1.elim
end
/-! ### comprehensions -/
def wipeE (e : Env) : List Nat → Env
  | [] => e
  | v :: vs => (wipeE e vs).set v none
theorem wipe_get (σ : L2.St) (vs : List Nat) (j : Nat) : (wipe σ vs)[j]? = if j ∈ vs then (if j < σ.length then some none else none) else σ[j]? := by
  induction vs with
  | nil => simp [wipe]
  | cons v vs ih =>
    unfold wipe
    by_cases hv : v = j
    · subst hv
      rw [if_pos (List.mem_cons_self)]
      by_cases hl : v < σ.length
      · rw [List.getElem?_set_self (by rw [wipe_length]; exact hl), if_pos hl]
      · rw [if_neg hl]
        apply List.getElem?_eq_none
        rw [List.length_set, wipe_length]
        omega
    · rw [List.getElem?_set_ne hv, ih]
      have : (j ∈ v :: vs) ↔ j ∈ vs := by
        rw [List.mem_cons]
        exact ⟨fun z => z.resolve_left (fun q => hv q.symm), .inr⟩
      simp only [this]
theorem wipeE_get (σ : Env) (vs : List Nat) (j : Nat) : (wipeE σ vs)[j]? = if j ∈ vs then (if j < σ.length then some none else none) else σ[j]? := by
  have len : ∀ vs : List Nat, (wipeE σ vs).length = σ.length := fun vs => by
    induction vs with
    | nil => rfl
    | cons v vs ih =>
      unfold wipeE
      rw [List.length_set, ih]
  induction vs with
  | nil => simp [wipeE]
  | cons v vs ih =>
    unfold wipeE
    by_cases hv : v = j
    · subst hv
      rw [if_pos (List.mem_cons_self)]
      by_cases hl : v < σ.length
      · rw [List.getElem?_set_self (by rw [len]; exact hl), if_pos hl]
      · rw [if_neg hl]
        apply List.getElem?_eq_none
        rw [List.length_set, len]
        omega
    · rw [List.getElem?_set_ne hv, ih]
      have : (j ∈ v :: vs) ↔ j ∈ vs := by
        rw [List.mem_cons]
        exact ⟨fun z => z.resolve_left (fun q => hv q.symm), .inr⟩
      simp only [this]
theorem rel_wipe {G : Gv} {io : Io} {H : Hp} {e : Env} {σ : L2.St} (r : RelEnv G io H e σ) (vs : List Nat) : RelEnv G io H (wipeE e vs) (wipe σ vs) := by
  have len : ∀ vs : List Nat, (wipeE e vs).length = e.length := fun vs => by
    induction vs with
    | nil => rfl
    | cons v vs ih =>
      unfold wipeE
      rw [List.length_set, ih]
  refine ⟨by rw [len, wipe_length]; exact r.len, fun i d h => ?_⟩
  rw [wipeE_get] at h
  rw [wipe_get]
  split at h
  · split at h <;> cases h
  · rename_i hi
    rw [if_neg hi]
    exact r.at_ i d h
/-- a target of names alone that sets these slots -/
def DGw (G : Gv) (X : Cx) (tg : Expr) (sl : List Nat) (m : Dt → Env → Option Env) : Prop := ∃ g, PG X tg g ∧ ∀ io H en σ d v (Q : L2.St → Hp → Prop), RelEnv G io H en σ → RelD G io H d v →
  (match m d en with
    | some e' => ∀ σ', RelEnv G io H e' σ' → σ'.length = σ.length → (∀ j : Nat, j ∉ sl → σ'[j]? = σ[j]?) → Q σ' H
    | none => False) → g v σ H Q
def wNm (i : Nat) : Dt → Env → Option Env := fun d e => some (e.set i (some d))
section
variable {G : Gv} {X : Cx} {pos : Pos}
theorem dgw_name {i : Nat} {x : Str} (hN : X.N.Nodup) (hi : X.N[i]? = some x) (hx : Loc X.env.scope x) (hf : X.fn x = true ∨ X.env.scope.names.lookup x = some .local := by first | exact .inl rfl | exact .inr rfl | assumption) : DGw G X (.Name x pos) [i] (wNm i) :=
  ⟨_, pg_name hN hi hx hf, fun io H en σ d v Q re r h => h _ (re.set r) (by simp) fun j hj => List.getElem?_set_ne (by simpa [eq_comm] using hj)⟩
end
/-- no error leaves a comprehension -/
def R.nx {α : Type} (r : R α) : R α := match r with
  | .ok a S => .ok a S
  | _ => .stuck
abbrev W0 : WX := fun _ _ _ _ => False
def cLoop (tg : Dt → Env → Option Env) (t : Env → Store → R Bool) (m : Env → Store → R Dt) (en : Env) : List Dt → List Dt → Store → R (List Dt)
  | [], acc, S => .ok acc S
  | d :: ds, acc, S => match tg d en with
    | none => .stuck
    | some e1 => (t e1 S).nx.bind fun b S1 => if b = true then (m e1 S1).nx.bind fun x S2 => if acc.length < 1000000 then cLoop tg t m en ds (acc ++ [x]) S2 else .stuck else cLoop tg t m en ds acc S1
def mYes : Env → Store → R Bool := fun _ S => .ok true S
/-- tests of a comprehension -/
def DTs (G : Gv) (X : Cx) (W : WX) (ts : List Expr) (m : Env → Store → R Bool) : Prop := ∃ t, PTs X ts t ∧ SimT G W t m
def mLc (sl : List Nat) (mi : Env → Store → R (List Dt)) (tg : Dt → Env → Option Env) (t : Env → Store → R Bool) (m : Env → Store → R Dt) : Env → Store → R Dt := fun en S => (mi en S).bind fun items S1 => (cLoop tg t m (wipeE en sl) items [] S1).bind fun ds S2 => .ok (.lst ds) S2
section
variable {G : Gv} {X : Cx} {W : WX}
theorem dts_nil : DTs G X W [] mYes := ⟨_, pts_nil, fun io H S e σ Q so re h => h io H Grow.refl so⟩
theorem dts_one {c : Expr} {m : Env → Store → R Bool} (h : DT G X W c m) : DTs G X W [c] m := let ⟨_, p, q⟩ := h; ⟨_, pts_one p, q⟩
theorem Out.nx {io : Io} {H : Hp} {α : Type} {wx wx' : Ex → Io → Hp → Prop} {post : α → Store → Io → Hp → Prop} {r : R α} (h : Out G io H wx post r.nx) : Out G io H wx' post r := by
  cases r with
  | ok a S => exact h
  | err x S => exact h.elim
  | stuck => exact h
/-- the base stays -/
theorem Out.bind0 {io : Io} {H : Hp} {α β : Type} {wx : Ex → Io → Hp → Prop} {post : β → Store → Io → Hp → Prop} {r : R α} {f : α → Store → R β} (h : Out G io H wx post (r.bind f)) :
    Out G io H wx (fun a S _ _ => Out G io H wx post (f a S)) r := by
  cases r with
  | ok a S => exact fun io' H' g s => h
  | err x S => exact h
  | stuck => exact h
theorem wipe_eq {σ σ' : L2.St} {sl own : List Nat} (hs : ∀ j ∈ sl, j ∈ own) (l : σ'.length = (wipe σ own).length) (u : ∀ j : Nat, j ∉ sl → σ'[j]? = (wipe σ own)[j]?) : wipe σ' own = wipe σ own := by
  apply List.ext_getElem?
  intro j
  rw [wipe_get, wipe_get]
  rw [wipe_length] at l
  by_cases hj : j ∈ own
  · rw [if_pos hj, if_pos hj, l]
  · rw [if_neg hj, if_neg hj, u j fun z => hj (hs j z), wipe_get, if_neg hj]
/-- one address more is let change -/
abbrev Io.hide (io : Io) (D : Addr) : Io := ⟨io.l, D :: io.h⟩
section
variable {io i1 : Io} {H H1 : Hp} {D : Addr}
theorem hide_mem {a : Addr} : a ∈ io.hide D ↔ a = D ∨ a ∈ io := by
  constructor
  · rintro (h | h)
    · exact .inr (.inl h)
    · rcases List.mem_cons.mp h with h | h
      · exact .inl h
      · exact .inr (.inr h)
  · rintro (h | h)
    · exact .inr (List.mem_cons.mpr (.inl h))
    · rcases h with h | h
      · exact .inl h
      · exact .inr (List.mem_cons.mpr (.inr h))
mutual
theorem RelD.unhide : ∀ {d : Dt} {v : V}, RelD G (io.hide D) H d v → RelD G io H d v
  | _, _, .non => .non
  | _, _, .bl b => .bl b
  | _, _, .int i => .int i
  | _, _, .str s => .str s
  | _, _, .ty n => .ty n
  | _, _, .cls h => .cls h
  | _, _, .tup h r => .tup (h.imp (fun z => ⟨z.1, fun q => z.2 (hide_mem.mpr (.inr q))⟩) id) (RelDs.unhide r)
  | _, _, .lst h n r => .lst h (fun q => n (hide_mem.mpr (.inr q))) (RelDs.unhide r)
  | _, _, .fz h r => .fz (h.imp (fun z => ⟨z.1, fun q => z.2 (hide_mem.mpr (.inr q))⟩) id) (RelDs.unhide r)
  | _, _, .ins h n c l r => .ins h (fun q => n (hide_mem.mpr (.inr q))) c l (RelDs.unhide r)
  | _, _, .dct h n l r => .dct h (fun q => n (hide_mem.mpr (.inr q))) l (RelDs.unhide r)
  | _, _, .ref h => .ref h
  | _, _, .lam h a b => .lam h ⟨a.1, fun q => a.2.1 (hide_mem.mpr (.inr q)), a.2.2⟩ ⟨b.1, fun q => b.2.1 (hide_mem.mpr (.inr q)), b.2.2⟩
theorem RelDs.unhide : ∀ {ds : List Dt} {vs : List V}, RelDs G (io.hide D) H ds vs → RelDs G io H ds vs
  | _, _, .nil => .nil
  | _, _, .cons h r => .cons (RelD.unhide h) (RelDs.unhide r)
end
theorem base_hid {o : HO} : Base (io.hide D) H (io.hide D) (upd H D o) := by
  refine ⟨fun _ _ h => h, fun b u h n _ => ⟨?_, n⟩⟩
  rw [upd_ne fun z => n (hide_mem.mpr (.inl z))]
  exact h
mutual
theorem RelD.hide (hD : H D = none) : ∀ {d : Dt} {v : V}, RelD G io H d v → RelD G (io.hide D) H d v
  | _, _, .non => .non
  | _, _, .bl b => .bl b
  | _, _, .int i => .int i
  | _, _, .str s => .str s
  | _, _, .ty n => .ty n
  | _, _, .cls h => .cls h
  | _, _, .tup h r => .tup (h.imp (fun z => ⟨z.1, fun q => (hide_mem.mp q).elim (fun e => ne_of_none z.1 hD e) z.2⟩) id) (RelDs.hide hD r)
  | _, _, .lst h n r => .lst h (fun q => (hide_mem.mp q).elim (fun e => ne_of_none h hD e) n) (RelDs.hide hD r)
  | _, _, .fz h r => .fz (h.imp (fun z => ⟨z.1, fun q => (hide_mem.mp q).elim (fun e => z.1.elim (fun k => ne_of_none k hD e) fun ⟨_, k⟩ => ne_of_none k hD e) z.2⟩) id) (RelDs.hide hD r)
  | _, _, .ins h n c l r => .ins h (fun q => (hide_mem.mp q).elim (fun e => ne_of_none h hD e) n) c l (RelDs.hide hD r)
  | _, _, .dct h n l r => .dct h (fun q => (hide_mem.mp q).elim (fun e => ne_of_none h hD e) n) l (RelDs.hide hD r)
  | _, _, .ref h => .ref h
  | _, _, .lam h a b => .lam h ⟨a.1, fun q => (hide_mem.mp q).elim (fun e => ne_of_none a.1 hD e) a.2.1, a.2.2⟩ ⟨b.1, fun q => (hide_mem.mp q).elim (fun e => ne_of_none b.1 hD e) b.2.1, b.2.2⟩
theorem RelDs.hide (hD : H D = none) : ∀ {ds : List Dt} {vs : List V}, RelDs G io H ds vs → RelDs G (io.hide D) H ds vs
  | _, _, .nil => .nil
  | _, _, .cons h r => .cons (RelD.hide hD h) (RelDs.hide hD r)
end
theorem RelO.hide (hD : H D = none) {o : Ob} {a : Addr} (r : RelO G io H o a) : RelO G (io.hide D) H o a := by
  cases r with
  | lst h k => exact .lst h (k.hide hD)
  | ins h c l k => exact .ins h c l (k.hide hD)
  | dct h l k => exact .dct h l (k.hide hD)
  | dkt h l k => exact .dkt h l (k.hide hD)
theorem RelO.unhide {o : Ob} {a : Addr} (r : RelO G (io.hide D) H o a) : RelO G io H o a := by
  cases r with
  | lst h k => exact .lst h k.unhide
  | ins h c l k => exact .ins h c l k.unhide
  | dct h l k => exact .dct h l k.unhide
  | dkt h l k => exact .dkt h l k.unhide
/-- a new list that is being made -/
theorem so_hide {S : Store} (so : StoreOk G io S H) (hD : H D = none) {o : HO} (nt : NoTx o := by exact ⟨(fun _ e => by cases e), (fun _ e => by cases e)⟩) : StoreOk G (io.hide D) S (upd H D o) := by
  have e := ExtH.new (o := o) hD
  refine ⟨so.nd, so.len, fun a ha hh => ?_, fun a ha => ?_, fun i ob a h1 h2 => ((so.ob i ob a h1 h2).hide hD).ext e, tabs_upd so.tab (pl_none hD)⟩
  · rcases List.mem_cons.mp hh with z | z
    · rw [z] at ha
      exact so.fresh hD (.inl ha)
    · exact so.dis a ha z
  · rcases List.mem_cons.mp ha with z | z
    · rw [z]
      exact ⟨o, upd_same, nt⟩
    · obtain ⟨u, q, nt⟩ := so.hid a z
      exact ⟨u, e _ _ q, nt⟩
theorem so_unhide {S : Store} (so : StoreOk G (io.hide D) S H) : StoreOk G io S H :=
  ⟨so.nd, so.len, fun a ha hh => so.dis a ha (List.mem_cons_of_mem _ hh), fun a ha => so.hid a (List.mem_cons_of_mem _ ha), fun i ob a h1 h2 => (so.ob i ob a h1 h2).unhide, so.tab⟩
/-- the hidden list grows -/
theorem so_hid {S : Store} (so : StoreOk G (io.hide D) S H) {o : HO} (hp : ∀ o, H D = some o → PlainO o := by exact pl_some (by assumption)) (nt : NoTx o := by exact ⟨(fun _ e => by cases e), (fun _ e => by cases e)⟩) : StoreOk G (io.hide D) S (upd H D o) := by
  refine ⟨so.nd, so.len, so.dis, fun a ha => ?_, fun i ob a h1 h2 => ?_, tabs_upd so.tab hp⟩
  · by_cases z : a = D
    · rw [z]
      exact ⟨o, upd_same, nt⟩
    · rw [upd_ne z]
      exact so.hid a ha
  · have na : a ≠ D := fun z => so.dis a (List.mem_of_getElem? h2) (by rw [z]; exact List.mem_cons_self)
    have q := so.ob i ob a h1 h2
    cases q with
    | lst k1 k2 => exact .lst (by rw [upd_ne na]; exact k1) (k2.monoB base_hid)
    | ins k1 c l k2 => exact .ins (by rw [upd_ne na]; exact k1) c l (k2.monoB base_hid)
    | dct k1 l k2 => exact .dct (by rw [upd_ne na]; exact k1) l (k2.monoB base_hid)
    | dkt k1 l k2 => exact .dkt (by rw [upd_ne na]; exact k1) l (k2.monoB base_hid)
theorem grow_un (g : Grow (io.hide D) H (i1.hide D) H1) : Grow io H i1 H1 := by
  obtain ⟨t, e⟩ := g.pre
  have e1 : i1.l = io.l ++ t := congrArg Io.l e
  have e2 : i1.h = io.h := (List.cons.inj (congrArg Io.h e)).2
  exact ⟨⟨t, by cases i1; simp only at e1 e2; subst e1 e2; rfl⟩, fun b o h n nt => g.keep b o h n nt, g.new⟩
end
/-- a state with a hidden list D is one of io.hide D: how the two ends fit -/
theorem io_hide {io i1 : Io} {H H1 : Hp} {D : Addr} (g : Grow (io.hide D) H i1 H1) : ∃ i2 : Io, i1 = i2.hide D := by
  obtain ⟨t, e⟩ := g.pre
  exact ⟨⟨io.l ++ t, io.h⟩, e⟩
/-- the reading of a comprehension, from the iterator on -/
theorem lc_sim {J : It} {g : TG} {tt : TT} {te : TE} {own sl : List Nat} {io : Io} {H : Hp} {S : Store} {en : Env} {σ : L2.St} {items : List Dt} {mg : Dt → Env → Option Env} {mt : Env → Store → R Bool} {m : Env → Store → R Dt} {wx : Ex → Io → Hp → Prop} {post : List Dt → Store → Io → Hp → Prop} {D : Addr}
    (hs : ∀ j ∈ sl, j ∈ own) (jo : JOk G io H J items) (so : StoreOk G io S H) (re : RelEnv G io H en σ)
    (hg : ∀ io H en σ d v (Q : L2.St → Hp → Prop), RelEnv G io H en σ → RelD G io H d v → (match mg d en with
      | some e' => ∀ σ', RelEnv G io H e' σ' → σ'.length = σ.length → (∀ j : Nat, j ∉ sl → σ'[j]? = σ[j]?) → Q σ' H
      | none => False) → g v σ H Q) (ht : SimT G W0 tt mt) (hm : SimE G W0 te m) (hD : H D = none)
    (h : Out G io H wx post (cLoop mg mt m (wipeE en own) items [] S)) (Rf : V → Hp → Prop)
    (hq : ∀ ds acc S' (io' : Io) H', Grow io H io' H' → StoreOk G (io'.hide D) S' H' → H' D = some (.lst acc) → RelDs G (io'.hide D) H' ds acc → post ds S' io' H' → Rf (.ref D) H') :
    ∃ W : Nat → Nat → Hp → Prop, (∃ m, W 0 m (upd H D (.lst []))) ∧ ∀ i m H, W i m H →
      (J.stop i H ∧ Rf (.ref D) H) ∨ (J.go i H ∧ ∃ Nx : Hp → Prop, (∀ H', Nx H' → ∃ m', m' < m ∧ W (i + 1) m' H') ∧ ∀ x H', J.yld i H x H' → g x (wipe σ own) H' fun σ2 H2 => wipe σ2 own = wipe σ own ∧ tt σ2 H2 fun b H3 =>
        if b = true then te σ2 H3 fun y H4 => ∃ acc, H4 D = some (.lst acc) ∧ acc.length < sizeLine ∧ Nx (upd H4 D (.lst (acc ++ [y]))) else Nx H3) := by
  let Wp : Nat → Nat → Hp → Prop := fun i n H' => n = items.length - i ∧ i ≤ items.length ∧ ∃ (io' : Io) (S' : Store) (dacc : List Dt) (acc : List V), Grow io H io' H' ∧ StoreOk G (io'.hide D) S' H' ∧ H' D = some (.lst acc) ∧ RelDs G (io'.hide D) H' dacc acc ∧ Out G io H wx post (cLoop mg mt m (wipeE en own) (items.drop i) dacc S')
  have gup : ∀ {i1 : Io} {H1 : Hp} {o : HO}, Grow io H i1 H1 → Grow io H i1 (upd H1 D o) := fun {i1 H1 o} g => ⟨g.pre, fun b u hb nb nt => by
    rw [upd_ne (ne_of_none hb hD)]
    exact g.keep b u hb nb nt, g.new⟩
  have base : ∀ {i1 : Io} {H1 : Hp}, Grow io H i1 H1 → Base io H (i1.hide D) H1 := fun {i1 H1} g => ⟨fun j a e => g.at e, fun b o hb nb nt => ⟨g.kp hb nb nt, fun z => (hide_mem.mp z).elim (ne_of_none hb hD) (g.notin hb nb nt)⟩⟩
  refine ⟨Wp, ⟨items.length, rfl, Nat.zero_le _, io, S, [], [], gup Grow.refl, so_hide so hD, upd_same, .nil, by simpa using h⟩, ?_⟩
  rintro i n H2 ⟨rfl, hle, i2, S2, dacc, acc, gu, s2, hD2, ra, h2⟩
  by_cases hlt : i < items.length
  · refine .inr ⟨jo.go i _ H2 (base gu) hlt, fun H' => Wp (i + 1) (items.length - (i + 1)) H', fun H' z => ⟨_, by omega, z⟩, fun x H3 hy => ?_⟩
    obtain ⟨ex, d, hd, rd⟩ := jo.yld i _ H2 x H3 (base gu) (fun _ z => s2.fresh z) hlt hy
    have g3 : Grow (i2.hide D) H2 (i2.hide D) H3 := ex.grow
    have s3 := s2.ext ex
    have edr : items.drop i = d :: items.drop (i + 1) := by
      rw [List.drop_eq_getElem_cons hlt]
      have := (List.getElem?_eq_some_iff.mp hd).2
      rw [this]
    rw [edr] at h2
    unfold cLoop at h2
    have gu3 : Grow io H i2 H3 := gu.trans (grow_un g3)
    have re3 : RelEnv G (i2.hide D) H3 en σ := ⟨re.len, fun j d e => let ⟨v, h1, h2⟩ := re.at_ j d e; ⟨v, h1, h2.monoB (base gu3)⟩⟩
    refine hg _ H3 (wipeE en own) (wipe σ own) d x _ (rel_wipe re3 own) rd ?_
    cases em : mg d (wipeE en own) with
    | none =>
      rw [em] at h2
      exact h2
    | some e1 =>
      rw [em] at h2
      intro σ2 rσ l2 u2
      refine ⟨wipe_eq hs l2 u2, ?_⟩
      -- an end wished at the base, asked with D hidden
      have lift : ∀ {α : Type} {wx : Ex → Io → Hp → Prop} {post : α → Store → Io → Hp → Prop} {r : R α} {i4 : Io} {H4 : Hp}, Grow io H i4 H4 → Out G io H wx post r.nx → Out G (i4.hide D) H4 (fun _ _ _ => False) (fun a S i5' H5 => ∀ i5 : Io, i5' = i5.hide D → Grow i4 H4 i5 H5 → post a S i5 H5) r := by
        intro α wx post r i4 H4 g4 h
        cases r with
        | ok a S =>
          intro i5' H5 g5 s5 i5 e g5'
          subst e
          exact h i5 H5 (g4.trans g5') (so_unhide s5)
        | err x S => exact h.elim
        | stuck => exact h
      refine ht _ H3 S2 e1 σ2 _ s3 rσ ((lift gu3 h2.bind0).imp (fun _ _ _ _ z => z.elim) fun b S4 i4' H4 g4 s4 k4 => ?_)
      obtain ⟨i4, rfl⟩ := io_hide g4
      have g4' := grow_un g4
      have k4 := k4 i4 rfl g4'
      have hD4 : H4 D = some (.lst acc) := g4.keep _ _ (ex _ _ hD2) fun z => s2.dis D z List.mem_cons_self
      cases b with
      | false => exact ⟨rfl, hlt, i4, S4, dacc, acc, gu3.trans g4', s4, hD4, (ra.mono g3).mono g4, k4⟩
      | true =>
        rw [if_pos rfl] at k4
        refine iteT (B := Wp (i + 1) (items.length - (i + 1)) H4) ?_
        refine hm _ H4 S4 e1 σ2 _ s4 (rσ.mono g4) ((lift (gu3.trans g4') k4.bind0).imp (fun _ _ _ _ z => z.elim) fun y S5 i5' H5 g5 s5 k5 v rv => ?_)
        obtain ⟨i5, rfl⟩ := io_hide g5
        have g5' := grow_un g5
        have k5 := k5 i5 rfl g5'
        have hD5 : H5 D = some (.lst acc) := g5.keep _ _ hD4 fun z => s4.dis D z List.mem_cons_self
        have ra5 := ((ra.mono g3).mono g4).mono g5
        split at k5
        · rename_i hl
          have la := ra.length
          exact ⟨acc, hD5, Nat.lt_of_lt_of_le (by rw [← la]; exact hl) (by decide), rfl, hlt, i5, S5, dacc ++ [y], acc ++ [v], gup ((gu3.trans g4').trans g5'), so_hid s5, upd_same, (ra5.append (.cons rv .nil)).monoB base_hid, k5⟩
        · exact k5.elim
  · have e : i = items.length := by omega
    subst e
    rw [List.drop_length] at h2
    exact .inl ⟨jo.stop _ _ H2 (base gu) (Nat.le_refl _), hq dacc acc S2 i2 H2 gu s2 hD2 ra (h2 i2 H2 gu (so_unhide s2))⟩
variable {elt tg iter : Expr} {ifs : List Expr} {scope : Scope} {own : List (Str × Nat)} {sl : List Nat} {pos : Pos} {mi : Env → Store → R (List Dt)} {mg : Dt → Env → Option Env} {mt : Env → Store → R Bool} {m : Env → Store → R Dt}
/-! the readings that a function's result gives -/
def cE (G : Gv) (W : WX) (m : Env → Store → R Dt) : TE := fun σ H Q => ∃ io S en, StoreOk G io S H ∧ RelEnv G io H en σ ∧ Out G io H (wxE G W σ) (poE G Q) (m en S)
def cT (G : Gv) (W : WX) (m : Env → Store → R Bool) : TT := fun σ H Q => ∃ io S en, StoreOk G io S H ∧ RelEnv G io H en σ ∧ Out G io H (wxE G W σ) (poT Q) (m en S)
def cGw (G : Gv) (sl : List Nat) (m : Dt → Env → Option Env) : TG := fun v σ H Q => ∃ io en d, RelEnv G io H en σ ∧ RelD G io H d v ∧ (match m d en with
    | some e' => ∀ σ', RelEnv G io H e' σ' → σ'.length = σ.length → (∀ j : Nat, j ∉ sl → σ'[j]? = σ[j]?) → Q σ' H
    | none => False)
theorem can_e {e : Expr} (h : DE G X W e m) : PE X e (cE G W m) := by
  obtain ⟨t, p, q⟩ := h
  exact ⟨fun pins s σ H Q I ⟨io, S, en, so, re, h⟩ => p.run pins s σ H Q I (q io H S en σ Q so re h)⟩
theorem can_t {ts : List Expr} (h : DTs G X W ts mt) : PTs X ts (cT G W mt) := by
  obtain ⟨t, p, q⟩ := h
  exact ⟨fun pins s σ H Q I ⟨io, S, en, so, re, h⟩ => p.run pins s σ H Q I (q io H S en σ Q so re h)⟩
theorem can_g (h : DGw G X tg sl mg) : PG X tg (cGw G sl mg) := by
  obtain ⟨t, p, q⟩ := h
  exact ⟨fun pins s σ H v u Q I r ⟨io, en, d, re, rd, h⟩ => p.run pins s σ H v u Q I r (q io H en σ d v Q re rd h)⟩
/-- [e for x in xs if t], by value -/
theorem de_lc (own : List (Str × Nat)) (hN : X.N.Nodup) (hi : DI G X W tg iter mi) (ok : BlkOk X.N X.env.scope scope own)
    (hg : ∀ (s : Shared) (H : Hp) (C : Addr) (cl : List (Str × Addr)) (fp : List Addr), DGw G (X.blk s H scope (compEnvC scope cl C X.env) fp) tg sl mg)
    (ht : ∀ (s : Shared) (H : Hp) (C : Addr) (cl : List (Str × Addr)) (fp : List Addr), DTs G (X.blk s H scope (compEnvC scope cl C X.env) fp) W0 ifs mt)
    (he : ∀ (s : Shared) (H : Hp) (C : Addr) (cl : List (Str × Addr)) (fp : List Addr), DE G (X.blk s H scope (compEnvC scope cl C X.env) fp) W0 elt m)
    (hsl : ∀ j ∈ sl, j ∈ own.map (·.2) := by decide) (hc : X.calm = true := by rfl) (hs : ∀ x, foldedSetIterable iter X.env x = pure x := by intro _; rfl) :
    DE G X W (.ListComp elt [⟨tg, iter, ifs, 0⟩] scope pos) (mLc (own.map (·.2)) mi mg mt m) := by
  obtain ⟨wi, pi, qi⟩ := hi
  refine ⟨_, pe_lc hc hN pi ok (fun s H C cl fp => can_g (hg s H C cl fp)) (fun s H C cl fp => can_t (ht s H C cl fp)) (fun s H C cl fp => can_e (he s H C cl fp)) hs, fun io H S en σ Q so re h => ?_⟩
  refine qi io H S en σ _ so re (h.bind.imp (fun _ _ _ _ z => z) fun items S1 i1 H1 g1 s1 k1 J jo => ?_)
  intro D hD
  refine lc_sim hsl jo s1 (re.mono g1) (fun io H en σ d v Q re rd h => ⟨io, en, d, re, rd, h⟩) (fun io H S e σ Q so re h => ⟨io, S, e, so, re, h⟩) (fun io H S e σ Q so re h => ⟨io, S, e, so, re, h⟩) hD k1.bind (fun v H => Q v H) ?_
  intro ds acc S' io' H' g' s' hD' rs post
  refine post io' H' Grow.refl (so_unhide s') (.ref D) (.lst hD' (fun z => ?_) rs.unhide)
  rcases z with z | z
  · exact s'.dis D z List.mem_cons_self
  · obtain ⟨t, rfl⟩ := g'.pre
    obtain ⟨u, e, _⟩ := s1.hid D z
    rw [hD] at e
    cases e
end
end Dv
set_option Elab.async false
set_option linter.all false
set_option maxRecDepth 100000
set_option maxHeartbeats 4000000
set_option autoImplicit false
namespace Dv
open PySem PySem.Spec PyProof.Rows L2
/-! ### o[i] = v of a list of the store -/
def setIx (S : Store) (x y v : Dt) : Option Store := match x, y with
  | .ref k, .int j => match S[k]? with
    | some (.lst ds) => (ixN ds.length j).map fun n => S.set k (.lst (ds.set n v))
    | _ => none
  | _, _ => none
def gSubD (mo mi : Env → Store → R Dt) : Dt → Env → Store → Option (Env × Store) := fun d en S => match mo en S with
  | .ok x S1 => match mi en S1 with
    | .ok y S2 => (setIx S2 x y d).map fun S3 => (en, S3)
    | _ => none
  | _ => none
section
variable {G : Gv} {X : Cx} {W : WX}
theorem setIx_ok {io : Io} {H : Hp} {S S' : Store} {x y d : Dt} {vx vy v : V} (so : StoreOk G io S H) (rx : RelD G io H x vx) (ry : RelD G io H y vy) (rd : RelD G io H d v) (h : setIx S x y d = some S') :
    ∃ p xs k j, vx = .ref p ∧ vy = .int k ∧ H p = some (.lst xs) ∧ ixN xs.length k = some j ∧ Grow io H io (upd H p (.lst (xs.set j v))) ∧ StoreOk G io S' (upd H p (.lst (xs.set j v))) := by
  unfold setIx at h
  split at h
  · rename_i k j
    split at h
    · rename_i ds hs
      obtain ⟨n, hn, rfl⟩ := map_some h
      cases rx with
      | ref e =>
        cases ry
        obtain ⟨a, h1, h2⟩ := so.at_ hs
        rw [e] at h1
        cases h1
        cases h2 with
        | lst h3 h4 =>
          have l := h4.length
          have g0 := (so.write (u := .lst (List.set _ n v)) e (.lst upd_same ((RelDs.set n rd h4).monoB ⟨fun _ _ z => z, fun b o hb nb _ => ⟨by
            rw [upd_ne fun z => nb (by rw [z]; exact .inl (List.mem_of_getElem? e))]
            exact hb, nb⟩⟩)))
          exact ⟨_, _, j, n, rfl, rfl, h3, by rw [← l]; exact hn, g0.1, g0.2⟩
    · cases h
  · cases h
theorem dg_sub {o i : Expr} {mo mi : Env → Store → R Dt} {pos : Pos} (ho : DE G X W0 o mo) (hi : DE G X W0 i mi)
    (ha : ∀ v, assign (.Subscript o i pos) X.env v = (do
      let ov ← holding [v] (eval o X.env)
      let iv ← holding [v, ov] (eval i X.env)
      standAt pos
      holding [v, ov, iv] (setItem ov iv v)
      release [v, ov, iv] []) := by intro _; rfl) : DG G X (.Subscript o i pos) (gSubD mo mi) := by
  obtain ⟨t, p, q⟩ := ho
  obtain ⟨t', p', q'⟩ := hi
  refine ⟨_, pg_sub p p' set_list ha, fun io H S en σ d v Q so re r h => ?_⟩
  unfold gSubD at h
  refine q io H S en σ _ so re ?_
  cases eo : mo en S with
  | stuck => simp [eo] at h
  | err x S1 => simp [eo] at h
  | ok x S1 =>
    simp only [eo] at h
    intro i1 H1 g1 s1 vx rx
    refine q' i1 H1 S1 en σ _ s1 (re.mono g1) ?_
    cases ei : mi en S1 with
    | stuck => simp [ei] at h
    | err x S1 => simp [ei] at h
    | ok y S2 =>
      simp only [ei] at h
      intro i2 H2 g2 s2 vy ry
      cases es : setIx S2 x y d with
      | none => simp [es] at h
      | some S3 =>
        simp only [es, Option.map_some] at h
        obtain ⟨p, xs, k, j, h1, h2, h3, h4, g3, s3⟩ := setIx_ok s2 (rx.mono g2) ry (r.mono (g1.trans g2)) es
        exact ⟨p, xs, k, j, h1, h2, h3, h4, h i2 _ ((g1.trans g2).trans g3) s3 σ (re.mono ((g1.trans g2).trans g3))⟩
/-! ### methods of a list of the store -/
def mApp (S : Store) (x d : Dt) : R Dt := match x with
  | .ref k => match S[k]? with
    | some (.lst ds) => if ds.length < 1000000 then .ok .non (S.set k (.lst (ds ++ [d]))) else .stuck
    | _ => .stuck
  | _ => .stuck
def isLstR (S : Store) (x : Dt) : Bool := match x with
  | .ref k => match S[k]? with
    | some (.lst _) => true
    | _ => false
  | _ => false
def mApp1 (mo me : Env → Store → R Dt) : Env → Store → R Dt := fun en S => (mo en S).bind fun x S1 => if isLstR S1 x = true then (me en S1).bind fun d S2 => mApp S2 x d else .stuck
variable {o e : Expr} {mo me : Env → Store → R Dt} {apos cpos : Pos}
theorem isLstR_ok {io : Io} {H : Hp} {S : Store} {x : Dt} {v : V} (so : StoreOk G io S H) (r : RelD G io H x v) (h : isLstR S x = true) : ∃ k ds p xs, x = .ref k ∧ S[k]? = some (.lst ds) ∧ io.l[k]? = some p ∧ v = .ref p ∧ H p = some (.lst xs) ∧ RelDs G io H ds xs := by
  unfold isLstR at h
  split at h
  · rename_i k
    split at h
    · rename_i ds hs
      cases r with
      | ref e =>
        obtain ⟨a, h1, h2⟩ := so.at_ hs
        rw [e] at h1
        cases h1
        cases h2 with
        | lst h3 h4 => exact ⟨k, ds, _, _, rfl, hs, e, rfl, h3, h4⟩
    · cases h
  · cases h
theorem so_wr {io : Io} {H : Hp} {S : Store} {k : Nat} {p : Addr} {ds : List Dt} {xs : List V} (so : StoreOk G io S H) (hp : io.l[k]? = some p) (r : RelDs G io H ds xs) :
    Grow io H io (upd H p (.lst xs)) ∧ StoreOk G io (S.set k (.lst ds)) (upd H p (.lst xs)) :=
  so.write (u := .lst xs) hp (.lst upd_same (r.monoB ⟨fun _ _ z => z, fun b o hb nb _ => ⟨by
    rw [upd_ne fun z => nb (by rw [z]; exact .inl (List.mem_of_getElem? hp))]
    exact hb, nb⟩⟩))
/-- xs.append(e); the receiver is looked at ahead of the argument -/
theorem de_append (ho : DE G X W o mo) (he : DE G X W e me) (hK : X.K = G.K := by rfl)
    (hbase : attributeBase o "append" X.env (eval o X.env) = eval o X.env := by rfl)
    (hfew : ((backTo cpos (starEach [e] X.env)).all (fun x => !x.1) && (backToKw cpos (keywordEach [] X.env)).all (fun x => x.1.isSome)
      && decide ([e].length + ([] : List Keyword).length + (if ([] : List Keyword).isEmpty then 0 else 1) < 30)) = true := by rfl)
    (hline : (apos.endLine == cpos.line) = true := by rfl) (hs : starEach [e] X.env = (false, eval e X.env) :: starEach [] X.env := by rfl) :
    DE G X W (.Call (.Attribute o "append" apos) [e] [] cpos) (mApp1 mo me) := by
  obtain ⟨t, p, q⟩ := ho
  obtain ⟨t', p', q'⟩ := he
  refine ⟨_, pe_bm PySem.F.plainAttrs_list PySem.F.slot_list_append PySem.F.type_list_append mt_append p (pa_cons p' pa_nil hs) hbase hfew hline hs rfl, fun io H S en σ Q so re h => ?_⟩
  refine q io H S en σ _ so re (h.bind.imp (fun _ _ _ _ z => z) fun x S1 i1 H1 g1 s1 k1 v r => ?_)
  split at k1
  · rename_i hl
    obtain ⟨k, ds, a, xs, rfl, hS, ha, rfl, hH, rs⟩ := isLstR_ok s1 r hl
    refine ⟨.inl ⟨rfl, xs, .inl (.inl hH)⟩, ?_⟩
    refine q' i1 H1 S1 en σ _ s1 (re.mono g1) (k1.bind.imp (fun _ _ _ _ z => z) fun d S2 i2 H2 g2 s2 k2 vd rd => ?_)
    unfold mApp at k2
    dsimp only at k2
    split at k2
    · rename_i ds2 hS2
      split at k2
      · rename_i hlen
        have e2 := g2.at ha
        obtain ⟨a', h1, h2⟩ := s2.at_ hS2
        rw [e2] at h1
        cases h1
        cases h2 with
        | lst h3 h4 =>
          have l := h4.length
          obtain ⟨g3, s3⟩ := so_wr (ds := ds2 ++ [d]) s2 e2 (h4.append (.cons rd .nil))
          exact ⟨a, _, vd, rfl, rfl, h3, Nat.lt_of_lt_of_le (by rw [← l]; exact hlen) (by decide), k2 i2 _ g3 s3 _ .non⟩
      · exact k2.elim
    · exact k2.elim
  · exact k1.elim
/-- x += e, x -= e: ints, texts -/
def mAug (i : Nat) (m : Dt → Dt → Store → R Dt) (me : Env → Store → R Dt) : Env → Store → RS := fun en S => match en[i]? with
  | some (some x) => (me en S).toS en fun y S1 => (m x y S1).toS en fun z S2 => .ok .nx (en.set i (some z)) S2
  | _ => .stuck
def mIAdd (x y : Dt) (S : Store) : R Dt := match x, y with
  | .int i, .int j => .ok (.int (i + j)) S
  | .str a, .str b => if a.length + b.length ≤ 100000 then .ok (.str (a ++ b)) S else .stuck
  | _, _ => .stuck
end
end Dv
set_option Elab.async false
set_option linter.all false
set_option maxRecDepth 100000
set_option maxHeartbeats 4000000
set_option autoImplicit false
namespace Dv
open PySem PySem.Spec PyProof.Rows L2
section
variable {G : Gv} {X : Cx} {W : WX}
theorem de_gintE {x : Str} {i : Int} {pos : Pos} (hg : Gl X x) (hm : ∃ t, X.mg x = some (.int i t)) (hd : (x == ("__debug__" : Str)) = false := by decide) : DE G X W (.Name x pos) (mC (.int i)) := by
  obtain ⟨t, hm⟩ := hm
  exact de_gint hg hm hd
theorem de_gstrE {x : Str} {i : Str} {pos : Pos} (hg : Gl X x) (hm : ∃ t, X.mg x = some (.str i t)) (hd : (x == ("__debug__" : Str)) = false := by decide) : DE G X W (.Name x pos) (mC (.str i)) := by
  obtain ⟨t, hm⟩ := hm
  exact de_gstr hg hm hd
end
section
variable {P : Program} {w : World} {K : PySem.W.Frag} {mg : Str → Option Value} {base : Heap} {G : Gv}
theorem fn_stuck {k np : Nat} {f : Addr} {fd : FuncData} {ps : List Str} : FnOk P w K mg base (L2.CX P w) k f fd ps (spF G np fun _ _ => .stuck) :=
  ⟨fun vs H Q E ⟨_, _, _, _, _, _, h⟩ => h.elim, fun A outer s H args us vs Q E hr e0 hb rv ⟨_, _, _, _, _, _, h⟩ => h.elim⟩
def spLaw (K : PySem.W.Frag) (T : List (Addr × Str)) : Sp := fun vs H Q _ => ∃ (a : Addr) (ns : List Int), vs = [.ref a] ∧ SqL K H a (ns.map V.int) ∧ ns.length ≤ 63 ∧ LamX.Tabs T H ∧ ∀ H', Q (.bl true) H'
theorem rel_ints {io : Io} {H : Hp} : ∀ ns : List Int, RelDs G io H (ns.map Dt.int) (ns.map V.int)
  | [] => .nil
  | n :: ns => .cons (.int n) (rel_ints ns)
/-- the law's promise from what its function gives -/
theorem law_sp {k : Nat} {f : Addr} {fd : FuncData} {ps : List Str} {m : Fn} (hG : G.K = K) (F : FnOk P w K mg base (L2.CX P w) k f fd ps (spF G 1 m)) (h : ∀ ns : List Int, ns.length ≤ 63 → ∃ S, m [.fz (ns.map Dt.int)] [] = .ok (.bl true) S) :
    FnOk P w K mg base (L2.CX P w) k f fd ps (spLaw K G.T) := F.imp fun vs H Q E ⟨a, ns, e, hS, hl, hT, q⟩ => by
  subst e
  obtain ⟨S, hm⟩ := h ns hl
  refine ⟨⟨[], []⟩, [], [.fz (ns.map Dt.int)], ⟨List.nodup_nil, rfl, (fun _ h => by cases h), (fun _ h => by cases h), (fun i o a h => by simp at h), hT⟩, .cons (.fz ?_ (rel_ints ns)) .nil, rfl, ?_⟩
  · rw [hG]
    rcases hS with h | h
    · exact .inl ⟨h, fun z => by rcases z with z | z <;> cases z⟩
    · exact .inr h
  · rw [hm]
    intro io' H' g s v r
    cases r
    exact q H'
end
/-- a body -/
abbrev Bd := Env → Store → RS
end Dv
set_option Elab.async false
set_option linter.all false
set_option maxRecDepth 100000
set_option maxHeartbeats 4000000
set_option autoImplicit false
/-! what a function comes to, step by step: Q of a value and a store, X of an error -/
namespace Dv
open PySem L2
def Pe {α : Type} (r : R α) (Q : α → Store → Prop) (X : Ex → Store → Prop) : Prop := match r with
  | .ok a S => Q a S
  | .err x S => X x S
  | .stuck => False
def Ps (r : RS) (Q : Fl → Env → Store → Prop) (X : Ex → Env → Store → Prop) : Prop := match r with
  | .ok f e S => Q f e S
  | .err x e S => X x e S
  | .stuck => False
abbrev X0 : Ex → Store → Prop := fun _ _ => False
theorem Pe.eq {α : Type} {r : R α} {a : α} {S : Store} (h : Pe r (fun b T => b = a ∧ T = S) X0) : r = .ok a S := by
  cases r with
  | ok b T => obtain ⟨rfl, rfl⟩ := h; rfl
  | err x T => exact h.elim
  | stuck => exact h.elim
theorem Pe.of {α : Type} {r : R α} {a : α} {S : Store} {Q : α → Store → Prop} {X : Ex → Store → Prop} (e : r = .ok a S) (h : Q a S) : Pe r Q X := by
  rw [e]
  exact h
theorem Pe.imp {α : Type} {r : R α} {Q Q' : α → Store → Prop} {X X' : Ex → Store → Prop} (h : Pe r Q X) (hq : ∀ a S, Q a S → Q' a S) (hx : ∀ x S, X x S → X' x S) : Pe r Q' X' := by
  cases r with
  | ok b T => exact hq _ _ h
  | err x T => exact hx _ _ h
  | stuck => exact h.elim
theorem Pe.ex {α : Type} {r : R α} {Q : α → Store → Prop} (h : Pe r Q X0) : ∃ a S, r = .ok a S ∧ Q a S := by
  cases r with
  | ok b T => exact ⟨b, T, rfl, h⟩
  | err x T => exact h.elim
  | stuck => exact h.elim
theorem Pe.bind {α β : Type} {r : R α} {f : α → Store → R β} {Q : β → Store → Prop} {X : Ex → Store → Prop} (h : Pe r (fun a S => Pe (f a S) Q X) X) : Pe (r.bind f) Q X := by cases r <;> exact h
theorem Pe.toS {α : Type} {r : R α} {e : Env} {f : α → Store → RS} {Q : Fl → Env → Store → Prop} {X : Ex → Env → Store → Prop} (h : Pe r (fun a S => Ps (f a S) Q X) (fun x S => X x e S)) : Ps (r.toS e f) Q X := by cases r <;> exact h
theorem v_ok {α : Type} {a : α} {S : Store} {Q : α → Store → Prop} {X : Ex → Store → Prop} (h : Q a S) : Pe (.ok a S) Q X := h
theorem v_ifok {α : Type} {c : Prop} [Decidable c] {a : α} {S : Store} {Q : α → Store → Prop} {X : Ex → Store → Prop} (hc : c) (h : Q a S) : Pe (if c then R.ok a S else .stuck) Q X := by
  rw [if_pos hc]
  exact h
section
variable {en : Env} {S : Store} {Q : Dt → Store → Prop} {QA : List Dt → Store → Prop} {QB : Bool → Store → Prop} {X : Ex → Store → Prop} {QS : Fl → Env → Store → Prop} {XS : Ex → Env → Store → Prop} {ma mb mc me : Env → Store → R Dt} {ta tb : Env → Store → R Bool} {ms : Env → Store → R (List Dt)} {ba bb : Env → Store → RS}
theorem v_var {i : Nat} {d : Dt} (h : en[i]? = some (some d)) (q : Q d S) : Pe (mVar i en S) Q X := by
  unfold mVar
  rw [h]
  exact q
theorem v_c {d : Dt} (q : Q d S) : Pe (mC d en S) Q X := q
theorem v_nil (q : QA [] S) : Pe (mNil en S) QA X := q
theorem v_cons (h : Pe (ma en S) (fun d S1 => Pe (ms en S1) (fun ds S2 => QA (d :: ds) S2) X) X) : Pe (mCons ma ms en S) QA X := by
  refine Pe.bind (h.imp (fun d S1 k => ?_) fun _ _ z => z)
  exact Pe.bind k
theorem v_op {m : Dt → Dt → Store → R Dt} (h : Pe (ma en S) (fun x S1 => Pe (mb en S1) (fun y S2 => Pe (m x y S2) Q X) X) X) : Pe (mOp m ma mb en S) Q X :=
  Pe.bind (h.imp (fun _ _ k => Pe.bind k) fun _ _ z => z)
theorem v_B (h : Pe (ma en S) (fun d S1 => ∃ b, d = .bl b ∧ QB b S1) X) : Pe (mB ma en S) QB X := by
  refine Pe.bind (h.imp (fun d S1 ⟨b, e, k⟩ => ?_) fun _ _ z => z)
  subst e
  exact k
theorem v_truth (h : Pe (ma en S) (fun d S1 => ∃ b, tru S1 d = some b ∧ QB b S1) X) : Pe (mTruth ma en S) QB X := by
  refine Pe.bind (h.imp (fun d S1 ⟨b, e, k⟩ => ?_) fun _ _ z => z)
  rw [e]
  exact k
theorem v_andT (h : Pe (ta en S) (fun b S1 => if b = true then Pe (tb en S1) QB X else QB false S1) X) : Pe (mAndT ta tb en S) QB X := by
  refine Pe.bind (h.imp (fun b S1 k => ?_) fun _ _ z => z)
  cases b with
  | true => exact k
  | false => exact k
theorem v_orT (h : Pe (ta en S) (fun b S1 => if b = true then QB true S1 else Pe (tb en S1) QB X) X) : Pe (mOrT ta tb en S) QB X := by
  refine Pe.bind (h.imp (fun b S1 k => ?_) fun _ _ z => z)
  cases b with
  | true => exact k
  | false => exact k
theorem v_notT (h : Pe (ta en S) (fun b S1 => QB (!b) S1) X) : Pe (mNotT ta en S) QB X := Pe.bind h
theorem v_andV (h : Pe (ma en S) (fun d S1 => ∃ b, tru S1 d = some b ∧ if b = true then Pe (mb en S1) Q X else Q d S1) X) : Pe (mAndV ma mb en S) Q X := by
  refine Pe.bind (h.imp (fun d S1 ⟨b, e, k⟩ => ?_) fun _ _ z => z)
  cases b with
  | true => rw [e]; exact k
  | false => rw [e]; exact k
theorem v_orV (h : Pe (ma en S) (fun d S1 => ∃ b, tru S1 d = some b ∧ if b = true then Q d S1 else Pe (mb en S1) Q X) X) : Pe (mOrV ma mb en S) Q X := by
  refine Pe.bind (h.imp (fun d S1 ⟨b, e, k⟩ => ?_) fun _ _ z => z)
  cases b with
  | true => rw [e]; exact k
  | false => rw [e]; exact k
theorem v_notV (h : Pe (ma en S) (fun d S1 => ∃ b, tru S1 d = some b ∧ Q (.bl (!b)) S1) X) : Pe (mNotV ma en S) Q X := by
  refine Pe.bind (h.imp (fun d S1 ⟨b, e, k⟩ => ?_) fun _ _ z => z)
  rw [e]
  exact k
theorem v_if (h : Pe (ta en S) (fun b S1 => if b = true then Pe (ma en S1) Q X else Pe (mb en S1) Q X) X) : Pe (mIf ta ma mb en S) Q X := by
  refine Pe.bind (h.imp (fun b S1 k => ?_) fun _ _ z => z)
  cases b with
  | true => exact k
  | false => exact k
theorem v_neg (h : Pe (ma en S) (fun d S1 => ∃ i, d = .int i ∧ Q (.int (-i)) S1) X) : Pe (mNeg ma en S) Q X := by
  refine Pe.bind (h.imp (fun d S1 ⟨b, e, k⟩ => ?_) fun _ _ z => z)
  subst e
  exact k
theorem v_chain {m m' : Dt → Dt → Store → R Dt} (h : Pe (ma en S) (fun x S1 => Pe (mb en S1) (fun y S2 => Pe (m x y S2) (fun z S3 => ∃ b, z = .bl b ∧ if b = true then Pe (mc en S3) (fun w S4 => Pe (m' y w S4) Q X) X else Q (.bl false) S3) X) X) X) : Pe (mChain m m' ma mb mc en S) Q X := by
  refine Pe.bind (h.imp (fun d S1 k => Pe.bind (k.imp (fun d' S2 k => Pe.bind (k.imp (fun d2 S3 ⟨b, e, k⟩ => ?_) fun _ _ z => z)) fun _ _ z => z)) fun _ _ z => z)
  subst e
  cases b with
  | true => exact Pe.bind k
  | false => exact k
theorem v_tup (h : Pe (ms en S) (fun ds S1 => ds.length ≤ 1000 ∧ Q (.tup ds) S1) X) : Pe (mTup ms en S) Q X := by
  refine Pe.bind (h.imp (fun d S1 ⟨e, k⟩ => ?_) fun _ _ z => z)
  rw [if_pos e]
  exact k
theorem v_lst (h : Pe (ms en S) (fun ds S1 => ds.length ≤ 1000 ∧ Q (.lst ds) S1) X) : Pe (mLst ms en S) Q X := by
  refine Pe.bind (h.imp (fun d S1 ⟨e, k⟩ => ?_) fun _ _ z => z)
  rw [if_pos e]
  exact k
theorem v_lstR (h : Pe (ms en S) (fun ds S1 => ds.length ≤ 1000 ∧ Q (.ref S1.length) (S1 ++ [.lst ds])) X) : Pe (mLstR ms en S) Q X := by
  refine Pe.bind (h.imp (fun d S1 ⟨e, k⟩ => ?_) fun _ _ z => z)
  rw [if_pos e]
  exact k
theorem v_ix {x d : Dt} {i : Int} (e : ixD S x i = some d) (q : Q d S) : Pe (mIx x (.int i) S) Q X := by
  unfold mIx
  dsimp only
  rw [e]
  exact q
theorem v_noPart {QO : Option Int → Store → Prop} (q : QO none S) : Pe (mNoPart en S) QO X := q
theorem v_part {QO : Option Int → Store → Prop} (h : Pe (ma en S) (fun d S1 => ∃ i, d = .int i ∧ QO (some i) S1) X) : Pe (mPart ma en S) QO X := by
  refine Pe.bind (h.imp (fun d S1 ⟨b, e, k⟩ => ?_) fun _ _ z => z)
  subst e
  exact k
theorem v_sl {ml mh : Env → Store → R (Option Int)} (h : Pe (ma en S) (fun x S1 => Pe (ml en S1) (fun l S2 => Pe (mh en S2) (fun u S3 => ∃ d, slD S3 x l u = some d ∧ Q d S3) X) X) X) : Pe (mSl ma ml mh en S) Q X := by
  refine Pe.bind (h.imp (fun d S1 k => Pe.bind (k.imp (fun d' S2 k => Pe.bind (k.imp (fun d2 S3 ⟨b, e, k⟩ => ?_) fun _ _ z => z)) fun _ _ z => z)) fun _ _ z => z)
  rw [e]
  exact k
theorem v_CB {m : List Dt → Store → R Dt} (h : Pe (ms en S) (fun ds S1 => Pe (m ds S1) Q X) X) : Pe (mCB m ms en S) Q X := Pe.bind h
theorem v_call {np : Nat} {m : Fn} (h : Pe (ms en S) (fun ds S1 => ds.length = np ∧ Pe (m ds S1) Q X) X) : Pe (mCall np m ms en S) Q X := by
  refine Pe.bind (h.imp (fun d S1 ⟨e, k⟩ => ?_) fun _ _ z => z)
  rw [if_pos e]
  exact k
theorem v_abs {i : Int} (q : Q (.int (if i < 0 then -i else i)) S) : Pe (mAbs [.int i] S) Q X := q
theorem v_len {d : Dt} {n : Nat} (e : lenD S d = some n) (q : Q (.int n) S) : Pe (mLen [d] S) Q X := by
  unfold mLen
  dsimp only
  rw [e]
  exact q
theorem v_list {d : Dt} {ds : List Dt} (e : asS S d = some ds) (q : Q (.lst ds) S) : Pe (mList [d] S) Q X := by
  unfold mList
  dsimp only
  rw [e]
  exact q
theorem v_listR {d : Dt} {ds : List Dt} (e : asS S d = some ds) (q : Q (.ref S.length) (S ++ [.lst ds])) : Pe (mListR [d] S) Q X := by
  unfold mListR
  dsimp only
  rw [e]
  exact q
theorem v_tuple {d : Dt} {ds : List Dt} (e : asS S d = some ds) (q : Q (.tup ds) S) : Pe (mTuple [d] S) Q X := by
  unfold mTuple
  dsimp only
  rw [e]
  exact q
/-! statements -/
theorem v_seq (h : Ps (ba en S) (fun f e1 S1 => match f with | .nx => Ps (bb e1 S1) QS XS | f => QS f e1 S1) XS) : Ps (mSeq ba bb en S) QS XS := by
  unfold mSeq
  cases e : ba en S with
  | ok f e1 S1 =>
    rw [e] at h
    cases f <;> exact h
  | err x e1 S1 => rw [e] at h; exact h
  | stuck => rw [e] at h; exact h
theorem v_set {i : Nat} (h : Pe (me en S) (fun d S1 => QS .nx (en.set i (some d)) S1) (fun x S1 => XS x en S1)) : Ps (mSet i me en S) QS XS := Pe.toS h
theorem v_asg {g : Dt → Env → Store → Option (Env × Store)} (h : Pe (me en S) (fun d S1 => ∃ e' S', g d en S1 = some (e', S') ∧ QS .nx e' S') (fun x S1 => XS x en S1)) : Ps (mAsg g me en S) QS XS := by
  refine Pe.toS (h.imp (fun d S1 ⟨e', S', e, k⟩ => ?_) fun _ _ z => z)
  rw [e]
  exact k
theorem v_par {i j : Nat} (h : Pe (ms en S) (fun ds S1 => ∃ d d', ds = [d, d'] ∧ QS .nx ((en.set i (some d)).set j (some d')) S1) (fun x S1 => XS x en S1)) : Ps (mPar i j ms en S) QS XS := by
  refine Pe.toS (h.imp (fun d S1 ⟨e', S', e, k⟩ => ?_) fun _ _ z => z)
  subst e
  exact k
theorem v_drop (h : Pe (me en S) (fun _ S1 => QS .nx en S1) (fun x S1 => XS x en S1)) : Ps (mDrop me en S) QS XS := Pe.toS h
theorem v_ret (h : Pe (me en S) (fun d S1 => QS (.rt d) en S1) (fun x S1 => XS x en S1)) : Ps (mRet me en S) QS XS := Pe.toS h
theorem v_ifS (h : Pe (ta en S) (fun t S1 => if t = true then Ps (ba en S1) QS XS else Ps (bb en S1) QS XS) (fun x S1 => XS x en S1)) : Ps (mIfS ta ba bb en S) QS XS := by
  refine Pe.toS (h.imp (fun t S1 k => ?_) fun _ _ z => z)
  cases t with
  | true => exact k
  | false => exact k
theorem v_nx (q : QS .nx en S) : Ps (mNx en S) QS XS := q
theorem v_bk (q : QS .bk en S) : Ps (mBk en S) QS XS := q
theorem v_ct (q : QS .ct en S) : Ps (mCt en S) QS XS := q
theorem v_retN (q : QS (.rt .non) en S) : Ps (mRetN en S) QS XS := q
theorem v_for {mi : Env → Store → R (List Dt)} {g : Dt → Env → Store → Option (Env × Store)} (h : Pe (mi en S) (fun items S1 => Ps (fLoop g ba items en S1) QS XS) (fun x S1 => XS x en S1)) : Ps (mFor mi g ba en S) QS XS := Pe.toS h
/-- a for by its invariant over what is left -/
theorem v_loop {g : Dt → Env → Store → Option (Env × Store)} {items : List Dt} (I : List Dt → Env → Store → Prop) (h0 : I items en S)
    (hs : ∀ d ds en S, I (d :: ds) en S → ∃ e1 S1, g d en S = some (e1, S1) ∧ Ps (ba e1 S1) (fun f e2 S2 => match f with | .nx => I ds e2 S2 | .ct => I ds e2 S2 | .bk => QS .nx e2 S2 | .rt d => QS (.rt d) e2 S2) XS)
    (hd : ∀ en S, I [] en S → QS .nx en S) : Ps (fLoop g ba items en S) QS XS := by
  induction items generalizing en S with
  | nil => exact hd en S h0
  | cons d ds ih =>
    obtain ⟨e1, S1, e, k⟩ := hs d ds en S h0
    unfold fLoop
    rw [e]
    dsimp only
    cases eb : ba e1 S1 with
    | stuck => rw [eb] at k; exact k
    | err x e2 S2 => rw [eb] at k; exact k
    | ok f e2 S2 =>
      rw [eb] at k
      cases f with
      | nx => exact ih k
      | ct => exact ih k
      | bk => exact k
      | rt d => exact k
/-- a def -/
theorem v_fn {nl : Nat} {keep : Bool} {ds : List Dt} (h : Ps (ba (ds.map some ++ List.replicate (nl - ds.length) none) S) (fun f _ S' => match f with
    | .rt d => Pe (fin keep S.length d S') Q X
    | .nx => Pe (fin keep S.length .non S') Q X
    | _ => False) (fun x _ S' => Pe (finX keep S.length x S') Q X)) : Pe (fnRun nl keep ba ds S) Q X := by
  unfold fnRun
  cases e : ba (ds.map some ++ List.replicate (nl - ds.length) none) S with
  | stuck => rw [e] at h; exact h
  | err x e1 S1 => rw [e] at h; exact h
  | ok f e1 S1 =>
    rw [e] at h
    cases f with
    | nx => exact h
    | rt d => exact h
    | bk => exact h
    | ct => exact h
theorem v_fin {keep : Bool} {n : Nat} {d : Dt} (hc : keep = true ∨ S.length = n) (q : Q d S) : Pe (fin keep n d S) Q X := by
  unfold fin
  rw [if_pos hc]
  exact q
/-! comprehensions -/
theorem v_lc {sl : List Nat} {mi : Env → Store → R (List Dt)} {g : Dt → Env → Option Env} (h : Pe (mi en S) (fun items S1 => Pe (cLoop g ta me (wipeE en sl) items [] S1) (fun ds S2 => Q (.lst ds) S2) X) X) : Pe (mLc sl mi g ta me en S) Q X :=
  Pe.bind (h.imp (fun _ _ k => Pe.bind (k.imp (fun _ _ q => q) fun _ _ z => z)) fun _ _ z => z)
theorem Pe.nx {α : Type} {r : R α} {Q : α → Store → Prop} (h : Pe r Q X0) : Pe r.nx Q X := by
  cases r with
  | ok a S => exact h
  | err x S => exact h.elim
  | stuck => exact h.elim
/-- a comprehension that keeps the store: each item gives its value, or is left out -/
theorem v_cloop {g : Dt → Env → Option Env} {items : List Dt} {acc : List Dt} (f : Dt → Option Dt)
    (hs : ∀ d ∈ items, ∃ e1, g d en = some e1 ∧ Pe (ta e1 S) (fun b S1 => S1 = S ∧ if b = true then Pe (me e1 S) (fun x S2 => S2 = S ∧ f d = some x) X0 else f d = none) X0)
    (hl : acc.length + items.length ≤ 1000000) (q : QA (acc ++ items.filterMap f) S) : Pe (cLoop g ta me en items acc S) QA X := by
  induction items generalizing acc with
  | nil =>
    rw [List.filterMap_nil, List.append_nil] at q
    exact q
  | cons d ds ih =>
    obtain ⟨e1, e, p⟩ := hs d List.mem_cons_self
    unfold cLoop
    rw [e]
    dsimp only
    rw [List.length_cons] at hl
    refine Pe.bind (Pe.nx (p.imp (fun b S1 ⟨eS, k⟩ => ?_) fun _ _ z => z))
    subst eS
    cases b with
    | false =>
      rw [if_neg Bool.false_ne_true] at k ⊢
      rw [List.filterMap_cons, k] at q
      exact ih (fun x hx => hs x (List.mem_cons_of_mem _ hx)) (by omega) q
    | true =>
      rw [if_pos rfl] at k ⊢
      refine Pe.bind (Pe.nx (k.imp (fun x S2 ⟨eS2, k2⟩ => ?_) fun _ _ z => z))
      subst eS2
      rw [if_pos (by omega)]
      rw [List.filterMap_cons, k2] at q
      refine ih (fun x hx => hs x (List.mem_cons_of_mem _ hx)) (by rw [List.length_append, List.length_singleton]; omega) ?_
      rw [List.append_assoc]
      exact q
theorem v_yes (q : QB true S) : Pe (mYes en S) QB X := q
theorem v_it {d : Dt} {ds : List Dt} (h : Pe (me en S) (fun d S1 => ∃ ds, itemsD d = some ds ∧ QA ds S1) X) : Pe (mIt me en S) QA X := by
  refine Pe.bind (h.imp (fun d S1 ⟨b, e, k⟩ => ?_) fun _ _ z => z)
  rw [e]
  exact k
theorem v_rng1 (h : Pe (ms en S) (fun ds S1 => ∃ j, ds = [.int j] ∧ rngOk j = true ∧ QA (rangeD 0 j.toNat) S1) X) : Pe (mRng1 ms en S) QA X := by
  refine Pe.bind (h.imp (fun d S1 ⟨b, e, r, k⟩ => ?_) fun _ _ z => z)
  subst e
  dsimp only
  rw [if_pos r]
  exact k
theorem v_rng2 (h : Pe (ms en S) (fun ds S1 => ∃ i j, ds = [.int i, .int j] ∧ (rngOk i = true ∧ rngOk j = true) ∧ QA (rangeD i (j - i).toNat) S1) X) : Pe (mRng2 ms en S) QA X := by
  refine Pe.bind (h.imp (fun d S1 ⟨b, b', e, r, k⟩ => ?_) fun _ _ z => z)
  subst e
  dsimp only
  rw [if_pos r]
  exact k
/-! the ways of a test -/
theorem v_dec {p A B : Prop} [Decidable p] (h1 : p → A) (h2 : ¬p → B) : if decide p = true then A else B := by
  by_cases h : p
  · rw [decide_eq_true h, if_pos rfl]
    exact h1 h
  · rw [decide_eq_false h, if_neg Bool.false_ne_true]
    exact h2 h
theorem v_ndec {p A B : Prop} [Decidable p] (h1 : ¬p → A) (h2 : p → B) : if (!decide p) = true then A else B := by
  by_cases h : p
  · rw [decide_eq_true h, if_neg (by simp)]
    exact h2 h
  · rw [decide_eq_false h, if_pos (by simp)]
    exact h1 h
theorem v_T {A B : Prop} (h : A) : if true = true then A else B := h
theorem v_F {A B : Prop} (h : B) : if false = true then A else B := h
end
section
variable {en : Env} {S : Store} {Q : Dt → Store → Prop} {X : Ex → Store → Prop}
theorem v_div {i j : Int} (h0 : j ≠ 0) (hl : j.natAbs.log2 < 9000) (q : Q (.int (i.fdiv j)) S) : Pe (mDiv (.int i) (.int j) S) Q X := by
  refine v_ifok ?_ q
  unfold divOk
  rw [Bool.and_eq_true]
  exact ⟨decide_eq_true h0, decide_eq_true hl⟩
theorem v_mod {i j : Int} (h0 : j ≠ 0) (q : Q (.int (i.fmod j)) S) : Pe (mMod (.int i) (.int j) S) Q X := v_ifok h0 q
theorem v_mulL {i j : Int} (h : i.natAbs < 2 ^ 64) (q : Q (.int (i * j)) S) : Pe (mMul (.int i) (.int j) S) Q X := by
  refine v_ifok ?_ q
  unfold mulOk
  rw [decide_eq_true h]
  rfl
theorem v_mulR {i j : Int} (h : j.natAbs < 2 ^ 64) (q : Q (.int (i * j)) S) : Pe (mMul (.int i) (.int j) S) Q X := by
  refine v_ifok ?_ q
  unfold mulOk
  rw [decide_eq_true h, Bool.or_true]
  rfl
theorem v_pow {i j : Int} (h : 0 ≤ j ∧ j ≤ 1000000 ∧ i.natAbs < 2 ^ 64) (q : Q (.int (i ^ j.toNat)) S) : Pe (mPow (.int i) (.int j) S) Q X := v_ifok (decide_eq_true h) q
theorem ixD_ref {S : Store} {k : Nat} {ds : List Dt} {i : Int} {d : Dt} (hS : S[k]? = some (.lst ds)) (h : L2.atI ds i = some d) : ixD S (.ref k) i = some d := by
  unfold ixD
  simp [asL, hS, h]
theorem lenD_ref {S : Store} {k : Nat} {ds : List Dt} (hS : S[k]? = some (.lst ds)) : lenD S (.ref k) = some ds.length := by
  unfold lenD
  simp [asL, hS]
theorem gSub_ref {mo mi : Env → Store → R Dt} {d : Dt} {k n : Nat} {j : Int} {ds : List Dt} (ho : mo en S = .ok (.ref k) S) (hi : mi en S = .ok (.int j) S) (hS : S[k]? = some (.lst ds)) (hj : ixN ds.length j = some n) :
    gSubD mo mi d en S = some (en, S.set k (.lst (ds.set n d))) := by
  unfold gSubD
  simp only [ho, hi]
  unfold setIx
  simp only [hS, hj, Option.map_some]
theorem set_same {S : Store} {k : Nat} {o o' : Ob} (h : S[k]? = some o) : (S.set k o')[k]? = some o' := List.getElem?_set_self (List.getElem?_eq_some_iff.mp h).1
/-- a store into a list: the new store by a letter -/
theorem v_gsub {mo mi : Env → Store → R Dt} {d : Dt} {k n : Nat} {j : Int} {ds : List Dt} {A : Env → Store → Prop} (ho : mo en S = .ok (.ref k) S) (hi : mi en S = .ok (.int j) S) (hS : S[k]? = some (.lst ds)) (hj : ixN ds.length j = some n)
    (q : ∀ S', S' = S.set k (.lst (ds.set n d)) → S'[k]? = some (.lst (ds.set n d)) → A en S') : ∃ e' S', gSubD mo mi d en S = some (e', S') ∧ A e' S' :=
  ⟨en, _, gSub_ref ho hi hS hj, q _ rfl (set_same hS)⟩
theorem atI_in {α : Type} {xs : List α} {j : Nat} {x : α} (h : xs[j]? = some x) : L2.atI xs (j : Int) = some x := L2.atI_nat h
end
section
variable {en : Env} {S : Store} {Q : Dt → Store → Prop} {X : Ex → Store → Prop} {QS : Fl → Env → Store → Prop} {XS : Ex → Env → Store → Prop} {i j : Int}
theorem v_add (q : Q (.int (i + j)) S) : Pe (mAdd (.int i) (.int j) S) Q X := q
theorem v_sub (q : Q (.int (i - j)) S) : Pe (mSub (.int i) (.int j) S) Q X := q
theorem v_iadd (q : Q (.int (i + j)) S) : Pe (mIAdd (.int i) (.int j) S) Q X := q
theorem v_lt (q : Q (.bl (decide (i < j))) S) : Pe (mLt (.int i) (.int j) S) Q X := q
theorem v_le (q : Q (.bl (decide (i ≤ j))) S) : Pe (mLe (.int i) (.int j) S) Q X := q
theorem v_gt (q : Q (.bl (decide (j < i))) S) : Pe (mGt (.int i) (.int j) S) Q X := q
theorem v_ge (q : Q (.bl (decide (j ≤ i))) S) : Pe (mGe (.int i) (.int j) S) Q X := q
theorem v_eqI (q : Q (.bl (decide (i = j))) S) : Pe (mEq (.int i) (.int j) S) Q X := by
  have e : (i == j) = decide (i = j) := rfl
  show Q (.bl (i == j)) S
  rw [e]
  exact q
theorem v_neI (q : Q (.bl (!decide (i = j))) S) : Pe (mNe (.int i) (.int j) S) Q X := by
  have e : (i == j) = decide (i = j) := rfl
  show Q (.bl (!(i == j))) S
  rw [e]
  exact q
theorem v_eqB {a b : Bool} (q : Q (.bl (a == b)) S) : Pe (mEq (.bl a) (.bl b) S) Q X := q
theorem v_neB {a b : Bool} (q : Q (.bl (!(a == b))) S) : Pe (mNe (.bl a) (.bl b) S) Q X := q
theorem v_aug {k : Nat} {m : Dt → Dt → Store → R Dt} {me : Env → Store → R Dt} {x : Dt} (h : en[k]? = some (some x)) (q : Pe (me en S) (fun y S1 => Pe (m x y S1) (fun z S2 => QS .nx (en.set k (some z)) S2) (fun x S => XS x en S)) (fun x S => XS x en S)) : Ps (mAug k m me en S) QS XS := by
  unfold mAug
  rw [h]
  exact Pe.toS (q.imp (fun _ _ k => Pe.toS k) fun _ _ z => z)
theorem v_isi1 {x c : Dt} {b : Bool} (hc : ∀ cs, c ≠ .tup cs) (e : ((tyS S x).bind fun t => isiT t c) = some b) (q : Q (.bl b) S) : Pe (mIsi [x, c] S) Q X := by
  unfold mIsi
  cases c with
  | tup cs => exact absurd rfl (hc cs)
  | _ =>
    dsimp only
    rw [e]
    exact q
theorem v_isiT {x : Dt} {cs : List Dt} {b : Bool} (e : ((tyS S x).bind fun t => isiAny t cs) = some b) (q : Q (.bl b) S) : Pe (mIsi [x, .tup cs] S) Q X := by
  unfold mIsi
  dsimp only
  rw [e]
  exact q
theorem v_isiTy {x : Dt} {n : String} {t : String ⊕ String} {b : Bool} (ht : tyS S x = some t) (e : isiT t (.ty n) = some b) (q : Q (.bl b) S) : Pe (mIsi [x, .ty n] S) Q X :=
  v_isi1 (fun _ z => nomatch z) (by rw [ht]; exact e) q
end
theorem v_isd {S : Store} {Q : Dt → Store → Prop} {X : Ex → Store → Prop} {n : Bool} {x y d : Dt} (e : mIs n x y S = .ok d S) (q : Q d S) : Pe (mIs n x y S) Q X := by
  rw [e]
  exact q
theorem v_bT {b : Bool} {A B : Prop} (h : b = true) (q : A) : if b = true then A else B := by
  rw [if_pos h]
  exact q
theorem v_bF {b : Bool} {A B : Prop} (h : b = false) (q : B) : if b = true then A else B := by
  rw [if_neg (by rw [h]; exact Bool.false_ne_true)]
  exact q
end Dv
set_option Elab.async false
set_option linter.all false
set_option maxRecDepth 100000
set_option maxHeartbeats 4000000
set_option autoImplicit false
namespace Dv
open PySem PySem.Spec PyProof.Rows L2
/-! instances: fields, methods, new ones -/
/-- an instance: its class, its fields -/
def insD (S : Store) (d : Dt) : Option (String × List Str × List Dt) := match d with
  | .ins c ns ds => some (c, ns, ds)
  | .ref i => match S[i]? with
    | some (.ins c ns ds) => some (c, ns, ds)
    | _ => none
  | _ => none
section
variable {G : Gv} {io : Io} {H : Hp} {S : Store}
theorem insD_ok {d : Dt} {v : V} {c : String} {ns : List Str} {ds : List Dt} (so : StoreOk G io S H) (r : RelD G io H d v) (h : insD S d = some (c, ns, ds)) :
    ∃ a C dx vs, v = .ref a ∧ H a = some (.ins C dx (ns.zip vs)) ∧ G.cl c = some C ∧ ns.length = ds.length ∧ RelDs G io H ds vs := by
  cases r with
  | ins h1 h2 h3 h4 h5 =>
    cases h
    exact ⟨_, _, _, _, rfl, h1, h3, h4, h5⟩
  | @ref a i hi =>
    unfold insD at h
    dsimp only at h
    split at h
    · rename_i c' ns' ds' hS
      cases h
      have q := so.ob i _ a hS hi
      cases q with
      | ins h1 h2 h3 h4 => exact ⟨_, _, _, _, rfl, h1, h2, h3, h4⟩
    · cases h
  | _ => cases h
theorem look_rel {f : Str} : ∀ {ns : List Str} {ds : List Dt} {vs : List V} {d : Dt}, RelDs G io H ds vs → (ns.zip ds).lookup f = some d → ∃ v, (ns.zip vs).lookup f = some v ∧ RelD G io H d v
  | [], _, _, _, _, h => by cases h
  | _ :: _, _, _, _, .nil, h => by cases h
  | n :: ns, _, _, d, .cons r rs, h => by
    rw [List.zip_cons_cons, List.lookup_cons] at h ⊢
    split at h
    · cases h
      exact ⟨_, rfl, r⟩
    · exact look_rel rs h
theorem look_none {f : Str} {α : Type} : ∀ {ns : List Str} {vs : List α}, f ∉ ns → (ns.zip vs).lookup f = none
  | [], _, _ => rfl
  | _ :: _, [], _ => rfl
  | n :: ns, v :: vs, h => by
    rw [List.zip_cons_cons, List.lookup_cons]
    have hn : (f == n) = false := by
      rw [beq_eq_false_iff_ne]
      exact fun z => h (by rw [z]; exact List.mem_cons_self)
    rw [hn]
    exact look_none fun z => h (List.mem_cons_of_mem _ z)
end
/-- o.f -/
def mFld (cs : List String) (f : Str) (m : Env → Store → R Dt) : Env → Store → R Dt := fun en S => (m en S).bind fun d S1 => match insD S1 d with
  | some (c, ns, ds) => if c ∈ cs then (match (ns.zip ds).lookup f with
    | some x => .ok x S1
    | none => .stuck) else .stuck
  | none => .stuck
section
variable {G : Gv} {X : Cx} {W : WX} {e o : Expr} {es : List Expr} {m mo me : Env → Store → R Dt} {ma : Env → Store → R (List Dt)} {f : Str} {pos apos p : Pos}
theorem de_fld (cs : List String) (ok : ClsOk G) (he : DE G X W e m) (hno : ∀ c ∈ cs, ∀ C, G.cl c = some C → NoAttr G.K C f) (hb : attributeBase e f X.env (eval e X.env) = eval e X.env := by rfl) (hK : X.K = G.K := by rfl) :
    DE G X W (.Attribute e f pos) (mFld cs f m) := by
  obtain ⟨t, pe, q⟩ := he
  refine ⟨_, pe_fld pe hb, fun io H S en σ Q so re h => ?_⟩
  refine q io H S en σ _ so re (h.bind.imp (fun _ _ _ _ z => z) fun d S1 i1 H1 g1 s1 k1 v r => ?_)
  split at k1
  · rename_i c ns ds hi
    obtain ⟨a, C, dx, vs, rfl, h1, h2, h3, h4⟩ := insD_ok s1 r hi
    split at k1
    · rename_i hc
      split at k1
      · rename_i x hx
        obtain ⟨u, hu, ru⟩ := look_rel h4 hx
        refine ⟨a, C, dx, _, u, rfl, h1, ?_, ?_, hu, ?_⟩
        · rw [hK]
          exact ok.cls c C h2
        · rw [hK]
          exact hno c hc C h2
        · exact k1 i1 H1 Grow.refl s1 u ru
      · exact k1.elim
    · exact k1.elim
  · exact k1.elim
/-! ### o.m(..) -/
def mMeth (c : String) (m : Str) (np : Nat) (fn : Fn) (mo : Env → Store → R Dt) (ma : Env → Store → R (List Dt)) : Env → Store → R Dt := fun en S => (mo en S).bind fun d S1 => match insD S1 d with
  | some (c', ns, _) => if c' = c ∧ m ∉ ns then (ma en S1).bind fun ds S2 => if ds.length + 1 = np then fn (d :: ds) S2 else .stuck else .stuck
  | none => .stuck
def tMethW (C : Addr) (m : Str) (sp : Sp) (E : L2.St → XK) (ta : TE) (t : TA) : TE := fun σ H Q => ta σ H fun x H1 => ∃ a dx fs, x = .ref a ∧ H1 a = some (.ins C dx fs) ∧ fs.lookup m = none ∧ t σ H1 fun vs H2 => sp (x :: vs) H2 Q (E σ)
variable {C fa : Addr} {k np : Nat} {fd : FuncData} {ps : List Str} {sp : Sp} {E : L2.St → XK} {ta : TE} {t : TA} {CX : CXT} {n : Str}
theorem pe_methW {pl : Sem Bool} (he : PE X o ta) (c : Cls X.K C) (hm : Meth X.K C n fa) (F : FnOk X.prog X.w X.K X.mg X.base CX k fa fd ps sp) (hr : Room k X.A) (hb : Binds X.K fd ps []) (hx : ∀ σ, PassesAt CX X σ (E σ)) (ha : PA X (e :: es) t)
    (hst : starEach (e :: es) X.env = (false, eval e X.env) :: starEach es X.env) (hpl : (backTo pos (starEach es X.env)).any (·.1) = false)
    (ht : eval (.Call (.Attribute o n apos) (e :: es) [] pos) X.env = (do
      let ov ← eval o X.env
      standAt apos.atName
      let (f, first) ← holding [ov] (getMethod ov n pl)
      callWith pos f first (backTo pos (starEach (e :: es) X.env)) (backToKw pos (keywordEach [] X.env)))) :
    PE X (.Call (.Attribute o n apos) (e :: es) [] pos) (tMethW C n sp E ta t) := by
  refine ⟨fun pins s σ H Q I h => ?_⟩
  refine PySem.W.methodCall_KW (pl := pl) (thn (he.run pins s σ H _ I h) fun u s1 ⟨x, H1, I1, rx, a, dx, fs, ex, ea, l, q⟩ => ?_) ht
  subst ex
  obtain rfl : u = Value.ref a := rx
  refine getmeth_ok I1 ea c hm l ?_
  refine PySem.W.callWith_K (first := [.ref a]) (h₀ := X.base) I.ok.mod.kin hm.kp (thn (ha.run pos pins s1 σ H1 _ I1 q) fun us s2 ⟨vs, H2, I2, r, q2⟩ => ⟨I2.kIn, ?_⟩) hst hpl
  exact run_fnS (us := .ref a :: us) (vs := .ref a :: vs) F hr hb (hx σ) I2 (.cons rfl r) q2
theorem pe_methW0 {pl : Sem Bool} (he : PE X o ta) (c : Cls X.K C) (hm : Meth X.K C n fa) (F : FnOk X.prog X.w X.K X.mg X.base CX k fa fd ps sp) (hr : Room k X.A) (hb : Binds X.K fd ps []) (hx : ∀ σ, PassesAt CX X σ (E σ))
    (ht : eval (.Call (.Attribute o n apos) [] [] pos) X.env = (do
      let ov ← eval o X.env
      standAt apos.atName
      let (f, first) ← holding [ov] (getMethod ov n pl)
      callWith pos f first (backTo pos (starEach [] X.env)) (backToKw pos (keywordEach [] X.env)))) :
    PE X (.Call (.Attribute o n apos) [] [] pos) (tMethW C n sp E ta tNil) := by
  refine ⟨fun pins s σ H Q I h => ?_⟩
  refine PySem.W.methodCall_KW (pl := pl) (thn (he.run pins s σ H _ I h) fun u s1 ⟨x, H1, I1, rx, a, dx, fs, ex, ea, l, q⟩ => ?_) ht
  subst ex
  obtain rfl : u = Value.ref a := rx
  refine getmeth_ok I1 ea c hm l ?_
  exact PySem.W.callWith_K0 (first := [.ref a]) I1.kIn hm.kp (run_fnS (us := [.ref a]) (vs := [.ref a]) F hr hb (hx σ) I1 (.cons rfl .nil) q)
/-- what the function of a method gives answers the promise of its def -/
theorem sim_meth {c : String} {fn : Fn} {to : TE} (ok : ClsOk G) (hC : G.cl c = some C) (qo : SimE G W to mo) (qa : SimA G W t ma) : SimE G W (tMethW C n (spF G np fn) (WE W) to t) (mMeth c n np fn mo ma) := by
  intro io H S en σ Q so re h
  refine qo io H S en σ _ so re (h.bind.imp (fun _ _ _ _ z => z) fun d S1 i1 H1 g1 s1 k1 v r => ?_)
  split at k1
  · rename_i c' ns ds hi
    obtain ⟨a, C', dx, vs, rfl, h1, h2, h3, h4⟩ := insD_ok s1 r hi
    split at k1
    · rename_i hc
      obtain ⟨rfl, hn⟩ := hc
      rw [hC] at h2
      cases h2
      refine ⟨a, dx, _, rfl, h1, look_none hn, ?_⟩
      refine qa i1 H1 S1 en σ _ s1 (re.mono g1) (k1.bind.imp (fun _ _ _ _ z => z) fun ws S2 i2 H2 g2 s2 k2 us rs => ?_)
      split at k2
      · rename_i hl
        exact ⟨i2, S2, d :: ws, s2, .cons (r.mono g2) rs, hl, k2⟩
      · exact k2.elim
    · exact k1.elim
  · exact k1.elim
theorem de_meth {pl : Sem Bool} {c : String} {fn : Fn} (ok : ClsOk G) (hC : G.cl c = some C) (ho : DE G X W o mo) (ha : DA G X W (e :: es) ma) (hm : Meth G.K C n fa) (F : FnOk X.prog X.w X.K X.mg X.base (L2.CX X.prog X.w) k fa fd ps (spF G np fn)) (hr : Room k X.A) (hb : Binds X.K fd ps []) (tk : Takes X W)
    (hst : starEach (e :: es) X.env = (false, eval e X.env) :: starEach es X.env := by rfl) (hpl : (backTo pos (starEach es X.env)).any (·.1) = false := by rfl)
    (ht : eval (.Call (.Attribute o n apos) (e :: es) [] pos) X.env = (do
      let ov ← eval o X.env
      standAt apos.atName
      let (f, first) ← holding [ov] (getMethod ov n pl)
      callWith pos f first (backTo pos (starEach (e :: es) X.env)) (backToKw pos (keywordEach [] X.env))) := by rfl) (hK : X.K = G.K := by rfl) :
    DE G X W (.Call (.Attribute o n apos) (e :: es) [] pos) (mMeth c n np fn mo ma) := by
  obtain ⟨to, po, qo⟩ := ho
  obtain ⟨t, pa, qa⟩ := ha
  exact ⟨_, pe_methW (E := WE W) po (by rw [hK]; exact ok.cls c C hC) (by rw [hK]; exact hm) F hr hb (fun σ => passAt tk σ) pa hst hpl ht, sim_meth ok hC qo qa⟩
theorem de_meth0 {pl : Sem Bool} {c : String} {fn : Fn} (ok : ClsOk G) (hC : G.cl c = some C) (ho : DE G X W o mo) (hm : Meth G.K C n fa) (F : FnOk X.prog X.w X.K X.mg X.base (L2.CX X.prog X.w) k fa fd ps (spF G np fn)) (hr : Room k X.A) (hb : Binds X.K fd ps []) (tk : Takes X W)
    (ht : eval (.Call (.Attribute o n apos) [] [] pos) X.env = (do
      let ov ← eval o X.env
      standAt apos.atName
      let (f, first) ← holding [ov] (getMethod ov n pl)
      callWith pos f first (backTo pos (starEach [] X.env)) (backToKw pos (keywordEach [] X.env))) := by rfl) (hK : X.K = G.K := by rfl) :
    DE G X W (.Call (.Attribute o n apos) [] [] pos) (mMeth c n np fn mo mNil) := by
  obtain ⟨to, po, qo⟩ := ho
  obtain ⟨t, pa, qa⟩ := (da_nil : DA G X W [] mNil)
  refine ⟨_, pe_methW0 (E := WE W) po (by rw [hK]; exact ok.cls c C hC) (by rw [hK]; exact hm) F hr hb (fun σ => passAt tk σ) ht, sim_meth ok hC qo fun io H S en σ Q so re h => ?_⟩
  exact h io H Grow.refl so [] .nil
/-! ### C(..) -/
def mMake (c : String) (np : Nat) (fn : Fn) (ma : Env → Store → R (List Dt)) : Env → Store → R Dt := fun en S => (ma en S).bind fun ds S1 => if ds.length + 1 = np then (fn (.ref S1.length :: ds) (S1 ++ [.ins c [] []])).bind fun r S2 => match r with
  | .non => .ok (.ref S1.length) S2
  | _ => .stuck else .stuck
def tMakeW (C : Addr) (sp : Sp) (E : L2.St → XK) (t : TA) : TE := fun σ H Q => t σ H fun vs H1 => ∀ x dx, H1 x = none → H1 dx = none → dx ≠ x →
  sp (.ref x :: vs) (upd (upd H1 dx (.own x)) x (.ins C dx [])) (fun v H2 => v = .non ∧ Q (.ref x) H2) (E σ)
theorem run_makeW {pins : List (Addr × Obj)} {σ : L2.St} {H : Hp} {s : Shared} {Q : VK} {us : List Value} {vs : List V} (M : Mk X.K C fa) (F : FnOk X.prog X.w X.K X.mg X.base CX k fa fd ps sp) (hr : Room (k + 1) X.A) (hb : Binds X.K fd ps [])
    (hx : PassesAt CX X σ (E σ)) (I : Inv X pins σ H s) (r : Vals vs us)
    (h : ∀ x dx, H x = none → H dx = none → dx ≠ x → sp (.ref x :: vs) (upd (upd H dx (.own x)) x (.ins C dx [])) (fun v H2 => v = .non ∧ Q (.ref x) H2) (E σ)) :
    wpAny (model X.prog X.w) X.A (call (.ref C) us) (EP X pins σ Q) X.xe s := by
  have hq := h (s.heap.objs.size + 1) s.heap.objs.size (I.hok.fresh (Nat.le_succ _)) (I.hok.fresh (Nat.le_refl _)) (Nat.ne_of_lt (Nat.lt_succ_self _))
  have I2 := Inv.made (C := C) I
  have r2 : Vals (V.ref (s.heap.objs.size + 1) :: vs) (Value.ref (s.heap.objs.size + 1) :: us) := .cons rfl r
  have hl : (Value.ref (s.heap.objs.size + 1) :: us).length = ps.length := by
    have e := r2.length
    rw [F.len _ _ _ _ hq] at e
    exact e.symm
  have bb := hb _ (Value.ref (s.heap.objs.size + 1) :: us) I2.kIn (by rw [List.append_nil]; exact hl)
  rw [List.append_nil] at bb
  refine wpAny_call (make_map (f := fa) I.kIn M.makes M.init (beq_iff_eq.mp M.fn) (codeAny_mono (F.run _ X.stack _ _ ⟨Value.ref (s.heap.objs.size + 1) :: us, []⟩ (Value.ref (s.heap.objs.size + 1) :: us) _ _ (E σ) (hr.make C us [])
    (I2.env0.make C us []) bb r2 hq) fun r s' hq' => ?_))
  cases r with
  | error e => exact hx pins _ _ e s' I2 hq'
  | ok fl =>
    cases fl with
    | ret u =>
      obtain ⟨v, H', I3, rv, ev, q3⟩ := I2.after hq'
      subst ev
      exact ⟨rv, ⟨V.ref (s.heap.objs.size + 1), H', I3, rfl, q3⟩⟩
    | next => exact False.elim hq'
    | brk => exact False.elim hq'
    | cont => exact False.elim hq'
variable {x : Str}
theorem pe_makeW (M : Mk X.K C fa) (F : FnOk X.prog X.w X.K X.mg X.base CX k fa fd ps sp) (hr : Room (k + 1) X.A) (hg : Gl X x) (hm : X.mg x = some (.ref C)) (hb : Binds X.K fd ps []) (hx : ∀ σ, PassesAt CX X σ (E σ))
    (ha : PA X (e :: es) t) (hdb : (x == ("__debug__" : Str)) = false) (he : starEach (e :: es) X.env = (false, eval e X.env) :: starEach es X.env) (hpl : (backTo pos (starEach es X.env)).any (·.1) = false) :
    PE X (.Call (.Name x p) (e :: es) [] pos) (tMakeW C sp E t) := by
  refine ⟨fun pins s σ H Q I h => ?_⟩
  refine wpAny_Call_Name_kw (ld_glob I hg hm ?_ hdb)
  refine PySem.W.callWith_K (h₀ := X.base) I.ok.mod.kin M.kp (thn (ha.run pos pins s σ H _ I h) fun us s1 ⟨vs, H1, I1, r, q⟩ => ⟨I1.kIn, ?_⟩) he hpl
  exact run_makeW M F hr hb (hx σ) I1 r q
theorem pe_makeW0 (M : Mk X.K C fa) (F : FnOk X.prog X.w X.K X.mg X.base CX k fa fd ps sp) (hr : Room (k + 1) X.A) (hg : Gl X x) (hm : X.mg x = some (.ref C)) (hb : Binds X.K fd ps []) (hx : ∀ σ, PassesAt CX X σ (E σ))
    (hdb : (x == ("__debug__" : Str)) = false) : PE X (.Call (.Name x p) [] [] pos) (tMakeW C sp E tNil) := by
  refine ⟨fun pins s σ H Q I h => ?_⟩
  refine wpAny_Call_Name_kw (ld_glob I hg hm ?_ hdb)
  exact PySem.W.callWith_K0 I.kIn M.kp (run_makeW (us := []) M F hr hb (hx σ) I .nil h)
theorem sim_make {c : String} {fn : Fn} (hC : G.cl c = some C) (qa : SimA G W t ma) : SimE G W (tMakeW C (spF G np fn) (WE W) t) (mMake c np fn ma) := by
  intro io H S en σ Q so re h
  refine qa io H S en σ _ so re (h.bind.imp (fun _ _ _ _ z => z) fun ds S1 i1 H1 g1 s1 k1 vs r => ?_)
  split at k1
  · rename_i hl
    intro y dy hy hdy hne
    have e0 : ExtH H1 (upd H1 dy (.own y)) := ExtH.new hdy
    have hy2 : upd H1 dy (.own y) y = none := by rw [upd_ne (Ne.symm hne)]; exact hy
    have s2 := s1.ext e0
    obtain ⟨g3, s3⟩ := s2.push (o := .ins c [] []) (u := .ins C dy []) hy2 (.ins upd_same hC rfl .nil)
    have g4 : Grow i1 H1 (i1.push y) (upd (upd H1 dy (.own y)) y (.ins C dy [])) := e0.grow.trans g3
    have hy4 : (i1.push y).l[S1.length]? = some y := by
      rw [s1.len]
      simp
    refine ⟨i1.push y, S1 ++ [.ins c [] []], .ref S1.length :: ds, s3, .cons (.ref hy4) (r.mono g4), hl, ?_⟩
    refine (Out.from g4 k1).bind.imp (fun _ _ _ _ z => z) fun rr S5 i5 H5 g5 s5 k5 v rv => ?_
    split at k5
    · cases rv
      exact ⟨rfl, k5 i5 H5 Grow.refl s5 _ (.ref (g5.at hy4))⟩
    · exact k5.elim
  · exact k1.elim
theorem de_make {c : String} {fn : Fn} (hC : G.cl c = some C) (ha : DA G X W (e :: es) ma) (M : Mk G.K C fa) (F : FnOk X.prog X.w X.K X.mg X.base (L2.CX X.prog X.w) k fa fd ps (spF G np fn)) (hr : Room (k + 1) X.A) (hb : Binds X.K fd ps []) (tk : Takes X W)
    (hm : X.mg x = some (.ref C)) (hg : Gl X x := by rfl) (hdb : (x == ("__debug__" : Str)) = false := by decide) (hst : starEach (e :: es) X.env = (false, eval e X.env) :: starEach es X.env := by rfl) (hpl : (backTo pos (starEach es X.env)).any (·.1) = false := by rfl) (hK : X.K = G.K := by rfl) :
    DE G X W (.Call (.Name x p) (e :: es) [] pos) (mMake c np fn ma) := by
  obtain ⟨t, pa, qa⟩ := ha
  exact ⟨_, pe_makeW (E := WE W) (by rw [hK]; exact M) F hr hg hm hb (fun σ => passAt tk σ) pa hdb hst hpl, sim_make hC qa⟩
theorem de_make0 {c : String} {fn : Fn} (hC : G.cl c = some C) (M : Mk G.K C fa) (F : FnOk X.prog X.w X.K X.mg X.base (L2.CX X.prog X.w) k fa fd ps (spF G np fn)) (hr : Room (k + 1) X.A) (hb : Binds X.K fd ps []) (tk : Takes X W)
    (hm : X.mg x = some (.ref C)) (hg : Gl X x := by rfl) (hdb : (x == ("__debug__" : Str)) = false := by decide) (hK : X.K = G.K := by rfl) :
    DE G X W (.Call (.Name x p) [] [] pos) (mMake c np fn mNil) := by
  refine ⟨_, pe_makeW0 (E := WE W) (by rw [hK]; exact M) F hr hg hm hb (fun σ => passAt tk σ) hdb, sim_make hC fun io H S en σ Q so re h => ?_⟩
  exact h io H Grow.refl so [] .nil
/-! ### o.f = v -/
def putN (f : Str) : List Str → List Str
  | [] => [f]
  | g :: r => if g = f then g :: r else g :: putN f r
def putW {α : Type} (f : Str) (y : α) : List Str → List α → List α
  | [], _ => [y]
  | _ :: _, [] => []
  | g :: r, v :: vs => if g = f then y :: vs else v :: putW f y r vs
theorem put_zip {f : Str} {y : V} : ∀ {ns : List Str} {vs : List V}, ns.length = vs.length → putF f y (ns.zip vs) = (putN f ns).zip (putW f y ns vs)
  | [], [], _ => rfl
  | n :: ns, v :: vs, h => by
    show putF f y ((n, v) :: ns.zip vs) = _
    unfold putF putN putW
    by_cases hn : n = f
    · rw [if_pos hn, if_pos hn, if_pos hn]
      rfl
    · rw [if_neg hn, if_neg hn, if_neg hn, put_zip (by simpa using h)]
      rfl
theorem put_len {α : Type} {f : Str} {y : α} : ∀ {ns : List Str} {vs : List α}, ns.length = vs.length → (putN f ns).length = (putW f y ns vs).length
  | [], [], _ => rfl
  | n :: ns, v :: vs, h => by
    unfold putN putW
    by_cases hn : n = f
    · rw [if_pos hn, if_pos hn]
      simpa using h
    · rw [if_neg hn, if_neg hn, List.length_cons, List.length_cons, put_len (by simpa using h)]
theorem put_rel {io : Io} {H : Hp} {f : Str} {d : Dt} {y : V} (ry : RelD G io H d y) : ∀ {ns : List Str} {ds : List Dt} {vs : List V}, RelDs G io H ds vs → RelDs G io H (putW f d ns ds) (putW f y ns vs)
  | [], _, _, _ => .cons ry .nil
  | _ :: _, _, _, .nil => .nil
  | n :: ns, _, _, .cons r rs => by
    unfold putW
    by_cases hn : n = f
    · rw [if_pos hn, if_pos hn]
      exact .cons ry rs
    · rw [if_neg hn, if_neg hn]
      exact .cons r (put_rel ry rs)
/-- a field of an object of the store is written -/
def setFld (cs : List String) (f : Str) (S : Store) (x d : Dt) : Option Store := match x with
  | .ref k => match S[k]? with
    | some (.ins c ns ds) => if c ∈ cs ∧ ns.length < 1000 then some (S.set k (.ins c (putN f ns) (putW f d ns ds))) else none
    | _ => none
  | _ => none
def mFldS (cs : List String) (f : Str) (mo me : Env → Store → R Dt) : Env → Store → RS := fun en S => (me en S).toS en fun d S1 => (mo en S1).toS en fun x S2 => match setFld cs f S2 x d with
  | some S3 => .ok .nx en S3
  | none => .stuck
theorem setFld_ok {io : Io} {H : Hp} {S S' : Store} {cs : List String} {x d : Dt} {vx v : V} (so : StoreOk G io S H) (rx : RelD G io H x vx) (rd : RelD G io H d v) (h : setFld cs f S x d = some S') :
    ∃ a C dx fs c, vx = .ref a ∧ H a = some (.ins C dx fs) ∧ G.cl c = some C ∧ c ∈ cs ∧ fs.length < 1000 ∧ Grow io H io (upd H a (.ins C dx (putF f v fs))) ∧ StoreOk G io S' (upd H a (.ins C dx (putF f v fs))) := by
  unfold setFld at h
  split at h
  · rename_i k
    split at h
    · rename_i c ns ds hS
      split at h
      · rename_i hc
        cases h
        cases rx with
        | @ref a _ hi =>
          have q := so.ob k _ a hS hi
          cases q with
          | @ins _ C dx _ _ _ vs h1 h2 h3 h4 =>
            have hl : ns.length = vs.length := h3.trans h4.length
            have hm : a ∈ io.l := List.mem_of_getElem? hi
            have g : ∀ u, Grow io H io (upd H a u) := fun u => ⟨⟨[], by simp⟩, fun b o h n _ => by
              rw [upd_ne (fun z => n (by rw [z]; exact hm))]
              exact h, fun a h n => absurd h n⟩
            obtain ⟨g2, s2⟩ := so.write (o := .ins c (putN f ns) (putW f d ns ds)) (u := .ins C dx (putF f v (ns.zip vs))) hi (by
              refine RelO.ins (dx := dx) (vs := putW f v ns vs) ?_ h2 (put_len h3) ((put_rel rd h4).mono (g _))
              rw [upd_same, put_zip hl])
            refine ⟨a, C, dx, _, c, rfl, h1, h2, hc.1, ?_, g2, s2⟩
            have := hc.2
            rw [List.length_zip, ← hl, Nat.min_self]
            exact this
      · cases h
    · cases h
  · cases h
/-- o.f as a target -/
def gFldT (K : PySem.W.Frag) (to : TE) (f : Str) : TG := fun v σ H Q => to σ H fun x H1 => ∃ a C dx fs, x = .ref a ∧ H1 a = some (.ins C dx fs) ∧ Cls K C ∧ NoAttr K C f ∧ fs.length < 1000 ∧ Q σ (upd H1 a (.ins C dx (putF f v fs)))
theorem pg_fld {to : TE} (ho : PE X o to) : PG X (.Attribute o f pos) (gFldT X.K to f) := by
  refine ⟨fun pins s σ H v u Q I r h => ?_⟩
  refine PySem.W.kas_attr (thn (ho.run pins s σ H _ I h) fun ov s1 ⟨x, H1, I1, r1, a, C, dx, fs, ex, ea, c, n, l, q⟩ => ?_)
  subst ex
  obtain rfl : ov = Value.ref a := r1
  exact setattr_ok I1 ea c n l r fun s2 I2 => ⟨σ, _, I2, q⟩
def gFldD (cs : List String) (f : Str) (mo : Env → Store → R Dt) : Dt → Env → Store → Option (Env × Store) := fun d en S => match mo en S with
  | .ok x S1 => (setFld cs f S1 x d).map fun S2 => (en, S2)
  | _ => none
theorem dg_fld (cs : List String) (ok : ClsOk G) (ho : DE G X W0 o mo) (hno : ∀ c ∈ cs, ∀ C, G.cl c = some C → NoAttr G.K C f) (hK : X.K = G.K := by rfl) : DG G X (.Attribute o f pos) (gFldD cs f mo) := by
  obtain ⟨t, p, q⟩ := ho
  refine ⟨_, pg_fld p, fun io H S en σ d v Q so re r h => ?_⟩
  unfold gFldD at h
  refine q io H S en σ _ so re ?_
  cases eo : mo en S with
  | stuck => simp [eo] at h
  | err x S1 => simp [eo] at h
  | ok x S1 =>
    simp only [eo] at h
    intro i1 H1 g1 s1 vx rx
    cases es : setFld cs f S1 x d with
    | none => simp [es] at h
    | some S3 =>
      simp only [es, Option.map_some] at h
      obtain ⟨a, C, dx, fs, c, h1, h2, h3, h4, h5, g3, s3⟩ := setFld_ok s1 rx (r.mono g1) es
      refine ⟨a, C, dx, fs, h1, h2, ?_, ?_, h5, h i1 _ (g1.trans g3) s3 σ (re.mono (g1.trans g3))⟩
      · rw [hK]
        exact ok.cls c C h3
      · rw [hK]
        exact hno c h4 C h3
theorem ds_fld {pos' : Pos} (cs : List String) (ok : ClsOk G) (ho : DE G X W o mo) (he : DE G X W e me) (hno : ∀ c ∈ cs, ∀ C, G.cl c = some C → NoAttr G.K C f) (hs : swapsWith e (some (.Attribute o f pos')) pos.line X.env = pure false := by rfl) (hK : X.K = G.K := by rfl) :
    DS G X W (.Assign [.Attribute o f pos'] e pos) (mFldS cs f mo me) := by
  obtain ⟨t, p, q⟩ := he
  obtain ⟨to, po, qo⟩ := ho
  refine ⟨_, ps_fld po p hs, fun io H S en σ D so re h => ?_⟩
  refine q io H S en σ _ so re (h.bind.imp (wx_of re) fun d S1 i1 H1 g1 s1 k1 v r => ?_)
  refine qo i1 H1 S1 en σ _ s1 (re.mono g1) (k1.bind.imp (wx_of (re.mono g1)) fun x S2 i2 H2 g2 s2 k2 vx rx => ?_)
  split at k2
  · rename_i S3 es
    obtain ⟨a, C, dx, fs, c, h1, h2, h3, h4, h5, g3, s3⟩ := setFld_ok s2 rx (r.mono g2) es
    refine ⟨a, C, dx, fs, h1, h2, ?_, ?_, h5, k2 i2 _ g3 s3 σ ((re.mono (g1.trans g2)).mono g3)⟩
    · rw [hK]
      exact ok.cls c C h3
    · rw [hK]
      exact hno c h4 C h3
  · exact k2.elim
end
end Dv
set_option Elab.async false
set_option linter.all false
set_option maxRecDepth 100000
set_option maxHeartbeats 4000000
set_option autoImplicit false
namespace Dv
open PySem PySem.Spec PyProof.Rows L2
/-! exceptions of the text: an __init__ that stores a word, and at most one of its arguments -/
end Dv
set_option Elab.async false
set_option linter.all false
set_option maxRecDepth 100000
set_option maxHeartbeats 4000000
set_option autoImplicit false
namespace Dv
open PySem PySem.Spec PyProof.Rows L2
/-! x in xs -/
def flatD : Dt → Bool
  | .non => true
  | .bl _ => true
  | .int _ => true
  | .str _ => true
  | _ => false
section
variable {G : Gv} {io : Io} {H : Hp} {S : Store}
theorem flat_rel {d : Dt} {v : V} (r : RelD G io H d v) (h : flatD d = true) : flatV v = true := by
  cases r with
  | non => rfl
  | bl _ => rfl
  | int _ => rfl
  | str _ => rfl
  | _ => exact absurd h (by simp [flatD])
theorem flat_all {ds : List Dt} : ∀ {vs : List V}, RelDs G io H ds vs → ds.all flatD = true → vs.all flatV = true := by
  induction ds with
  | nil =>
    intro vs r _
    cases r
    rfl
  | cons d ds ih =>
    intro vs r h
    cases r with
    | cons r1 r2 =>
      rw [List.all_cons, Bool.and_eq_true] at h ⊢
      exact ⟨flat_rel r1 h.1, ih r2 h.2⟩
theorem eq_flat {d e : Dt} {v u : V} (r : RelD G io H d v) (t : RelD G io H e u) (h : flatD d = true) (k : flatD e = true) : eqV v u = eqD d e := by
  cases r with
  | non => cases t <;> first | rfl | exact absurd k (by simp [flatD])
  | bl a => cases t <;> first | rfl | (cases a <;> rfl) | exact absurd k (by simp [flatD])
  | int a => cases t <;> first | rfl | exact absurd k (by simp [flatD])
  | str a => cases t <;> first | rfl | exact absurd k (by simp [flatD])
  | _ => exact absurd h (by simp [flatD])
theorem any_flat {d : Dt} {v : V} (r : RelD G io H d v) (h : flatD d = true) {ds : List Dt} : ∀ {vs : List V}, RelDs G io H ds vs → ds.all flatD = true → inV v vs = ds.any fun y => eqD y d := by
  induction ds with
  | nil =>
    intro vs t _
    cases t
    rfl
  | cons e ds ih =>
    intro vs t k
    cases t with
    | cons t1 t2 =>
      rw [List.all_cons, Bool.and_eq_true] at k
      have q := ih t2 k.2
      unfold inV at q ⊢
      rw [List.any_cons, List.any_cons, eq_flat t1 r k.1 h, q]
end
/-- x in y: flat items of a list or tuple; a sign of a text -/
def mIn (neg : Bool) (x y : Dt) (S : Store) : R Dt := match y with
  | .str b => match x with
    | .str a => match a.cps.toList with
      | [c] => .ok (.bl (if neg then !decide (c ∈ b.cps.toList) else decide (c ∈ b.cps.toList))) S
      | _ => .stuck
    | _ => .stuck
  | y => match asS S y with
    | some ds => if flatD x = true ∧ ds.all flatD = true then .ok (.bl (if neg then !(ds.any fun z => eqD z x) else (ds.any fun z => eqD z x))) S else .stuck
    | none => .stuck
theorem str_one {a : Str} {c : Nat} (h : a.cps.toList = [c]) : a = ⟨#[c]⟩ := by
  cases a with
  | mk cps =>
    have e : cps = #[c] := by
      apply Array.toList_inj.mp
      simpa using h
    rw [e]
section
variable {G : Gv} {X : Cx}
theorem in_seq_ok {io : Io} {H : Hp} {S : Store} {x y : Dt} {vx vy : V} {ds : List Dt} {Q : VK} {neg : Bool} (so : StoreOk G io S H) (rx : RelD G io H x vx) (ry : RelD G io H y vy) (ha : asS S y = some ds) (h1 : flatD x = true) (h2 : ds.all flatD = true)
    (h : Out G io H (fun _ _ _ => False) (poE G Q) (.ok (.bl (if neg then !(ds.any fun z => eqD z x) else (ds.any fun z => eqD z x))) S)) : rIn G.K neg vx vy H Q := by
  obtain ⟨a, vs, rfl, hs, rs⟩ := asS_ok so ry ha
  refine ⟨a, vs, rfl, hs, flat_rel rx h1, flat_all rs h2, ?_⟩
  rw [any_flat rx h1 rs h2]
  exact h io H Grow.refl so _ (.bl _)
theorem sim_in {neg : Bool} : SimO G (fun x y H Q => (∃ (c : Nat) (z : Str), x = .str ⟨#[c]⟩ ∧ y = .str z ∧ Q (.bl (if neg then !decide (c ∈ z.cps.toList) else decide (c ∈ z.cps.toList))) H) ∨ rIn G.K neg x y H Q) (mIn neg) := by
  intro io H S vx vy x y Q so rx ry h
  unfold mIn at h
  split at h
  · rename_i b
    split at h
    · rename_i a
      split at h
      · rename_i c hc
        cases rx
        cases ry
        rw [str_one hc]
        exact .inl ⟨c, b, rfl, rfl, h io H Grow.refl so _ (.bl _)⟩
      · exact h.elim
    · exact h.elim
  · split at h
    · rename_i ds ha
      split at h
      · rename_i hf
        exact .inr (in_seq_ok so rx ry ha hf.1 hf.2 h)
      · exact h.elim
    · exact h.elim
theorem in_noErr {neg : Bool} (x y : Dt) (S : Store) : NoErr (mIn neg x y S) := by
  unfold mIn
  split
  · split
    · split <;> trivial
    · trivial
  · split
    · split <;> trivial
    · trivial
theorem do_in (hK : X.K = G.K := by rfl) : DO G X (compareOp .In) (mIn false) := by
  refine ⟨_, (op_in_sign (X := X)).or op_in_seq, ?_, in_noErr⟩
  rw [hK]
  exact sim_in (neg := false)
theorem do_notIn (hK : X.K = G.K := by rfl) : DO G X (compareOp .NotIn) (mIn true) := by
  refine ⟨_, (op_notIn_sign (X := X)).or op_notIn_seq, ?_, in_noErr⟩
  rw [hK]
  exact sim_in (neg := true)
end
end Dv
set_option Elab.async false
set_option linter.all false
set_option maxRecDepth 100000
set_option maxHeartbeats 4000000
set_option autoImplicit false
namespace Dv
open PySem PySem.Spec PyProof.Rows L2
/-! texts -/
end Dv
set_option Elab.async false
set_option linter.all false
set_option maxRecDepth 100000
set_option maxHeartbeats 4000000
set_option autoImplicit false
namespace Dv
open PySem PySem.Spec PyProof.Rows L2
/-! lists of the store: pop(i), clear() -/
section
variable {G : Gv} {X : Cx} {W : WX} {o e : Expr} {mo me : Env → Store → R Dt} {apos cpos : Pos}
theorem rel_erase {io : Io} {H : Hp} : ∀ {ds : List Dt} {vs : List V} (k : Nat), RelDs G io H ds vs → RelDs G io H (ds.eraseIdx k) (vs.eraseIdx k)
  | _, _, _, .nil => by simpa using RelDs.nil
  | _, _, 0, .cons r rs => rs
  | _, _, k + 1, .cons r rs => .cons r (rel_erase k rs)
/-- xs.pop(i) -/
def popAt (S : Store) (x : Dt) (i : Int) : R Dt := match x with
  | .ref k => match S[k]? with
    | some (.lst ds) => if -(2 ^ 63) ≤ i ∧ i < 2 ^ 63 then (match seqIndex? i ds.length with
      | some j => match ds[j]? with
        | some d => .ok d (S.set k (.lst (ds.eraseIdx j)))
        | none => .stuck
      | none => .stuck) else .stuck
    | _ => .stuck
  | _ => .stuck
def mPop1 (mo me : Env → Store → R Dt) : Env → Store → R Dt := fun en S => (mo en S).bind fun x S1 => if isLstR S1 x = true then (me en S1).bind fun y S2 => match y with
  | .int i => popAt S2 x i
  | _ => .stuck else .stuck
theorem de_pop1 (ho : DE G X W o mo) (he : DE G X W e me) (hK : X.K = G.K := by rfl)
    (hbase : attributeBase o "pop" X.env (eval o X.env) = eval o X.env := by rfl)
    (hfew : ((backTo cpos (starEach [e] X.env)).all (fun x => !x.1) && (backToKw cpos (keywordEach [] X.env)).all (fun x => x.1.isSome)
      && decide ([e].length + ([] : List Keyword).length + (if ([] : List Keyword).isEmpty then 0 else 1) < 30)) = true := by rfl)
    (hline : (apos.endLine == cpos.line) = true := by rfl) (hs : starEach [e] X.env = (false, eval e X.env) :: starEach [] X.env := by rfl) :
    DE G X W (.Call (.Attribute o "pop" apos) [e] [] cpos) (mPop1 mo me) := by
  obtain ⟨t, p, q⟩ := ho
  obtain ⟨t', p', q'⟩ := he
  refine ⟨_, pe_bm PySem.F.plainAttrs_list PySem.F.slot_list_pop PySem.F.type_list_pop mt_popAt p (pa_cons p' pa_nil hs) hbase hfew hline hs rfl, fun io H S en σ Q so re h => ?_⟩
  refine q io H S en σ _ so re (h.bind.imp (fun _ _ _ _ z => z) fun x S1 i1 H1 g1 s1 k1 v r => ?_)
  split at k1
  · rename_i hl
    obtain ⟨k, ds, a, xs, rfl, hS, ha, rfl, hH, rs⟩ := isLstR_ok s1 r hl
    refine ⟨.inl ⟨rfl, xs, .inl (.inl hH)⟩, ?_⟩
    refine q' i1 H1 S1 en σ _ s1 (re.mono g1) (k1.bind.imp (fun _ _ _ _ z => z) fun d S2 i2 H2 g2 s2 k2 vd rd => ?_)
    split at k2
    · rename_i i
      cases rd
      unfold popAt at k2
      dsimp only at k2
      split at k2
      · rename_i ds2 hS2
        split at k2
        · rename_i hi
          split at k2
          · rename_i j hj
            split at k2
            · rename_i d hd
              have e2 := g2.at ha
              obtain ⟨a', h1, h2⟩ := s2.at_ hS2
              rw [e2] at h1
              cases h1
              cases h2 with
              | @lst _ _ us h3 h4 =>
                have l := h4.length
                obtain ⟨g3, s3⟩ := so_wr (ds := ds2.eraseIdx j) s2 e2 (rel_erase j h4)
                obtain ⟨y, h5, h6⟩ := h4.get hd
                exact ⟨a, us, i, j, y, rfl, rfl, h3, hi.1, hi.2, by rw [← l]; exact hj, h5, k2 i2 _ g3 s3 _ (h6.mono g3)⟩
            · exact k2.elim
          · exact k2.elim
        · exact k2.elim
      · exact k2.elim
    · exact k2.elim
  · exact k1.elim
/-- xs.clear() -/
def mClear (mo : Env → Store → R Dt) : Env → Store → R Dt := fun en S => (mo en S).bind fun x S1 => match x with
  | .ref k => match S1[k]? with
    | some (.lst _) => .ok .non (S1.set k (.lst []))
    | _ => .stuck
  | _ => .stuck
theorem de_clear (ho : DE G X W o mo) (hK : X.K = G.K := by rfl)
    (hbase : attributeBase o "clear" X.env (eval o X.env) = eval o X.env := by rfl) (hline : (apos.endLine == cpos.line) = true := by rfl) :
    DE G X W (.Call (.Attribute o "clear" apos) [] [] cpos) (mClear mo) := by
  obtain ⟨t, p, q⟩ := ho
  refine ⟨_, pe_bm0 PySem.F.plainAttrs_list PySem.F.slot_list_clear PySem.F.type_list_clear mt_clear p hbase hline, fun io H S en σ Q so re h => ?_⟩
  refine q io H S en σ _ so re (h.bind.imp (fun _ _ _ _ z => z) fun x S1 i1 H1 g1 s1 k1 v r => ?_)
  split at k1
  · rename_i k
    split at k1
    · rename_i ds hS
      obtain ⟨k', ds', a, xs, e0, hS', ha, rfl, hH, rs⟩ := isLstR_ok s1 r (by unfold isLstR; simp only [hS])
      cases e0
      obtain ⟨g3, s3⟩ := so_wr (ds := []) (xs := []) s1 ha .nil
      exact ⟨.inl ⟨rfl, xs, .inl (.inl hH)⟩, a, xs, rfl, rfl, hH, k1 i1 _ g3 s3 _ .non⟩
    · exact k1.elim
  · exact k1.elim
end
end Dv
set_option Elab.async false
set_option linter.all false
set_option maxRecDepth 100000
set_option maxHeartbeats 4000000
set_option autoImplicit false
namespace Dv
open PySem PySem.Spec PyProof.Rows L2
/-! dicts with text keys: the display, reading -/
def mPs : List (Env → Store → R Dt) → Env → Store → R (List Dt)
  | [] => fun _ S => .ok [] S
  | m :: ms => fun en S => (m en S).bind fun d S1 => (mPs ms en S1).bind fun ds S2 => .ok (d :: ds) S2
/-- keys and values, from the left -/
inductive DPs (G : Gv) (X : Cx) (W : WX) : List Str → List Expr → List (TE × TE) → List (Env → Store → R Dt) → Prop
  | nil : DPs G X W [] [] [] []
  | cons {k : Str} {e : Expr} {ks : List Str} {es : List Expr} {te : TE} {ts : List (TE × TE)} {m : Env → Store → R Dt} {ms : List (Env → Store → R Dt)} (pe : PE X e te) (q : SimE G W te m) (r : DPs G X W ks es ts ms) :
    DPs G X W (k :: ks) (e :: es) ((tC (.str k), te) :: ts) (m :: ms)
section
variable {G : Gv} {X : Cx} {W : WX}
theorem dps_sim {ks : List Str} {es : List Expr} {ts : List (TE × TE)} {ms : List (Env → Store → R Dt)} (h : DPs G X W ks es ts ms) : ∀ io H S en σ (Q : List (V × V) → Hp → Prop), StoreOk G io S H → RelEnv G io H en σ →
    Out G io H (wxE G W σ) (fun ds _ io' H' => ∀ vs, RelDs G io' H' ds vs → Q ((ks.map V.str).zip vs) H') (mPs ms en S) → tPairs ts σ H Q := by
  induction h with
  | nil => exact fun io H S en σ Q so re k => k io H Grow.refl so [] .nil
  | @cons k e ks es te ts m ms pe q r ih =>
    intro io H S en σ Q so re hh
    show tPairs ((tC (V.str k), te) :: ts) σ H Q
    refine q io H S en σ _ so re (hh.bind.imp (fun _ _ _ _ z => z) fun d S1 i1 H1 g1 s1 k1 v rd => ?_)
    refine ih i1 H1 S1 en σ _ s1 (re.mono g1) (k1.bind.imp (fun _ _ _ _ z => z) fun ds S2 i2 H2 g2 s2 k2 vs rs => ?_)
    exact k2 i2 H2 Grow.refl s2 (v :: vs) (.cons (rd.mono g2) rs)
theorem dps_len {ks : List Str} {es : List Expr} {ts : List (TE × TE)} {ms : List (Env → Store → R Dt)} (h : DPs G X W ks es ts ms) : ∀ en S ds S', mPs ms en S = .ok ds S' → ds.length = ks.length := by
  induction h with
  | nil => intro en S ds S' e; cases e; rfl
  | @cons k e ks es te ts m ms pe q r ih =>
    intro en S ds S' hh
    unfold mPs at hh
    cases e1 : m en S with
    | stuck => rw [e1] at hh; cases hh
    | err x S1 => rw [e1] at hh; cases hh
    | ok d S1 =>
      rw [e1] at hh
      dsimp only [R.bind] at hh
      cases e2 : mPs ms en S1 with
      | stuck => rw [e2] at hh; cases hh
      | err x S1 => rw [e2] at hh; cases hh
      | ok es2 S2 =>
        rw [e2] at hh
        cases hh
        rw [List.length_cons, List.length_cons, ih _ _ _ _ e2]
theorem merge_new : ∀ {ks : List Key} {vs : List V} {acc : List (Key × V)}, ks.Nodup → (∀ k ∈ ks, ∀ p ∈ acc, p.1 ≠ k) → (ks.zip vs).foldl (fun acc kv => putK acc kv.1 kv.2) acc = acc ++ ks.zip vs
  | [], _, _, _, _ => by simp
  | _ :: _, [], _, _, _ => by simp
  | k :: ks, v :: vs, acc, nd, hn => by
    rw [List.zip_cons_cons, List.foldl_cons]
    have hp : putK acc k v = acc ++ [(k, v)] := by
      unfold putK
      rw [if_neg]
      intro z
      obtain ⟨p, hp, e⟩ := List.any_eq_true.mp z
      exact hn k List.mem_cons_self p hp (of_decide_eq_true e)
    rw [hp, merge_new (List.nodup_cons.mp nd).2 fun k' hk p hp => ?_]
    · simp
    · rcases List.mem_append.mp hp with z | z
      · exact hn k' (List.mem_cons_of_mem _ hk) p z
      · rw [List.mem_singleton] at z
        rw [z]
        exact fun e => (List.nodup_cons.mp nd).1 (by rw [show k = k' from e]; exact hk)
/-- {k: e, ..} with text keys -/
def mDict (ks : List Str) (ms : List (Env → Store → R Dt)) : Env → Store → R Dt := fun en S => (mPs ms en S).bind fun ds S1 => if ds.length = ks.length then .ok (.dct (ks.map Sum.inr) ds) S1 else .stuck
theorem env_hide {io : Io} {H : Hp} {p : Addr} {o : HO} {en : Env} {σ : L2.St} (hp : H p = none) (re : RelEnv G io H en σ) : RelEnv G (io.hide p) (upd H p o) en σ :=
  ⟨re.len, fun i d h => let ⟨v, h1, h2⟩ := re.at_ i d h; ⟨v, h1, (h2.hide hp).mono (ExtH.new hp).grow⟩⟩
theorem nodup_inr {ks : List Str} (h : ks.Nodup) : (ks.map (Sum.inr : Str → Key)).Nodup := by
  induction ks with
  | nil => exact List.nodup_nil
  | cons k ks ih =>
    obtain ⟨h1, h2⟩ := List.nodup_cons.mp h
    refine List.nodup_cons.mpr ⟨fun z => ?_, ih h2⟩
    obtain ⟨k', hk, e⟩ := List.mem_map.mp z
    exact h1 (by rw [← Sum.inr.inj e]; exact hk)
theorem zip_keys : ∀ (ks : List Str) (vs : List V), (ks.map V.str).zip vs = ((ks.map (Sum.inr : Str → Key)).zip vs).map fun kv => (kV kv.1, kv.2)
  | [], _ => rfl
  | _ :: _, [] => rfl
  | k :: ks, v :: vs => by
    rw [List.map_cons, List.map_cons, List.zip_cons_cons, List.zip_cons_cons, List.map_cons, zip_keys ks vs]
    rfl
theorem de_dict {pos : Pos} {keys : List (Option Expr)} {es : List Expr} {ks : List Str} {ts : List (TE × TE)} {ms : List (Env → Store → R Dt)} (h : DPs G X W ks es ts ms) (pp : PPs X pos keys es ts) (hall : keys.all (·.isSome) = true) (hl : keys.length = es.length) (h0 : keys ≠ []) (h15 : keys.length ≤ 15) (hk : ks.length ≤ 15) (nd : ks.Nodup) :
    DE G X W (.Dict keys es pos) (mDict ks ms) := by
  refine ⟨_, pe_disp pp hall hl h0 h15, fun io H S en σ Q so re hh => ?_⟩
  intro p hp
  have ex : ExtH H (upd H p (.dK [])) := ExtH.new hp
  refine dps_sim h (io.hide p) _ S en σ _ (so_hide so hp) (env_hide hp re) ?_
  have hb := hh.bind
  cases er : mPs ms en S with
  | stuck => rw [er] at hb; exact hb
  | err x S1 =>
    rw [er] at hb
    intro io' H' g s cls dx rx
    obtain ⟨i2, rfl⟩ := io_hide g
    have g2 := ex.grow.trans (grow_un g)
    obtain ⟨C, a, vs, h1, h2, h3, h4, h5, h6, h7⟩ := rx
    exact hb i2 H' g2 (so_unhide s) cls dx ⟨C, a, vs, h1, h2, h3, h4, fun z => h5 (hide_mem.mpr (.inr z)), h6, h7.unhide⟩
  | ok ds S1 =>
    rw [er] at hb
    intro io' H' g s vs rs
    obtain ⟨i2, rfl⟩ := io_hide g
    have gu := grow_un g
    have g2 := ex.grow.trans gu
    have hp2 : p ∉ io.l := fun z => so.fresh hp (.inl z)
    have h3 : H' p = some (.dK []) := gu.keep p _ upd_same hp2
    have pl : p ∉ i2.l := fun z => s.dis p z List.mem_cons_self
    have ph : p ∉ i2.h := by
      obtain ⟨t, e⟩ := g2.pre
      rw [e]
      exact fun z => so.fresh hp (.inr z)
    have len := dps_len h _ _ _ _ er
    have lv := rs.length
    refine ⟨h3, (ks.map (Sum.inr : Str → Key)).zip vs, zip_keys ks vs, ?_, ?_⟩
    · rw [List.length_zip, List.length_map]
      omega
    · have em : mergeK [] ((ks.map (Sum.inr : Str → Key)).zip vs) = (ks.map (Sum.inr : Str → Key)).zip vs := by
        unfold mergeK
        rw [merge_new (nodup_inr nd) fun _ _ p hp => by cases hp]
        rfl
      rw [em]
      have s3 := so_unhide (so_hid (o := .dK ((ks.map (Sum.inr : Str → Key)).zip vs)) s)
      have r3 := (rs.monoB (base_hid (o := .dK ((ks.map (Sum.inr : Str → Key)).zip vs)))).unhide
      have g3 : Grow io H i2 (upd H' p (.dK ((ks.map (Sum.inr : Str → Key)).zip vs))) := by
        refine ⟨g2.pre, fun b o hb nb nt => ?_, g2.new⟩
        rw [upd_ne fun z => by rw [z, hp] at hb; cases hb]
        exact g2.keep b o hb nb nt
      have k := hb i2 _ g3 s3
      dsimp only at k
      rw [if_pos len] at k
      exact k i2 _ Grow.refl s3 _ (.dct upd_same (fun z => z.elim pl ph) (by rw [List.length_map]; omega) r3)
/-! reading by a text -/
def lookK : List Key → List Dt → Key → Option Dt
  | k :: ks, d :: ds, x => if k = x then some d else lookK ks ds x
  | _, _, _ => none
theorem lookK_rel {io : Io} {H : Hp} {x : Key} : ∀ {ks : List Key} {ds : List Dt} {vs : List V} {d : Dt}, RelDs G io H ds vs → lookK ks ds x = some d → ∃ v, valV (ks.zip vs) x = some v ∧ RelD G io H d v
  | [], _, _, _, _, h => by cases h
  | _ :: _, _, _, _, .nil, h => by cases h
  | k :: ks, _, _, d, .cons r rs, h => by
    unfold lookK at h
    split at h
    · rename_i e
      cases h
      exact ⟨_, valV_pos (p := (k, _)) e, r⟩
    · rename_i e
      obtain ⟨v, h1, h2⟩ := lookK_rel rs h
      exact ⟨v, (valV_neg (p := (k, _)) e).trans h1, h2⟩
def dctD (S : Store) (d : Dt) : Option (List Key × List Dt) := match d with
  | .dct ks ds => some (ks, ds)
  | .ref i => match S[i]? with
    | some (.dct ks ds) => some (ks, ds)
    | _ => none
  | _ => none
theorem dctD_ok {io : Io} {H : Hp} {S : Store} {d : Dt} {v : V} {ks : List Key} {ds : List Dt} (so : StoreOk G io S H) (r : RelD G io H d v) (h : dctD S d = some (ks, ds)) :
    ∃ a vs, v = .ref a ∧ H a = some (.dK (ks.zip vs)) ∧ ks.length = ds.length ∧ RelDs G io H ds vs := by
  cases r with
  | dct h1 h2 h3 h4 =>
    cases h
    exact ⟨_, _, rfl, h1, h3, h4⟩
  | @ref a i hi =>
    unfold dctD at h
    dsimp only at h
    split at h
    · rename_i ks' ds' hS
      cases h
      have q := so.ob i _ a hS hi
      cases q with
      | dct h1 h2 h3 => exact ⟨_, _, rfl, h1, h2, h3⟩
    · cases h
  | _ => cases h
/-- o["k"] -/
def mGetS (k : Str) (mo : Env → Store → R Dt) : Env → Store → R Dt := fun en S => (mo en S).bind fun x S1 => match dctD S1 x with
  | some (ks, ds) => match lookK ks ds (.inr k) with
    | some d => .ok d S1
    | none => .stuck
  | none => .stuck
theorem de_getS {o : Expr} {mo : Env → Store → R Dt} {k : Str} {j : Nat} {cp pos : Pos} (hu : X.A.units + 64 < cLine) (ho : DE G X W o mo) (hs : NoSl (.Constant (.str k) j cp)) : DE G X W (.Subscript o (.Constant (.str k) j cp) pos) (mGetS k mo) := by
  obtain ⟨t, p, q⟩ := ho
  refine ⟨_, pe_dget (by omega) p pe_str hs, fun io H S en σ Q so re h => ?_⟩
  refine q io H S en σ _ so re (h.bind.imp (fun _ _ _ _ z => z) fun x S1 i1 H1 g1 s1 k1 v r => ?_)
  split at k1
  · rename_i ks ds hd
    obtain ⟨a, vs, rfl, h1, h2, h3⟩ := dctD_ok s1 r hd
    split at k1
    · rename_i d hl
      obtain ⟨u, h4, h5⟩ := lookK_rel h3 hl
      refine ⟨a, u, rfl, ?_, k1 i1 H1 Grow.refl s1 u h5⟩
      rw [← h4]
      exact DGet.k (k := .inr k) h1
    · exact k1.elim
  · exact k1.elim
/-- a display's parts, as one judgement -/
def DD (G : Gv) (X : Cx) (W : WX) (pos : Pos) (keys : List (Option Expr)) (es : List Expr) (ks : List Str) (ms : List (Env → Store → R Dt)) : Prop := ∃ ts, DPs G X W ks es ts ms ∧ PPs X pos keys es ts
theorem dd_nil {pos : Pos} : DD G X W pos [] [] [] [] := ⟨[], .nil, pps_nil⟩
theorem dd_cons {pos kp : Pos} {k : Str} {j : Nat} {e : Expr} {m : Env → Store → R Dt} {keys : List (Option Expr)} {es : List Expr} {ks : List Str} {ms : List (Env → Store → R Dt)} (he : DE G X W e m) (r : DD G X W pos keys es ks ms) :
    DD G X W pos (some (.Constant (.str k) j kp) :: keys) (e :: es) (k :: ks) (m :: ms) := by
  obtain ⟨te, pe, q⟩ := he
  obtain ⟨ts, d, p⟩ := r
  exact ⟨_, .cons pe q d, pps_cons pe_str pe p⟩
theorem de_dd {pos : Pos} {keys : List (Option Expr)} {es : List Expr} {ks : List Str} {ms : List (Env → Store → R Dt)} (h : DD G X W pos keys es ks ms) (hall : keys.all (·.isSome) = true := by rfl) (hl : keys.length = es.length := by rfl) (h0 : keys ≠ [] := by exact List.cons_ne_nil _ _) (h15 : keys.length ≤ 15 := by exact Nat.le_of_ble_eq_true rfl) (hk : ks.length ≤ 15 := by exact Nat.le_of_ble_eq_true rfl) (nd : ks.Nodup := by decide +kernel) :
    DE G X W (.Dict keys es pos) (mDict ks ms) := by
  obtain ⟨ts, d, p⟩ := h
  exact de_dict d p hall hl h0 h15 hk nd
end
end Dv
set_option Elab.async false
set_option linter.all false
set_option maxRecDepth 100000
set_option maxHeartbeats 4000000
set_option autoImplicit false
/-! targets with a star: a, b, *c = a tuple -/
namespace PySem.W
open PySem PySem.Spec PySem.Calls PyProof.Rows
end PySem.W
namespace Dv
open PySem PySem.Spec PyProof.Rows L2
end Dv
set_option Elab.async false
set_option linter.all false
set_option maxRecDepth 100000
set_option maxHeartbeats 4000000
set_option autoImplicit false
namespace Dv
open PySem PySem.Spec PyProof.Rows L2
/-! what the head decides of an exception of the text -/
end Dv
set_option Elab.async false
set_option linter.all false
set_option maxRecDepth 100000
set_option maxHeartbeats 4000000
set_option autoImplicit false
/-! every second item from a place on; turned about -/
namespace Dv
/-- every second item -/
def evens {α : Type} : List α → List α
  | [] => []
  | [x] => [x]
  | x :: _ :: r => x :: evens r
theorem evens_pick {α : Type} : ∀ (xs : List α), (List.range ((xs.length + 1) / 2)).filterMap (fun m => xs[2 * m]?) = evens xs
  | [] => by simp [evens]
  | [x] => by simp [evens, List.range_succ]
  | x :: y :: r => by
    have e : ((x :: y :: r).length + 1) / 2 = (r.length + 1) / 2 + 1 := by
      simp only [List.length_cons]
      omega
    rw [e, List.range_succ_eq_map, List.filterMap_cons]
    simp only [Nat.mul_zero, List.getElem?_cons_zero]
    rw [List.filterMap_map]
    have e2 : ((fun m => (x :: y :: r)[2 * m]?) ∘ Nat.succ) = fun m => r[2 * m]? := by
      funext m
      show (x :: y :: r)[2 * (m + 1)]? = _
      rw [show 2 * (m + 1) = 2 * m + 1 + 1 by omega, List.getElem?_cons_succ, List.getElem?_cons_succ]
    rw [e2, evens_pick r]
    rfl
theorem evens_at {α : Type} (xs : List α) (k c : Nat) (hc : c = (xs.length - k + 1) / 2) : (List.range c).filterMap (fun m => xs[k + 2 * m]?) = evens (xs.drop k) := by
  rw [← evens_pick (xs.drop k), List.length_drop, hc]
  congr 1
  funext m
  rw [List.getElem?_drop]
theorem evens_length {α : Type} : ∀ (xs : List α), (evens xs).length ≤ xs.length
  | [] => Nat.le_refl _
  | [_] => Nat.le_refl _
  | x :: y :: r => by
    have := evens_length r
    simp only [evens, List.length_cons]
    omega
open PySem PySem.Spec PyProof.Rows L2
section
variable {prog : Program} {w : World} {A : Around} {E : Value → Shared → Prop} {s : Shared}
/-- the place at which a slice from k on begins -/
def loIx (lo : Option Int) (n : Nat) : Nat := match lo with
  | none => 0
  | some k => min k.toNat n
theorem pick2 (items : Array Value) (lo : Option Int) (h0 : ∀ k, lo = some k → 0 ≤ k) : slicePick items lo none (some 2) = (evens (items.toList.drop (loIx lo items.size))).toArray := by
  unfold slicePick
  have e : sliceBounds lo none (some 2) items.size = (((loIx lo items.size : Nat) : Int), (items.size : Int), (2 : Int)) := by
    cases lo with
    | none => simp [sliceBounds, loIx]
    | some k =>
      have := h0 k rfl
      simp only [sliceBounds, loIx, Option.getD]
      refine Prod.ext ?_ (Prod.ext ?_ rfl)
      · simp
        omega
      · simp
  rw [e]
  dsimp only
  congr 1
  unfold sliceRange
  rw [List.filterMap_map]
  have hl : loIx lo items.size ≤ items.size := by
    unfold loIx
    split <;> omega
  have e2 : ((items[·]?) ∘ fun (k : Nat) => (((loIx lo items.size : Nat) : Int) + 2 * (k : Int)).toNat) = fun m => items.toList[loIx lo items.size + 2 * m]? := by
    funext m
    show items[(((loIx lo items.size : Nat) : Int) + 2 * (m : Int)).toNat]? = _
    rw [show (((loIx lo items.size : Nat) : Int) + 2 * (m : Int)).toNat = loIx lo items.size + 2 * m by omega, Array.getElem?_toList]
  rw [e2]
  refine evens_at items.toList _ _ ?_
  rw [Array.length_toList]
  simp only [show (2 : Int) > 0 by decide, if_true]
  split <;> omega
theorem sliceApplied2 {sl : Addr} {vl vu vs : Value} {lo : Option Int} {n : Nat} {Q : Int × Int × Nat → Shared → Prop} (hs : s.heap.IsSliceOf sl vl vu vs) (pl : IsPart vl lo) (pu : IsPart vu none) (ps : IsPart vs (some 2)) (h0 : ∀ k, lo = some k → 0 ≤ k)
    (h : Q (((loIx lo n : Nat) : Int), 2, (n - loIx lo n + 1) / 2) s) : wpAny (model prog w) A (Builtin.Slice.sliceApplied (.ref sl) (pure (n : Int))) Q E s := by
  obtain ⟨os, hos, hcs, hds⟩ := id hs
  unfold Builtin.Slice.sliceApplied Builtin.Slice.sliceFields
  refine wpAny_bind (wpAny_bind (wpAny_field hos hds (x := vl) rfl (wpAny_bind (wpAny_field hos hds (x := vu) rfl (wpAny_bind (wpAny_field hos hds (x := vs) rfl (wpAny_pure ?_)))))))
  refine wpAny_bind (HT.slicePart_ ps ?_)
  show wpAny _ _ (if ((2 : Int) == 0) = true then _ else _) _ _ s
  rw [if_neg (by decide)]
  refine wpAny_bind (HT.slicePart_ pl (wpAny_bind (HT.slicePart_ pu (wpAny_bind (wpAny_pure ?_)))))
  show wpAny _ _ (match Builtin.Slice.sliceAdjust lo none 2 (n : Int) with | (lo, hi) => pure (lo, (2 : Int), Builtin.Slice.slicePlaces lo hi 2)) _ _ s
  have e : Builtin.Slice.sliceAdjust lo none 2 (n : Int) = (((loIx lo n : Nat) : Int), (n : Int)) := by
    unfold Builtin.Slice.sliceAdjust
    cases lo with
    | none => rfl
    | some k =>
      have := h0 k rfl
      refine Prod.ext ?_ rfl
      simp only [loIx]
      rw [if_neg (by omega)]
      omega
  rw [e]
  show wpAny _ _ (pure (((loIx lo n : Nat) : Int), (2 : Int), Builtin.Slice.slicePlaces ((loIx lo n : Nat) : Int) (n : Int) 2)) _ _ s
  have hl : loIx lo n ≤ n := by
    unfold loIx
    split <;> omega
  have e2 : Builtin.Slice.slicePlaces ((loIx lo n : Nat) : Int) (n : Int) 2 = (n - loIx lo n + 1) / 2 := by
    unfold Builtin.Slice.slicePlaces
    simp only [show (2 : Int) > 0 by decide, if_true]
    split <;> omega
  rw [e2]
  exact wpAny_pure h
theorem getItem_tuple2 {t sl : Addr} {items : Array Value} {vl vu vs : Value} {lo : Option Int} {Q : Value → Shared → Prop} (ht : IsTup s.heap t items) (hs : s.heap.IsSliceOf sl vl vu vs) (pl : IsPart vl lo) (pu : IsPart vu none) (ps : IsPart vs (some 2)) (h0 : ∀ k, lo = some k → 0 ≤ k)
    (h : Q (.ref s.heap.objs.size) { s with heap := s.heap.push { cls := .type "tuple", data := .seq (evens (items.toList.drop (loIx lo items.size))).toArray } })
    (hsz : items.size ≤ sizeLine) : wpAny (model prog w) A (getItem (.ref t) (.ref sl)) Q E s := by
  have htake : sizeOk (.seq (evens (items.toList.drop (loIx lo items.size))).toArray) := by
    show (evens (items.toList.drop (loIx lo items.size))).toArray.size ≤ sizeLine
    rw [List.size_toArray]
    have := evens_length (items.toList.drop (loIx lo items.size))
    rw [List.length_drop, Array.length_toList (xs := items)] at this
    omega
  obtain ⟨os, hos, hcs, hds⟩ := id hs
  have hTs : s.TypeIs (.ref sl) "slice" := ⟨os, hos, hcs⟩
  unfold getItem
  try with_reducible refine wpAny_holding ?_
  first | refine wpAny_bind (wpAny_pure ?_) | skip
  refine wpAny_bind (wpAny_sequenceKey ht.typeIs (by decide) ?_)
  refine wpAny_bind (wpAny_callSpecial?_slot (name := Str.ofString "__getitem__") ht.typeIs PyProof.Rows.slot_tuple_getitem
    (wpAny_call_entry PyProof.Rows.slot_tuple_getitem ht.typeIs entry_tuple_getitem ?_ (args_tuple_getitem _ _)))
  show wpAny _ _ (Builtin.Tuple.tupleItemsOf (.ref t) >>= _) _ _ s
  refine wpAny_bind (tupleItemsOf_ ht ?_)
  refine wpAny_bind (wpAny_typeOf hTs ?_)
  rw [if_pos (by decide)]
  refine wpAny_bind (sliceApplied2 hs pl pu ps h0 ?_)
  have hno : ¬ ((((loIx lo items.size : Nat) : Int) == 0 && (2 : Int) == 1 && (items.size - loIx lo items.size + 1) / 2 == items.size) = true) := by
    intro q
    rw [Bool.and_eq_true, Bool.and_eq_true] at q
    exact absurd q.1.2 (by decide)
  show wpAny _ _ (if (((loIx lo items.size : Nat) : Int) == 0 && (2 : Int) == 1 && (items.size - loIx lo items.size + 1) / 2 == items.size) = true then _ else _) _ _ s
  have e : ((List.range ((items.size - loIx lo items.size + 1) / 2)).filterMap fun (m : Nat) => items[(((loIx lo items.size : Nat) : Int) + (m : Int) * 2).toNat]?).toArray = (evens (items.toList.drop (loIx lo items.size))).toArray := by
    congr 1
    rw [← evens_at items.toList _ _ (by rw [Array.length_toList])]
    congr 1
    funext m
    rw [show (((loIx lo items.size : Nat) : Int) + (m : Int) * 2).toNat = loIx lo items.size + 2 * m by omega, Array.getElem?_toList]
  rw [if_neg hno, e]
  first
    | exact wpAny_bind (m := Builtin.Tuple.tupleExact _) (wpAny_newObj_type (wpAny_pure ⟨_, rfl, wpAny_pure h⟩) htake)
    | exact wpAny_bind (m := Builtin.Tuple.tupleExact _) (wpAny_newObj_type (wpAny_bind (wpAny_pure (wpAny_pure ⟨_, rfl, wpAny_pure h⟩))) htake)
    | exact wpAny_bind (wpAny_bind (m := Builtin.Tuple.tupleExact _) (wpAny_newObj_type (wpAny_pure (wpAny_pure ⟨_, rfl, wpAny_pure h⟩)) htake))
    | exact wpAny_bind (wpAny_bind (m := Builtin.Tuple.tupleExact _) (wpAny_newObj_type (wpAny_pure ⟨_, rfl, wpAny_pure h⟩) htake))
end
theorem vals_evens : ∀ {xs : List V} {us : List Value}, Vals xs us → Vals (evens xs) (evens us)
  | _, _, .nil => .nil
  | _, _, .cons h .nil => .cons h .nil
  | _, _, .cons h (.cons _ r) => .cons h (vals_evens r)
theorem rel_evens {G : Gv} {io : Io} {H : Hp} : ∀ {ds : List Dt} {vs : List V}, RelDs G io H ds vs → RelDs G io H (evens ds) (evens vs)
  | _, _, .nil => .nil
  | _, _, .cons h .nil => .cons h .nil
  | _, _, .cons h (.cons _ r) => .cons h (rel_evens r)
theorem vals_dropk {xs : List V} {us : List Value} (k : Nat) (r : Vals xs us) : Vals (xs.drop k) (us.drop k) := by
  induction k generalizing xs us with
  | zero => exact r
  | succ k ih => cases r with
    | nil => exact .nil
    | cons _ r => exact ih r
def tEv (K : PySem.W.Frag) (lo : Option Int) (te : TE) : TE := fun σ H Q => te σ H fun x H1 => ∃ a xs, x = .ref a ∧ ((SqL K H1 a xs ∧ ∀ p, H1 p = none → Q (.ref p) (upd H1 p (.lst (evens (xs.drop (loIx lo xs.length)))))) ∨ (SqT K H1 a xs ∧ ∀ p, H1 p = none → Q (.ref p) (upd H1 p (.tup (evens (xs.drop (loIx lo xs.length)))))))
theorem pe_ev {X : Cx} {e : Expr} {te : TE} {l : Option Expr} {lo : Option Int} {k : Nat} {p1 p3 pos : Pos} (he : PE X e te) (hl : ∀ pins s σ H (I : Inv X pins σ H s), ∃ t, PO X l t ∧ ∀ Q, Q lo H → t σ H Q) (h0 : ∀ k, lo = some k → 0 ≤ k) :
    PE X (.Subscript e (.Slice l none (some (.Constant (.int 2) k p1)) p3) pos) (tEv X.K lo te) := by
  refine ⟨fun pins s σ H Q I h => ?_⟩
  refine Subscript_ (thn (he.run pins s σ H _ I h) fun v s1 ⟨x, H1, I1, r1, q1⟩ => ?_)
  obtain ⟨a, xs, ex, q⟩ := q1
  subst ex
  cases r1
  have hst : PO X (some (.Constant (.int 2) k p1)) (tPart (tC (.int 2))) := po_some pe_int
  obtain ⟨t, po, ht⟩ := hl pins s1 σ H1 I1
  refine wpAny_Slice (thn (po.run pins s1 σ H1 (fun o H2 => o = lo ∧ H2 = H1) I1 (ht _ ⟨rfl, rfl⟩)) fun vl s2 ⟨l, H2, I2, pl, el, e2⟩ => ?_)
  subst el e2
  refine thn (po_none.run pins s2 σ H2 (fun o H3 => o = none ∧ H3 = H2) I2 ⟨rfl, rfl⟩) fun vu s3 ⟨u, H3, I3, pu, eu, e3⟩ => ?_
  subst eu e3
  refine thn (hst.run pins s3 σ H3 (fun o H4 => o = some 2 ∧ H4 = H3) I3 ⟨2, rfl, rfl, rfl⟩) fun vs s4 ⟨o, H4, I4, ps, eo, e4⟩ => ?_
  subst eo e4
  have I5 : Inv X pins σ H4 { s4 with heap := s4.heap.push { cls := .type "slice", data := .fields #[vl, vu, vs] } } := I4.kept (t' := s4.toks) fun b ob q => Heap.get?_push_of_some _ q
  show wpAny (model X.prog X.w) X.A (subscriptTail e (.Slice _ none (some (.Constant (.int 2) k p1)) p3) (.ref a) (.ref s4.heap.objs.size)) (EP X pins σ Q) X.xe { s4 with heap := s4.heap.push { cls := .type "slice", data := .fields #[vl, vu, vs] } }
  rcases q with ⟨hx, q⟩ | ⟨hx, q⟩
  · obtain ⟨its, r, ht, hz⟩ := I5.list hx
    have hlen := r.length
    refine tail_any (ops := [.ref a, .ref s4.heap.objs.size]) ht.isList.typeIs (PySem.slot_list_getitem.lookup) ?_ (by with_unfolding_all rfl)
    refine wpAny_getItem_list_slice ht.isList (Heap.IsSliceOf.new _ vl vu vs) pl pu ps (by decide) ?_ (by rw [List.size_toArray]; omega)
    rw [pick2 _ _ h0, show its.toArray.size = xs.length by rw [List.size_toArray, hlen]]
    refine ⟨.ref _, _, I5.laid (t' := s4.toks) (o := .lst (evens (xs.drop (loIx l xs.length)))) (fun b ob q => Heap.get?_push_of_some _ q) (Nat.le_refl _) ?_, rfl, q _ (I5.hok.fresh (Nat.le_refl _))⟩
    refine ⟨?_, _, 0, vals_evens (vals_dropk _ r), Heap.get?_push_size _ rfl⟩
    have z := evens_length (xs.drop (loIx l xs.length))
    rw [List.length_drop] at z
    omega
  · obtain ⟨its, r, ht, hz⟩ := I5.tuple hx
    have hlen := r.length
    refine tail_any (ops := [.ref a, .ref s4.heap.objs.size]) ht.typeIs (PyProof.Rows.slot_tuple_getitem.lookup) ?_ (by with_unfolding_all rfl)
    refine getItem_tuple2 ht (Heap.IsSliceOf.new _ vl vu vs) pl pu ps h0 ?_ (by rw [List.size_toArray]; omega)
    rw [show its.toArray.size = xs.length by rw [List.size_toArray, hlen]]
    refine ⟨.ref _, _, I5.laid (t' := s4.toks) (o := .tup (evens (xs.drop (loIx l xs.length)))) (fun b ob q => Heap.get?_push_of_some _ q) (Nat.le_refl _) ?_, rfl, q _ (I5.hok.fresh (Nat.le_refl _))⟩
    refine ⟨?_, _, vals_evens (vals_dropk _ r), IsTup.new _ _⟩
    have z := evens_length (xs.drop (loIx l xs.length))
    rw [List.length_drop] at z
    omega
def mEv (k : Nat) (m : Env → Store → R Dt) : Env → Store → R Dt := fun en S => (m en S).bind fun x S1 => match x with
  | .tup ds => .ok (.tup (evens (ds.drop k))) S1
  | x => match asL S1 x with
    | some ds => .ok (.lst (evens (ds.drop k))) S1
    | none => .stuck
/-- xs[::-1] -/
def mRev (m : Env → Store → R Dt) : Env → Store → R Dt := fun en S => (m en S).bind fun x S1 => match asL S1 x with
    | some ds => .ok (.lst ds.reverse) S1
    | none => .stuck
section
variable {G : Gv} {X : Cx} {W : WX} {e : Expr} {m : Env → Store → R Dt} {j1 j2 : Nat} {p1 p2 p3 p4 pos : Pos}
theorem dropIx {α : Type} (xs : List α) (k : Nat) : xs.drop (min k xs.length) = xs.drop k := by
  by_cases h : k ≤ xs.length
  · rw [Nat.min_eq_left h]
  · rw [Nat.min_eq_right (by omega), List.drop_length, List.drop_eq_nil_of_le (by omega)]
theorem simE_ev {te : TE} {lo : Option Int} {k : Nat} (hk : ∀ n : Nat, loIx lo n = min k n) (hK : X.K = G.K) (he : SimE G W te m) : SimE G W (tEv X.K lo te) (mEv k m) := by
  intro io H S en σ Q so re h
  refine he io H S en σ _ so re (h.bind.imp (fun _ _ _ _ z => z) fun x S1 i1 H1 g1 s1 k1 v rx => ?_)
  split at k1
  · rename_i ds
    obtain ⟨a, vs, rfl, h1, h2⟩ := asT_ok rx rfl
    refine ⟨a, vs, rfl, .inr ⟨by rw [hK]; exact h1, fun p hp => ?_⟩⟩
    rw [hk, dropIx]
    exact out_tup s1 (rel_evens (h2.drop k)) k1 hp
  · split at k1
    · rename_i ds hl
      obtain ⟨a, vs, rfl, h1, h2⟩ := asL_ok s1 rx hl
      refine ⟨a, vs, rfl, .inl ⟨by rw [hK]; exact h1, fun p hp => ?_⟩⟩
      rw [hk, dropIx]
      exact out_lst s1 (rel_evens (h2.drop k)) k1 hp
    · exact k1.elim
theorem de_ev0 (ha : DE G X W e m) (hK : X.K = G.K := by rfl) : DE G X W (.Subscript e (.Slice none none (some (.Constant (.int 2) j1 p1)) p3) pos) (mEv 0 m) := by
  obtain ⟨t, p, q⟩ := ha
  exact ⟨_, pe_ev (lo := none) p (fun pins s σ H I => ⟨_, po_none, fun Q h => h⟩) (fun _ h => by cases h), simE_ev (fun n => by simp [loIx]) hK q⟩
theorem de_ev (k : Nat) {i : Int} (ha : DE G X W e m) (hi : i = (k : Int) := by rfl) (hK : X.K = G.K := by rfl) : DE G X W (.Subscript e (.Slice (some (.Constant (.int i) j2 p2)) none (some (.Constant (.int 2) j1 p1)) p3) pos) (mEv k m) := by
  obtain ⟨t, p, q⟩ := ha
  refine ⟨_, pe_ev (lo := some i) p (fun pins s σ H I => ⟨_, po_some pe_int, fun Q h => ⟨i, rfl, h⟩⟩) (fun z h => by cases h; omega), simE_ev (fun n => ?_) hK q⟩
  subst hi
  simp [loIx]
theorem de_rev {k : Nat} (ha : DE G X W e m) (hK : X.K = G.K := by rfl) : DE G X W (.Subscript e (.Slice none none (some (.UnaryOp .USub (.Constant (.int 1) k p1) p2)) p3) pos) (mRev m) := by
  obtain ⟨t, p, q⟩ := ha
  refine ⟨_, pe_revL p, fun io H S en σ Q so re h => ?_⟩
  refine q io H S en σ _ so re (h.bind.imp (fun _ _ _ _ z => z) fun x S1 i1 H1 g1 s1 k1 v rx => ?_)
  split at k1
  · rename_i ds hl
    obtain ⟨a, vs, rfl, h1, h2⟩ := asL_ok s1 rx hl
    exact ⟨a, vs, rfl, by rw [hK]; exact h1, fun p hp => out_lst s1 h2.reverse k1 hp⟩
  · exact k1.elim
end
end Dv
set_option Elab.async false
set_option linter.all false
set_option maxRecDepth 100000
set_option maxHeartbeats 4000000
set_option autoImplicit false
/-! zip of two lists of like length (strict), enumerate of a list -/
namespace Dv
open PySem PySem.Spec PyProof.Rows L2
section
variable {prog : Program} {w : World} {A : Around} {E : Value → Shared → Prop} {s : Shared}
theorem next_item {it l : Addr} {i : Nat} {items : Array Value} {x : Value} {Q : Option Value → Shared → Prop} (hit : s.heap.IsListIter it l i) (hl : s.heap.IsList l items) (hx : items[i]? = some x)
    (hQ : ∀ h', h'.IsListIter it l (i + 1) → Heap.SameBut it s.heap h' → Q (some x) { s with heap := h' }) : wpAny (model prog w) A (Builtin.SmallTypes.nextOrEnd (.ref it)) Q E s := by
  unfold Builtin.SmallTypes.nextOrEnd
  exact wpAny_bind (wpAny_attempt (wpAny_nextOf_list_item hit hl hx fun h' a b => wpAny_pure (hQ h' a b)))
theorem next_end {it l : Addr} {i : Nat} {items : Array Value} {Q : Option Value → Shared → Prop} (hh : A.handled = none) (hit : s.heap.IsListIter it l i) (hl : s.heap.IsList l items) (hx : items[i]? = none)
    (hQ : ∀ h', Heap.ExtBut it s.heap h' → Q none { s with heap := h' }) : wpAny (model prog w) A (Builtin.SmallTypes.nextOrEnd (.ref it)) Q E s := by
  unfold Builtin.SmallTypes.nextOrEnd
  refine wpAny_bind (wpAny_attempt (wpAny_nextOf_list_end hh hit hl hx fun h' e hb he => ?_))
  obtain ⟨o, ho, hc⟩ := he
  exact wpAny_bind (wpAny_isInstance (T := "StopIteration") (b := true) ⟨o, ho, hc⟩ isSubtype_stop (wpAny_pure (hQ h' hb)))
/-- a zip told to be strict -/
abbrev IsZs (h : Heap) (z TI TO : Addr) (f0 : Value) : Prop := h.get? z = some { cls := .type "zip", dict := none, data := .fields #[f0, .bool false, .bool true, .ref TI, .ref TO], slots := #[] }
theorem zs_item {z TI TO i1 i2 l1 l2 : Addr} {k1 k2 : Nat} {xs ys : Array Value} {x y a b : Value} {Q : Value → Shared → Prop} (D : ZipApart z TI TO i1 i2 l1 l2)
    (hz : IsZs s.heap z TI TO .none) (hTI : IsPair s.heap TI (.ref i1) (.ref i2)) (hTO : IsPair s.heap TO a b)
    (h1 : s.heap.IsListIter i1 l1 k1) (h2 : s.heap.IsListIter i2 l2 k2) (hl1 : s.heap.IsList l1 xs) (hl2 : s.heap.IsList l2 ys) (hx : xs[k1]? = some x) (hy : ys[k2]? = some y)
    (hQ : ∀ h', IsZs h' z TI TO (rawInt s.heap.objs.size) → IsPair h' TO x y → h'.IsListIter i1 l1 (k1 + 1) → h'.IsListIter i2 l2 (k2 + 1) → IsPair h' s.heap.objs.size x y → h'.objs.size = s.heap.objs.size + 1 →
      (∀ c o, c ≠ z → c ≠ TO → c ≠ i1 → c ≠ i2 → s.heap.get? c = some o → h'.get? c = some o) → Q (.ref s.heap.objs.size) { s with heap := h' }) :
    wpAny (model prog w) A (Builtin.«zip.__next__» ⟨[.ref z], []⟩) (fun fin s' => ∃ v, fin = .done (.ret v) ∧ Q v s') E s := by
  show wpAny _ _ (field (.ref z) 2 >>= _) _ _ _
  refine wpAny_bind (wpAny_field hz rfl (x := .bool true) rfl ?_)
  show wpAny _ _ (field (.ref z) 3 >>= _) _ _ _
  refine wpAny_bind (wpAny_field hz rfl (x := .ref TI) rfl (wpAny_bind (wpAny_seqItems hTI rfl ?_)))
  show wpAny _ _ (Builtin.SmallTypes.ownedTupleIsFree (.ref z) >>= _) _ _ _
  refine wpAny_bind ?_
  unfold Builtin.SmallTypes.ownedTupleIsFree
  refine wpAny_bind (wpAny_field hz rfl (x := .none) rfl (wpAny_pure ?_))
  simp only [if_true]
  refine wpAny_bind (wpAny_rule (wpAny_bind (wpAny_field hz rfl (x := .ref TO) rfl ?_)))
  refine wpAny_bind (wpAny_setField_rec hz (by simp) fun g1 z1 b1 => wpAny_bind ?_)
  replace z1 : IsZs g1 z TI TO .ellipsis := z1
  simp only [List.zipIdx_cons, List.zipIdx_nil, List.forIn_cons, List.forIn_nil]
  have it1 := h1.extBut b1.extBut D.i1z
  have ll1 := hl1.extBut b1.extBut D.l1z
  refine wpAny_bind (wpAny_bind (wpAny_onRaise ?_))
  show wpAny _ _ (Builtin.SmallTypes.nextOrEnd (.ref i1)) _ _ _
  refine next_item it1 ll1 hx fun g2 n1 b2 => ?_
  have p2 : IsPair g2 TO a b := b2.extBut _ _ D.TOi1 (b1.extBut _ _ D.TOz hTO)
  refine wpAny_bind (wpAny_seqItems p2 rfl (wpAny_bind (wpAny_updateSeq_pair p2 fun g3 p3 b3 => ?_)))
  replace p3 : IsPair g3 TO x b := p3
  refine wpAny_bind (wpAny_letGo (wpAny_pure ?_))
  have it2 := ((h2.extBut b1.extBut D.i2z).extBut b2.extBut D.i12.symm).extBut b3.extBut D.TOi2.symm
  have ll2 := ((hl2.extBut b1.extBut D.l2z).extBut b2.extBut D.l2i1).extBut b3.extBut D.l2TO
  refine wpAny_bind (wpAny_bind (wpAny_onRaise ?_))
  show wpAny _ _ (Builtin.SmallTypes.nextOrEnd (.ref i2)) _ _ _
  refine next_item it2 ll2 hy fun g4 n2 b4 => ?_
  have p4 : IsPair g4 TO x b := b4.extBut _ _ D.TOi2 p3
  refine wpAny_bind (wpAny_seqItems p4 rfl (wpAny_bind (wpAny_updateSeq_pair p4 fun g5 p5 b5 => ?_)))
  replace p5 : IsPair g5 TO x y := p5
  refine wpAny_bind (wpAny_letGo (wpAny_pure (wpAny_pure ?_)))
  refine wpAny_bind (wpAny_seqItems p5 rfl (wpAny_bind (wpAny_newTuple ?_)))
  have sz : g5.objs.size = s.heap.objs.size := by rw [b5.1, b4.1, b3.1, b2.1, b1.1]
  have z5 : IsZs g5 z TI TO .ellipsis := b5.extBut _ _ D.TOz.symm (b4.extBut _ _ D.i2z.symm (b3.extBut _ _ D.TOz.symm (b2.extBut _ _ D.i1z.symm z1)))
  have k5 : ∀ c o, c ≠ z → c ≠ TO → c ≠ i1 → c ≠ i2 → s.heap.get? c = some o → g5.get? c = some o := fun c o c1 c2 c3 c4 e =>
    b5.extBut _ _ c2 (b4.extBut _ _ c4 (b3.extBut _ _ c2 (b2.extBut _ _ c3 (b1.extBut _ _ c1 e))))
  have n15 : g5.IsListIter i1 l1 (k1 + 1) := ((n1.extBut b3.extBut D.TOi1.symm).extBut b4.extBut D.i12).extBut b5.extBut D.TOi1.symm
  have n25 : g5.IsListIter i2 l2 (k2 + 1) := n2.extBut b5.extBut D.TOi2.symm
  have zlt : z < g5.objs.size := Heap.lt_size z5
  show wpAny _ _ (Builtin.SmallTypes.ownedTupleHandOut (.ref z) (.ref g5.objs.size) >>= _) _ _ _
  refine wpAny_bind ?_
  unfold Builtin.SmallTypes.ownedTupleHandOut
  have z6 : IsZs (g5.push { cls := .type "tuple", data := .seq #[x, y] }) z TI TO .ellipsis := Heap.get?_push_of_some _ z5
  refine wpAny_bind (wpAny_setField_rec z6 (by simp) fun g7 z7 b7 => ?_)
  replace z7 : IsZs g7 z TI TO (rawInt g5.objs.size) := z7
  refine wpAny_setField_rec z7 (by simp) fun g8 z8 b8 => wpAny_pure ⟨_, rfl, ?_⟩
  replace z8 : IsZs g8 z TI TO (rawInt g5.objs.size) := z8
  have up : ∀ c o, c ≠ z → g5.get? c = some o → g8.get? c = some o := fun c o c1 e => b8.extBut _ _ c1 (b7.extBut _ _ c1 (Heap.get?_push_of_some _ e))
  have t8 : IsPair g8 g5.objs.size x y := b8.extBut _ _ (Nat.ne_of_gt zlt) (b7.extBut _ _ (Nat.ne_of_gt zlt) (Heap.get?_push_size _ rfl))
  have s8 : g8.objs.size = g5.objs.size + 1 := by rw [b8.1, b7.1, Heap.size_push]
  rw [sz] at z8 t8 s8
  show Q (.ref g5.objs.size) _
  rw [sz]
  exact hQ g8 z8 (up _ _ D.TOz p5) (n15.at fun o e => up _ o D.i1z e) (n25.at fun o e => up _ o D.i2z e) t8 s8 fun c o c1 c2 c3 c4 e => up c o c1 (k5 c o c1 c2 c3 c4 e)
theorem zs_end {z TI TO i1 i2 l1 l2 : Addr} {k1 k2 : Nat} {xs ys : Array Value} {a b : Value} {Q : Fin → Shared → Prop} (hh : A.handled = none) (D : ZipApart z TI TO i1 i2 l1 l2)
    (hz : IsZs s.heap z TI TO .none) (hTI : IsPair s.heap TI (.ref i1) (.ref i2)) (hTO : IsPair s.heap TO a b)
    (h1 : s.heap.IsListIter i1 l1 k1) (h2 : s.heap.IsListIter i2 l2 k2) (hl1 : s.heap.IsList l1 xs) (hl2 : s.heap.IsList l2 ys) (hx : xs[k1]? = none) (hy : ys[k2]? = none)
    (hE : ∀ h' e, (∀ c o, c ≠ z → c ≠ TO → c ≠ i1 → c ≠ i2 → s.heap.get? c = some o → h'.get? c = some o) → (∃ o, h'.get? e = some o ∧ o.cls = .type "StopIteration") → E (.ref e) { s with heap := h' }) :
    wpAny (model prog w) A (Builtin.«zip.__next__» ⟨[.ref z], []⟩) Q E s := by
  show wpAny _ _ (field (.ref z) 2 >>= _) _ _ _
  refine wpAny_bind (wpAny_field hz rfl (x := .bool true) rfl ?_)
  show wpAny _ _ (field (.ref z) 3 >>= _) _ _ _
  refine wpAny_bind (wpAny_field hz rfl (x := .ref TI) rfl (wpAny_bind (wpAny_seqItems hTI rfl ?_)))
  show wpAny _ _ (Builtin.SmallTypes.ownedTupleIsFree (.ref z) >>= _) _ _ _
  refine wpAny_bind ?_
  unfold Builtin.SmallTypes.ownedTupleIsFree
  refine wpAny_bind (wpAny_field hz rfl (x := .none) rfl (wpAny_pure ?_))
  simp only [if_true]
  refine wpAny_bind (wpAny_rule (wpAny_bind (wpAny_field hz rfl (x := .ref TO) rfl ?_)))
  refine wpAny_bind (wpAny_setField_rec hz (by simp) fun g1 z1 b1 => wpAny_bind ?_)
  replace z1 : IsZs g1 z TI TO .ellipsis := z1
  simp only [List.zipIdx_cons, List.zipIdx_nil, List.forIn_cons, List.forIn_nil]
  have it1 := h1.extBut b1.extBut D.i1z
  have ll1 := hl1.extBut b1.extBut D.l1z
  refine wpAny_bind (wpAny_bind (wpAny_onRaise ?_))
  show wpAny _ _ (Builtin.SmallTypes.nextOrEnd (.ref i1)) _ _ _
  refine next_end hh it1 ll1 hx fun g2 b2 => ?_
  have z2 : IsZs g2 z TI TO .ellipsis := b2 _ _ D.i1z.symm z1
  refine wpAny_bind (wpAny_setField_rec z2 (by simp) fun g3 z3 b3 => ?_)
  have it2 := ((h2.extBut b1.extBut D.i2z).extBut b2 D.i12.symm).extBut b3.extBut D.i2z
  have ll2 := ((hl2.extBut b1.extBut D.l2z).extBut b2 D.l2i1).extBut b3.extBut D.l2z
  refine wpAny_bind (wpAny_mono (Q := fun _ _ => False) (E := E) ?_ (fun _ _ f => f.elim) fun _ _ e => e)
  refine wpAny_bind ?_
  have hno : ¬ ((0 : Nat) > 0) := Nat.lt_irrefl 0
  simp only [show ((0 : Nat) > 0) = False from eq_false hno, if_false, List.drop_succ_cons, List.drop_zero, List.zipIdx_cons, List.zipIdx_nil, List.forIn_cons, List.forIn_nil]
  refine wpAny_bind (wpAny_bind (next_end hh it2 ll2 hy fun g4 b4 => ?_))
  simp only [Option.isSome_none, Bool.false_eq_true, if_false]
  refine wpAny_pure (wpAny_pure ?_)
  refine wpAny_bind (wpAny_rule ?_)
  unfold Builtin.SmallTypes.stopIteration
  show wpAny _ _ (newExc (.type "StopIteration") [] >>= _) _ _ _
  refine wpAny_bind ?_
  simp only [newExc, newTuple]
  refine wpAny_bind (wpAny_newObj_type ?_ (by size_fits))
  refine wpAny_bind (m := firstArgMember _ _) (wpAny_of_eq (a := Value.none) (by first | rfl | (simp only [firstArgMember]; rfl)) (wpAny_newObj_type ?_ (by size_fits)))
  simp only [raiseNew]
  refine wpAny_bind (wpAny_handled ?_)
  rw [hh]
  refine wpAny_bind (wpAny_pure (wpAny_throw (hE _ _ (fun c o c1 _ c3 c4 q => ?_) ⟨_, Heap.get?_push_size _ rfl, rfl⟩)))
  exact Heap.get?_push_of_some _ (Heap.get?_push_of_some _ (b4 _ _ c4 (b3.extBut _ _ c1 (b2 _ _ c3 (b1.extBut _ _ c1 q)))))
theorem nx_item {z TI TO i1 i2 l1 l2 : Addr} {k1 k2 : Nat} {xs ys : Array Value} {x y a b : Value} {Q : Option Value → Shared → Prop} (D : ZipApart z TI TO i1 i2 l1 l2)
    (hz : IsZs s.heap z TI TO .none) (hTI : IsPair s.heap TI (.ref i1) (.ref i2)) (hTO : IsPair s.heap TO a b)
    (h1 : s.heap.IsListIter i1 l1 k1) (h2 : s.heap.IsListIter i2 l2 k2) (hl1 : s.heap.IsList l1 xs) (hl2 : s.heap.IsList l2 ys) (hx : xs[k1]? = some x) (hy : ys[k2]? = some y)
    (hQ : ∀ h', IsZs h' z TI TO (rawInt s.heap.objs.size) → IsPair h' TO x y → h'.IsListIter i1 l1 (k1 + 1) → h'.IsListIter i2 l2 (k2 + 1) → IsPair h' s.heap.objs.size x y → h'.objs.size = s.heap.objs.size + 1 →
      (∀ c o, c ≠ z → c ≠ TO → c ≠ i1 → c ≠ i2 → s.heap.get? c = some o → h'.get? c = some o) → Q (some (.ref s.heap.objs.size)) { s with heap := h' }) :
    wpAny (model prog w) A (pyNext (.ref z)) Q E s := by
  have hT : s.TypeIs (.ref z) "zip" := ⟨_, hz, rfl⟩
  unfold pyNext
  refine wpAny_bind (wpAny_attempt (wpAny_callSpecial?_slot (name := Str.ofString "__next__") hT F.slot_zip_next (wpAny_call_entry F.slot_zip_next hT F.entry_zip_next ?_ (F.args_zip_next_1 _))))
  exact zs_item D hz hTI hTO h1 h2 hl1 hl2 hx hy fun h' a1 a2 a3 a4 a5 a6 a7 => wpAny_pure (hQ h' a1 a2 a3 a4 a5 a6 a7)
theorem nx_end {z TI TO i1 i2 l1 l2 : Addr} {k1 k2 : Nat} {xs ys : Array Value} {a b : Value} {Q : Option Value → Shared → Prop} (hh : A.handled = none) (D : ZipApart z TI TO i1 i2 l1 l2)
    (hz : IsZs s.heap z TI TO .none) (hTI : IsPair s.heap TI (.ref i1) (.ref i2)) (hTO : IsPair s.heap TO a b)
    (h1 : s.heap.IsListIter i1 l1 k1) (h2 : s.heap.IsListIter i2 l2 k2) (hl1 : s.heap.IsList l1 xs) (hl2 : s.heap.IsList l2 ys) (hx : xs[k1]? = none) (hy : ys[k2]? = none)
    (hQ : ∀ h', (∀ c o, c ≠ z → c ≠ TO → c ≠ i1 → c ≠ i2 → s.heap.get? c = some o → h'.get? c = some o) → Q none { s with heap := h' }) : wpAny (model prog w) A (pyNext (.ref z)) Q E s := by
  have hT : s.TypeIs (.ref z) "zip" := ⟨_, hz, rfl⟩
  unfold pyNext
  refine wpAny_bind (wpAny_attempt (wpAny_callSpecial?_slot (name := Str.ofString "__next__") hT F.slot_zip_next (wpAny_call_entry F.slot_zip_next hT F.entry_zip_next ?_ (F.args_zip_next_1 _))))
  refine zs_end hh D hz hTI hTO h1 h2 hl1 hl2 hx hy fun h' e hk he => ?_
  obtain ⟨o, ho, hc⟩ := he
  exact wpAny_bind (wpAny_isInstance (T := "StopIteration") (b := true) ⟨o, ho, hc⟩ isSubtype_stop (wpAny_pure (hQ _ hk)))
theorem go_zs {elts : List Expr} {x1} {pos : Pos} {z TI TO T : Addr} {Q : Unit → Shared → Prop} (hz : IsZs s.heap z TI TO (rawInt T))
    (hQ : ∀ h', IsZs h' z TI TO .none → Heap.SameBut z s.heap h' → Q () { s with heap := h' }) : wpAny (model prog w) A (letOwnedTupleGo (.Tuple elts x1 pos) (.ref z) (.ref T)) Q E s := by
  unfold letOwnedTupleGo
  refine wpAny_bind (wpAny_load hz ?_)
  show wpAny _ _ (if (["enumerate", "zip", "dict_itemiterator", "dict_reverseitemiterator", "odict_iterator", "itertools.zip_longest", "itertools.pairwise"].contains "zip" &&
      (#[rawInt T, .bool false, .bool true, .ref TI, .ref TO] : Array Value)[0]? == some (rawInt T)) = true then _ else _) Q E s
  rw [if_pos (by simp)]
  refine wpAny_bind (wpAny_rule ?_)
  show wpAny _ _ (setField (.ref z) 0 .none) Q E s
  exact wpAny_setField_rec hz (by simp) fun h' hz' hs' => hQ h' hz' hs'
theorem iter_zs {z TI TO : Addr} {f0 : Value} {Q : Value → Shared → Prop} (hz : IsZs s.heap z TI TO f0) (h : Q (.ref z) s) : wpAny (model prog w) A (pyIter (.ref z)) Q E s := by
  have hT : s.TypeIs (.ref z) "zip" := ⟨_, hz, rfl⟩
  refine wpAny_pyIter_slot hT F.slot_zip_iter (wpAny_call_entry F.slot_zip_iter hT F.entry_zip_iter ?_ (F.args_zip_iter_1 _))
  show wpAny _ _ (ret (.ref z)) _ _ s
  exact wpAny_pure ⟨_, rfl, "zip", _, hT, F.slot_zip_next.lookup, h⟩
end
abbrev zsH5 (h : Heap) (l1 l2 : Addr) : Heap := (zipH4 h l1 l2).push { cls := .type "zip", data := .fields #[.none, .bool false, .bool true, .ref (zipH2 h l1 l2).objs.size, .ref (zipH3 h l1 l2).objs.size] }
theorem ty_zs (a b : Value) : checkTypeCall "zip" ⟨[a, b], [(("strict" : Str), .bool true)]⟩ = pure () := by kernel_rfl
theorem nw_zs (a b : Value) : checkBuiltinCall "zip.__new__" ⟨[.type "zip", a, b], [(("strict" : Str), .bool true)]⟩ = pure () := by kernel_rfl
theorem in_zs (a b c : Value) : argsOk "object.__init__" ⟨[a, b, c], [(("strict" : Str), .bool true)]⟩ := by unfold argsOk; kernel_rfl
theorem meets_zs (l1 l2 : Addr) (xs ys : Array Value) :
    Meets (Builtin.«zip.__new__» ⟨[.type "zip", .ref l1, .ref l2], [(("strict" : Str), .bool true)]⟩) (fun _ R s => s.heap.IsList l1 xs ∧ s.heap.IsList l2 ys ∧
      R (.ok (.ret (.ref (zipH4 s.heap l1 l2).objs.size))) { s with heap := zsH5 s.heap l1 l2 }) :=
  .of_wp fun prog w A R s h => by
    obtain ⟨hp, g, d, tk, os⟩ := s; obtain ⟨hl1, hl2, h⟩ := h
    have hsub := sub_zip
    have hL1 : Heap.IsList (Shared.heap ⟨hp, g, d, tk, os⟩) l1 xs := hl1
    have hL2 : Heap.IsList (Shared.heap ⟨hp.push { cls := .type "list_iterator", data := .fields #[.ref l1, .int 0 0] }, g, d, tk, os⟩) l2 ys := Heap.IsList.push hl2 _
    have e1 : (("strict" : Str) != ("strict" : Str)) = false := by decide +kernel
    wp_walk using wpAny_pyIter_list hL1, wpAny_pyIter_list hL2
    exact ⟨_, rfl, h⟩
section
variable {prog : Program} {w : World} {A : Around} {E : Value → Shared → Prop} {s : Shared}
theorem call_zs {l1 l2 : Addr} {xs ys : Array Value} {Q : Value → Shared → Prop} (hl1 : s.heap.IsList l1 xs) (hl2 : s.heap.IsList l2 ys)
    (h : ∀ h', IsZs h' (s.heap.objs.size + 4) (s.heap.objs.size + 2) (s.heap.objs.size + 3) .none → IsPair h' (s.heap.objs.size + 2) (.ref s.heap.objs.size) (.ref (s.heap.objs.size + 1)) →
      IsPair h' (s.heap.objs.size + 3) .none .none → h'.IsListIter s.heap.objs.size l1 0 → h'.IsListIter (s.heap.objs.size + 1) l2 0 → h'.objs.size = s.heap.objs.size + 5 →
      (∀ c o, s.heap.get? c = some o → h'.get? c = some o) → Q (.ref (s.heap.objs.size + 4)) { s with heap := h' }) :
    wpAny (model prog w) A (call (.type "zip") [.ref l1, .ref l2] [(("strict" : Str), .bool true)]) Q E s := by
  refine callType_newKw F.called_zip (by decide) (ty_zs _ _) (nw_zs _ _) (fun obj => in_zs obj _ _) F.entry_zip_new (meets_zs l1 l2 xs ys) ⟨hl1, hl2, ?_⟩
  have z1 : (zipH1 s.heap l1).objs.size = s.heap.objs.size + 1 := Heap.size_push ..
  have z2 : (zipH2 s.heap l1 l2).objs.size = s.heap.objs.size + 2 := by rw [Heap.size_push, z1]
  have z3 : (zipH3 s.heap l1 l2).objs.size = s.heap.objs.size + 3 := by rw [Heap.size_push, z2]
  have z4 : (zipH4 s.heap l1 l2).objs.size = s.heap.objs.size + 4 := by rw [Heap.size_push, z3]
  have z5 : (zsH5 s.heap l1 l2).objs.size = s.heap.objs.size + 5 := by rw [Heap.size_push, z4]
  have g5 : (zsH5 s.heap l1 l2).get? (zipH4 s.heap l1 l2).objs.size = some _ := Heap.get?_push_size _ rfl
  have g4 : (zsH5 s.heap l1 l2).get? (zipH3 s.heap l1 l2).objs.size = some _ := Heap.get?_push_of_some _ (Heap.get?_push_size _ rfl)
  have g3 : (zsH5 s.heap l1 l2).get? (zipH2 s.heap l1 l2).objs.size = some _ := Heap.get?_push_of_some _ (Heap.get?_push_of_some _ (Heap.get?_push_size _ rfl))
  have g2 : (zsH5 s.heap l1 l2).get? (zipH1 s.heap l1).objs.size = some _ := Heap.get?_push_of_some _ (Heap.get?_push_of_some _ (Heap.get?_push_of_some _ (Heap.get?_push_size _ rfl)))
  have g1 : (zsH5 s.heap l1 l2).get? s.heap.objs.size = some _ := Heap.get?_push_of_some _ (Heap.get?_push_of_some _ (Heap.get?_push_of_some _ (Heap.get?_push_of_some _ (Heap.get?_push_size _ rfl))))
  show _ ∧ _
  rw [z2, z3, z4] at g5
  rw [z1, z2] at g3
  rw [z3] at g4
  rw [z1] at g2
  rw [z4]
  exact ⟨⟨_, g5, rfl⟩, h _ g5 g3 g4 ⟨_, g1, rfl, rfl⟩ ⟨_, g2, rfl, rfl⟩ z5 fun c o x =>
    Heap.get?_push_of_some _ (Heap.get?_push_of_some _ (Heap.get?_push_of_some _ (Heap.get?_push_of_some _ (Heap.get?_push_of_some _ x))))⟩
end
end Dv
set_option Elab.async false
set_option linter.all false
set_option maxRecDepth 100000
set_option maxHeartbeats 4000000
set_option autoImplicit false
/-! walks over zip and enumerate -/
namespace Dv
open PySem PySem.Spec PyProof.Rows L2
def Itzs (K : PySem.W.Frag) (a b : Addr) : It :=
  ⟨fun i H => ∃ (xs ys : List V) (x y : V), SqL K H a xs ∧ SqL K H b ys ∧ xs[i]? = some x ∧ ys[i]? = some y,
    fun i H v H' => ∃ T x y, v = .ref T ∧ H T = none ∧ H' = upd H T (.tup [x, y]) ∧ (∀ xs, SqL K H a xs → xs[i]? = some x) ∧ ∀ ys, SqL K H b ys → ys[i]? = some y,
    fun i H => ∃ xs ys : List V, SqL K H a xs ∧ SqL K H b ys ∧ xs.length ≤ i ∧ ys.length ≤ i⟩
theorem turn_zs {P : Program} {w : World} {K : PySem.W.Frag} {elts : List Expr} {kk : Nat} {tpos : Pos} {a b z TI TO i1 i2 : Addr} (D : ZipApart z TI TO i1 i2 a b) :
    Turn P w K (.Tuple elts kk tpos) (Itzs K a b) [z, TI, TO, i1, i2] z (fun i h => IsZs h z TI TO .none ∧ IsPair h TI (.ref i1) (.ref i2) ∧ (∃ x y, IsPair h TO x y) ∧ h.IsListIter i1 a i ∧ h.IsListIter i2 b i) where
  mem := by simp
  obj := fun i h st c hc => by
    obtain ⟨hz, hTI, ⟨x, y, hTO⟩, ⟨o1, e1, _, d1⟩, ⟨o2, e2, _, d2⟩⟩ := st
    have e' : c = z ∨ c = TI ∨ c = TO ∨ c = i1 ∨ c = i2 := by simpa using hc
    rcases e' with rfl | rfl | rfl | rfl | rfl
    · exact ⟨_, hz, fun v q => nomatch q⟩
    · exact ⟨_, hTI, fun v q => nomatch q⟩
    · exact ⟨_, hTO, fun v q => nomatch q⟩
    · exact ⟨o1, e1, fun v q => by rw [d1] at q; cases q⟩
    · exact ⟨o2, e2, fun v q => by rw [d2] at q; cases q⟩
  keep := fun i h h' st k => by
    obtain ⟨hz, hTI, ⟨x, y, hTO⟩, h1, h2⟩ := st
    exact ⟨k z (by simp) _ hz, k TI (by simp) _ hTI, ⟨x, y, k TO (by simp) _ hTO⟩, h1.at fun o q => k i1 (by simp) o q, h2.at fun o q => k i2 (by simp) o q⟩
  item := by
    intro X hP hw hK hc i pins s σ H E I hf st hg
    subst hP hw hK
    obtain ⟨hz, hTI, ⟨x0, y0, hTO⟩, h1, h2⟩ := st
    obtain ⟨xs, ys, x, y, hqx, hqy, hx, hy⟩ := hg
    obtain ⟨its, rv, p, _⟩ := I.list hqx
    obtain ⟨its2, rv2, p2, _⟩ := I.list hqy
    obtain ⟨u, hu, ru⟩ := rv.get hx
    obtain ⟨u2, hu2, ru2⟩ := rv2.get hy
    have hzl : z < s.heap.objs.size := Heap.lt_size hz
    refine nx_item D hz hTI hTO h1 h2 p.isList p2.isList (x := u) (y := u2) (by simpa using hu) (by simpa using hu2) fun h' z' TO' h1' h2' hT hsz hk => ?_
    refine ⟨_, rfl, go_zs (s := { s with heap := h' }) z' fun h'' z'' sb => ?_⟩
    have hT2 : h''.get? s.heap.objs.size = some { cls := .type "tuple", data := .seq #[u, u2] } := (sb.2 _ (Nat.ne_of_gt hzl)).trans hT
    have new : ObjOk X.prog X.w (upd H s.heap.objs.size (.tup [x, y])) h'' s.heap.objs.size (.tup [x, y]) := ⟨by show 2 ≤ sizeLine; decide, [u, u2], .cons ru (.cons ru2 .nil), ⟨_, hT2, rfl, _, rfl⟩⟩
    have I1 : Inv X pins σ (upd H s.heap.objs.size (.tup [x, y])) { s with heap := h'' } :=
      I.turnedNew (t' := s.toks) (ch := [z, TI, TO, i1, i2]) (fun c o hb q => (sb.2 c (fun q' => hb (by simp [q']))).trans (hk c o (fun q' => hb (by simp [q'])) (fun q' => hb (by simp [q'])) (fun q' => hb (by simp [q'])) (fun q' => hb (by simp [q'])) q)) hf (Nat.le_refl _) new
    refine ⟨.ref s.heap.objs.size, _, I1, rfl, ⟨_, x, y, rfl, I.hok.fresh (Nat.le_refl _), rfl, fun l hl => by rw [I.list_inj hl hqx]; exact hx, fun l hl => by rw [I.list_inj hl hqy]; exact hy⟩, ⟨z'', ?_, ⟨u, u2, ?_⟩, ?_, ?_⟩, fun c hcm => ?_⟩
    · exact (sb.2 _ D.TIz).trans (hk _ _ D.TIz D.TITO D.TIi1 D.TIi2 hTI)
    · exact (sb.2 _ D.TOz).trans TO'
    · exact h1'.at fun o q => (sb.2 _ D.i1z).trans q
    · exact h2'.at fun o q => (sb.2 _ D.i2z).trans q
    · have hlt : c < s.heap.objs.size := by
        have e' : c = z ∨ c = TI ∨ c = TO ∨ c = i1 ∨ c = i2 := by simpa using hcm
        rcases e' with q | q | q | q | q
        · rw [q]; exact hzl
        · rw [q]; exact Heap.lt_size hTI
        · rw [q]; exact Heap.lt_size hTO
        · rw [q]; obtain ⟨_, e1, _⟩ := h1; exact Heap.lt_size e1
        · rw [q]; obtain ⟨_, e2, _⟩ := h2; exact Heap.lt_size e2
      rw [upd_ne (Nat.ne_of_lt hlt)]
      exact (hf c hcm).1
  done := by
    intro X hP hw hK hc i pins s σ H E I hf st hg
    subst hP hw hK
    obtain ⟨hz, hTI, ⟨x0, y0, hTO⟩, h1, h2⟩ := st
    obtain ⟨xs, ys, hqx, hqy, hend⟩ := hg
    obtain ⟨its, rv, p, _⟩ := I.list hqx
    obtain ⟨its2, rv2, p2, _⟩ := I.list hqy
    have l1 := rv.length
    have l2 := rv2.length
    exact nx_end (I.ok.hd hc) D hz hTI hTO h1 h2 p.isList p2.isList (by simp; omega) (by simp; omega) fun h' hk => ⟨rfl, I.turnedL (t' := s.toks) (ch := [z, TI, TO, i1, i2]) (fun c o hb q =>
      hk c o (fun q' => hb (by simp [q'])) (fun q' => hb (by simp [q'])) (fun q' => hb (by simp [q'])) (fun q' => hb (by simp [q'])) q) hf⟩
  self := fun A i s Q E st h => iter_zs st.1 h
def iZs (K : PySem.W.Frag) (ta : TA) : TI := fun σ H R => ta σ H fun vs H1 => ∃ a b xs ys, vs = [.ref a, .ref b] ∧ SqL K H1 a xs ∧ SqL K H1 b ys ∧ R (Itzs K a b) H1
theorem pi_zs {X : Cx} {e e2 : Expr} {ta : TA} {p pos tpos cp kp : Pos} {elts : List Expr} {kk j : Nat} (hg : Gl X "zip") (hm : X.mg "zip" = none) (ha : PA X [e, e2] ta)
    (hs : starEach [e, e2] X.env = (false, eval e X.env) :: starEach [e2] X.env := by rfl) (hpl : ((backTo pos (starEach [e, e2] X.env)).any (·.1) || (backToKw pos (keywordEach [⟨some "strict", .Constant (.bool true) j cp, kp⟩] X.env)).any (·.1.isNone)) = false := by rfl)
    (hall : (backToKw pos (keywordEach [⟨some "strict", .Constant (.bool true) j cp, kp⟩] X.env)).all (·.1.isSome) = true := by rfl) (hks : (backToKw pos (keywordEach [⟨some "strict", .Constant (.bool true) j cp, kp⟩] X.env)).filterMap (·.1) = [("strict" : Str)] := by rfl) :
    PI X (.Tuple elts kk tpos) (.Call (.Name "zip" p) [e, e2] [⟨some "strict", .Constant (.bool true) j cp, kp⟩] pos) (iZs X.K ta) := by
  refine ⟨fun pins s σ H R I h => ?_⟩
  refine wpAny_Call_Name_kw (ld_blt I hg hm PyProof.Rows.boot_zip ?_)
  have kb : PK X [⟨some "strict", .Constant (.bool true) j cp, kp⟩] (tCons (tC (.bl true)) tNil) := pk_cons pe_bl pk_nil
  refine PySem.W.callWith_of (P := fun _ => True) hpl (fun _ _ => ⟨_, .inr (.inl rfl), PySem.W.Looks.of_pure rfl⟩) (evalArgs_kw2 hall (thn (ha.run pos pins s σ H _ I h) fun us s1 ⟨vs, H1, I1, r1, q1⟩ => ?_) hs)
  refine thn (kb.run pos pins s1 σ H1 (fun zs H2 => zs = [.bl true] ∧ H2 = H1) I1 ⟨rfl, rfl⟩) fun ws s2 ⟨zs, H2, I2, rz, ez, e2'⟩ => ⟨trivial, ?_⟩
  subst ez e2'
  rw [hks]
  obtain ⟨a, b, xs, ys, ex, hqx, hqy, q⟩ := q1
  subst ex
  cases rz with
  | cons rz rz' =>
    cases rz
    cases rz'
    cases r1 with
    | cons r rr =>
      cases rr with
      | cons r' rr =>
        cases rr
        cases r
        cases r'
        obtain ⟨its, rv, p1, _⟩ := I2.list hqx
        obtain ⟨its2, rv2, p2, _⟩ := I2.list hqy
        have la : a < s2.heap.objs.size := p1.lt
        have lb : b < s2.heap.objs.size := p2.lt
        refine call_zs p1.isList p2.isList fun h' hz hTI hTO h1 h2 hsz hk => iter_zs hz ?_
        have I3 : Inv X pins σ H2 { s2 with heap := h' } := I2.kept (t' := s2.toks) hk
        refine ⟨s2.heap.objs.size + 4, [s2.heap.objs.size + 4, s2.heap.objs.size + 2, s2.heap.objs.size + 3, s2.heap.objs.size, s2.heap.objs.size + 1], _, _, H2, rfl, I3, turn_zs (PySem.W.ktu_apart s2.heap.objs.size a b la lb), ⟨hz, hTI, ⟨_, _, hTO⟩, h1, h2⟩, fun c hcm => ?_, q⟩
        have e' : c = s2.heap.objs.size + 4 ∨ c = s2.heap.objs.size + 2 ∨ c = s2.heap.objs.size + 3 ∨ c = s2.heap.objs.size ∨ c = s2.heap.objs.size + 1 := by simpa using hcm
        have hle : s2.heap.objs.size ≤ c := by
          rcases e' with z | z | z | z | z
          all_goals (rw [z]; first | exact Nat.le_refl _ | exact Nat.le_add_right _ _)
        exact I2.fpOk hle (I2.hok.fresh hle)
/-! the layer's words -/
def pairsD (ds es : List Dt) : List Dt := List.zipWith (fun x y => .tup [x, y]) ds es
def itemsL (d : Dt) : Option (List Dt) := match d with
  | .lst ds => some ds
  | .fz ds => some ds
  | _ => none
def mZs (m : Env → Store → R (List Dt)) : Env → Store → R (List Dt) := fun en S => (m en S).bind fun ds S1 => match ds with
  | [x, y] => match itemsL x, itemsL y with
    | some xs, some ys => if xs.length = ys.length then .ok (pairsD xs ys) S1 else .stuck
    | _, _ => .stuck
  | _ => .stuck
def numbered (k : Nat) : List Dt → List Dt
  | [] => []
  | d :: ds => .tup [.int k, d] :: numbered (k + 1) ds
def mEnum (m : Env → Store → R (List Dt)) : Env → Store → R (List Dt) := fun en S => (m en S).bind fun ds S1 => match ds with
  | [x] => match itemsL x with
    | some xs => .ok (numbered 0 xs) S1
    | _ => .stuck
  | _ => .stuck
theorem numbered_length : ∀ (ds : List Dt) (k : Nat), (numbered k ds).length = ds.length
  | [], _ => rfl
  | _ :: ds, k => by rw [numbered, List.length_cons, List.length_cons, numbered_length ds]
theorem numbered_get : ∀ (ds : List Dt) (k i : Nat) (d : Dt), ds[i]? = some d → (numbered k ds)[i]? = some (.tup [.int ((k + i : Nat) : Int), d])
  | [], _, i, _, h => by simp at h
  | x :: ds, k, 0, d, h => by
    simp at h
    subst h
    rfl
  | x :: ds, k, i + 1, d, h => by
    have e := numbered_get ds (k + 1) i d (by simpa using h)
    rw [show k + 1 + i = k + (i + 1) by omega] at e
    simpa [numbered] using e
section
variable {G : Gv} {X : Cx} {W : WX} {e e2 : Expr} {p pos tpos cp kp : Pos} {elts : List Expr} {kk j : Nat} {ma : Env → Store → R (List Dt)}
theorem itemsL_rel {io : Io} {H : Hp} {d : Dt} {ds : List Dt} {v : V} (r : RelD G io H d v) (h : itemsL d = some ds) : ∃ a vs, v = .ref a ∧ ((Rd H a (.lst vs) ∧ a ∉ io) ∨ KLst G.K a vs) ∧ RelDs G io H ds vs := by
  unfold itemsL at h
  split at h
  · cases h
    cases r with
    | lst e n rs => exact ⟨_, _, rfl, .inl ⟨.inl e, n⟩, rs⟩
  · cases h
    cases r with
    | fz e rs => exact ⟨_, _, rfl, e, rs⟩
  · cases h
theorem jok_zs {io : Io} {H : Hp} {a b : Addr} {ds es : List Dt} {vs us : List V} (h1 : (Rd H a (.lst vs) ∧ a ∉ io) ∨ KLst G.K a vs) (h2 : (Rd H b (.lst us) ∧ b ∉ io) ∨ KLst G.K b us) (r1 : RelDs G io H ds vs) (r2 : RelDs G io H es us)
    (hl : ds.length = es.length) : JOk G io H (Itzs G.K a b) (pairsD ds es) := by
  have l1 := r1.length
  have l2 := r2.length
  have lp : (pairsD ds es).length = ds.length := by
    unfold pairsD
    rw [List.length_zipWith]
    omega
  refine ⟨fun i i1 H1 g hi => ?_, fun i i1 H1 g hi => ?_, fun i i1 H1 x H' g hf hi hy => ?_⟩
  · exact ⟨vs, us, vs[i]'(by omega), us[i]'(by omega), rel_sqL g h1, rel_sqL g h2, by simp, by simp⟩
  · exact ⟨vs, us, rel_sqL g h1, rel_sqL g h2, by omega, by omega⟩
  · obtain ⟨T, x', y', rfl, hT, rfl, hx, hy⟩ := hy
    have e1 := hx vs (rel_sqL g h1)
    have e2 := hy us (rel_sqL g h2)
    have i1' : i < ds.length := by omega
    obtain ⟨v, f1, f2⟩ := r1.get (i := i) (d := ds[i]) (by simp)
    obtain ⟨u, f3, f4⟩ := r2.get (i := i) (d := es[i]'(by omega)) (by simp)
    rw [e1] at f1
    rw [e2] at f3
    cases f1
    cases f3
    have ex : ExtH H1 (upd H1 T (.tup [x', y'])) := ExtH.new hT
    refine ⟨ex, .tup [ds[i], es[i]'(by omega)], ?_, .tup (.inl ⟨upd_same, hf T hT⟩) (.cons ((f2.monoB g).mono ex.grow) (.cons ((f4.monoB g).mono ex.grow) .nil))⟩
    unfold pairsD
    rw [List.getElem?_zipWith]
    simp [i1', show i < es.length by omega]
theorem jok_enum {io : Io} {H : Hp} {a : Addr} {ds : List Dt} {vs : List V} (h1 : (Rd H a (.lst vs) ∧ a ∉ io) ∨ KLst G.K a vs) (r1 : RelDs G io H ds vs) : JOk G io H (Ite G.K a) (numbered 0 ds) := by
  have l1 := r1.length
  refine ⟨fun i i1 H1 g hi => ?_, fun i i1 H1 g hi => ?_, fun i i1 H1 x H' g hf hi hy => ?_⟩
  · rw [numbered_length] at hi
    exact ⟨vs, vs[i]'(by omega), rel_sqL g h1, by simp⟩
  · rw [numbered_length] at hi
    exact ⟨vs, rel_sqL g h1, by omega⟩
  · rw [numbered_length] at hi
    obtain ⟨T, x', rfl, hT, rfl, hx⟩ := hy
    have e1 := hx vs (rel_sqL g h1)
    obtain ⟨v, f1, f2⟩ := r1.get (i := i) (d := ds[i]) (by simp)
    rw [e1] at f1
    cases f1
    have ex : ExtH H1 (upd H1 T (.tup [.int (i : Nat), x'])) := ExtH.new hT
    refine ⟨ex, .tup [.int i, ds[i]], ?_, .tup (.inl ⟨upd_same, hf T hT⟩) (.cons (.int _) (.cons ((f2.monoB g).mono ex.grow) .nil))⟩
    have z := numbered_get ds 0 i ds[i] (by simp)
    rw [Nat.zero_add] at z
    exact z
theorem di_zs (hm : X.mg "zip" = none) (ha : DA G X W [e, e2] ma) (hg : Gl X "zip" := by rfl)
    (hs : starEach [e, e2] X.env = (false, eval e X.env) :: starEach [e2] X.env := by rfl) (hpl : ((backTo pos (starEach [e, e2] X.env)).any (·.1) || (backToKw pos (keywordEach [⟨some "strict", .Constant (.bool true) j cp, kp⟩] X.env)).any (·.1.isNone)) = false := by rfl)
    (hall : (backToKw pos (keywordEach [⟨some "strict", .Constant (.bool true) j cp, kp⟩] X.env)).all (·.1.isSome) = true := by rfl) (hks : (backToKw pos (keywordEach [⟨some "strict", .Constant (.bool true) j cp, kp⟩] X.env)).filterMap (·.1) = [("strict" : Str)] := by rfl) (hK : X.K = G.K := by rfl) :
    DI G X W (.Tuple elts kk tpos) (.Call (.Name "zip" p) [e, e2] [⟨some "strict", .Constant (.bool true) j cp, kp⟩] pos) (mZs ma) := by
  obtain ⟨t, pa, qa⟩ := ha
  refine ⟨_, pi_zs hg hm pa hs hpl hall hks, fun io H S en σ Q so re h => ?_⟩
  refine qa io H S en σ _ so re (h.bind.imp (fun _ _ _ _ z => z) fun ds S1 i1 H1 g1 s1 k1 vs r => ?_)
  split at k1
  · rename_i x y
    split at k1
    · rename_i xs ys ex ey
      split at k1
      · rename_i hl
        cases r with
        | cons r1 r2 =>
          cases r2 with
          | cons r2 r3 =>
            cases r3
            obtain ⟨a, us, rfl, h1, q1⟩ := itemsL_rel r1 ex
            obtain ⟨b, ws, rfl, h2, q2⟩ := itemsL_rel r2 ey
            rw [hK]
            exact ⟨a, b, us, ws, rfl, rel_sqL Grow.refl.base h1, rel_sqL Grow.refl.base h2, k1 i1 H1 Grow.refl s1 _ (jok_zs h1 h2 q1 q2 hl)⟩
      · exact k1.elim
    · exact k1.elim
  · exact k1.elim
end
end Dv
set_option Elab.async false
set_option linter.all false
set_option maxRecDepth 100000
set_option maxHeartbeats 4000000
set_option autoImplicit false
/-! keywords; defs with defaults -/
namespace Dv
open PySem PySem.Spec PyProof.Rows L2
def pickL {α : Type} (is : List Nat) (xs : List α) : List α := is.filterMap (xs[·]?)
theorem vals_pick {vs : List V} {us : List Value} (r : Vals vs us) : ∀ is : List Nat, Vals (pickL is vs) (pickL is us)
  | [] => .nil
  | i :: is => by
    have ih := vals_pick r is
    unfold pickL at ih ⊢
    rw [List.filterMap_cons, List.filterMap_cons]
    cases hv : vs[i]? with
    | none =>
      have hu : us[i]? = none := by
        rw [List.getElem?_eq_none_iff] at hv ⊢
        rw [← r.length]
        exact hv
      rw [hu]
      exact ih
    | some v =>
      obtain ⟨u, hu, ru⟩ := r.get hv
      rw [hu]
      exact .cons ru ih
theorem rel_pick {G : Gv} {io : Io} {H : Hp} {ds : List Dt} {vs : List V} (r : RelDs G io H ds vs) : ∀ is : List Nat, RelDs G io H (pickL is ds) (pickL is vs)
  | [] => .nil
  | i :: is => by
    have ih := rel_pick r is
    unfold pickL at ih ⊢
    rw [List.filterMap_cons, List.filterMap_cons]
    cases hv : ds[i]? with
    | none =>
      have hu : vs[i]? = none := by
        rw [List.getElem?_eq_none_iff] at hv ⊢
        rw [← r.length]
        exact hv
      rw [hu]
      exact ih
    | some v =>
      obtain ⟨u, hu, ru⟩ := r.get hv
      rw [hu]
      exact .cons ru ih
section
variable {K : PySem.W.Frag} {x qual : Str} {st : Stmt} {f : Addr} {fd : FuncData} {ps ks : List Str}
theorem fun_kbn (F : Fun K x qual st f fd) (n : Nat) (is : List Nat)
    (h : ∀ (kV doc pm : Value) (an : Option Addr) (cdv ct : Value) (us ws : List Value), us.length = n → ws.length = ks.length → bindArgs (PySem.W.fnOf x qual (defArgs st) (defBody st) (defScope st) .none kV doc pm an cdv ct) ⟨us, ks.zip ws⟩ = pure (ps.zip (us ++ pickL is ws))) :
    KBn K fd ps n ks (fun us ws => us ++ pickL is ws) (fun vs zs => vs ++ pickL is zs) := by
  obtain ⟨oc, od, kV, doc, pm, an, cdv, ct, osl, rfl, lk, hcd⟩ := F.ex
  exact ⟨fun s us ws _ l1 l2 => .of_eq (h kV doc pm an cdv ct us ws l1 l2), fun r1 r2 => r1.append (vals_pick r2 is)⟩
end
def DK (G : Gv) (X : Cx) (W : WX) (k : List Keyword) (m : Env → Store → R (List Dt)) : Prop := ∃ t, PK X k t ∧ SimA G W t m
section
variable {G : Gv} {X : Cx} {W : WX} {e o : Expr} {es : List Expr} {kws : List Keyword} {m mo : Env → Store → R Dt} {ms ma mk : Env → Store → R (List Dt)} {nm : Option Str} {kpos pos apos p : Pos}
theorem dk_nil : DK G X W [] mNil := ⟨_, pk_nil, fun io H S e σ Q so re h => h io H Grow.refl so [] .nil⟩
theorem dk_cons (ha : DE G X W e m) (hr : DK G X W kws ms) : DK G X W (⟨nm, e, kpos⟩ :: kws) (mCons m ms) := by
  obtain ⟨t, p, q⟩ := ha
  obtain ⟨u, p', q'⟩ := hr
  refine ⟨_, pk_cons p p', fun io H S e σ Q so re h => ?_⟩
  refine q io H S e σ _ so re (h.bind.imp (fun _ _ _ _ z => z) fun d S1 i1 H1 g1 s1 k1 v r => ?_)
  refine q' i1 H1 S1 e σ _ s1 (re.mono g1) (k1.bind.imp (fun _ _ _ _ z => z) fun ds S2 i2 H2 g2 s2 k2 vs rs => ?_)
  exact k2 i2 H2 Grow.refl s2 _ (.cons (r.mono g2) rs)
/-! o.m(.., k = v) -/
def tMethK (C : Addr) (n : Str) (na nk : Nat) (is : List Nat) (sp : Sp) (E : L2.St → XK) (ta : TE) (t tk : TA) : TE := fun σ H Q => ta σ H fun x H1 => ∃ a dx fs, x = .ref a ∧ H1 a = some (.ins C dx fs) ∧ fs.lookup n = none ∧
  t σ H1 fun vs H2 => tk σ H2 fun zs H3 => vs.length + 1 = na ∧ zs.length = nk ∧ sp ((x :: vs) ++ pickL is zs) H3 Q (E σ)
theorem run_fnNS {CX : CXT} {k n : Nat} {f : Addr} {fd : FuncData} {ps ks : List Str} {sp : Sp} {E : L2.St → XK} {g : List Value → List Value → List Value} {gV : List V → List V → List V} {pins : List (Addr × Obj)} {σ : L2.St} {H : Hp} {s : Shared} {Q : VK} {us ws : List Value} {vs zs : List V}
    (F : FnOk X.prog X.w X.K X.mg X.base CX k f fd ps sp) (hr : Room k X.A) (hb : KBn X.K fd ps n ks g gV) (hx : PassesAt CX X σ (E σ))
    (I : Inv X pins σ H s) (r : Vals vs us) (rz : Vals zs ws) (l1 : vs.length = n) (l2 : zs.length = ks.length) (h : sp (gV vs zs) H Q (E σ)) : wpAny (model X.prog X.w) X.A (call (.ref f) us (ks.zip ws)) (EP X pins σ Q) X.xe s := by
  have r2 := hb.rel r rz
  have bt := hb.to s us ws I.kIn (r.length.symm.trans l1) (rz.length.symm.trans l2)
  refine wpAny_call (codeAny_mono (F.run X.A X.stack s H ⟨us, ks.zip ws⟩ (g us ws) (gV vs zs) Q (E σ) hr I.env0 bt r2 h) fun r s' hq => ?_)
  cases r with
  | error e => exact hx pins H s e s' I hq
  | ok fl => cases fl with
    | ret u => exact I.after hq
    | next => exact False.elim hq
    | brk => exact False.elim hq
    | cont => exact False.elim hq
theorem de_methK {pl : Sem Bool} {c : String} {C fa : Addr} {n : Str} {k na : Nat} {is : List Nat} {fd : FuncData} {ps ks : List Str} {fn : Fn} {np : Nat} (ok : ClsOk G) (hC : G.cl c = some C) (ho : DE G X W o mo) (ha : DA G X W (e :: es) ma) (hkw : DK G X W kws mk) (hm : Meth G.K C n fa)
    (F : FnOk X.prog X.w X.K X.mg X.base (L2.CX X.prog X.w) k fa fd ps (spF G np fn)) (hr : Room k X.A) (hb : KBn X.K fd ps na ks (fun us ws => us ++ pickL is ws) (fun vs zs => vs ++ pickL is zs)) (tk : Takes X W)
    (hst : starEach (e :: es) X.env = (false, eval e X.env) :: starEach es X.env := by rfl) (hall : (backToKw pos (keywordEach kws X.env)).all (·.1.isSome) = true := by rfl) (hks : (backToKw pos (keywordEach kws X.env)).filterMap (·.1) = ks := by rfl)
    (hpl : ((backTo pos (starEach (e :: es) X.env)).any (·.1) || (backToKw pos (keywordEach kws X.env)).any (·.1.isNone)) = false := by rfl)
    (ht : eval (.Call (.Attribute o n apos) (e :: es) kws pos) X.env = (do
      let ov ← eval o X.env
      standAt apos.atName
      let (f, first) ← holding [ov] (getMethod ov n pl)
      callWith pos f first (backTo pos (starEach (e :: es) X.env)) (backToKw pos (keywordEach kws X.env))) := by rfl) (hK : X.K = G.K := by rfl) :
    DE G X W (.Call (.Attribute o n apos) (e :: es) kws pos) (fun en S => (mo en S).bind fun d S1 => match insD S1 d with
      | some (c', ns, _) => if c' = c ∧ n ∉ ns then (ma en S1).bind fun ds S2 => (mk en S2).bind fun zs S3 => if ds.length + 1 = na ∧ zs.length = ks.length ∧ (d :: ds ++ pickL is zs).length = np then fn (d :: ds ++ pickL is zs) S3 else .stuck else .stuck
      | none => .stuck) := by
  obtain ⟨to, po, qo⟩ := ho
  obtain ⟨t, pa, qa⟩ := ha
  obtain ⟨tk', pk, qk⟩ := hkw
  have cK : Cls X.K C := by rw [hK]; exact ok.cls c C hC
  have mK : Meth X.K C n fa := by rw [hK]; exact hm
  refine ⟨tMethK C n na ks.length is (spF G np fn) (WE W) to t tk', ⟨fun pins s σ H Q I h => ?_⟩, fun io H S en σ Q so re h => ?_⟩
  · refine PySem.W.methodCall_KW (pl := pl) (thn (po.run pins s σ H _ I h) fun u s1 ⟨x, H1, I1, rx, a, dx, fs, ex, ea, l, q⟩ => ?_) ht
    subst ex
    obtain rfl : u = Value.ref a := rx
    refine getmeth_ok I1 ea cK mK l ?_
    refine PySem.W.callWith_KW (first := [.ref a]) (h₀ := X.base) I.ok.mod.kin mK.kp hall (thn (pa.run pos pins s1 σ H1 _ I1 q) fun us s2 ⟨vs, H2, I2, r, q2⟩ => ?_) hpl hst
    refine thn (pk.run pos pins s2 σ H2 _ I2 q2) fun ws s3 ⟨zs, H3, I3, rz, l1, l2, q3⟩ => ⟨I3.kIn, ?_⟩
    rw [hks]
    exact run_fnNS (E := WE W) (us := .ref a :: us) (vs := .ref a :: vs) F hr hb (passAt tk σ) I3 (.cons rfl r) rz l1 l2 q3
  · refine qo io H S en σ _ so re (h.bind.imp (fun _ _ _ _ z => z) fun d S1 i1 H1 g1 s1 k1 v r => ?_)
    split at k1
    · rename_i c' ns ds hi
      obtain ⟨a, C', dx, vs, rfl, h1, h2, h3, h4⟩ := insD_ok s1 r hi
      split at k1
      · rename_i hc
        obtain ⟨rfl, hn⟩ := hc
        rw [hC] at h2
        cases h2
        refine ⟨a, dx, _, rfl, h1, look_none hn, ?_⟩
        refine qa i1 H1 S1 en σ _ s1 (re.mono g1) (k1.bind.imp (fun _ _ _ _ z => z) fun ws S2 i2 H2 g2 s2 k2 us rs => ?_)
        refine qk i2 H2 S2 en σ _ s2 ((re.mono g1).mono g2) (k2.bind.imp (fun _ _ _ _ z => z) fun zs S3 i3 H3 g3 s3 k3 xs rz => ?_)
        split at k3
        · rename_i hl
          refine ⟨by rw [← rs.length]; exact hl.1, by rw [← rz.length]; exact hl.2.1, i3, S3, _, s3, ?_, hl.2.2, k3⟩
          exact RelDs.append (.cons ((r.mono g2).mono g3) (rs.mono g3)) (rel_pick rz is)
        · exact k3.elim
      · exact k1.elim
    · exact k1.elim
end
@[reducible] def mMethK (c : String) (n : Str) (na nk np : Nat) (is : List Nat) (fn : Fn) (mo : Env → Store → R Dt) (ma mk : Env → Store → R (List Dt)) : Env → Store → R Dt := fun en S => (mo en S).bind fun d S1 => match insD S1 d with
      | some (c', ns, _) => if c' = c ∧ n ∉ ns then (ma en S1).bind fun ds S2 => (mk en S2).bind fun zs S3 => if ds.length + 1 = na ∧ zs.length = nk ∧ (d :: ds ++ pickL is zs).length = np then fn (d :: ds ++ pickL is zs) S3 else .stuck else .stuck
      | none => .stuck
/-! a def with defaults -/
section
variable {P : Program} {w : World} {K : PySem.W.Frag} {mg : Str → Option Value} {base : Heap} {G : Gv}
theorem fn_okD {x qual : Str} {st : Stmt} {f : Addr} {fd : FuncData} {N ps : List Str} {k : Nat} {dvs : List V} {m : Env → Store → RS} (keep : Bool) (F : FunD K x qual (defArgs st) (defBody st) (defScope st) dvs [] f fd) (S : FnScope N ps (defScope st))
    (hbody : ∀ (cdv : Value) (A : Around) (outer : List PySem.Env) (s : Shared) (H : Hp) (E : XK), Room k (A.deeper (envOfC qual (defScope st) s.heap.objs.size f cdv)) →
      DB G (cxOf (L2.CX P w) P w K mg base N qual (defScope st) f cdv A outer s H E) (fun cls d _ H => E cls d H) (defBody st) m) : FnOk P w K mg base (L2.CX P w) (k + 1) f fd ps (spF G ps.length (fnRun N.length keep m)) := by
  refine F.ok S (fun vs H Q E h => ?_) (fun cdv A outer s H vs Q E hr h => ?_)
  · obtain ⟨io, St, ds, so, r, hl, _⟩ := h
    rw [← r.length]
    exact hl
  · obtain ⟨io, St, ds, so, r, hl, ho⟩ := h
    obtain ⟨t, p, q⟩ := hbody cdv A outer s H E hr
    refine ⟨t, p, ?_⟩
    have hpl : ps.length ≤ N.length := by have := congrArg List.length S.pre; rw [List.length_take] at this; omega
    have lv := r.length
    refine q io H St _ _ _ so (rel_start r (by omega)) ?_
    unfold fnRun at ho
    cases em : m (ds.map some ++ List.replicate (N.length - ds.length) none) St with
    | stuck => rw [em] at ho; exact ho
    | err x e1 S1 =>
      rw [em] at ho
      exact fun io' H' g so' σ cls dx re rx => finX_ok so g so' rx ho
    | ok fl e1 S1 =>
      rw [em] at ho
      cases fl with
      | nx => exact fun io' H' g so' σ re => fin_ok so g so' .non ho
      | bk => exact ho.elim
      | ct => exact ho.elim
      | rt d => exact fun io' H' g so' v r => fin_ok so g so' r ho
/-- all parameters are written -/
theorem funD_all {x qual : Str} {st : Stmt} {f : Addr} {fd : FuncData} {dvs : List V} {ps : List Str} (F : FunD K x qual (defArgs st) (defBody st) (defScope st) dvs [] f fd) (hd : dvs ≠ [])
    (h : ∀ (T : Addr) (kV doc pm : Value) (an : Option Addr) (cdv ct : Value) (us its : List Value), us.length = ps.length → its.length = dvs.length →
      ∃ k, bindArgs (PySem.W.fnOf x qual (defArgs st) (defBody st) (defScope st) (.ref T) kV doc pm an cdv ct) ⟨us, []⟩ = seqItems? (.ref T) >>= k ∧ k (some its.toArray) = pure (ps.zip us)) : Binds K fd ps [] := by
  obtain ⟨ds, r, b⟩ := F.binds1 (ps := ps) ps.length dvs.length hd (by simp) fun T kV doc pm an cdv ct us its l1 l2 => by
    obtain ⟨k, e1, e2⟩ := h T kV doc pm an cdv ct us its l1 l2
    refine ⟨k, e1, ?_⟩
    rw [← l2, List.drop_length, List.append_nil]
    exact e2
  rw [List.drop_length] at r
  cases r
  exact b
end
end Dv
set_option Elab.async false
set_option linter.all false
set_option maxRecDepth 100000
set_option maxHeartbeats 4000000
set_option autoImplicit false
/-! what an expression made, by value -/
namespace Dv
open PySem PySem.Spec PyProof.Rows L2
def mFz (m : Env → Store → R Dt) : Env → Store → R Dt := fun en S => match m en S with
  | .ok d S' => fin false S.length d S'
  | .err x S' => finX false S.length x S'
  | .stuck => .stuck
section
variable {G : Gv} {X : Cx} {W : WX} {e : Expr} {m : Env → Store → R Dt}
theorem de_fz (he : DE G X W e m) : DE G X W e (mFz m) := by
  obtain ⟨t, p, q⟩ := he
  refine ⟨t, p, fun io H S en σ Q so re h => q io H S en σ Q so re ?_⟩
  unfold mFz at h
  cases em : m en S with
  | stuck => rw [em] at h; exact h
  | ok d S' =>
    rw [em] at h
    exact fun io' H' g so' v r => fin_ok so g so' r h
  | err x S' =>
    rw [em] at h
    refine fun io' H' g so' cls dx rx => finX_ok (keep := false) (E := fun cls dx H => W cls dx σ H) (Q := Q) so g so' rx ?_
    exact h
/-- xs + ys: an object of the store -/
def mAddR (x y : Dt) (S : Store) : R Dt := match asP S x, asP S y with
    | some xs, some ys => if xs.length + ys.length ≤ 1000000 then .ok (.ref S.length) (S ++ [.lst (xs ++ ys)]) else .stuck
    | _, _ => .stuck
theorem do_addR : DO G X (binaryOp .Add) mAddR := by
  refine ⟨_, op_cat, ?_, ?_⟩
  · intro io H S x y dx dy Q so rx ry h
    unfold mAddR at h
    split at h
    · rename_i xs ys e1 e2
      split at h
      · rename_i hl
        obtain ⟨a, vs, rfl, hs, rs⟩ := asP_ok so rx e1
        obtain ⟨b, us, rfl, ht, rt⟩ := asP_ok so ry e2
        have l1 := rs.length
        have l2 := rt.length
        exact ⟨a, b, vs, us, rfl, rfl, hs, ht, small6 (by omega), fun p hp => out_ref so (rs.append rt) h hp⟩
      · exact h.elim
    · exact h.elim
  · intro x y S
    unfold mAddR
    repeat' split
    all_goals trivial
end
end Dv
set_option Elab.async false
set_option linter.all false
set_option maxRecDepth 100000
set_option maxHeartbeats 4000000
set_option autoImplicit false
/-! what is never come to; the text's classes from the head's facts -/
namespace Dv
open PySem PySem.Spec PyProof.Rows L2
def mStop : Env → Store → RS := fun _ _ => .stuck
section
variable {G : Gv} {X : Cx} {W : WX}
theorem ds_stop {s : Stmt} : DS G X W s mStop := ⟨fun _ _ _ => False, ⟨fun _ _ _ _ _ _ h => h.elim⟩, fun io H S en σ D so re h => h.elim⟩
end
structure ClsF (K : PySem.W.Frag) (C : Addr) : Prop where
  pg : PySem.W.plainGet K C Str.empty = true
  hd : PySem.W.hasDictIn K C = true
  po : PySem.W.plainOver K C = true
  sa : PySem.W.findIn K (.ref C) "__setattr__" = some (some (.builtin "object.__setattr__"))
  ha : PySem.W.findIn K (.ref C) "__class__" = some (some (.builtin "object.__class__"))
  hm : PySem.W.mroIn K C (.type "object") = some true
theorem look_mem {L : CL} : ∀ {c : String} {C : Addr}, L.lookup c = some C → (c, C) ∈ L := by
  induction L with
  | nil => intro c C h; cases h
  | cons p L ih =>
    intro c C h
    obtain ⟨d, D⟩ := p
    rw [List.lookup_cons] at h
    split at h
    · rename_i e
      cases h
      rw [eq_of_beq e]
      exact List.mem_cons_self
    · exact List.mem_cons_of_mem _ (ih h)
theorem cls_of {K : PySem.W.Frag} {L : CL} {xl : String → Option Addr} {T : List (Addr × Str)} {kt : Bool} (h : clsB K L = true) (hF : ∀ p ∈ L, ClsF K p.2) (hn : PySem.W.specialIn K (.builtin "object.__class__") "__get__" = some (some (.builtin "getset_descriptor.__get__")))
    (htk : PySem.W.takesIn K (.builtin "object.__class__") = some true) : ClsOk ⟨K, fun c => L.lookup c, xl, T, kt⟩ := by
  have al : ∀ p ∈ L, (tys.all (fun t => PySem.W.kitOne K (.type t) (.ref p.2) == some false) = true ∧ clss.all (fun t => PySem.W.kitOne K (.ref p.2) (.type t) == some false) = true) ∧ ∀ q ∈ L, PySem.W.kitOne K (.ref p.2) (.ref q.2) = some (p.1 == q.1) := fun p hp => by
    have z := List.all_eq_true.mp h p hp
    rw [Bool.and_eq_true, Bool.and_eq_true] at z
    exact ⟨z.1, fun q hq => eq_of_beq (List.all_eq_true.mp z.2 q hq)⟩
  refine ⟨fun c C e => ?_, fun c C e => (hF _ (look_mem e)).ha, .inl hn, .inl htk, fun c C e => (hF _ (look_mem e)).hm, fun c C e t ht => ?_, fun c C e t ht => ?_, fun c C d D e1 e2 => ?_⟩
  · have f := hF _ (look_mem e)
    exact ⟨f.pg, f.hd, f.po, f.sa⟩
  · exact eq_of_beq (List.all_eq_true.mp (al _ (look_mem e)).1.1 t ht)
  · exact eq_of_beq (List.all_eq_true.mp (al _ (look_mem e)).1.2 t ht)
  · exact (al _ (look_mem e1)).2 _ (look_mem e2)
end Dv
set_option Elab.async false
set_option linter.all false
set_option maxRecDepth 100000
set_option maxHeartbeats 4000000
set_option autoImplicit false
/-! comprehensions with two clauses -/
namespace Dv
open PySem PySem.Spec PyProof.Rows L2
theorem Base.trans {io i1 i2 : Io} {H H1 H2 : Hp} (a : Base io H i1 H1) (b : Base i1 H1 i2 H2) : Base io H i2 H2 :=
  ⟨fun i x h => b.at_ i x (a.at_ i x h), fun x o h n nt => let ⟨h1, n1⟩ := a.keep x o h n nt; b.keep x o h1 n1 nt⟩
section
variable {G : Gv}
/-- for tg in items if t for tg1 in .. if t1 -/
def cLoop2 (tg : Dt → Env → Option Env) (t : Env → Store → R Bool) (mi1 : Env → Store → R (List Dt)) (own1 : List Nat) (tg1 : Dt → Env → Option Env) (t1 : Env → Store → R Bool) (m : Env → Store → R Dt) (en : Env) : List Dt → List Dt → Store → R (List Dt)
  | [], acc, S => .ok acc S
  | d :: ds, acc, S => match tg d en with
    | none => .stuck
    | some e1 => (t e1 S).nx.bind fun b S1 => if b = true then (mi1 e1 S1).nx.bind fun its S2 => (cLoop tg1 t1 m (wipeE e1 own1) its acc S2).bind fun acc2 S3 => cLoop2 tg t mi1 own1 tg1 t1 m en ds acc2 S3 else cLoop2 tg t mi1 own1 tg1 t1 m en ds acc S1
def mLc2 (sl : List Nat) (mi : Env → Store → R (List Dt)) (tg : Dt → Env → Option Env) (t : Env → Store → R Bool) (mi1 : Env → Store → R (List Dt)) (sl1 : List Nat) (tg1 : Dt → Env → Option Env) (t1 : Env → Store → R Bool) (m : Env → Store → R Dt) : Env → Store → R Dt :=
  fun en S => (mi en S).bind fun items S1 => (cLoop2 tg t mi1 sl1 tg1 t1 m (wipeE en sl) items [] S1).bind fun ds S2 => .ok (.lst ds) S2
variable {X : Cx} {W : WX} {elt tg iter tg1 iter1 : Expr} {ifs ifs1 : List Expr} {scope : Scope} {sl sl1 : List Nat} {pos : Pos} {mi mi1 : Env → Store → R (List Dt)} {mg mg1 : Dt → Env → Option Env} {mt mt1 : Env → Store → R Bool} {m : Env → Store → R Dt}
end
end Dv
set_option Elab.async false
set_option linter.all false
set_option maxRecDepth 100000
set_option maxHeartbeats 4000000
set_option autoImplicit false
/-! == and != of instances by their own __eq__; get of a dict; sum -/
namespace Dv
open PySem PySem.Spec PyProof.Rows L2
section
variable {G : Gv} {X : Cx} {W : WX} {C f : Addr} {c : String} {k : Nat} {fd : FuncData} {ps : List Str} {fn : Fn}
/-! d.get(k, x) -/
def hasK (x : Key) : List Key → Bool
  | [] => false
  | k :: ks => if k = x then true else hasK x ks
theorem hasK_no {x : Key} : ∀ {ks : List Key}, ¬ hasK x ks = true → x ∉ ks
  | [], _ => by simp
  | k :: ks, h => by
    unfold hasK at h
    split at h
    · exact absurd rfl h
    · rename_i e
      intro z
      rcases List.mem_cons.mp z with z | z
      · exact e z.symm
      · exact hasK_no h z
theorem lookK_none {κ : List Key} {vs : List V} {x : Key} (h : x ∉ κ) : valV (κ.zip vs) x = none := by
  induction κ generalizing vs with
  | nil => rfl
  | cons k ks ih =>
    cases vs with
    | nil => rfl
    | cons v vs =>
      rw [List.zip_cons_cons]
      exact (valV_neg (p := (k, v)) fun e => h (by rw [← (show k = x from e)]; exact List.mem_cons_self)).trans (ih fun z => h (List.mem_cons_of_mem _ z))
/-! sum of a list of numbers -/
end
end Dv
set_option Elab.async false
set_option linter.all false
set_option maxRecDepth 100000
set_option maxHeartbeats 4000000
set_option autoImplicit false
/-! two statements, what they made by value behind them -/
namespace Dv
open PySem PySem.Spec PyProof.Rows L2
end Dv
set_option Elab.async false
set_option linter.all false
set_option maxRecDepth 100000
set_option maxHeartbeats 4000000
set_option autoImplicit false
/-! more words -/
namespace Dv
open PySem L2
section
variable {en : Env} {S : Store} {Q : Dt → Store → Prop} {QA : List Dt → Store → Prop} {QB : Bool → Store → Prop} {X : Ex → Store → Prop} {QS : Fl → Env → Store → Prop} {XS : Ex → Env → Store → Prop} {ma mb mc me mo : Env → Store → R Dt} {ta tb : Env → Store → R Bool} {ms mk : Env → Store → R (List Dt)} {ba bb : Env → Store → RS}
theorem v_fld {cs : List String} {f : Str} (h : Pe (me en S) (fun d S1 => ∃ c ns ds x, insD S1 d = some (c, ns, ds) ∧ c ∈ cs ∧ (ns.zip ds).lookup f = some x ∧ Q x S1) X) : Pe (mFld cs f me en S) Q X := by
  refine Pe.bind (h.imp (fun d S1 ⟨c, ns, ds, x, e, hc, hl, k⟩ => ?_) fun _ _ z => z)
  rw [e]
  dsimp only
  rw [if_pos hc, hl]
  exact k
theorem v_meth {c : String} {n : Str} {np : Nat} {fn : Fn} (h : Pe (mo en S) (fun d S1 => (∃ ns ds, insD S1 d = some (c, ns, ds) ∧ n ∉ ns) ∧ Pe (ms en S1) (fun ds S2 => ds.length + 1 = np ∧ Pe (fn (d :: ds) S2) Q X) X) X) : Pe (mMeth c n np fn mo ms en S) Q X := by
  refine Pe.bind (h.imp (fun d S1 ⟨⟨ns, ds, e, hn⟩, k⟩ => ?_) fun _ _ z => z)
  rw [e]
  dsimp only
  rw [if_pos ⟨rfl, hn⟩]
  refine Pe.bind (k.imp (fun ds S2 ⟨hl, k2⟩ => ?_) fun _ _ z => z)
  rw [if_pos hl]
  exact k2
theorem v_methK {c : String} {n : Str} {na nk np : Nat} {is : List Nat} {fn : Fn} (h : Pe (mo en S) (fun d S1 => (∃ ns ds, insD S1 d = some (c, ns, ds) ∧ n ∉ ns) ∧ Pe (ms en S1) (fun ds S2 => Pe (mk en S2) (fun zs S3 => (ds.length + 1 = na ∧ zs.length = nk ∧ (d :: ds ++ pickL is zs).length = np) ∧ Pe (fn (d :: ds ++ pickL is zs) S3) Q X) X) X) X) :
    Pe (mMethK c n na nk np is fn mo ms mk en S) Q X := by
  refine Pe.bind (h.imp (fun d S1 ⟨⟨ns, ds, e, hn⟩, k⟩ => ?_) fun _ _ z => z)
  rw [e]
  dsimp only
  rw [if_pos ⟨rfl, hn⟩]
  refine Pe.bind (k.imp (fun ds S2 k2 => Pe.bind (k2.imp (fun zs S3 ⟨hl, k3⟩ => ?_) fun _ _ z => z)) fun _ _ z => z)
  rw [if_pos hl]
  exact k3
theorem v_make {c : String} {np : Nat} {fn : Fn} (h : Pe (ms en S) (fun ds S1 => ds.length + 1 = np ∧ Pe (fn (.ref S1.length :: ds) (S1 ++ [.ins c [] []])) (fun r S2 => r = .non ∧ Q (.ref S1.length) S2) X) X) : Pe (mMake c np fn ms en S) Q X := by
  refine Pe.bind (h.imp (fun ds S1 ⟨hl, k⟩ => ?_) fun _ _ z => z)
  rw [if_pos hl]
  refine Pe.bind (k.imp (fun r S2 ⟨e, k2⟩ => ?_) fun _ _ z => z)
  subst e
  exact k2
theorem v_fz (h : Pe (me en S) (fun d S1 => Pe (fin false S.length d S1) Q X) (fun x S1 => Pe (finX false S.length x S1) Q X)) : Pe (mFz me en S) Q X := by
  unfold mFz
  cases e : me en S with
  | ok d S1 => rw [e] at h; exact h
  | err x S1 => rw [e] at h; exact h
  | stuck => rw [e] at h; exact h
theorem v_fldS {cs : List String} {f : Str} (h : Pe (me en S) (fun d S1 => Pe (mo en S1) (fun x S2 => ∃ S3, setFld cs f S2 x d = some S3 ∧ QS .nx en S3) (fun x S => XS x en S)) (fun x S => XS x en S)) : Ps (mFldS cs f mo me en S) QS XS := by
  refine Pe.toS (h.imp (fun d S1 k => Pe.toS (k.imp (fun x S2 ⟨S3, e, q⟩ => ?_) fun _ _ z => z)) fun _ _ z => z)
  rw [e]
  exact q
theorem v_getS {k : Str} (h : Pe (mo en S) (fun x S1 => ∃ ks ds d, dctD S1 x = some (ks, ds) ∧ lookK ks ds (.inr k) = some d ∧ Q d S1) X) : Pe (mGetS k mo en S) Q X := by
  refine Pe.bind (h.imp (fun x S1 ⟨ks, ds, d, e1, e2, q⟩ => ?_) fun _ _ z => z)
  rw [e1]
  dsimp only
  rw [e2]
  exact q
theorem v_ev {k : Nat} (h : Pe (me en S) (fun x S1 => (∃ ds, x = .tup ds ∧ Q (.tup (evens (ds.drop k))) S1) ∨ (∃ ds, (∀ t, x ≠ .tup t) ∧ asL S1 x = some ds ∧ Q (.lst (evens (ds.drop k))) S1)) X) : Pe (mEv k me en S) Q X := by
  refine Pe.bind (h.imp (fun x S1 z => ?_) fun _ _ z => z)
  rcases z with ⟨ds, rfl, q⟩ | ⟨ds, hn, e, q⟩
  · exact q
  · split
    · rename_i t
      exact absurd rfl (hn t)
    · rw [e]
      exact q
theorem v_rev (h : Pe (me en S) (fun x S1 => ∃ ds, asL S1 x = some ds ∧ Q (.lst ds.reverse) S1) X) : Pe (mRev me en S) Q X := by
  refine Pe.bind (h.imp (fun x S1 ⟨ds, e, q⟩ => ?_) fun _ _ z => z)
  rw [e]
  exact q
theorem v_zs (h : Pe (ms en S) (fun ds S1 => ∃ x y xs ys, ds = [x, y] ∧ itemsL x = some xs ∧ itemsL y = some ys ∧ xs.length = ys.length ∧ QA (pairsD xs ys) S1) X) : Pe (mZs ms en S) QA X := by
  refine Pe.bind (h.imp (fun ds S1 ⟨x, y, xs, ys, e, e1, e2, hl, q⟩ => ?_) fun _ _ z => z)
  subst e
  dsimp only
  rw [e1, e2]
  dsimp only
  rw [if_pos hl]
  exact q
theorem v_enum (h : Pe (ms en S) (fun ds S1 => ∃ x xs, ds = [x] ∧ itemsL x = some xs ∧ QA (numbered 0 xs) S1) X) : Pe (mEnum ms en S) QA X := by
  refine Pe.bind (h.imp (fun ds S1 ⟨x, xs, e, e1, q⟩ => ?_) fun _ _ z => z)
  subst e
  dsimp only
  rw [e1]
  exact q
theorem v_lc2 {sl sl1 : List Nat} {mi mi1 : Env → Store → R (List Dt)} {g g1 : Dt → Env → Option Env} (h : Pe (mi en S) (fun items S1 => Pe (cLoop2 g ta mi1 sl1 g1 tb me (wipeE en sl) items [] S1) (fun ds S2 => Q (.lst ds) S2) X) X) : Pe (mLc2 sl mi g ta mi1 sl1 g1 tb me en S) Q X :=
  Pe.bind (h.imp (fun _ _ k => Pe.bind (k.imp (fun _ _ q => q) fun _ _ z => z)) fun _ _ z => z)
theorem v_app {k : Nat} {ds : List Dt} {d : Dt} (hS : S[k]? = some (.lst ds)) (hl : ds.length < 1000000) (q : Q .non (S.set k (.lst (ds ++ [d])))) : Pe (mApp S (.ref k) d) Q X := by
  unfold mApp
  simp only [hS]
  first
  | (rw [if_pos hl]; exact q)
  | exact q
theorem v_app1K {k : Nat} {ds : List Dt} {me : Env → Store → R Dt} (ho : mo en S = .ok (.ref k) S) (hS : S[k]? = some (.lst ds)) (h : Pe (me en S) (fun d S1 => ∃ ds1, S1[k]? = some (.lst ds1) ∧ ds1.length < 1000000 ∧ Q .non (S1.set k (.lst (ds1 ++ [d])))) X) : Pe (mApp1 mo me en S) Q X := by
  unfold mApp1
  rw [ho]
  show Pe (if isLstR S (.ref k) = true then _ else _) Q X
  rw [if_pos (by unfold isLstR; simp only [hS])]
  refine Pe.bind (h.imp (fun d S1 ⟨ds1, h1, h2, q⟩ => v_app h1 h2 q) fun _ _ z => z)
theorem v_itX (h : Pe (me en S) (fun d S1 => ∃ ds, itemsD d = some ds ∧ QA ds S1) X) : Pe (mIt me en S) QA X := by
  refine Pe.bind (h.imp (fun d S1 ⟨b, e, k⟩ => ?_) fun _ _ z => z)
  rw [e]
  exact k
/-! the text's own classes, the laws' own webs -/
abbrev wF : List Str := ["places", "roads"]
abbrev kF : List Str := ["over", "line", "spots"]
abbrev mF : List Key := [.inr "yards", .inr "roads"]
abbrev webV (a b : Dt) : Dt := .ins "Web" wF [a, b]
abbrev walkV (a b c : Dt) : Dt := .ins "Walk" kF [a, b, c]
abbrev modV (a b : Dt) : Dt := .dct mF [a, b]
theorem w_places (a b : Dt) : (wF.zip [a, b]).lookup ("places" : Str) = some a := rfl
theorem w_roads (a b : Dt) : (wF.zip [a, b]).lookup ("roads" : Str) = some b := by
  have e : (("roads" : Str) == ("places" : Str)) = false := by decide +kernel
  show List.lookup ("roads" : Str) [(("places" : Str), a), (("roads" : Str), b)] = some b
  rw [List.lookup_cons, e, List.lookup_cons, beq_self_eq_true]
theorem k_over (a b c : Dt) : (kF.zip [a, b, c]).lookup ("over" : Str) = some a := rfl
theorem k_line (a b c : Dt) : (kF.zip [a, b, c]).lookup ("line" : Str) = some b := by
  have e : (("line" : Str) == ("over" : Str)) = false := by decide +kernel
  show List.lookup ("line" : Str) [(("over" : Str), a), (("line" : Str), b), (("spots" : Str), c)] = some b
  rw [List.lookup_cons, e, List.lookup_cons, beq_self_eq_true]
theorem k_spots (a b c : Dt) : (kF.zip [a, b, c]).lookup ("spots" : Str) = some c := by
  have e : (("spots" : Str) == ("over" : Str)) = false := by decide +kernel
  have e2 : (("spots" : Str) == ("line" : Str)) = false := by decide +kernel
  show List.lookup ("spots" : Str) [(("over" : Str), a), (("line" : Str), b), (("spots" : Str), c)] = some c
  rw [List.lookup_cons, e, List.lookup_cons, e2, List.lookup_cons, beq_self_eq_true]
theorem m_yards (a b : Dt) : lookK mF [a, b] (.inr "yards") = some a := by
  unfold lookK
  rw [if_pos rfl]
theorem m_roads (a b : Dt) : lookK mF [a, b] (.inr "roads") = some b := by
  unfold lookK
  rw [if_neg (by decide +kernel)]
  unfold lookK
  rw [if_pos rfl]
theorem v_places (h : Pe (me en S) (fun d S1 => ∃ a b, insD S1 d = some ("Web", wF, [a, b]) ∧ Q a S1) X) : Pe (mFld ["Web"] "places" me en S) Q X :=
  v_fld (h.imp (fun d S1 ⟨a, b, e, q⟩ => ⟨_, _, _, _, e, List.mem_singleton.mpr rfl, w_places a b, q⟩) fun _ _ z => z)
theorem v_roads (h : Pe (me en S) (fun d S1 => ∃ a b, insD S1 d = some ("Web", wF, [a, b]) ∧ Q b S1) X) : Pe (mFld ["Web"] "roads" me en S) Q X :=
  v_fld (h.imp (fun d S1 ⟨a, b, e, q⟩ => ⟨_, _, _, _, e, List.mem_singleton.mpr rfl, w_roads a b, q⟩) fun _ _ z => z)
theorem v_over (h : Pe (me en S) (fun d S1 => ∃ a b c, insD S1 d = some ("Walk", kF, [a, b, c]) ∧ Q a S1) X) : Pe (mFld ["Walk"] "over" me en S) Q X :=
  v_fld (h.imp (fun d S1 ⟨a, b, c, e, q⟩ => ⟨_, _, _, _, e, List.mem_singleton.mpr rfl, k_over a b c, q⟩) fun _ _ z => z)
theorem v_line (h : Pe (me en S) (fun d S1 => ∃ a b c, insD S1 d = some ("Walk", kF, [a, b, c]) ∧ Q b S1) X) : Pe (mFld ["Walk"] "line" me en S) Q X :=
  v_fld (h.imp (fun d S1 ⟨a, b, c, e, q⟩ => ⟨_, _, _, _, e, List.mem_singleton.mpr rfl, k_line a b c, q⟩) fun _ _ z => z)
theorem v_spots (h : Pe (me en S) (fun d S1 => ∃ a b c, insD S1 d = some ("Walk", kF, [a, b, c]) ∧ Q c S1) X) : Pe (mFld ["Walk"] "spots" me en S) Q X :=
  v_fld (h.imp (fun d S1 ⟨a, b, c, e, q⟩ => ⟨_, _, _, _, e, List.mem_singleton.mpr rfl, k_spots a b c, q⟩) fun _ _ z => z)
theorem v_myards (h : Pe (mo en S) (fun x S1 => ∃ a b, dctD S1 x = some (mF, [a, b]) ∧ Q a S1) X) : Pe (mGetS "yards" mo en S) Q X :=
  v_getS (h.imp (fun x S1 ⟨a, b, e, q⟩ => ⟨_, _, _, e, m_yards a b, q⟩) fun _ _ z => z)
theorem v_mroads (h : Pe (mo en S) (fun x S1 => ∃ a b, dctD S1 x = some (mF, [a, b]) ∧ Q b S1) X) : Pe (mGetS "roads" mo en S) Q X :=
  v_getS (h.imp (fun x S1 ⟨a, b, e, q⟩ => ⟨_, _, _, e, m_roads a b, q⟩) fun _ _ z => z)
/-- a method of the two classes -/
theorem v_mW {n : Str} {np : Nat} {fn : Fn} (hn : n ∉ wF) (h : Pe (mo en S) (fun d S1 => (∃ a b, insD S1 d = some ("Web", wF, [a, b])) ∧ Pe (ms en S1) (fun ds S2 => ds.length + 1 = np ∧ Pe (fn (d :: ds) S2) Q X) X) X) : Pe (mMeth "Web" n np fn mo ms en S) Q X :=
  v_meth (h.imp (fun d S1 ⟨⟨a, b, e⟩, q⟩ => ⟨⟨_, _, e, hn⟩, q⟩) fun _ _ z => z)
theorem v_mK {n : Str} {np : Nat} {fn : Fn} (hn : n ∉ kF) (h : Pe (mo en S) (fun d S1 => (∃ a b c, insD S1 d = some ("Walk", kF, [a, b, c])) ∧ Pe (ms en S1) (fun ds S2 => ds.length + 1 = np ∧ Pe (fn (d :: ds) S2) Q X) X) X) : Pe (mMeth "Walk" n np fn mo ms en S) Q X :=
  v_meth (h.imp (fun d S1 ⟨⟨a, b, c, e⟩, q⟩ => ⟨⟨_, _, e, hn⟩, q⟩) fun _ _ z => z)
end
end Dv
set_option Elab.async false
set_option linter.all false
set_option maxRecDepth 100000
set_option maxHeartbeats 4000000
set_option autoImplicit false
/-! the head by one run: facts told by tests of our own -/
namespace Dv
open PySem PySem.Spec PyProof.Rows L2
section
variable {fs : List Test} {fn : List He.DefD} {K : PySem.W.Frag}
theorem SaysL.fact (c : SaysL fs fn K) (i : Nat) {f : Test} (h : fs[i]? = some f) : f K = true := by
  have c1 := (He.ba (show ((fs.all fun f => f K) && fn.all fun d => d.ok K) = true from congrArg (fun z : He.AlD => z.1) c)).1
  exact List.all_eq_true.mp c1 f (List.mem_of_getElem? h)
theorem SaysL.def_ (c : SaysL fs fn K) (i : Nat) {d : He.DefD} (h : fn[i]? = some d) : ∃ fd, FunD K d.name d.qual d.params d.body d.scope (d.dvs K) (d.kws K) (He.fAd K d.at_) fd := by
  have c2 := (He.ba (show ((fs.all fun f => f K) && fn.all fun d => d.ok K) = true from congrArg (fun z : He.AlD => z.1) c)).2
  have e : fn.map (fun d => He.fnW K d.at_) = fn.map He.DefD.val := congrArg (fun z : He.AlD => z.2) c
  have e2 : (fn.map fun d => He.fnW K d.at_)[i]? = (fn.map He.DefD.val)[i]? := by rw [e]
  rw [List.getElem?_map, List.getElem?_map, h] at e2
  exact He.DefD.funD (Option.some.inj e2) (List.all_eq_true.mp c2 d (List.mem_of_getElem? h))
end
theorem funOfD {K : PySem.W.Frag} {x qual : Str} {st : Stmt} {f : Addr} {fd : FuncData} (F : FunD K x qual (defArgs st) (defBody st) (defScope st) [] [] f fd) : Fun K x qual st f fd := by
  obtain ⟨c1, c2, v, k1, d1, p1, n1, e1, t1, sl, hf, hl, hc, hd, _⟩ := F.ex
  have hv : v = .none := by
    rcases hd with h | h
    · exact h.2
    · exact absurd rfl h.1
  subst hv
  exact ⟨⟨c1, c2, k1, d1, p1, n1, e1, t1, sl, hf, hl, hc⟩, F.kp⟩
/-- the goal that this head leaves -/
theorem walk_lawE {l : PySem.W.OpenLaw} {k : Nat} {q : Program} {loose : List Str} {XP : (Str → Option Value) → Heap → Prop} {YP : World → Heap → Prop} {d : DefRec} {x : Str}
    (hn : l.most = some 63) (hdf : d.params.defaults = []) (hr : Room k callerA)
    (F : ∀ (w : World) (mg : Str → Option Value) (fa : Addr) (h : Heap), YP w h → h.Ns mainGlobals mg → mg d.name = some (.ref fa) →
      ∃ (K : PySem.W.Frag) (fd : FuncData), K.In h ∧ (∀ (s : Shared) (u : Value), BindsTo s fd ⟨[u], []⟩ [(x, u)]) ∧ ∀ base : Heap, K.In base → base.Ns mainGlobals mg → FnOk l.prog w K mg base (L2.CX l.prog w) k fa fd [x] (spLaw K [])) :
    PySem.W.WalkO q loose XP YP l.row.toRowW d [] (fun f vs => PySem.call f vs) := by
  refine Att.attach_call hn hdf fun w s₀ s₁ mg mb fa o pm cd doc a vs ns G Y ho hd hcd hmg hobj hints hlen hg => ?_
  obtain ⟨K, fd, KX, hb, hF⟩ := F w mg fa _ Y G.T.g hmg
  exact law_call KX G.T.g G.T.b G.T.builtins G.T.nolimit hg hobj hints (Nat.le_trans hlen (by decide)) hr hF hb (fun H _ hS => ⟨a, ns, rfl, hS, hlen, (fun _ h => (List.not_mem_nil h).elim), fun _ => rfl⟩) fun H e s' z => by
    obtain ⟨_, _, _, _, _, _, _, _, _, _, _, _, z⟩ := z
    exact z.elim
end Dv
set_option Elab.async false
set_option linter.all false
set_option maxRecDepth 100000
set_option maxHeartbeats 4000000
set_option autoImplicit false
/-! range with a step -/
namespace Dv
open PySem PySem.Spec PyProof.Rows L2
def rangeC (lo c : Int) (n : Nat) : List Dt := (List.range n).map fun (k : Nat) => Dt.int (lo + (k : Int) * c)
def rngN (i j c : Int) : Nat := (Builtin.Range.rangeSize i j c).toNat
def rngC (i j c : Int) : Bool := decide (c ≠ 0) && (decide (c.natAbs < 1073741824) && (Builtin.Range.small i j c && decide (Builtin.Range.rangeSize i j c = (rngN i j c : Int))))
def mRng3 (m : Env → Store → R (List Dt)) : Env → Store → R (List Dt) := fun en S => (m en S).bind fun ds S1 => match ds with
  | [.int i, .int j, .int c] => if rngC i j c = true then .ok (rangeC i c (rngN i j c)) S1 else .stuck
  | _ => .stuck
section
variable {G : Gv} {X : Cx} {W : WX} {tg a b c : Expr} {ma : Env → Store → R (List Dt)} {p pos : Pos}
theorem v_rng3 {ms : Env → Store → R (List Dt)} {en : Env} {S : Store} {QA : List Dt → Store → Prop} {XE : Ex → Store → Prop} (h : Pe (ms en S) (fun ds S1 => ∃ i j k, ds = [.int i, .int j, .int k] ∧ rngC i j k = true ∧ QA (rangeC i k (rngN i j k)) S1) XE) : Pe (mRng3 ms en S) QA XE := by
  refine Pe.bind (h.imp (fun d S1 ⟨b, b', b'', e, r, k⟩ => ?_) fun _ _ z => z)
  subst e
  dsimp only
  rw [if_pos r]
  exact k
end
end Dv
set_option Elab.async false
set_option linter.all false
set_option maxRecDepth 100000
set_option maxHeartbeats 4000000
set_option autoImplicit false
/-! a try whose body lets nothing out; C(..) with defaults left out -/
namespace Dv
open PySem PySem.Spec PyProof.Rows L2
/-- try: the body, that lets nothing out -/
def mTryN (m : Env → Store → RS) : Env → Store → RS := fun en S => match m en S with
  | .ok f e S' => .ok f e S'
  | _ => .stuck
section
variable {G : Gv} {X : Cx} {W : WX}
theorem v_tryN {m : Env → Store → RS} {en : Env} {S : Store} {Q : Fl → Env → Store → Prop} {XE : Ex → Env → Store → Prop} (h : Ps (m en S) Q fun _ _ _ => False) : Ps (mTryN m en S) Q XE := by
  unfold mTryN
  cases e : m en S with
  | ok f e' S' => rw [e] at h; exact h
  | err x e' S' => rw [e] at h; exact h.elim
  | stuck => rw [e] at h; exact h.elim
end
/-! ### C(..), the last ones by default -/
def mMakeV (c : String) (np : Nat) (fn : Fn) (dfs : List Dt) (ma : Env → Store → R (List Dt)) : Env → Store → R Dt := fun en S => (ma en S).bind fun ds S1 => if (ds ++ dfs).length + 1 = np then (fn (.ref S1.length :: (ds ++ dfs)) (S1 ++ [.ins c [] []])).bind fun r S2 => match r with
  | .non => .ok (.ref S1.length) S2
  | _ => .stuck else .stuck
/-! words -/
section
variable {en : Env} {S : Store} {Q : Dt → Store → Prop} {XE : Ex → Store → Prop} {ms : Env → Store → R (List Dt)}
theorem v_makeV {c : String} {np : Nat} {fn : Fn} {dfs : List Dt} (h : Pe (ms en S) (fun ds S1 => (ds ++ dfs).length + 1 = np ∧ Pe (fn (.ref S1.length :: (ds ++ dfs)) (S1 ++ [.ins c [] []])) (fun r S2 => r = .non ∧ Q (.ref S1.length) S2) XE) XE) : Pe (mMakeV c np fn dfs ms en S) Q XE := by
  refine Pe.bind (h.imp (fun ds S1 ⟨hl, k⟩ => ?_) fun _ _ z => z)
  rw [if_pos hl]
  refine Pe.bind (k.imp (fun r S2 ⟨e, k2⟩ => ?_) fun _ _ z => z)
  subst e
  exact k2
end
end Dv
set_option Elab.async false
set_option linter.all false
set_option maxRecDepth 100000
set_option maxHeartbeats 4000000
set_option autoImplicit false
/-! len of an instance by its own __len__ -/
namespace Dv
open PySem PySem.Spec PyProof.Rows L2
end Dv
set_option Elab.async false
set_option linter.all false
set_option maxRecDepth 100000
set_option maxHeartbeats 4000000
set_option autoImplicit false
/-! enumerate(tuple) -/
namespace Dv
open PySem PySem.Spec PyProof.Rows L2
open PySem.Sem (wp)
open AutoSeq1 (wpAny_loadPart')
theorem meets_enumT (l : Addr) (items : Array Value) (n : Nat) (dct : Option Addr) (sl : Array (Option Value)) :
    Meets (Builtin.«enumerate.__new__» ⟨[.type "enumerate", .ref l], []⟩) (fun _ R s => s.heap.get? l = some { cls := .type "tuple", dict := dct, data := .seq items n, slots := sl } ∧
      R (.ok (.ret (.ref (s.heap.push { cls := .type "tuple_iterator", data := .fields #[.ref l, .int 0 0] }).objs.size)))
        { s with heap := (s.heap.push { cls := .type "tuple_iterator", data := .fields #[.ref l, .int 0 0] }).push { cls := .type "enumerate", data := .fields #[.none, .bool false, .ref s.heap.objs.size, rawInt 0, .none, .none] } }) :=
  .of_wp fun prog w A R s h => by
    obtain ⟨hp, g, d, tk, os⟩ := s; obtain ⟨hl, h⟩ := h
    have hsub := sub_enumerate
    have hL : Heap.IsTuple (Shared.heap ⟨hp, g, d, tk, os⟩) l items := ⟨_, hl, rfl, n, rfl⟩
    wp_walk using wpAny_loadPart' hl
    refine wpAny_stack_any fun st => wpAny_pure ?_
    split
    · rename_i c _ _ _ _ _
      cases (c == Value.type "enumerate")
      · wp_walk using wpAny_loadPart' hl, wpAny_pyIter_tuple hL
        exact ⟨_, rfl, h⟩
      · wp_walk using wpAny_loadPart' hl, wpAny_pyIter_tuple hL
        exact ⟨_, rfl, h⟩
    · wp_walk using wpAny_loadPart' hl, wpAny_pyIter_tuple hL
      exact ⟨_, rfl, h⟩
section
variable {prog : Program} {w : World} {A : Around} {E : Value → Shared → Prop} {s : Shared}
theorem call_enumT {l : Addr} {items : Array Value} {Q : Value → Shared → Prop} (hL : s.heap.IsTuple l items)
    (h : ∀ h', IsEnum h' (s.heap.objs.size + 1) s.heap.objs.size 0 .none → h'.IsTupleIter s.heap.objs.size l 0 → h'.objs.size = s.heap.objs.size + 2 →
      (∀ b o, s.heap.get? b = some o → h'.get? b = some o) → Q (.ref (s.heap.objs.size + 1)) { s with heap := h' }) :
    wpAny (model prog w) A (call (.type "enumerate") [.ref l]) Q E s := by
  obtain ⟨⟨c, dct, dt, sl⟩, hl, hc, n, hd⟩ := hL
  replace hc : c = .type "tuple" := hc
  replace hd : dt = .seq items n := hd
  subst hc hd
  refine callType_new F.called_enumerate (by decide) (F.typeCall_enumerate_1 _) (F.newCall_enumerate_1 _) (fun obj => F.args_object_init_2 obj _) F.entry_enumerate_new
    (meets_enumT l items n dct sl) ⟨hl, ?_⟩
  have hz : (s.heap.push { cls := .type "tuple_iterator", data := .fields #[.ref l, .int 0 0] }).objs.size = s.heap.objs.size + 1 := Heap.size_push ..
  show _ ∧ _
  rw [hz]
  have he : IsEnum ((s.heap.push { cls := .type "tuple_iterator", data := .fields #[.ref l, .int 0 0] }).push
      { cls := .type "enumerate", data := .fields #[.none, .bool false, .ref s.heap.objs.size, rawInt 0, .none, .none] }) (s.heap.objs.size + 1) s.heap.objs.size 0 .none := by
    have := Heap.get?_push_size (s.heap.push { cls := .type "tuple_iterator", data := .fields #[.ref l, .int 0 0] })
      (o := { cls := .type "enumerate", data := .fields #[.none, .bool false, .ref s.heap.objs.size, rawInt 0, .none, .none] }) rfl
    rw [hz] at this; exact this
  refine ⟨⟨_, he, rfl⟩, h _ he ⟨_, Heap.get?_push_of_some _ (Heap.get?_push_size _ rfl), rfl, rfl⟩ (by rw [Heap.size_push, hz]) fun b o x => Heap.get?_push_of_some _ (Heap.get?_push_of_some _ x)⟩
theorem enum_endT {e it l : Addr} {i : Nat} {items : Array Value} {old : Value} {Q : Option Value → Shared → Prop} (hh : A.handled = none)
    (he : IsEnum s.heap e it i old) (hit : s.heap.IsTupleIter it l i) (hl : s.heap.IsTuple l items) (hx : items[i]? = none)
    (hQ : ∀ h', Heap.ExtBut it s.heap h' → Q none { s with heap := h' }) : wpAny (model prog w) A (pyNext (.ref e)) Q E s := by
  have hT : s.TypeIs (.ref e) "enumerate" := ⟨_, he, rfl⟩
  unfold pyNext
  refine wpAny_bind (wpAny_attempt (wpAny_callSpecial?_slot (name := Str.ofString "__next__") hT F.slot_enumerate_next
    (wpAny_call_entry F.slot_enumerate_next hT F.entry_enumerate_next ?_ (F.args_enumerate_next_1 _))))
  show wpAny _ _ (field (.ref e) 2 >>= _) _ _ _
  refine wpAny_bind (wpAny_field he rfl (x := .ref it) rfl ?_)
  refine wpAny_bind (wpAny_nextOf_tuple_end hh hit hl hx fun h' x he' hx' => ?_)
  obtain ⟨o, ho, hc⟩ := hx'
  refine wpAny_bind (wpAny_isInstance (T := "StopIteration") (b := true) ⟨o, ho, hc⟩ isSubtype_stop ?_)
  exact wpAny_pure (hQ _ he')
end
/-- the tuple at a at each turn, each item in a new pair -/
def IteT (K : PySem.W.Frag) (a : Addr) : It :=
  ⟨fun i H => ∃ (xs : List V) (x : V), SqT K H a xs ∧ xs[i]? = some x, fun i H v H' => ∃ T x, v = .ref T ∧ H T = none ∧ H' = upd H T (.tup [.int (i : Nat), x]) ∧ ∀ xs, SqT K H a xs → xs[i]? = some x, fun i H => ∃ xs : List V, SqT K H a xs ∧ xs.length ≤ i⟩
theorem turn_enumT {P : Program} {w : World} {K : PySem.W.Frag} {elts : List Expr} {kk : Nat} {tpos : Pos} (a e it : Addr) :
    Turn P w K (.Tuple elts kk tpos) (IteT K a) [e, it] e (fun i h => (∃ old, IsEnum h e it ((i : Nat) : Int) old) ∧ h.IsTupleIter it a i ∧ e ≠ it ∧ a ≠ it ∧ e ≠ a) where
  mem := by simp
  obj := fun i h st b hb => by
    obtain ⟨⟨old, he⟩, ⟨o, ho, hc, hd⟩, _⟩ := st
    have e' : b = e ∨ b = it := by simpa using hb
    rcases e' with z | z
    · rw [z]; exact ⟨_, he, fun v q => nomatch q⟩
    · rw [z]; exact ⟨o, ho, fun v q => by rw [hd] at q; cases q⟩
  keep := fun i h h' st k => let ⟨⟨old, he⟩, hi, hne⟩ := st; ⟨⟨old, k e (by simp) _ he⟩, hi.at fun o q => k it (by simp) o q, hne⟩
  item := by
    intro X hP hw hK hc i pins s σ H E I hf st hg
    subst hP hw hK
    obtain ⟨⟨old, he⟩, hit, hne, hai, hea⟩ := st
    obtain ⟨xs, x, hq, hx⟩ := hg
    obtain ⟨its, rv, p, hz⟩ := I.tuple hq
    have p : s.heap.IsTuple a its.toArray := p
    obtain ⟨u, hu, ru⟩ := rv.get hx
    have hil : i < its.toArray.size := by
      have := (List.getElem?_eq_some_iff.mp hu).1
      simpa using this
    have hel : e < s.heap.objs.size := Heap.lt_size he
    have hitl : it < s.heap.objs.size := by obtain ⟨_, q, _⟩ := hit; exact Heap.lt_size q
    refine wpAny_pyNext_enum_itemC (Draws.tuple (A := X.A.in1) (show X.A.in1.handled = none from I.ok.hd hc) it a hai its.toArray) he ⟨hit, p⟩ hil hne (by simp [hne, hea]) fun x1 h' tk hx1 ho hst hT hsz hk => ?_
    have ex1 : x1 = u := by
      have h1 : its.toArray[i]? = some x1 := hx1
      have h2 : its.toArray[i]? = some u := by simpa using hu
      rw [h2] at h1
      exact (Option.some.inj h1).symm
    subst ex1
    obtain ⟨hit', _⟩ := hst
    refine ⟨_, rfl, wpAny_letOwnedTupleGo_enum (s := { s with heap := h', toks := tk + 1 }) ho fun h'' he' sb => ?_⟩
    have hT2 : h''.get? s.heap.objs.size = some { cls := .type "tuple", data := .seq #[.int i tk, x1] } := (sb.2 _ (Nat.ne_of_gt hel)).trans hT
    have new : ObjOk X.prog X.w (upd H s.heap.objs.size (.tup [.int (i : Nat), x])) h'' s.heap.objs.size (.tup [.int (i : Nat), x]) :=
      ⟨by show 2 ≤ sizeLine; decide, [.int i tk, x1], .cons ⟨_, rfl⟩ (.cons ru .nil), ⟨_, hT2, rfl, _, rfl⟩⟩
    have I1 : Inv X pins σ (upd H s.heap.objs.size (.tup [.int (i : Nat), x])) { s with heap := h'', toks := tk + 1 } :=
      I.turnedNew (ch := [e, it]) (fun b ob hb q => (sb.2 b (fun z => hb (by simp [z]))).trans (hk b ob (fun z => hb (by simp [z])) (fun z => hb (by simp [z])) q)) hf (Nat.le_refl _) new
    refine ⟨.ref s.heap.objs.size, _, I1, rfl, ⟨_, x, rfl, I.hok.fresh (Nat.le_refl _), rfl, fun ys hy => by rw [I.tuple_inj hy hq]; exact hx⟩, ⟨⟨x1, ?_⟩, hit'.at fun o q => (sb.2 it (Ne.symm hne)).trans q, hne, hai, hea⟩, fun b hb => ?_⟩
    · have e1 : ((i + 1 : Nat) : Int) = (i : Int) + 1 := by omega
      rw [e1]; exact he'
    · have hb' : b < s.heap.objs.size := by
        have e' : b = e ∨ b = it := by simpa using hb
        rcases e' with z | z
        · rw [z]; exact hel
        · rw [z]; exact hitl
      rw [upd_ne (Nat.ne_of_lt hb')]
      exact (hf b hb).1
  done := by
    intro X hP hw hK hc i pins s σ H E I hf st hg
    subst hP hw hK
    obtain ⟨⟨old, he⟩, hit, hne, hai, hea⟩ := st
    obtain ⟨xs, hq, hx⟩ := hg
    obtain ⟨its, rv, p, hz⟩ := I.tuple hq
    obtain ⟨f0, f1, f2, f3, f4, f5⟩ := hf it (by simp)
    have hl := rv.length
    exact enum_endT (I.ok.hd hc) he hit p (by simp; omega) fun h' eb => ⟨rfl, I.turned (t' := s.toks) (fun b o hb q => eb b o hb q) f0 f1 f3 f4 f5⟩
  self := fun A i s Q E st h => let ⟨⟨_, he⟩, _⟩ := st; wpAny_pyIter_enum he h
def iEnum2 (K : PySem.W.Frag) (ta : TA) : L2.TI := fun σ H R => ta σ H fun vs H1 => (∃ a xs, vs = [.ref a] ∧ SqL K H1 a xs ∧ R (Ite K a) H1) ∨ (∃ a xs, vs = [.ref a] ∧ SqT K H1 a xs ∧ R (IteT K a) H1)
theorem pi_enum2 {X : Cx} {e : Expr} {ta : TA} {p pos tpos : Pos} {elts : List Expr} {kk : Nat} (hg : Gl X "enumerate") (hm : X.mg "enumerate" = none) (ha : PA X [e] ta) (hs : starEach [e] X.env = [(false, eval e X.env)] := by rfl) :
    PI X (.Tuple elts kk tpos) (.Call (.Name "enumerate" p) [e] [] pos) (iEnum2 X.K ta) := by
  refine ⟨fun pins s σ H R I h => ?_⟩
  refine Call_ (ld_blt I hg hm boot_enumerate (PyProof.Rows.callWith_type1 (thn (ha.run pos pins s σ H _ I h) fun us s1 ⟨vs, H1, I1, r1, q1⟩ => ?_) hs rfl))
  rcases q1 with ⟨a, xs, ex, hq, q⟩ | ⟨a, xs, ex, hq, q⟩
  · subst ex
    cases r1 with
    | cons r rr =>
      cases rr
      cases r
      obtain ⟨its, rv, p', hz⟩ := I1.list hq
      refine call_enumerate_list p'.isList fun h' he hit hsz hk => wpAny_pyIter_enum he ?_
      have I2 : Inv X pins σ H1 { s1 with heap := h' } := I1.kept (t' := s1.toks) hk
      refine ⟨s1.heap.objs.size + 1, [s1.heap.objs.size + 1, s1.heap.objs.size], _, _, H1, rfl, I2, turn_enum a (s1.heap.objs.size + 1) s1.heap.objs.size, ⟨⟨.none, he⟩, hit, Nat.succ_ne_self _⟩, fun b hb => ?_, q⟩
      have e' : b = s1.heap.objs.size + 1 ∨ b = s1.heap.objs.size := by simpa using hb
      have hle : s1.heap.objs.size ≤ b := by
        rcases e' with z | z
        · rw [z]; exact Nat.le_add_right _ _
        · rw [z]; exact Nat.le_refl _
      exact I1.fpOk hle (I1.hok.fresh hle)
  · subst ex
    cases r1 with
    | cons r rr =>
      cases rr
      cases r
      obtain ⟨its, rv, p', hz⟩ := I1.tuple hq
      have p' : s1.heap.IsTuple a its.toArray := p'
      have hal : a < s1.heap.objs.size := by
        obtain ⟨o, ho, _⟩ := p'
        exact Heap.lt_size ho
      refine call_enumT p' fun h' he hit hsz hk => wpAny_pyIter_enum he ?_
      have I2 : Inv X pins σ H1 { s1 with heap := h' } := I1.kept (t' := s1.toks) hk
      refine ⟨s1.heap.objs.size + 1, [s1.heap.objs.size + 1, s1.heap.objs.size], _, _, H1, rfl, I2, turn_enumT a (s1.heap.objs.size + 1) s1.heap.objs.size, ⟨⟨.none, he⟩, hit, Nat.succ_ne_self _, Nat.ne_of_lt hal, Nat.ne_of_gt (Nat.lt_succ_of_lt hal)⟩, fun b hb => ?_, q⟩
      have e' : b = s1.heap.objs.size + 1 ∨ b = s1.heap.objs.size := by simpa using hb
      have hle : s1.heap.objs.size ≤ b := by
        rcases e' with z | z
        · rw [z]; exact Nat.le_add_right _ _
        · rw [z]; exact Nat.le_refl _
      exact I1.fpOk hle (I1.hok.fresh hle)
/-- the walk over enumerate(list or tuple) -/
def itemsX (d : Dt) : Option (List Dt) := match d with
  | .lst ds => some ds
  | .fz ds => some ds
  | .tup ds => some ds
  | _ => none
def mEnum2 (m : Env → Store → R (List Dt)) : Env → Store → R (List Dt) := fun en S => (m en S).bind fun ds S1 => match ds with
  | [x] => match itemsX x with
    | some xs => .ok (numbered 0 xs) S1
    | _ => .stuck
  | _ => .stuck
section
variable {G : Gv} {X : Cx} {W : WX} {e : Expr} {p pos tpos : Pos} {elts : List Expr} {kk : Nat} {ma : Env → Store → R (List Dt)}
theorem rel_sqT {io i1 : Io} {H H1 : Hp} {a : Addr} {vs : List V} (g : Base io H i1 H1) (h : (H a = some (.tup vs) ∧ a ∉ io) ∨ (KTup G.K a vs ∧ G.kt = true)) : SqT G.K H1 a vs := by
  rcases h with ⟨h, n⟩ | h
  · exact .inl (.inl (g.keep _ _ h n).1)
  · exact .inr h.1
theorem jok_enumT {io : Io} {H : Hp} {a : Addr} {ds : List Dt} {vs : List V} (h1 : (H a = some (.tup vs) ∧ a ∉ io) ∨ (KTup G.K a vs ∧ G.kt = true)) (r1 : RelDs G io H ds vs) : JOk G io H (IteT G.K a) (numbered 0 ds) := by
  have l1 := r1.length
  refine ⟨fun i i1 H1 g hi => ?_, fun i i1 H1 g hi => ?_, fun i i1 H1 x H' g hf hi hy => ?_⟩
  · rw [numbered_length] at hi
    exact ⟨vs, vs[i]'(by omega), rel_sqT g h1, by simp⟩
  · rw [numbered_length] at hi
    exact ⟨vs, rel_sqT g h1, by omega⟩
  · rw [numbered_length] at hi
    obtain ⟨T, x', rfl, hT, rfl, hx⟩ := hy
    have e1 := hx vs (rel_sqT g h1)
    obtain ⟨v, f1, f2⟩ := r1.get (i := i) (d := ds[i]) (by simp)
    rw [e1] at f1
    cases f1
    have ex : ExtH H1 (upd H1 T (.tup [.int (i : Nat), x'])) := ExtH.new hT
    refine ⟨ex, .tup [.int i, ds[i]], ?_, .tup (.inl ⟨upd_same, hf T hT⟩) (.cons (.int _) (.cons ((f2.monoB g).mono ex.grow) .nil))⟩
    have z := numbered_get ds 0 i ds[i] (by simp)
    rw [Nat.zero_add] at z
    exact z
theorem di_enum2 (hm : X.mg "enumerate" = none) (ha : DA G X W [e] ma) (hg : Gl X "enumerate" := by rfl) (hs : starEach [e] X.env = [(false, eval e X.env)] := by rfl) (hK : X.K = G.K := by rfl) :
    DI G X W (.Tuple elts kk tpos) (.Call (.Name "enumerate" p) [e] [] pos) (mEnum2 ma) := by
  obtain ⟨t, pa, qa⟩ := ha
  refine ⟨_, pi_enum2 hg hm pa hs, fun io H S en σ Q so re h => ?_⟩
  refine qa io H S en σ _ so re (h.bind.imp (fun _ _ _ _ z => z) fun ds S1 i1 H1 g1 s1 k1 vs r => ?_)
  split at k1
  · rename_i x
    split at k1
    · rename_i xs ex
      cases r with
      | cons r1 r2 =>
        cases r2
        rw [hK]
        unfold itemsX at ex
        split at ex
        · obtain ⟨a, us, rfl, h1, q1⟩ := itemsL_rel r1 rfl
          cases ex
          exact .inl ⟨a, us, rfl, rel_sqL Grow.refl.base h1, k1 i1 H1 Grow.refl s1 _ (jok_enum h1 q1)⟩
        · obtain ⟨a, us, rfl, h1, q1⟩ := itemsL_rel r1 rfl
          cases ex
          exact .inl ⟨a, us, rfl, rel_sqL Grow.refl.base h1, k1 i1 H1 Grow.refl s1 _ (jok_enum h1 q1)⟩
        · cases ex
          cases r1 with
          | tup h1 q1 => exact .inr ⟨_, _, rfl, rel_sqT Grow.refl.base h1, k1 i1 H1 Grow.refl s1 _ (jok_enumT h1 q1)⟩
        · cases ex
    · exact k1.elim
  · exact k1.elim
end
section
variable {en : Env} {S : Store} {QA : List Dt → Store → Prop} {XE : Ex → Store → Prop} {ms : Env → Store → R (List Dt)}
theorem v_enum2 (h : Pe (ms en S) (fun ds S1 => ∃ x xs, ds = [x] ∧ itemsX x = some xs ∧ QA (numbered 0 xs) S1) XE) : Pe (mEnum2 ms en S) QA XE := by
  refine Pe.bind (h.imp (fun ds S1 ⟨x, xs, e, e1, q⟩ => ?_) fun _ _ z => z)
  subst e
  dsimp only
  rw [e1]
  exact q
end
end Dv
set_option Elab.async false
set_option linter.all false
set_option maxRecDepth 100000
set_option maxHeartbeats 4000000
set_option autoImplicit false
/-! x in xs, the items plain data of any depth -/
namespace Dv
open PySem PySem.Spec PyProof.Rows L2
theorem okD_up1 : ∀ (k : Nat) (d : Dt), okD k d = true → okD (k + 1) d = true
  | k, .non, _ => by cases k <;> rfl
  | k, .bl _, _ => by cases k <;> rfl
  | k, .int _, _ => by cases k <;> rfl
  | 0, .str s, h => h
  | _ + 1, .str s, h => h
  | k + 1, .tup ds, h => List.all_eq_true.mpr fun x hx => okD_up1 k x (List.all_eq_true.mp h x hx)
  | k + 1, .lst ds, h => List.all_eq_true.mpr fun x hx => okD_up1 k x (List.all_eq_true.mp h x hx)
  | 0, .tup _, h => nomatch h
  | 0, .lst _, h => nomatch h
  | 0, .ty _, h => nomatch h
  | _ + 1, .ty _, h => nomatch h
  | 0, .cls _, h => nomatch h
  | _ + 1, .cls _, h => nomatch h
  | 0, .fz _, h => nomatch h
  | _ + 1, .fz _, h => nomatch h
  | 0, .ins _ _ _, h => nomatch h
  | _ + 1, .ins _ _ _, h => nomatch h
  | 0, .dct _ _, h => nomatch h
  | _ + 1, .dct _ _, h => nomatch h
  | 0, .ref _, h => nomatch h
  | _ + 1, .ref _, h => nomatch h
  | 0, .lam _ _, h => nomatch h
  | _ + 1, .lam _ _, h => nomatch h
end Dv
set_option Elab.async false
set_option linter.all false
set_option maxRecDepth 100000
set_option maxHeartbeats 4000000
set_option autoImplicit false
/-! a, b, .. = a list -/
namespace Dv
open PySem PySem.Spec PyProof.Rows L2
end Dv
set_option Elab.async false
set_option linter.all false
set_option maxRecDepth 100000
set_option maxHeartbeats 4000000
set_option autoImplicit false
/-! try with several clauses `except (A, B, ..) as e` -/
namespace Dv
open PySem PySem.Spec PyProof.Rows L2
open PySem.W (exmOne exmAny Frag Looks)
/-! ### the tests of the clauses -/
/-! ### the statement -/
end Dv
set_option Elab.async false
set_option linter.all false
set_option maxRecDepth 100000
set_option maxHeartbeats 4000000
set_option autoImplicit false
/-! x(lambda: ..), x a def that tries what it gets -/
namespace Dv
open PySem PySem.Spec PyProof.Rows L2
end Dv
set_option Elab.async false
set_option linter.all false
set_option maxRecDepth 100000
set_option maxHeartbeats 4000000
set_option autoImplicit false
/-! the two defs that try what they get -/
namespace Dv
open PySem PySem.Spec PyProof.Rows L2
open PySem.W (exmAny)
end Dv
set_option Elab.async false
set_option linter.all false
set_option maxRecDepth 100000
set_option maxHeartbeats 4000000
set_option autoImplicit false
/-! a def that makes lambdas; the head's end with tables -/
namespace Dv
open PySem PySem.Spec PyProof.Rows L2
end Dv
set_option Elab.async false
set_option linter.all false
set_option maxRecDepth 100000
set_option maxHeartbeats 4000000
set_option autoImplicit false
/-! bool and repr of an instance -/
namespace Dv
open PySem PySem.Spec PyProof.Rows L2
end Dv
set_option Elab.async false
set_option linter.all false
set_option maxRecDepth 100000
set_option maxHeartbeats 4000000
set_option autoImplicit false
/-! == and != of an instance and a thing of a built-in class -/
namespace Dv
open PySem PySem.Spec PyProof.Rows L2
end Dv
set_option Elab.async false
set_option linter.all false
set_option maxRecDepth 100000
set_option maxHeartbeats 4000000
set_option autoImplicit false
/-! max of two numbers -/
namespace Dv
open PySem PySem.Spec PyProof.Rows L2
end Dv
set_option Elab.async false
set_option linter.all false
set_option maxRecDepth 100000
set_option maxHeartbeats 4000000
set_option autoImplicit false
/-! dicts of the store: a display, d[k] = v -/
namespace Dv
open PySem PySem.Spec PyProof.Rows L2
section
variable {G : Gv} {io : Io} {H : Hp} {D : Addr} {S : Store}
theorem base_show : Base (io.hide D) H (io.push D) H := by
  refine ⟨fun i a h => ?_, fun b o h n nt => ⟨h, fun z => ?_⟩⟩
  · have h : io.l[i]? = some a := h
    show (io.l ++ [D])[i]? = some a
    rw [List.getElem?_append_left (List.getElem?_eq_some_iff.mp h).1]
    exact h
  · rcases z with z | z
    · rcases List.mem_append.mp z with z | z
      · exact n (hide_mem.mpr (.inr (.inl z)))
      · exact n (hide_mem.mpr (.inl (List.mem_singleton.mp z)))
    · exact n (hide_mem.mpr (.inr (.inr z)))
/-- what was hidden stands in the store -/
theorem so_show {o : Ob} (so : StoreOk G (io.hide D) S H) (hd : D ∉ io.h) (r : RelO G (io.push D) H o D) : StoreOk G (io.push D) (S ++ [o]) H := by
  have nl : D ∉ io.l := fun z => so.dis D z List.mem_cons_self
  have len : io.l.length = S.length := so.len.symm
  refine ⟨?_, ?_, fun a ha hh => ?_, fun a ha => so.hid a (List.mem_cons_of_mem _ ha), fun i ob a h1 h2 => ?_, so.tab⟩
  · show (io.l ++ [D]).Nodup
    refine List.nodup_append.mpr ⟨so.nd, by simp, fun a ha b hb e => ?_⟩
    rw [List.mem_singleton.mp hb] at e
    exact nl (e ▸ ha)
  · show (S ++ [o]).length = (io.l ++ [D]).length
    rw [List.length_append, List.length_append, len]
    rfl
  · rcases List.mem_append.mp ha with z | z
    · exact so.dis a z (List.mem_cons_of_mem _ hh)
    · rw [List.mem_singleton.mp z] at hh
      exact hd hh
  · by_cases hi : i < S.length
    · rw [List.getElem?_append_left hi] at h1
      have h2 : (io.l ++ [D])[i]? = some a := h2
      rw [List.getElem?_append_left (by rw [len]; exact hi)] at h2
      have q := so.ob i ob a h1 h2
      cases q with
      | lst k1 k2 => exact .lst k1 (k2.monoB base_show)
      | ins k1 c l k2 => exact .ins k1 c l (k2.monoB base_show)
      | dct k1 l k2 => exact .dct k1 l (k2.monoB base_show)
      | dkt k1 l k2 => exact .dkt k1 l (k2.monoB base_show)
    · rw [List.getElem?_append_right (by omega)] at h1
      have h2 : (io.l ++ [D])[i]? = some a := h2
      rw [List.getElem?_append_right (by omega), len] at h2
      obtain ⟨hi0, e1⟩ := List.getElem?_eq_some_iff.mp h1
      have hi0 : i - S.length = 0 := by
        rw [List.length_singleton] at hi0
        omega
      rw [hi0] at h1 h2
      cases h1
      cases h2
      exact r
end
end Dv
set_option Elab.async false
set_option linter.all false
set_option maxRecDepth 100000
set_option maxHeartbeats 4000000
set_option autoImplicit false
/-! min of two numbers -/
namespace Dv
open PySem PySem.Spec PyProof.Rows L2
end Dv
set_option Elab.async false
set_option linter.all false
set_option maxRecDepth 100000
set_option maxHeartbeats 4000000
set_option autoImplicit false
/-! d[k] = v of a dict of the store, k a text that it has -/
namespace Dv
open PySem PySem.Spec PyProof.Rows L2
def putD : List Key → List Dt → Key → Dt → Option (List Dt)
  | k :: ks, d :: ds, x, v => if k = x then (if hasK x ks = true then none else some (v :: ds)) else (putD ks ds x v).map (d :: ·)
  | _, _, _, _ => none
def setKx (S : Store) (x : Dt) (k : Key) (v : Dt) : Option Store := match x with
  | .ref i => match S[i]? with
    | some (.dct ks ds) => if ks.length < 1000 then (putD ks ds k v).map fun ds' => S.set i (.dct ks ds') else none
    | _ => none
  | _ => none
theorem map_no {x : Key} {v : V} : ∀ {ks : List Key} {vs : List V}, x ∉ ks → (ks.zip vs).map (fun kv => if kv.1 = x then (kv.1, v) else kv) = ks.zip vs
  | [], _, _ => rfl
  | _ :: _, [], _ => rfl
  | k :: ks, w :: vs, h => by
    rw [List.zip_cons_cons, List.map_cons, map_no fun z => h (List.mem_cons_of_mem _ z), if_neg fun z => h (by rw [← z]; exact List.mem_cons_self)]
theorem putD_ok {G : Gv} {io : Io} {H : Hp} {x : Key} {v : Dt} {vv : V} (rv : RelD G io H v vv) : ∀ {ks : List Key} {ds ds' : List Dt} {vs : List V}, RelDs G io H ds vs → putD ks ds x v = some ds' →
    ∃ vs', ((ks.zip vs).any fun kv => decide (kv.1 = x)) = true ∧ (ks.zip vs).map (fun kv => if kv.1 = x then (kv.1, vv) else kv) = ks.zip vs' ∧ RelDs G io H ds' vs' ∧ ds'.length = ds.length
  | [], _, _, _, _, h => by cases h
  | _ :: _, _, _, _, .nil, h => by cases h
  | k :: ks, _, ds', _, .cons (v := w) (vs := vs) r rs, h => by
    unfold putD at h
    split at h
    · rename_i e
      split at h
      · cases h
      · rename_i nh
        cases h
        refine ⟨vv :: vs, ?_, ?_, .cons rv rs, rfl⟩
        · rw [List.zip_cons_cons, List.any_cons, Bool.or_eq_true]
          exact .inl (decide_eq_true e)
        · rw [List.zip_cons_cons, List.map_cons, if_pos e, map_no (hasK_no nh)]
          rfl
    · rename_i e
      obtain ⟨ds2, h2, rfl⟩ := map_some h
      obtain ⟨vs2, h3, h4, h5, h6⟩ := putD_ok rv rs h2
      refine ⟨w :: vs2, ?_, ?_, .cons r h5, by rw [List.length_cons, List.length_cons, h6]⟩
      · rw [List.zip_cons_cons, List.any_cons, h3, Bool.or_true]
      · rw [List.zip_cons_cons, List.map_cons, if_neg e, h4]
        rfl
section
variable {G : Gv} {X : Cx} {W : WX}
theorem setKx_ok {io : Io} {H : Hp} {S S' : Store} {x d : Dt} {k : Key} {vx v : V} (so : StoreOk G io S H) (rx : RelD G io H x vx) (rd : RelD G io H d v) (h : setKx S x k d = some S') :
    ∃ p H', vx = .ref p ∧ DPut H p (kV k) v H' ∧ Grow io H io H' ∧ StoreOk G io S' H' := by
  unfold setKx at h
  split at h
  · rename_i i
    split at h
    · rename_i ks ds hs
      split at h
      · rename_i hlt
        obtain ⟨ds', hp, rfl⟩ := map_some h
        cases rx with
        | ref e =>
          obtain ⟨a, h1, h2⟩ := so.at_ hs
          rw [e] at h1
          cases h1
          cases h2 with
          | dct h3 l h4 =>
            obtain ⟨vs', q1, q2, q3, q4⟩ := putD_ok rd h4 hp
            rename_i vs
            have ep : putK (ks.zip vs) k v = ks.zip vs' := by
              unfold putK
              rw [if_pos q1]
              exact q2
            have g0 := (so.write (u := .dK (ks.zip vs')) e (.dct upd_same (by rw [q4]; exact l) (q3.monoB ⟨fun _ _ z => z, fun b o hb nb _ => ⟨by
              rw [upd_ne fun z => nb (by rw [z]; exact .inl (List.mem_of_getElem? e))]
              exact hb, nb⟩⟩)))
            have hl : (ks.zip vs).length < sizeLine := by
              rw [sizeLine_eq, List.length_zip]
              omega
            have dp := DPut.k (v := v) (k := k) h3 hl
            rw [ep] at dp
            exact ⟨_, _, rfl, dp, g0.1, g0.2⟩
      · cases h
    · cases h
  · cases h
end
end Dv
set_option Elab.async false
set_option linter.all false
set_option maxRecDepth 100000
set_option maxHeartbeats 4000000
set_option autoImplicit false
/-! targets with a star: a, *b = a list -/
namespace PySem.W
open PySem PySem.Spec PySem.Calls PyProof.Rows
end PySem.W
namespace Dv
open PySem PySem.Spec PyProof.Rows L2
end Dv
set_option Elab.async false
set_option linter.all false
set_option maxRecDepth 100000
set_option maxHeartbeats 4000000
set_option autoImplicit false
/-! a part of a block, what it made by value behind it -/
namespace Dv
open PySem PySem.Spec PyProof.Rows L2
end Dv
set_option Elab.async false
set_option linter.all false
set_option maxRecDepth 100000
set_option maxHeartbeats 4000000
set_option autoImplicit false
/-! a def of the text called with keywords; keyword-only parameters that are left out -/
namespace Dv
open PySem PySem.Spec PyProof.Rows L2
end Dv
set_option Elab.async false
set_option linter.all false
set_option maxRecDepth 100000
set_option maxHeartbeats 4000000
set_option autoImplicit false
/-! lists that change in place: += of two lists, an item += a number, a slice that is to be changed -/
namespace Dv
open PySem PySem.Spec PyProof.Rows L2
end Dv
set_option Elab.async false
set_option linter.all false
set_option maxRecDepth 100000
set_option maxHeartbeats 4000000
set_option autoImplicit false
/-! exceptions of the text over ValueError, LookupError or IndexError, whose __init__ stores -/
namespace Dv
open PySem PySem.Spec PyProof.Rows L2 Builtin Builtin.ObjectAttr
/-! ### the rules -/
/-! what the head decides -/
end Dv
set_option Elab.async false
set_option linter.all false
set_option maxRecDepth 100000
set_option maxHeartbeats 4000000
set_option autoImplicit false
/-! the def that asks, and tells the word and the field of what it gets -/
namespace Dv
open PySem PySem.Spec PyProof.Rows L2
open PySem.W (exmAny)
/-! the clauses as they stand -/
end Dv
set_option Elab.async false
set_option linter.all false
set_option maxRecDepth 100000
set_option maxHeartbeats 4000000
set_option autoImplicit false
/-! a method called without its keyword-only parameters -/
namespace Dv
open PySem PySem.Spec PyProof.Rows L2
end Dv
set_option Elab.async false
set_option linter.all false
set_option maxRecDepth 100000
set_option maxHeartbeats 4000000
set_option autoImplicit false
/-! o[a:b] = a list, o a list of the store -/
namespace Dv
open PySem PySem.Spec PyProof.Rows L2
end Dv
set_option Elab.async false
set_option linter.all false
set_option maxRecDepth 100000
set_option maxHeartbeats 4000000
set_option autoImplicit false
/-! del o[a:b], o a list of the store -/
namespace Dv
open PySem PySem.Spec PyProof.Rows L2
/-! words of the walks -/
end Dv
set_option Elab.async false
set_option linter.all false
set_option maxRecDepth 100000
set_option maxHeartbeats 4000000
set_option autoImplicit false
/-! == of two dicts of the same two text keys, whose values are lists -/
namespace Dv
open PySem PySem.Spec PyProof.Rows L2
end Dv
set_option Elab.async false
set_option linter.all false
set_option maxRecDepth 100000
set_option maxHeartbeats 4000000
set_option autoImplicit false
/-! TABLE.get(key, z): a dict of the module with text keys and whole numbers -/
namespace Dv
open PySem PySem.Spec PyProof.Rows L2
end Dv
set_option Elab.async false
set_option linter.all false
set_option maxRecDepth 100000
set_option maxHeartbeats 4000000
set_option autoImplicit false
/-! a, b, c = x, y, z: plain names -/
namespace Dv
open PySem PySem.Spec PyProof.Rows L2
end Dv
set_option Elab.async false
set_option linter.all false
set_option maxRecDepth 100000
set_option maxHeartbeats 4000000
set_option autoImplicit false
/-! xs.insert(i, y), xs a list of the store, i not below nought -/
namespace Dv
open PySem PySem.Spec PyProof.Rows L2
end Dv
set_option Elab.async false
set_option linter.all false
set_option maxRecDepth 100000
set_option maxHeartbeats 4000000
set_option autoImplicit false
/-! try: .. except (A, B, ..): .., nothing bound -/
namespace Dv
open PySem PySem.Spec PyProof.Rows L2
open PySem.W (exmOne exmAny Frag Looks)
end Dv
set_option Elab.async false
set_option linter.all false
set_option maxRecDepth 100000
set_option maxHeartbeats 4000000
set_option autoImplicit false
/-! a tuple so often -/
namespace Dv
open PySem PySem.Spec PyProof.Rows L2
end Dv
set_option Elab.async false
set_option linter.all false
set_option maxRecDepth 100000
set_option maxHeartbeats 4000000
set_option autoImplicit false
/-! a tuple so often, also once or never -/
namespace Dv
open PySem PySem.Spec PyProof.Rows L2
end Dv
set_option Elab.async false
set_option linter.all false
set_option maxRecDepth 100000
set_option maxHeartbeats 4000000
set_option autoImplicit false
/-! for at, thing in enumerate(row), the row an object of the store that stays as it is meanwhile -/
noncomputable section
namespace Dv
open PySem PySem.Spec PyProof.Rows L2
/-- an iterator over these items while c is true of the store -/
structure JOkS (G : Gv) (c : Store → Prop) (io0 : Io) (H0 : Hp) (J : It) (items : List Dt) : Prop where
  go : ∀ i io H S, Grow io0 H0 io H → StoreOk G io S H → c S → i < items.length → J.go i H
  stop : ∀ i io H S, Grow io0 H0 io H → StoreOk G io S H → c S → items.length ≤ i → J.stop i H
  yld : ∀ i io H S x H', Grow io0 H0 io H → StoreOk G io S H → c S → (∀ a, H a = none → a ∉ io) → i < items.length → J.yld i H x H' → ExtH H H' ∧ ∃ d, items[i]? = some d ∧ RelD G io H' d x
theorem JOkS.of {G : Gv} {c : Store → Prop} {io0 : Io} {H0 : Hp} {J : It} {items : List Dt} (j : JOk G io0 H0 J items) : JOkS G c io0 H0 J items :=
  ⟨fun i io H S g _ _ h => j.go i io H g.base h, fun i io H S g _ _ h => j.stop i io H g.base h, fun i io H S x H' g _ _ f h y => j.yld i io H x H' g.base f h y⟩
end Dv
end
set_option Elab.async false
set_option linter.all false
set_option maxRecDepth 100000
set_option maxHeartbeats 4000000
set_option autoImplicit false
/-! for and [..] over a list of the store that stays as it is meanwhile -/
noncomputable section
namespace Dv
open PySem PySem.Spec PyProof.Rows L2
/-- an iterator over these items while c is true of the store -/
structure JOkB (G : Gv) (c : Store → Prop) (io0 : Io) (H0 : Hp) (J : It) (items : List Dt) : Prop where
  go : ∀ i io H S, Base io0 H0 io H → StoreOk G io S H → c S → i < items.length → J.go i H
  stop : ∀ i io H S, Base io0 H0 io H → StoreOk G io S H → c S → items.length ≤ i → J.stop i H
  yld : ∀ i io H S x H', Base io0 H0 io H → StoreOk G io S H → c S → (∀ a, H a = none → a ∉ io) → i < items.length → J.yld i H x H' → ExtH H H' ∧ ∃ d, items[i]? = some d ∧ RelD G io H' d x
theorem JOkB.of {G : Gv} {c : Store → Prop} {io0 : Io} {H0 : Hp} {J : It} {items : List Dt} (j : JOk G io0 H0 J items) : JOkB G c io0 H0 J items :=
  ⟨fun i io H S g _ _ h => j.go i io H g h, fun i io H S g _ _ h => j.stop i io H g h, fun i io H S x H' g _ _ f h y => j.yld i io H x H' g f h y⟩
end Dv
end
set_option Elab.async false
set_option linter.all false
set_option maxRecDepth 100000
set_option maxHeartbeats 4000000
set_option autoImplicit false
/-! [..] that stays an object, over a list of the store -/
noncomputable section
namespace Dv
open PySem PySem.Spec PyProof.Rows L2
end Dv
end
set_option Elab.async false
set_option linter.all false
set_option maxRecDepth 100000
set_option maxHeartbeats 4000000
set_option autoImplicit false
/-! a tuple of texts that the module names -/
namespace Dv
open PySem PySem.Spec PyProof.Rows L2
/-! max of a list of numbers -/
end Dv
set_option Elab.async false
set_option linter.all false
set_option maxRecDepth 100000
set_option maxHeartbeats 4000000
set_option autoImplicit false
/-! a lambda that is kept in a variable and handed to a def later -/
namespace Dv
open PySem PySem.Spec PyProof.Rows L2
/-- a lambda as it stands -/
structure LamE where
  ar : Arguments
  body : Expr
  sc : Scope
section
variable {G : Gv} {X : Cx} {W : WX}
structure LamD (G : Gv) (X : Cx) (k : Nat) (l : LamE) (m : Env → Store → R Dt) : Prop where
  ok : LamX.LamS X.env.scope l.sc
  bind : ∀ (q : Str) (cl : List (Str × Addr)) (pm cv ctv : Value), bindArgs (PySem.W.kla_fn "<lambda>" q l.ar l.body l.sc cl pm cv ctv) ⟨[], []⟩ = pure []
  body : ∀ (A : Around) (outer : List PySem.Env) (s : Shared) (H : Hp) (E : XK) (f c : Addr), Room k (A.deeper (LamX.lamEnv X l.sc s.heap.objs.size f c)) → DE G (LamX.lamCx X A outer s H E l.sc f c) (fun cls d _ H => E cls d H) l.body m
inductive LamsD (G : Gv) (X : Cx) (k : Nat) : List LamE → List (Env → Store → R Dt) → Prop
  | nil : LamsD G X k [] []
  | cons {l : LamE} {m : Env → Store → R Dt} {ls : List LamE} {ms : List (Env → Store → R Dt)} : LamD G X k l m → LamsD G X k ls ms → LamsD G X k (l :: ls) (m :: ms)
theorem LamsD.at_ {k : Nat} {ls : List LamE} {ms : List (Env → Store → R Dt)} (h : LamsD G X k ls ms) : ∀ {n : Nat} {l : LamE} {m : Env → Store → R Dt}, ls[n]? = some l → ms[n]? = some m → LamD G X k l m := by
  induction h with
  | nil => intro n l m e; simp at e
  | cons h r ih =>
    intro n l m e1 e2
    cases n with
    | zero =>
      simp at e1 e2
      subst e1 e2
      exact h
    | succ n => exact ih (by simpa using e1) (by simpa using e2)
end
end Dv
set_option Elab.async false
set_option linter.all false
set_option maxRecDepth 100000
set_option maxHeartbeats 4000000
set_option autoImplicit false
/-! a lambda that is kept in a variable, called by the def that made it -/
namespace Dv
open PySem PySem.Spec PyProof.Rows L2
end Dv
set_option Elab.async false
set_option linter.all false
set_option maxRecDepth 100000
set_option maxHeartbeats 4000000
set_option autoImplicit false
/-! dict(d): another dict with the same entries -/
namespace Dv
open PySem PySem.Spec PyProof.Rows L2
end Dv
set_option Elab.async false
set_option linter.all false
set_option maxRecDepth 100000
set_option maxHeartbeats 4000000
set_option autoImplicit false
/-! a text so often, a long list so often -/
namespace Dv
open PySem PySem.Spec PyProof.Rows L2
end Dv
set_option Elab.async false
set_option linter.all false
set_option maxRecDepth 100000
set_option maxHeartbeats 4000000
set_option autoImplicit false
/-! slices of texts -/
namespace Dv
open PySem PySem.Spec PyProof.Rows L2
end Dv
set_option Elab.async false
set_option linter.all false
set_option maxRecDepth 100000
set_option maxHeartbeats 4000000
set_option autoImplicit false
/-! dicts of the store whose keys are tuples of numbers and texts -/
namespace Dv
open PySem PySem.Spec PyProof.Rows L2
section
variable {G : Gv} {X : Cx} {W : WX}
theorem zip_snoc {α β : Type} : ∀ {ks : List α} {vs : List β} (k : α) (v : β), ks.length = vs.length → (ks ++ [k]).zip (vs ++ [v]) = ks.zip vs ++ [(k, v)]
  | [], [], _, _, _ => rfl
  | a :: ks, b :: vs, k, v, h => by
    rw [List.cons_append, List.cons_append, List.zip_cons_cons, zip_snoc k v (Nat.succ.inj h), List.zip_cons_cons, List.cons_append]
/-! {k: v}, k a tuple -/
end
end Dv
set_option Elab.async false
set_option linter.all false
set_option maxRecDepth 100000
set_option maxHeartbeats 4000000
set_option autoImplicit false
/-! a tuple that begins with a text == a tuple of one text -/
namespace Dv
open PySem PySem.Spec PyProof.Rows L2
end Dv
set_option Elab.async false
set_option linter.all false
set_option maxRecDepth 100000
set_option maxHeartbeats 4000000
set_option autoImplicit false
/-! xs.index(x), xs.count(x), the items plain data of any depth -/
namespace Dv
open PySem PySem.Spec PyProof.Rows L2
def idxD (o x : Dt) (S : Store) : R Dt := match res S o with
  | .lst ds => if okD deep (res S x) = true ∧ okD deep (.lst ds) = true then match ds.findIdx? (fun z => eqD z (res S x)) with
    | some j => .ok (.int (j : Nat)) S
    | none => .stuck
    else .stuck
  | _ => .stuck
def cntD (o x : Dt) (S : Store) : R Dt := match res S o with
  | .lst ds => if okD deep (res S x) = true ∧ okD deep (.lst ds) = true then .ok (.int ((ds.countP fun z => eqD z (res S x) : Nat) : Int)) S else .stuck
  | _ => .stuck
/-- a list's method of one argument -/
def mLM (f : Dt → Dt → Store → R Dt) (mo : Env → Store → R Dt) (ma : Env → Store → R (List Dt)) : Env → Store → R Dt := fun en S => (mo en S).bind fun o S1 => match asP S1 o with
  | some _ => (ma en S1).bind fun xs S2 => match xs with
    | [x] => f o x S2
    | _ => .stuck
  | none => .stuck
/-- l.count(x): how many are equal -/
def rCountD (K : PySem.W.Frag) : V → List V → Hp → VK → Prop := fun x xs H Q => ∃ (a : Addr) (y : V) (d : PyData) (ds : List PyData), x = V.ref a ∧ xs = [y] ∧ Dp K H (V.ref a) (.list ds) ∧ Dp K H y d ∧
  SeqAt.shaped (.list ds) = true ∧ SeqAt.shaped d = true ∧ Q (.int ((ds.countP fun z => PyData.eqv z d : Nat) : Int)) H
section
variable {G : Gv} {X : Cx} {W : WX}
theorem mt_countD (hu : X.A.units + 65 < cLine) : MtR X "list.count" (rCountD X.K) := by
  intro pins s σ H x xs v us Q I rx rxs h
  obtain ⟨a, y, d, ds, rfl, rfl, hl, hy, sl, sd, q⟩ := h
  cases rx
  cases rxs with
  | cons ry rt =>
    rename_i uy ut
    cases rt
    obtain ⟨bs, r1⟩ := Dp.reads I d y uy hy ry
    have hxs : PyData.canLayAll0 ds = true := SeqAt.canLay_of_shaped sl
    have hroom : X.A.units + 1 + min (PyData.depthAll ds) d.depth < cLine := room_in_shaped sd hu
    cases hl with
    | lst hs ha =>
      obtain ⟨its, rv, ⟨⟨cls, dd, data, sls⟩, n, ho, hc, hdn, hdt⟩, hlen⟩ := I.list hs
      simp only at hc hdt
      subst hc hdt
      obtain ⟨as, h4⟩ := Dp.readsAll I ds _ its ha rv
      have hmap : its.map (SeqAt.readOf s.heap) = ds := SeqAt.readsAll_map ds its as hxs h4
      refine call_meets PySem.F.slot_list_count ⟨_, ho, rfl⟩ PySem.F.entry_list_count (PySem.F.args_list_count_2 _ _)
        (SeqAt.list_countAt a its.toArray n dd sls uy (fun u => PyData.eqv (SeqAt.readOf s.heap u) d)) ⟨ho, SeqAt.items_eqAt (vs := its.toArray) (show ReadsAll s.heap its.toArray.toList ds as from h4) r1 hxs (SeqAt.canLay_of_shaped sd) hroom, ?_⟩
      have e : its.countP (fun u => PyData.eqv (SeqAt.readOf s.heap u) d) = ds.countP fun z => PyData.eqv z d := by
        rw [← hmap, List.countP_map]
        rfl
      show EP X pins σ Q (.int ((its.countP (fun u => PyData.eqv (SeqAt.readOf s.heap u) d) : Nat) : Int) s.toks) _
      rw [e]
      exact ⟨.int _, H, I.tok _, ⟨_, rfl⟩, q⟩
theorem toPys_at : ∀ {ds : List Dt} {j : Nat}, (toPys ds)[j]? = (ds[j]?).map toPy
  | [], j => by
    show (([] : List PyData))[j]? = _
    simp
  | d :: ds, 0 => rfl
  | d :: ds, j + 1 => by
    show (toPys ds)[j]? = _
    rw [toPys_at]
    rfl
theorem toPys_ok {ds : List Dt} {d : Dt} (h1 : okD deep d = true) (h2 : okD deep (.lst ds) = true) : ∀ e ∈ ds, PyData.eqv (toPy e) (toPy d) = eqD e d := fun e he => by
  have h3 : ds.all (okD 11) = true := h2
  exact eqv_of deep e d (okD_up1 11 e (List.all_eq_true.mp h3 e he)) h1
theorem toPys_map : ∀ ds : List Dt, toPys ds = ds.map toPy
  | [] => rfl
  | d :: ds => by
    show toPy d :: toPys ds = _
    rw [toPys_map ds]
    rfl
/-- a method as it stands, by what it tells -/
def LMok (G : Gv) (X : Cx) (f : Dt → Dt → Store → R Dt) (r : V → List V → Hp → VK → Prop) : Prop := ∀ (io : Io) (H : Hp) (S : Store) (vo vx : V) (o x : Dt) (Q : VK), StoreOk G io S H → RelD G io H o vo → RelD G io H x vx → Out G io H (fun _ _ _ => False) (poE G Q) (f o x S) → r vo [vx] H Q
theorem idx_ok (hK : X.K = G.K := by rfl) : LMok G X idxD (rIndexD X.K) := by
  intro io H S vo vx o x Q so ro rx h
  unfold idxD at h
  split at h
  · rename_i ds e
    split at h
    · rename_i hc
      split at h
      · rename_i j hj
        obtain ⟨p1, q1⟩ := res_ok so rx hc.1
        have hy : okD deep (res S o) = true := by rw [e]; exact hc.2
        obtain ⟨p2, q2⟩ := res_ok so ro hy
        have q2 := q2 (by decide)
        rw [e] at p2 q2
        obtain ⟨hj1, hj2, hj3⟩ := List.findIdx?_eq_some_iff_getElem.mp hj
        have ev := toPys_ok hc.1 hc.2
        have p2 : Dp G.K H vo (.list (toPys ds)) := p2
        cases p2 with
        | @lst a xs _ k1 k2 =>
          refine ⟨a, vx, _, toPys ds, j, toPy ds[j], rfl, rfl, by rw [hK]; exact .lst k1 k2, by rw [hK]; exact p1, q2, q1 (by decide), ?_, ?_, fun m z hm hz => ?_, h io H Grow.refl so _ (.int _)⟩
          · rw [toPys_at, List.getElem?_eq_getElem hj1]
            rfl
          · rw [ev _ (List.getElem_mem hj1)]
            exact hj2
          · rw [toPys_at, List.getElem?_eq_getElem (by omega)] at hz
            have hz : toPy ds[m] = z := Option.some.inj hz
            rw [← hz, ev _ (List.getElem_mem _)]
            have := hj3 m hm
            simpa using this
      · exact h.elim
    · exact h.elim
  · exact h.elim
theorem cnt_ok (hK : X.K = G.K := by rfl) : LMok G X cntD (rCountD X.K) := by
  intro io H S vo vx o x Q so ro rx h
  unfold cntD at h
  split at h
  · rename_i ds e
    split at h
    · rename_i hc
      obtain ⟨p1, q1⟩ := res_ok so rx hc.1
      have hy : okD deep (res S o) = true := by rw [e]; exact hc.2
      obtain ⟨p2, q2⟩ := res_ok so ro hy
      have q2 := q2 (by decide)
      rw [e] at p2 q2
      have ev := toPys_ok hc.1 hc.2
      have p2 : Dp G.K H vo (.list (toPys ds)) := p2
      cases p2 with
      | @lst a xs _ k1 k2 =>
        refine ⟨a, vx, _, toPys ds, rfl, rfl, by rw [hK]; exact .lst k1 k2, by rw [hK]; exact p1, q2, q1 (by decide), ?_⟩
        have e2 : ((toPys ds).countP fun z => PyData.eqv z (toPy (res S x))) = ds.countP fun z => eqD z (res S x) := by
          rw [toPys_map, List.countP_map]
          refine List.countP_congr fun z hz => ?_
          show (PyData.eqv (toPy z) _ = true ↔ _)
          rw [ev z hz]
        rw [e2]
        exact h io H Grow.refl so _ (.int _)
    · exact h.elim
  · exact h.elim
theorem de_lm {f : Dt → Dt → Store → R Dt} {r : V → List V → Hp → VK → Prop} {o e : Expr} {mo : Env → Store → R Dt} {ma : Env → Store → R (List Dt)} {name : Str} {id : String} {apos cpos : Pos} (slot : Slot "list" name id) (hty : typeOf (.builtin id) = pure (.type "method_descriptor")) (hm : MtR X id r) (hf : LMok G X f r)
    (hn : ∀ o x S, NoErr (f o x S)) (ho : DE G X W o mo) (ha : DA G X W [e] ma) (hK : X.K = G.K := by rfl)
    (hbase : attributeBase o name X.env (eval o X.env) = eval o X.env := by rfl)
    (hfew : ((backTo cpos (starEach [e] X.env)).all (fun x => !x.1) && (backToKw cpos (keywordEach [] X.env)).all (fun x => x.1.isSome)
      && decide ([e].length + ([] : List Keyword).length + (if ([] : List Keyword).isEmpty then 0 else 1) < 30)) = true := by rfl)
    (hline : (apos.endLine == cpos.line) = true := by rfl) (hs : starEach [e] X.env = (false, eval e X.env) :: starEach [] X.env := by rfl) (hplain : (backTo cpos (starEach [] X.env)).any (·.1) = false := by rfl) :
    DE G X W (.Call (.Attribute o name apos) [e] [] cpos) (mLM f mo ma) := by
  obtain ⟨to, po, qo⟩ := ho
  obtain ⟨ta, pa, qa⟩ := ha
  refine ⟨_, pe_bm PySem.F.plainAttrs_list slot hty hm po pa hbase hfew hline hs hplain, fun io H S en σ Q so re h => ?_⟩
  refine qo io H S en σ _ so re (h.bind.imp (fun _ _ _ _ z => z) fun d S1 i1 H1 g1 s1 k1 v rv => ?_)
  split at k1
  · rename_i ds hd
    obtain ⟨a, vs, rfl, h1, h2⟩ := asP_ok s1 rv hd
    refine ⟨.inl ⟨rfl, _, .of h1⟩, ?_⟩
    refine qa i1 H1 S1 en σ _ s1 (re.mono g1) (k1.bind.imp (fun _ _ _ _ z => z) fun xs S2 i2 H2 g2 s2 k2 us ru => ?_)
    split at k2
    · rename_i x
      cases ru with
      | cons r1 r2 =>
        cases r2
        refine hf i2 H2 S2 _ _ d x _ s2 (rv.mono g2) r1 ?_
        have ne := hn d x S2
        cases er : f d x S2 with
        | ok y S3 => rw [er] at k2; exact k2
        | err y S3 => rw [er] at ne; exact ne.elim
        | stuck => rw [er] at k2; exact k2
    · exact k2.elim
  · exact k1.elim
theorem idx_no (o x : Dt) (S : Store) : NoErr (idxD o x S) := by
  unfold idxD
  repeat' split
  all_goals trivial
theorem cnt_no (o x : Dt) (S : Store) : NoErr (cntD o x S) := by
  unfold cntD
  repeat' split
  all_goals trivial
theorem de_index {o e : Expr} {mo : Env → Store → R Dt} {ma : Env → Store → R (List Dt)} {apos cpos : Pos} (hu : X.A.units + 65 < cLine) (ho : DE G X W o mo) (ha : DA G X W [e] ma) (hK : X.K = G.K := by rfl)
    (hbase : attributeBase o "index" X.env (eval o X.env) = eval o X.env := by rfl)
    (hfew : ((backTo cpos (starEach [e] X.env)).all (fun x => !x.1) && (backToKw cpos (keywordEach [] X.env)).all (fun x => x.1.isSome)
      && decide ([e].length + ([] : List Keyword).length + (if ([] : List Keyword).isEmpty then 0 else 1) < 30)) = true := by rfl)
    (hline : (apos.endLine == cpos.line) = true := by rfl) (hs : starEach [e] X.env = (false, eval e X.env) :: starEach [] X.env := by rfl) (hplain : (backTo cpos (starEach [] X.env)).any (·.1) = false := by rfl) :
    DE G X W (.Call (.Attribute o "index" apos) [e] [] cpos) (mLM idxD mo ma) := de_lm PySem.F.slot_list_index PySem.F.type_list_index (mt_indexD hu) (idx_ok hK) idx_no ho ha hK hbase hfew hline hs hplain
theorem de_count {o e : Expr} {mo : Env → Store → R Dt} {ma : Env → Store → R (List Dt)} {apos cpos : Pos} (hu : X.A.units + 65 < cLine) (ho : DE G X W o mo) (ha : DA G X W [e] ma) (hK : X.K = G.K := by rfl)
    (hbase : attributeBase o "count" X.env (eval o X.env) = eval o X.env := by rfl)
    (hfew : ((backTo cpos (starEach [e] X.env)).all (fun x => !x.1) && (backToKw cpos (keywordEach [] X.env)).all (fun x => x.1.isSome)
      && decide ([e].length + ([] : List Keyword).length + (if ([] : List Keyword).isEmpty then 0 else 1) < 30)) = true := by rfl)
    (hline : (apos.endLine == cpos.line) = true := by rfl) (hs : starEach [e] X.env = (false, eval e X.env) :: starEach [] X.env := by rfl) (hplain : (backTo cpos (starEach [] X.env)).any (·.1) = false := by rfl) :
    DE G X W (.Call (.Attribute o "count" apos) [e] [] cpos) (mLM cntD mo ma) := de_lm PySem.F.slot_list_count PySem.F.type_list_count (mt_countD hu) (cnt_ok hK) cnt_no ho ha hK hbase hfew hline hs hplain
end
end Dv
set_option Elab.async false
set_option linter.all false
set_option maxRecDepth 100000
set_option maxHeartbeats 4000000
set_option autoImplicit false
/-! list(d.values()) as an object of the store -/
namespace Dv
open PySem PySem.Spec PyProof.Rows L2
def tLVals (td : TE) : TE := fun σ H Q => td σ H fun x H1 => ∃ (d : Addr) (kvs : List (Key × V)), x = .ref d ∧ H1 d = some (.dK kvs) ∧ ∀ q, H1 q = none → Q (.ref q) (upd H1 q (.lst (kvs.map (·.2))))
section
variable {G : Gv} {X : Cx} {W : WX}
theorem pe_listVals {e : Expr} {td : TE} {apos cpos p pos : Pos} (hc : X.calm = true) (hg : Gl X "list") (hm : X.mg "list" = none) (he : PE X e td)
    (na : starEach [.Call (.Attribute e "values" apos) [] [] cpos] X.env = (false, eval (.Call (.Attribute e "values" apos) [] [] cpos) X.env) :: starEach [] X.env := by rfl)
    (hbase : attributeBase e "values" X.env (eval e X.env) = eval e X.env := by rfl) (hline : (apos.endLine == cpos.line) = true := by rfl) :
    PE X (.Call (.Name "list" p) [.Call (.Attribute e "values" apos) [] [] cpos] [] pos) (tLVals td) := by
  refine ⟨fun pins s σ H Q I h => ?_⟩
  refine Call_ (ld_blt I hg hm boot_list (PyProof.Rows.callWith_type1 (args_cons (wpAny_Call_method0_late hbase hline (thn (he.run pins s σ H _ I h) fun v s1 ⟨x, H1, I1, r1, d, kvs, ex, ha, q⟩ => ?_)) na) na))
  subst ex
  obtain rfl : v = Value.ref d := r1
  obtain ⟨z, hsys, vs, rel, dof⟩ := dk_of I1.hok ha
  obtain ⟨ep, dat⟩ := dof.dictAt
  have dat' := dat
  obtain ⟨ob, es, ho, ex, hdat, hko, hpr, hnd⟩ := dat'
  refine ⟨"dict", "dict.values", F.plainAttrs_dict, F.slot_dict_values, F.type_dict_values, ⟨ob, ho, ex.1⟩, fun b e => ?_, Calls.callWith_builtin rfl (PySem.evalArgs_none ?_)⟩
  · cases e
    exact ⟨ob, ho, ex.2.1⟩
  refine call_meetsIn F.slot_dict_values ⟨ob, ho, ex.1⟩ F.entry_dict_values (F.args_dict_values_1 _) (meets_dict_values (mixKind X.prog X.w) d hsys) ⟨⟨vs, dof⟩, ?_⟩
  have k1 : ∀ b u, s1.heap.get? b = some u → (s1.heap.push { cls := .type "dict_values", data := .fields #[.ref d] }).get? b = some u := fun b u e => Heap.get?_push_of_some _ e
  have dat1 : (s1.heap.push { cls := .type "dict_values", data := .fields #[.ref d] }).DictAt (mixKind X.prog X.w) d vs ep := dat.keep k1
  have I2 : Inv X pins σ H1 { s1 with heap := s1.heap.push { cls := .type "dict_values", data := .fields #[.ref d] } } := I1.kept (t' := s1.toks) k1
  have hl : kvs.length = vs.length := Paired.length rel
  refine args_nil ?_
  refine PySem.W.kdl_call (PySem.W.kdl_values (knd := mixKind X.prog X.w) (d := d) (r := s1.heap.objs.size) (kvs := vs) (ep := ep)) (I2.ok.hd hc) ⟨⟨_, Heap.get?_push_size _ rfl, rfl, rfl⟩, dat1⟩ (by rw [← hl]; exact z) fun h' tk acc' c' hkeep hS hacc => ?_
  refine ⟨.ref (s1.heap.push { cls := .type "dict_values", data := .fields #[.ref d] }).objs.size, upd H1 (s1.heap.push { cls := .type "dict_values", data := .fields #[.ref d] }).objs.size (.lst (kvs.map (·.2))), I2.laid hkeep (Nat.le_refl _) (show ObjOk X.prog X.w _ _ _ (.lst (kvs.map (·.2))) from ⟨?_, acc'.toList, c', ?_, ?_⟩), rfl, q _ (I2.hok.fresh (Nat.le_refl _))⟩
  · rw [List.length_map]; exact z
  · have el : acc'.toList.length = acc'.size := by simp
    refine vals_of_at (by rw [List.length_map, el, hacc.1, hl]) fun j x w h1 h2 => ?_
    obtain ⟨k, hky⟩ := hacc.2 j w (by rw [← Array.getElem?_toList]; exact h2)
    obtain ⟨y, e1, e2⟩ := KV.at' rel hky
    rw [List.getElem?_map, e1] at h1
    cases h1
    exact e2
  · rw [Array.toArray_toList]; exact hS
def dctAt (S : Store) (x : Dt) : Option (List Key × List Dt) := match x with
  | .ref i => match S[i]? with
    | some (.dct ks ds) => some (ks, ds)
    | _ => none
  | _ => none
theorem dctAt_ok {io : Io} {H : Hp} {S : Store} {d : Dt} {v : V} {ks : List Key} {ds : List Dt} (so : StoreOk G io S H) (r : RelD G io H d v) (h : dctAt S d = some (ks, ds)) :
    ∃ i a vs, d = .ref i ∧ io.l[i]? = some a ∧ S[i]? = some (.dct ks ds) ∧ v = .ref a ∧ H a = some (.dK (ks.zip vs)) ∧ ks.length = ds.length ∧ RelDs G io H ds vs := by
  cases r with
  | @ref a i hi =>
    unfold dctAt at h
    dsimp only at h
    split at h
    · rename_i ks' ds' hS
      cases h
      have q := so.ob i _ a hS hi
      cases q with
      | dct h1 h2 h3 => exact ⟨_, _, _, rfl, hi, hS, rfl, h1, h2, h3⟩
    · cases h
  | _ => cases h
theorem zip_vals {α β : Type} : ∀ {ks : List α} {vs : List β}, ks.length = vs.length → (ks.zip vs).map (·.2) = vs
  | [], [], _ => rfl
  | k :: ks, v :: vs, h => by
    rw [List.zip_cons_cons, List.map_cons, zip_vals (Nat.succ.inj h)]
/-- list(d.values()) -/
def mLVals (md : Env → Store → R Dt) : Env → Store → R Dt := fun en S => (md en S).bind fun d S1 => match dctAt S1 d with
  | some (_, ds) => .ok (.ref S1.length) (S1 ++ [.lst ds])
  | none => .stuck
theorem de_lvals {e : Expr} {md : Env → Store → R Dt} {apos cpos p pos : Pos} (hd : DE G X W e md) (hg : Gl X "list") (hm : X.mg "list" = none) (hc : X.calm = true := by rfl)
    (na : starEach [.Call (.Attribute e "values" apos) [] [] cpos] X.env = (false, eval (.Call (.Attribute e "values" apos) [] [] cpos) X.env) :: starEach [] X.env := by rfl)
    (hbase : attributeBase e "values" X.env (eval e X.env) = eval e X.env := by rfl) (hline : (apos.endLine == cpos.line) = true := by rfl) :
    DE G X W (.Call (.Name "list" p) [.Call (.Attribute e "values" apos) [] [] cpos] [] pos) (mLVals md) := by
  obtain ⟨t, p, q⟩ := hd
  refine ⟨_, pe_listVals hc hg hm p na hbase hline, fun io H S en σ Q so re h => ?_⟩
  refine q io H S en σ _ so re (h.bind.imp (fun _ _ _ _ z => z) fun d S1 i1 H1 g1 s1 k1 v r => ?_)
  split at k1
  · rename_i ks ds hd
    obtain ⟨i, a, vs, rfl, hi, hS, rfl, h1, hl, rs⟩ := dctAt_ok s1 r hd
    refine ⟨a, _, rfl, h1, fun q hq => ?_⟩
    have e1 : ((ks.zip vs).map (·.2)) = vs := zip_vals (by have := rs.length; omega)
    rw [e1]
    exact out_ref s1 rs k1 hq
  · exact k1.elim
/-- d[k] += e, a number that stands there -/
def mAugD (mo mi me : Env → Store → R Dt) : Env → Store → RS := fun en S => (mo en S).toS en fun o S1 => (mi en S1).toS en fun i S2 => match dctAt S2 o, i with
  | some (ks, ds), .str k => match lookK ks ds (.inr k) with
    | some (.int a) => (me en S2).toS en fun y S3 => match y with
      | .int b => match setKx S3 o (.inr k) (.int (a + b)) with
        | some S4 => .ok .nx en S4
        | none => .stuck
      | _ => .stuck
    | _ => .stuck
  | _, _ => .stuck
theorem ds_augD {o i e : Expr} {mo mi me : Env → Store → R Dt} {tpos pos : Pos} (hu : X.A.units + 65 < cLine) (ho : DE G X W o mo) (hi : DE G X W i mi) (he : DE G X W e me)
    (ha : ∀ ov iv new, augStore i ov iv new = (do holding [new, ov, iv] (setItem ov iv new); release [new, ov, iv] []; pure .next) := by intros; rfl) :
    DS G X W (.AugAssign (.Subscript o i tpos) .Add e pos) (mAugD mo mi me) := by
  obtain ⟨to, po, qo⟩ := ho
  obtain ⟨ti, pi, qi⟩ := hi
  obtain ⟨te, pe, qe⟩ := he
  refine ⟨_, ps_daug (by omega) po pi pe in_add ha, fun io H S en σ D so re h => ?_⟩
  refine qo io H S en σ _ so re (h.bind.imp (wx_of re) fun d S1 i1 H1 g1 s1 k1 vo ro => ?_)
  refine qi i1 H1 S1 en σ _ s1 (re.mono g1) (k1.bind.imp (wx_of (re.mono g1)) fun y S2 i2 H2 g2 s2 k2 vi ri => ?_)
  have ro := ro.mono g2
  split at k2
  · rename_i ks ds k hd
    split at k2
    · rename_i a hl
      obtain ⟨j, p, vs, rfl, hi, hS, rfl, h1, hlen, rs⟩ := dctAt_ok s2 ro hd
      obtain ⟨u, h2, h3⟩ := lookK_rel rs hl
      cases ri
      cases h3
      refine ⟨p, .int a, rfl, by rw [← h2]; exact DGet.k (k := .inr k) h1, ?_⟩
      have re2 := (re.mono g1).mono g2
      refine qe i2 H2 S2 en σ _ s2 re2 (k2.bind.imp (wx_of re2) fun z S3 i3 H3 g3 s3 k3 vz rz => ?_)
      split at k3
      · rename_i b
        split at k3
        · rename_i S4 hs
          cases rz
          refine ⟨a, b, rfl, rfl, ?_⟩
          obtain ⟨p', H4, e1, dp, g4, s4⟩ := setKx_ok s3 (ro.mono g3) (.int _) hs
          cases e1
          exact ⟨H4, dp, k3 i3 _ g4 s4 σ ((re2.mono g3).mono g4)⟩
        · exact k3.elim
      · exact k3.elim
    · exact k2.elim
  · exact k2.elim
end
end Dv
set_option Elab.async false
set_option linter.all false
set_option maxRecDepth 100000
set_option maxHeartbeats 4000000
set_option autoImplicit false
/-! {k: v for x in xs} as an object of the store, the keys texts, none twice -/
namespace Dv
open PySem PySem.Spec PyProof.Rows L2
def dcLoop (mg : Dt → Env → Option Env) (mt : Env → Store → R Bool) (mk mv : Env → Store → R Dt) (en : Env) : List Dt → List Key → List Dt → Store → R (List Key × List Dt)
  | [], ks, ds, S => .ok (ks, ds) S
  | d :: rest, ks, ds, S => match mg d en with
    | none => .stuck
    | some e1 => (mt e1 S).nx.bind fun b S1 => if b = true then (mk e1 S1).nx.bind fun k S2 => (mv e1 S2).nx.bind fun v S3 => match k with
        | .str k => if hasK (.inr k) ks = false ∧ ks.length < 1000 then dcLoop mg mt mk mv en rest (ks ++ [.inr k]) (ds ++ [v]) S3 else .stuck
        | _ => .stuck
      else dcLoop mg mt mk mv en rest ks ds S1
def mDcR (own : List Nat) (mi : Env → Store → R (List Dt)) (mg : Dt → Env → Option Env) (mt : Env → Store → R Bool) (mk mv : Env → Store → R Dt) : Env → Store → R Dt := fun en S => (mi en S).bind fun items S1 => (dcLoop mg mt mk mv (wipeE en own) items [] [] S1).bind fun p S2 => .ok (.ref S2.length) (S2 ++ [.dct p.1 p.2])
section
variable {G : Gv} {X : Cx} {W : WX}
theorem dc_sim {J : It} {g : TG} {tt : TT} {tk tv : TE} {own sl : List Nat} {io : Io} {H : Hp} {S : Store} {en : Env} {σ : L2.St} {items : List Dt} {mg : Dt → Env → Option Env} {mt : Env → Store → R Bool} {mk mv : Env → Store → R Dt} {wx : Ex → Io → Hp → Prop} {post : List Key × List Dt → Store → Io → Hp → Prop} {D : Addr}
    (hs : ∀ j ∈ sl, j ∈ own) (jo : JOk G io H J items) (so : StoreOk G io S H) (re : RelEnv G io H en σ)
    (hg : ∀ io H en σ d v (Q : L2.St → Hp → Prop), RelEnv G io H en σ → RelD G io H d v → (match mg d en with
      | some e' => ∀ σ', RelEnv G io H e' σ' → σ'.length = σ.length → (∀ j : Nat, j ∉ sl → σ'[j]? = σ[j]?) → Q σ' H
      | none => False) → g v σ H Q) (ht : SimT G W0 tt mt) (hk : SimE G W0 tk mk) (hv : SimE G W0 tv mv) (hD : H D = none)
    (h : Out G io H wx post (dcLoop mg mt mk mv (wipeE en own) items [] [] S)) (Rf : V → Hp → Prop)
    (hq : ∀ ks ds acc S' (io' : Io) H', Grow io H io' H' → StoreOk G (io'.hide D) S' H' → H' D = some (.dK (ks.zip acc)) → ks.length = ds.length → RelDs G (io'.hide D) H' ds acc → post (ks, ds) S' io' H' → Rf (.ref D) H') :
    ∃ W : Nat → Nat → Hp → Prop, (∃ m, W 0 m (upd H D (.dK []))) ∧ ∀ i m H, W i m H →
      (J.stop i H ∧ Rf (.ref D) H) ∨ (J.go i H ∧ ∃ Nx : Hp → Prop, (∀ H', Nx H' → ∃ m', m' < m ∧ W (i + 1) m' H') ∧ ∀ x H', J.yld i H x H' → g x (wipe σ own) H' fun σ2 H2 => wipe σ2 own = wipe σ own ∧ tt σ2 H2 fun b H3 =>
        if b = true then tk σ2 H3 fun y H4 => tv σ2 H4 fun z H5 => ∃ kvs k, y = kV k ∧ H5 D = some (.dK kvs) ∧ kvs.length < sizeLine ∧ Nx (upd H5 D (.dK (putK kvs k z))) else Nx H3) := by
  let Wp : Nat → Nat → Hp → Prop := fun i n H' => n = items.length - i ∧ i ≤ items.length ∧ ∃ (io' : Io) (S' : Store) (ks : List Key) (dacc : List Dt) (acc : List V), Grow io H io' H' ∧ StoreOk G (io'.hide D) S' H' ∧ H' D = some (.dK (ks.zip acc)) ∧ ks.length = dacc.length ∧ RelDs G (io'.hide D) H' dacc acc ∧ Out G io H wx post (dcLoop mg mt mk mv (wipeE en own) (items.drop i) ks dacc S')
  have gup : ∀ {i1 : Io} {H1 : Hp} {o : HO}, Grow io H i1 H1 → Grow io H i1 (upd H1 D o) := fun {i1 H1 o} g => ⟨g.pre, fun b u hb nb nt => by
    rw [upd_ne (ne_of_none hb hD)]
    exact g.keep b u hb nb nt, g.new⟩
  have base : ∀ {i1 : Io} {H1 : Hp}, Grow io H i1 H1 → Base io H (i1.hide D) H1 := fun {i1 H1} g => ⟨fun j a e => g.at e, fun b o hb nb nt => ⟨g.kp hb nb nt, fun z => (hide_mem.mp z).elim (ne_of_none hb hD) (g.notin hb nb nt)⟩⟩
  refine ⟨Wp, ⟨items.length, rfl, Nat.zero_le _, io, S, [], [], [], gup Grow.refl, so_hide so hD, upd_same, rfl, .nil, by simpa using h⟩, ?_⟩
  rintro i n H2 ⟨rfl, hle, i2, S2, ks, dacc, acc, gu, s2, hD2, lk, ra, h2⟩
  by_cases hlt : i < items.length
  · refine .inr ⟨jo.go i _ H2 (base gu) hlt, fun H' => Wp (i + 1) (items.length - (i + 1)) H', fun H' z => ⟨_, by omega, z⟩, fun x H3 hy => ?_⟩
    obtain ⟨ex, d, hd, rd⟩ := jo.yld i _ H2 x H3 (base gu) (fun _ z => s2.fresh z) hlt hy
    have g3 : Grow (i2.hide D) H2 (i2.hide D) H3 := ex.grow
    have s3 := s2.ext ex
    have edr : items.drop i = d :: items.drop (i + 1) := by
      rw [List.drop_eq_getElem_cons hlt]
      have := (List.getElem?_eq_some_iff.mp hd).2
      rw [this]
    rw [edr] at h2
    unfold dcLoop at h2
    have gu3 : Grow io H i2 H3 := gu.trans (grow_un g3)
    have re3 : RelEnv G (i2.hide D) H3 en σ := ⟨re.len, fun j d e => let ⟨v, h1, h2⟩ := re.at_ j d e; ⟨v, h1, h2.monoB (base gu3)⟩⟩
    refine hg _ H3 (wipeE en own) (wipe σ own) d x _ (rel_wipe re3 own) rd ?_
    cases em : mg d (wipeE en own) with
    | none =>
      rw [em] at h2
      exact h2
    | some e1 =>
      rw [em] at h2
      intro σ2 rσ l2 u2
      refine ⟨wipe_eq hs l2 u2, ?_⟩
      -- an end wished at the base, asked with D hidden
      have lift : ∀ {α : Type} {wx : Ex → Io → Hp → Prop} {post : α → Store → Io → Hp → Prop} {r : R α} {i4 : Io} {H4 : Hp}, Grow io H i4 H4 → Out G io H wx post r.nx → Out G (i4.hide D) H4 (fun _ _ _ => False) (fun a S i5' H5 => ∀ i5 : Io, i5' = i5.hide D → Grow i4 H4 i5 H5 → post a S i5 H5) r := by
        intro α wx post r i4 H4 g4 h
        cases r with
        | ok a S =>
          intro i5' H5 g5 s5 i5 e g5'
          subst e
          exact h i5 H5 (g4.trans g5') (so_unhide s5)
        | err x S => exact h.elim
        | stuck => exact h
      refine ht _ H3 S2 e1 σ2 _ s3 rσ ((lift gu3 h2.bind0).imp (fun _ _ _ _ z => z.elim) fun b S4 i4' H4 g4 s4 k4 => ?_)
      obtain ⟨i4, rfl⟩ := io_hide g4
      have g4' := grow_un g4
      replace k4 := k4 i4 rfl g4'
      have hD4 : H4 D = some (.dK (ks.zip acc)) := g4.keep _ _ (ex _ _ hD2) fun z => s2.dis D z List.mem_cons_self
      cases b with
      | false => exact ⟨rfl, hlt, i4, S4, ks, dacc, acc, gu3.trans g4', s4, hD4, lk, (ra.mono g3).mono g4, k4⟩
      | true =>
        rw [if_pos rfl] at k4
        refine iteT (B := Wp (i + 1) (items.length - (i + 1)) H4) ?_
        refine hk _ H4 S4 e1 σ2 _ s4 (rσ.mono g4) ((lift (gu3.trans g4') k4.bind0).imp (fun _ _ _ _ z => z.elim) fun y S5 i5' H5 g5 s5 k5 v rv => ?_)
        obtain ⟨i5, rfl⟩ := io_hide g5
        have g5' := grow_un g5
        replace k5 := k5 i5 rfl g5'
        have hD5 : H5 D = some (.dK (ks.zip acc)) := g5.keep _ _ hD4 fun z => s4.dis D z List.mem_cons_self
        have ra5 := ((ra.mono g3).mono g4).mono g5
        have gu5 := (gu3.trans g4').trans g5'
        refine hv _ H5 S5 e1 σ2 _ s5 ((rσ.mono g4).mono g5) ((lift gu5 k5.bind0).imp (fun _ _ _ _ z => z.elim) fun y2 S6 i6' H6 g6 s6 k6 v2 rv2 => ?_)
        obtain ⟨i6, rfl⟩ := io_hide g6
        have g6' := grow_un g6
        replace k6 := k6 i6 rfl g6'
        have hD6 : H6 D = some (.dK (ks.zip acc)) := g6.keep _ _ hD5 fun z => s5.dis D z List.mem_cons_self
        have ra6 := ra5.mono g6
        split at k6
        · rename_i kk
          split at k6
          · rename_i hc
            cases rv
            have la := ra.length
            have ln : (ks.zip acc).length = ks.length := by
              rw [List.length_zip]
              omega
            have ep : putK (ks.zip acc) (Sum.inr kk : Key) v2 = (ks ++ [(Sum.inr kk : Key)]).zip (acc ++ [v2]) := by
              rw [putK_new v2 (lookK_none (hasK_no (by rw [hc.1]; exact Bool.false_ne_true))), zip_snoc _ _ (by omega)]
            refine ⟨ks.zip acc, (Sum.inr kk : Key), rfl, hD6, by rw [ln, sizeLine_eq]; omega, rfl, hlt, i6, S6, ks ++ [(Sum.inr kk : Key)], dacc ++ [y2], acc ++ [v2], gup (gu5.trans g6'), so_hid s6, ?_, by rw [List.length_append, List.length_append, lk]; rfl, (ra6.append (.cons rv2 .nil)).monoB base_hid, k6⟩
            rw [upd_same, ep]
          · exact k6.elim
        · exact k6.elim
  · have e : i = items.length := by omega
    subst e
    rw [List.drop_length] at h2
    exact .inl ⟨jo.stop _ _ H2 (base gu) (Nat.le_refl _), hq ks dacc acc S2 i2 H2 gu s2 hD2 lk ra (h2 i2 H2 gu (so_unhide s2))⟩
variable {kx vx tg iter : Expr} {ifs : List Expr} {scope : Scope} {own : List (Str × Nat)} {sl : List Nat} {pos : Pos} {mi : Env → Store → R (List Dt)} {mg : Dt → Env → Option Env} {mt : Env → Store → R Bool} {mk mv : Env → Store → R Dt}
end
section
variable {mi : Env → Store → R (List Dt)} {mg : Dt → Env → Option Env} {mt : Env → Store → R Bool} {mk mv : Env → Store → R Dt} {en : Env} {S : Store} {QE : Dt → Store → Prop} {X : Ex → Store → Prop}
theorem v_dcR {own : List Nat} (h : Pe (mi en S) (fun items S1 => Pe (dcLoop mg mt mk mv (wipeE en own) items [] [] S1) (fun p S2 => QE (.ref S2.length) (S2 ++ [.dct p.1 p.2])) X) X) : Pe (mDcR own mi mg mt mk mv en S) QE X := Pe.bind (h.imp (fun items S1 h => Pe.bind h) fun _ _ z => z)
end
end Dv
set_option Elab.async false
set_option linter.all false
set_option maxRecDepth 100000
set_option maxHeartbeats 4000000
set_option autoImplicit false
/-! xs * k as an object of the store -/
namespace Dv
open PySem PySem.Spec PyProof.Rows L2
def mMulR (x y : Dt) (S : Store) : R Dt := match asP S x, y with
  | some xs, .int k => if -100000 ≤ k ∧ k ≤ 100000 ∧ xs.length ≤ 100 then .ok (.ref S.length) (S ++ [.lst (List.replicate k.toNat xs).flatten]) else .stuck
  | _, _ => .stuck
section
variable {G : Gv} {X : Cx}
theorem rels_rep {io : Io} {H : Hp} {ds : List Dt} {vs : List V} (r : RelDs G io H ds vs) : ∀ n : Nat, RelDs G io H (List.replicate n ds).flatten (List.replicate n vs).flatten
  | 0 => .nil
  | n + 1 => by
    rw [List.replicate_succ, List.replicate_succ, List.flatten_cons, List.flatten_cons]
    exact r.append (rels_rep r n)
theorem do_mulR : DO G X (binaryOp .Mult) mMulR := by
  refine ⟨_, op_rep, ?_, ?_⟩
  · intro io H S x y dx dy Q so rx ry h
    unfold mMulR at h
    split at h
    · rename_i xs k e1
      cases ry
      by_cases hl : -100000 ≤ k ∧ k ≤ 100000 ∧ xs.length ≤ 100
      · rw [if_pos hl] at h
        obtain ⟨a, vs, rfl, hs, rs⟩ := asP_ok so rx e1
        have l1 := rs.length
        refine ⟨a, k, vs, rfl, rfl, hs, by omega, by omega, ?_, fun p hp => ?_⟩
        · have e : vs.length * k.toNat ≤ 100 * 100000 := Nat.mul_le_mul (by omega) (by omega)
          exact Nat.le_trans e (by decide)
        · have := out_ref so (rels_rep rs k.toNat) h hp
          exact this
      · rw [if_neg hl] at h
        exact h.elim
    · exact h.elim
  · intro x y S
    unfold mMulR
    repeat' split
    all_goals trivial
theorem v_mulRR {xs : List Dt} {k : Int} {S : Store} {Q : Dt → Store → Prop} {X : Ex → Store → Prop} (h : -100000 ≤ k ∧ k ≤ 100000 ∧ xs.length ≤ 100) (q : Q (.ref S.length) (S ++ [.lst (List.replicate k.toNat xs).flatten])) : Pe (mMulR (.lst xs) (.int k) S) Q X := by
  have e : mMulR (.lst xs) (.int k) S = .ok (.ref S.length) (S ++ [.lst (List.replicate k.toNat xs).flatten]) := by
    unfold mMulR
    exact if_pos h
  exact Pe.of e q
end
end Dv
set_option Elab.async false
set_option linter.all false
set_option maxRecDepth 100000
set_option maxHeartbeats 4000000
set_option autoImplicit false
/-! y = {k: v for x in xs} on one line, y a local -/
namespace Dv
open PySem PySem.Spec PyProof.Rows L2
theorem sw_dict {kx vx : Expr} {gens : List Comprehension} {sc : Scope} {p1 p2 : Pos} {nm : Str} {ln : Nat} {ev : PySem.Env} (h1 : ev.scope.kind = .function) (h2 : ev.scope.names.lookup nm = some .local) (h3 : (p2.line == p1.line) = true)
    (h4 : (sc.names.any fun (n, k) => n == nm && (k == .local || k == .cell)) = false) : swapsWith (.DictComp kx vx gens sc p1) (some (.Name nm p2)) ln ev = pure true := by
  have k1 : ev.blockKind = .function := by
    unfold PySem.Env.blockKind
    rw [h1]
    rfl
  have k2 : ev.kindOf nm = some .local := h2
  unfold swapsWith
  simp only [k1, k2, h4, Expr.pos, h3]
  rfl
section
variable {G : Gv} {X : Cx} {W : WX}
variable {kx vx tgt src : Expr} {tests : List Expr} {sc : Scope} {own : List (Str × Nat)} {sl : List Nat} {p1 p2 p3 : Pos}
theorem ps_setDc {i : Nat} {nm : Str} {wi : TI} {g : TG} {tt : TT} {tk tv : TE} (cal : X.calm = true) (nd : X.N.Nodup) (h1 : X.N[i]? = some nm) (h2 : X.env.scope.names.lookup nm = some .local)
    (sw : swapsWith (.DictComp kx vx [⟨tgt, src, tests, 0⟩] sc p1) (some (.Name nm p2)) p3.line X.env = pure true) (ii : PI X tgt src wi) (bl : BlkOk X.N X.env.scope sc own)
    (ig : ∀ (u : Shared) (H : Hp) (C : Addr) (cl : List (Str × Addr)) (fp : List Addr), PG (X.blk u H sc (compEnvC sc cl C X.env) fp) tgt g) (it : ∀ (u : Shared) (H : Hp) (C : Addr) (cl : List (Str × Addr)) (fp : List Addr), PTs (X.blk u H sc (compEnvC sc cl C X.env) fp) tests tt)
    (ik : ∀ (u : Shared) (H : Hp) (C : Addr) (cl : List (Str × Addr)) (fp : List Addr), PE (X.blk u H sc (compEnvC sc cl C X.env) fp) kx tk)
    (iv : ∀ (u : Shared) (H : Hp) (C : Addr) (cl : List (Str × Addr)) (fp : List Addr), PE (X.blk u H sc (compEnvC sc cl C X.env) fp) vx tv) (fo : ∀ z, foldedSetIterable src X.env z = pure z) :
    PS X (.Assign [.Name nm p2] (.DictComp kx vx [⟨tgt, src, tests, 0⟩] sc p1) p3) (tAsg (tDc wi g tt tk tv (own.map (·.2))) (gName i)) := by
  refine ⟨fun pp s0 st H0 D inv wish => ?_⟩
  rw [exec_Assign_Name_used _ _ _ _ sw]
  refine wpAny_bind (wpAny_standAt (wpAny_bind ?_))
  show wpAny _ X.A (do let _ ← comprehension (.DictComp kx vx [⟨tgt, src, tests, 0⟩] sc p1) sc X.env (firstIterPos [⟨tgt, src, tests, 0⟩] p1) newDict false (eval src X.env) (some (assign (.Name nm p2) X.env))) _ _ s0
  have wish : tDc wi g tt tk tv (own.map (·.2)) st H0 (fun x H1 => gName i x st H1 D.nx) := wish
  refine wpAny_bind (thn (dc_core (Qf := fun _ z => SP X pp D .next z) cal nd inv ii bl ig it ik iv fo wish fun L C s5 k H5 inv5 q5 ns f5 => ?_) fun _ z hq => wpAny_pure (wpAny_pure hq))
  show wpAny _ _ (assign (.Name nm p2) X.env (.ref L)) _ _ _
  obtain ⟨w0, w1, w2, w3, w4, w5⟩ := f5
  refine wpAny_assign_Name (store_ok2 (v := V.ref L) inv5 nd h1 (.inl h2) rfl (fun s6 inv6 ⟨a, sb, ha⟩ => ?_) (.inr h2))
  have ne : C ≠ a := ha.elim (fun z => z ▸ w1) fun z e => w4 nm a z e.symm
  refine ⟨k, ns.sameBut sb ne, fun h9 sb9 => ⟨_, H5, inv6.turned (t' := s6.toks) (fun b o hb e => (sb9.2 b hb).trans e) w0 w1 w3 w4 w5, q5⟩⟩
variable {mi : Env → Store → R (List Dt)} {mg : Dt → Env → Option Env} {mt : Env → Store → R Bool} {mk mv : Env → Store → R Dt}
theorem ds_setDcR (own : List (Str × Nat)) {i : Nat} {y : Str} (hN : X.N.Nodup) (hi : DI G X W tgt src mi) (ok : BlkOk X.N X.env.scope sc own)
    (hg : ∀ (s : Shared) (H : Hp) (C : Addr) (cl : List (Str × Addr)) (fp : List Addr), DGw G (X.blk s H sc (compEnvC sc cl C X.env) fp) tgt sl mg)
    (ht : ∀ (s : Shared) (H : Hp) (C : Addr) (cl : List (Str × Addr)) (fp : List Addr), DTs G (X.blk s H sc (compEnvC sc cl C X.env) fp) W0 tests mt)
    (hk : ∀ (s : Shared) (H : Hp) (C : Addr) (cl : List (Str × Addr)) (fp : List Addr), DE G (X.blk s H sc (compEnvC sc cl C X.env) fp) W0 kx mk)
    (hv : ∀ (s : Shared) (H : Hp) (C : Addr) (cl : List (Str × Addr)) (fp : List Addr), DE G (X.blk s H sc (compEnvC sc cl C X.env) fp) W0 vx mv)
    (hsl : ∀ j ∈ sl, j ∈ own.map (·.2) := by decide) (hy : X.N[i]? = some y := by rfl) (hyl : X.env.scope.names.lookup y = some .local := by rfl)
    (hsw : swapsWith (.DictComp kx vx [⟨tgt, src, tests, 0⟩] sc p1) (some (.Name y p2)) p3.line X.env = pure true := by exact sw_dict rfl rfl rfl (by decide +kernel)) (hc : X.calm = true := by rfl) (hs : ∀ x, foldedSetIterable src X.env x = pure x := by intro _; rfl) :
    DS G X W (.Assign [.Name y p2] (.DictComp kx vx [⟨tgt, src, tests, 0⟩] sc p1) p3) (mSet i (mDcR (own.map (·.2)) mi mg mt mk mv)) := by
  obtain ⟨wi, pi, qi⟩ := hi
  refine ⟨_, ps_setDc hc hN hy hyl hsw pi ok (fun s H C cl fp => can_g (hg s H C cl fp)) (fun s H C cl fp => can_t (ht s H C cl fp)) (fun s H C cl fp => can_e (hk s H C cl fp)) (fun s H C cl fp => can_e (hv s H C cl fp)) hs, fun io H S en σ Q so re h => ?_⟩
  refine qi io H S en σ _ so re ((h.bind.bind).imp (wx_of re) fun items S1 i1 H1 g1 s1 k1 J jo => ?_)
  intro D hD
  refine dc_sim hsl jo s1 (re.mono g1) (fun io H en σ d v Q re rd h => ⟨io, en, d, re, rd, h⟩) (fun io H S e σ Q so re h => ⟨io, S, e, so, re, h⟩) (fun io H S e σ Q so re h => ⟨io, S, e, so, re, h⟩) (fun io H S e σ Q so re h => ⟨io, S, e, so, re, h⟩) hD k1.bind0 (fun v H1 => gName i v σ H1 Q.nx) ?_
  intro ks ds acc S' io' H' g' s' hD' lk rs post
  have dh : D ∉ io'.h := by
    obtain ⟨t, rfl⟩ := g'.pre
    intro z
    obtain ⟨u, e, _⟩ := s1.hid D z
    rw [hD] at e
    cases e
  have gp : Grow i1 H1 (io'.push D) H' := by
    refine ⟨?_, fun b o hb nb nt => g'.keep b o hb nb nt, fun a ha hn => ?_⟩
    · obtain ⟨t, rfl⟩ := g'.pre
      exact ⟨t ++ [D], by simp [Io.push]⟩
    · by_cases ea : a = D
      · subst ea
        intro o q
        rw [hD] at q
        cases q
      · refine g'.new a ?_ hn
        have ha : a ∈ io'.l ++ [D] := ha
        rcases List.mem_append.mp ha with z | z
        · exact z
        · exact absurd (List.mem_singleton.mp z) ea
  have so2 := so_show s' dh (.dct hD' lk (rs.monoB base_show))
  have rd : RelD G (io'.push D) H' (.ref S'.length) (.ref D) := .ref (by
    have e1 : io'.l.length = S'.length := s'.len.symm
    show (io'.l ++ [D])[S'.length]? = some D
    rw [List.getElem?_append_right (by omega), e1, Nat.sub_self]
    rfl)
  exact post _ _ gp so2 _ _ Grow.refl so2 _ ((re.mono (g1.trans gp)).set rd)
end
end Dv
set_option Elab.async false
set_option linter.all false
set_option maxRecDepth 100000
set_option maxHeartbeats 4000000
set_option autoImplicit false
namespace Lw
open PySem Dv
/-! the defs as functions: printed by our gen.py -/
def b_Web_need_yard : Bd :=
  (mIfS (mB (mOp (mIn true) (mVar 1) (mFld ["Web"] "places" (mVar 0)))) mStop mNx)
def m_Web_need_yard : Fn := fnRun 2 false b_Web_need_yard
def b_need_form : Bd :=
  (mSeq (mFor (mEnum2 (mCons (mVar 0) mNil)) (gTp 2 (gCons' (gNm 1) (gCons' (gNm 2) gNil'))) (mIfS (mB (mOp mNe (mCB mIsi (mCons (mVar 2) (mCons (mC (.ty "tuple")) mNil))) (mOp mEq (mOp mMod (mVar 1) (mC (.int 2))) (mC (.int 1))))) mStop mNx))
  (mIfS (mB (mOp mEq (mOp mMod (mCB mLen (mCons (mVar 0) mNil)) (mC (.int 2))) (mC (.int 0)))) mStop mNx))
def m_need_form : Fn := fnRun 3 false b_need_form
def b_Web_road_of : Bd :=
  (mSeq (mFor (mIt (mFld ["Web"] "roads" (mVar 0))) (gNm 2) (mIfS (mB (mOp mEq (mOp mIx (mVar 2) (mC (.int 0))) (mVar 1))) (mRet (mVar 2)) mNx))
  mStop)
def m_Web_road_of : Fn := fnRun 3 false b_Web_road_of
def b_Web_turned_so : Bd :=
  (mSeq (mAsg (gTp 2 (gCons' (gNm 3) (gCons' (gNm 4) gNil'))) (mVar 1))
  (mSeq (mSet 5 (mMeth "Web" "road_of" 2 m_Web_road_of (mVar 0) (mCons (mVar 3) mNil)))
  (mSeq (mIfS (mB (mOp (mIn true) (mVar 4) (mTup (mCons (mC (.int 1)) (mCons (mNeg (mC (.int 1))) mNil))))) mStop mNx)
  (mRet (mIf (mB (mOp mEq (mVar 4) (mC (.int 1)))) (mTup (mCons (mOp mIx (mVar 5) (mVar 2)) (mCons (mOp mIx (mVar 5) (mOp mAdd (mVar 2) (mC (.int 1)))) mNil))) (mTup (mCons (mOp mIx (mVar 5) (mOp mAdd (mVar 2) (mC (.int 1)))) (mCons (mOp mIx (mVar 5) (mVar 2)) mNil))))))))
def m_Web_turned_so : Fn := fnRun 6 false b_Web_turned_so
def b_Web_ends : Bd :=
  (mRet (mMeth "Web" "turned_so" 3 m_Web_turned_so (mVar 0) (mCons (mVar 1) (mCons (mC (.int 1)) mNil))))
def m_Web_ends : Fn := fnRun 2 false b_Web_ends
def b_yards_on : Bd :=
  (mSeq (mSet 3 (mLstR (mCons (mVar 1) mNil)))
  (mSeq (mFor (mEnum2 (mCons (mVar 2) mNil)) (gTp 2 (gCons' (gNm 4) (gCons' (gNm 5) gNil'))) (mIfS (mB (mOp mEq (mOp mMod (mVar 4) (mC (.int 2))) (mC (.int 0)))) (mIfS (mB (mOp mGt (mCB mAbs (mCons (mVar 5) mNil)) (mC (.int 1000000000000000000000000000000000000000000000000000000000000)))) mStop mNx) (mSeq (mAsg (gTp 2 (gCons' (gNm 6) (gCons' (gNm 7) gNil'))) (mMeth "Web" "ends" 2 m_Web_ends (mVar 0) (mCons (mVar 5) mNil)))
  (mSeq (mIfS (mB (mOp mNe (mVar 6) (mOp mIx (mVar 3) (mNeg (mC (.int 1)))))) mStop mNx)
  (mDrop (mApp1 (mVar 3) (mVar 7)))))))
  (mRet (mVar 3))))
def m_yards_on : Fn := fnRun 8 false b_yards_on
def b_Walk_dinit : Bd :=
  (mSeq (mDrop (mMeth "Web" "need_yard" 2 m_Web_need_yard (mVar 1) (mCons (mVar 2) mNil)))
  (mSeq (mIfS (mB (mOp mGt (mCB mLen (mCons (mVar 3) mNil)) (mOp mAdd (mOp mMul (mC (.int 2)) (mC (.int 200))) (mC (.int 1))))) mStop mNx)
  (mSeq (mDrop (mCall 1 m_need_form (mCons (mVar 3) mNil)))
  (mSeq (mFldS ["Walk"] "over" (mVar 0) (mVar 1))
  (mSeq (mFldS ["Walk"] "line" (mVar 0) (mCB mTuple (mCons (mVar 3) mNil)))
  (mFldS ["Walk"] "spots" (mVar 0) (mCall 3 m_yards_on (mCons (mVar 1) (mCons (mVar 2) (mCons (mVar 3) mNil))))))))))
def m_Walk_dinit : Fn := fnRun 4 false b_Walk_dinit
def b_Walk_end : Bd :=
  (mRet (mOp mIx (mFld ["Walk"] "spots" (mVar 0)) (mNeg (mC (.int 1)))))
def m_Walk_end : Fn := fnRun 1 false b_Walk_end
def b_Walk_row : Bd :=
  (mRet (mCB mList (mCons (mFld ["Walk"] "line" (mVar 0)) mNil)))
def m_Walk_row : Fn := fnRun 1 false b_Walk_row
def b_undone : Bd :=
  (mSeq (mAsg (gTp 2 (gCons' (gNm 1) (gCons' (gNm 2) gNil'))) (mVar 0))
  (mRet (mTup (mCons (mVar 1) (mCons (mOp mSub (mC (.int 0)) (mVar 2)) mNil)))))
def m_undone : Fn := fnRun 3 false b_undone
def b_back_row : Bd :=
  (mRet (mLc [1] (mIt (mRev (mVar 0))) (wNm 1) mYes (mIf (mTruth (mCB mIsi (mCons (mVar 1) (mCons (mC (.ty "tuple")) mNil)))) (mCall 1 m_undone (mCons (mVar 1) mNil)) (mOp mSub (mC (.int 0)) (mVar 1)))))
def m_back_row : Fn := fnRun 2 false b_back_row
def b_Walk_back : Bd :=
  (mRet (mFz (mMake "Walk" 4 m_Walk_dinit (mCons (mFld ["Walk"] "over" (mVar 0)) (mCons (mMeth "Walk" "end" 1 m_Walk_end (mVar 0) mNil) (mCons (mCall 1 m_back_row (mCons (mMeth "Walk" "row" 1 m_Walk_row (mVar 0) mNil) mNil)) mNil))))))
def m_Walk_back : Fn := fnRun 1 false b_Walk_back
def b_law_flow : Bd :=
  (mRet (mLstR (mCons (mCB mList (mCons (mSl (mVar 0) mNoPart (mPart (mC (.int 63)))) mNil)) (mCons (mC (.int 0)) (mCons (mC (.int 0)) (mCons (mC (.int 23)) mNil))))))
def m_law_flow : Fn := fnRun 1 true b_law_flow
def b_law_same (rc : Fn) : Bd :=
  (mSeq (mIfS (mTruth (mCB mIsi (mCons (mVar 1) (mCons (mC (.ty "bool")) mNil)))) (mRet (mAndV (mCB mIsi (mCons (mVar 0) (mCons (mC (.ty "bool")) mNil))) (mOp mEq (mVar 0) (mVar 1)))) mNx)
  (mSeq (mIfS (mB (mOp (mIs false) (mVar 1) (mC .non))) (mRet (mOp (mIs false) (mVar 0) (mC .non))) mNx)
  (mSeq (mIfS (mTruth (mCB mIsi (mCons (mVar 1) (mCons (mC (.ty "int")) mNil)))) (mRet (mAndV (mCB mIsi (mCons (mVar 0) (mCons (mC (.ty "int")) mNil))) (mAndV (mNotV (mCB mIsi (mCons (mVar 0) (mCons (mC (.ty "bool")) mNil)))) (mOp mEq (mVar 0) (mVar 1))))) mNx)
  (mSeq (mIfS (mTruth (mCB mIsi (mCons (mVar 1) (mCons (mC (.ty "str")) mNil)))) (mRet (mAndV (mCB mIsi (mCons (mVar 0) (mCons (mC (.ty "str")) mNil))) (mOp mEq (mVar 0) (mVar 1)))) mNx)
  (mSeq (mIfS (mOrT (mB (mOp mNe (mCB mIsi (mCons (mVar 1) (mCons (mC (.ty "tuple")) mNil))) (mCB mIsi (mCons (mVar 0) (mCons (mC (.ty "tuple")) mNil))))) (mB (mOp mNe (mCB mIsi (mCons (mVar 1) (mCons (mC (.ty "list")) mNil))) (mCB mIsi (mCons (mVar 0) (mCons (mC (.ty "list")) mNil)))))) (mRet (mC (.bl false))) mNx)
  (mSeq (mIfS (mOrT (mNotT (mTruth (mCB mIsi (mCons (mVar 0) (mCons (mTup (mCons (mC (.ty "tuple")) (mCons (mC (.ty "list")) mNil))) mNil))))) (mB (mOp mNe (mCB mLen (mCons (mVar 0) mNil)) (mCB mLen (mCons (mVar 1) mNil))))) (mRet (mC (.bl false))) mNx)
  (mRet (mCB mAll (mCons (mLc [2] (mRng1 (mCons (mCB mLen (mCons (mVar 1) mNil)) mNil)) (wNm 2) mYes (mCall 2 rc (mCons (mOp mIx (mVar 0) (mVar 2)) (mCons (mOp mIx (mVar 1) (mVar 2)) mNil)))) mNil)))))))))
def m_law_same : Nat → Fn
  | 0 => fun _ _ => .stuck
  | n + 1 => fnRun 3 false (b_law_same (m_law_same n))
def b_law_draw : Bd :=
  (mSeq (mIfS (mB (mOp mGt (mOp mIx (mVar 0) (mC (.int 2))) (mC (.int 0)))) (mSeq (mSet 2 (mOp mMod (mOp mIx (mVar 0) (mC (.int 2))) (mVar 1)))
  (mSeq (mAsg (gSubD (mVar 0) (mC (.int 2))) (mOp mDiv (mOp mIx (mVar 0) (mC (.int 2))) (mVar 1)))
  (mRet (mVar 2)))) mNx)
  (mSeq (mSet 3 (mC (.int 0)))
  (mSeq (mIfS (mB (mOp mLt (mOp mIx (mVar 0) (mC (.int 1))) (mCB mLen (mCons (mOp mIx (mVar 0) (mC (.int 0))) mNil)))) (mSet 3 (mOp mIx (mOp mIx (mVar 0) (mC (.int 0))) (mOp mIx (mVar 0) (mC (.int 1))))) mNx)
  (mSeq (mAsg (gSubD (mVar 0) (mC (.int 1))) (mOp mAdd (mOp mIx (mVar 0) (mC (.int 1))) (mC (.int 1))))
  (mSeq (mIfS (mB (mOp mGe (mCB mAbs (mCons (mVar 3) mNil)) (mOp mPow (mC (.int 10)) (mC (.int 18))))) (mSeq (mAsg (gSubD (mVar 0) (mC (.int 2))) (mOp mDiv (mCB mAbs (mCons (mVar 3) mNil)) (mVar 1)))
  (mRet (mOp mMod (mCB mAbs (mCons (mVar 3) mNil)) (mVar 1)))) mNx)
  (mSeq (mSet 4 (mOp mAdd (mOp mAdd (mOp mPow (mOp mIx (mVar 0) (mC (.int 3))) (mC (.int 3))) (mOp mMul (mOp mIx (mVar 0) (mC (.int 3))) (mC (.int 37)))) (mOp mMul (mOp mIx (mVar 0) (mC (.int 1))) (mC (.int 69621)))))
  (mSeq (mSet 4 (mOp mMod (mOp mAdd (mVar 4) (mOp mMul (mOp mMod (mVar 3) (mC (.int 2147483629))) (mC (.int 48271)))) (mC (.int 2147483647))))
  (mSeq (mAsg (gSubD (mVar 0) (mC (.int 3))) (mVar 4))
  (mRet (mOp mMod (mOp mAdd (mOp mDiv (mVar 4) (mC (.int 8192))) (mOp mMul (mOp mMod (mVar 4) (mC (.int 8191))) (mC (.int 40503)))) (mVar 1)))))))))))
def m_law_draw : Fn := fnRun 5 false b_law_draw
def b_law_pick : Bd :=
  (mRet (mOp mIx (mVar 1) (mCall 2 m_law_draw (mCons (mVar 0) (mCons (mCB mLen (mCons (mVar 1) mNil)) mNil)))))
def m_law_pick : Fn := fnRun 2 false b_law_pick
def b_law_names : Bd :=
  (mSeq (mSet 2 (mLstR (mCons (mC (.str "a")) (mCons (mC (.str "road")) (mCons (mC (.str "bb")) (mCons (mC (.str "gate")) (mCons (mC (.str "z")) (mCons (mC (.str "yard")) (mCons (mC (.str "one")) (mCons (mC (.str "abcdefgh")) (mCons (mC (.str "x")) (mCons (mC (.str "ford")) (mCons (mC (.str "mill")) (mCons (mC (.str "walk")) (mCons (mC (.str "ab")) mNil)))))))))))))))
  (mSeq (mSet 2 (mOp mAddR (mVar 2) (mLst (mCons (mC (.str "bridge")) (mCons (mC (.str "k")) mNil)))))
  (mSeq (mSet 3 (mLstR mNil))
  (mSeq (mFor (mRng1 (mCons (mVar 1) mNil)) (gNm 4) (mDrop (mApp1 (mVar 3) (mPop1 (mVar 2) (mCall 2 m_law_draw (mCons (mVar 0) (mCons (mCB mLen (mCons (mVar 2) mNil)) mNil)))))))
  (mRet (mVar 3))))))
def m_law_names : Fn := fnRun 5 false b_law_names
def b_law_number : Bd :=
  (mSeq (mSet 2 (mCall 2 m_law_draw (mCons (mVar 0) (mCons (mC (.int 3)) mNil))))
  (mSeq (mIfS (mB (mOp mEq (mVar 2) (mC (.int 0)))) (mRet (mCall 2 m_law_pick (mCons (mVar 0) (mCons (mLst (mCons (mC (.int 1)) (mCons (mNeg (mC (.int 1))) mNil))) mNil)))) mNx)
  (mRet (mOp mMul (mCall 2 m_law_pick (mCons (mVar 0) (mCons (mLst (mCons (mC (.int 1)) (mCons (mC (.int 1)) (mCons (mNeg (mC (.int 1))) mNil)))) mNil))) (mOp mAdd (mC (.int 1)) (mCall 2 m_law_draw (mCons (mVar 0) (mCons (mVar 1) mNil))))))))
def m_law_number : Fn := fnRun 3 false b_law_number
def b_law_drawn_web : Bd :=
  (mSeq (mSet 4 (mCall 2 m_law_names (mCons (mVar 0) (mCons (mOp mAdd (mVar 1) (mVar 2)) mNil))))
  (mSeq (mSet 5 (mDict ["yards", "roads"] [(mSl (mVar 4) mNoPart (mPart (mVar 1))), (mLstR mNil)]))
  (mSeq (mFor (mRng1 (mCons (mVar 2) mNil)) (gNm 6) (mSeq (mSet 7 (mCall 2 m_law_pick (mCons (mVar 0) (mCons (mGetS "yards" (mVar 5)) mNil))))
  (mSeq (mSet 8 (mCall 2 m_law_pick (mCons (mVar 0) (mCons (mGetS "yards" (mVar 5)) mNil))))
  (mSeq (mIfS (mB (mOp mLt (mOp mAdd (mVar 6) (mC (.int 1))) (mVar 1))) (mPar 7 8 (mCons (mOp mIx (mGetS "yards" (mVar 5)) (mVar 6)) (mCons (mOp mIx (mGetS "yards" (mVar 5)) (mOp mAdd (mVar 6) (mC (.int 1)))) mNil))) mNx)
  (mSeq (mSet 9 (mTup (mCons (mOp mIx (mVar 4) (mOp mAdd (mVar 1) (mVar 6))) (mCons (mVar 7) (mCons (mVar 8) (mCons (mCall 2 m_law_number (mCons (mVar 0) (mCons (mVar 3) mNil))) mNil))))))
  (mDrop (mApp1 (mGetS "roads" (mVar 5)) (mOp mAdd (mVar 9) (mTup (mCons (mCall 2 m_law_number (mCons (mVar 0) (mCons (mVar 3) mNil))) mNil))))))))))
  (mRet (mVar 5)))))
def m_law_drawn_web : Fn := fnRun 10 false b_law_drawn_web
def b_law_small_web : Bd :=
  (mSeq (mSet 1 (mOp mAdd (mC (.int 1)) (mCall 2 m_law_draw (mCons (mVar 0) (mCons (mC (.int 3)) mNil)))))
  (mSeq (mSet 1 (mIf (mB (mOp mEq (mCall 2 m_law_draw (mCons (mVar 0) (mCons (mC (.int 5)) mNil))) (mC (.int 0)))) (mOp mAdd (mC (.int 4)) (mOp mMod (mVar 1) (mC (.int 2)))) (mVar 1)))
  (mRet (mCall 4 m_law_drawn_web (mCons (mVar 0) (mCons (mVar 1) (mCons (mCall 2 m_law_draw (mCons (mVar 0) (mCons (mC (.int 5)) mNil))) (mCons (mCall 2 m_law_pick (mCons (mVar 0) (mCons (mLst (mCons (mC (.int 2)) (mCons (mC (.int 4)) (mCons (mC (.int 9)) (mCons (mC (.int 99)) mNil))))) mNil))) mNil))))))))
def m_law_small_web : Fn := fnRun 2 false b_law_small_web
def b_law_road : Bd :=
  (mRet (mOp mIx (mLc [2] (mIt (mGetS "roads" (mVar 0))) (wNm 2) (mB (mOp mEq (mOp mIx (mVar 2) (mC (.int 0))) (mVar 1))) (mVar 2)) (mC (.int 0))))
def m_law_road : Fn := fnRun 3 false b_law_road
def b_law_ends : Bd :=
  (mSeq (mSet 2 (mCall 2 m_law_road (mCons (mVar 0) (mCons (mOp mIx (mVar 1) (mC (.int 0))) mNil))))
  (mRet (mIf (mB (mOp mEq (mOp mIx (mVar 1) (mC (.int 1))) (mC (.int 1)))) (mTup (mCons (mOp mIx (mVar 2) (mC (.int 1))) (mCons (mOp mIx (mVar 2) (mC (.int 2))) mNil))) (mTup (mCons (mOp mIx (mVar 2) (mC (.int 2))) (mCons (mOp mIx (mVar 2) (mC (.int 1))) mNil))))))
def m_law_ends : Fn := fnRun 3 false b_law_ends
def b_law_rule : Bd :=
  (mSeq (mSet 2 (mCall 2 m_law_road (mCons (mVar 0) (mCons (mOp mIx (mVar 1) (mC (.int 0))) mNil))))
  (mRet (mIf (mB (mOp mEq (mOp mIx (mVar 1) (mC (.int 1))) (mC (.int 1)))) (mTup (mCons (mOp mIx (mVar 2) (mC (.int 3))) (mCons (mOp mIx (mVar 2) (mC (.int 4))) mNil))) (mTup (mCons (mOp mIx (mVar 2) (mC (.int 4))) (mCons (mOp mIx (mVar 2) (mC (.int 3))) mNil))))))
def m_law_rule : Fn := fnRun 3 false b_law_rule
def b_law_steps_from : Bd :=
  (mSeq (mSet 2 (mLstR mNil))
  (mSeq (mFor (mIt (mGetS "roads" (mVar 0))) (gTp 5 (gCons' (gNm 3) (gCons' (gNm 4) (gCons' (gNm 5) (gCons' (gNm 6) (gCons' (gNm 7) gNil')))))) (mSeq (mIfS (mB (mOp mEq (mVar 4) (mVar 1))) (mDrop (mApp1 (mVar 2) (mTup (mCons (mVar 3) (mCons (mC (.int 1)) mNil))))) mNx)
  (mIfS (mB (mOp mEq (mVar 5) (mVar 1))) (mDrop (mApp1 (mVar 2) (mTup (mCons (mVar 3) (mCons (mNeg (mC (.int 1))) mNil))))) mNx)))
  (mRet (mVar 2))))
def m_law_steps_from : Fn := fnRun 8 false b_law_steps_from
def b_law_turns : Bd :=
  (mRet (mOp mSub (mOp mAdd (mOp mMul (mCall 2 m_law_pick (mCons (mVar 0) (mCons (mLst (mCons (mC (.int 0)) (mCons (mC (.int 0)) (mCons (mC (.int 1)) (mCons (mNeg (mC (.int 1))) mNil))))) mNil))) (mCall 2 m_law_draw (mCons (mVar 0) (mCons (mC (.int 3)) mNil)))) (mCall 2 m_law_draw (mCons (mVar 0) (mCons (mOp mAdd (mOp mMul (mC (.int 2)) (mVar 1)) (mC (.int 1))) mNil)))) (mVar 1)))
def m_law_turns : Fn := fnRun 2 false b_law_turns
def b_law_undone : Bd :=
  (mRet (mTup (mCons (mOp mIx (mVar 0) (mC (.int 0))) (mCons (mOp mSub (mC (.int 0)) (mOp mIx (mVar 0) (mC (.int 1)))) mNil))))
def m_law_undone : Fn := fnRun 1 false b_law_undone
def b_law_drawn_row : Bd :=
  (mSeq (mSet 5 (mVar 2))
  (mSeq (mSet 6 (mLstR (mCons (mCall 2 m_law_turns (mCons (mVar 0) (mCons (mVar 4) mNil))) mNil)))
  (mSeq (mFor (mRng1 (mCons (mVar 3) mNil)) (gNm 7) (mSeq (mSet 8 (mCall 2 m_law_steps_from (mCons (mVar 1) (mCons (mVar 5) mNil))))
  (mIfS (mB (mOp mNe (mVar 8) (mLst mNil))) (mSeq (mSet 9 (mCall 2 m_law_pick (mCons (mVar 0) (mCons (mVar 8) mNil))))
  (mSeq (mIfS (mAndT (mB (mOp mGt (mCB mLen (mCons (mVar 6) mNil)) (mC (.int 1)))) (mB (mOp mEq (mCall 2 m_law_draw (mCons (mVar 0) (mCons (mC (.int 3)) mNil))) (mC (.int 0))))) (mSeq (mSet 9 (mCall 1 m_law_undone (mCons (mOp mIx (mVar 6) (mNeg (mC (.int 2)))) mNil)))
  (mAsg (gSubD (mVar 6) (mNeg (mC (.int 1)))) (mOp mMul (mOp mIx (mCall 2 m_law_rule (mCons (mVar 1) (mCons (mVar 9) mNil))) (mC (.int 0))) (mOp mSub (mCall 2 m_law_draw (mCons (mVar 0) (mCons (mC (.int 5)) mNil))) (mC (.int 2)))))) mNx)
  (mSeq (mSet 5 (mOp mIx (mCall 2 m_law_ends (mCons (mVar 1) (mCons (mVar 9) mNil))) (mC (.int 1))))
  (mSet 6 (mOp mAddR (mVar 6) (mLst (mCons (mVar 9) (mCons (mCall 2 m_law_turns (mCons (mVar 0) (mCons (mVar 4) mNil))) mNil)))))))) mNx)))
  (mRet (mVar 6)))))
def m_law_drawn_row : Fn := fnRun 10 false b_law_drawn_row
def b_law_walk_of : Bd :=
  (mSeq (mSet 4 (mCall 2 m_law_pick (mCons (mVar 0) (mCons (mGetS "yards" (mVar 1)) mNil))))
  (mSeq (mSet 5 (mCall 5 m_law_drawn_row (mCons (mVar 0) (mCons (mVar 1) (mCons (mVar 4) (mCons (mCall 2 m_law_draw (mCons (mVar 0) (mCons (mOp mAdd (mVar 2) (mC (.int 1))) mNil))) (mCons (mVar 3) mNil)))))))
  (mRet (mTup (mCons (mVar 4) (mCons (mVar 5) mNil))))))
def m_law_walk_of : Fn := fnRun 6 false b_law_walk_of
def b_law_some_walk : Bd :=
  (mSeq (mSet 2 (mCall 1 m_law_small_web (mCons (mVar 0) mNil)))
  (mSeq (mAsg (gTp 2 (gCons' (gNm 3) (gCons' (gNm 4) gNil'))) (mCall 4 m_law_walk_of (mCons (mVar 0) (mCons (mVar 2) (mCons (mVar 1) (mCons (mCall 2 m_law_pick (mCons (mVar 0) (mCons (mLst (mCons (mC (.int 2)) (mCons (mC (.int 9)) (mCons (mC (.int 120)) mNil)))) mNil))) mNil))))))
  (mRet (mTup (mCons (mVar 2) (mCons (mVar 3) (mCons (mVar 4) mNil)))))))
def m_law_some_walk : Fn := fnRun 5 false b_law_some_walk
def b_law_yards_on : Bd :=
  (mSeq (mSet 3 (mLstR (mCons (mVar 1) mNil)))
  (mSeq (mFor (mIt (mEv 1 (mVar 2))) (gNm 4) (mDrop (mApp1 (mVar 3) (mOp mIx (mCall 2 m_law_ends (mCons (mVar 0) (mCons (mVar 4) mNil))) (mC (.int 1))))))
  (mRet (mVar 3))))
def m_law_yards_on : Fn := fnRun 5 false b_law_yards_on
def b_law_sums : Bd :=
  (mSeq (mSet 3 (mOp mMulR (mLst (mCons (mC (.int 0)) mNil)) (mCB mLen (mCons (mGetS "yards" (mVar 0)) mNil))))
  (mSeq (mSet 4 (mCall 3 m_law_yards_on (mCons (mVar 0) (mCons (mVar 1) (mCons (mVar 2) mNil)))))
  (mSeq (mFor (mRng1 (mCons (mCB mLen (mCons (mVar 4) mNil)) mNil)) (gNm 5) (mSeq (mSet 6 (mLM idxD (mGetS "yards" (mVar 0)) (mCons (mOp mIx (mVar 4) (mVar 5)) mNil)))
  (mAsg (gSubD (mVar 3) (mVar 6)) (mOp mAdd (mOp mIx (mVar 3) (mVar 6)) (mOp mIx (mVar 2) (mOp mMul (mC (.int 2)) (mVar 5)))))))
  (mSeq (mSet 7 (mLstR mNil))
  (mSeq (mFor (mIt (mGetS "roads" (mVar 0))) (gNm 8) (mDrop (mApp1 (mVar 7) (mOp mSub (mLM cntD (mVar 2) (mCons (mTup (mCons (mOp mIx (mVar 8) (mC (.int 0))) (mCons (mC (.int 1)) mNil))) mNil)) (mLM cntD (mVar 2) (mCons (mTup (mCons (mOp mIx (mVar 8) (mC (.int 0))) (mCons (mNeg (mC (.int 1))) mNil))) mNil))))))
  (mRet (mTup (mCons (mVar 3) (mCons (mVar 7) mNil)))))))))
def m_law_sums : Fn := fnRun 9 false b_law_sums
def b_Web_dinit : Bd :=
  (mSeq (mFldS ["Web"] "places" (mVar 0) (mTup mNil))
  (mFldS ["Web"] "roads" (mVar 0) (mTup mNil)))
def m_Web_dinit : Fn := fnRun 1 false b_Web_dinit
def b_is_name : Bd :=
  (mRet (mAndV (mChain mLe mLe (mC (.int 1)) (mCB mLen (mCons (mVar 0) mNil)) (mC (.int 8))) (mCB mAll (mCons (mLc [1] (mItS (mVar 0)) (wNm 1) mYes (mOp (mIn false) (mVar 1) (mC (.str "abcdefghijklmnopqrstuvwxyz")))) mNil))))
def m_is_name : Fn := fnRun 2 false b_is_name
def b_Web_need_new : Bd :=
  (mSeq (mIfS (mNotT (mTruth (mCall 1 m_is_name (mCons (mVar 1) mNil)))) mStop mNx)
  (mIfS (mOrT (mB (mOp (mIn false) (mVar 1) (mFld ["Web"] "places" (mVar 0)))) (mB (mOp (mIn false) (mVar 1) (mLc [2] (mIt (mFld ["Web"] "roads" (mVar 0))) (wNm 2) mYes (mOp mIx (mVar 2) (mC (.int 0))))))) mStop mNx))
def m_Web_need_new : Fn := fnRun 3 false b_Web_need_new
def b_Web_turned : Bd :=
  (mSeq (mSet 3 (mMake "Web" 1 m_Web_dinit mNil))
  (mSeq (mAsg (gTp 2 (gCons' (gFldD ["Web"] "places" (mVar 3)) (gCons' (gFldD ["Web"] "roads" (mVar 3)) gNil'))) (mTup (mCons (mCB mTuple (mCons (mVar 1) mNil)) (mCons (mCB mTuple (mCons (mVar 2) mNil)) mNil))))
  (mRet (mVar 3))))
def m_Web_turned : Fn := fnRun 4 false b_Web_turned
def b_is_whole : Bd :=
  (mRet (mAndV (mCB mIsi (mCons (mVar 0) (mCons (mC (.ty "int")) mNil))) (mAndV (mNotV (mCB mIsi (mCons (mVar 0) (mCons (mC (.ty "bool")) mNil)))) (mChain mLe mLe (mVar 1) (mVar 0) (mVar 2)))))
def m_is_whole : Fn := fnRun 3 false b_is_whole
def b_need_turns : Bd :=
  (mIfS (mOrT (mB (mOp mEq (mVar 0) (mC (.int 0)))) (mNotT (mTruth (mCall 3 m_is_whole (mCons (mVar 0) (mCons (mOp mSub (mC (.int 0)) (mC (.int 99))) (mCons (mC (.int 99)) mNil))))))) mStop mNx)
def m_need_turns : Fn := fnRun 1 false b_need_turns
def b_Web_with_passage : Bd :=
  (mSeq (mDrop (mMeth "Web" "need_new" 2 m_Web_need_new (mVar 0) (mCons (mVar 1) mNil)))
  (mSeq (mFor (mIt (mTup (mCons (mVar 2) (mCons (mVar 3) mNil)))) (gNm 6) (mDrop (mMeth "Web" "need_yard" 2 m_Web_need_yard (mVar 0) (mCons (mVar 6) mNil))))
  (mSeq (mFor (mIt (mTup (mCons (mVar 4) (mCons (mVar 5) mNil)))) (gNm 7) (mDrop (mCall 1 m_need_turns (mCons (mVar 7) mNil))))
  (mSeq (mIfS (mB (mOp mGe (mCB mLen (mCons (mFld ["Web"] "roads" (mVar 0)) mNil)) (mC (.int 8)))) mStop mNx)
  (mRet (mMeth "Web" "turned" 3 m_Web_turned (mVar 0) (mCons (mFld ["Web"] "places" (mVar 0)) (mCons (mOp mAdd (mFld ["Web"] "roads" (mVar 0)) (mTup (mCons (mTup (mCons (mVar 1) (mCons (mVar 2) (mCons (mVar 3) (mCons (mVar 4) (mCons (mVar 5) mNil)))))) mNil))) mNil))))))))
def m_Web_with_passage : Fn := fnRun 8 false b_Web_with_passage
def b_Web_with_yard : Bd :=
  (mSeq (mDrop (mMeth "Web" "need_new" 2 m_Web_need_new (mVar 0) (mCons (mVar 1) mNil)))
  (mSeq (mIfS (mB (mOp mGe (mCB mLen (mCons (mFld ["Web"] "places" (mVar 0)) mNil)) (mC (.int 6)))) mStop mNx)
  (mRet (mMeth "Web" "turned" 3 m_Web_turned (mVar 0) (mCons (mOp mAdd (mFld ["Web"] "places" (mVar 0)) (mTup (mCons (mVar 1) mNil))) (mCons (mFld ["Web"] "roads" (mVar 0)) mNil))))))
def m_Web_with_yard : Fn := fnRun 2 false b_Web_with_yard
def b_law_web : Bd :=
  (mSeq (mSet 1 (mFz (mMake "Web" 1 m_Web_dinit mNil)))
  (mSeq (mFor (mIt (mGetS "yards" (mVar 0))) (gNm 2) (mSet 1 (mMeth "Web" "with_yard" 2 m_Web_with_yard (mVar 1) (mCons (mVar 2) mNil))))
  (mSeq (mFor (mIt (mGetS "roads" (mVar 0))) (gTp 5 (gCons' (gNm 3) (gCons' (gNm 4) (gCons' (gNm 5) (gCons' (gNm 6) (gCons' (gNm 7) gNil')))))) (mSet 1 (mMethK "Web" "with_passage" 4 2 6 [1, 0] m_Web_with_passage (mVar 1) (mCons (mVar 3) (mCons (mVar 4) (mCons (mVar 5) mNil))) (mCons (mVar 7) (mCons (mVar 6) mNil)))))
  (mRet (mVar 1)))))
def m_law_web : Fn := fnRun 8 false b_law_web
def b_Walk_steps : Bd :=
  (mRet (mCB mList (mCons (mEv 1 (mFld ["Walk"] "line" (mVar 0))) mNil)))
def m_Walk_steps : Fn := fnRun 1 false b_Walk_steps
def b_Walk_web : Bd :=
  (mRet (mFld ["Walk"] "over" (mVar 0)))
def m_Walk_web : Fn := fnRun 1 false b_Walk_web
def b_Walk_yards : Bd :=
  (mRet (mCB mList (mCons (mFld ["Walk"] "spots" (mVar 0)) mNil)))
def m_Walk_yards : Fn := fnRun 1 false b_Walk_yards
def b_Web_passages : Bd :=
  (mRet (mCB mList (mCons (mFld ["Web"] "roads" (mVar 0)) mNil)))
def m_Web_passages : Fn := fnRun 1 false b_Web_passages
def b_Web_yards : Bd :=
  (mRet (mCB mList (mCons (mFld ["Web"] "places" (mVar 0)) mNil)))
def m_Web_yards : Fn := fnRun 1 false b_Web_yards
def b_sums : Bd :=
  (mSeq (mSet 1 (mMeth "Walk" "web" 1 m_Walk_web (mVar 0) mNil))
  (mSeq (mSet 2 (mDcR [3] (mIt (mMeth "Web" "yards" 1 m_Web_yards (mVar 1) mNil)) (wNm 3) mYes (mVar 3) (mC (.int 0))))
  (mSeq (mFor (mZs (mCons (mEv 0 (mMeth "Walk" "row" 1 m_Walk_row (mVar 0) mNil)) (mCons (mMeth "Walk" "yards" 1 m_Walk_yards (mVar 0) mNil) mNil))) (gTp 2 (gCons' (gNm 4) (gCons' (gNm 3) gNil'))) (mAugD (mVar 2) (mVar 3) (mVar 4)))
  (mSeq (mSet 5 (mDcR [6] (mIt (mMeth "Web" "passages" 1 m_Web_passages (mVar 1) mNil)) (wNm 6) mYes (mOp mIx (mVar 6) (mC (.int 0))) (mC (.int 0))))
  (mSeq (mFor (mIt (mMeth "Walk" "steps" 1 m_Walk_steps (mVar 0) mNil)) (gTp 2 (gCons' (gNm 7) (gCons' (gNm 8) gNil'))) (mAugD (mVar 5) (mVar 7) (mVar 8)))
  (mRet (mTup (mCons (mLVals (mVar 2)) (mCons (mLVals (mVar 5)) mNil)))))))))
def m_sums : Fn := fnRun 9 false b_sums
def b_sums_o : Bd :=
  (mSeq (mSet 1 (mMeth "Walk" "web" 1 m_Walk_web (mVar 0) mNil))
  (mSeq (mSet 2 (mDcR [3] (mIt (mMeth "Web" "yards" 1 m_Web_yards (mVar 1) mNil)) (wNm 3) mYes (mVar 3) (mC (.int 0))))
  (mSeq (mFor (mZs (mCons (mEv 0 (mMeth "Walk" "row" 1 m_Walk_row (mVar 0) mNil)) (mCons (mMeth "Walk" "yards" 1 m_Walk_yards (mVar 0) mNil) mNil))) (gTp 2 (gCons' (gNm 4) (gCons' (gNm 3) gNil'))) (mAugD (mVar 2) (mVar 3) (mVar 4)))
  (mSeq (mSet 5 (mDcR [6] (mIt (mMeth "Web" "passages" 1 m_Web_passages (mVar 1) mNil)) (wNm 6) mYes (mOp mIx (mVar 6) (mC (.int 0))) (mC (.int 0))))
  (mSeq (mFor (mIt (mMeth "Walk" "steps" 1 m_Walk_steps (mVar 0) mNil)) (gTp 2 (gCons' (gNm 7) (gCons' (gNm 8) gNil'))) (mAugD (mVar 5) (mVar 7) (mVar 8)))
  (mRet (mTup (mCons (mLVals (mVar 2)) (mCons (mLVals (mVar 5)) mNil)))))))))
def m_sums_o : Fn := fnRun 9 true b_sums_o
def b_law : Bd :=
  (mSeq (mSet 1 (mCall 1 m_law_flow (mCons (mVar 0) mNil)))
  (mSeq (mFor (mRng1 (mCons (mC (.int 3)) mNil)) (gNm 2) (mSeq (mAsg (gTp 3 (gCons' (gNm 3) (gCons' (gNm 4) (gCons' (gNm 5) gNil')))) (mCall 2 m_law_some_walk (mCons (mVar 1) (mCons (mC (.int 16)) mNil))))
  (mSeq (mSet 6 (mFz (mMake "Walk" 4 m_Walk_dinit (mCons (mCall 1 m_law_web (mCons (mVar 3) mNil)) (mCons (mVar 4) (mCons (mVar 5) mNil))))))
  (mSeq (mSet 7 (mCall 3 m_law_sums (mCons (mVar 3) (mCons (mVar 4) (mCons (mVar 5) mNil)))))
  (mSeq (mSet 8 (mCall 1 m_sums_o (mCons (mVar 6) mNil)))
  (mSeq (mIfS (mNotT (mTruth (mCall 2 (m_law_same 20) (mCons (mVar 8) (mCons (mVar 7) mNil))))) (mRet (mC (.bl false))) mNx)
  (mSeq (mDrop (mClear (mOp mIx (mVar 8) (mC (.int 0)))))
  (mSeq (mDrop (mApp1 (mOp mIx (mVar 8) (mC (.int 1))) (mC (.int 0))))
  (mIfS (mOrT (mNotT (mTruth (mCall 2 (m_law_same 20) (mCons (mCall 1 m_sums (mCons (mVar 6) mNil)) (mCons (mVar 7) mNil))))) (mNotT (mTruth (mCall 2 (m_law_same 20) (mCons (mOp mIx (mCall 1 m_sums (mCons (mMeth "Walk" "back" 1 m_Walk_back (mVar 6) mNil) mNil)) (mC (.int 1))) (mCons (mLc [9] (mIt (mOp mIx (mVar 7) (mC (.int 1)))) (wNm 9) mYes (mOp mSub (mC (.int 0)) (mVar 9))) mNil)))))) (mRet (mC (.bl false))) mNx)))))))))
  (mRet (mC (.bl true)))))
def m_law : Fn := fnRun 10 true b_law
end Lw
set_option Elab.async false
set_option linter.all false
set_option maxRecDepth 100000
set_option maxHeartbeats 4000000
set_option autoImplicit false
namespace Lw
open PySem PySem.Spec PyProof.Rows L2 Dv
theorem units65 {k : Nat} {A : Around} (r : Room k A) : A.units + 65 < cLine := by have := r.un; omega
structure Ad where
  a_Web_need_yard : Addr
  d_Web_need_yard : FuncData
  a_need_form : Addr
  d_need_form : FuncData
  a_Web_road_of : Addr
  d_Web_road_of : FuncData
  a_Web_turned_so : Addr
  d_Web_turned_so : FuncData
  a_Web_ends : Addr
  d_Web_ends : FuncData
  a_yards_on : Addr
  d_yards_on : FuncData
  a_Walk_dinit : Addr
  d_Walk_dinit : FuncData
  v_Walk_dinit : List V
  a_Walk_end : Addr
  d_Walk_end : FuncData
  a_Walk_row : Addr
  d_Walk_row : FuncData
  a_undone : Addr
  d_undone : FuncData
  a_back_row : Addr
  d_back_row : FuncData
  a_Walk_back : Addr
  d_Walk_back : FuncData
  a_law_flow : Addr
  d_law_flow : FuncData
  a_law_same : Addr
  d_law_same : FuncData
  a_law_draw : Addr
  d_law_draw : FuncData
  a_law_pick : Addr
  d_law_pick : FuncData
  a_law_names : Addr
  d_law_names : FuncData
  a_law_number : Addr
  d_law_number : FuncData
  a_law_drawn_web : Addr
  d_law_drawn_web : FuncData
  a_law_small_web : Addr
  d_law_small_web : FuncData
  a_law_road : Addr
  d_law_road : FuncData
  a_law_ends : Addr
  d_law_ends : FuncData
  a_law_rule : Addr
  d_law_rule : FuncData
  a_law_steps_from : Addr
  d_law_steps_from : FuncData
  a_law_turns : Addr
  d_law_turns : FuncData
  a_law_undone : Addr
  d_law_undone : FuncData
  a_law_drawn_row : Addr
  d_law_drawn_row : FuncData
  a_law_walk_of : Addr
  d_law_walk_of : FuncData
  a_law_some_walk : Addr
  d_law_some_walk : FuncData
  a_law_yards_on : Addr
  d_law_yards_on : FuncData
  a_law_sums : Addr
  d_law_sums : FuncData
  a_Web_dinit : Addr
  d_Web_dinit : FuncData
  a_is_name : Addr
  d_is_name : FuncData
  a_Web_need_new : Addr
  d_Web_need_new : FuncData
  a_Web_turned : Addr
  d_Web_turned : FuncData
  a_is_whole : Addr
  d_is_whole : FuncData
  a_need_turns : Addr
  d_need_turns : FuncData
  a_Web_with_passage : Addr
  d_Web_with_passage : FuncData
  a_Web_with_yard : Addr
  d_Web_with_yard : FuncData
  a_law_web : Addr
  d_law_web : FuncData
  a_Walk_steps : Addr
  d_Walk_steps : FuncData
  a_Walk_web : Addr
  d_Walk_web : FuncData
  a_Walk_yards : Addr
  d_Walk_yards : FuncData
  a_Web_passages : Addr
  d_Web_passages : FuncData
  a_Web_yards : Addr
  d_Web_yards : FuncData
  a_sums : Addr
  d_sums : FuncData
  a_law : Addr
  d_law : FuncData
  k_Walk : Addr
  k_Web : Addr
abbrev clOf (A : Ad) : CL := [("Walk", A.k_Walk), ("Web", A.k_Web)]
abbrev tabsOf (A : Ad) : List (Addr × Str) := []
abbrev Gx (K : PySem.W.Frag) (A : Ad) : Gv := ⟨K, fun c => (clOf A).lookup c, fun _ => none, tabsOf A, true⟩
structure Tx (K : PySem.W.Frag) (mg : Str → Option Value) (A : Ad) : Prop where
  F_Web_need_yard : Fun K "need_yard" "Web.need_yard" s_Web_need_yard A.a_Web_need_yard A.d_Web_need_yard
  me_Web_need_yard : Meth K A.k_Web "need_yard" A.a_Web_need_yard
  b_Web_need_yard : Binds K A.d_Web_need_yard ["self", "name"] []
  F_need_form : Fun K "need_form" "need_form" s_need_form A.a_need_form A.d_need_form
  g_need_form : mg "need_form" = some (.ref A.a_need_form)
  b_need_form : Binds K A.d_need_form ["row"] []
  F_Web_road_of : Fun K "road_of" "Web.road_of" s_Web_road_of A.a_Web_road_of A.d_Web_road_of
  me_Web_road_of : Meth K A.k_Web "road_of" A.a_Web_road_of
  b_Web_road_of : Binds K A.d_Web_road_of ["self", "name"] []
  F_Web_turned_so : Fun K "turned_so" "Web.turned_so" s_Web_turned_so A.a_Web_turned_so A.d_Web_turned_so
  me_Web_turned_so : Meth K A.k_Web "turned_so" A.a_Web_turned_so
  b_Web_turned_so : Binds K A.d_Web_turned_so ["self", "step", "at"] []
  F_Web_ends : Fun K "ends" "Web.ends" s_Web_ends A.a_Web_ends A.d_Web_ends
  me_Web_ends : Meth K A.k_Web "ends" A.a_Web_ends
  b_Web_ends : Binds K A.d_Web_ends ["self", "step"] []
  F_yards_on : Fun K "yards_on" "yards_on" s_yards_on A.a_yards_on A.d_yards_on
  g_yards_on : mg "yards_on" = some (.ref A.a_yards_on)
  b_yards_on : Binds K A.d_yards_on ["web", "start", "row"] []
  F_Walk_dinit : FunD K "__init__" "Walk.__init__" (defArgs s_Walk_dinit) (defBody s_Walk_dinit) (defScope s_Walk_dinit) A.v_Walk_dinit [] A.a_Walk_dinit A.d_Walk_dinit
  mk_Walk : Mk K A.k_Walk A.a_Walk_dinit
  b_Walk_dinit : Binds K A.d_Walk_dinit ["self", "web", "start", "row"] []
  F_Walk_end : Fun K "end" "Walk.end" s_Walk_end A.a_Walk_end A.d_Walk_end
  me_Walk_end : Meth K A.k_Walk "end" A.a_Walk_end
  b_Walk_end : Binds K A.d_Walk_end ["self"] []
  F_Walk_row : Fun K "row" "Walk.row" s_Walk_row A.a_Walk_row A.d_Walk_row
  me_Walk_row : Meth K A.k_Walk "row" A.a_Walk_row
  b_Walk_row : Binds K A.d_Walk_row ["self"] []
  F_undone : Fun K "undone" "undone" s_undone A.a_undone A.d_undone
  g_undone : mg "undone" = some (.ref A.a_undone)
  b_undone : Binds K A.d_undone ["step"] []
  F_back_row : Fun K "back_row" "back_row" s_back_row A.a_back_row A.d_back_row
  g_back_row : mg "back_row" = some (.ref A.a_back_row)
  b_back_row : Binds K A.d_back_row ["row"] []
  F_Walk_back : Fun K "back" "Walk.back" s_Walk_back A.a_Walk_back A.d_Walk_back
  me_Walk_back : Meth K A.k_Walk "back" A.a_Walk_back
  b_Walk_back : Binds K A.d_Walk_back ["self"] []
  F_law_flow : Fun K "_law_flow" "_law_flow" s_law_flow A.a_law_flow A.d_law_flow
  g_law_flow : mg "_law_flow" = some (.ref A.a_law_flow)
  b_law_flow : Binds K A.d_law_flow ["_law_script"] []
  F_law_same : Fun K "_law_same" "_law_same" s_law_same A.a_law_same A.d_law_same
  g_law_same : mg "_law_same" = some (.ref A.a_law_same)
  b_law_same : Binds K A.d_law_same ["_law_found", "_law_due"] []
  F_law_draw : Fun K "_law_draw" "_law_draw" s_law_draw A.a_law_draw A.d_law_draw
  g_law_draw : mg "_law_draw" = some (.ref A.a_law_draw)
  b_law_draw : Binds K A.d_law_draw ["_law_flow_here", "_law_size"] []
  F_law_pick : Fun K "_law_pick" "_law_pick" s_law_pick A.a_law_pick A.d_law_pick
  g_law_pick : mg "_law_pick" = some (.ref A.a_law_pick)
  b_law_pick : Binds K A.d_law_pick ["_law_flow_here", "_law_lot"] []
  F_law_names : Fun K "_law_names" "_law_names" s_law_names A.a_law_names A.d_law_names
  g_law_names : mg "_law_names" = some (.ref A.a_law_names)
  b_law_names : Binds K A.d_law_names ["_law_flow_here", "_law_many"] []
  F_law_number : Fun K "_law_number" "_law_number" s_law_number A.a_law_number A.d_law_number
  g_law_number : mg "_law_number" = some (.ref A.a_law_number)
  b_law_number : Binds K A.d_law_number ["_law_flow_here", "_law_most_now"] []
  F_law_drawn_web : Fun K "_law_drawn_web" "_law_drawn_web" s_law_drawn_web A.a_law_drawn_web A.d_law_drawn_web
  g_law_drawn_web : mg "_law_drawn_web" = some (.ref A.a_law_drawn_web)
  b_law_drawn_web : Binds K A.d_law_drawn_web ["_law_flow_here", "_law_many", "_law_more", "_law_most_now"] []
  F_law_small_web : Fun K "_law_small_web" "_law_small_web" s_law_small_web A.a_law_small_web A.d_law_small_web
  g_law_small_web : mg "_law_small_web" = some (.ref A.a_law_small_web)
  b_law_small_web : Binds K A.d_law_small_web ["_law_flow_here"] []
  F_law_road : Fun K "_law_road" "_law_road" s_law_road A.a_law_road A.d_law_road
  g_law_road : mg "_law_road" = some (.ref A.a_law_road)
  b_law_road : Binds K A.d_law_road ["_law_m", "_law_name"] []
  F_law_ends : Fun K "_law_ends" "_law_ends" s_law_ends A.a_law_ends A.d_law_ends
  g_law_ends : mg "_law_ends" = some (.ref A.a_law_ends)
  b_law_ends : Binds K A.d_law_ends ["_law_m", "_law_step"] []
  F_law_rule : Fun K "_law_rule" "_law_rule" s_law_rule A.a_law_rule A.d_law_rule
  g_law_rule : mg "_law_rule" = some (.ref A.a_law_rule)
  b_law_rule : Binds K A.d_law_rule ["_law_m", "_law_step"] []
  F_law_steps_from : Fun K "_law_steps_from" "_law_steps_from" s_law_steps_from A.a_law_steps_from A.d_law_steps_from
  g_law_steps_from : mg "_law_steps_from" = some (.ref A.a_law_steps_from)
  b_law_steps_from : Binds K A.d_law_steps_from ["_law_m", "_law_yard"] []
  F_law_turns : Fun K "_law_turns" "_law_turns" s_law_turns A.a_law_turns A.d_law_turns
  g_law_turns : mg "_law_turns" = some (.ref A.a_law_turns)
  b_law_turns : Binds K A.d_law_turns ["_law_flow_here", "_law_far_now"] []
  F_law_undone : Fun K "_law_undone" "_law_undone" s_law_undone A.a_law_undone A.d_law_undone
  g_law_undone : mg "_law_undone" = some (.ref A.a_law_undone)
  b_law_undone : Binds K A.d_law_undone ["_law_step"] []
  F_law_drawn_row : Fun K "_law_drawn_row" "_law_drawn_row" s_law_drawn_row A.a_law_drawn_row A.d_law_drawn_row
  g_law_drawn_row : mg "_law_drawn_row" = some (.ref A.a_law_drawn_row)
  b_law_drawn_row : Binds K A.d_law_drawn_row ["_law_flow_here", "_law_m", "_law_start", "_law_many", "_law_far_now"] []
  F_law_walk_of : Fun K "_law_walk_of" "_law_walk_of" s_law_walk_of A.a_law_walk_of A.d_law_walk_of
  g_law_walk_of : mg "_law_walk_of" = some (.ref A.a_law_walk_of)
  b_law_walk_of : Binds K A.d_law_walk_of ["_law_flow_here", "_law_m", "_law_most_now", "_law_far_now"] []
  F_law_some_walk : Fun K "_law_some_walk" "_law_some_walk" s_law_some_walk A.a_law_some_walk A.d_law_some_walk
  g_law_some_walk : mg "_law_some_walk" = some (.ref A.a_law_some_walk)
  b_law_some_walk : Binds K A.d_law_some_walk ["_law_flow_here", "_law_most_now"] []
  F_law_yards_on : Fun K "_law_yards_on" "_law_yards_on" s_law_yards_on A.a_law_yards_on A.d_law_yards_on
  g_law_yards_on : mg "_law_yards_on" = some (.ref A.a_law_yards_on)
  b_law_yards_on : Binds K A.d_law_yards_on ["_law_m", "_law_start", "_law_row"] []
  F_law_sums : Fun K "_law_sums" "_law_sums" s_law_sums A.a_law_sums A.d_law_sums
  g_law_sums : mg "_law_sums" = some (.ref A.a_law_sums)
  b_law_sums : Binds K A.d_law_sums ["_law_m", "_law_start", "_law_row"] []
  F_Web_dinit : Fun K "__init__" "Web.__init__" s_Web_dinit A.a_Web_dinit A.d_Web_dinit
  mk_Web : Mk K A.k_Web A.a_Web_dinit
  b_Web_dinit : Binds K A.d_Web_dinit ["self"] []
  F_is_name : Fun K "is_name" "is_name" s_is_name A.a_is_name A.d_is_name
  g_is_name : mg "is_name" = some (.ref A.a_is_name)
  b_is_name : Binds K A.d_is_name ["text"] []
  F_Web_need_new : Fun K "need_new" "Web.need_new" s_Web_need_new A.a_Web_need_new A.d_Web_need_new
  me_Web_need_new : Meth K A.k_Web "need_new" A.a_Web_need_new
  b_Web_need_new : Binds K A.d_Web_need_new ["self", "name"] []
  F_Web_turned : Fun K "turned" "Web.turned" s_Web_turned A.a_Web_turned A.d_Web_turned
  me_Web_turned : Meth K A.k_Web "turned" A.a_Web_turned
  b_Web_turned : Binds K A.d_Web_turned ["self", "places", "roads"] []
  F_is_whole : Fun K "is_whole" "is_whole" s_is_whole A.a_is_whole A.d_is_whole
  g_is_whole : mg "is_whole" = some (.ref A.a_is_whole)
  b_is_whole : Binds K A.d_is_whole ["thing", "low", "high"] []
  F_need_turns : Fun K "need_turns" "need_turns" s_need_turns A.a_need_turns A.d_need_turns
  g_need_turns : mg "need_turns" = some (.ref A.a_need_turns)
  b_need_turns : Binds K A.d_need_turns ["number"] []
  F_Web_with_passage : Fun K "with_passage" "Web.with_passage" s_Web_with_passage A.a_Web_with_passage A.d_Web_with_passage
  me_Web_with_passage : Meth K A.k_Web "with_passage" A.a_Web_with_passage
  F_Web_with_yard : Fun K "with_yard" "Web.with_yard" s_Web_with_yard A.a_Web_with_yard A.d_Web_with_yard
  me_Web_with_yard : Meth K A.k_Web "with_yard" A.a_Web_with_yard
  b_Web_with_yard : Binds K A.d_Web_with_yard ["self", "name"] []
  F_law_web : Fun K "_law_web" "_law_web" s_law_web A.a_law_web A.d_law_web
  g_law_web : mg "_law_web" = some (.ref A.a_law_web)
  b_law_web : Binds K A.d_law_web ["_law_m"] []
  F_Walk_steps : Fun K "steps" "Walk.steps" s_Walk_steps A.a_Walk_steps A.d_Walk_steps
  me_Walk_steps : Meth K A.k_Walk "steps" A.a_Walk_steps
  b_Walk_steps : Binds K A.d_Walk_steps ["self"] []
  F_Walk_web : Fun K "web" "Walk.web" s_Walk_web A.a_Walk_web A.d_Walk_web
  me_Walk_web : Meth K A.k_Walk "web" A.a_Walk_web
  b_Walk_web : Binds K A.d_Walk_web ["self"] []
  F_Walk_yards : Fun K "yards" "Walk.yards" s_Walk_yards A.a_Walk_yards A.d_Walk_yards
  me_Walk_yards : Meth K A.k_Walk "yards" A.a_Walk_yards
  b_Walk_yards : Binds K A.d_Walk_yards ["self"] []
  F_Web_passages : Fun K "passages" "Web.passages" s_Web_passages A.a_Web_passages A.d_Web_passages
  me_Web_passages : Meth K A.k_Web "passages" A.a_Web_passages
  b_Web_passages : Binds K A.d_Web_passages ["self"] []
  F_Web_yards : Fun K "yards" "Web.yards" s_Web_yards A.a_Web_yards A.d_Web_yards
  me_Web_yards : Meth K A.k_Web "yards" A.a_Web_yards
  b_Web_yards : Binds K A.d_Web_yards ["self"] []
  F_sums : Fun K "sums" "sums" s_sums A.a_sums A.d_sums
  g_sums : mg "sums" = some (.ref A.a_sums)
  b_sums : Binds K A.d_sums ["walk"] []
  F_law : Fun K "law" "law" s_law A.a_law A.d_law
  g_law : mg "law" = some (.ref A.a_law)
  b_law : Binds K A.d_law ["_law_script"] []
  kb0_Web_with_passage : KBn K A.d_Web_with_passage ["self", "name", "begin", "end", "here", "there"] 4 ["there", "here"] (fun us ws => us ++ pickL [1, 0] ws) (fun vs zs => vs ++ pickL [1, 0] zs)
  g_Walk : mg "Walk" = some (.ref A.k_Walk)
  cF_Walk : ClsF K A.k_Walk
  g_Web : mg "Web" = some (.ref A.k_Web)
  cF_Web : ClsF K A.k_Web
  na_Walk_over : NoAttr K A.k_Walk "over"
  na_Walk_line : NoAttr K A.k_Walk "line"
  na_Walk_spots : NoAttr K A.k_Walk "spots"
  na_Web_places : NoAttr K A.k_Web "places"
  na_Web_roads : NoAttr K A.k_Web "roads"
  cb : clsB K (clOf A) = true
  hn : PySem.W.specialIn K (.builtin "object.__class__") "__get__" = some (some (.builtin "getset_descriptor.__get__"))
  htk : PySem.W.takesIn K (.builtin "object.__class__") = some true
  z_range : mg "range" = none
  z_len : mg "len" = none
  z_tuple : mg "tuple" = none
  z_enumerate : mg "enumerate" = none
  z_isinstance : mg "isinstance" = none
  z_abs : mg "abs" = none
  z_list : mg "list" = none
  z_bool : mg "bool" = none
  z_int : mg "int" = none
  z_str : mg "str" = none
  z_all : mg "all" = none
  z_zip : mg "zip" = none
  c_LONGEST : ∃ t, mg "LONGEST" = some (.int 200 t)
  c_GREATEST : ∃ t, mg "GREATEST" = some (.int 1000000000000000000000000000000000000000000000000000000000000 t)
  c_MOST_PASSAGES : ∃ t, mg "MOST_PASSAGES" = some (.int 8 t)
  c_LETTERS : ∃ t, mg "LETTERS" = some (.str "abcdefghijklmnopqrstuvwxyz" t)
  c_LONGEST_NAME : ∃ t, mg "LONGEST_NAME" = some (.int 8 t)
  c_MOST_TURNS : ∃ t, mg "MOST_TURNS" = some (.int 99 t)
  c_MOST_YARDS : ∃ t, mg "MOST_YARDS" = some (.int 6 t)
theorem Tx.isi {K : PySem.W.Frag} {mg : Str → Option Value} {A : Ad} (T : Tx K mg A) : ClsOk (Gx K A) := cls_of T.cb (fun p hp => by
  simp only [clOf, List.mem_cons, List.not_mem_nil, or_false] at hp
  rcases hp with rfl | rfl
  · exact T.cF_Walk
  · exact T.cF_Web) T.hn T.htk
theorem Tx.no_over {K : PySem.W.Frag} {mg : Str → Option Value} {A : Ad} (T : Tx K mg A) : ∀ c ∈ ["Walk"], ∀ C, (Gx K A).cl c = some C → NoAttr (Gx K A).K C "over" := by
  intro c hc C h
  simp only [List.mem_cons, List.not_mem_nil, or_false] at hc
  rcases hc with rfl
  · obtain rfl : A.k_Walk = C := Option.some.inj h
    exact T.na_Walk_over
theorem Tx.no_line {K : PySem.W.Frag} {mg : Str → Option Value} {A : Ad} (T : Tx K mg A) : ∀ c ∈ ["Walk"], ∀ C, (Gx K A).cl c = some C → NoAttr (Gx K A).K C "line" := by
  intro c hc C h
  simp only [List.mem_cons, List.not_mem_nil, or_false] at hc
  rcases hc with rfl
  · obtain rfl : A.k_Walk = C := Option.some.inj h
    exact T.na_Walk_line
theorem Tx.no_spots {K : PySem.W.Frag} {mg : Str → Option Value} {A : Ad} (T : Tx K mg A) : ∀ c ∈ ["Walk"], ∀ C, (Gx K A).cl c = some C → NoAttr (Gx K A).K C "spots" := by
  intro c hc C h
  simp only [List.mem_cons, List.not_mem_nil, or_false] at hc
  rcases hc with rfl
  · obtain rfl : A.k_Walk = C := Option.some.inj h
    exact T.na_Walk_spots
theorem Tx.no_places {K : PySem.W.Frag} {mg : Str → Option Value} {A : Ad} (T : Tx K mg A) : ∀ c ∈ ["Web"], ∀ C, (Gx K A).cl c = some C → NoAttr (Gx K A).K C "places" := by
  intro c hc C h
  simp only [List.mem_cons, List.not_mem_nil, or_false] at hc
  rcases hc with rfl
  · obtain rfl : A.k_Web = C := Option.some.inj h
    exact T.na_Web_places
theorem Tx.no_roads {K : PySem.W.Frag} {mg : Str → Option Value} {A : Ad} (T : Tx K mg A) : ∀ c ∈ ["Web"], ∀ C, (Gx K A).cl c = some C → NoAttr (Gx K A).K C "roads" := by
  intro c hc C h
  simp only [List.mem_cons, List.not_mem_nil, or_false] at hc
  rcases hc with rfl
  · obtain rfl : A.k_Web = C := Option.some.inj h
    exact T.na_Web_roads
section
variable {P : Program} {w : World} {K : PySem.W.Frag} {mg : Str → Option Value} {base : Heap} {A : Ad}
theorem ok_Web_need_yard (T : Tx K mg A) : FnOk P w K mg base (L2.CX P w) 1 A.a_Web_need_yard A.d_Web_need_yard ["self", "name"] (spF (Gx K A) 2 m_Web_need_yard) := by
  refine fn_ok false T.F_Web_need_yard sc_Web_need_yard (fun cdv A1 outer s1 H1 E1 hr => ?_)
  exact (db_one (ds_if (dt_cmp do_notIn (de_var 1) (de_fld ["Web"] T.isi (de_var 0) T.no_places)) (db_one ds_stop) db_nil))
theorem ok_need_form (T : Tx K mg A) : FnOk P w K mg base (L2.CX P w) 1 A.a_need_form A.d_need_form ["row"] (spF (Gx K A) 1 m_need_form) := by
  refine fn_ok false T.F_need_form sc_need_form (fun cdv A1 outer s1 H1 E1 hr => ?_)
  exact (db_cons (ds_for fn_po (di_enum2 T.z_enumerate (da_cons (de_var 0) da_nil)) (dg_tup (dgs_cons (dg_name sc_need_form.nd rfl (by first | exact Or.inl rfl | exact Or.inr rfl)) (dgs_cons (dg_name sc_need_form.nd rfl (by first | exact Or.inl rfl | exact Or.inr rfl)) dgs_nil))) (db_one (ds_if (dt_cmp (do_ne hr.units) (de_callB (dc_isi T.isi) rfl T.z_isinstance boot_isinstance (da_cons (de_var 2) (da_cons (de_ty rfl T.z_tuple boot_tuple) da_nil))) (de_cmp (do_eq hr.units) (de_op do_mod (de_var 1) de_int) de_int)) (db_one ds_stop) db_nil)))
  (db_one (ds_if (dt_cmp (do_eq hr.units) (de_op do_mod (de_callB (dc_len) rfl T.z_len boot_len (da_cons (de_var 0) da_nil)) de_int) de_int) (db_one ds_stop) db_nil)))
theorem ok_Web_road_of (T : Tx K mg A) : FnOk P w K mg base (L2.CX P w) 1 A.a_Web_road_of A.d_Web_road_of ["self", "name"] (spF (Gx K A) 2 m_Web_road_of) := by
  refine fn_ok false T.F_Web_road_of sc_Web_road_of (fun cdv A1 outer s1 H1 E1 hr => ?_)
  exact (db_cons (ds_for fn_po (di_seq (de_fld ["Web"] T.isi (de_var 0) T.no_roads)) (dg_name sc_Web_road_of.nd rfl (by first | exact Or.inl rfl | exact Or.inr rfl)) (db_one (ds_if (dt_cmp (do_eq hr.units) (de_ix (de_var 2) de_int) (de_var 1)) (db_one (ds_ret (de_var 2))) db_nil)))
  (db_one ds_stop))
theorem ok_Web_turned_so (T : Tx K mg A) : FnOk P w K mg base (L2.CX P w) 2 A.a_Web_turned_so A.d_Web_turned_so ["self", "step", "at"] (spF (Gx K A) 3 m_Web_turned_so) := by
  refine fn_ok false T.F_Web_turned_so sc_Web_turned_so (fun cdv A1 outer s1 H1 E1 hr => ?_)
  exact (db_cons (ds_asg (de_var 1) (dg_tup (dgs_cons (dg_name sc_Web_turned_so.nd rfl (by first | exact Or.inl rfl | exact Or.inr rfl)) (dgs_cons (dg_name sc_Web_turned_so.nd rfl (by first | exact Or.inl rfl | exact Or.inr rfl)) dgs_nil))))
  (db_cons (ds_set (i := 5) sc_Web_turned_so.nd (de_meth (c := "Web") T.isi rfl (de_var 0) (da_cons (de_var 3) da_nil) T.me_Web_road_of (ok_Web_road_of T) (hr.mono (by decide)) T.b_Web_road_of fn_tk))
  (db_cons (ds_if (dt_cmp do_notIn (de_var 4) (de_tup (da_cons de_int (da_cons (de_neg de_int) da_nil)))) (db_one ds_stop) db_nil)
  (db_one (ds_ret (de_if (dt_cmp (do_eq hr.units) (de_var 4) de_int) (de_tup (da_cons (de_ix (de_var 5) (de_var 2)) (da_cons (de_ix (de_var 5) (de_op do_add (de_var 2) de_int)) da_nil))) (de_tup (da_cons (de_ix (de_var 5) (de_op do_add (de_var 2) de_int)) (da_cons (de_ix (de_var 5) (de_var 2)) da_nil)))))))))
theorem ok_Web_ends (T : Tx K mg A) : FnOk P w K mg base (L2.CX P w) 3 A.a_Web_ends A.d_Web_ends ["self", "step"] (spF (Gx K A) 2 m_Web_ends) := by
  refine fn_ok false T.F_Web_ends sc_Web_ends (fun cdv A1 outer s1 H1 E1 hr => ?_)
  exact (db_one (ds_ret (de_meth (c := "Web") T.isi rfl (de_var 0) (da_cons (de_var 1) (da_cons de_int da_nil)) T.me_Web_turned_so (ok_Web_turned_so T) (hr.mono (by decide)) T.b_Web_turned_so fn_tk)))
theorem ok_yards_on (T : Tx K mg A) : FnOk P w K mg base (L2.CX P w) 4 A.a_yards_on A.d_yards_on ["web", "start", "row"] (spF (Gx K A) 3 m_yards_on) := by
  refine fn_ok false T.F_yards_on sc_yards_on (fun cdv A1 outer s1 H1 E1 hr => ?_)
  exact (db_cons (ds_set (i := 3) sc_yards_on.nd (de_lstR (da_cons (de_var 1) da_nil)))
  (db_cons (ds_for fn_po (di_enum2 T.z_enumerate (da_cons (de_var 2) da_nil)) (dg_tup (dgs_cons (dg_name sc_yards_on.nd rfl (by first | exact Or.inl rfl | exact Or.inr rfl)) (dgs_cons (dg_name sc_yards_on.nd rfl (by first | exact Or.inl rfl | exact Or.inr rfl)) dgs_nil))) (db_one (ds_if (dt_cmp (do_eq hr.units) (de_op do_mod (de_var 4) de_int) de_int) (db_one (ds_if (dt_cmp do_gt (de_callB (dc_abs) rfl T.z_abs boot_abs (da_cons (de_var 5) da_nil)) (de_gintE rfl T.c_GREATEST)) (db_one ds_stop) db_nil)) (db_cons (ds_asg (de_meth (c := "Web") T.isi rfl (de_var 0) (da_cons (de_var 5) da_nil) T.me_Web_ends (ok_Web_ends T) (hr.mono (by decide)) T.b_Web_ends fn_tk) (dg_tup (dgs_cons (dg_name sc_yards_on.nd rfl (by first | exact Or.inl rfl | exact Or.inr rfl)) (dgs_cons (dg_name sc_yards_on.nd rfl (by first | exact Or.inl rfl | exact Or.inr rfl)) dgs_nil))))
  (db_cons (ds_if (dt_cmp (do_ne hr.units) (de_var 6) (de_ix (de_var 3) (de_neg de_int))) (db_one ds_stop) db_nil)
  (db_one (ds_expr (de_append (de_var 3) (de_var 7)))))))))
  (db_one (ds_ret (de_var 3)))))
theorem ok_Walk_dinit (T : Tx K mg A) : FnOk P w K mg base (L2.CX P w) 5 A.a_Walk_dinit A.d_Walk_dinit ["self", "web", "start", "row"] (spF (Gx K A) 4 m_Walk_dinit) := by
  refine fn_okD false T.F_Walk_dinit sc_Walk_dinit (fun cdv A1 outer s1 H1 E1 hr => ?_)
  exact (db_cons (ds_expr (de_meth (c := "Web") T.isi rfl (de_var 1) (da_cons (de_var 2) da_nil) T.me_Web_need_yard (ok_Web_need_yard T) (hr.mono (by decide)) T.b_Web_need_yard fn_tk))
  (db_cons (ds_if (dt_cmp do_gt (de_callB (dc_len) rfl T.z_len boot_len (da_cons (de_var 3) da_nil)) (de_op do_add (de_op do_mul de_int (de_gintE rfl T.c_LONGEST)) de_int)) (db_one ds_stop) db_nil)
  (db_cons (ds_expr (de_call (ok_need_form T) (hr.mono (by decide)) T.g_need_form T.F_need_form.kp T.b_need_form fn_tk (da_cons (de_var 3) da_nil)))
  (db_cons (ds_fld ["Walk"] T.isi (de_var 0) (de_var 1) T.no_over)
  (db_cons (ds_fld ["Walk"] T.isi (de_var 0) (de_callTy (dc_tuple) rfl T.z_tuple boot_tuple (da_cons (de_var 3) da_nil)) T.no_line)
  (db_one (ds_fld ["Walk"] T.isi (de_var 0) (de_call (ok_yards_on T) (hr.mono (by decide)) T.g_yards_on T.F_yards_on.kp T.b_yards_on fn_tk (da_cons (de_var 1) (da_cons (de_var 2) (da_cons (de_var 3) da_nil)))) T.no_spots)))))))
theorem ok_Walk_end (T : Tx K mg A) : FnOk P w K mg base (L2.CX P w) 1 A.a_Walk_end A.d_Walk_end ["self"] (spF (Gx K A) 1 m_Walk_end) := by
  refine fn_ok false T.F_Walk_end sc_Walk_end (fun cdv A1 outer s1 H1 E1 hr => ?_)
  exact (db_one (ds_ret (de_ix (de_fld ["Walk"] T.isi (de_var 0) T.no_spots) (de_neg de_int))))
theorem ok_Walk_row (T : Tx K mg A) : FnOk P w K mg base (L2.CX P w) 1 A.a_Walk_row A.d_Walk_row ["self"] (spF (Gx K A) 1 m_Walk_row) := by
  refine fn_ok false T.F_Walk_row sc_Walk_row (fun cdv A1 outer s1 H1 E1 hr => ?_)
  exact (db_one (ds_ret (de_callTy (dc_list) rfl T.z_list boot_list (da_cons (de_fld ["Walk"] T.isi (de_var 0) T.no_line) da_nil))))
theorem ok_undone (T : Tx K mg A) : FnOk P w K mg base (L2.CX P w) 1 A.a_undone A.d_undone ["step"] (spF (Gx K A) 1 m_undone) := by
  refine fn_ok false T.F_undone sc_undone (fun cdv A1 outer s1 H1 E1 hr => ?_)
  exact (db_cons (ds_asg (de_var 0) (dg_tup (dgs_cons (dg_name sc_undone.nd rfl (by first | exact Or.inl rfl | exact Or.inr rfl)) (dgs_cons (dg_name sc_undone.nd rfl (by first | exact Or.inl rfl | exact Or.inr rfl)) dgs_nil))))
  (db_one (ds_ret (de_tup (da_cons (de_var 1) (da_cons (de_op do_sub de_int (de_var 2)) da_nil))))))
theorem ok_back_row (T : Tx K mg A) : FnOk P w K mg base (L2.CX P w) 2 A.a_back_row A.d_back_row ["row"] (spF (Gx K A) 1 m_back_row) := by
  refine fn_ok false T.F_back_row sc_back_row (fun cdv A1 outer s1 H1 E1 hr => ?_)
  exact (db_one (ds_ret (de_lc [("thing", 1)] sc_back_row.nd (di_seq (de_rev (de_var 0))) (blkOk_by (own := [("thing", 1)]) (N := ["row", "thing"]) (sc := defScope s_back_row) (by decide +kernel)) (fun _ _ _ _ _ => (dgw_name sc_back_row.nd rfl (by first | exact Or.inl rfl | exact Or.inr rfl))) (fun _ _ _ _ _ => dts_nil) (fun _ _ _ _ _ => (de_if (dt_truth (de_callB (dc_isi T.isi) rfl T.z_isinstance boot_isinstance (da_cons (de_var 1) (da_cons (de_ty rfl T.z_tuple boot_tuple) da_nil)))) (de_call (ok_undone T) (hr.mono (by decide)) T.g_undone T.F_undone.kp T.b_undone takes0 (da_cons (de_var 1) da_nil)) (de_op do_sub de_int (de_var 1)))))))
theorem ok_Walk_back (T : Tx K mg A) : FnOk P w K mg base (L2.CX P w) 7 A.a_Walk_back A.d_Walk_back ["self"] (spF (Gx K A) 1 m_Walk_back) := by
  refine fn_ok false T.F_Walk_back sc_Walk_back (fun cdv A1 outer s1 H1 E1 hr => ?_)
  exact (db_one (ds_ret (de_fz (de_make (c := "Walk") rfl (da_cons (de_fld ["Walk"] T.isi (de_var 0) T.no_over) (da_cons (de_meth0 (c := "Walk") T.isi rfl (de_var 0) T.me_Walk_end (ok_Walk_end T) (hr.mono (by decide)) T.b_Walk_end fn_tk) (da_cons (de_call (ok_back_row T) (hr.mono (by decide)) T.g_back_row T.F_back_row.kp T.b_back_row fn_tk (da_cons (de_meth0 (c := "Walk") T.isi rfl (de_var 0) T.me_Walk_row (ok_Walk_row T) (hr.mono (by decide)) T.b_Walk_row fn_tk) da_nil)) da_nil))) T.mk_Walk (ok_Walk_dinit T) (hr.mono (by decide)) T.b_Walk_dinit fn_tk T.g_Walk))))
theorem ok_law_flow (T : Tx K mg A) : FnOk P w K mg base (L2.CX P w) 1 A.a_law_flow A.d_law_flow ["_law_script"] (spF (Gx K A) 1 m_law_flow) := by
  refine fn_ok true T.F_law_flow sc_law_flow (fun cdv A1 outer s1 H1 E1 hr => ?_)
  exact (db_one (ds_ret (de_lstR (da_cons (de_callTy (dc_list) rfl T.z_list boot_list (da_cons (de_sl (de_var 0) dp_none (dp_some de_int)) da_nil)) (da_cons de_int (da_cons de_int (da_cons de_int da_nil)))))))
theorem ok_law_same (T : Tx K mg A) (n : Nat) : FnOk P w K mg base (L2.CX P w) (n + 1) A.a_law_same A.d_law_same ["_law_found", "_law_due"] (spF (Gx K A) 2 (m_law_same n)) := by
  induction n with
  | zero => exact fn_stuck
  | succ n rc =>
    have hk : n + 1 ≤ n + 1 := Nat.le_refl _
    refine fn_ok false T.F_law_same sc_law_same (fun cdv A1 outer s1 H1 E1 hr => ?_)
    exact (db_cons (ds_if (dt_truth (de_callB (dc_isi T.isi) rfl T.z_isinstance boot_isinstance (da_cons (de_var 1) (da_cons (de_ty rfl T.z_bool boot_bool) da_nil)))) (db_one (ds_ret (de_and (de_callB (dc_isi T.isi) rfl T.z_isinstance boot_isinstance (da_cons (de_var 0) (da_cons (de_ty rfl T.z_bool boot_bool) da_nil))) (de_one (de_cmp (do_eq hr.units) (de_var 0) (de_var 1)))))) db_nil)
  (db_cons (ds_if (dt_cmp do_is (de_var 1) de_non) (db_one (ds_ret (de_cmp do_is (de_var 0) de_non))) db_nil)
  (db_cons (ds_if (dt_truth (de_callB (dc_isi T.isi) rfl T.z_isinstance boot_isinstance (da_cons (de_var 1) (da_cons (de_ty rfl T.z_int boot_int) da_nil)))) (db_one (ds_ret (de_and (de_callB (dc_isi T.isi) rfl T.z_isinstance boot_isinstance (da_cons (de_var 0) (da_cons (de_ty rfl T.z_int boot_int) da_nil))) (de_and (de_not (de_callB (dc_isi T.isi) rfl T.z_isinstance boot_isinstance (da_cons (de_var 0) (da_cons (de_ty rfl T.z_bool boot_bool) da_nil)))) (de_one (de_cmp (do_eq hr.units) (de_var 0) (de_var 1))))))) db_nil)
  (db_cons (ds_if (dt_truth (de_callB (dc_isi T.isi) rfl T.z_isinstance boot_isinstance (da_cons (de_var 1) (da_cons (de_ty rfl T.z_str boot_str) da_nil)))) (db_one (ds_ret (de_and (de_callB (dc_isi T.isi) rfl T.z_isinstance boot_isinstance (da_cons (de_var 0) (da_cons (de_ty rfl T.z_str boot_str) da_nil))) (de_one (de_cmp (do_eq hr.units) (de_var 0) (de_var 1)))))) db_nil)
  (db_cons (ds_if (dt_w (dw_or (dt_cmp (do_ne hr.units) (de_callB (dc_isi T.isi) rfl T.z_isinstance boot_isinstance (da_cons (de_var 1) (da_cons (de_ty rfl T.z_tuple boot_tuple) da_nil))) (de_callB (dc_isi T.isi) rfl T.z_isinstance boot_isinstance (da_cons (de_var 0) (da_cons (de_ty rfl T.z_tuple boot_tuple) da_nil)))) (dw_or1 (dt_cmp (do_ne hr.units) (de_callB (dc_isi T.isi) rfl T.z_isinstance boot_isinstance (da_cons (de_var 1) (da_cons (de_ty rfl T.z_list boot_list) da_nil))) (de_callB (dc_isi T.isi) rfl T.z_isinstance boot_isinstance (da_cons (de_var 0) (da_cons (de_ty rfl T.z_list boot_list) da_nil))))))) (db_one (ds_ret de_bl)) db_nil)
  (db_cons (ds_if (dt_w (dw_or (dt_not (dt_truth (de_callB (dc_isi T.isi) rfl T.z_isinstance boot_isinstance (da_cons (de_var 0) (da_cons (de_tup (da_cons (de_ty rfl T.z_tuple boot_tuple) (da_cons (de_ty rfl T.z_list boot_list) da_nil))) da_nil))))) (dw_or1 (dt_cmp (do_ne hr.units) (de_callB (dc_len) rfl T.z_len boot_len (da_cons (de_var 0) da_nil)) (de_callB (dc_len) rfl T.z_len boot_len (da_cons (de_var 1) da_nil)))))) (db_one (ds_ret de_bl)) db_nil)
  (db_one (ds_ret (de_callB (dc_all) rfl T.z_all boot_all (da_cons (de_lc [("_law_k", 2)] sc_law_same.nd (di_range1 T.z_range (da_cons (de_callB (dc_len) rfl T.z_len boot_len (da_cons (de_var 1) da_nil)) da_nil)) (blkOk_by (own := [("_law_k", 2)]) (N := ["_law_found", "_law_due", "_law_k"]) (sc := defScope s_law_same) (by decide +kernel)) (fun _ _ _ _ _ => (dgw_name sc_law_same.nd rfl (by first | exact Or.inl rfl | exact Or.inr rfl))) (fun _ _ _ _ _ => dts_nil) (fun _ _ _ _ _ => (de_call rc (hr.mono hk) T.g_law_same T.F_law_same.kp T.b_law_same takes0 (da_cons (de_ix (de_var 0) (de_var 2)) (da_cons (de_ix (de_var 1) (de_var 2)) da_nil))))) da_nil))))))))))
theorem ok_law_draw (T : Tx K mg A) : FnOk P w K mg base (L2.CX P w) 1 A.a_law_draw A.d_law_draw ["_law_flow_here", "_law_size"] (spF (Gx K A) 2 m_law_draw) := by
  refine fn_ok false T.F_law_draw sc_law_draw (fun cdv A1 outer s1 H1 E1 hr => ?_)
  exact (db_cons (ds_if (dt_cmp do_gt (de_ix (de_var 0) de_int) de_int) (db_cons (ds_set (i := 2) sc_law_draw.nd (de_op do_mod (de_ix (de_var 0) de_int) (de_var 1)))
  (db_cons (ds_asg (de_op do_div (de_ix (de_var 0) de_int) (de_var 1)) (dg_sub (de_var 0) de_int))
  (db_one (ds_ret (de_var 2))))) db_nil)
  (db_cons (ds_set (i := 3) sc_law_draw.nd de_int)
  (db_cons (ds_if (dt_cmp do_lt (de_ix (de_var 0) de_int) (de_callB (dc_len) rfl T.z_len boot_len (da_cons (de_ix (de_var 0) de_int) da_nil))) (db_one (ds_set (i := 3) sc_law_draw.nd (de_ix (de_ix (de_var 0) de_int) (de_ix (de_var 0) de_int)))) db_nil)
  (db_cons (ds_asg (de_op do_add (de_ix (de_var 0) de_int) de_int) (dg_sub (de_var 0) de_int))
  (db_cons (ds_if (dt_cmp do_ge (de_callB (dc_abs) rfl T.z_abs boot_abs (da_cons (de_var 3) da_nil)) (de_op do_pow de_int de_int)) (db_cons (ds_asg (de_op do_div (de_callB (dc_abs) rfl T.z_abs boot_abs (da_cons (de_var 3) da_nil)) (de_var 1)) (dg_sub (de_var 0) de_int))
  (db_one (ds_ret (de_op do_mod (de_callB (dc_abs) rfl T.z_abs boot_abs (da_cons (de_var 3) da_nil)) (de_var 1))))) db_nil)
  (db_cons (ds_set (i := 4) sc_law_draw.nd (de_op do_add (de_op do_add (de_op do_pow (de_ix (de_var 0) de_int) de_int) (de_op do_mul (de_ix (de_var 0) de_int) de_int)) (de_op do_mul (de_ix (de_var 0) de_int) de_int)))
  (db_cons (ds_set (i := 4) sc_law_draw.nd (de_op do_mod (de_op do_add (de_var 4) (de_op do_mul (de_op do_mod (de_var 3) de_int) de_int)) de_int))
  (db_cons (ds_asg (de_var 4) (dg_sub (de_var 0) de_int))
  (db_one (ds_ret (de_op do_mod (de_op do_add (de_op do_div (de_var 4) de_int) (de_op do_mul (de_op do_mod (de_var 4) de_int) de_int)) (de_var 1))))))))))))
theorem ok_law_pick (T : Tx K mg A) : FnOk P w K mg base (L2.CX P w) 2 A.a_law_pick A.d_law_pick ["_law_flow_here", "_law_lot"] (spF (Gx K A) 2 m_law_pick) := by
  refine fn_ok false T.F_law_pick sc_law_pick (fun cdv A1 outer s1 H1 E1 hr => ?_)
  exact (db_one (ds_ret (de_ix (de_var 1) (de_call (ok_law_draw T) (hr.mono (by decide)) T.g_law_draw T.F_law_draw.kp T.b_law_draw fn_tk (da_cons (de_var 0) (da_cons (de_callB (dc_len) rfl T.z_len boot_len (da_cons (de_var 1) da_nil)) da_nil))))))
theorem ok_law_names (T : Tx K mg A) : FnOk P w K mg base (L2.CX P w) 2 A.a_law_names A.d_law_names ["_law_flow_here", "_law_many"] (spF (Gx K A) 2 m_law_names) := by
  refine fn_ok false T.F_law_names sc_law_names (fun cdv A1 outer s1 H1 E1 hr => ?_)
  exact (db_cons (ds_set (i := 2) sc_law_names.nd (de_lstR (da_cons de_str (da_cons de_str (da_cons de_str (da_cons de_str (da_cons de_str (da_cons de_str (da_cons de_str (da_cons de_str (da_cons de_str (da_cons de_str (da_cons de_str (da_cons de_str (da_cons de_str da_nil)))))))))))))))
  (db_cons (ds_set (i := 2) sc_law_names.nd (de_op do_addR (de_var 2) (de_lst (da_cons de_str (da_cons de_str da_nil)))))
  (db_cons (ds_set (i := 3) sc_law_names.nd (de_lstR da_nil))
  (db_cons (ds_for fn_po (di_range1 T.z_range (da_cons (de_var 1) da_nil)) (dg_name sc_law_names.nd rfl (by first | exact Or.inl rfl | exact Or.inr rfl)) (db_one (ds_expr (de_append (de_var 3) (de_pop1 (de_var 2) (de_call (ok_law_draw T) (hr.mono (by decide)) T.g_law_draw T.F_law_draw.kp T.b_law_draw fn_tk (da_cons (de_var 0) (da_cons (de_callB (dc_len) rfl T.z_len boot_len (da_cons (de_var 2) da_nil)) da_nil))))))))
  (db_one (ds_ret (de_var 3)))))))
theorem ok_law_number (T : Tx K mg A) : FnOk P w K mg base (L2.CX P w) 3 A.a_law_number A.d_law_number ["_law_flow_here", "_law_most_now"] (spF (Gx K A) 2 m_law_number) := by
  refine fn_ok false T.F_law_number sc_law_number (fun cdv A1 outer s1 H1 E1 hr => ?_)
  exact (db_cons (ds_set (i := 2) sc_law_number.nd (de_call (ok_law_draw T) (hr.mono (by decide)) T.g_law_draw T.F_law_draw.kp T.b_law_draw fn_tk (da_cons (de_var 0) (da_cons de_int da_nil))))
  (db_cons (ds_if (dt_cmp (do_eq hr.units) (de_var 2) de_int) (db_one (ds_ret (de_call (ok_law_pick T) (hr.mono (by decide)) T.g_law_pick T.F_law_pick.kp T.b_law_pick fn_tk (da_cons (de_var 0) (da_cons (de_lst (da_cons de_int (da_cons (de_neg de_int) da_nil))) da_nil))))) db_nil)
  (db_one (ds_ret (de_op do_mul (de_call (ok_law_pick T) (hr.mono (by decide)) T.g_law_pick T.F_law_pick.kp T.b_law_pick fn_tk (da_cons (de_var 0) (da_cons (de_lst (da_cons de_int (da_cons de_int (da_cons (de_neg de_int) da_nil)))) da_nil))) (de_op do_add de_int (de_call (ok_law_draw T) (hr.mono (by decide)) T.g_law_draw T.F_law_draw.kp T.b_law_draw fn_tk (da_cons (de_var 0) (da_cons (de_var 1) da_nil)))))))))
theorem ok_law_drawn_web (T : Tx K mg A) : FnOk P w K mg base (L2.CX P w) 4 A.a_law_drawn_web A.d_law_drawn_web ["_law_flow_here", "_law_many", "_law_more", "_law_most_now"] (spF (Gx K A) 4 m_law_drawn_web) := by
  refine fn_ok false T.F_law_drawn_web sc_law_drawn_web (fun cdv A1 outer s1 H1 E1 hr => ?_)
  exact (db_cons (ds_set (i := 4) sc_law_drawn_web.nd (de_call (ok_law_names T) (hr.mono (by decide)) T.g_law_names T.F_law_names.kp T.b_law_names fn_tk (da_cons (de_var 0) (da_cons (de_op do_add (de_var 1) (de_var 2)) da_nil))))
  (db_cons (ds_set (i := 5) sc_law_drawn_web.nd (de_dd (dd_cons (de_sl (de_var 4) dp_none (dp_some (de_var 1))) (dd_cons (de_lstR da_nil) dd_nil))))
  (db_cons (ds_for fn_po (di_range1 T.z_range (da_cons (de_var 2) da_nil)) (dg_name sc_law_drawn_web.nd rfl (by first | exact Or.inl rfl | exact Or.inr rfl)) (db_cons (ds_set (i := 7) sc_law_drawn_web.nd (de_call (ok_law_pick T) (hr.mono (by decide)) T.g_law_pick T.F_law_pick.kp T.b_law_pick fn_tk (da_cons (de_var 0) (da_cons (de_getS hr.units (de_var 5) (fun _ _ => rfl)) da_nil))))
  (db_cons (ds_set (i := 8) sc_law_drawn_web.nd (de_call (ok_law_pick T) (hr.mono (by decide)) T.g_law_pick T.F_law_pick.kp T.b_law_pick fn_tk (da_cons (de_var 0) (da_cons (de_getS hr.units (de_var 5) (fun _ _ => rfl)) da_nil))))
  (db_cons (ds_if (dt_cmp do_lt (de_op do_add (de_var 6) de_int) (de_var 1)) (db_one (ds_par (i := 7) (j := 8) sc_law_drawn_web.nd (da_cons (de_ix (de_getS hr.units (de_var 5) (fun _ _ => rfl)) (de_var 6)) (da_cons (de_ix (de_getS hr.units (de_var 5) (fun _ _ => rfl)) (de_op do_add (de_var 6) de_int)) da_nil)))) db_nil)
  (db_cons (ds_set (i := 9) sc_law_drawn_web.nd (de_tup (da_cons (de_ix (de_var 4) (de_op do_add (de_var 1) (de_var 6))) (da_cons (de_var 7) (da_cons (de_var 8) (da_cons (de_call (ok_law_number T) (hr.mono (by decide)) T.g_law_number T.F_law_number.kp T.b_law_number fn_tk (da_cons (de_var 0) (da_cons (de_var 3) da_nil))) da_nil))))))
  (db_one (ds_expr (de_append (de_getS hr.units (de_var 5) (fun _ _ => rfl)) (de_op do_add (de_var 9) (de_tup (da_cons (de_call (ok_law_number T) (hr.mono (by decide)) T.g_law_number T.F_law_number.kp T.b_law_number fn_tk (da_cons (de_var 0) (da_cons (de_var 3) da_nil))) da_nil)))))))))))
  (db_one (ds_ret (de_var 5))))))
theorem ok_law_small_web (T : Tx K mg A) : FnOk P w K mg base (L2.CX P w) 5 A.a_law_small_web A.d_law_small_web ["_law_flow_here"] (spF (Gx K A) 1 m_law_small_web) := by
  refine fn_ok false T.F_law_small_web sc_law_small_web (fun cdv A1 outer s1 H1 E1 hr => ?_)
  exact (db_cons (ds_set (i := 1) sc_law_small_web.nd (de_op do_add de_int (de_call (ok_law_draw T) (hr.mono (by decide)) T.g_law_draw T.F_law_draw.kp T.b_law_draw fn_tk (da_cons (de_var 0) (da_cons de_int da_nil)))))
  (db_cons (ds_set (i := 1) sc_law_small_web.nd (de_if (dt_cmp (do_eq hr.units) (de_call (ok_law_draw T) (hr.mono (by decide)) T.g_law_draw T.F_law_draw.kp T.b_law_draw fn_tk (da_cons (de_var 0) (da_cons de_int da_nil))) de_int) (de_op do_add de_int (de_op do_mod (de_var 1) de_int)) (de_var 1)))
  (db_one (ds_ret (de_call (ok_law_drawn_web T) (hr.mono (by decide)) T.g_law_drawn_web T.F_law_drawn_web.kp T.b_law_drawn_web fn_tk (da_cons (de_var 0) (da_cons (de_var 1) (da_cons (de_call (ok_law_draw T) (hr.mono (by decide)) T.g_law_draw T.F_law_draw.kp T.b_law_draw fn_tk (da_cons (de_var 0) (da_cons de_int da_nil))) (da_cons (de_call (ok_law_pick T) (hr.mono (by decide)) T.g_law_pick T.F_law_pick.kp T.b_law_pick fn_tk (da_cons (de_var 0) (da_cons (de_lst (da_cons de_int (da_cons de_int (da_cons de_int (da_cons de_int da_nil))))) da_nil))) da_nil)))))))))
theorem ok_law_road (T : Tx K mg A) : FnOk P w K mg base (L2.CX P w) 1 A.a_law_road A.d_law_road ["_law_m", "_law_name"] (spF (Gx K A) 2 m_law_road) := by
  refine fn_ok false T.F_law_road sc_law_road (fun cdv A1 outer s1 H1 E1 hr => ?_)
  exact (db_one (ds_ret (de_ix (de_lc [("_law_road_here", 2)] sc_law_road.nd (di_seq (de_getS hr.units (de_var 0) (fun _ _ => rfl))) (blkOk_by (own := [("_law_road_here", 2)]) (N := ["_law_m", "_law_name", "_law_road_here"]) (sc := defScope s_law_road) (by decide +kernel)) (fun _ _ _ _ _ => (dgw_name sc_law_road.nd rfl (by first | exact Or.inl rfl | exact Or.inr rfl))) (fun _ _ _ _ _ => (dts_one (dt_cmp (do_eq hr.units) (de_ix (de_var 2) de_int) (de_var 1)))) (fun _ _ _ _ _ => (de_var 2))) de_int)))
theorem ok_law_ends (T : Tx K mg A) : FnOk P w K mg base (L2.CX P w) 2 A.a_law_ends A.d_law_ends ["_law_m", "_law_step"] (spF (Gx K A) 2 m_law_ends) := by
  refine fn_ok false T.F_law_ends sc_law_ends (fun cdv A1 outer s1 H1 E1 hr => ?_)
  exact (db_cons (ds_set (i := 2) sc_law_ends.nd (de_call (ok_law_road T) (hr.mono (by decide)) T.g_law_road T.F_law_road.kp T.b_law_road fn_tk (da_cons (de_var 0) (da_cons (de_ix (de_var 1) de_int) da_nil))))
  (db_one (ds_ret (de_if (dt_cmp (do_eq hr.units) (de_ix (de_var 1) de_int) de_int) (de_tup (da_cons (de_ix (de_var 2) de_int) (da_cons (de_ix (de_var 2) de_int) da_nil))) (de_tup (da_cons (de_ix (de_var 2) de_int) (da_cons (de_ix (de_var 2) de_int) da_nil)))))))
theorem ok_law_rule (T : Tx K mg A) : FnOk P w K mg base (L2.CX P w) 2 A.a_law_rule A.d_law_rule ["_law_m", "_law_step"] (spF (Gx K A) 2 m_law_rule) := by
  refine fn_ok false T.F_law_rule sc_law_rule (fun cdv A1 outer s1 H1 E1 hr => ?_)
  exact (db_cons (ds_set (i := 2) sc_law_rule.nd (de_call (ok_law_road T) (hr.mono (by decide)) T.g_law_road T.F_law_road.kp T.b_law_road fn_tk (da_cons (de_var 0) (da_cons (de_ix (de_var 1) de_int) da_nil))))
  (db_one (ds_ret (de_if (dt_cmp (do_eq hr.units) (de_ix (de_var 1) de_int) de_int) (de_tup (da_cons (de_ix (de_var 2) de_int) (da_cons (de_ix (de_var 2) de_int) da_nil))) (de_tup (da_cons (de_ix (de_var 2) de_int) (da_cons (de_ix (de_var 2) de_int) da_nil)))))))
theorem ok_law_steps_from (T : Tx K mg A) : FnOk P w K mg base (L2.CX P w) 1 A.a_law_steps_from A.d_law_steps_from ["_law_m", "_law_yard"] (spF (Gx K A) 2 m_law_steps_from) := by
  refine fn_ok false T.F_law_steps_from sc_law_steps_from (fun cdv A1 outer s1 H1 E1 hr => ?_)
  exact (db_cons (ds_set (i := 2) sc_law_steps_from.nd (de_lstR da_nil))
  (db_cons (ds_for fn_po (di_seq (de_getS hr.units (de_var 0) (fun _ _ => rfl))) (dg_tup (dgs_cons (dg_name sc_law_steps_from.nd rfl (by first | exact Or.inl rfl | exact Or.inr rfl)) (dgs_cons (dg_name sc_law_steps_from.nd rfl (by first | exact Or.inl rfl | exact Or.inr rfl)) (dgs_cons (dg_name sc_law_steps_from.nd rfl (by first | exact Or.inl rfl | exact Or.inr rfl)) (dgs_cons (dg_name sc_law_steps_from.nd rfl (by first | exact Or.inl rfl | exact Or.inr rfl)) (dgs_cons (dg_name sc_law_steps_from.nd rfl (by first | exact Or.inl rfl | exact Or.inr rfl)) dgs_nil)))))) (db_cons (ds_if (dt_cmp (do_eq hr.units) (de_var 4) (de_var 1)) (db_one (ds_expr (de_append (de_var 2) (de_tup (da_cons (de_var 3) (da_cons de_int da_nil)))))) db_nil)
  (db_one (ds_if (dt_cmp (do_eq hr.units) (de_var 5) (de_var 1)) (db_one (ds_expr (de_append (de_var 2) (de_tup (da_cons (de_var 3) (da_cons (de_neg de_int) da_nil)))))) db_nil))))
  (db_one (ds_ret (de_var 2)))))
theorem ok_law_turns (T : Tx K mg A) : FnOk P w K mg base (L2.CX P w) 3 A.a_law_turns A.d_law_turns ["_law_flow_here", "_law_far_now"] (spF (Gx K A) 2 m_law_turns) := by
  refine fn_ok false T.F_law_turns sc_law_turns (fun cdv A1 outer s1 H1 E1 hr => ?_)
  exact (db_one (ds_ret (de_op do_sub (de_op do_add (de_op do_mul (de_call (ok_law_pick T) (hr.mono (by decide)) T.g_law_pick T.F_law_pick.kp T.b_law_pick fn_tk (da_cons (de_var 0) (da_cons (de_lst (da_cons de_int (da_cons de_int (da_cons de_int (da_cons (de_neg de_int) da_nil))))) da_nil))) (de_call (ok_law_draw T) (hr.mono (by decide)) T.g_law_draw T.F_law_draw.kp T.b_law_draw fn_tk (da_cons (de_var 0) (da_cons de_int da_nil)))) (de_call (ok_law_draw T) (hr.mono (by decide)) T.g_law_draw T.F_law_draw.kp T.b_law_draw fn_tk (da_cons (de_var 0) (da_cons (de_op do_add (de_op do_mul de_int (de_var 1)) de_int) da_nil)))) (de_var 1))))
theorem ok_law_undone (T : Tx K mg A) : FnOk P w K mg base (L2.CX P w) 1 A.a_law_undone A.d_law_undone ["_law_step"] (spF (Gx K A) 1 m_law_undone) := by
  refine fn_ok false T.F_law_undone sc_law_undone (fun cdv A1 outer s1 H1 E1 hr => ?_)
  exact (db_one (ds_ret (de_tup (da_cons (de_ix (de_var 0) de_int) (da_cons (de_op do_sub de_int (de_ix (de_var 0) de_int)) da_nil)))))
theorem ok_law_drawn_row (T : Tx K mg A) : FnOk P w K mg base (L2.CX P w) 4 A.a_law_drawn_row A.d_law_drawn_row ["_law_flow_here", "_law_m", "_law_start", "_law_many", "_law_far_now"] (spF (Gx K A) 5 m_law_drawn_row) := by
  refine fn_ok false T.F_law_drawn_row sc_law_drawn_row (fun cdv A1 outer s1 H1 E1 hr => ?_)
  exact (db_cons (ds_set (i := 5) sc_law_drawn_row.nd (de_var 2))
  (db_cons (ds_set (i := 6) sc_law_drawn_row.nd (de_lstR (da_cons (de_call (ok_law_turns T) (hr.mono (by decide)) T.g_law_turns T.F_law_turns.kp T.b_law_turns fn_tk (da_cons (de_var 0) (da_cons (de_var 4) da_nil))) da_nil)))
  (db_cons (ds_for fn_po (di_range1 T.z_range (da_cons (de_var 3) da_nil)) (dg_name sc_law_drawn_row.nd rfl (by first | exact Or.inl rfl | exact Or.inr rfl)) (db_cons (ds_set (i := 8) sc_law_drawn_row.nd (de_call (ok_law_steps_from T) (hr.mono (by decide)) T.g_law_steps_from T.F_law_steps_from.kp T.b_law_steps_from fn_tk (da_cons (de_var 1) (da_cons (de_var 5) da_nil))))
  (db_one (ds_if (dt_cmp (do_ne hr.units) (de_var 8) (de_lst da_nil)) (db_cons (ds_set (i := 9) sc_law_drawn_row.nd (de_call (ok_law_pick T) (hr.mono (by decide)) T.g_law_pick T.F_law_pick.kp T.b_law_pick fn_tk (da_cons (de_var 0) (da_cons (de_var 8) da_nil))))
  (db_cons (ds_if (dt_w (dw_and (dt_cmp do_gt (de_callB (dc_len) rfl T.z_len boot_len (da_cons (de_var 6) da_nil)) de_int) (dw_and1 (dt_cmp (do_eq hr.units) (de_call (ok_law_draw T) (hr.mono (by decide)) T.g_law_draw T.F_law_draw.kp T.b_law_draw fn_tk (da_cons (de_var 0) (da_cons de_int da_nil))) de_int)))) (db_cons (ds_set (i := 9) sc_law_drawn_row.nd (de_call (ok_law_undone T) (hr.mono (by decide)) T.g_law_undone T.F_law_undone.kp T.b_law_undone fn_tk (da_cons (de_ix (de_var 6) (de_neg de_int)) da_nil)))
  (db_one (ds_asg (de_op do_mul (de_ix (de_call (ok_law_rule T) (hr.mono (by decide)) T.g_law_rule T.F_law_rule.kp T.b_law_rule fn_tk (da_cons (de_var 1) (da_cons (de_var 9) da_nil))) de_int) (de_op do_sub (de_call (ok_law_draw T) (hr.mono (by decide)) T.g_law_draw T.F_law_draw.kp T.b_law_draw fn_tk (da_cons (de_var 0) (da_cons de_int da_nil))) de_int)) (dg_sub (de_var 6) (de_neg de_int))))) db_nil)
  (db_cons (ds_set (i := 5) sc_law_drawn_row.nd (de_ix (de_call (ok_law_ends T) (hr.mono (by decide)) T.g_law_ends T.F_law_ends.kp T.b_law_ends fn_tk (da_cons (de_var 1) (da_cons (de_var 9) da_nil))) de_int))
  (db_one (ds_set (i := 6) sc_law_drawn_row.nd (de_op do_addR (de_var 6) (de_lst (da_cons (de_var 9) (da_cons (de_call (ok_law_turns T) (hr.mono (by decide)) T.g_law_turns T.F_law_turns.kp T.b_law_turns fn_tk (da_cons (de_var 0) (da_cons (de_var 4) da_nil))) da_nil))))))))) db_nil))))
  (db_one (ds_ret (de_var 6))))))
theorem ok_law_walk_of (T : Tx K mg A) : FnOk P w K mg base (L2.CX P w) 5 A.a_law_walk_of A.d_law_walk_of ["_law_flow_here", "_law_m", "_law_most_now", "_law_far_now"] (spF (Gx K A) 4 m_law_walk_of) := by
  refine fn_ok false T.F_law_walk_of sc_law_walk_of (fun cdv A1 outer s1 H1 E1 hr => ?_)
  exact (db_cons (ds_set (i := 4) sc_law_walk_of.nd (de_call (ok_law_pick T) (hr.mono (by decide)) T.g_law_pick T.F_law_pick.kp T.b_law_pick fn_tk (da_cons (de_var 0) (da_cons (de_getS hr.units (de_var 1) (fun _ _ => rfl)) da_nil))))
  (db_cons (ds_set (i := 5) sc_law_walk_of.nd (de_call (ok_law_drawn_row T) (hr.mono (by decide)) T.g_law_drawn_row T.F_law_drawn_row.kp T.b_law_drawn_row fn_tk (da_cons (de_var 0) (da_cons (de_var 1) (da_cons (de_var 4) (da_cons (de_call (ok_law_draw T) (hr.mono (by decide)) T.g_law_draw T.F_law_draw.kp T.b_law_draw fn_tk (da_cons (de_var 0) (da_cons (de_op do_add (de_var 2) de_int) da_nil))) (da_cons (de_var 3) da_nil)))))))
  (db_one (ds_ret (de_tup (da_cons (de_var 4) (da_cons (de_var 5) da_nil)))))))
theorem ok_law_some_walk (T : Tx K mg A) : FnOk P w K mg base (L2.CX P w) 6 A.a_law_some_walk A.d_law_some_walk ["_law_flow_here", "_law_most_now"] (spF (Gx K A) 2 m_law_some_walk) := by
  refine fn_ok false T.F_law_some_walk sc_law_some_walk (fun cdv A1 outer s1 H1 E1 hr => ?_)
  exact (db_cons (ds_set (i := 2) sc_law_some_walk.nd (de_call (ok_law_small_web T) (hr.mono (by decide)) T.g_law_small_web T.F_law_small_web.kp T.b_law_small_web fn_tk (da_cons (de_var 0) da_nil)))
  (db_cons (ds_asg (de_call (ok_law_walk_of T) (hr.mono (by decide)) T.g_law_walk_of T.F_law_walk_of.kp T.b_law_walk_of fn_tk (da_cons (de_var 0) (da_cons (de_var 2) (da_cons (de_var 1) (da_cons (de_call (ok_law_pick T) (hr.mono (by decide)) T.g_law_pick T.F_law_pick.kp T.b_law_pick fn_tk (da_cons (de_var 0) (da_cons (de_lst (da_cons de_int (da_cons de_int (da_cons de_int da_nil)))) da_nil))) da_nil))))) (dg_tup (dgs_cons (dg_name sc_law_some_walk.nd rfl (by first | exact Or.inl rfl | exact Or.inr rfl)) (dgs_cons (dg_name sc_law_some_walk.nd rfl (by first | exact Or.inl rfl | exact Or.inr rfl)) dgs_nil))))
  (db_one (ds_ret (de_tup (da_cons (de_var 2) (da_cons (de_var 3) (da_cons (de_var 4) da_nil))))))))
theorem ok_law_yards_on (T : Tx K mg A) : FnOk P w K mg base (L2.CX P w) 3 A.a_law_yards_on A.d_law_yards_on ["_law_m", "_law_start", "_law_row"] (spF (Gx K A) 3 m_law_yards_on) := by
  refine fn_ok false T.F_law_yards_on sc_law_yards_on (fun cdv A1 outer s1 H1 E1 hr => ?_)
  exact (db_cons (ds_set (i := 3) sc_law_yards_on.nd (de_lstR (da_cons (de_var 1) da_nil)))
  (db_cons (ds_for fn_po (di_seq (de_ev 1 (de_var 2))) (dg_name sc_law_yards_on.nd rfl (by first | exact Or.inl rfl | exact Or.inr rfl)) (db_one (ds_expr (de_append (de_var 3) (de_ix (de_call (ok_law_ends T) (hr.mono (by decide)) T.g_law_ends T.F_law_ends.kp T.b_law_ends fn_tk (da_cons (de_var 0) (da_cons (de_var 4) da_nil))) de_int)))))
  (db_one (ds_ret (de_var 3)))))
theorem ok_law_sums (T : Tx K mg A) : FnOk P w K mg base (L2.CX P w) 4 A.a_law_sums A.d_law_sums ["_law_m", "_law_start", "_law_row"] (spF (Gx K A) 3 m_law_sums) := by
  refine fn_ok false T.F_law_sums sc_law_sums (fun cdv A1 outer s1 H1 E1 hr => ?_)
  exact (db_cons (ds_set (i := 3) sc_law_sums.nd (de_op do_mulR (de_lst (da_cons de_int da_nil)) (de_callB (dc_len) rfl T.z_len boot_len (da_cons (de_getS hr.units (de_var 0) (fun _ _ => rfl)) da_nil))))
  (db_cons (ds_set (i := 4) sc_law_sums.nd (de_call (ok_law_yards_on T) (hr.mono (by decide)) T.g_law_yards_on T.F_law_yards_on.kp T.b_law_yards_on fn_tk (da_cons (de_var 0) (da_cons (de_var 1) (da_cons (de_var 2) da_nil)))))
  (db_cons (ds_for fn_po (di_range1 T.z_range (da_cons (de_callB (dc_len) rfl T.z_len boot_len (da_cons (de_var 4) da_nil)) da_nil)) (dg_name sc_law_sums.nd rfl (by first | exact Or.inl rfl | exact Or.inr rfl)) (db_cons (ds_set (i := 6) sc_law_sums.nd (de_index (units65 hr) (de_getS hr.units (de_var 0) (fun _ _ => rfl)) (da_cons (de_ix (de_var 4) (de_var 5)) da_nil)))
  (db_one (ds_asg (de_op do_add (de_ix (de_var 3) (de_var 6)) (de_ix (de_var 2) (de_op do_mul de_int (de_var 5)))) (dg_sub (de_var 3) (de_var 6))))))
  (db_cons (ds_set (i := 7) sc_law_sums.nd (de_lstR da_nil))
  (db_cons (ds_for fn_po (di_seq (de_getS hr.units (de_var 0) (fun _ _ => rfl))) (dg_name sc_law_sums.nd rfl (by first | exact Or.inl rfl | exact Or.inr rfl)) (db_one (ds_expr (de_append (de_var 7) (de_op do_sub (de_count (units65 hr) (de_var 2) (da_cons (de_tup (da_cons (de_ix (de_var 8) de_int) (da_cons de_int da_nil))) da_nil)) (de_count (units65 hr) (de_var 2) (da_cons (de_tup (da_cons (de_ix (de_var 8) de_int) (da_cons (de_neg de_int) da_nil))) da_nil)))))))
  (db_one (ds_ret (de_tup (da_cons (de_var 3) (da_cons (de_var 7) da_nil))))))))))
theorem ok_Web_dinit (T : Tx K mg A) : FnOk P w K mg base (L2.CX P w) 1 A.a_Web_dinit A.d_Web_dinit ["self"] (spF (Gx K A) 1 m_Web_dinit) := by
  refine fn_ok false T.F_Web_dinit sc_Web_dinit (fun cdv A1 outer s1 H1 E1 hr => ?_)
  exact (db_cons (ds_fld ["Web"] T.isi (de_var 0) (de_tup da_nil) T.no_places)
  (db_one (ds_fld ["Web"] T.isi (de_var 0) (de_tup da_nil) T.no_roads)))
theorem ok_is_name (T : Tx K mg A) : FnOk P w K mg base (L2.CX P w) 1 A.a_is_name A.d_is_name ["text"] (spF (Gx K A) 1 m_is_name) := by
  refine fn_ok false T.F_is_name sc_is_name (fun cdv A1 outer s1 H1 E1 hr => ?_)
  exact (db_one (ds_ret (de_and (de_chain do_le do_le de_int (de_callB (dc_len) rfl T.z_len boot_len (da_cons (de_var 0) da_nil)) (de_gintE rfl T.c_LONGEST_NAME)) (de_one (de_callB (dc_all) rfl T.z_all boot_all (da_cons (de_lc [("sign", 1)] sc_is_name.nd (di_str (de_var 0)) (blkOk_by (own := [("sign", 1)]) (N := ["text", "sign"]) (sc := defScope s_is_name) (by decide +kernel)) (fun _ _ _ _ _ => (dgw_name sc_is_name.nd rfl (by first | exact Or.inl rfl | exact Or.inr rfl))) (fun _ _ _ _ _ => dts_nil) (fun _ _ _ _ _ => (de_cmp do_in (de_var 1) (de_gstrE rfl T.c_LETTERS)))) da_nil))))))
theorem ok_Web_need_new (T : Tx K mg A) : FnOk P w K mg base (L2.CX P w) 2 A.a_Web_need_new A.d_Web_need_new ["self", "name"] (spF (Gx K A) 2 m_Web_need_new) := by
  refine fn_ok false T.F_Web_need_new sc_Web_need_new (fun cdv A1 outer s1 H1 E1 hr => ?_)
  exact (db_cons (ds_if (dt_not (dt_truth (de_call (ok_is_name T) (hr.mono (by decide)) T.g_is_name T.F_is_name.kp T.b_is_name fn_tk (da_cons (de_var 1) da_nil)))) (db_one ds_stop) db_nil)
  (db_one (ds_if (dt_w (dw_or (dt_cmp do_in (de_var 1) (de_fld ["Web"] T.isi (de_var 0) T.no_places)) (dw_or1 (dt_cmp do_in (de_var 1) (de_lc [("road", 2)] sc_Web_need_new.nd (di_seq (de_fld ["Web"] T.isi (de_var 0) T.no_roads)) (blkOk_by (own := [("road", 2)]) (N := ["self", "name", "road"]) (sc := defScope s_Web_need_new) (by decide +kernel)) (fun _ _ _ _ _ => (dgw_name sc_Web_need_new.nd rfl (by first | exact Or.inl rfl | exact Or.inr rfl))) (fun _ _ _ _ _ => dts_nil) (fun _ _ _ _ _ => (de_ix (de_var 2) de_int))))))) (db_one ds_stop) db_nil)))
theorem ok_Web_turned (T : Tx K mg A) : FnOk P w K mg base (L2.CX P w) 3 A.a_Web_turned A.d_Web_turned ["self", "places", "roads"] (spF (Gx K A) 3 m_Web_turned) := by
  refine fn_ok false T.F_Web_turned sc_Web_turned (fun cdv A1 outer s1 H1 E1 hr => ?_)
  exact (db_cons (ds_set (i := 3) sc_Web_turned.nd (de_make0 (c := "Web") rfl T.mk_Web (ok_Web_dinit T) (hr.mono (by decide)) T.b_Web_dinit fn_tk T.g_Web))
  (db_cons (ds_asg (de_tup (da_cons (de_callTy (dc_tuple) rfl T.z_tuple boot_tuple (da_cons (de_var 1) da_nil)) (da_cons (de_callTy (dc_tuple) rfl T.z_tuple boot_tuple (da_cons (de_var 2) da_nil)) da_nil))) (dg_tup (dgs_cons (dg_fld ["Web"] T.isi (de_var 3) T.no_places) (dgs_cons (dg_fld ["Web"] T.isi (de_var 3) T.no_roads) dgs_nil))))
  (db_one (ds_ret (de_var 3)))))
theorem ok_is_whole (T : Tx K mg A) : FnOk P w K mg base (L2.CX P w) 1 A.a_is_whole A.d_is_whole ["thing", "low", "high"] (spF (Gx K A) 3 m_is_whole) := by
  refine fn_ok false T.F_is_whole sc_is_whole (fun cdv A1 outer s1 H1 E1 hr => ?_)
  exact (db_one (ds_ret (de_and (de_callB (dc_isi T.isi) rfl T.z_isinstance boot_isinstance (da_cons (de_var 0) (da_cons (de_ty rfl T.z_int boot_int) da_nil))) (de_and (de_not (de_callB (dc_isi T.isi) rfl T.z_isinstance boot_isinstance (da_cons (de_var 0) (da_cons (de_ty rfl T.z_bool boot_bool) da_nil)))) (de_one (de_chain do_le do_le (de_var 1) (de_var 0) (de_var 2)))))))
theorem ok_need_turns (T : Tx K mg A) : FnOk P w K mg base (L2.CX P w) 2 A.a_need_turns A.d_need_turns ["number"] (spF (Gx K A) 1 m_need_turns) := by
  refine fn_ok false T.F_need_turns sc_need_turns (fun cdv A1 outer s1 H1 E1 hr => ?_)
  exact (db_one (ds_if (dt_w (dw_or (dt_cmp (do_eq hr.units) (de_var 0) de_int) (dw_or1 (dt_not (dt_truth (de_call (ok_is_whole T) (hr.mono (by decide)) T.g_is_whole T.F_is_whole.kp T.b_is_whole fn_tk (da_cons (de_var 0) (da_cons (de_op do_sub de_int (de_gintE rfl T.c_MOST_TURNS)) (da_cons (de_gintE rfl T.c_MOST_TURNS) da_nil))))))))) (db_one ds_stop) db_nil))
theorem ok_Web_with_passage (T : Tx K mg A) : FnOk P w K mg base (L2.CX P w) 4 A.a_Web_with_passage A.d_Web_with_passage ["self", "name", "begin", "end", "here", "there"] (spF (Gx K A) 6 m_Web_with_passage) := by
  refine fn_ok false T.F_Web_with_passage sc_Web_with_passage (fun cdv A1 outer s1 H1 E1 hr => ?_)
  exact (db_cons (ds_expr (de_meth (c := "Web") T.isi rfl (de_var 0) (da_cons (de_var 1) da_nil) T.me_Web_need_new (ok_Web_need_new T) (hr.mono (by decide)) T.b_Web_need_new fn_tk))
  (db_cons (ds_for fn_po (di_seq (de_tup (da_cons (de_var 2) (da_cons (de_var 3) da_nil)))) (dg_name sc_Web_with_passage.nd rfl (by first | exact Or.inl rfl | exact Or.inr rfl)) (db_one (ds_expr (de_meth (c := "Web") T.isi rfl (de_var 0) (da_cons (de_var 6) da_nil) T.me_Web_need_yard (ok_Web_need_yard T) (hr.mono (by decide)) T.b_Web_need_yard fn_tk))))
  (db_cons (ds_for fn_po (di_seq (de_tup (da_cons (de_var 4) (da_cons (de_var 5) da_nil)))) (dg_name sc_Web_with_passage.nd rfl (by first | exact Or.inl rfl | exact Or.inr rfl)) (db_one (ds_expr (de_call (ok_need_turns T) (hr.mono (by decide)) T.g_need_turns T.F_need_turns.kp T.b_need_turns fn_tk (da_cons (de_var 7) da_nil)))))
  (db_cons (ds_if (dt_cmp do_ge (de_callB (dc_len) rfl T.z_len boot_len (da_cons (de_fld ["Web"] T.isi (de_var 0) T.no_roads) da_nil)) (de_gintE rfl T.c_MOST_PASSAGES)) (db_one ds_stop) db_nil)
  (db_one (ds_ret (de_meth (c := "Web") T.isi rfl (de_var 0) (da_cons (de_fld ["Web"] T.isi (de_var 0) T.no_places) (da_cons (de_op do_add (de_fld ["Web"] T.isi (de_var 0) T.no_roads) (de_tup (da_cons (de_tup (da_cons (de_var 1) (da_cons (de_var 2) (da_cons (de_var 3) (da_cons (de_var 4) (da_cons (de_var 5) da_nil)))))) da_nil))) da_nil)) T.me_Web_turned (ok_Web_turned T) (hr.mono (by decide)) T.b_Web_turned fn_tk)))))))
theorem ok_Web_with_yard (T : Tx K mg A) : FnOk P w K mg base (L2.CX P w) 4 A.a_Web_with_yard A.d_Web_with_yard ["self", "name"] (spF (Gx K A) 2 m_Web_with_yard) := by
  refine fn_ok false T.F_Web_with_yard sc_Web_with_yard (fun cdv A1 outer s1 H1 E1 hr => ?_)
  exact (db_cons (ds_expr (de_meth (c := "Web") T.isi rfl (de_var 0) (da_cons (de_var 1) da_nil) T.me_Web_need_new (ok_Web_need_new T) (hr.mono (by decide)) T.b_Web_need_new fn_tk))
  (db_cons (ds_if (dt_cmp do_ge (de_callB (dc_len) rfl T.z_len boot_len (da_cons (de_fld ["Web"] T.isi (de_var 0) T.no_places) da_nil)) (de_gintE rfl T.c_MOST_YARDS)) (db_one ds_stop) db_nil)
  (db_one (ds_ret (de_meth (c := "Web") T.isi rfl (de_var 0) (da_cons (de_op do_add (de_fld ["Web"] T.isi (de_var 0) T.no_places) (de_tup (da_cons (de_var 1) da_nil))) (da_cons (de_fld ["Web"] T.isi (de_var 0) T.no_roads) da_nil)) T.me_Web_turned (ok_Web_turned T) (hr.mono (by decide)) T.b_Web_turned fn_tk)))))
theorem ok_law_web (T : Tx K mg A) : FnOk P w K mg base (L2.CX P w) 5 A.a_law_web A.d_law_web ["_law_m"] (spF (Gx K A) 1 m_law_web) := by
  refine fn_ok false T.F_law_web sc_law_web (fun cdv A1 outer s1 H1 E1 hr => ?_)
  exact (db_cons (ds_set (i := 1) sc_law_web.nd (de_fz (de_make0 (c := "Web") rfl T.mk_Web (ok_Web_dinit T) (hr.mono (by decide)) T.b_Web_dinit fn_tk T.g_Web)))
  (db_cons (ds_for fn_po (di_seq (de_getS hr.units (de_var 0) (fun _ _ => rfl))) (dg_name sc_law_web.nd rfl (by first | exact Or.inl rfl | exact Or.inr rfl)) (db_one (ds_set (i := 1) sc_law_web.nd (de_meth (c := "Web") T.isi rfl (de_var 1) (da_cons (de_var 2) da_nil) T.me_Web_with_yard (ok_Web_with_yard T) (hr.mono (by decide)) T.b_Web_with_yard fn_tk))))
  (db_cons (ds_for fn_po (di_seq (de_getS hr.units (de_var 0) (fun _ _ => rfl))) (dg_tup (dgs_cons (dg_name sc_law_web.nd rfl (by first | exact Or.inl rfl | exact Or.inr rfl)) (dgs_cons (dg_name sc_law_web.nd rfl (by first | exact Or.inl rfl | exact Or.inr rfl)) (dgs_cons (dg_name sc_law_web.nd rfl (by first | exact Or.inl rfl | exact Or.inr rfl)) (dgs_cons (dg_name sc_law_web.nd rfl (by first | exact Or.inl rfl | exact Or.inr rfl)) (dgs_cons (dg_name sc_law_web.nd rfl (by first | exact Or.inl rfl | exact Or.inr rfl)) dgs_nil)))))) (db_one (ds_set (i := 1) sc_law_web.nd (de_methK (is := [1, 0]) (c := "Web") T.isi rfl (de_var 1) (da_cons (de_var 3) (da_cons (de_var 4) (da_cons (de_var 5) da_nil))) (dk_cons (de_var 7) (dk_cons (de_var 6) dk_nil)) T.me_Web_with_passage (ok_Web_with_passage T) (hr.mono (by decide)) T.kb0_Web_with_passage fn_tk))))
  (db_one (ds_ret (de_var 1))))))
theorem ok_Walk_steps (T : Tx K mg A) : FnOk P w K mg base (L2.CX P w) 1 A.a_Walk_steps A.d_Walk_steps ["self"] (spF (Gx K A) 1 m_Walk_steps) := by
  refine fn_ok false T.F_Walk_steps sc_Walk_steps (fun cdv A1 outer s1 H1 E1 hr => ?_)
  exact (db_one (ds_ret (de_callTy (dc_list) rfl T.z_list boot_list (da_cons (de_ev 1 (de_fld ["Walk"] T.isi (de_var 0) T.no_line)) da_nil))))
theorem ok_Walk_web (T : Tx K mg A) : FnOk P w K mg base (L2.CX P w) 1 A.a_Walk_web A.d_Walk_web ["self"] (spF (Gx K A) 1 m_Walk_web) := by
  refine fn_ok false T.F_Walk_web sc_Walk_web (fun cdv A1 outer s1 H1 E1 hr => ?_)
  exact (db_one (ds_ret (de_fld ["Walk"] T.isi (de_var 0) T.no_over)))
theorem ok_Walk_yards (T : Tx K mg A) : FnOk P w K mg base (L2.CX P w) 1 A.a_Walk_yards A.d_Walk_yards ["self"] (spF (Gx K A) 1 m_Walk_yards) := by
  refine fn_ok false T.F_Walk_yards sc_Walk_yards (fun cdv A1 outer s1 H1 E1 hr => ?_)
  exact (db_one (ds_ret (de_callTy (dc_list) rfl T.z_list boot_list (da_cons (de_fld ["Walk"] T.isi (de_var 0) T.no_spots) da_nil))))
theorem ok_Web_passages (T : Tx K mg A) : FnOk P w K mg base (L2.CX P w) 1 A.a_Web_passages A.d_Web_passages ["self"] (spF (Gx K A) 1 m_Web_passages) := by
  refine fn_ok false T.F_Web_passages sc_Web_passages (fun cdv A1 outer s1 H1 E1 hr => ?_)
  exact (db_one (ds_ret (de_callTy (dc_list) rfl T.z_list boot_list (da_cons (de_fld ["Web"] T.isi (de_var 0) T.no_roads) da_nil))))
theorem ok_Web_yards (T : Tx K mg A) : FnOk P w K mg base (L2.CX P w) 1 A.a_Web_yards A.d_Web_yards ["self"] (spF (Gx K A) 1 m_Web_yards) := by
  refine fn_ok false T.F_Web_yards sc_Web_yards (fun cdv A1 outer s1 H1 E1 hr => ?_)
  exact (db_one (ds_ret (de_callTy (dc_list) rfl T.z_list boot_list (da_cons (de_fld ["Web"] T.isi (de_var 0) T.no_places) da_nil))))
theorem ok_sums (T : Tx K mg A) : FnOk P w K mg base (L2.CX P w) 2 A.a_sums A.d_sums ["walk"] (spF (Gx K A) 1 m_sums) := by
  refine fn_ok false T.F_sums sc_sums (fun cdv A1 outer s1 H1 E1 hr => ?_)
  exact (db_cons (ds_set (i := 1) sc_sums.nd (de_meth0 (c := "Walk") T.isi rfl (de_var 0) T.me_Walk_web (ok_Walk_web T) (hr.mono (by decide)) T.b_Walk_web fn_tk))
  (db_cons (ds_setDcR [("yard", 3)] (i := 2) sc_sums.nd (di_seq (de_meth0 (c := "Web") T.isi rfl (de_var 1) T.me_Web_yards (ok_Web_yards T) (hr.mono (by decide)) T.b_Web_yards fn_tk)) (blkOk_by (own := [("yard", 3)]) (N := ["walk", "web", "turns", "yard", "many", "gone", "road", "name", "way"]) (sc := defScope s_sums) (by decide +kernel)) (fun _ _ _ _ _ => (dgw_name sc_sums.nd rfl (by first | exact Or.inl rfl | exact Or.inr rfl))) (fun _ _ _ _ _ => dts_nil) (fun _ _ _ _ _ => (de_var 3)) (fun _ _ _ _ _ => de_int))
  (db_cons (ds_for fn_po (di_zs T.z_zip (da_cons (de_ev0 (de_meth0 (c := "Walk") T.isi rfl (de_var 0) T.me_Walk_row (ok_Walk_row T) (hr.mono (by decide)) T.b_Walk_row fn_tk)) (da_cons (de_meth0 (c := "Walk") T.isi rfl (de_var 0) T.me_Walk_yards (ok_Walk_yards T) (hr.mono (by decide)) T.b_Walk_yards fn_tk) da_nil))) (dg_tup (dgs_cons (dg_name sc_sums.nd rfl (by first | exact Or.inl rfl | exact Or.inr rfl)) (dgs_cons (dg_name sc_sums.nd rfl (by first | exact Or.inl rfl | exact Or.inr rfl)) dgs_nil))) (db_one (ds_augD (units65 hr) (de_var 2) (de_var 3) (de_var 4))))
  (db_cons (ds_setDcR [("road", 6)] (i := 5) sc_sums.nd (di_seq (de_meth0 (c := "Web") T.isi rfl (de_var 1) T.me_Web_passages (ok_Web_passages T) (hr.mono (by decide)) T.b_Web_passages fn_tk)) (blkOk_by (own := [("road", 6)]) (N := ["walk", "web", "turns", "yard", "many", "gone", "road", "name", "way"]) (sc := defScope s_sums) (by decide +kernel)) (fun _ _ _ _ _ => (dgw_name sc_sums.nd rfl (by first | exact Or.inl rfl | exact Or.inr rfl))) (fun _ _ _ _ _ => dts_nil) (fun _ _ _ _ _ => (de_ix (de_var 6) de_int)) (fun _ _ _ _ _ => de_int))
  (db_cons (ds_for fn_po (di_seq (de_meth0 (c := "Walk") T.isi rfl (de_var 0) T.me_Walk_steps (ok_Walk_steps T) (hr.mono (by decide)) T.b_Walk_steps fn_tk)) (dg_tup (dgs_cons (dg_name sc_sums.nd rfl (by first | exact Or.inl rfl | exact Or.inr rfl)) (dgs_cons (dg_name sc_sums.nd rfl (by first | exact Or.inl rfl | exact Or.inr rfl)) dgs_nil))) (db_one (ds_augD (units65 hr) (de_var 5) (de_var 7) (de_var 8))))
  (db_one (ds_ret (de_tup (da_cons (de_lvals (de_var 2) rfl T.z_list) (da_cons (de_lvals (de_var 5) rfl T.z_list) da_nil))))))))))
theorem ok_sums_o (T : Tx K mg A) : FnOk P w K mg base (L2.CX P w) 2 A.a_sums A.d_sums ["walk"] (spF (Gx K A) 1 m_sums_o) := by
  refine fn_ok true T.F_sums sc_sums (fun cdv A1 outer s1 H1 E1 hr => ?_)
  exact (db_cons (ds_set (i := 1) sc_sums.nd (de_meth0 (c := "Walk") T.isi rfl (de_var 0) T.me_Walk_web (ok_Walk_web T) (hr.mono (by decide)) T.b_Walk_web fn_tk))
  (db_cons (ds_setDcR [("yard", 3)] (i := 2) sc_sums.nd (di_seq (de_meth0 (c := "Web") T.isi rfl (de_var 1) T.me_Web_yards (ok_Web_yards T) (hr.mono (by decide)) T.b_Web_yards fn_tk)) (blkOk_by (own := [("yard", 3)]) (N := ["walk", "web", "turns", "yard", "many", "gone", "road", "name", "way"]) (sc := defScope s_sums) (by decide +kernel)) (fun _ _ _ _ _ => (dgw_name sc_sums.nd rfl (by first | exact Or.inl rfl | exact Or.inr rfl))) (fun _ _ _ _ _ => dts_nil) (fun _ _ _ _ _ => (de_var 3)) (fun _ _ _ _ _ => de_int))
  (db_cons (ds_for fn_po (di_zs T.z_zip (da_cons (de_ev0 (de_meth0 (c := "Walk") T.isi rfl (de_var 0) T.me_Walk_row (ok_Walk_row T) (hr.mono (by decide)) T.b_Walk_row fn_tk)) (da_cons (de_meth0 (c := "Walk") T.isi rfl (de_var 0) T.me_Walk_yards (ok_Walk_yards T) (hr.mono (by decide)) T.b_Walk_yards fn_tk) da_nil))) (dg_tup (dgs_cons (dg_name sc_sums.nd rfl (by first | exact Or.inl rfl | exact Or.inr rfl)) (dgs_cons (dg_name sc_sums.nd rfl (by first | exact Or.inl rfl | exact Or.inr rfl)) dgs_nil))) (db_one (ds_augD (units65 hr) (de_var 2) (de_var 3) (de_var 4))))
  (db_cons (ds_setDcR [("road", 6)] (i := 5) sc_sums.nd (di_seq (de_meth0 (c := "Web") T.isi rfl (de_var 1) T.me_Web_passages (ok_Web_passages T) (hr.mono (by decide)) T.b_Web_passages fn_tk)) (blkOk_by (own := [("road", 6)]) (N := ["walk", "web", "turns", "yard", "many", "gone", "road", "name", "way"]) (sc := defScope s_sums) (by decide +kernel)) (fun _ _ _ _ _ => (dgw_name sc_sums.nd rfl (by first | exact Or.inl rfl | exact Or.inr rfl))) (fun _ _ _ _ _ => dts_nil) (fun _ _ _ _ _ => (de_ix (de_var 6) de_int)) (fun _ _ _ _ _ => de_int))
  (db_cons (ds_for fn_po (di_seq (de_meth0 (c := "Walk") T.isi rfl (de_var 0) T.me_Walk_steps (ok_Walk_steps T) (hr.mono (by decide)) T.b_Walk_steps fn_tk)) (dg_tup (dgs_cons (dg_name sc_sums.nd rfl (by first | exact Or.inl rfl | exact Or.inr rfl)) (dgs_cons (dg_name sc_sums.nd rfl (by first | exact Or.inl rfl | exact Or.inr rfl)) dgs_nil))) (db_one (ds_augD (units65 hr) (de_var 5) (de_var 7) (de_var 8))))
  (db_one (ds_ret (de_tup (da_cons (de_lvals (de_var 2) rfl T.z_list) (da_cons (de_lvals (de_var 5) rfl T.z_list) da_nil))))))))))
theorem ok_law (T : Tx K mg A) : FnOk P w K mg base (L2.CX P w) 22 A.a_law A.d_law ["_law_script"] (spF (Gx K A) 1 m_law) := by
  refine fn_ok true T.F_law sc_law (fun cdv A1 outer s1 H1 E1 hr => ?_)
  exact (db_cons (ds_set (i := 1) sc_law.nd (de_call (ok_law_flow T) (hr.mono (by decide)) T.g_law_flow T.F_law_flow.kp T.b_law_flow fn_tk (da_cons (de_var 0) da_nil)))
  (db_cons (ds_for fn_po (di_range1 T.z_range (da_cons de_int da_nil)) (dg_name sc_law.nd rfl (by first | exact Or.inl rfl | exact Or.inr rfl)) (db_cons (ds_asg (de_call (ok_law_some_walk T) (hr.mono (by decide)) T.g_law_some_walk T.F_law_some_walk.kp T.b_law_some_walk fn_tk (da_cons (de_var 1) (da_cons de_int da_nil))) (dg_tup (dgs_cons (dg_name sc_law.nd rfl (by first | exact Or.inl rfl | exact Or.inr rfl)) (dgs_cons (dg_name sc_law.nd rfl (by first | exact Or.inl rfl | exact Or.inr rfl)) (dgs_cons (dg_name sc_law.nd rfl (by first | exact Or.inl rfl | exact Or.inr rfl)) dgs_nil)))))
  (db_cons (ds_set (i := 6) sc_law.nd (de_fz (de_make (c := "Walk") rfl (da_cons (de_call (ok_law_web T) (hr.mono (by decide)) T.g_law_web T.F_law_web.kp T.b_law_web fn_tk (da_cons (de_var 3) da_nil)) (da_cons (de_var 4) (da_cons (de_var 5) da_nil))) T.mk_Walk (ok_Walk_dinit T) (hr.mono (by decide)) T.b_Walk_dinit fn_tk T.g_Walk)))
  (db_cons (ds_set (i := 7) sc_law.nd (de_call (ok_law_sums T) (hr.mono (by decide)) T.g_law_sums T.F_law_sums.kp T.b_law_sums fn_tk (da_cons (de_var 3) (da_cons (de_var 4) (da_cons (de_var 5) da_nil)))))
  (db_cons (ds_set (i := 8) sc_law.nd (de_call (ok_sums_o T) (hr.mono (by decide)) T.g_sums T.F_sums.kp T.b_sums fn_tk (da_cons (de_var 6) da_nil)))
  (db_cons (ds_if (dt_not (dt_truth (de_call (ok_law_same T 20) (hr.mono (by decide)) T.g_law_same T.F_law_same.kp T.b_law_same fn_tk (da_cons (de_var 8) (da_cons (de_var 7) da_nil))))) (db_one (ds_ret de_bl)) db_nil)
  (db_cons (ds_expr (de_clear (de_ix (de_var 8) de_int)))
  (db_cons (ds_expr (de_append (de_ix (de_var 8) de_int) de_int))
  (db_one (ds_if (dt_w (dw_or (dt_not (dt_truth (de_call (ok_law_same T 20) (hr.mono (by decide)) T.g_law_same T.F_law_same.kp T.b_law_same fn_tk (da_cons (de_call (ok_sums T) (hr.mono (by decide)) T.g_sums T.F_sums.kp T.b_sums fn_tk (da_cons (de_var 6) da_nil)) (da_cons (de_var 7) da_nil))))) (dw_or1 (dt_not (dt_truth (de_call (ok_law_same T 20) (hr.mono (by decide)) T.g_law_same T.F_law_same.kp T.b_law_same fn_tk (da_cons (de_ix (de_call (ok_sums T) (hr.mono (by decide)) T.g_sums T.F_sums.kp T.b_sums fn_tk (da_cons (de_meth0 (c := "Walk") T.isi rfl (de_var 6) T.me_Walk_back (ok_Walk_back T) (hr.mono (by decide)) T.b_Walk_back fn_tk) da_nil)) de_int) (da_cons (de_lc [("_law_many", 9)] sc_law.nd (di_seq (de_ix (de_var 7) de_int)) (blkOk_by (own := [("_law_many", 9)]) (N := ["_law_script", "_law_flow_here", "_law_turn", "_law_m", "_law_start", "_law_row", "_law_walk", "_law_due", "_law_found", "_law_many"]) (sc := defScope s_law) (by decide +kernel)) (fun _ _ _ _ _ => (dgw_name sc_law.nd rfl (by first | exact Or.inl rfl | exact Or.inr rfl))) (fun _ _ _ _ _ => dts_nil) (fun _ _ _ _ _ => (de_op do_sub de_int (de_var 9)))) da_nil)))))))) (db_one (ds_ret de_bl)) db_nil))))))))))
  (db_one (ds_ret de_bl))))
end
end Lw
set_option Elab.async false
set_option linter.all false
set_option maxRecDepth 100000
set_option maxHeartbeats 4000000
set_option autoImplicit false
namespace Lw
open PySem Dv
/-! steps of our own words -/
local macro_rules | `(tactic| walk_at "num") => `(tactic| first | assumption | decide | omega)
local macro_rules | `(tactic| walk_at "dv0") => `(tactic| with_reducible first
  | refine v_seq ?_ | refine v_ifS ?_ | refine v_set ?_ | refine v_ret ?_ | refine v_asg ?_ | refine v_par ?_ | refine v_drop ?_ | refine v_nx ?_ | refine v_bk ?_ | refine v_ct ?_ | refine v_retN ?_ | refine v_for ?_
  | refine v_c ?_ | refine v_nil ?_ | refine v_cons ?_ | refine v_op ?_ | refine v_B ?_ | refine v_truth ?_ | refine v_andT ?_ | refine v_orT ?_ | refine v_notT ?_
  | refine v_andV ?_ | refine v_orV ?_ | refine v_notV ?_ | refine v_if ?_ | refine v_neg ?_ | refine v_chain ?_ | refine v_tup ?_ | refine v_lst ?_ | refine v_lstR ?_ | refine v_noPart ?_ | refine v_part ?_ | refine v_sl ?_
  | refine v_CB ?_ | refine v_call ?_ | refine v_abs ?_ | refine v_lc ?_ | refine v_yes ?_ | refine v_it ?_ | refine v_rng1 ?_ | refine v_rng2 ?_ | refine v_rng3 ?_ | refine v_T ?_ | refine v_F ?_
  | refine v_add ?_ | refine v_sub ?_ | refine v_iadd ?_ | refine v_lt ?_ | refine v_le ?_ | refine v_gt ?_ | refine v_ge ?_ | refine v_eqI ?_ | refine v_neI ?_ | refine v_eqB ?_ | refine v_neB ?_)
local macro_rules | `(tactic| walk_at "dv1") => `(tactic| first
  | (with_reducible refine' v_var ?h ?_); (case h => rfl)
  | (with_reducible refine' v_aug ?h ?_); (case h => rfl)
  | (with_reducible refine' v_div ?h1 ?h2 ?_); (case h1 => walk_at "num"); (case h2 => walk_at "num")
  | (with_reducible refine' v_mod ?h1 ?_); (case h1 => walk_at "num")
  | (with_reducible refine' v_pow ?h1 ?_); (case h1 => walk_at "num")
  | (with_reducible refine' v_mulR ?h1 ?_); (case h1 => walk_at "num")
  | (with_reducible refine' v_mulL ?h1 ?_); (case h1 => walk_at "num")
  | (with_reducible refine' v_fin ?h1 ?_); (case h1 => first | exact Or.inl rfl | exact Or.inr rfl | (refine Or.inr ?_; simp only [List.length_set, *]; done))
  | (with_reducible refine' v_ix ?h1 ?_); (case h1 => first | exact ixD_ref (by assumption) (by rfl) | rfl)
  | (with_reducible refine' v_len ?h1 ?_); (case h1 => first | exact lenD_ref (by assumption) | rfl)
  | (with_reducible refine' v_list ?h1 ?_); (case h1 => rfl)
  | (with_reducible refine' v_listR ?h1 ?_); (case h1 => rfl)
  | (with_reducible refine' v_tuple ?h1 ?_); (case h1 => rfl)
  | (with_reducible refine' v_isd ?h1 ?_); (case h1 => rfl)
  | (with_reducible refine' v_isiTy ?h1 ?h2 ?_); (case h1 => rfl); (case h2 => rfl)
  | (with_reducible refine' v_isiT ?h1 ?_); (case h1 => rfl))
local macro_rules | `(tactic| walk_at "dv2") => `(tactic| first
  | refine v_gsub (by rfl) (by rfl) (by assumption) (by rfl) (fun _ _ _ => ?_) | refine ⟨_, rfl, ?_⟩ | (with_reducible refine' ⟨rng_ok ?h1 ?h2, ?_⟩); (case h1 => omega); (case h2 => omega) | refine ⟨rfl, ?_⟩ | refine ⟨_, _, rfl, ?_⟩ | refine ⟨Nat.le_of_ble_eq_true rfl, ?_⟩)
local macro_rules | `(tactic| walk_at "dv3") => `(tactic| first
  | (with_reducible refine' v_dec (fun _ => ?_) (fun hn => absurd ?h hn)); (case h => first | assumption | omega | decide)
  | (with_reducible refine' v_dec (fun hn => absurd hn ?h) (fun _ => ?_)); (case h => first | assumption | omega | decide)
  | (with_reducible refine' v_ndec (fun _ => ?_) (fun hn => absurd hn ?h)); (case h => first | assumption | omega | decide)
  | (with_reducible refine' v_ndec (fun hn => absurd ?h hn) (fun _ => ?_)); (case h => first | assumption | omega | decide)
  | (with_reducible refine' v_bT ?h ?_); (case h => first | assumption | rfl)
  | (with_reducible refine' v_bF ?h ?_); (case h => first | assumption | rfl))
local macro_rules | `(tactic| walk_at "dv4") => `(tactic| with_reducible first
  | refine v_places ?_ | refine v_roads ?_ | refine v_over ?_ | refine v_line ?_ | refine v_spots ?_ | refine v_myards ?_ | refine v_mroads ?_ | refine v_mW (by decide +kernel) ?_ | refine v_mK (by decide +kernel) ?_
  | refine v_itX ?_ | refine v_ev ?_ | refine v_rev ?_ | refine v_zs ?_ | refine v_enum ?_ | refine v_enum2 ?_ | refine v_makeV ?_ | refine v_tryN ?_ | refine v_lc2 ?_ | refine v_fz ?_ | refine v_make ?_ | refine v_fldS ?_)
local macro_rules | `(tactic| walk_at "dv5") => `(tactic| first
  | refine ⟨_, _, rfl, rfl, ?_⟩ | refine ⟨⟨_, _, rfl⟩, ?_⟩ | refine ⟨⟨_, _, _, rfl⟩, ?_⟩ | refine ⟨_, _, _, rfl, ?_⟩ | refine Or.inl ⟨_, rfl, ?_⟩ | refine Or.inr ⟨_, (fun _ z => by cases z), rfl, ?_⟩)
local macro_rules | `(tactic| walk_at "dv") => `(tactic| repeat (first | walk_at "dv0" | walk_at "dv4" | walk_at "dv1" | walk_at "dv3" | walk_at "dv2" | walk_at "dv5"))
structure Fw where
  cells : List Int
  pos : Nat
  rest : Nat
  base : Nat
abbrev Fw.ds (f : Fw) : List Dt := [.lst (f.cells.map Dt.int), .int f.pos, .int f.rest, .int f.base]
abbrev Fw.ob (f : Fw) : Ob := .lst f.ds
/-- a draw gives a number from 0 on, below the size; the flow stays a flow -/
def Drawn (S : Store) (i : Nat) (n : Int) (d : Dt) (S' : Store) : Prop := ∃ (v : Int) (f' : Fw), d = .int v ∧ 0 ≤ v ∧ v < n ∧ f'.base < 2147483647 ∧ S' = S.set i f'.ob
theorem draw_rest {S : Store} {i : Nat} {f : Fw} {n : Int} (hS : S[i]? = some f.ob) (hn : 0 < n) (hl : n.natAbs.log2 < 9000) (h : 0 < f.rest) (hb : f.base < 2147483647) :
    Pe (m_law_draw [.ref i, .int n] S) (Drawn S i n) X0 := by
  refine v_fn ?_
  unfold b_law_draw
  walk_at "dv"
  refine ⟨_, { f with rest := ((f.rest : Int).fdiv n).toNat }, rfl, Int.fmod_nonneg_of_pos _ hn, Int.fmod_lt_of_pos _ hn, hb, ?_⟩
  rename_i S1 e1 e2
  rw [e1]
  have z : ((((f.rest : Int).fdiv n).toNat : Nat) : Int) = (f.rest : Int).fdiv n := Int.toNat_of_nonneg (Int.fdiv_nonneg (by omega) (by omega))
  simp [Fw.ob, Fw.ds, z]
theorem draw_cell {S : Store} {i : Nat} {f : Fw} {n : Int} (hS : S[i]? = some f.ob) (hn : 0 < n) (hl : n.natAbs.log2 < 9000) (h : f.rest = 0) (hb : f.base < 2147483647) :
    Pe (m_law_draw [.ref i, .int n] S) (Drawn S i n) X0 := by
  -- what both ways come to
  have fin1 : ∀ (S1 S2 : Store) (x r : Int), S1 = S.set i (.lst (f.ds.set (Int.toNat 1) (.int (f.pos + 1)))) → S2 = S1.set i (.lst ((f.ds.set (Int.toNat 1) (.int (f.pos + 1))).set (Int.toNat 3) (.int (x.fmod 2147483647)))) → Drawn S i n (.int (r.fmod n)) S2 := by
    intro S1 S2 x r e1 e2
    have h0 := Int.fmod_nonneg_of_pos x (b := 2147483647) (by decide)
    have h1 := Int.fmod_lt_of_pos x (b := 2147483647) (by decide)
    refine ⟨_, { f with pos := f.pos + 1, base := (x.fmod 2147483647).toNat }, rfl, Int.fmod_nonneg_of_pos _ hn, Int.fmod_lt_of_pos _ hn, ?_, ?_⟩
    · show (x.fmod 2147483647).toNat < 2147483647
      omega
    · rw [e2, e1, List.set_set]
      simp [Fw.ob, Fw.ds, Int.toNat_of_nonneg h0]
  have fin2 : ∀ (S1 S2 : Store) (a : Int), 0 ≤ a → S1 = S.set i (.lst (f.ds.set (Int.toNat 1) (.int (f.pos + 1)))) → S2 = S1.set i (.lst ((f.ds.set (Int.toNat 1) (.int (f.pos + 1))).set (Int.toNat 2) (.int (a.fdiv n)))) → Drawn S i n (.int (a.fmod n)) S2 := by
    intro S1 S2 a h0 e1 e2
    refine ⟨_, { f with pos := f.pos + 1, rest := (a.fdiv n).toNat }, rfl, Int.fmod_nonneg_of_pos _ hn, Int.fmod_lt_of_pos _ hn, hb, ?_⟩
    have z : (((a.fdiv n).toNat : Nat) : Int) = a.fdiv n := Int.toNat_of_nonneg (Int.fdiv_nonneg h0 (by omega))
    rw [e2, e1, List.set_set]
    simp [Fw.ob, Fw.ds, z]
  refine v_fn ?_
  unfold b_law_draw
  walk_at "dv"
  refine v_dec (fun hc => ?_) (fun hc => ?_)
  · obtain ⟨c, hcell⟩ : ∃ c, (f.cells.map Dt.int)[f.pos]? = some (.int c) := ⟨f.cells[f.pos]'(by simpa using hc), by simp⟩
    walk_at "dv"
    refine v_ix (atI_in hcell) ?_
    walk_at "dv"
    refine v_dec (fun hg => ?_) (fun hg => ?_)
    · walk_at "dv"
      exact fin2 _ _ _ (by split <;> omega) (by assumption) (by assumption)
    · walk_at "dv"
      exact fin1 _ _ _ _ (by assumption) (by assumption)
  · walk_at "dv"
    exact fin1 _ _ _ _ (by assumption) (by assumption)
theorem draw_spec {S : Store} {i : Nat} {f : Fw} {n : Int} (hS : S[i]? = some f.ob) (hb : f.base < 2147483647) (hn : 0 < n) (hl : n.natAbs.log2 < 9000) : Pe (m_law_draw [.ref i, .int n] S) (Drawn S i n) X0 := by
  by_cases h : 0 < f.rest
  · exact draw_rest hS hn hl h hb
  · exact draw_cell hS hn hl (by omega) hb
/-! ### the flow in a store -/
def FlowAt (S : Store) (i : Nat) : Prop := ∃ f : Fw, S[i]? = some f.ob ∧ f.base < 2147483647
/-- a store that differs in the flow alone -/
structure Fz (i : Nat) (S S' : Store) : Prop where
  len : S'.length = S.length
  oth : ∀ j : Nat, j ≠ i → S'[j]? = S[j]?
  flow : FlowAt S' i
theorem Fz.refl {i : Nat} {S : Store} (h : FlowAt S i) : Fz i S S := ⟨rfl, fun _ _ => rfl, h⟩
theorem Fz.trans {i : Nat} {S S1 S2 : Store} (a : Fz i S S1) (b : Fz i S1 S2) : Fz i S S2 := ⟨b.len.trans a.len, fun j h => (b.oth j h).trans (a.oth j h), b.flow⟩
theorem draw_fz {S : Store} {i : Nat} {n : Int} {Q : Dt → Store → Prop} {X : Ex → Store → Prop} (hF : FlowAt S i) (hn : 0 < n) (hl : n.natAbs.log2 < 9000) (q : ∀ v S', 0 ≤ v → v < n → Fz i S S' → Q (.int v) S') : Pe (m_law_draw [.ref i, .int n] S) Q X := by
  obtain ⟨f, h1, h2⟩ := hF
  refine (draw_spec h1 h2 hn hl).imp (fun d S' ⟨v, f', e, v0, v1, b, eS⟩ => ?_) fun _ _ z => z.elim
  subst e
  have hi := (List.getElem?_eq_some_iff.mp h1).1
  subst eS
  exact q v _ v0 v1 ⟨by simp, fun j hj => List.getElem?_set_ne (Ne.symm hj), f', List.getElem?_set_self hi, b⟩
theorem pick_fz {S : Store} {i : Nat} {ds : List Dt} {Q : Dt → Store → Prop} {X : Ex → Store → Prop} (hF : FlowAt S i) (h0 : 0 < ds.length) (h1 : ds.length < 2 ^ 64) (q : ∀ d S', d ∈ ds → Fz i S S' → Q d S') : Pe (m_law_pick [.ref i, .lst ds] S) Q X := by
  refine v_fn ?_
  unfold b_law_pick
  walk_at "dv"
  refine draw_fz hF (by omega) ?_ fun v S' v0 v1 hz => ?_
  · have := Nat.log2_lt (n := ds.length) (k := 64) (by omega)
    simp only [Int.natAbs_natCast]
    omega
  · have hv : v.toNat < ds.length := by omega
    refine v_ix (d := ds[v.toNat]) ?_ ?_
    · have z : L2.atI ds ((v.toNat : Nat) : Int) = some ds[v.toNat] := atI_in (by simp [hv])
      rw [Int.toNat_of_nonneg v0] at z
      exact z
    · walk_at "dv"
      refine v_fin (.inr hz.len) ?_
      exact q _ _ (List.getElem_mem hv) hz
/-! the law -/
theorem cut_take {α : Type} (xs : List α) (k : Nat) : cutA xs none (some (k : Int)) = xs.take k := by
  unfold cutA
  rw [HT.sIx_nat, HT.sIx_none]
  simp only [List.drop_zero, Nat.sub_zero, Nat.min_def]
  split
  · rfl
  · rw [List.take_length, List.take_of_length_le (by omega)]
theorem flow_new {S : Store} {ns : List Int} {Q : Dt → Store → Prop} {X : Ex → Store → Prop} (q : ∀ S', S'.length = S.length + 1 → (∀ j : Nat, j < S.length → S'[j]? = S[j]?) → FlowAt S' S.length → Q (.ref S.length) S') : Pe (m_law_flow [.fz (ns.map Dt.int)] S) Q X := by
  refine v_fn ?_
  unfold b_law_flow
  walk_at "dv"
  refine q _ (by simp) (fun j hj => List.getElem?_append_left hj) ⟨⟨ns.take 63, 0, 0, 23⟩, ?_, show 23 < 2147483647 by decide⟩
  have e : cutA (List.map Dt.int ns) none (some 63) = (ns.take 63).map Dt.int := by
    rw [show (63 : Int) = ((63 : Nat) : Int) from rfl, cut_take, List.map_take]
  rw [List.getElem?_append_right (Nat.le_refl _), Nat.sub_self, e]
  rfl
/-! ### the same data are the same -/
theorem all_true : ∀ n : Nat, bools (List.replicate n (Dt.bl true)) = some (List.replicate n true)
  | 0 => rfl
  | n + 1 => by
    rw [List.replicate_succ, List.replicate_succ]
    show (bools (List.replicate n (Dt.bl true))).map (true :: ·) = _
    rw [all_true n]
    rfl
theorem range_mem {n : Nat} {d : Dt} (h : d ∈ rangeD 0 n) : ∃ k : Nat, k < n ∧ d = .int (0 + (k : Int)) := by
  unfold rangeD at h
  obtain ⟨k, hk, rfl⟩ := List.mem_map.mp h
  exact ⟨k, List.mem_range.mp hk, rfl⟩
theorem range_const (n : Nat) (x : Dt) : (rangeD 0 n).filterMap (fun _ => some x) = List.replicate n x := by
  unfold rangeD
  rw [List.filterMap_map]
  have e : ((fun _ => some x) ∘ fun (k : Nat) => Dt.int (0 + (k : Int))) = (fun k => some ((fun _ : Nat => x) k)) := rfl
  rw [e, List.filterMap_eq_map']
  simp [List.map_const']
theorem same_seq {S : Store} {k : Nat} {ds : List Dt} {x : Dt} (hx : x = .tup ds ∨ x = .lst ds) (hn : ds.length ≤ 100000) (ih : ∀ d ∈ ds, m_law_same k [d, d] S = .ok (.bl true) S) : Pe (m_law_same (k + 1) [x, x] S) (fun d S' => d = .bl true ∧ S' = S) X0 := by
  refine v_fn ?_
  unfold b_law_same
  have elem : ∀ (x : Dt) (j : Nat) (e1 : Dv.Env), (x = .tup ds ∨ x = .lst ds) → j < ds.length → e1 = [some x, some x, some (.int (0 + (j : Int)))] → Pe (mCall 2 (m_law_same k) (mCons (mOp mIx (mVar 0) (mVar 2)) (mCons (mOp mIx (mVar 1) (mVar 2)) mNil)) e1 S) (fun x S2 => S2 = S ∧ some (Dt.bl true) = some x) X0 := by
    intro x j e1 hx hj he
    subst he
    have ej : ds[j]? = some ds[j] := by simp [hj]
    have z : L2.atI ds (0 + (j : Int)) = some ds[j] := by
      rw [Int.zero_add]
      exact atI_in ej
    have zz : ixD S x (0 + (j : Int)) = some ds[j] := by rcases hx with rfl | rfl <;> exact z
    walk_at "dv"
    refine v_ix zz ?_
    walk_at "dv"
    refine v_ix zz ?_
    walk_at "dv"
    exact Pe.of (ih _ (List.getElem_mem hj)) ⟨rfl, rfl⟩
  have rest : ∀ {x : Dt} {en : Dv.Env} {Q : List Dt → Store → Prop} {X : Ex → Store → Prop}, (x = .tup ds ∨ x = .lst ds) → en = [some x, some x, none] → Q (List.replicate ds.length (.bl true)) S → Pe (cLoop (wNm 2) mYes
      (mCall 2 (m_law_same k) (mCons (mOp mIx (mVar 0) (mVar 2)) (mCons (mOp mIx (mVar 1) (mVar 2)) mNil))) en (rangeD 0 (ds.length : Int).toNat) [] S) Q X := by
    intro x en Q X hx he q
    subst he
    refine v_cloop (fun _ => some (.bl true)) (fun d hd => ?_) ?_ ?_
    · obtain ⟨j, hj, rfl⟩ := range_mem hd
      refine ⟨_, rfl, v_yes ⟨rfl, v_T ?_⟩⟩
      exact elem x j _ hx (by simpa using hj) rfl
    · simp [rangeD]
      omega
    · rw [List.nil_append, Int.toNat_natCast, range_const]
      exact q
  have fin : ∀ {Q : Dt → Store → Prop} {X : Ex → Store → Prop}, Q (.bl true) S → Pe (mAll [.lst (List.replicate ds.length (.bl true))] S) Q X := by
    intro Q X q
    unfold mAll
    simp only [asL, Option.bind_some, all_true]
    refine v_ok ?_
    have e : (List.replicate ds.length true).all (fun b => b) = true := by simp
    rw [e]
    exact q
  rcases hx with rfl | rfl
  · walk_at "dv"
    refine rest (.inl rfl) rfl ?_
    walk_at "dv"
    refine fin ?_
    walk_at "dv"
    rfl
  · walk_at "dv"
    refine rest (.inr rfl) rfl ?_
    walk_at "dv"
    refine fin ?_
    walk_at "dv"
    rfl
theorem same_int {S : Store} {k : Nat} {i : Int} : m_law_same (k + 1) [.int i, .int i] S = .ok (.bl true) S := by
  refine Pe.eq ?_
  refine v_fn ?_
  unfold b_law_same
  walk_at "dv"
  simp
/-! ### stores of pure objects, with others behind them -/
def pureO : Ob → Bool
  | .lst ds => ds.all (noRef 11)
  | .ins _ _ ds => ds.all (noRef 11)
  | .dct _ ds => ds.all (noRef 11)
  | .dkt _ ds => ds.all (noRef 11)
def PureS (S : Store) : Prop := ∀ o ∈ S, pureO o = true
theorem noRef_up : ∀ (k : Nat) (d : Dt), noRef k d = true → noRef (k + 1) d = true := by
  intro k
  induction k with
  | zero =>
    intro d h
    cases d <;> first | rfl | exact absurd h (by simp [noRef])
  | succ k ih =>
    intro d h
    have al : ∀ ds : List Dt, ds.all (noRef k) = true → ds.all (noRef (k + 1)) = true := fun ds h => List.all_eq_true.mpr fun x hx => ih x (List.all_eq_true.mp h x hx)
    cases d with
    | tup ds => exact al ds h
    | lst ds => exact al ds h
    | fz ds => exact al ds h
    | ins c ns ds => exact al ds h
    | dct ks ds => exact al ds h
    | ref i => exact absurd h (by simp [noRef])
    | _ => first | rfl | exact absurd h (by simp [noRef])
theorem mapO_pure {n : Nat} {S : Store} {k : Nat} : ∀ {ds : List Dt}, ds.all (noRef k) = true → mapO (frz n S k) ds = some ds
  | [], _ => rfl
  | d :: ds, h => by
    rw [List.all_cons, Bool.and_eq_true] at h
    unfold mapO
    rw [frz_pure h.1, mapO_pure h.2]
    rfl
theorem all_up {k : Nat} {ds : List Dt} (h : ds.all (noRef k) = true) : ds.all (noRef (k + 1)) = true := List.all_eq_true.mpr fun x hx => noRef_up k x (List.all_eq_true.mp h x hx)
theorem frzO_pure {n : Nat} {S : Store} {o : Ob} (h : pureO o = true) : frzO n S deepF o = some o := by
  cases o with
  | lst ds => simp [frzO, mapO_pure (show ds.all (noRef deepF) = true from all_up h)]
  | ins c ns ds => simp [frzO, mapO_pure (show ds.all (noRef deepF) = true from all_up h)]
  | dct ks ds => simp [frzO, mapO_pure (show ds.all (noRef deepF) = true from all_up h)]
  | dkt ks ds => simp [frzO, mapO_pure (show ds.all (noRef deepF) = true from all_up h)]
theorem mapOb_pure {n : Nat} {S : Store} : ∀ {T : Store}, PureS T → mapO (frzO n S deepF) T = some T
  | [], _ => rfl
  | o :: T, h => by
    unfold mapO
    rw [frzO_pure (h o List.mem_cons_self), mapOb_pure fun x hx => h x (List.mem_cons_of_mem _ hx)]
    rfl
theorem exit_pure {n : Nat} {S : Store} (h : PureS (S.take n)) : exitS n S = some (S.take n) := mapOb_pure h
theorem frz_ref {n k : Nat} {S : Store} {ds : List Dt} (hS : S[k]? = some (.lst ds)) (hk : n ≤ k) (h : ds.all (noRef 11) = true) : frz n S deepF (.ref k) = some (.lst ds) := by
  show frz n S (11 + 1) (.ref k) = _
  unfold frz
  rw [if_neg (by simp [noRef])]
  dsimp only
  rw [if_neg (by omega), hS]
  dsimp only
  rw [mapO_pure h]
  rfl
theorem v_finL {n : Nat} {d d' : Dt} {S : Store} {Q : Dt → Store → Prop} {X : Ex → Store → Prop} (hf : frz n S deepF d = some d') (hl : n < S.length) (h : PureS (S.take n)) (q : Q d' (S.take n)) : Pe (fin false n d S) Q X := by
  unfold fin
  rw [if_neg (by
    rintro (z | z)
    · cases z
    · omega), hf, exit_pure h]
  exact q
/-- S with junk behind it -/
structure Jz (S T : Store) : Prop where
  le : S.length ≤ T.length
  eq : T.take S.length = S
theorem Jz.refl {S : Store} : Jz S S := ⟨Nat.le_refl _, List.take_length⟩
theorem Jz.push {S T : Store} {o : Ob} (j : Jz S T) : Jz S (T ++ [o]) := ⟨by rw [List.length_append]; have := j.le; omega, by rw [List.take_append_of_le_length j.le]; exact j.eq⟩
theorem Jz.set {S T : Store} {k : Nat} {o : Ob} (j : Jz S T) (hk : S.length ≤ k) : Jz S (T.set k o) := ⟨by rw [List.length_set]; exact j.le, by rw [List.take_set_of_le hk]; exact j.eq⟩
/-- the list at k, by value -/
theorem v_finJ {S T : Store} {k : Nat} {ds : List Dt} {Q : Dt → Store → Prop} {X : Ex → Store → Prop} (j : Jz S T) (hp : PureS S) (hT : T[k]? = some (.lst ds)) (hk : S.length ≤ k) (h : ds.all (noRef 11) = true) (q : Q (.lst ds) S) : Pe (fin false S.length (.ref k) T) Q X := by
  have hl : k < T.length := (List.getElem?_eq_some_iff.mp hT).1
  refine v_finL (frz_ref hT hk h) (by omega) ?_ ?_
  · rw [j.eq]
    exact hp
  · rw [j.eq]
    exact q
theorem Fw.pure (f : Fw) : pureO f.ob = true := by
  simp [Fw.ob, Fw.ds, pureO, noRef]
theorem Fz.pure {i : Nat} {S S' : Store} (z : Fz i S S') (h : PureS S) : PureS S' := by
  intro o ho
  obtain ⟨j, hj, e⟩ := List.getElem_of_mem ho
  by_cases hi : j = i
  · subst hi
    obtain ⟨f, h1, _⟩ := z.flow
    rw [List.getElem?_eq_getElem hj] at h1
    rw [← e]
    have h3 := Option.some.inj h1
    have h4 := f.pure
    rw [← h3] at h4
    exact h4
  · have h2 := z.oth j hi
    rw [List.getElem?_eq_getElem hj] at h2
    rw [← e]
    exact h _ (List.mem_of_getElem? h2.symm)
/-- S, its flow drawn from, with junk behind it -/
structure Bz (i : Nat) (S T : Store) : Prop where
  lt : i < S.length
  le : S.length ≤ T.length
  fz : Fz i S (T.take S.length)
theorem FlowAt.lt {i : Nat} {S : Store} (h : FlowAt S i) : i < S.length := by
  obtain ⟨f, h1, _⟩ := h
  exact (List.getElem?_eq_some_iff.mp h1).1
theorem Bz.refl {i : Nat} {S : Store} (h : FlowAt S i) : Bz i S S := ⟨h.lt, Nat.le_refl _, by rw [List.take_length]; exact Fz.refl h⟩
theorem Bz.flow {i : Nat} {S T : Store} (b : Bz i S T) : FlowAt T i := by
  obtain ⟨f, h1, h2⟩ := b.fz.flow
  rw [List.getElem?_take_of_lt b.lt] at h1
  exact ⟨f, h1, h2⟩
theorem Bz.push {i : Nat} {S T : Store} {o : Ob} (b : Bz i S T) : Bz i S (T ++ [o]) := ⟨b.lt, by rw [List.length_append]; have := b.le; omega, by rw [List.take_append_of_le_length b.le]; exact b.fz⟩
theorem Bz.set {i : Nat} {S T : Store} {k : Nat} {o : Ob} (b : Bz i S T) (hk : S.length ≤ k) : Bz i S (T.set k o) := ⟨b.lt, by rw [List.length_set]; exact b.le, by rw [List.take_set_of_le hk]; exact b.fz⟩
theorem Bz.draw {i : Nat} {S T T' : Store} (b : Bz i S T) (z : Fz i T T') : Bz i S T' := by
  refine ⟨b.lt, by rw [z.len]; exact b.le, ?_, fun j hj => ?_, ?_⟩
  · rw [List.length_take, z.len, Nat.min_eq_left b.le]
  · by_cases hl : j < S.length
    · rw [List.getElem?_take_of_lt hl, z.oth j hj, ← b.fz.oth j hj, List.getElem?_take_of_lt hl]
    · rw [List.getElem?_eq_none (by rw [List.length_take]; omega), List.getElem?_eq_none (by omega)]
  · obtain ⟨f, h1, h2⟩ := z.flow
    exact ⟨f, by rw [List.getElem?_take_of_lt b.lt]; exact h1, h2⟩
theorem v_finB {i : Nat} {S T : Store} {k : Nat} {ds : List Dt} {Q : Dt → Store → Prop} {X : Ex → Store → Prop} (b : Bz i S T) (hp : PureS S) (hT : T[k]? = some (.lst ds)) (hk : S.length ≤ k) (h : ds.all (noRef 11) = true) (q : ∀ S', Fz i S S' → Q (.lst ds) S') : Pe (fin false S.length (.ref k) T) Q X := by
  have hl : k < T.length := (List.getElem?_eq_some_iff.mp hT).1
  exact v_finL (frz_ref hT hk h) (by omega) (b.fz.pure hp) (q _ b.fz)
end Lw
set_option Elab.async false
set_option linter.all false
set_option maxRecDepth 100000
set_option maxHeartbeats 4000000
set_option autoImplicit false
namespace Lw
open PySem Dv
/-! steps of our own words -/
local macro_rules | `(tactic| walk_at "num") => `(tactic| first | assumption | decide | omega)
local macro_rules | `(tactic| walk_at "dv0") => `(tactic| with_reducible first
  | refine v_seq ?_ | refine v_ifS ?_ | refine v_set ?_ | refine v_ret ?_ | refine v_asg ?_ | refine v_par ?_ | refine v_drop ?_ | refine v_nx ?_ | refine v_bk ?_ | refine v_ct ?_ | refine v_retN ?_ | refine v_for ?_
  | refine v_c ?_ | refine v_nil ?_ | refine v_cons ?_ | refine v_op ?_ | refine v_B ?_ | refine v_truth ?_ | refine v_andT ?_ | refine v_orT ?_ | refine v_notT ?_
  | refine v_andV ?_ | refine v_orV ?_ | refine v_notV ?_ | refine v_if ?_ | refine v_neg ?_ | refine v_chain ?_ | refine v_tup ?_ | refine v_lst ?_ | refine v_lstR ?_ | refine v_noPart ?_ | refine v_part ?_ | refine v_sl ?_
  | refine v_CB ?_ | refine v_call ?_ | refine v_abs ?_ | refine v_lc ?_ | refine v_yes ?_ | refine v_it ?_ | refine v_rng1 ?_ | refine v_rng2 ?_ | refine v_rng3 ?_ | refine v_T ?_ | refine v_F ?_
  | refine v_add ?_ | refine v_sub ?_ | refine v_iadd ?_ | refine v_lt ?_ | refine v_le ?_ | refine v_gt ?_ | refine v_ge ?_ | refine v_eqI ?_ | refine v_neI ?_ | refine v_eqB ?_ | refine v_neB ?_)
local macro_rules | `(tactic| walk_at "dv1") => `(tactic| first
  | (with_reducible refine' v_var ?h ?_); (case h => rfl)
  | (with_reducible refine' v_aug ?h ?_); (case h => rfl)
  | (with_reducible refine' v_div ?h1 ?h2 ?_); (case h1 => walk_at "num"); (case h2 => walk_at "num")
  | (with_reducible refine' v_mod ?h1 ?_); (case h1 => walk_at "num")
  | (with_reducible refine' v_pow ?h1 ?_); (case h1 => walk_at "num")
  | (with_reducible refine' v_mulR ?h1 ?_); (case h1 => walk_at "num")
  | (with_reducible refine' v_mulL ?h1 ?_); (case h1 => walk_at "num")
  | (with_reducible refine' v_fin ?h1 ?_); (case h1 => first | exact Or.inl rfl | exact Or.inr rfl | (refine Or.inr ?_; simp only [List.length_set, *]; done))
  | (with_reducible refine' v_ix ?h1 ?_); (case h1 => first | exact ixD_ref (by assumption) (by rfl) | rfl)
  | (with_reducible refine' v_len ?h1 ?_); (case h1 => first | exact lenD_ref (by assumption) | rfl)
  | (with_reducible refine' v_list ?h1 ?_); (case h1 => rfl)
  | (with_reducible refine' v_listR ?h1 ?_); (case h1 => rfl)
  | (with_reducible refine' v_tuple ?h1 ?_); (case h1 => rfl)
  | (with_reducible refine' v_isd ?h1 ?_); (case h1 => rfl)
  | (with_reducible refine' v_isiTy ?h1 ?h2 ?_); (case h1 => rfl); (case h2 => rfl)
  | (with_reducible refine' v_isiT ?h1 ?_); (case h1 => rfl))
local macro_rules | `(tactic| walk_at "dv2") => `(tactic| first
  | refine v_gsub (by rfl) (by rfl) (by assumption) (by rfl) (fun _ _ _ => ?_) | refine ⟨_, rfl, ?_⟩ | (with_reducible refine' ⟨rng_ok ?h1 ?h2, ?_⟩); (case h1 => omega); (case h2 => omega) | refine ⟨rfl, ?_⟩ | refine ⟨_, _, rfl, ?_⟩ | refine ⟨Nat.le_of_ble_eq_true rfl, ?_⟩)
local macro_rules | `(tactic| walk_at "dv3") => `(tactic| first
  | (with_reducible refine' v_dec (fun _ => ?_) (fun hn => absurd ?h hn)); (case h => first | assumption | omega | decide)
  | (with_reducible refine' v_dec (fun hn => absurd hn ?h) (fun _ => ?_)); (case h => first | assumption | omega | decide)
  | (with_reducible refine' v_ndec (fun _ => ?_) (fun hn => absurd hn ?h)); (case h => first | assumption | omega | decide)
  | (with_reducible refine' v_ndec (fun hn => absurd ?h hn) (fun _ => ?_)); (case h => first | assumption | omega | decide)
  | (with_reducible refine' v_bT ?h ?_); (case h => first | assumption | rfl)
  | (with_reducible refine' v_bF ?h ?_); (case h => first | assumption | rfl))
local macro_rules | `(tactic| walk_at "dv4") => `(tactic| with_reducible first
  | refine v_places ?_ | refine v_roads ?_ | refine v_over ?_ | refine v_line ?_ | refine v_spots ?_ | refine v_myards ?_ | refine v_mroads ?_ | refine v_mW (by decide +kernel) ?_ | refine v_mK (by decide +kernel) ?_
  | refine v_itX ?_ | refine v_ev ?_ | refine v_rev ?_ | refine v_zs ?_ | refine v_enum ?_ | refine v_enum2 ?_ | refine v_makeV ?_ | refine v_tryN ?_ | refine v_lc2 ?_ | refine v_fz ?_ | refine v_make ?_ | refine v_fldS ?_)
local macro_rules | `(tactic| walk_at "dv5") => `(tactic| first
  | refine ⟨_, _, rfl, rfl, ?_⟩ | refine ⟨⟨_, _, rfl⟩, ?_⟩ | refine ⟨⟨_, _, _, rfl⟩, ?_⟩ | refine ⟨_, _, _, rfl, ?_⟩ | refine Or.inl ⟨_, rfl, ?_⟩ | refine Or.inr ⟨_, (fun _ z => by cases z), rfl, ?_⟩)
local macro_rules | `(tactic| walk_at "dv") => `(tactic| repeat (first | walk_at "dv0" | walk_at "dv4" | walk_at "dv1" | walk_at "dv3" | walk_at "dv2" | walk_at "dv5"))
/-! ### webs as data -/
structure Road where
  n : Str
  b : Str
  e : Str
  h : Int
  t : Int
abbrev Road.d (r : Road) : Dt := .tup [.str r.n, .str r.b, .str r.e, .int r.h, .int r.t]
structure Mod where
  ys : List Str
  rs : List Road
abbrev Mod.ysD (m : Mod) : List Dt := m.ys.map Dt.str
abbrev Mod.rsD (m : Mod) : List Dt := m.rs.map Road.d
abbrev Mod.d (m : Mod) : Dt := modV (.lst m.ysD) (.lst m.rsD)
abbrev Mod.w (m : Mod) : Dt := webV (.tup m.ysD) (.tup m.rsD)
abbrev Step := Str × Int
abbrev stD (s : Step) : Dt := .tup [.str s.1, .int s.2]
def und (s : Step) : Step := (s.1, 0 - s.2)
def Mod.road (m : Mod) (n : Str) : Option Road := m.rs.find? fun r => decide (r.n = n)
def Road.ends (r : Road) (w : Int) : Str × Str := if w = 1 then (r.b, r.e) else (r.e, r.b)
def Road.rule (r : Road) (w : Int) : Int × Int := if w = 1 then (r.h, r.t) else (r.t, r.h)
structure Mod.Ok (m : Mod) : Prop where
  sr : ∀ r ∈ m.rs, PyData.strOk r.n = true ∧ PyData.strOk r.b = true ∧ PyData.strOk r.e = true
  sy : ∀ y ∈ m.ys, PyData.strOk y = true
  nd : (m.ys ++ m.rs.map Road.n).Nodup
  en : ∀ r ∈ m.rs, r.b ∈ m.ys ∧ r.e ∈ m.ys
  th : ∀ r ∈ m.rs, (r.h ≠ 0 ∧ r.h.natAbs ≤ 99) ∧ (r.t ≠ 0 ∧ r.t.natAbs ≤ 99)
  ly : m.ys.length ≤ 6
  lr : m.rs.length ≤ 8
theorem str_eq (a b : Str) : (a == b) = decide (a = b) := by
  by_cases h : a = b
  · subst h
    rw [decide_eq_true rfl]
    exact beq_self_eq_true a
  · rw [decide_eq_false h]
    exact beq_eq_false_iff_ne.mpr h
theorem v_eqS {a b : Str} {S : Store} {Q : Dt → Store → Prop} {X : Ex → Store → Prop} (ha : PyData.strOk a = true) (hb : PyData.strOk b = true) (q : Q (.bl (decide (a = b))) S) : Pe (mEq (.str a) (.str b) S) Q X := by
  refine v_ifok ⟨ha, hb⟩ ?_
  show Q (.bl (a == b)) S
  rw [str_eq]
  exact q
theorem v_neS {a b : Str} {S : Store} {Q : Dt → Store → Prop} {X : Ex → Store → Prop} (ha : PyData.strOk a = true) (hb : PyData.strOk b = true) (q : Q (.bl (!decide (a = b))) S) : Pe (mNe (.str a) (.str b) S) Q X := by
  refine v_ifok ⟨ha, hb⟩ ?_
  show Q (.bl (!(a == b))) S
  rw [str_eq]
  exact q
theorem eqD_st (s t : Step) : eqD (stD s) (stD t) = decide (s = t) := by
  obtain ⟨a, i⟩ := s
  obtain ⟨b, j⟩ := t
  show ((a == b) && ((i == j) && true)) = _
  rw [str_eq]
  have e : (i == j) = decide (i = j) := rfl
  rw [e, Bool.and_true, ← Bool.decide_and]
  congr 1
  simp [Prod.ext_iff]
theorem okD_st {s : Step} (h : PyData.strOk s.1 = true) (k : Nat) : okD (k + 1) (stD s) = true := by
  show [Dt.str s.1, Dt.int s.2].all (okD k) = true
  simp only [List.all_cons, List.all_nil, Bool.and_true]
  cases k <;> simp [okD, h]
theorem ix_zero (x : Dt) (l : List Dt) {S : Store} : ixD S (.lst (x :: l)) 0 = some x := atI_in (j := 0) (xs := x :: l) rfl
section
variable {m : Mod} {S : Store}
theorem road_in {n : Str} {r : Road} (h : m.road n = some r) : r ∈ m.rs ∧ r.n = n := by
  unfold Mod.road at h
  exact ⟨List.mem_of_find?_eq_some h, by simpa using List.find?_some h⟩
theorem road_of (ok : m.Ok) {r : Road} (h : r ∈ m.rs) : m.road r.n = some r := by
  have nd : (m.rs.map Road.n).Nodup := (List.nodup_append.mp ok.nd).2.1
  unfold Mod.road
  generalize m.rs = l at h nd
  induction l with
  | nil => cases h
  | cons x l ih =>
    rw [List.map_cons, List.nodup_cons] at nd
    rw [List.find?_cons]
    rcases List.mem_cons.mp h with e | h'
    · subst e
      simp
    · have hne : ¬ x.n = r.n := fun z => nd.1 (by rw [z]; exact List.mem_map_of_mem h')
      simp only [hne, decide_false]
      exact ih h' nd.2
def gRoad (n : Str) : Dt → Option Dt
  | .tup (.str a :: l) => if a = n then some (.tup (.str a :: l)) else none
  | _ => none
theorem gRoad_map (n : Str) : ∀ l : List Road, (l.map Road.d).filterMap (gRoad n) = (l.filter fun r => decide (r.n = n)).map Road.d
  | [] => rfl
  | r :: l => by
    rw [List.map_cons, List.filterMap_cons, List.filter_cons]
    by_cases h : r.n = n
    · have e : gRoad n r.d = some r.d := if_pos h
      rw [e, decide_eq_true h, if_pos rfl, gRoad_map n l]
      rfl
    · have e : gRoad n r.d = none := if_neg h
      rw [e, decide_eq_false h, if_neg Bool.false_ne_true, gRoad_map n l]
theorem law_road_ok (ok : m.Ok) {n : Str} {r : Road} (h : m.road n = some r) : m_law_road [m.d, .str n] S = .ok r.d S := by
  obtain ⟨hr, rfl⟩ := road_in h
  refine Pe.eq (v_fn ?_)
  unfold b_law_road
  walk_at "dv"
  refine v_cloop (gRoad r.n) (fun d hd => ?_) ?_ ?_
  · obtain ⟨x, hx, rfl⟩ := List.mem_map.mp hd
    refine ⟨_, rfl, ?_⟩
    walk_at "dv"
    refine v_eqS (ok.sr x hx).1 (ok.sr r hr).1 ?_
    refine ⟨_, rfl, rfl, ?_⟩
    refine v_dec (fun e => ?_) (fun e => ?_)
    · refine v_var rfl ⟨rfl, if_pos e⟩
    · exact if_neg e
  · have := ok.lr
    simp
    omega
  · rw [List.nil_append, gRoad_map]
    have hh : (m.rs.filter fun x => decide (x.n = r.n)).head? = some r := by
      rw [List.head?_filter]
      exact h
    cases hf : m.rs.filter fun x => decide (x.n = r.n) with
    | nil => rw [hf] at hh; cases hh
    | cons y l =>
      rw [hf] at hh
      cases hh
      walk_at "dv"
      refine v_ix (ix_zero _ _) ?_
      walk_at "dv"
      first | exact ⟨rfl, rfl⟩ | exact rfl
theorem law_ends_ok (ok : m.Ok) {s : Step} {r : Road} (h : m.road s.1 = some r) : m_law_ends [m.d, stD s] S = .ok (.tup [.str (r.ends s.2).1, .str (r.ends s.2).2]) S := by
  refine Pe.eq (v_fn ?_)
  unfold b_law_ends
  walk_at "dv"
  refine Pe.of (law_road_ok ok h) ?_
  walk_at "dv"
  unfold Road.ends
  refine v_dec (fun e => ?_) (fun e => ?_)
  · walk_at "dv"
    rw [if_pos e]
    first | exact ⟨rfl, rfl⟩ | exact rfl
  · walk_at "dv"
    rw [if_neg e]
    first | exact ⟨rfl, rfl⟩ | exact rfl
theorem law_rule_ok (ok : m.Ok) {s : Step} {r : Road} (h : m.road s.1 = some r) : m_law_rule [m.d, stD s] S = .ok (.tup [.int (r.rule s.2).1, .int (r.rule s.2).2]) S := by
  refine Pe.eq (v_fn ?_)
  unfold b_law_rule
  walk_at "dv"
  refine Pe.of (law_road_ok ok h) ?_
  walk_at "dv"
  unfold Road.rule
  refine v_dec (fun e => ?_) (fun e => ?_)
  · walk_at "dv"
    rw [if_pos e]
    first | exact ⟨rfl, rfl⟩ | exact rfl
  · walk_at "dv"
    rw [if_neg e]
    first | exact ⟨rfl, rfl⟩ | exact rfl
theorem law_undone_ok {s : Step} : m_law_undone [stD s] S = .ok (stD (und s)) S := by
  refine Pe.eq (v_fn ?_)
  unfold b_law_undone
  walk_at "dv"
  first | exact ⟨rfl, rfl⟩ | exact rfl
theorem web_road_ok (ok : m.Ok) {n : Str} {r : Road} (h : m.road n = some r) : m_Web_road_of [m.w, .str n] S = .ok r.d S := by
  obtain ⟨hr, rfl⟩ := road_in h
  refine Pe.eq (v_fn ?_)
  unfold b_Web_road_of
  walk_at "dv"
  refine v_loop (fun ds en S' => ∃ (l : List Road) (x : Option Dt), ds = l.map Road.d ∧ (∀ y ∈ l, y ∈ m.rs) ∧ l.find? (fun y => decide (y.n = r.n)) = some r ∧ en = [some m.w, some (.str r.n), x] ∧ S' = S) ⟨m.rs, _, rfl, fun _ h => h, h, rfl, rfl⟩ ?_ ?_
  · rintro d ds en S' ⟨l, x, e1, hm, hf, rfl, rfl⟩
    cases l with
    | nil => cases e1
    | cons y l =>
      cases e1
      refine ⟨_, _, rfl, ?_⟩
      walk_at "dv"
      refine v_eqS (ok.sr y (hm y List.mem_cons_self)).1 (ok.sr r hr).1 ?_
      refine ⟨_, rfl, ?_⟩
      rw [List.find?_cons] at hf
      refine v_dec (fun e => ?_) (fun e => ?_)
      · rw [decide_eq_true e] at hf
        cases hf
        walk_at "dv"
        first | exact ⟨rfl, rfl⟩ | exact rfl
      · rw [decide_eq_false e] at hf
        walk_at "dv"
        exact ⟨l, _, rfl, fun z hz => hm z (List.mem_cons_of_mem _ hz), hf, rfl, rfl⟩
  · rintro en S' ⟨l, x, e1, hm, hf, rfl, rfl⟩
    cases l with
    | nil => cases hf
    | cons y l => cases e1
theorem web_so_ok (ok : m.Ok) {s : Step} {r : Road} (h : m.road s.1 = some r) (hw : s.2 = 1 ∨ s.2 = -1) : m_Web_turned_so [m.w, stD s, .int 1] S = .ok (.tup [.str (r.ends s.2).1, .str (r.ends s.2).2]) S ∧ m_Web_turned_so [m.w, stD s, .int 3] S = .ok (.tup [.int (r.rule s.2).1, .int (r.rule s.2).2]) S := by
  have go : ∀ (at_ : Int) (a b : Dt), (∀ S, ixD S r.d at_ = some a ∧ ixD S r.d (at_ + 1) = some b) → m_Web_turned_so [m.w, stD s, .int at_] S = .ok (if s.2 = 1 then .tup [a, b] else .tup [b, a]) S := by
    intro at_ a b hab
    refine Pe.eq (v_fn ?_)
    unfold b_Web_turned_so
    walk_at "dv"
    refine Pe.of (web_road_ok ok h) ?_
    walk_at "dv"
    refine v_bF (by rcases hw with e | e <;> rw [e] <;> rfl) ?_
    walk_at "dv"
    refine v_dec (fun e => ?_) (fun e => ?_)
    · walk_at "dv"
      refine v_ix (hab S).1 ?_
      walk_at "dv"
      refine v_ix (hab S).2 ?_
      walk_at "dv"
      rw [if_pos e]
      first | exact ⟨rfl, rfl⟩ | exact rfl
    · walk_at "dv"
      refine v_ix (hab S).2 ?_
      walk_at "dv"
      refine v_ix (hab S).1 ?_
      walk_at "dv"
      rw [if_neg e]
      first | exact ⟨rfl, rfl⟩ | exact rfl
  constructor
  · rw [go 1 (.str r.b) (.str r.e) fun S => ⟨rfl, rfl⟩]
    unfold Road.ends
    split <;> rfl
  · rw [go 3 (.int r.h) (.int r.t) fun S => ⟨rfl, rfl⟩]
    unfold Road.rule
    split <;> rfl
theorem web_ends_ok (ok : m.Ok) {s : Step} {r : Road} (h : m.road s.1 = some r) (hw : s.2 = 1 ∨ s.2 = -1) : m_Web_ends [m.w, stD s] S = .ok (.tup [.str (r.ends s.2).1, .str (r.ends s.2).2]) S := by
  refine Pe.eq (v_fn ?_)
  unfold b_Web_ends
  walk_at "dv"
  refine Pe.of (web_so_ok ok h hw).1 ?_
  walk_at "dv"
  first | exact ⟨rfl, rfl⟩ | exact rfl
end
end Lw
set_option Elab.async false
set_option linter.all false
set_option maxRecDepth 100000
set_option maxHeartbeats 4000000
set_option autoImplicit false
namespace Lw
open PySem Dv
/-! steps of our own words -/
local macro_rules | `(tactic| walk_at "num") => `(tactic| first | assumption | decide | omega)
local macro_rules | `(tactic| walk_at "dv0") => `(tactic| with_reducible first
  | refine v_seq ?_ | refine v_ifS ?_ | refine v_set ?_ | refine v_ret ?_ | refine v_asg ?_ | refine v_par ?_ | refine v_drop ?_ | refine v_nx ?_ | refine v_bk ?_ | refine v_ct ?_ | refine v_retN ?_ | refine v_for ?_
  | refine v_c ?_ | refine v_nil ?_ | refine v_cons ?_ | refine v_op ?_ | refine v_B ?_ | refine v_truth ?_ | refine v_andT ?_ | refine v_orT ?_ | refine v_notT ?_
  | refine v_andV ?_ | refine v_orV ?_ | refine v_notV ?_ | refine v_if ?_ | refine v_neg ?_ | refine v_chain ?_ | refine v_tup ?_ | refine v_lst ?_ | refine v_lstR ?_ | refine v_noPart ?_ | refine v_part ?_ | refine v_sl ?_
  | refine v_CB ?_ | refine v_call ?_ | refine v_abs ?_ | refine v_lc ?_ | refine v_yes ?_ | refine v_it ?_ | refine v_rng1 ?_ | refine v_rng2 ?_ | refine v_rng3 ?_ | refine v_T ?_ | refine v_F ?_
  | refine v_add ?_ | refine v_sub ?_ | refine v_iadd ?_ | refine v_lt ?_ | refine v_le ?_ | refine v_gt ?_ | refine v_ge ?_ | refine v_eqI ?_ | refine v_neI ?_ | refine v_eqB ?_ | refine v_neB ?_)
local macro_rules | `(tactic| walk_at "dv1") => `(tactic| first
  | (with_reducible refine' v_var ?h ?_); (case h => rfl)
  | (with_reducible refine' v_aug ?h ?_); (case h => rfl)
  | (with_reducible refine' v_div ?h1 ?h2 ?_); (case h1 => walk_at "num"); (case h2 => walk_at "num")
  | (with_reducible refine' v_mod ?h1 ?_); (case h1 => walk_at "num")
  | (with_reducible refine' v_pow ?h1 ?_); (case h1 => walk_at "num")
  | (with_reducible refine' v_mulR ?h1 ?_); (case h1 => walk_at "num")
  | (with_reducible refine' v_mulL ?h1 ?_); (case h1 => walk_at "num")
  | (with_reducible refine' v_fin ?h1 ?_); (case h1 => first | exact Or.inl rfl | exact Or.inr rfl | (refine Or.inr ?_; simp only [List.length_set, *]; done))
  | (with_reducible refine' v_ix ?h1 ?_); (case h1 => first | exact ixD_ref (by assumption) (by rfl) | rfl)
  | (with_reducible refine' v_len ?h1 ?_); (case h1 => first | exact lenD_ref (by assumption) | rfl)
  | (with_reducible refine' v_list ?h1 ?_); (case h1 => rfl)
  | (with_reducible refine' v_listR ?h1 ?_); (case h1 => rfl)
  | (with_reducible refine' v_tuple ?h1 ?_); (case h1 => rfl)
  | (with_reducible refine' v_isd ?h1 ?_); (case h1 => rfl)
  | (with_reducible refine' v_isiTy ?h1 ?h2 ?_); (case h1 => rfl); (case h2 => rfl)
  | (with_reducible refine' v_isiT ?h1 ?_); (case h1 => rfl))
local macro_rules | `(tactic| walk_at "dv2") => `(tactic| first
  | refine v_gsub (by rfl) (by rfl) (by assumption) (by rfl) (fun _ _ _ => ?_) | refine ⟨_, rfl, ?_⟩ | (with_reducible refine' ⟨rng_ok ?h1 ?h2, ?_⟩); (case h1 => omega); (case h2 => omega) | refine ⟨rfl, ?_⟩ | refine ⟨_, _, rfl, ?_⟩ | refine ⟨Nat.le_of_ble_eq_true rfl, ?_⟩)
local macro_rules | `(tactic| walk_at "dv3") => `(tactic| first
  | (with_reducible refine' v_dec (fun _ => ?_) (fun hn => absurd ?h hn)); (case h => first | assumption | omega | decide)
  | (with_reducible refine' v_dec (fun hn => absurd hn ?h) (fun _ => ?_)); (case h => first | assumption | omega | decide)
  | (with_reducible refine' v_ndec (fun _ => ?_) (fun hn => absurd hn ?h)); (case h => first | assumption | omega | decide)
  | (with_reducible refine' v_ndec (fun hn => absurd ?h hn) (fun _ => ?_)); (case h => first | assumption | omega | decide)
  | (with_reducible refine' v_bT ?h ?_); (case h => first | assumption | rfl)
  | (with_reducible refine' v_bF ?h ?_); (case h => first | assumption | rfl))
local macro_rules | `(tactic| walk_at "dv4") => `(tactic| with_reducible first
  | refine v_places ?_ | refine v_roads ?_ | refine v_over ?_ | refine v_line ?_ | refine v_spots ?_ | refine v_myards ?_ | refine v_mroads ?_ | refine v_mW (by decide +kernel) ?_ | refine v_mK (by decide +kernel) ?_
  | refine v_itX ?_ | refine v_ev ?_ | refine v_rev ?_ | refine v_zs ?_ | refine v_enum ?_ | refine v_enum2 ?_ | refine v_makeV ?_ | refine v_tryN ?_ | refine v_lc2 ?_ | refine v_fz ?_ | refine v_make ?_ | refine v_fldS ?_)
local macro_rules | `(tactic| walk_at "dv5") => `(tactic| first
  | refine ⟨_, _, rfl, rfl, ?_⟩ | refine ⟨⟨_, _, rfl⟩, ?_⟩ | refine ⟨⟨_, _, _, rfl⟩, ?_⟩ | refine ⟨_, _, _, rfl, ?_⟩ | refine Or.inl ⟨_, rfl, ?_⟩ | refine Or.inr ⟨_, (fun _ z => by cases z), rfl, ?_⟩)
local macro_rules | `(tactic| walk_at "dv") => `(tactic| repeat (first | walk_at "dv0" | walk_at "dv4" | walk_at "dv1" | walk_at "dv3" | walk_at "dv2" | walk_at "dv5"))
/-! ### webs that are built -/
theorem v_loop0 {g : Dt → Dv.Env → Store → Option (Dv.Env × Store)} {ba : Dv.Env → Store → RS} {en : Dv.Env} {S : Store} {QS : Fl → Dv.Env → Store → Prop} {XS : Ex → Dv.Env → Store → Prop} (q : QS .nx en S) : Ps (fLoop g ba [] en S) QS XS := q
theorem v_loop1 {g : Dt → Dv.Env → Store → Option (Dv.Env × Store)} {ba : Dv.Env → Store → RS} {en : Dv.Env} {S : Store} {d : Dt} {ds : List Dt} {QS : Fl → Dv.Env → Store → Prop} {XS : Ex → Dv.Env → Store → Prop}
    (h : ∃ e1 S1, g d en S = some (e1, S1) ∧ Ps (ba e1 S1) (fun f e2 S2 => match f with | .nx => Ps (fLoop g ba ds e2 S2) QS XS | .ct => Ps (fLoop g ba ds e2 S2) QS XS | .bk => QS .nx e2 S2 | .rt d => QS (.rt d) e2 S2) XS) : Ps (fLoop g ba (d :: ds) en S) QS XS := by
  obtain ⟨e1, S1, e, k⟩ := h
  unfold fLoop
  rw [e]
  dsimp only
  cases eb : ba e1 S1 with
  | stuck => rw [eb] at k; exact k
  | err x e2 S2 => rw [eb] at k; exact k
  | ok f e2 S2 =>
    rw [eb] at k
    cases f <;> exact k
theorem setFld_ins {S : Store} {k : Nat} {c : String} {ns : List Str} {ds : List Dt} {f : Str} {d : Dt} {cs : List String} (hS : S[k]? = some (.ins c ns ds)) (hc : c ∈ cs) (hl : ns.length < 1000) : setFld cs f S (.ref k) d = some (S.set k (.ins c (putN f ns) (putW f d ns ds))) := by
  unfold setFld
  simp only [hS]
  rw [if_pos ⟨hc, hl⟩]
theorem putN_r : putN ("roads" : Str) [("places" : Str)] = wF := by decide +kernel
theorem putW_r (a b : Dt) : putW ("roads" : Str) b [("places" : Str)] [a] = [a, b] := by
  unfold putW
  rw [if_neg (by decide +kernel)]
  rfl
theorem putN_p2 : putN ("places" : Str) wF = wF := by decide +kernel
theorem putW_p2 (a b x : Dt) : putW ("places" : Str) x wF [a, b] = [x, b] := by
  unfold putW
  rw [if_pos rfl]
theorem putN_r2 : putN ("roads" : Str) wF = wF := by decide +kernel
theorem putW_r2 (a b x : Dt) : putW ("roads" : Str) x wF [a, b] = [a, x] := by
  unfold putW
  rw [if_neg (by decide +kernel)]
  unfold putW
  rw [if_pos rfl]
theorem frz_refI {n k : Nat} {S : Store} {c : String} {ns : List Str} {ds : List Dt} (hS : S[k]? = some (.ins c ns ds)) (hk : n ≤ k) (h : ds.all (noRef 11) = true) : frz n S deepF (.ref k) = some (.ins c ns ds) := by
  show frz n S (11 + 1) (.ref k) = _
  unfold frz
  rw [if_neg (by simp [noRef])]
  dsimp only
  rw [if_neg (by omega), hS]
  dsimp only
  rw [mapO_pure h]
  rfl
/-- the instance at k, by value -/
theorem v_finI {S T : Store} {k : Nat} {c : String} {ns : List Str} {ds : List Dt} {Q : Dt → Store → Prop} {X : Ex → Store → Prop} (j : Jz S T) (hp : PureS S) (hT : T[k]? = some (.ins c ns ds)) (hk : S.length ≤ k) (h : ds.all (noRef 11) = true) (q : Q (.ins c ns ds) S) : Pe (fin false S.length (.ref k) T) Q X := by
  have hl : k < T.length := (List.getElem?_eq_some_iff.mp hT).1
  refine v_finL (frz_refI hT hk h) (by omega) ?_ ?_
  · rw [j.eq]
    exact hp
  · rw [j.eq]
    exact q
theorem last_at {S : Store} {o : Ob} : (S ++ [o])[S.length]? = some o := by simp
theorem strs_pure (l : List Str) (k : Nat) : (l.map Dt.str).all (noRef k) = true := by
  rw [List.all_eq_true]
  intro x hx
  obtain ⟨s, _, rfl⟩ := List.mem_map.mp hx
  cases k <;> rfl
theorem road_pure (r : Road) (k : Nat) : noRef (k + 1) r.d = true := by
  show [Dt.str r.n, .str r.b, .str r.e, .int r.h, .int r.t].all (noRef k) = true
  cases k <;> rfl
theorem roads_pure (l : List Road) (k : Nat) : (l.map Road.d).all (noRef (k + 1)) = true := by
  rw [List.all_eq_true]
  intro x hx
  obtain ⟨s, _, rfl⟩ := List.mem_map.mp hx
  exact road_pure s k
theorem mod_pure (m : Mod) : [Dt.tup m.ysD, .tup m.rsD].all (noRef 11) = true := by
  simp only [List.all_cons, List.all_nil, Bool.and_true, Bool.and_eq_true]
  exact ⟨strs_pure m.ys 10, roads_pure m.rs 9⟩
section
variable {m : Mod} {S : Store}
theorem web_init_ok {k : Nat} (hS : S[k]? = some (.ins "Web" [] [])) {Q : Dt → Store → Prop} {X : Ex → Store → Prop} (q : Q .non (S.set k (.ins "Web" wF [.tup [], .tup []]))) : Pe (m_Web_dinit [.ref k] S) Q X := by
  refine v_fn ?_
  unfold b_Web_dinit
  walk_at "dv"
  refine ⟨_, setFld_ins hS (List.mem_singleton.mpr rfl) (by decide), ?_⟩
  walk_at "dv"
  refine ⟨_, setFld_ins (set_same hS) (List.mem_singleton.mpr rfl) (by decide), ?_⟩
  dsimp only
  refine v_fin (.inr (by simp)) ?_
  rw [List.set_set, show putN ("roads" : Str) (putN ("places" : Str) []) = wF from putN_r, show putW ("roads" : Str) (Dt.tup []) (putN ("places" : Str) []) (putW ("places" : Str) (Dt.tup []) [] []) = [Dt.tup [], Dt.tup []] from putW_r _ _]
  exact q
theorem turned_ok (hp : PureS S) {x a b : Dt} {ys : List Str} {rs : List Road} (ha : asS S a = some (ys.map Dt.str)) (hb : asS S b = some (rs.map Road.d)) (ht : ∀ T, asS (S ++ T) a = asS S a ∧ asS (S ++ T) b = asS S b) : m_Web_turned [x, a, b] S = .ok (Mod.mk ys rs).w S := by
  refine Pe.eq (v_fn ?_)
  unfold b_Web_turned
  walk_at "dv"
  refine web_init_ok last_at ⟨rfl, ?_⟩
  have e0 : (S ++ [Ob.ins "Web" [] []]).set S.length (.ins "Web" wF [.tup [], .tup []]) = S ++ [.ins "Web" wF [.tup [], .tup []]] := by
    rw [List.set_append_right _ _ (Nat.le_refl _), Nat.sub_self]
    rfl
  rw [e0]
  walk_at "dv"
  refine v_tuple ((ht _).1.trans ha) ?_
  walk_at "dv"
  refine v_tuple ((ht _).2.trans hb) ?_
  walk_at "dv"
  refine ⟨[some x, some a, some b, some (.ref S.length)], S ++ [.ins "Web" wF [.tup (ys.map Dt.str), .tup (rs.map Road.d)]], ?_, ?_⟩
  · have s1 : gFldD ["Web"] "places" (mVar 3) (.tup (ys.map Dt.str)) [some x, some a, some b, some (.ref S.length)] (S ++ [.ins "Web" wF [.tup [], .tup []]]) = some ([some x, some a, some b, some (.ref S.length)], S ++ [.ins "Web" wF [.tup (ys.map Dt.str), .tup []]]) := by
      unfold gFldD
      show (setFld ["Web"] "places" _ (.ref S.length) _).map _ = _
      rw [setFld_ins last_at (List.mem_singleton.mpr rfl) (by decide), putN_p2, putW_p2, List.set_append_right _ _ (Nat.le_refl _), Nat.sub_self]
      rfl
    have s2 : gFldD ["Web"] "roads" (mVar 3) (.tup (rs.map Road.d)) [some x, some a, some b, some (.ref S.length)] (S ++ [.ins "Web" wF [.tup (ys.map Dt.str), .tup []]]) = some ([some x, some a, some b, some (.ref S.length)], S ++ [.ins "Web" wF [.tup (ys.map Dt.str), .tup (rs.map Road.d)]]) := by
      unfold gFldD
      show (setFld ["Web"] "roads" _ (.ref S.length) _).map _ = _
      rw [setFld_ins last_at (List.mem_singleton.mpr rfl) (by decide), putN_r2, putW_r2, List.set_append_right _ _ (Nat.le_refl _), Nat.sub_self]
      rfl
    show (match gFldD ["Web"] "places" (mVar 3) (.tup (ys.map Dt.str)) [some x, some a, some b, some (.ref S.length)] (S ++ [.ins "Web" wF [.tup [], .tup []]]) with | some (e1, S1) => _ | none => none) = _
    rw [s1]
    show (match gFldD ["Web"] "roads" (mVar 3) (.tup (rs.map Road.d)) [some x, some a, some b, some (.ref S.length)] (S ++ [.ins "Web" wF [.tup (ys.map Dt.str), .tup []]]) with | some (e1, S1) => _ | none => none) = _
    rw [s2]
    rfl
  · walk_at "dv"
    exact v_finI Jz.refl.push hp last_at (Nat.le_refl _) (mod_pure ⟨ys, rs⟩) ⟨rfl, rfl⟩
end
end Lw
set_option Elab.async false
set_option linter.all false
set_option maxRecDepth 100000
set_option maxHeartbeats 4000000
set_option autoImplicit false
namespace Lw
open PySem Dv
/-! steps of our own words -/
local macro_rules | `(tactic| walk_at "num") => `(tactic| first | assumption | decide | omega)
local macro_rules | `(tactic| walk_at "dv0") => `(tactic| with_reducible first
  | refine v_seq ?_ | refine v_ifS ?_ | refine v_set ?_ | refine v_ret ?_ | refine v_asg ?_ | refine v_par ?_ | refine v_drop ?_ | refine v_nx ?_ | refine v_bk ?_ | refine v_ct ?_ | refine v_retN ?_ | refine v_for ?_
  | refine v_c ?_ | refine v_nil ?_ | refine v_cons ?_ | refine v_op ?_ | refine v_B ?_ | refine v_truth ?_ | refine v_andT ?_ | refine v_orT ?_ | refine v_notT ?_
  | refine v_andV ?_ | refine v_orV ?_ | refine v_notV ?_ | refine v_if ?_ | refine v_neg ?_ | refine v_chain ?_ | refine v_tup ?_ | refine v_lst ?_ | refine v_lstR ?_ | refine v_noPart ?_ | refine v_part ?_ | refine v_sl ?_
  | refine v_CB ?_ | refine v_call ?_ | refine v_abs ?_ | refine v_lc ?_ | refine v_yes ?_ | refine v_it ?_ | refine v_rng1 ?_ | refine v_rng2 ?_ | refine v_rng3 ?_ | refine v_T ?_ | refine v_F ?_
  | refine v_add ?_ | refine v_sub ?_ | refine v_iadd ?_ | refine v_lt ?_ | refine v_le ?_ | refine v_gt ?_ | refine v_ge ?_ | refine v_eqI ?_ | refine v_neI ?_ | refine v_eqB ?_ | refine v_neB ?_)
local macro_rules | `(tactic| walk_at "dv1") => `(tactic| first
  | (with_reducible refine' v_var ?h ?_); (case h => rfl)
  | (with_reducible refine' v_aug ?h ?_); (case h => rfl)
  | (with_reducible refine' v_div ?h1 ?h2 ?_); (case h1 => walk_at "num"); (case h2 => walk_at "num")
  | (with_reducible refine' v_mod ?h1 ?_); (case h1 => walk_at "num")
  | (with_reducible refine' v_pow ?h1 ?_); (case h1 => walk_at "num")
  | (with_reducible refine' v_mulR ?h1 ?_); (case h1 => walk_at "num")
  | (with_reducible refine' v_mulL ?h1 ?_); (case h1 => walk_at "num")
  | (with_reducible refine' v_fin ?h1 ?_); (case h1 => first | exact Or.inl rfl | exact Or.inr rfl | (refine Or.inr ?_; simp only [List.length_set, *]; done))
  | (with_reducible refine' v_ix ?h1 ?_); (case h1 => first | exact ixD_ref (by assumption) (by rfl) | rfl)
  | (with_reducible refine' v_len ?h1 ?_); (case h1 => first | exact lenD_ref (by assumption) | rfl)
  | (with_reducible refine' v_list ?h1 ?_); (case h1 => rfl)
  | (with_reducible refine' v_listR ?h1 ?_); (case h1 => rfl)
  | (with_reducible refine' v_tuple ?h1 ?_); (case h1 => rfl)
  | (with_reducible refine' v_isd ?h1 ?_); (case h1 => rfl)
  | (with_reducible refine' v_isiTy ?h1 ?h2 ?_); (case h1 => rfl); (case h2 => rfl)
  | (with_reducible refine' v_isiT ?h1 ?_); (case h1 => rfl))
local macro_rules | `(tactic| walk_at "dv2") => `(tactic| first
  | refine v_gsub (by rfl) (by rfl) (by assumption) (by rfl) (fun _ _ _ => ?_) | refine ⟨_, rfl, ?_⟩ | (with_reducible refine' ⟨rng_ok ?h1 ?h2, ?_⟩); (case h1 => omega); (case h2 => omega) | refine ⟨rfl, ?_⟩ | refine ⟨_, _, rfl, ?_⟩ | refine ⟨Nat.le_of_ble_eq_true rfl, ?_⟩)
local macro_rules | `(tactic| walk_at "dv3") => `(tactic| first
  | (with_reducible refine' v_dec (fun _ => ?_) (fun hn => absurd ?h hn)); (case h => first | assumption | omega | decide)
  | (with_reducible refine' v_dec (fun hn => absurd hn ?h) (fun _ => ?_)); (case h => first | assumption | omega | decide)
  | (with_reducible refine' v_ndec (fun _ => ?_) (fun hn => absurd hn ?h)); (case h => first | assumption | omega | decide)
  | (with_reducible refine' v_ndec (fun hn => absurd ?h hn) (fun _ => ?_)); (case h => first | assumption | omega | decide)
  | (with_reducible refine' v_bT ?h ?_); (case h => first | assumption | rfl)
  | (with_reducible refine' v_bF ?h ?_); (case h => first | assumption | rfl))
local macro_rules | `(tactic| walk_at "dv4") => `(tactic| with_reducible first
  | refine v_places ?_ | refine v_roads ?_ | refine v_over ?_ | refine v_line ?_ | refine v_spots ?_ | refine v_myards ?_ | refine v_mroads ?_ | refine v_mW (by decide +kernel) ?_ | refine v_mK (by decide +kernel) ?_
  | refine v_itX ?_ | refine v_ev ?_ | refine v_rev ?_ | refine v_zs ?_ | refine v_enum ?_ | refine v_enum2 ?_ | refine v_makeV ?_ | refine v_tryN ?_ | refine v_lc2 ?_ | refine v_fz ?_ | refine v_make ?_ | refine v_fldS ?_)
local macro_rules | `(tactic| walk_at "dv5") => `(tactic| first
  | refine ⟨_, _, rfl, rfl, ?_⟩ | refine ⟨⟨_, _, rfl⟩, ?_⟩ | refine ⟨⟨_, _, _, rfl⟩, ?_⟩ | refine ⟨_, _, _, rfl, ?_⟩ | refine Or.inl ⟨_, rfl, ?_⟩ | refine Or.inr ⟨_, (fun _ z => by cases z), rfl, ?_⟩)
local macro_rules | `(tactic| walk_at "dv") => `(tactic| repeat (first | walk_at "dv0" | walk_at "dv4" | walk_at "dv1" | walk_at "dv3" | walk_at "dv2" | walk_at "dv5"))
/-! ### names, yards and passages more -/
def letters : Str := "abcdefghijklmnopqrstuvwxyz"
def nameOk (s : Str) : Bool := decide (1 ≤ s.length) && decide (s.length ≤ 8) && s.cps.toList.all fun c => decide (c ∈ letters.cps.toList)
theorem signs_true (l : List Nat) : (l.map fun c => Dt.str ⟨#[c]⟩).filterMap (fun _ => some (Dt.bl true)) = List.replicate l.length (Dt.bl true) := by
  induction l with
  | nil => rfl
  | cons c l ih =>
    rw [List.map_cons, List.filterMap_cons, ih]
    rfl
theorem len_cps (s : Str) : s.cps.toList.length = s.length := by
  rw [Array.length_toList]
  rfl
section
variable {m : Mod} {S : Store}
theorem is_name_ok {s : Str} (h : nameOk s = true) : m_is_name [.str s] S = .ok (.bl true) S := by
  unfold nameOk at h
  rw [Bool.and_eq_true, Bool.and_eq_true] at h
  have h1 : 1 ≤ s.length := of_decide_eq_true h.1.1
  have h2 : s.length ≤ 8 := of_decide_eq_true h.1.2
  refine Pe.eq (v_fn ?_)
  unfold b_is_name
  walk_at "dv"
  refine v_len (n := s.length) (if_pos (by omega)) ?_
  refine v_le ?_
  refine ⟨true, by rw [decide_eq_true (by omega : (1 : Int) ≤ (s.length : Int))], ?_⟩
  walk_at "dv"
  refine v_cloop (fun _ => some (.bl true)) (fun d hd => ?_) ?_ ?_
  · obtain ⟨c, hc, rfl⟩ := List.mem_map.mp hd
    refine ⟨_, rfl, v_yes ⟨rfl, v_T ?_⟩⟩
    walk_at "dv"
    have hin : c ∈ letters.cps.toList := of_decide_eq_true (List.all_eq_true.mp h.2 c hc)
    show some (Dt.bl true) = some (Dt.bl (decide (c ∈ letters.cps.toList)))
    rw [decide_eq_true hin]
  · unfold strs1
    rw [List.length_map, len_cps, List.length_nil]
    omega
  · rw [List.nil_append, strs1, signs_true]
    walk_at "dv"
    unfold mAll
    simp only [asL, Option.bind_some, all_true]
    refine v_ok ?_
    walk_at "dv"
    simp
theorem in_strs (x : Str) : ∀ l : List Str, ((l.map Dt.str).any fun z => eqD z (.str x)) = decide (x ∈ l)
  | [] => rfl
  | y :: l => by
    rw [List.map_cons, List.any_cons, in_strs x l]
    show ((y == x) || _) = _
    rw [str_eq, ← Bool.decide_or]
    congr 1
    simp only [List.mem_cons, eq_comm]
theorem flat_strs (l : List Str) : (l.map Dt.str).all flatD = true := by
  rw [List.all_eq_true]
  intro d hd
  obtain ⟨s, _, rfl⟩ := List.mem_map.mp hd
  rfl
theorem v_inS {neg : Bool} {x : Str} {l : List Str} {y : Dt} {Q : Dt → Store → Prop} {X : Ex → Store → Prop} (hy : ∀ s, y ≠ .str s) (ha : asS S y = some (l.map Dt.str)) (q : Q (.bl (if neg then !decide (x ∈ l) else decide (x ∈ l))) S) : Pe (mIn neg (.str x) y S) Q X := by
  have e : mIn neg (.str x) y S = .ok (.bl (if neg then !decide (x ∈ l) else decide (x ∈ l))) S := by
    unfold mIn
    split
    · rename_i b
      exact absurd rfl (hy b)
    · rw [ha]
      dsimp only
      rw [if_pos ⟨rfl, flat_strs l⟩, in_strs]
  rw [e]
  exact q
theorem need_yard_ok {y : Str} (h : y ∈ m.ys) : m_Web_need_yard [m.w, .str y] S = .ok .non S := by
  refine Pe.eq (v_fn ?_)
  unfold b_Web_need_yard
  walk_at "dv"
  refine v_inS (l := m.ys) (fun s z => by cases z) rfl ?_
  refine ⟨_, rfl, ?_⟩
  refine v_bF (by rw [decide_eq_true h]; rfl) ?_
  walk_at "dv"
  first | exact ⟨rfl, rfl⟩ | exact rfl
theorem need_new_ok {y : Str} (hl : m.rs.length ≤ 100) (hn : nameOk y = true) (h1 : y ∉ m.ys) (h2 : y ∉ m.rs.map Road.n) : m_Web_need_new [m.w, .str y] S = .ok .non S := by
  refine Pe.eq (v_fn ?_)
  unfold b_Web_need_new
  walk_at "dv"
  refine Pe.of (is_name_ok hn) ?_
  walk_at "dv"
  refine v_inS (l := m.ys) (fun s z => by cases z) rfl ?_
  refine ⟨_, rfl, ?_⟩
  refine v_bF (by rw [decide_eq_false h1]; rfl) ?_
  walk_at "dv"
  refine v_cloop (fun d => match d with | .tup (x :: _) => some x | _ => none) (fun d hd => ?_) ?_ ?_
  · obtain ⟨r, hr, rfl⟩ := List.mem_map.mp hd
    refine ⟨_, rfl, v_yes ⟨rfl, v_T ?_⟩⟩
    walk_at "dv"
    first | exact ⟨rfl, rfl⟩ | exact rfl
  · simp
    omega
  · have e : m.rsD.filterMap (fun d => match d with | .tup (x :: _) => some x | _ => none) = (m.rs.map Road.n).map Dt.str := by
      show (m.rs.map Road.d).filterMap _ = _
      induction m.rs with
      | nil => rfl
      | cons r l ih =>
        rw [List.map_cons, List.filterMap_cons, ih]
        rfl
    rw [List.nil_append, e]
    refine v_inS (l := m.rs.map Road.n) (fun s z => by cases z) rfl ?_
    refine ⟨_, rfl, ?_⟩
    refine v_bF (by rw [decide_eq_false h2]; rfl) ?_
    walk_at "dv"
    first | exact ⟨rfl, rfl⟩ | exact rfl
theorem with_yard_ok (hp : PureS S) {y : Str} (hl : m.rs.length ≤ 100) (hn : nameOk y = true) (h1 : y ∉ m.ys) (h2 : y ∉ m.rs.map Road.n) (h6 : m.ys.length < 6) : m_Web_with_yard [m.w, .str y] S = .ok (Mod.mk (m.ys ++ [y]) m.rs).w S := by
  refine Pe.eq (v_fn ?_)
  unfold b_Web_with_yard
  walk_at "dv"
  refine Pe.of (need_new_ok hl hn h1 h2) ?_
  walk_at "dv"
  refine v_dec (fun z => ?_) (fun _ => ?_)
  · exfalso
    simp at z
    omega
  walk_at "dv"
  refine v_ifok (by simp; omega) ?_
  walk_at "dv"
  refine Pe.of (turned_ok hp (ys := m.ys ++ [y]) (rs := m.rs) (by simp [asS]) rfl fun T => ⟨rfl, rfl⟩) ?_
  walk_at "dv"
  first | exact ⟨rfl, rfl⟩ | exact rfl
theorem is_whole_ok {i lo hi : Int} (h1 : lo ≤ i) (h2 : i ≤ hi) : m_is_whole [.int i, .int lo, .int hi] S = .ok (.bl true) S := by
  refine Pe.eq (v_fn ?_)
  unfold b_is_whole
  walk_at "dv"
  rw [decide_eq_true h2]
  exact ⟨rfl, rfl⟩
theorem need_turns_ok {i : Int} (h0 : i ≠ 0) (h : i.natAbs ≤ 99) : m_need_turns [.int i] S = .ok .non S := by
  refine Pe.eq (v_fn ?_)
  unfold b_need_turns
  walk_at "dv"
  refine Pe.of (is_whole_ok (by omega) (by omega)) ?_
  walk_at "dv"
  first | exact ⟨rfl, rfl⟩ | exact rfl
end
end Lw
set_option Elab.async false
set_option linter.all false
set_option maxRecDepth 100000
set_option maxHeartbeats 4000000
set_option autoImplicit false
namespace Lw
open PySem Dv
/-! steps of our own words -/
local macro_rules | `(tactic| walk_at "num") => `(tactic| first | assumption | decide | omega)
local macro_rules | `(tactic| walk_at "dv0") => `(tactic| with_reducible first
  | refine v_seq ?_ | refine v_ifS ?_ | refine v_set ?_ | refine v_ret ?_ | refine v_asg ?_ | refine v_par ?_ | refine v_drop ?_ | refine v_nx ?_ | refine v_bk ?_ | refine v_ct ?_ | refine v_retN ?_ | refine v_for ?_
  | refine v_c ?_ | refine v_nil ?_ | refine v_cons ?_ | refine v_op ?_ | refine v_B ?_ | refine v_truth ?_ | refine v_andT ?_ | refine v_orT ?_ | refine v_notT ?_
  | refine v_andV ?_ | refine v_orV ?_ | refine v_notV ?_ | refine v_if ?_ | refine v_neg ?_ | refine v_chain ?_ | refine v_tup ?_ | refine v_lst ?_ | refine v_lstR ?_ | refine v_noPart ?_ | refine v_part ?_ | refine v_sl ?_
  | refine v_CB ?_ | refine v_call ?_ | refine v_abs ?_ | refine v_lc ?_ | refine v_yes ?_ | refine v_it ?_ | refine v_rng1 ?_ | refine v_rng2 ?_ | refine v_rng3 ?_ | refine v_T ?_ | refine v_F ?_
  | refine v_add ?_ | refine v_sub ?_ | refine v_iadd ?_ | refine v_lt ?_ | refine v_le ?_ | refine v_gt ?_ | refine v_ge ?_ | refine v_eqI ?_ | refine v_neI ?_ | refine v_eqB ?_ | refine v_neB ?_)
local macro_rules | `(tactic| walk_at "dv1") => `(tactic| first
  | (with_reducible refine' v_var ?h ?_); (case h => rfl)
  | (with_reducible refine' v_aug ?h ?_); (case h => rfl)
  | (with_reducible refine' v_div ?h1 ?h2 ?_); (case h1 => walk_at "num"); (case h2 => walk_at "num")
  | (with_reducible refine' v_mod ?h1 ?_); (case h1 => walk_at "num")
  | (with_reducible refine' v_pow ?h1 ?_); (case h1 => walk_at "num")
  | (with_reducible refine' v_mulR ?h1 ?_); (case h1 => walk_at "num")
  | (with_reducible refine' v_mulL ?h1 ?_); (case h1 => walk_at "num")
  | (with_reducible refine' v_fin ?h1 ?_); (case h1 => first | exact Or.inl rfl | exact Or.inr rfl | (refine Or.inr ?_; simp only [List.length_set, *]; done))
  | (with_reducible refine' v_ix ?h1 ?_); (case h1 => first | exact ixD_ref (by assumption) (by rfl) | rfl)
  | (with_reducible refine' v_len ?h1 ?_); (case h1 => first | exact lenD_ref (by assumption) | rfl)
  | (with_reducible refine' v_list ?h1 ?_); (case h1 => rfl)
  | (with_reducible refine' v_listR ?h1 ?_); (case h1 => rfl)
  | (with_reducible refine' v_tuple ?h1 ?_); (case h1 => rfl)
  | (with_reducible refine' v_isd ?h1 ?_); (case h1 => rfl)
  | (with_reducible refine' v_isiTy ?h1 ?h2 ?_); (case h1 => rfl); (case h2 => rfl)
  | (with_reducible refine' v_isiT ?h1 ?_); (case h1 => rfl))
local macro_rules | `(tactic| walk_at "dv2") => `(tactic| first
  | refine v_gsub (by rfl) (by rfl) (by assumption) (by rfl) (fun _ _ _ => ?_) | refine ⟨_, rfl, ?_⟩ | (with_reducible refine' ⟨rng_ok ?h1 ?h2, ?_⟩); (case h1 => omega); (case h2 => omega) | refine ⟨rfl, ?_⟩ | refine ⟨_, _, rfl, ?_⟩ | refine ⟨Nat.le_of_ble_eq_true rfl, ?_⟩)
local macro_rules | `(tactic| walk_at "dv3") => `(tactic| first
  | (with_reducible refine' v_dec (fun _ => ?_) (fun hn => absurd ?h hn)); (case h => first | assumption | omega | decide)
  | (with_reducible refine' v_dec (fun hn => absurd hn ?h) (fun _ => ?_)); (case h => first | assumption | omega | decide)
  | (with_reducible refine' v_ndec (fun _ => ?_) (fun hn => absurd hn ?h)); (case h => first | assumption | omega | decide)
  | (with_reducible refine' v_ndec (fun hn => absurd ?h hn) (fun _ => ?_)); (case h => first | assumption | omega | decide)
  | (with_reducible refine' v_bT ?h ?_); (case h => first | assumption | rfl)
  | (with_reducible refine' v_bF ?h ?_); (case h => first | assumption | rfl))
local macro_rules | `(tactic| walk_at "dv4") => `(tactic| with_reducible first
  | refine v_places ?_ | refine v_roads ?_ | refine v_over ?_ | refine v_line ?_ | refine v_spots ?_ | refine v_myards ?_ | refine v_mroads ?_ | refine v_mW (by decide +kernel) ?_ | refine v_mK (by decide +kernel) ?_
  | refine v_itX ?_ | refine v_ev ?_ | refine v_rev ?_ | refine v_zs ?_ | refine v_enum ?_ | refine v_enum2 ?_ | refine v_makeV ?_ | refine v_tryN ?_ | refine v_lc2 ?_ | refine v_fz ?_ | refine v_make ?_ | refine v_fldS ?_)
local macro_rules | `(tactic| walk_at "dv5") => `(tactic| first
  | refine ⟨_, _, rfl, rfl, ?_⟩ | refine ⟨⟨_, _, rfl⟩, ?_⟩ | refine ⟨⟨_, _, _, rfl⟩, ?_⟩ | refine ⟨_, _, _, rfl, ?_⟩ | refine Or.inl ⟨_, rfl, ?_⟩ | refine Or.inr ⟨_, (fun _ z => by cases z), rfl, ?_⟩)
local macro_rules | `(tactic| walk_at "dv") => `(tactic| repeat (first | walk_at "dv0" | walk_at "dv4" | walk_at "dv1" | walk_at "dv3" | walk_at "dv2" | walk_at "dv5"))
/-! ### whole webs -/
structure Mod.Nm (m : Mod) : Prop where
  ny : ∀ y ∈ m.ys, nameOk y = true
  nr : ∀ r ∈ m.rs, nameOk r.n = true
section
variable {m : Mod} {S : Store}
theorem with_passage_ok (hp : PureS S) {r : Road} (hn : nameOk r.n = true) (h1 : r.n ∉ m.ys) (h2 : r.n ∉ m.rs.map Road.n) (hb : r.b ∈ m.ys) (he : r.e ∈ m.ys) (hh : r.h ≠ 0 ∧ r.h.natAbs ≤ 99) (ht : r.t ≠ 0 ∧ r.t.natAbs ≤ 99) (h8 : m.rs.length < 8) :
    m_Web_with_passage [m.w, .str r.n, .str r.b, .str r.e, .int r.h, .int r.t] S = .ok (Mod.mk m.ys (m.rs ++ [r])).w S := by
  refine Pe.eq (v_fn ?_)
  unfold b_Web_with_passage
  walk_at "dv"
  refine Pe.of (need_new_ok (by omega) hn h1 h2) ?_
  walk_at "dv"
  refine v_loop1 ⟨_, _, rfl, ?_⟩
  walk_at "dv"
  refine Pe.of (need_yard_ok hb) ?_
  refine v_loop1 ⟨_, _, rfl, ?_⟩
  walk_at "dv"
  refine Pe.of (need_yard_ok he) ?_
  refine v_loop0 ?_
  walk_at "dv"
  refine v_loop1 ⟨_, _, rfl, ?_⟩
  walk_at "dv"
  refine Pe.of (need_turns_ok hh.1 hh.2) ?_
  refine v_loop1 ⟨_, _, rfl, ?_⟩
  walk_at "dv"
  refine Pe.of (need_turns_ok ht.1 ht.2) ?_
  refine v_loop0 ?_
  walk_at "dv"
  refine v_dec (fun z => ?_) (fun _ => ?_)
  · exfalso
    simp at z
    omega
  walk_at "dv"
  refine v_ifok (by simp; omega) ?_
  walk_at "dv"
  refine Pe.of (turned_ok hp (ys := m.ys) (rs := m.rs ++ [r]) rfl (by simp [asS]) fun T => ⟨rfl, rfl⟩) ?_
  walk_at "dv"
  first | exact ⟨rfl, rfl⟩ | exact rfl
theorem law_web_ok (ok : m.Ok) (nm : m.Nm) (hp : PureS S) : m_law_web [m.d] S = .ok m.w S := by
  have nd := List.nodup_append.mp ok.nd
  refine Pe.eq (v_fn ?_)
  unfold b_law_web
  walk_at "dv"
  refine web_init_ok last_at ⟨rfl, ?_⟩
  refine v_finI (Jz.refl.push.set (Nat.le_refl _)) hp (set_same last_at) (Nat.le_refl _) (mod_pure ⟨[], []⟩) ?_
  walk_at "dv"
  refine v_loop (fun ds en S' => ∃ (a b : List Str) (x : Option Dt), m.ys = a ++ b ∧ ds = b.map Dt.str ∧ en = [some m.d, some (Mod.mk a []).w, x, none, none, none, none, none] ∧ S = S') ⟨[], m.ys, _, rfl, rfl, rfl, rfl⟩ ?_ ?_
  · rintro d ds en S' ⟨a, b, x, e1, e2, rfl, rfl⟩
    cases b with
    | nil => cases e2
    | cons y b =>
      cases e2
      have hy : y ∈ m.ys := by rw [e1]; simp
      have hna : y ∉ a := fun z => by
        have q := nd.1
        rw [e1, List.nodup_append] at q
        exact q.2.2 y z y List.mem_cons_self rfl
      have hl : a.length < 6 := by
        have := ok.ly
        rw [e1, List.length_append, List.length_cons] at this
        omega
      refine ⟨_, _, rfl, ?_⟩
      walk_at "dv"
      refine Pe.of (with_yard_ok (m := ⟨a, []⟩) hp (by simp) (nm.ny y hy) hna (by simp) hl) ?_
      refine ⟨a ++ [y], b, _, by rw [e1]; simp, rfl, rfl, rfl⟩
  · rintro en S' ⟨a, b, x, e1, e2, rfl, rfl⟩
    have hb : b = [] := by simpa using e2.symm
    subst hb
    rw [List.append_nil] at e1
    subst e1
    walk_at "dv"
    refine v_loop (fun ds en S' => ∃ (a b : List Road) (x1 x2 x3 x4 x5 x6 : Option Dt), m.rs = a ++ b ∧ ds = b.map Road.d ∧ en = [some m.d, some (Mod.mk m.ys a).w, x1, x2, x3, x4, x5, x6] ∧ S = S') ⟨[], m.rs, _, _, _, _, _, _, rfl, rfl, rfl, rfl⟩ ?_ ?_
    · rintro d ds en S' ⟨a, b, x1, x2, x3, x4, x5, x6, e1, e2, rfl, rfl⟩
      cases b with
      | nil => cases e2
      | cons r b =>
        cases e2
        have hr : r ∈ m.rs := by rw [e1]; simp
        have h1 : r.n ∉ m.ys := fun z => nd.2.2 _ z _ (List.mem_map_of_mem hr) rfl
        have h2 : r.n ∉ a.map Road.n := fun z => by
          have q := nd.2.1
          rw [e1, List.map_append, List.nodup_append] at q
          exact q.2.2 _ z _ (List.mem_map_of_mem List.mem_cons_self) rfl
        have hl : a.length < 8 := by
          have := ok.lr
          rw [e1, List.length_append, List.length_cons] at this
          omega
        refine ⟨_, _, rfl, ?_⟩
        walk_at "dv"
        refine v_methK ?_
        walk_at "dv"
        refine ⟨⟨_, _, rfl, by decide +kernel⟩, ?_⟩
        walk_at "dv"
        refine ⟨⟨rfl, rfl, rfl⟩, ?_⟩
        refine Pe.of (with_passage_ok (m := ⟨m.ys, a⟩) (r := r) hp (nm.nr r hr) h1 h2 (ok.en r hr).1 (ok.en r hr).2 (ok.th r hr).1 (ok.th r hr).2 hl) ?_
        exact ⟨a ++ [r], b, _, _, _, _, _, _, by rw [e1]; simp, rfl, rfl, rfl⟩
    · rintro en S' ⟨a, b, x1, x2, x3, x4, x5, x6, e1, e2, rfl, rfl⟩
      have hb : b = [] := by simpa using e2.symm
      subst hb
      rw [List.append_nil] at e1
      walk_at "dv"
      refine ⟨?_, rfl⟩
      rw [← e1]
end
end Lw
set_option Elab.async false
set_option linter.all false
set_option maxRecDepth 100000
set_option maxHeartbeats 4000000
set_option autoImplicit false
namespace Lw
open PySem Dv
/-! steps of our own words -/
local macro_rules | `(tactic| walk_at "num") => `(tactic| first | assumption | decide | omega)
local macro_rules | `(tactic| walk_at "dv0") => `(tactic| with_reducible first
  | refine v_seq ?_ | refine v_ifS ?_ | refine v_set ?_ | refine v_ret ?_ | refine v_asg ?_ | refine v_par ?_ | refine v_drop ?_ | refine v_nx ?_ | refine v_bk ?_ | refine v_ct ?_ | refine v_retN ?_ | refine v_for ?_
  | refine v_c ?_ | refine v_nil ?_ | refine v_cons ?_ | refine v_op ?_ | refine v_B ?_ | refine v_truth ?_ | refine v_andT ?_ | refine v_orT ?_ | refine v_notT ?_
  | refine v_andV ?_ | refine v_orV ?_ | refine v_notV ?_ | refine v_if ?_ | refine v_neg ?_ | refine v_chain ?_ | refine v_tup ?_ | refine v_lst ?_ | refine v_lstR ?_ | refine v_noPart ?_ | refine v_part ?_ | refine v_sl ?_
  | refine v_CB ?_ | refine v_call ?_ | refine v_abs ?_ | refine v_lc ?_ | refine v_yes ?_ | refine v_it ?_ | refine v_rng1 ?_ | refine v_rng2 ?_ | refine v_rng3 ?_ | refine v_T ?_ | refine v_F ?_
  | refine v_add ?_ | refine v_sub ?_ | refine v_iadd ?_ | refine v_lt ?_ | refine v_le ?_ | refine v_gt ?_ | refine v_ge ?_ | refine v_eqI ?_ | refine v_neI ?_ | refine v_eqB ?_ | refine v_neB ?_)
local macro_rules | `(tactic| walk_at "dv1") => `(tactic| first
  | (with_reducible refine' v_var ?h ?_); (case h => rfl)
  | (with_reducible refine' v_aug ?h ?_); (case h => rfl)
  | (with_reducible refine' v_div ?h1 ?h2 ?_); (case h1 => walk_at "num"); (case h2 => walk_at "num")
  | (with_reducible refine' v_mod ?h1 ?_); (case h1 => walk_at "num")
  | (with_reducible refine' v_pow ?h1 ?_); (case h1 => walk_at "num")
  | (with_reducible refine' v_mulR ?h1 ?_); (case h1 => walk_at "num")
  | (with_reducible refine' v_mulL ?h1 ?_); (case h1 => walk_at "num")
  | (with_reducible refine' v_fin ?h1 ?_); (case h1 => first | exact Or.inl rfl | exact Or.inr rfl | (refine Or.inr ?_; simp only [List.length_set, *]; done))
  | (with_reducible refine' v_ix ?h1 ?_); (case h1 => first | exact ixD_ref (by assumption) (by rfl) | rfl)
  | (with_reducible refine' v_len ?h1 ?_); (case h1 => first | exact lenD_ref (by assumption) | rfl)
  | (with_reducible refine' v_list ?h1 ?_); (case h1 => rfl)
  | (with_reducible refine' v_listR ?h1 ?_); (case h1 => rfl)
  | (with_reducible refine' v_tuple ?h1 ?_); (case h1 => rfl)
  | (with_reducible refine' v_isd ?h1 ?_); (case h1 => rfl)
  | (with_reducible refine' v_isiTy ?h1 ?h2 ?_); (case h1 => rfl); (case h2 => rfl)
  | (with_reducible refine' v_isiT ?h1 ?_); (case h1 => rfl))
local macro_rules | `(tactic| walk_at "dv2") => `(tactic| first
  | refine v_gsub (by rfl) (by rfl) (by assumption) (by rfl) (fun _ _ _ => ?_) | refine ⟨_, rfl, ?_⟩ | (with_reducible refine' ⟨rng_ok ?h1 ?h2, ?_⟩); (case h1 => omega); (case h2 => omega) | refine ⟨rfl, ?_⟩ | refine ⟨_, _, rfl, ?_⟩ | refine ⟨Nat.le_of_ble_eq_true rfl, ?_⟩)
local macro_rules | `(tactic| walk_at "dv3") => `(tactic| first
  | (with_reducible refine' v_dec (fun _ => ?_) (fun hn => absurd ?h hn)); (case h => first | assumption | omega | decide)
  | (with_reducible refine' v_dec (fun hn => absurd hn ?h) (fun _ => ?_)); (case h => first | assumption | omega | decide)
  | (with_reducible refine' v_ndec (fun _ => ?_) (fun hn => absurd hn ?h)); (case h => first | assumption | omega | decide)
  | (with_reducible refine' v_ndec (fun hn => absurd ?h hn) (fun _ => ?_)); (case h => first | assumption | omega | decide)
  | (with_reducible refine' v_bT ?h ?_); (case h => first | assumption | rfl)
  | (with_reducible refine' v_bF ?h ?_); (case h => first | assumption | rfl))
local macro_rules | `(tactic| walk_at "dv4") => `(tactic| with_reducible first
  | refine v_places ?_ | refine v_roads ?_ | refine v_over ?_ | refine v_line ?_ | refine v_spots ?_ | refine v_myards ?_ | refine v_mroads ?_ | refine v_mW (by decide +kernel) ?_ | refine v_mK (by decide +kernel) ?_
  | refine v_itX ?_ | refine v_ev ?_ | refine v_rev ?_ | refine v_zs ?_ | refine v_enum ?_ | refine v_enum2 ?_ | refine v_makeV ?_ | refine v_tryN ?_ | refine v_lc2 ?_ | refine v_fz ?_ | refine v_make ?_ | refine v_fldS ?_)
local macro_rules | `(tactic| walk_at "dv5") => `(tactic| first
  | refine ⟨_, _, rfl, rfl, ?_⟩ | refine ⟨⟨_, _, rfl⟩, ?_⟩ | refine ⟨⟨_, _, _, rfl⟩, ?_⟩ | refine ⟨_, _, _, rfl, ?_⟩ | refine Or.inl ⟨_, rfl, ?_⟩ | refine Or.inr ⟨_, (fun _ z => by cases z), rfl, ?_⟩)
local macro_rules | `(tactic| walk_at "dv") => `(tactic| repeat (first | walk_at "dv0" | walk_at "dv4" | walk_at "dv1" | walk_at "dv3" | walk_at "dv2" | walk_at "dv5"))
/-! ### rows and walks -/
abbrev Seg := List (Step × Int)
def segD (l : Seg) : List Dt := l.flatMap fun p => [stD p.1, .int p.2]
abbrev rowD (t : Int) (l : Seg) : List Dt := .int t :: segD l
theorem segD_cons (p : Step × Int) (l : Seg) : segD (p :: l) = stD p.1 :: rowD p.2 l := rfl
theorem segD_len (l : Seg) : (segD l).length = 2 * l.length := by
  induction l with
  | nil => rfl
  | cons p l ih =>
    rw [segD_cons, List.length_cons, List.length_cons, ih, List.length_cons]
    omega
theorem segD_app (a b : Seg) : segD (a ++ b) = segD a ++ segD b := by
  unfold segD
  rw [List.flatMap_append]
inductive Path (m : Mod) : Str → Seg → Str → Prop
  | nil (y : Str) : Path m y [] y
  | cons {y : Str} {s : Step} {t : Int} {l : Seg} {z : Str} {r : Road} : m.road s.1 = some r → (s.2 = 1 ∨ s.2 = -1) → (r.ends s.2).1 = y → Path m (r.ends s.2).2 l z → Path m y ((s, t) :: l) z
def goes (m : Mod) (s : Step) : Str := match m.road s.1 with
  | some r => (r.ends s.2).2
  | none => s.1
def spots (m : Mod) (y : Str) (l : Seg) : List Str := y :: l.map fun p => goes m p.1
/-- the turns stay within -/
def Within (B : Nat) (l : Seg) : Prop := ∀ p ∈ l, p.2.natAbs ≤ B
theorem Path.app {m : Mod} {y z w : Str} {a b : Seg} (h : Path m y a z) (k : Path m z b w) : Path m y (a ++ b) w := by
  induction h with
  | nil y => exact k
  | cons h1 h2 h3 _ ih => exact .cons h1 h2 h3 (ih k)
theorem Path.one {m : Mod} {y : Str} {s : Step} {t : Int} {r : Road} (h1 : m.road s.1 = some r) (h2 : s.2 = 1 ∨ s.2 = -1) (h3 : (r.ends s.2).1 = y) : Path m y [(s, t)] (r.ends s.2).2 := .cons h1 h2 h3 (.nil _)
theorem Path.str {m : Mod} {y z : Str} {l : Seg} (h : Path m y l z) (ok : m.Ok) : ∀ p ∈ l, PyData.strOk p.1.1 = true := by
  induction h with
  | nil y => intro p hp; cases hp
  | cons h1 h2 h3 _ ih =>
    intro p hp
    rcases List.mem_cons.mp hp with e | hp
    · subst e
      obtain ⟨hr, e⟩ := road_in h1
      rw [← e]
      exact (ok.sr _ hr).1
    · exact ih p hp
theorem ends_in {m : Mod} (ok : m.Ok) {n : Str} {r : Road} (h : m.road n = some r) (w : Int) : (r.ends w).1 ∈ m.ys ∧ (r.ends w).2 ∈ m.ys := by
  obtain ⟨hr, _⟩ := road_in h
  have := ok.en r hr
  unfold Road.ends
  split
  · exact this
  · exact ⟨this.2, this.1⟩
theorem Path.to_in {m : Mod} (ok : m.Ok) {y z : Str} {l : Seg} (h : Path m y l z) (hy : y ∈ m.ys) : z ∈ m.ys := by
  induction h with
  | nil y => exact hy
  | cons h1 h2 h3 _ ih => exact ih (ends_in ok h1 _).2
theorem spots_last {m : Mod} {y z : Str} {l : Seg} (h : Path m y l z) : (spots m y l).getLast? = some z := by
  induction h with
  | nil y => rfl
  | @cons y s t l z r h1 h2 h3 p ih =>
    have e : goes m s = (r.ends s.2).2 := by simp [goes, h1]
    show (y :: goes m s :: l.map fun p => goes m p.1).getLast? = some z
    rw [e, List.getLast?_cons_cons]
    exact ih
theorem segD_pure (l : Seg) (k : Nat) : (segD l).all (noRef (k + 1)) = true := by
  rw [List.all_eq_true]
  intro x hx
  obtain ⟨p, _, h⟩ := List.mem_flatMap.mp hx
  simp only [List.mem_cons, List.not_mem_nil, or_false] at h
  rcases h with rfl | rfl
  · show [Dt.str p.1.1, .int p.1.2].all (noRef k) = true
    cases k <;> rfl
  · rfl
theorem rowD_pure (t : Int) (l : Seg) (k : Nat) : (rowD t l).all (noRef (k + 1)) = true := by
  rw [List.all_cons, segD_pure]
  rfl
section
variable {m : Mod} {S : Store}
theorem need_form_ok {t : Int} {l : Seg} (hl : l.length ≤ 100000) : m_need_form [.lst (rowD t l)] S = .ok .non S := by
  refine Pe.eq (v_fn ?_)
  unfold b_need_form
  walk_at "dv"
  refine v_loop (fun ds en S' => ((∃ (j : Nat) (t : Int) (l : Seg), ds = numbered (2 * j) (rowD t l)) ∨ ∃ (j : Nat) (l : Seg), ds = numbered (2 * j + 1) (segD l)) ∧ (∃ x1 x2, en = [some (.lst (rowD t l)), x1, x2]) ∧ S = S') ⟨.inl ⟨0, t, l, rfl⟩, ⟨_, _, rfl⟩, rfl⟩ ?_ ?_
  · rintro d ds en S' ⟨hd, ⟨x1, x2, rfl⟩, rfl⟩
    rcases hd with ⟨j, t', l', e⟩ | ⟨j, l', e⟩
    · cases e
      refine ⟨_, _, rfl, ?_⟩
      walk_at "dv"
      have e1 : decide (((2 * j : Nat) : Int).fmod 2 = 1) = false := by
        rw [decide_eq_false]
        rw [Int.fmod_eq_emod_of_nonneg _ (by decide)]
        omega
      rw [e1]
      walk_at "dv"
      exact ⟨.inr ⟨j, l', rfl⟩, ⟨_, _, rfl⟩, rfl⟩
    · cases l' with
      | nil => cases e
      | cons p l' =>
        cases e
        refine ⟨_, _, rfl, ?_⟩
        walk_at "dv"
        have e1 : decide (((2 * j + 1 : Nat) : Int).fmod 2 = 1) = true := by
          rw [decide_eq_true]
          rw [Int.fmod_eq_emod_of_nonneg _ (by decide)]
          omega
        rw [e1]
        walk_at "dv"
        exact ⟨.inl ⟨j + 1, p.2, l', rfl⟩, ⟨_, _, rfl⟩, rfl⟩
  · rintro en S' ⟨_, ⟨x1, x2, rfl⟩, rfl⟩
    walk_at "dv"
    refine v_dec (fun z => ?_) (fun z => ?_)
    · exfalso
      rw [List.length_cons, segD_len, Int.fmod_eq_emod_of_nonneg _ (by decide)] at z
      omega
    · walk_at "dv"
      first | exact ⟨rfl, rfl⟩ | exact rfl
theorem last_ix {xs : List Dt} {x : Dt} (h : xs.getLast? = some x) : L2.atI xs (-1) = some x := by
  have hn : xs ≠ [] := by rintro rfl; cases h
  have hl := List.length_pos_iff.mpr hn
  rw [List.getLast?_eq_getElem?] at h
  have e : L2.ixN xs.length (-1) = some (xs.length - 1) := by
    unfold L2.ixN
    rw [if_neg (by decide)]
    rw [if_pos (by omega)]
    congr 1
    omega
  unfold L2.atI
  rw [e]
  exact h
theorem yards_on_ok (ok : m.Ok) (hp : PureS S) {y z : Str} {t : Int} {l : Seg} (h : Path m y l z) (hy : y ∈ m.ys) (ht : t.natAbs ≤ 10 ^ 60) (hw : Within (10 ^ 60) l) (hl : l.length ≤ 100000) : m_yards_on [m.w, .str y, .lst (rowD t l)] S = .ok (.lst ((spots m y l).map Dt.str)) S := by
  refine Pe.eq (v_fn ?_)
  unfold b_yards_on
  walk_at "dv"
  refine v_loop (fun ds en T => (∃ x4 x5 x6 x7, en = [some m.w, some (.str y), some (.lst (rowD t l)), some (.ref S.length), x4, x5, x6, x7]) ∧ Jz S T ∧ ∃ (a b : Seg) (w : Str), l = a ++ b ∧ Path m y a w ∧ Path m w b z ∧ T[S.length]? = some (.lst ((spots m y a).map Dt.str)) ∧
      ((∃ (j : Nat) (u : Int), u.natAbs ≤ 10 ^ 60 ∧ ds = numbered (2 * j) (rowD u b)) ∨ ∃ j : Nat, ds = numbered (2 * j + 1) (segD b))) ⟨⟨_, _, _, _, rfl⟩, Jz.refl.push, [], l, y, rfl, .nil y, h, last_at, .inl ⟨0, t, ht, rfl⟩⟩ ?_ ?_
  · rintro d ds en T ⟨⟨x4, x5, x6, x7, rfl⟩, jz, a, b, w, el, pa, pb, hT, hd⟩
    rcases hd with ⟨j, u, hu, e⟩ | ⟨j, e⟩
    · cases e
      refine ⟨_, _, rfl, ?_⟩
      walk_at "dv"
      have e1 : decide (((2 * j : Nat) : Int).fmod 2 = 0) = true := by
        rw [decide_eq_true]
        rw [Int.fmod_eq_emod_of_nonneg _ (by decide)]
        omega
      rw [e1]
      walk_at "dv"
      exact ⟨⟨_, _, _, _, rfl⟩, jz, a, b, w, el, pa, pb, hT, .inr ⟨j, rfl⟩⟩
    · cases pb with
      | nil => cases e
      | @cons _ s u l' _ r h1 h2 h3 p' =>
        cases e
        refine ⟨_, _, rfl, ?_⟩
        walk_at "dv"
        have e1 : decide (((2 * j + 1 : Nat) : Int).fmod 2 = 0) = false := by
          rw [decide_eq_false]
          rw [Int.fmod_eq_emod_of_nonneg _ (by decide)]
          omega
        rw [e1]
        walk_at "dv"
        refine Pe.of (web_ends_ok ok h1 h2) ?_
        walk_at "dv"
        have hlast : ixD T (.ref S.length) (-1) = some (.str w) := ixD_ref hT (last_ix (by rw [List.getLast?_map, spots_last pa]; rfl))
        refine v_ix hlast ?_
        have so : PyData.strOk w = true := ok.sy w (Path.to_in ok pa hy)
        rw [h3]
        refine v_neS so so ?_
        refine ⟨_, rfl, ?_⟩
        refine v_bF (by simp) ?_
        walk_at "dv"
        have hle : (spots m y a).length ≤ 100001 := by
          have : a.length ≤ l.length := by rw [el, List.length_append]; omega
          simp [spots]
          omega
        refine v_app1K rfl hT ?_
        walk_at "dv"
        refine ⟨_, hT, by rw [List.length_map]; omega, ?_⟩
        have e2 : goes m s = (r.ends s.2).2 := by simp [goes, h1]
        have hwi := hw (s, u) (by rw [el]; simp)
        refine ⟨⟨_, _, _, _, rfl⟩, jz.set (Nat.le_refl _), a ++ [(s, u)], l', (r.ends s.2).2, by rw [el]; simp, pa.app (Path.one h1 h2 h3), p', ?_, .inl ⟨j + 1, u, hwi, rfl⟩⟩
        rw [set_same hT]
        simp [spots, e2]
  · rintro en T ⟨⟨x4, x5, x6, x7, rfl⟩, jz, a, b, w, el, pa, pb, hT, hd⟩
    have hb : b = [] := by
      rcases hd with ⟨j, u, _, e⟩ | ⟨j, e⟩
      · cases e
      · cases b with
        | nil => rfl
        | cons p b => cases e
    subst hb
    rw [List.append_nil] at el
    subst el
    walk_at "dv"
    refine v_finJ jz hp hT (Nat.le_refl _) (strs_pure _ _) ?_
    exact ⟨rfl, rfl⟩
end
end Lw
set_option Elab.async false
set_option linter.all false
set_option maxRecDepth 100000
set_option maxHeartbeats 4000000
set_option autoImplicit false
namespace Lw
open PySem Dv
/-! steps of our own words -/
local macro_rules | `(tactic| walk_at "num") => `(tactic| first | assumption | decide | omega)
local macro_rules | `(tactic| walk_at "dv0") => `(tactic| with_reducible first
  | refine v_seq ?_ | refine v_ifS ?_ | refine v_set ?_ | refine v_ret ?_ | refine v_asg ?_ | refine v_par ?_ | refine v_drop ?_ | refine v_nx ?_ | refine v_bk ?_ | refine v_ct ?_ | refine v_retN ?_ | refine v_for ?_
  | refine v_c ?_ | refine v_nil ?_ | refine v_cons ?_ | refine v_op ?_ | refine v_B ?_ | refine v_truth ?_ | refine v_andT ?_ | refine v_orT ?_ | refine v_notT ?_
  | refine v_andV ?_ | refine v_orV ?_ | refine v_notV ?_ | refine v_if ?_ | refine v_neg ?_ | refine v_chain ?_ | refine v_tup ?_ | refine v_lst ?_ | refine v_lstR ?_ | refine v_noPart ?_ | refine v_part ?_ | refine v_sl ?_
  | refine v_CB ?_ | refine v_call ?_ | refine v_abs ?_ | refine v_lc ?_ | refine v_yes ?_ | refine v_it ?_ | refine v_rng1 ?_ | refine v_rng2 ?_ | refine v_rng3 ?_ | refine v_T ?_ | refine v_F ?_
  | refine v_add ?_ | refine v_sub ?_ | refine v_iadd ?_ | refine v_lt ?_ | refine v_le ?_ | refine v_gt ?_ | refine v_ge ?_ | refine v_eqI ?_ | refine v_neI ?_ | refine v_eqB ?_ | refine v_neB ?_)
local macro_rules | `(tactic| walk_at "dv1") => `(tactic| first
  | (with_reducible refine' v_var ?h ?_); (case h => rfl)
  | (with_reducible refine' v_aug ?h ?_); (case h => rfl)
  | (with_reducible refine' v_div ?h1 ?h2 ?_); (case h1 => walk_at "num"); (case h2 => walk_at "num")
  | (with_reducible refine' v_mod ?h1 ?_); (case h1 => walk_at "num")
  | (with_reducible refine' v_pow ?h1 ?_); (case h1 => walk_at "num")
  | (with_reducible refine' v_mulR ?h1 ?_); (case h1 => walk_at "num")
  | (with_reducible refine' v_mulL ?h1 ?_); (case h1 => walk_at "num")
  | (with_reducible refine' v_fin ?h1 ?_); (case h1 => first | exact Or.inl rfl | exact Or.inr rfl | (refine Or.inr ?_; simp only [List.length_set, *]; done))
  | (with_reducible refine' v_ix ?h1 ?_); (case h1 => first | exact ixD_ref (by assumption) (by rfl) | rfl)
  | (with_reducible refine' v_len ?h1 ?_); (case h1 => first | exact lenD_ref (by assumption) | rfl)
  | (with_reducible refine' v_list ?h1 ?_); (case h1 => rfl)
  | (with_reducible refine' v_listR ?h1 ?_); (case h1 => rfl)
  | (with_reducible refine' v_tuple ?h1 ?_); (case h1 => rfl)
  | (with_reducible refine' v_isd ?h1 ?_); (case h1 => rfl)
  | (with_reducible refine' v_isiTy ?h1 ?h2 ?_); (case h1 => rfl); (case h2 => rfl)
  | (with_reducible refine' v_isiT ?h1 ?_); (case h1 => rfl))
local macro_rules | `(tactic| walk_at "dv2") => `(tactic| first
  | refine v_gsub (by rfl) (by rfl) (by assumption) (by rfl) (fun _ _ _ => ?_) | refine ⟨_, rfl, ?_⟩ | (with_reducible refine' ⟨rng_ok ?h1 ?h2, ?_⟩); (case h1 => omega); (case h2 => omega) | refine ⟨rfl, ?_⟩ | refine ⟨_, _, rfl, ?_⟩ | refine ⟨Nat.le_of_ble_eq_true rfl, ?_⟩)
local macro_rules | `(tactic| walk_at "dv3") => `(tactic| first
  | (with_reducible refine' v_dec (fun _ => ?_) (fun hn => absurd ?h hn)); (case h => first | assumption | omega | decide)
  | (with_reducible refine' v_dec (fun hn => absurd hn ?h) (fun _ => ?_)); (case h => first | assumption | omega | decide)
  | (with_reducible refine' v_ndec (fun _ => ?_) (fun hn => absurd hn ?h)); (case h => first | assumption | omega | decide)
  | (with_reducible refine' v_ndec (fun hn => absurd ?h hn) (fun _ => ?_)); (case h => first | assumption | omega | decide)
  | (with_reducible refine' v_bT ?h ?_); (case h => first | assumption | rfl)
  | (with_reducible refine' v_bF ?h ?_); (case h => first | assumption | rfl))
local macro_rules | `(tactic| walk_at "dv4") => `(tactic| with_reducible first
  | refine v_places ?_ | refine v_roads ?_ | refine v_over ?_ | refine v_line ?_ | refine v_spots ?_ | refine v_myards ?_ | refine v_mroads ?_ | refine v_mW (by decide +kernel) ?_ | refine v_mK (by decide +kernel) ?_
  | refine v_itX ?_ | refine v_ev ?_ | refine v_rev ?_ | refine v_zs ?_ | refine v_enum ?_ | refine v_enum2 ?_ | refine v_makeV ?_ | refine v_tryN ?_ | refine v_lc2 ?_ | refine v_fz ?_ | refine v_make ?_ | refine v_fldS ?_)
local macro_rules | `(tactic| walk_at "dv5") => `(tactic| first
  | refine ⟨_, _, rfl, rfl, ?_⟩ | refine ⟨⟨_, _, rfl⟩, ?_⟩ | refine ⟨⟨_, _, _, rfl⟩, ?_⟩ | refine ⟨_, _, _, rfl, ?_⟩ | refine Or.inl ⟨_, rfl, ?_⟩ | refine Or.inr ⟨_, (fun _ z => by cases z), rfl, ?_⟩)
local macro_rules | `(tactic| walk_at "dv") => `(tactic| repeat (first | walk_at "dv0" | walk_at "dv4" | walk_at "dv1" | walk_at "dv3" | walk_at "dv2" | walk_at "dv5"))
/-! ### walks that are made; what they tell -/
abbrev walkD (m : Mod) (y : Str) (t : Int) (l : Seg) : Dt := walkV m.w (.tup (rowD t l)) (.lst ((spots m y l).map Dt.str))
theorem putN_l : putN ("line" : Str) [("over" : Str)] = [("over" : Str), "line"] := by decide +kernel
theorem putN_s : putN ("spots" : Str) [("over" : Str), "line"] = kF := by decide +kernel
theorem putW_l (a b : Dt) : putW ("line" : Str) b [("over" : Str)] [a] = [a, b] := by
  unfold putW
  rw [if_neg (by decide +kernel)]
  rfl
theorem putW_s (a b c : Dt) : putW ("spots" : Str) c [("over" : Str), "line"] [a, b] = [a, b, c] := by
  unfold putW
  rw [if_neg (by decide +kernel)]
  unfold putW
  rw [if_neg (by decide +kernel)]
  rfl
theorem PureS.push {S : Store} {o : Ob} (h : PureS S) (ho : pureO o = true) : PureS (S ++ [o]) := by
  intro x hx
  rcases List.mem_append.mp hx with z | z
  · exact h x z
  · rw [List.mem_singleton.mp z]
    exact ho
theorem web_pure (m : Mod) (k : Nat) : noRef (k + 3) m.w = true := by
  show [Dt.tup m.ysD, .tup m.rsD].all (noRef (k + 2)) = true
  simp only [List.all_cons, List.all_nil, Bool.and_true, Bool.and_eq_true]
  exact ⟨strs_pure m.ys (k + 1), roads_pure m.rs k⟩
theorem set_last {S : Store} {o o' : Ob} : (S ++ [o]).set S.length o' = S ++ [o'] := by
  rw [List.set_append_right _ _ (Nat.le_refl _), Nat.sub_self]
  rfl
section
variable {m : Mod} {S : Store}
theorem walk_pure (y : Str) (t : Int) (l : Seg) : [m.w, .tup (rowD t l), .lst ((spots m y l).map Dt.str)].all (noRef 11) = true := by
  simp only [List.all_cons, List.all_nil, Bool.and_true, Bool.and_eq_true]
  exact ⟨web_pure m 8, rowD_pure t l 9, strs_pure _ 10⟩
theorem walk_init_ok (ok : m.Ok) (hp : PureS S) {y z : Str} {t : Int} {l : Seg} (h : Path m y l z) (hy : y ∈ m.ys) (ht : t.natAbs ≤ 10 ^ 60) (hw : Within (10 ^ 60) l) (hl : l.length ≤ 200) {Q : Dt → Store → Prop} {X : Ex → Store → Prop}
    (q : Q .non (S ++ [.ins "Walk" kF [m.w, .tup (rowD t l), .lst ((spots m y l).map Dt.str)]])) : Pe (m_Walk_dinit [.ref S.length, m.w, .str y, .lst (rowD t l)] (S ++ [.ins "Walk" [] []])) Q X := by
  refine v_fn ?_
  unfold b_Walk_dinit
  walk_at "dv"
  refine Pe.of (need_yard_ok hy) ?_
  walk_at "dv"
  refine v_dec (fun z => ?_) (fun _ => ?_)
  · exfalso
    rw [List.length_cons, segD_len] at z
    omega
  walk_at "dv"
  refine Pe.of (need_form_ok (by omega)) ?_
  walk_at "dv"
  refine ⟨_, setFld_ins last_at (List.mem_singleton.mpr rfl) (by decide), ?_⟩
  rw [set_last]
  walk_at "dv"
  refine ⟨_, setFld_ins last_at (List.mem_singleton.mpr rfl) (by decide), ?_⟩
  rw [set_last, show putN ("line" : Str) (putN ("over" : Str) []) = [("over" : Str), "line"] from putN_l, show putW ("line" : Str) (Dt.tup (rowD t l)) (putN ("over" : Str) []) (putW ("over" : Str) m.w [] []) = [m.w, .tup (rowD t l)] from putW_l _ _]
  walk_at "dv"
  have hp2 : PureS (S ++ [.ins "Walk" [("over" : Str), "line"] [m.w, .tup (rowD t l)]]) := hp.push (by
    show [m.w, .tup (rowD t l)].all (noRef 11) = true
    simp only [List.all_cons, List.all_nil, Bool.and_true, Bool.and_eq_true]
    exact ⟨web_pure m 8, rowD_pure t l 9⟩)
  refine Pe.of (yards_on_ok ok hp2 h hy ht hw (by omega)) ?_
  walk_at "dv"
  refine ⟨_, setFld_ins last_at (List.mem_singleton.mpr rfl) (by decide), ?_⟩
  rw [set_last, putN_s, putW_s]
  dsimp only
  refine v_fin (.inr (by simp)) ?_
  exact q
theorem walk_web_ok {y : Str} {t : Int} {l : Seg} : m_Walk_web [walkD m y t l] S = .ok m.w S := by
  refine Pe.eq (v_fn ?_)
  unfold b_Walk_web
  walk_at "dv"
  first | exact ⟨rfl, rfl⟩ | exact rfl
theorem walk_row_ok {y : Str} {t : Int} {l : Seg} : m_Walk_row [walkD m y t l] S = .ok (.lst (rowD t l)) S := by
  refine Pe.eq (v_fn ?_)
  unfold b_Walk_row
  walk_at "dv"
  first | exact ⟨rfl, rfl⟩ | exact rfl
theorem ix_last {xs : List Dt} {x : Dt} (h : xs.getLast? = some x) {S : Store} : ixD S (.lst xs) (-1) = some x := last_ix h
theorem walk_end_ok {y z : Str} {t : Int} {l : Seg} (h : Path m y l z) : m_Walk_end [walkD m y t l] S = .ok (.str z) S := by
  refine Pe.eq (v_fn ?_)
  unfold b_Walk_end
  walk_at "dv"
  refine v_ix (ix_last (by rw [List.getLast?_map, spots_last h]; rfl)) ?_
  walk_at "dv"
  first | exact ⟨rfl, rfl⟩ | exact rfl
/-! ### the steps from a yard -/
def stepsOf (y : Str) (l : List Road) : List Step := l.flatMap fun r => (if r.b = y then [(r.n, (1 : Int))] else []) ++ if r.e = y then [(r.n, (-1 : Int))] else []
theorem stepsOf_cons {y : Str} (r : Road) (l : List Road) : stepsOf y (r :: l) = ((if r.b = y then [(r.n, (1 : Int))] else []) ++ if r.e = y then [(r.n, (-1 : Int))] else []) ++ stepsOf y l := by
  unfold stepsOf
  rw [List.flatMap_cons]
theorem stepsOf_len {y : Str} : ∀ l : List Road, (stepsOf y l).length ≤ 2 * l.length
  | [] => Nat.le_refl _
  | r :: l => by
    have ih := stepsOf_len (y := y) l
    rw [stepsOf_cons, List.length_append, List.length_append, List.length_cons]
    have h1 : (if r.b = y then [(r.n, (1 : Int))] else []).length ≤ 1 := by split <;> simp
    have h2 : (if r.e = y then [(r.n, (-1 : Int))] else []).length ≤ 1 := by split <;> simp
    omega
theorem stepsOf_mem {y : Str} {s : Step} (ok : m.Ok) (h : s ∈ stepsOf y m.rs) : ∃ r, m.road s.1 = some r ∧ (s.2 = 1 ∨ s.2 = -1) ∧ (r.ends s.2).1 = y := by
  unfold stepsOf at h
  obtain ⟨r, hr, hs⟩ := List.mem_flatMap.mp h
  rcases List.mem_append.mp hs with q | q
  · split at q
    · rename_i e
      rw [List.mem_singleton.mp q]
      exact ⟨r, road_of ok hr, .inl rfl, e⟩
    · cases q
  · split at q
    · rename_i e
      rw [List.mem_singleton.mp q]
      exact ⟨r, road_of ok hr, .inr rfl, e⟩
    · cases q
theorem steps_pure (l : List Step) (k : Nat) : (l.map stD).all (noRef (k + 1)) = true := by
  rw [List.all_eq_true]
  intro x hx
  obtain ⟨s, _, rfl⟩ := List.mem_map.mp hx
  show [Dt.str s.1, .int s.2].all (noRef k) = true
  cases k <;> rfl
theorem law_steps_ok (ok : m.Ok) (hp : PureS S) {y : Str} (hy : PyData.strOk y = true) : m_law_steps_from [m.d, .str y] S = .ok (.lst ((stepsOf y m.rs).map stD)) S := by
  refine Pe.eq (v_fn ?_)
  unfold b_law_steps_from
  walk_at "dv"
  refine v_loop (fun ds en T => (∃ x3 x4 x5 x6 x7, en = [some m.d, some (.str y), some (.ref S.length), x3, x4, x5, x6, x7]) ∧ Jz S T ∧ ∃ a b : List Road, m.rs = a ++ b ∧ ds = b.map Road.d ∧ T[S.length]? = some (.lst ((stepsOf y a).map stD))) ⟨⟨_, _, _, _, _, rfl⟩, Jz.refl.push, [], m.rs, rfl, rfl, last_at⟩ ?_ ?_
  · rintro d ds en T ⟨⟨x3, x4, x5, x6, x7, rfl⟩, jz, a, b, el, e2, hT⟩
    cases b with
    | nil => cases e2
    | cons r b =>
      cases e2
      have hr : r ∈ m.rs := by rw [el]; simp
      have hle : (stepsOf y a).length ≤ 100 := by
        have h1 : a.length ≤ 8 := by
          have := ok.lr
          rw [el, List.length_append] at this
          omega
        have := stepsOf_len (y := y) a
        omega
      refine ⟨_, _, rfl, ?_⟩
      walk_at "dv"
      refine v_eqS (ok.sr r hr).2.1 hy ?_
      refine ⟨_, rfl, ?_⟩
      have second : ∀ (T1 : Store) (l1 : List Step), Jz S T1 → T1[S.length]? = some (.lst ((stepsOf y a ++ l1).map stD)) → l1 = (if r.b = y then [(r.n, (1 : Int))] else []) → l1.length ≤ 1 → Ps (mIfS (mB (mOp mEq (mVar 5) (mVar 1))) (mDrop (mApp1 (mVar 2) (mTup (mCons (mVar 3) (mCons (mNeg (mC (.int 1))) mNil))))) mNx [some m.d, some (.str y), some (.ref S.length), some (.str r.n), some (.str r.b), some (.str r.e), some (.int r.h), some (.int r.t)] T1)
          (fun f e2 S2 => match f with | .nx => (∃ x3 x4 x5 x6 x7, e2 = [some m.d, some (.str y), some (.ref S.length), x3, x4, x5, x6, x7]) ∧ Jz S S2 ∧ ∃ a b' : List Road, m.rs = a ++ b' ∧ b.map Road.d = b'.map Road.d ∧ S2[S.length]? = some (.lst ((stepsOf y a).map stD)) | _ => False) (fun _ _ _ => False) := by
        intro T1 l1 j1 hT1 el1 hl1
        walk_at "dv"
        refine v_eqS (ok.sr r hr).2.2 hy ?_
        refine ⟨_, rfl, ?_⟩
        refine v_dec (fun e => ?_) (fun e => ?_)
        · walk_at "dv"
          refine v_app1K rfl hT1 ?_
          walk_at "dv"
          refine ⟨_, hT1, by rw [List.length_map, List.length_append]; omega, ?_⟩
          refine ⟨⟨_, _, _, _, _, rfl⟩, j1.set (Nat.le_refl _), a ++ [r], b, by rw [el]; simp, rfl, ?_⟩
          rw [set_same hT1]
          have z : stepsOf y (a ++ [r]) = stepsOf y a ++ l1 ++ [(r.n, (-1 : Int))] := by
            unfold stepsOf
            rw [List.flatMap_append, List.flatMap_cons, List.flatMap_nil, List.append_nil, if_pos e, el1, List.append_assoc]
          rw [z]
          simp
        · walk_at "dv"
          refine ⟨⟨_, _, _, _, _, rfl⟩, j1, a ++ [r], b, by rw [el]; simp, rfl, ?_⟩
          have z : stepsOf y (a ++ [r]) = stepsOf y a ++ l1 := by
            unfold stepsOf
            rw [List.flatMap_append, List.flatMap_cons, List.flatMap_nil, List.append_nil, if_neg e, el1, List.append_nil]
          rw [z]
          exact hT1
      have fin2 : ∀ {r : RS} {P : Dv.Env → Store → Prop} {QS : Fl → Dv.Env → Store → Prop} {XS : Ex → Dv.Env → Store → Prop}, Ps r (fun f e2 S2 => match f with | .nx => P e2 S2 | _ => False) (fun _ _ _ => False) → (∀ e2 S2, P e2 S2 → QS .nx e2 S2) → Ps r QS XS := by
        intro r P QS XS h hq
        cases r with
        | ok f e2 S2 =>
          cases f with
          | nx => exact hq _ _ h
          | _ => exact h.elim
        | err x e S => exact h.elim
        | stuck => exact h.elim
      refine v_dec (fun e => ?_) (fun e => ?_)
      · walk_at "dv"
        refine v_app1K rfl hT ?_
        walk_at "dv"
        refine ⟨_, hT, by rw [List.length_map]; omega, ?_⟩
        refine fin2 (second _ [(r.n, 1)] (jz.set (Nat.le_refl _)) (by rw [set_same hT]; simp) (by rw [if_pos e]) (Nat.le_refl _)) fun _ _ z => z
      · walk_at "dv0"
        refine fin2 (second _ [] jz (by rw [List.append_nil]; exact hT) (by rw [if_neg e]) (Nat.zero_le _)) fun _ _ z => z
  · rintro en T ⟨⟨x3, x4, x5, x6, x7, rfl⟩, jz, a, b, el, e2, hT⟩
    have hb : b = [] := by simpa using e2.symm
    subst hb
    rw [List.append_nil] at el
    walk_at "dv"
    rw [← el] at hT
    refine v_finJ jz hp hT (Nat.le_refl _) (steps_pure _ 10) ?_
    exact ⟨rfl, rfl⟩
end
/-! ### a walk made, by value -/
section
variable {m : Mod} {S : Store}
theorem v_walk2 (ok : m.Ok) (hp : PureS S) {y z : Str} {t : Int} {l : Seg} (h : Path m y l z) (hy : y ∈ m.ys) (ht : t.natAbs ≤ 10 ^ 60) (hw : Within (10 ^ 60) l) (hl : l.length ≤ 200) {Q : Dt → Store → Prop} {X X' : Ex → Store → Prop} (q : Q (walkD m y t l) S) :
    Pe (m_Walk_dinit [.ref S.length, m.w, .str y, .lst (rowD t l)] (S ++ [.ins "Walk" [] []])) (fun r S2 => r = .non ∧ Pe (fin false S.length (.ref S.length) S2) Q X) X' := by
  refine walk_init_ok ok hp h hy ht hw hl ⟨rfl, ?_⟩
  exact v_finI Jz.refl.push hp last_at (Nat.le_refl _) (walk_pure y t l) q
end
end Lw
set_option Elab.async false
set_option linter.all false
set_option maxRecDepth 100000
set_option maxHeartbeats 4000000
set_option autoImplicit false
namespace Lw
open PySem Dv
/-! steps of our own words -/
local macro_rules | `(tactic| walk_at "num") => `(tactic| first | assumption | decide | omega)
local macro_rules | `(tactic| walk_at "dv0") => `(tactic| with_reducible first
  | refine v_seq ?_ | refine v_ifS ?_ | refine v_set ?_ | refine v_ret ?_ | refine v_asg ?_ | refine v_par ?_ | refine v_drop ?_ | refine v_nx ?_ | refine v_bk ?_ | refine v_ct ?_ | refine v_retN ?_ | refine v_for ?_
  | refine v_c ?_ | refine v_nil ?_ | refine v_cons ?_ | refine v_op ?_ | refine v_B ?_ | refine v_truth ?_ | refine v_andT ?_ | refine v_orT ?_ | refine v_notT ?_
  | refine v_andV ?_ | refine v_orV ?_ | refine v_notV ?_ | refine v_if ?_ | refine v_neg ?_ | refine v_chain ?_ | refine v_tup ?_ | refine v_lst ?_ | refine v_lstR ?_ | refine v_noPart ?_ | refine v_part ?_ | refine v_sl ?_
  | refine v_CB ?_ | refine v_call ?_ | refine v_abs ?_ | refine v_lc ?_ | refine v_yes ?_ | refine v_it ?_ | refine v_rng1 ?_ | refine v_rng2 ?_ | refine v_rng3 ?_ | refine v_T ?_ | refine v_F ?_
  | refine v_add ?_ | refine v_sub ?_ | refine v_iadd ?_ | refine v_lt ?_ | refine v_le ?_ | refine v_gt ?_ | refine v_ge ?_ | refine v_eqI ?_ | refine v_neI ?_ | refine v_eqB ?_ | refine v_neB ?_)
local macro_rules | `(tactic| walk_at "dv1") => `(tactic| first
  | (with_reducible refine' v_var ?h ?_); (case h => rfl)
  | (with_reducible refine' v_aug ?h ?_); (case h => rfl)
  | (with_reducible refine' v_div ?h1 ?h2 ?_); (case h1 => walk_at "num"); (case h2 => walk_at "num")
  | (with_reducible refine' v_mod ?h1 ?_); (case h1 => walk_at "num")
  | (with_reducible refine' v_pow ?h1 ?_); (case h1 => walk_at "num")
  | (with_reducible refine' v_mulR ?h1 ?_); (case h1 => walk_at "num")
  | (with_reducible refine' v_mulL ?h1 ?_); (case h1 => walk_at "num")
  | (with_reducible refine' v_fin ?h1 ?_); (case h1 => first | exact Or.inl rfl | exact Or.inr rfl | (refine Or.inr ?_; simp only [List.length_set, *]; done))
  | (with_reducible refine' v_ix ?h1 ?_); (case h1 => first | exact ixD_ref (by assumption) (by rfl) | rfl)
  | (with_reducible refine' v_len ?h1 ?_); (case h1 => first | exact lenD_ref (by assumption) | rfl)
  | (with_reducible refine' v_list ?h1 ?_); (case h1 => rfl)
  | (with_reducible refine' v_listR ?h1 ?_); (case h1 => rfl)
  | (with_reducible refine' v_tuple ?h1 ?_); (case h1 => rfl)
  | (with_reducible refine' v_isd ?h1 ?_); (case h1 => rfl)
  | (with_reducible refine' v_isiTy ?h1 ?h2 ?_); (case h1 => rfl); (case h2 => rfl)
  | (with_reducible refine' v_isiT ?h1 ?_); (case h1 => rfl))
local macro_rules | `(tactic| walk_at "dv2") => `(tactic| first
  | refine v_gsub (by rfl) (by rfl) (by assumption) (by rfl) (fun _ _ _ => ?_) | refine ⟨_, rfl, ?_⟩ | (with_reducible refine' ⟨rng_ok ?h1 ?h2, ?_⟩); (case h1 => omega); (case h2 => omega) | refine ⟨rfl, ?_⟩ | refine ⟨_, _, rfl, ?_⟩ | refine ⟨Nat.le_of_ble_eq_true rfl, ?_⟩)
local macro_rules | `(tactic| walk_at "dv3") => `(tactic| first
  | (with_reducible refine' v_dec (fun _ => ?_) (fun hn => absurd ?h hn)); (case h => first | assumption | omega | decide)
  | (with_reducible refine' v_dec (fun hn => absurd hn ?h) (fun _ => ?_)); (case h => first | assumption | omega | decide)
  | (with_reducible refine' v_ndec (fun _ => ?_) (fun hn => absurd hn ?h)); (case h => first | assumption | omega | decide)
  | (with_reducible refine' v_ndec (fun hn => absurd ?h hn) (fun _ => ?_)); (case h => first | assumption | omega | decide)
  | (with_reducible refine' v_bT ?h ?_); (case h => first | assumption | rfl)
  | (with_reducible refine' v_bF ?h ?_); (case h => first | assumption | rfl))
local macro_rules | `(tactic| walk_at "dv4") => `(tactic| with_reducible first
  | refine v_places ?_ | refine v_roads ?_ | refine v_over ?_ | refine v_line ?_ | refine v_spots ?_ | refine v_myards ?_ | refine v_mroads ?_ | refine v_mW (by decide +kernel) ?_ | refine v_mK (by decide +kernel) ?_
  | refine v_itX ?_ | refine v_ev ?_ | refine v_rev ?_ | refine v_zs ?_ | refine v_enum ?_ | refine v_enum2 ?_ | refine v_makeV ?_ | refine v_tryN ?_ | refine v_lc2 ?_ | refine v_fz ?_ | refine v_make ?_ | refine v_fldS ?_)
local macro_rules | `(tactic| walk_at "dv5") => `(tactic| first
  | refine ⟨_, _, rfl, rfl, ?_⟩ | refine ⟨⟨_, _, rfl⟩, ?_⟩ | refine ⟨⟨_, _, _, rfl⟩, ?_⟩ | refine ⟨_, _, _, rfl, ?_⟩ | refine Or.inl ⟨_, rfl, ?_⟩ | refine Or.inr ⟨_, (fun _ z => by cases z), rfl, ?_⟩)
local macro_rules | `(tactic| walk_at "dv") => `(tactic| repeat (first | walk_at "dv0" | walk_at "dv4" | walk_at "dv1" | walk_at "dv3" | walk_at "dv2" | walk_at "dv5"))
/-! ### rows that are drawn -/
theorem v_addR {x y : Dt} {xs ys : List Dt} {S : Store} {Q : Dt → Store → Prop} {X : Ex → Store → Prop} (h1 : asP S x = some xs) (h2 : asP S y = some ys) (hl : xs.length + ys.length ≤ 1000000) (q : Q (.ref S.length) (S ++ [.lst (xs ++ ys)])) : Pe (mAddR x y S) Q X := by
  unfold mAddR
  rw [h1, h2]
  dsimp only
  rw [if_pos hl]
  exact q
theorem PureS.set {S : Store} {k : Nat} {o : Ob} (h : PureS S) (ho : pureO o = true) : PureS (S.set k o) := by
  intro x hx
  rcases List.mem_or_eq_of_mem_set hx with z | z
  · exact h x z
  · rw [z]
    exact ho
theorem okD_steps {l : List Step} (h : ∀ s ∈ l, PyData.strOk s.1 = true) (k : Nat) : okD (k + 2) (.lst (l.map stD)) = true := by
  show (l.map stD).all (okD (k + 1)) = true
  rw [List.all_eq_true]
  intro x hx
  obtain ⟨s, hs, rfl⟩ := List.mem_map.mp hx
  exact okD_st (h s hs) k
theorem v_neNil {l : List Step} {S : Store} {Q : Dt → Store → Prop} {X : Ex → Store → Prop} (h : ∀ s ∈ l, PyData.strOk s.1 = true) (q : Q (.bl (!decide (l = []))) S) : Pe (mNe (.lst (l.map stD)) (.lst []) S) Q X := by
  refine v_ifok ⟨okD_steps h 10, rfl⟩ ?_
  have e : eqD (.lst (l.map stD)) (.lst []) = decide (l = []) := by
    cases l with
    | nil => rfl
    | cons s l => rfl
  show Q (.bl (!eqD (.lst (l.map stD)) (.lst []))) S
  rw [e]
  exact q
theorem und_ends (r : Road) {w : Int} (h : w = 1 ∨ w = -1) : r.ends (0 - w) = ((r.ends w).2, (r.ends w).1) := by
  rcases h with rfl | rfl <;> rfl
theorem Path.snoc {m : Mod} {y z : Str} {l : Seg} {s : Step} {t : Int} (h : Path m y (l ++ [(s, t)]) z) : ∃ r w, Path m y l w ∧ m.road s.1 = some r ∧ (s.2 = 1 ∨ s.2 = -1) ∧ (r.ends s.2).1 = w ∧ (r.ends s.2).2 = z := by
  induction l generalizing y with
  | nil =>
    cases h with
    | cons h1 h2 h3 p =>
      cases p
      exact ⟨_, _, .nil _, h1, h2, h3, rfl⟩
  | cons q l ih =>
    cases h with
    | cons h1 h2 h3 p =>
      obtain ⟨r, w, p', h4⟩ := ih p
      exact ⟨r, w, .cons h1 h2 h3 p', h4⟩
theorem Path.turns {m : Mod} {y z : Str} {l : Seg} {s : Step} {t u : Int} (h : Path m y (l ++ [(s, t)]) z) : Path m y (l ++ [(s, u)]) z := by
  obtain ⟨r, w, p, h1, h2, h3, h4⟩ := h.snoc
  rw [← h4]
  exact p.app (Path.one h1 h2 h3)
theorem rule_b {m : Mod} (ok : m.Ok) {n : Str} {r : Road} (h : m.road n = some r) (w : Int) : ((r.rule w).1 ≠ 0 ∧ (r.rule w).1.natAbs ≤ 99) ∧ (r.rule w).2 ≠ 0 ∧ (r.rule w).2.natAbs ≤ 99 := by
  obtain ⟨hr, _⟩ := road_in h
  have := ok.th r hr
  unfold Road.rule
  split
  · exact this
  · exact ⟨this.2, this.1⟩
theorem row_snoc (t : Int) (l : Seg) (s : Step) (u : Int) : rowD t (l ++ [(s, u)]) = (.int t :: (segD l ++ [stD s])) ++ [.int u] := by
  show Dt.int t :: segD (l ++ [(s, u)]) = _
  rw [segD_app]
  simp [segD]
theorem row_len (t : Int) (l : Seg) : (rowD t l).length = 2 * l.length + 1 := by rw [List.length_cons, segD_len]
theorem row_at2 (t : Int) (l : Seg) (s : Step) (u : Int) : L2.atI (rowD t (l ++ [(s, u)])) (-2) = some (stD s) := by
  have hl := row_len t (l ++ [(s, u)])
  rw [List.length_append, List.length_singleton] at hl
  have e : L2.ixN (rowD t (l ++ [(s, u)])).length (-2) = some (2 * l.length + 1) := by
    rw [hl]
    unfold L2.ixN
    rw [if_neg (by decide), if_pos (by omega)]
    congr 1
    omega
  unfold L2.atI
  rw [e]
  show (rowD t (l ++ [(s, u)]))[2 * l.length + 1]? = some (stD s)
  rw [row_snoc, List.cons_append, List.getElem?_cons_succ, List.append_assoc, List.getElem?_append_right (by rw [segD_len]; exact Nat.le_refl _), segD_len, Nat.sub_self]
  rfl
theorem row_ixl (t : Int) (l : Seg) (s : Step) (u : Int) : L2.ixN (rowD t (l ++ [(s, u)])).length (-1) = some (2 * l.length + 2) := by
  rw [row_len, List.length_append, List.length_singleton]
  unfold L2.ixN
  rw [if_neg (by decide), if_pos (by omega)]
  congr 1
  omega
theorem row_setl (t : Int) (l : Seg) (s : Step) (u v : Int) : (rowD t (l ++ [(s, u)])).set (2 * l.length + 2) (.int v) = rowD t (l ++ [(s, v)]) := by
  rw [row_snoc, row_snoc, List.set_append_right _ _ (by simp [segD_len])]
  simp [segD_len]
theorem row_add (t : Int) (l : Seg) (s : Step) (u : Int) : rowD t l ++ [stD s, .int u] = rowD t (l ++ [(s, u)]) := by
  rw [row_snoc]
  simp
theorem rowD_pure_o (t : Int) (l : Seg) : pureO (.lst (rowD t l)) = true := rowD_pure t l 10
section
variable {m : Mod} {S : Store} {i : Nat}
theorem turns_ok (hF : FlowAt S i) {far : Int} (h0 : 0 ≤ far) (h1 : far ≤ 10000) {Q : Dt → Store → Prop} {X : Ex → Store → Prop} (q : ∀ v S', v.natAbs ≤ far.natAbs + 2 → Fz i S S' → Q (.int v) S') : Pe (m_law_turns [.ref i, .int far] S) Q X := by
  refine v_fn ?_
  unfold b_law_turns
  walk_at "dv"
  refine pick_fz hF (Nat.le_of_ble_eq_true rfl) (Nat.le_of_ble_eq_true rfl) fun d S1 hd z1 => ?_
  obtain ⟨a, rfl, ha⟩ : ∃ a : Int, d = .int a ∧ a.natAbs ≤ 1 := by
    simp only [List.mem_cons, List.not_mem_nil, or_false] at hd
    rcases hd with rfl | rfl | rfl | rfl <;> exact ⟨_, rfl, by decide⟩
  walk_at "dv"
  refine draw_fz z1.flow (by decide) (by decide) fun b S2 b0 b1 z2 => ?_
  walk_at "dv"
  refine draw_fz z2.flow (by omega) ?_ fun c S3 c0 c1 z3 => ?_
  · have := Nat.log2_lt (n := (2 * far + 1).natAbs) (k := 64) (by omega)
    omega
  walk_at "dv"
  refine v_fin (.inr (((z1.trans z2).trans z3).len)) ?_
  refine q _ _ ?_ ((z1.trans z2).trans z3)
  have : (a * b).natAbs ≤ 2 := by
    rw [Int.natAbs_mul]
    have := Nat.mul_le_mul ha (show b.natAbs ≤ 2 by omega)
    omega
  omega
theorem drawn_row_ok (ok : m.Ok) (hp : PureS S) (hF : FlowAt S i) {y : Str} (hy : y ∈ m.ys) {many far : Int} (hm0 : 0 ≤ many) (hm1 : many ≤ 1000) (h0 : 0 ≤ far) (h1 : far ≤ 10000) {Q : Dt → Store → Prop} {X : Ex → Store → Prop}
    (q : ∀ t l z S', Path m y l z → l.length ≤ many.natAbs → t.natAbs ≤ far.natAbs + 200 → Within (far.natAbs + 200) l → Fz i S S' → Q (.lst (rowD t l)) S') : Pe (m_law_drawn_row [.ref i, m.d, .str y, .int many, .int far] S) Q X := by
  refine v_fn ?_
  unfold b_law_drawn_row
  walk_at "dv"
  refine turns_ok hF h0 h1 fun t0 S1 ht0 z1 => ?_
  walk_at "dv"
  refine v_loop (fun ds en T => ∃ (k : Nat) (x7 x8 x9 : Option Dt) (w : Str) (t : Int) (l : Seg), en = [some (.ref i), some m.d, some (.str y), some (.int many), some (.int far), some (.str w), some (.ref k), x7, x8, x9] ∧ Bz i S T ∧ PureS T ∧ S.length ≤ k ∧ T[k]? = some (.lst (rowD t l)) ∧
      Path m y l w ∧ ds.length + l.length ≤ many.natAbs ∧ t.natAbs ≤ far.natAbs + 200 ∧ Within (far.natAbs + 200) l)
    ⟨S1.length, _, _, _, y, t0, [], rfl, ((Bz.refl hF).draw z1).push, (z1.pure hp).push rfl, by rw [z1.len]; exact Nat.le_refl _, last_at, .nil y, by simp [rangeD]; omega, by omega, fun p hp => by cases hp⟩ ?_ ?_
  · rintro d ds en T ⟨k, x7, x8, x9, w, t, l, rfl, bz, pT, hk, hT, pl, hlen, ht, hw⟩
    have hwy : w ∈ m.ys := pl.to_in ok hy
    have hlen' : ds.length + l.length + 1 ≤ many.natAbs := by
      rw [List.length_cons] at hlen
      omega
    refine ⟨_, _, rfl, ?_⟩
    walk_at "dv"
    refine Pe.of (law_steps_ok ok pT (ok.sy w hwy)) ?_
    walk_at "dv"
    refine v_neNil (fun s hs => by
      obtain ⟨r, h1, _⟩ := stepsOf_mem ok hs
      obtain ⟨hr, e⟩ := road_in h1
      rw [← e]
      exact (ok.sr r hr).1) ?_
    refine ⟨_, rfl, ?_⟩
    refine v_ndec (fun hne => ?_) (fun hnil => ?_)
    · walk_at "dv"
      refine pick_fz bz.flow (by rw [List.length_map]; exact List.length_pos_iff.mpr hne) (by rw [List.length_map]; have := stepsOf_len (y := w) m.rs; have := ok.lr; omega) fun d T1 hd z2 => ?_
      obtain ⟨s, hs, rfl⟩ := List.mem_map.mp hd
      obtain ⟨r, hr, hsw, hse⟩ := stepsOf_mem ok hs
      have hki : k ≠ i := by have := bz.lt; omega
      have hT1 : T1[k]? = some (.lst (rowD t l)) := (z2.oth k hki).trans hT
      -- behind the step's choice
      have rest : ∀ (T2 : Store) (s : Step) (r : Road) (t : Int) (l : Seg) (x : Option Dt), m.road s.1 = some r → (s.2 = 1 ∨ s.2 = -1) → (r.ends s.2).1 = w → Bz i S T2 → PureS T2 → T2[k]? = some (.lst (rowD t l)) → Path m y l w → ds.length + l.length + 1 ≤ many.natAbs → t.natAbs ≤ far.natAbs + 200 → Within (far.natAbs + 200) l →
          ∀ {QS : Fl → Dv.Env → Store → Prop} {XS : Ex → Dv.Env → Store → Prop}, (∀ e T3, (∃ (k : Nat) (x7 x8 x9 : Option Dt) (w : Str) (t : Int) (l : Seg), e = [some (.ref i), some m.d, some (.str y), some (.int many), some (.int far), some (.str w), some (.ref k), x7, x8, x9] ∧ Bz i S T3 ∧ PureS T3 ∧ S.length ≤ k ∧ T3[k]? = some (.lst (rowD t l)) ∧
            Path m y l w ∧ ds.length + l.length ≤ many.natAbs ∧ t.natAbs ≤ far.natAbs + 200 ∧ Within (far.natAbs + 200) l) → QS .nx e T3) →
          Ps (mSeq (mSet 5 (mOp mIx (mCall 2 m_law_ends (mCons (mVar 1) (mCons (mVar 9) mNil))) (mC (.int 1))))
            (mSet 6 (mOp mAddR (mVar 6) (mLst (mCons (mVar 9) (mCons (mCall 2 m_law_turns (mCons (mVar 0) (mCons (mVar 4) mNil))) mNil))))) [some (.ref i), some m.d, some (.str y), some (.int many), some (.int far), some (.str w), some (.ref k), x, some (.lst ((stepsOf w m.rs).map stD)), some (stD s)] T2) QS XS := by
        intro T2 s r t l x hr hsw hse b2 p2 hT2 pl hlen ht hw QS XS qq
        walk_at "dv"
        refine Pe.of (law_ends_ok ok hr) ?_
        walk_at "dv"
        refine turns_ok b2.flow h0 h1 fun u T3 hu z3 => ?_
        walk_at "dv"
        have hT3 : T3[k]? = some (.lst (rowD t l)) := (z3.oth k hki).trans hT2
        have hll := row_len t l
        refine v_addR (xs := rowD t l) (ys := [stD s, .int u]) (by simp [asP, hT3]) rfl (by rw [hll]; simp; omega) ?_
        refine qq _ _ ⟨T3.length, _, _, _, (r.ends s.2).2, t, l ++ [(s, u)], rfl, (b2.draw z3).push, (z3.pure p2).push (by rw [row_add]; exact rowD_pure_o _ _), ?_, ?_, pl.app (by rw [← hse]; exact Path.one hr hsw rfl), ?_, ht, ?_⟩
        · have := (b2.draw z3).le
          exact this
        · rw [last_at, row_add]
        · rw [List.length_append, List.length_singleton]
          omega
        · intro p hp
          rcases List.mem_append.mp hp with z | z
          · exact hw p z
          · rw [List.mem_singleton.mp z]
            show u.natAbs ≤ _
            omega
      generalize hR : (mSeq (mSet 5 (mOp mIx (mCall 2 m_law_ends (mCons (mVar 1) (mCons (mVar 9) mNil))) (mC (.int 1)))) (mSet 6 (mOp mAddR (mVar 6) (mLst (mCons (mVar 9) (mCons (mCall 2 m_law_turns (mCons (mVar 0) (mCons (mVar 4) mNil))) mNil)))))) = R at rest ⊢
      rcases List.eq_nil_or_concat l with hl | ⟨l', ⟨s0, u0⟩, hl⟩
      · subst hl
        walk_at "dv"
        exact rest T1 s r t [] _ hr hsw hse (bz.draw z2) (z2.pure pT) hT1 pl hlen' ht hw fun e T3 z => z
      · rw [List.concat_eq_append] at hl
        subst hl
        obtain ⟨r0, w0, p0, h01, h02, h03, h04⟩ := pl.snoc
        have hlen1 : ((rowD t (l' ++ [(s0, u0)])).length : Int) = 2 * l'.length + 3 := by
          rw [row_len, List.length_append, List.length_singleton]
          omega
        walk_at "dv"
        · refine draw_fz (bz.draw z2).flow (by decide) (by decide) fun c T2 c0 c1 z3 => ?_
          have hT2 : T2[k]? = some (.lst (rowD t (l' ++ [(s0, u0)]))) := (z3.oth k hki).trans hT1
          have b2 := (bz.draw z2).draw z3
          have p2 := z3.pure (z2.pure pT)
          walk_at "dv"
          refine v_dec (fun _ => ?_) (fun _ => ?_)
          · walk_at "dv"
            refine v_ix (ixD_ref hT2 (row_at2 t l' s0 u0)) ?_
            walk_at "dv"
            refine Pe.of law_undone_ok ?_
            have hu : m.road (und s0).1 = some r0 := h01
            walk_at "dv"
            refine Pe.of (law_rule_ok ok hu) ?_
            walk_at "dv"
            refine draw_fz b2.flow (by decide) (by decide) fun f T4 f0 f1 z4 => ?_
            have hT4 : T4[k]? = some (.lst (rowD t (l' ++ [(s0, u0)]))) := (z4.oth k hki).trans hT2
            have hb := (rule_b ok hu (und s0).2).1.2
            have hf : (f - 2).natAbs ≤ 2 := by omega
            refine v_c (v_sub ?_)
            refine v_mulL (by omega) ?_
            refine v_gsub (n := 2 * l'.length + 2) rfl rfl hT4 (row_ixl t l' s0 u0) fun T5 e5 h5 => ?_
            have hB : ((r0.rule (und s0).2).1 * (f - 2)).natAbs ≤ far.natAbs + 200 := by
              rw [Int.natAbs_mul]
              have := Nat.mul_le_mul hb hf
              omega
            rw [row_setl] at h5 e5
            rw [e5] at h5 ⊢
            refine rest _ (und s0) r0 t (l' ++ [(s0, (r0.rule (und s0).2).1 * (f - 2))]) _ hu ?_ ?_ ((b2.draw z4).set hk) ((z4.pure p2).set (rowD_pure_o _ _)) h5 pl.turns ?_ ht ?_ fun e T3 z => z
            · rcases h02 with e | e
              · exact .inr (by show 0 - s0.2 = -1; rw [e]; rfl)
              · exact .inl (by show 0 - s0.2 = 1; rw [e]; rfl)
            · show (r0.ends (0 - s0.2)).1 = w
              rw [und_ends r0 h02]
              exact h04
            · rw [List.length_append, List.length_singleton] at hlen' ⊢
              exact hlen'
            · intro p hp
              rcases List.mem_append.mp hp with z | z
              · exact hw p (List.mem_append.mpr (.inl z))
              · rw [List.mem_singleton.mp z]
                exact hB
          · walk_at "dv0"
            exact rest T2 s r t _ _ hr hsw hse b2 p2 hT2 pl hlen' ht hw fun e T3 z => z
    · walk_at "dv0"
      exact ⟨k, _, _, _, w, t, l, rfl, bz, pT, hk, hT, pl, by omega, ht, hw⟩
  · rintro en T ⟨k, x7, x8, x9, w, t, l, rfl, bz, pT, hk, hT, pl, hlen, ht, hw⟩
    walk_at "dv"
    refine v_finB bz hp hT hk (rowD_pure t l 10) fun S' zz => ?_
    exact q t l w S' pl (by simp at hlen; omega) ht hw zz
end
end Lw
set_option Elab.async false
set_option linter.all false
set_option maxRecDepth 100000
set_option maxHeartbeats 4000000
set_option autoImplicit false
namespace Lw
open PySem Dv
/-! steps of our own words -/
local macro_rules | `(tactic| walk_at "num") => `(tactic| first | assumption | decide | omega)
local macro_rules | `(tactic| walk_at "dv0") => `(tactic| with_reducible first
  | refine v_seq ?_ | refine v_ifS ?_ | refine v_set ?_ | refine v_ret ?_ | refine v_asg ?_ | refine v_par ?_ | refine v_drop ?_ | refine v_nx ?_ | refine v_bk ?_ | refine v_ct ?_ | refine v_retN ?_ | refine v_for ?_
  | refine v_c ?_ | refine v_nil ?_ | refine v_cons ?_ | refine v_op ?_ | refine v_B ?_ | refine v_truth ?_ | refine v_andT ?_ | refine v_orT ?_ | refine v_notT ?_
  | refine v_andV ?_ | refine v_orV ?_ | refine v_notV ?_ | refine v_if ?_ | refine v_neg ?_ | refine v_chain ?_ | refine v_tup ?_ | refine v_lst ?_ | refine v_lstR ?_ | refine v_noPart ?_ | refine v_part ?_ | refine v_sl ?_
  | refine v_CB ?_ | refine v_call ?_ | refine v_abs ?_ | refine v_lc ?_ | refine v_yes ?_ | refine v_it ?_ | refine v_rng1 ?_ | refine v_rng2 ?_ | refine v_rng3 ?_ | refine v_T ?_ | refine v_F ?_
  | refine v_add ?_ | refine v_sub ?_ | refine v_iadd ?_ | refine v_lt ?_ | refine v_le ?_ | refine v_gt ?_ | refine v_ge ?_ | refine v_eqI ?_ | refine v_neI ?_ | refine v_eqB ?_ | refine v_neB ?_)
local macro_rules | `(tactic| walk_at "dv1") => `(tactic| first
  | (with_reducible refine' v_var ?h ?_); (case h => rfl)
  | (with_reducible refine' v_aug ?h ?_); (case h => rfl)
  | (with_reducible refine' v_div ?h1 ?h2 ?_); (case h1 => walk_at "num"); (case h2 => walk_at "num")
  | (with_reducible refine' v_mod ?h1 ?_); (case h1 => walk_at "num")
  | (with_reducible refine' v_pow ?h1 ?_); (case h1 => walk_at "num")
  | (with_reducible refine' v_mulR ?h1 ?_); (case h1 => walk_at "num")
  | (with_reducible refine' v_mulL ?h1 ?_); (case h1 => walk_at "num")
  | (with_reducible refine' v_fin ?h1 ?_); (case h1 => first | exact Or.inl rfl | exact Or.inr rfl | (refine Or.inr ?_; simp only [List.length_set, *]; done))
  | (with_reducible refine' v_ix ?h1 ?_); (case h1 => first | exact ixD_ref (by assumption) (by rfl) | rfl)
  | (with_reducible refine' v_len ?h1 ?_); (case h1 => first | exact lenD_ref (by assumption) | rfl)
  | (with_reducible refine' v_list ?h1 ?_); (case h1 => rfl)
  | (with_reducible refine' v_listR ?h1 ?_); (case h1 => rfl)
  | (with_reducible refine' v_tuple ?h1 ?_); (case h1 => rfl)
  | (with_reducible refine' v_isd ?h1 ?_); (case h1 => rfl)
  | (with_reducible refine' v_isiTy ?h1 ?h2 ?_); (case h1 => rfl); (case h2 => rfl)
  | (with_reducible refine' v_isiT ?h1 ?_); (case h1 => rfl))
local macro_rules | `(tactic| walk_at "dv2") => `(tactic| first
  | refine v_gsub (by rfl) (by rfl) (by assumption) (by rfl) (fun _ _ _ => ?_) | refine ⟨_, rfl, ?_⟩ | (with_reducible refine' ⟨rng_ok ?h1 ?h2, ?_⟩); (case h1 => omega); (case h2 => omega) | refine ⟨rfl, ?_⟩ | refine ⟨_, _, rfl, ?_⟩ | refine ⟨Nat.le_of_ble_eq_true rfl, ?_⟩)
local macro_rules | `(tactic| walk_at "dv3") => `(tactic| first
  | (with_reducible refine' v_dec (fun _ => ?_) (fun hn => absurd ?h hn)); (case h => first | assumption | omega | decide)
  | (with_reducible refine' v_dec (fun hn => absurd hn ?h) (fun _ => ?_)); (case h => first | assumption | omega | decide)
  | (with_reducible refine' v_ndec (fun _ => ?_) (fun hn => absurd hn ?h)); (case h => first | assumption | omega | decide)
  | (with_reducible refine' v_ndec (fun hn => absurd ?h hn) (fun _ => ?_)); (case h => first | assumption | omega | decide)
  | (with_reducible refine' v_bT ?h ?_); (case h => first | assumption | rfl)
  | (with_reducible refine' v_bF ?h ?_); (case h => first | assumption | rfl))
local macro_rules | `(tactic| walk_at "dv4") => `(tactic| with_reducible first
  | refine v_places ?_ | refine v_roads ?_ | refine v_over ?_ | refine v_line ?_ | refine v_spots ?_ | refine v_myards ?_ | refine v_mroads ?_ | refine v_mW (by decide +kernel) ?_ | refine v_mK (by decide +kernel) ?_
  | refine v_itX ?_ | refine v_ev ?_ | refine v_rev ?_ | refine v_zs ?_ | refine v_enum ?_ | refine v_enum2 ?_ | refine v_makeV ?_ | refine v_tryN ?_ | refine v_lc2 ?_ | refine v_fz ?_ | refine v_make ?_ | refine v_fldS ?_)
local macro_rules | `(tactic| walk_at "dv5") => `(tactic| first
  | refine ⟨_, _, rfl, rfl, ?_⟩ | refine ⟨⟨_, _, rfl⟩, ?_⟩ | refine ⟨⟨_, _, _, rfl⟩, ?_⟩ | refine ⟨_, _, _, rfl, ?_⟩ | refine Or.inl ⟨_, rfl, ?_⟩ | refine Or.inr ⟨_, (fun _ z => by cases z), rfl, ?_⟩)
local macro_rules | `(tactic| walk_at "dv") => `(tactic| repeat (first | walk_at "dv0" | walk_at "dv4" | walk_at "dv1" | walk_at "dv3" | walk_at "dv2" | walk_at "dv5"))
/-! ### exchanges of rows -/
theorem evens_seg : ∀ l : Seg, evens (segD l) = l.map fun p => stD p.1
  | [] => rfl
  | p :: l => by
    show evens (stD p.1 :: .int p.2 :: segD l) = _
    rw [evens, evens_seg l]
    rfl
inductive Exch where
  | pass (at_ : Nat) (many : Int) | fold (at_ : Nat) | unfold (at_ : Nat) (s : Step) (many : Int)
def Exch.d : Exch → Dt
  | .pass k n => .tup [.str "pass", .int k, .int n]
  | .fold k => .tup [.str "fold", .int k]
  | .unfold k s n => .tup [.str "unfold", .int k, stD s, .int n]
section
variable {m : Mod} {S : Store} {i : Nat}
theorem law_yards_ok (ok : m.Ok) (hp : PureS S) {y z : Str} {t : Int} {l : Seg} (h : Path m y l z) (hl : l.length ≤ 100000) : m_law_yards_on [m.d, .str y, .lst (rowD t l)] S = .ok (.lst ((spots m y l).map Dt.str)) S := by
  refine Pe.eq (v_fn ?_)
  unfold b_law_yards_on
  walk_at "dv"
  rw [show evens (List.drop 1 (rowD t l)) = l.map fun p => stD p.1 from evens_seg l]
  refine v_loop (fun ds en T => (∃ x4, en = [some m.d, some (.str y), some (.lst (rowD t l)), some (.ref S.length), x4]) ∧ Jz S T ∧ ∃ (a b : Seg) (w : Str), l = a ++ b ∧ ds = b.map (fun p => stD p.1) ∧ Path m w b z ∧ T[S.length]? = some (.lst ((spots m y a).map Dt.str)))
    ⟨⟨_, rfl⟩, Jz.refl.push, [], l, y, rfl, rfl, h, last_at⟩ ?_ ?_
  · rintro d ds en T ⟨⟨x4, rfl⟩, jz, a, b, w, el, e2, pb, hT⟩
    cases pb with
    | nil => cases e2
    | @cons _ s u b' _ r h1 h2 h3 p' =>
      cases e2
      refine ⟨_, _, rfl, ?_⟩
      walk_at "dv0"
      refine v_app1K rfl hT ?_
      walk_at "dv"
      refine Pe.of (law_ends_ok ok h1) ?_
      walk_at "dv"
      have hle : (spots m y a).length ≤ 100001 := by
        have : a.length ≤ l.length := by rw [el, List.length_append]; omega
        simp [spots]
        omega
      refine ⟨_, hT, by rw [List.length_map]; omega, ?_⟩
      have e2 : goes m s = (r.ends s.2).2 := by simp [goes, h1]
      refine ⟨⟨_, rfl⟩, jz.set (Nat.le_refl _), a ++ [(s, u)], b', (r.ends s.2).2, by rw [el]; simp, rfl, p', ?_⟩
      rw [set_same hT]
      simp [spots, e2]
  · rintro en T ⟨⟨x4, rfl⟩, jz, a, b, w, el, e2, pb, hT⟩
    have hb : b = [] := by simpa using e2.symm
    subst hb
    rw [List.append_nil] at el
    subst el
    walk_at "dv"
    exact v_finJ jz hp hT (Nat.le_refl _) (strs_pure _ _) ⟨rfl, rfl⟩
theorem spots_len (y : Str) (l : Seg) : (spots m y l).length = l.length + 1 := by simp [spots]
end
end Lw
set_option Elab.async false
set_option linter.all false
set_option maxRecDepth 100000
set_option maxHeartbeats 4000000
set_option autoImplicit false
namespace Lw
open PySem Dv
/-! steps of our own words -/
local macro_rules | `(tactic| walk_at "num") => `(tactic| first | assumption | decide | omega)
local macro_rules | `(tactic| walk_at "dv0") => `(tactic| with_reducible first
  | refine v_seq ?_ | refine v_ifS ?_ | refine v_set ?_ | refine v_ret ?_ | refine v_asg ?_ | refine v_par ?_ | refine v_drop ?_ | refine v_nx ?_ | refine v_bk ?_ | refine v_ct ?_ | refine v_retN ?_ | refine v_for ?_
  | refine v_c ?_ | refine v_nil ?_ | refine v_cons ?_ | refine v_op ?_ | refine v_B ?_ | refine v_truth ?_ | refine v_andT ?_ | refine v_orT ?_ | refine v_notT ?_
  | refine v_andV ?_ | refine v_orV ?_ | refine v_notV ?_ | refine v_if ?_ | refine v_neg ?_ | refine v_chain ?_ | refine v_tup ?_ | refine v_lst ?_ | refine v_lstR ?_ | refine v_noPart ?_ | refine v_part ?_ | refine v_sl ?_
  | refine v_CB ?_ | refine v_call ?_ | refine v_abs ?_ | refine v_lc ?_ | refine v_yes ?_ | refine v_it ?_ | refine v_rng1 ?_ | refine v_rng2 ?_ | refine v_rng3 ?_ | refine v_T ?_ | refine v_F ?_
  | refine v_add ?_ | refine v_sub ?_ | refine v_iadd ?_ | refine v_lt ?_ | refine v_le ?_ | refine v_gt ?_ | refine v_ge ?_ | refine v_eqI ?_ | refine v_neI ?_ | refine v_eqB ?_ | refine v_neB ?_)
local macro_rules | `(tactic| walk_at "dv1") => `(tactic| first
  | (with_reducible refine' v_var ?h ?_); (case h => rfl)
  | (with_reducible refine' v_aug ?h ?_); (case h => rfl)
  | (with_reducible refine' v_div ?h1 ?h2 ?_); (case h1 => walk_at "num"); (case h2 => walk_at "num")
  | (with_reducible refine' v_mod ?h1 ?_); (case h1 => walk_at "num")
  | (with_reducible refine' v_pow ?h1 ?_); (case h1 => walk_at "num")
  | (with_reducible refine' v_mulR ?h1 ?_); (case h1 => walk_at "num")
  | (with_reducible refine' v_mulL ?h1 ?_); (case h1 => walk_at "num")
  | (with_reducible refine' v_fin ?h1 ?_); (case h1 => first | exact Or.inl rfl | exact Or.inr rfl | (refine Or.inr ?_; simp only [List.length_set, *]; done))
  | (with_reducible refine' v_ix ?h1 ?_); (case h1 => first | exact ixD_ref (by assumption) (by rfl) | rfl)
  | (with_reducible refine' v_len ?h1 ?_); (case h1 => first | exact lenD_ref (by assumption) | rfl)
  | (with_reducible refine' v_list ?h1 ?_); (case h1 => rfl)
  | (with_reducible refine' v_listR ?h1 ?_); (case h1 => rfl)
  | (with_reducible refine' v_tuple ?h1 ?_); (case h1 => rfl)
  | (with_reducible refine' v_isd ?h1 ?_); (case h1 => rfl)
  | (with_reducible refine' v_isiTy ?h1 ?h2 ?_); (case h1 => rfl); (case h2 => rfl)
  | (with_reducible refine' v_isiT ?h1 ?_); (case h1 => rfl))
local macro_rules | `(tactic| walk_at "dv2") => `(tactic| first
  | refine v_gsub (by rfl) (by rfl) (by assumption) (by rfl) (fun _ _ _ => ?_) | refine ⟨_, rfl, ?_⟩ | (with_reducible refine' ⟨rng_ok ?h1 ?h2, ?_⟩); (case h1 => omega); (case h2 => omega) | refine ⟨rfl, ?_⟩ | refine ⟨_, _, rfl, ?_⟩ | refine ⟨Nat.le_of_ble_eq_true rfl, ?_⟩)
local macro_rules | `(tactic| walk_at "dv3") => `(tactic| first
  | (with_reducible refine' v_dec (fun _ => ?_) (fun hn => absurd ?h hn)); (case h => first | assumption | omega | decide)
  | (with_reducible refine' v_dec (fun hn => absurd hn ?h) (fun _ => ?_)); (case h => first | assumption | omega | decide)
  | (with_reducible refine' v_ndec (fun _ => ?_) (fun hn => absurd hn ?h)); (case h => first | assumption | omega | decide)
  | (with_reducible refine' v_ndec (fun hn => absurd ?h hn) (fun _ => ?_)); (case h => first | assumption | omega | decide)
  | (with_reducible refine' v_bT ?h ?_); (case h => first | assumption | rfl)
  | (with_reducible refine' v_bF ?h ?_); (case h => first | assumption | rfl))
local macro_rules | `(tactic| walk_at "dv4") => `(tactic| with_reducible first
  | refine v_places ?_ | refine v_roads ?_ | refine v_over ?_ | refine v_line ?_ | refine v_spots ?_ | refine v_myards ?_ | refine v_mroads ?_ | refine v_mW (by decide +kernel) ?_ | refine v_mK (by decide +kernel) ?_
  | refine v_itX ?_ | refine v_ev ?_ | refine v_rev ?_ | refine v_zs ?_ | refine v_enum ?_ | refine v_enum2 ?_ | refine v_makeV ?_ | refine v_tryN ?_ | refine v_lc2 ?_ | refine v_fz ?_ | refine v_make ?_ | refine v_fldS ?_)
local macro_rules | `(tactic| walk_at "dv5") => `(tactic| first
  | refine ⟨_, _, rfl, rfl, ?_⟩ | refine ⟨⟨_, _, rfl⟩, ?_⟩ | refine ⟨⟨_, _, _, rfl⟩, ?_⟩ | refine ⟨_, _, _, rfl, ?_⟩ | refine Or.inl ⟨_, rfl, ?_⟩ | refine Or.inr ⟨_, (fun _ z => by cases z), rfl, ?_⟩)
local macro_rules | `(tactic| walk_at "dv") => `(tactic| repeat (first | walk_at "dv0" | walk_at "dv4" | walk_at "dv1" | walk_at "dv3" | walk_at "dv2" | walk_at "dv5"))
/-! ### rows cut at a place -/
theorem v_ps1 {en : Dv.Env} {S : Store} {m : Dv.Env → Store → R Dt} {ms : List (Dv.Env → Store → R Dt)} {QA : List Dt → Store → Prop} {X : Ex → Store → Prop} (h : Pe (m en S) (fun d S1 => Pe (mPs ms en S1) (fun ds S2 => QA (d :: ds) S2) X) X) : Pe (mPs (m :: ms) en S) QA X :=
  Pe.bind (h.imp (fun d S1 k => Pe.bind (k.imp (fun _ _ q => q) fun _ _ z => z)) fun _ _ z => z)
theorem v_dict {en : Dv.Env} {S : Store} {ks : List Str} {ms : List (Dv.Env → Store → R Dt)} {Q : Dt → Store → Prop} {X : Ex → Store → Prop} (h : Pe (mPs ms en S) (fun ds S1 => ds.length = ks.length ∧ Q (.dct (ks.map Sum.inr) ds) S1) X) : Pe (mDict ks ms en S) Q X := by
  refine Pe.bind (h.imp (fun ds S1 ⟨hl, q⟩ => ?_) fun _ _ z => z)
  rw [if_pos hl]
  exact q
end Lw
set_option Elab.async false
set_option linter.all false
set_option maxRecDepth 100000
set_option maxHeartbeats 4000000
set_option autoImplicit false
namespace Lw
open PySem Dv
/-! steps of our own words -/
local macro_rules | `(tactic| walk_at "num") => `(tactic| first | assumption | decide | omega)
local macro_rules | `(tactic| walk_at "dv0") => `(tactic| with_reducible first
  | refine v_seq ?_ | refine v_ifS ?_ | refine v_set ?_ | refine v_ret ?_ | refine v_asg ?_ | refine v_par ?_ | refine v_drop ?_ | refine v_nx ?_ | refine v_bk ?_ | refine v_ct ?_ | refine v_retN ?_ | refine v_for ?_
  | refine v_c ?_ | refine v_nil ?_ | refine v_cons ?_ | refine v_op ?_ | refine v_B ?_ | refine v_truth ?_ | refine v_andT ?_ | refine v_orT ?_ | refine v_notT ?_
  | refine v_andV ?_ | refine v_orV ?_ | refine v_notV ?_ | refine v_if ?_ | refine v_neg ?_ | refine v_chain ?_ | refine v_tup ?_ | refine v_lst ?_ | refine v_lstR ?_ | refine v_noPart ?_ | refine v_part ?_ | refine v_sl ?_
  | refine v_CB ?_ | refine v_call ?_ | refine v_abs ?_ | refine v_lc ?_ | refine v_yes ?_ | refine v_it ?_ | refine v_rng1 ?_ | refine v_rng2 ?_ | refine v_rng3 ?_ | refine v_T ?_ | refine v_F ?_
  | refine v_add ?_ | refine v_sub ?_ | refine v_iadd ?_ | refine v_lt ?_ | refine v_le ?_ | refine v_gt ?_ | refine v_ge ?_ | refine v_eqI ?_ | refine v_neI ?_ | refine v_eqB ?_ | refine v_neB ?_)
local macro_rules | `(tactic| walk_at "dv1") => `(tactic| first
  | (with_reducible refine' v_var ?h ?_); (case h => rfl)
  | (with_reducible refine' v_aug ?h ?_); (case h => rfl)
  | (with_reducible refine' v_div ?h1 ?h2 ?_); (case h1 => walk_at "num"); (case h2 => walk_at "num")
  | (with_reducible refine' v_mod ?h1 ?_); (case h1 => walk_at "num")
  | (with_reducible refine' v_pow ?h1 ?_); (case h1 => walk_at "num")
  | (with_reducible refine' v_mulR ?h1 ?_); (case h1 => walk_at "num")
  | (with_reducible refine' v_mulL ?h1 ?_); (case h1 => walk_at "num")
  | (with_reducible refine' v_fin ?h1 ?_); (case h1 => first | exact Or.inl rfl | exact Or.inr rfl | (refine Or.inr ?_; simp only [List.length_set, *]; done))
  | (with_reducible refine' v_ix ?h1 ?_); (case h1 => first | exact ixD_ref (by assumption) (by rfl) | rfl)
  | (with_reducible refine' v_len ?h1 ?_); (case h1 => first | exact lenD_ref (by assumption) | rfl)
  | (with_reducible refine' v_list ?h1 ?_); (case h1 => rfl)
  | (with_reducible refine' v_listR ?h1 ?_); (case h1 => rfl)
  | (with_reducible refine' v_tuple ?h1 ?_); (case h1 => rfl)
  | (with_reducible refine' v_isd ?h1 ?_); (case h1 => rfl)
  | (with_reducible refine' v_isiTy ?h1 ?h2 ?_); (case h1 => rfl); (case h2 => rfl)
  | (with_reducible refine' v_isiT ?h1 ?_); (case h1 => rfl))
local macro_rules | `(tactic| walk_at "dv2") => `(tactic| first
  | refine v_gsub (by rfl) (by rfl) (by assumption) (by rfl) (fun _ _ _ => ?_) | refine ⟨_, rfl, ?_⟩ | (with_reducible refine' ⟨rng_ok ?h1 ?h2, ?_⟩); (case h1 => omega); (case h2 => omega) | refine ⟨rfl, ?_⟩ | refine ⟨_, _, rfl, ?_⟩ | refine ⟨Nat.le_of_ble_eq_true rfl, ?_⟩)
local macro_rules | `(tactic| walk_at "dv3") => `(tactic| first
  | (with_reducible refine' v_dec (fun _ => ?_) (fun hn => absurd ?h hn)); (case h => first | assumption | omega | decide)
  | (with_reducible refine' v_dec (fun hn => absurd hn ?h) (fun _ => ?_)); (case h => first | assumption | omega | decide)
  | (with_reducible refine' v_ndec (fun _ => ?_) (fun hn => absurd hn ?h)); (case h => first | assumption | omega | decide)
  | (with_reducible refine' v_ndec (fun hn => absurd ?h hn) (fun _ => ?_)); (case h => first | assumption | omega | decide)
  | (with_reducible refine' v_bT ?h ?_); (case h => first | assumption | rfl)
  | (with_reducible refine' v_bF ?h ?_); (case h => first | assumption | rfl))
local macro_rules | `(tactic| walk_at "dv4") => `(tactic| with_reducible first
  | refine v_places ?_ | refine v_roads ?_ | refine v_over ?_ | refine v_line ?_ | refine v_spots ?_ | refine v_myards ?_ | refine v_mroads ?_ | refine v_mW (by decide +kernel) ?_ | refine v_mK (by decide +kernel) ?_
  | refine v_itX ?_ | refine v_ev ?_ | refine v_rev ?_ | refine v_zs ?_ | refine v_enum ?_ | refine v_enum2 ?_ | refine v_makeV ?_ | refine v_tryN ?_ | refine v_lc2 ?_ | refine v_fz ?_ | refine v_make ?_ | refine v_fldS ?_)
local macro_rules | `(tactic| walk_at "dv5") => `(tactic| first
  | refine ⟨_, _, rfl, rfl, ?_⟩ | refine ⟨⟨_, _, rfl⟩, ?_⟩ | refine ⟨⟨_, _, _, rfl⟩, ?_⟩ | refine ⟨_, _, _, rfl, ?_⟩ | refine Or.inl ⟨_, rfl, ?_⟩ | refine Or.inr ⟨_, (fun _ z => by cases z), rfl, ?_⟩)
local macro_rules | `(tactic| walk_at "dv") => `(tactic| repeat (first | walk_at "dv0" | walk_at "dv4" | walk_at "dv1" | walk_at "dv3" | walk_at "dv2" | walk_at "dv5"))
/-! ### exchanges done -/
/-! ### lists of the store, compared and popped -/
theorem all_map {α : Type} {p : Dt → Bool} {f : α → Dt} {l : List α} (h : ∀ a ∈ l, p (f a) = true) : (l.map f).all p = true := by
  rw [List.all_eq_true]
  intro x hx
  obtain ⟨s, hs, rfl⟩ := List.mem_map.mp hx
  exact h s hs
end Lw
set_option Elab.async false
set_option linter.all false
set_option maxRecDepth 100000
set_option maxHeartbeats 4000000
set_option autoImplicit false
namespace Lw
open PySem Dv
/-! steps of our own words -/
local macro_rules | `(tactic| walk_at "num") => `(tactic| first | assumption | decide | omega)
local macro_rules | `(tactic| walk_at "dv0") => `(tactic| with_reducible first
  | refine v_seq ?_ | refine v_ifS ?_ | refine v_set ?_ | refine v_ret ?_ | refine v_asg ?_ | refine v_par ?_ | refine v_drop ?_ | refine v_nx ?_ | refine v_bk ?_ | refine v_ct ?_ | refine v_retN ?_ | refine v_for ?_
  | refine v_c ?_ | refine v_nil ?_ | refine v_cons ?_ | refine v_op ?_ | refine v_B ?_ | refine v_truth ?_ | refine v_andT ?_ | refine v_orT ?_ | refine v_notT ?_
  | refine v_andV ?_ | refine v_orV ?_ | refine v_notV ?_ | refine v_if ?_ | refine v_neg ?_ | refine v_chain ?_ | refine v_tup ?_ | refine v_lst ?_ | refine v_lstR ?_ | refine v_noPart ?_ | refine v_part ?_ | refine v_sl ?_
  | refine v_CB ?_ | refine v_call ?_ | refine v_abs ?_ | refine v_lc ?_ | refine v_yes ?_ | refine v_it ?_ | refine v_rng1 ?_ | refine v_rng2 ?_ | refine v_rng3 ?_ | refine v_T ?_ | refine v_F ?_
  | refine v_add ?_ | refine v_sub ?_ | refine v_iadd ?_ | refine v_lt ?_ | refine v_le ?_ | refine v_gt ?_ | refine v_ge ?_ | refine v_eqI ?_ | refine v_neI ?_ | refine v_eqB ?_ | refine v_neB ?_)
local macro_rules | `(tactic| walk_at "dv1") => `(tactic| first
  | (with_reducible refine' v_var ?h ?_); (case h => rfl)
  | (with_reducible refine' v_aug ?h ?_); (case h => rfl)
  | (with_reducible refine' v_div ?h1 ?h2 ?_); (case h1 => walk_at "num"); (case h2 => walk_at "num")
  | (with_reducible refine' v_mod ?h1 ?_); (case h1 => walk_at "num")
  | (with_reducible refine' v_pow ?h1 ?_); (case h1 => walk_at "num")
  | (with_reducible refine' v_mulR ?h1 ?_); (case h1 => walk_at "num")
  | (with_reducible refine' v_mulL ?h1 ?_); (case h1 => walk_at "num")
  | (with_reducible refine' v_fin ?h1 ?_); (case h1 => first | exact Or.inl rfl | exact Or.inr rfl | (refine Or.inr ?_; simp only [List.length_set, *]; done))
  | (with_reducible refine' v_ix ?h1 ?_); (case h1 => first | exact ixD_ref (by assumption) (by rfl) | rfl)
  | (with_reducible refine' v_len ?h1 ?_); (case h1 => first | exact lenD_ref (by assumption) | rfl)
  | (with_reducible refine' v_list ?h1 ?_); (case h1 => rfl)
  | (with_reducible refine' v_listR ?h1 ?_); (case h1 => rfl)
  | (with_reducible refine' v_tuple ?h1 ?_); (case h1 => rfl)
  | (with_reducible refine' v_isd ?h1 ?_); (case h1 => rfl)
  | (with_reducible refine' v_isiTy ?h1 ?h2 ?_); (case h1 => rfl); (case h2 => rfl)
  | (with_reducible refine' v_isiT ?h1 ?_); (case h1 => rfl))
local macro_rules | `(tactic| walk_at "dv2") => `(tactic| first
  | refine v_gsub (by rfl) (by rfl) (by assumption) (by rfl) (fun _ _ _ => ?_) | refine ⟨_, rfl, ?_⟩ | (with_reducible refine' ⟨rng_ok ?h1 ?h2, ?_⟩); (case h1 => omega); (case h2 => omega) | refine ⟨rfl, ?_⟩ | refine ⟨_, _, rfl, ?_⟩ | refine ⟨Nat.le_of_ble_eq_true rfl, ?_⟩)
local macro_rules | `(tactic| walk_at "dv3") => `(tactic| first
  | (with_reducible refine' v_dec (fun _ => ?_) (fun hn => absurd ?h hn)); (case h => first | assumption | omega | decide)
  | (with_reducible refine' v_dec (fun hn => absurd hn ?h) (fun _ => ?_)); (case h => first | assumption | omega | decide)
  | (with_reducible refine' v_ndec (fun _ => ?_) (fun hn => absurd hn ?h)); (case h => first | assumption | omega | decide)
  | (with_reducible refine' v_ndec (fun hn => absurd ?h hn) (fun _ => ?_)); (case h => first | assumption | omega | decide)
  | (with_reducible refine' v_bT ?h ?_); (case h => first | assumption | rfl)
  | (with_reducible refine' v_bF ?h ?_); (case h => first | assumption | rfl))
local macro_rules | `(tactic| walk_at "dv4") => `(tactic| with_reducible first
  | refine v_places ?_ | refine v_roads ?_ | refine v_over ?_ | refine v_line ?_ | refine v_spots ?_ | refine v_myards ?_ | refine v_mroads ?_ | refine v_mW (by decide +kernel) ?_ | refine v_mK (by decide +kernel) ?_
  | refine v_itX ?_ | refine v_ev ?_ | refine v_rev ?_ | refine v_zs ?_ | refine v_enum ?_ | refine v_enum2 ?_ | refine v_makeV ?_ | refine v_tryN ?_ | refine v_lc2 ?_ | refine v_fz ?_ | refine v_make ?_ | refine v_fldS ?_)
local macro_rules | `(tactic| walk_at "dv5") => `(tactic| first
  | refine ⟨_, _, rfl, rfl, ?_⟩ | refine ⟨⟨_, _, rfl⟩, ?_⟩ | refine ⟨⟨_, _, _, rfl⟩, ?_⟩ | refine ⟨_, _, _, rfl, ?_⟩ | refine Or.inl ⟨_, rfl, ?_⟩ | refine Or.inr ⟨_, (fun _ z => by cases z), rfl, ?_⟩)
local macro_rules | `(tactic| walk_at "dv") => `(tactic| repeat (first | walk_at "dv0" | walk_at "dv4" | walk_at "dv1" | walk_at "dv3" | walk_at "dv2" | walk_at "dv5"))
/-! ### any good exchange; walks led on -/
theorem cut_at {α : Type} {l : List α} {k : Nat} {p : α} (h : l[k]? = some p) : ∃ a b, l = a ++ p :: b ∧ a.length = k := by
  have hl : k < l.length := (List.getElem?_eq_some_iff.mp h).1
  have e : l[k] = p := (List.getElem?_eq_some_iff.mp h).2
  refine ⟨l.take k, l.drop (k + 1), ?_, by rw [List.length_take]; omega⟩
  rw [← e, ← List.drop_eq_getElem_cons hl, List.take_append_drop]
theorem Within.app {B : Nat} {a b : Seg} : Within B (a ++ b) ↔ Within B a ∧ Within B b := by
  constructor
  · exact fun h => ⟨fun p hp => h p (List.mem_append.mpr (.inl hp)), fun p hp => h p (List.mem_append.mpr (.inr hp))⟩
  · rintro ⟨h, k⟩ p hp
    rcases List.mem_append.mp hp with z | z
    · exact h p z
    · exact k p z
theorem Within.cons {B : Nat} {p : Step × Int} {b : Seg} : Within B (p :: b) ↔ p.2.natAbs ≤ B ∧ Within B b := by
  constructor
  · exact fun h => ⟨h p List.mem_cons_self, fun q hq => h q (List.mem_cons_of_mem _ hq)⟩
  · rintro ⟨h, k⟩ q hq
    rcases List.mem_cons.mp hq with z | z
    · rw [z]
      exact h
    · exact k q z
theorem Within.up {B C : Nat} {a : Seg} (h : Within B a) (k : B ≤ C) : Within C a := fun p hp => Nat.le_trans (h p hp) k
end Lw
set_option Elab.async false
set_option linter.all false
set_option maxRecDepth 100000
set_option maxHeartbeats 4000000
set_option autoImplicit false
namespace Lw
open PySem Dv
/-! steps of our own words -/
local macro_rules | `(tactic| walk_at "num") => `(tactic| first | assumption | decide | omega)
local macro_rules | `(tactic| walk_at "dv0") => `(tactic| with_reducible first
  | refine v_seq ?_ | refine v_ifS ?_ | refine v_set ?_ | refine v_ret ?_ | refine v_asg ?_ | refine v_par ?_ | refine v_drop ?_ | refine v_nx ?_ | refine v_bk ?_ | refine v_ct ?_ | refine v_retN ?_ | refine v_for ?_
  | refine v_c ?_ | refine v_nil ?_ | refine v_cons ?_ | refine v_op ?_ | refine v_B ?_ | refine v_truth ?_ | refine v_andT ?_ | refine v_orT ?_ | refine v_notT ?_
  | refine v_andV ?_ | refine v_orV ?_ | refine v_notV ?_ | refine v_if ?_ | refine v_neg ?_ | refine v_chain ?_ | refine v_tup ?_ | refine v_lst ?_ | refine v_lstR ?_ | refine v_noPart ?_ | refine v_part ?_ | refine v_sl ?_
  | refine v_CB ?_ | refine v_call ?_ | refine v_abs ?_ | refine v_lc ?_ | refine v_yes ?_ | refine v_it ?_ | refine v_rng1 ?_ | refine v_rng2 ?_ | refine v_rng3 ?_ | refine v_T ?_ | refine v_F ?_
  | refine v_add ?_ | refine v_sub ?_ | refine v_iadd ?_ | refine v_lt ?_ | refine v_le ?_ | refine v_gt ?_ | refine v_ge ?_ | refine v_eqI ?_ | refine v_neI ?_ | refine v_eqB ?_ | refine v_neB ?_)
local macro_rules | `(tactic| walk_at "dv1") => `(tactic| first
  | (with_reducible refine' v_var ?h ?_); (case h => rfl)
  | (with_reducible refine' v_aug ?h ?_); (case h => rfl)
  | (with_reducible refine' v_div ?h1 ?h2 ?_); (case h1 => walk_at "num"); (case h2 => walk_at "num")
  | (with_reducible refine' v_mod ?h1 ?_); (case h1 => walk_at "num")
  | (with_reducible refine' v_pow ?h1 ?_); (case h1 => walk_at "num")
  | (with_reducible refine' v_mulR ?h1 ?_); (case h1 => walk_at "num")
  | (with_reducible refine' v_mulL ?h1 ?_); (case h1 => walk_at "num")
  | (with_reducible refine' v_fin ?h1 ?_); (case h1 => first | exact Or.inl rfl | exact Or.inr rfl | (refine Or.inr ?_; simp only [List.length_set, *]; done))
  | (with_reducible refine' v_ix ?h1 ?_); (case h1 => first | exact ixD_ref (by assumption) (by rfl) | rfl)
  | (with_reducible refine' v_len ?h1 ?_); (case h1 => first | exact lenD_ref (by assumption) | rfl)
  | (with_reducible refine' v_list ?h1 ?_); (case h1 => rfl)
  | (with_reducible refine' v_listR ?h1 ?_); (case h1 => rfl)
  | (with_reducible refine' v_tuple ?h1 ?_); (case h1 => rfl)
  | (with_reducible refine' v_isd ?h1 ?_); (case h1 => rfl)
  | (with_reducible refine' v_isiTy ?h1 ?h2 ?_); (case h1 => rfl); (case h2 => rfl)
  | (with_reducible refine' v_isiT ?h1 ?_); (case h1 => rfl))
local macro_rules | `(tactic| walk_at "dv2") => `(tactic| first
  | refine v_gsub (by rfl) (by rfl) (by assumption) (by rfl) (fun _ _ _ => ?_) | refine ⟨_, rfl, ?_⟩ | (with_reducible refine' ⟨rng_ok ?h1 ?h2, ?_⟩); (case h1 => omega); (case h2 => omega) | refine ⟨rfl, ?_⟩ | refine ⟨_, _, rfl, ?_⟩ | refine ⟨Nat.le_of_ble_eq_true rfl, ?_⟩)
local macro_rules | `(tactic| walk_at "dv3") => `(tactic| first
  | (with_reducible refine' v_dec (fun _ => ?_) (fun hn => absurd ?h hn)); (case h => first | assumption | omega | decide)
  | (with_reducible refine' v_dec (fun hn => absurd hn ?h) (fun _ => ?_)); (case h => first | assumption | omega | decide)
  | (with_reducible refine' v_ndec (fun _ => ?_) (fun hn => absurd hn ?h)); (case h => first | assumption | omega | decide)
  | (with_reducible refine' v_ndec (fun hn => absurd ?h hn) (fun _ => ?_)); (case h => first | assumption | omega | decide)
  | (with_reducible refine' v_bT ?h ?_); (case h => first | assumption | rfl)
  | (with_reducible refine' v_bF ?h ?_); (case h => first | assumption | rfl))
local macro_rules | `(tactic| walk_at "dv4") => `(tactic| with_reducible first
  | refine v_places ?_ | refine v_roads ?_ | refine v_over ?_ | refine v_line ?_ | refine v_spots ?_ | refine v_myards ?_ | refine v_mroads ?_ | refine v_mW (by decide +kernel) ?_ | refine v_mK (by decide +kernel) ?_
  | refine v_itX ?_ | refine v_ev ?_ | refine v_rev ?_ | refine v_zs ?_ | refine v_enum ?_ | refine v_enum2 ?_ | refine v_makeV ?_ | refine v_tryN ?_ | refine v_lc2 ?_ | refine v_fz ?_ | refine v_make ?_ | refine v_fldS ?_)
local macro_rules | `(tactic| walk_at "dv5") => `(tactic| first
  | refine ⟨_, _, rfl, rfl, ?_⟩ | refine ⟨⟨_, _, rfl⟩, ?_⟩ | refine ⟨⟨_, _, _, rfl⟩, ?_⟩ | refine ⟨_, _, _, rfl, ?_⟩ | refine Or.inl ⟨_, rfl, ?_⟩ | refine Or.inr ⟨_, (fun _ z => by cases z), rfl, ?_⟩)
local macro_rules | `(tactic| walk_at "dv") => `(tactic| repeat (first | walk_at "dv0" | walk_at "dv4" | walk_at "dv1" | walk_at "dv3" | walk_at "dv2" | walk_at "dv5"))
/-! ### names drawn -/
theorem v_pop1 {k : Nat} {ds : List Dt} {mo me : Dv.Env → Store → R Dt} {en : Dv.Env} {S : Store} {Q : Dt → Store → Prop} {X : Ex → Store → Prop} (ho : mo en S = .ok (.ref k) S) (hS : S[k]? = some (.lst ds))
    (h : Pe (me en S) (fun y S1 => ∃ (j : Nat) (d : Dt) (ds1 : List Dt), y = .int j ∧ j < 1000000 ∧ S1[k]? = some (.lst ds1) ∧ ds1[j]? = some d ∧ Q d (S1.set k (.lst (ds1.eraseIdx j)))) X) : Pe (mPop1 mo me en S) Q X := by
  unfold mPop1
  rw [ho]
  show Pe (if isLstR S (.ref k) = true then _ else _) Q X
  rw [if_pos (by unfold isLstR; simp only [hS])]
  refine Pe.bind (h.imp (fun y S1 ⟨j, d, ds1, e, hj, h1, h2, q⟩ => ?_) fun _ _ z => z)
  subst e
  have hj2 : j < ds1.length := (List.getElem?_eq_some_iff.mp h2).1
  have hi : L2.ixN ds1.length (j : Int) = some j := by
    unfold L2.ixN
    rw [if_pos (by omega), if_pos (by omega)]
    rfl
  show Pe (popAt S1 (.ref k) j) Q X
  unfold popAt
  simp only [h1]
  rw [if_pos (by omega)]
  simp only [(L2.ixN_seq hi).1, h2]
  exact q
abbrev words15 : List Str := ["a", "road", "bb", "gate", "z", "yard", "one", "abcdefgh", "x", "ford", "mill", "walk", "ab", "bridge", "k"]
section
variable {S : Store} {i : Nat}
theorem names_ok (hp : PureS S) (hF : FlowAt S i) {many : Int} (hm0 : 0 ≤ many) (hm1 : many ≤ 15) {Q : Dt → Store → Prop} {X : Ex → Store → Prop}
    (q : ∀ (fs : List Str) S', fs.Nodup → (∀ x ∈ fs, x ∈ words15) → fs.length = many.natAbs → Fz i S S' → Q (.lst (fs.map Dt.str)) S') : Pe (m_law_names [.ref i, .int many] S) Q X := by
  refine v_fn ?_
  unfold b_law_names
  walk_at "dv"
  refine v_addR (xs := (words15.take 13).map Dt.str) (ys := (words15.drop 13).map Dt.str) (by simp [asP]) rfl (by decide) ?_
  walk_at "dv"
  refine v_loop (fun ds en T => ∃ (k f : Nat) (x4 : Option Dt) (ws fs : List Str), en = [some (.ref i), some (.int many), some (.ref k), some (.ref f), x4] ∧ Bz i S T ∧ PureS T ∧ S.length ≤ k ∧ S.length ≤ f ∧ k ≠ f ∧ T[k]? = some (.lst (ws.map Dt.str)) ∧ T[f]? = some (.lst (fs.map Dt.str)) ∧
      (ws ++ fs).Nodup ∧ (∀ x ∈ ws ++ fs, x ∈ words15) ∧ ws.length + fs.length = 15 ∧ fs.length + ds.length = many.natAbs)
    ⟨_, _, _, words15, [], rfl, (((Bz.refl hF).push).push).push, ((hp.push (by decide +kernel)).push (by decide +kernel)).push rfl, by simp, by simp, by simp, by simp, by simp, by decide +kernel, fun x hx => by simpa using hx, rfl, by simp [rangeD]; omega⟩ ?_ ?_
  · rintro d ds en T ⟨k, f, x4, ws, fs, rfl, bz, pT, hk, hf, hkf, hT, hTf, nd, hx, hl, hlen⟩
    have hlen' : fs.length + ds.length + 1 = many.natAbs := by
      rw [List.length_cons] at hlen
      omega
    have ib := bz.lt
    refine ⟨_, _, rfl, ?_⟩
    walk_at "dv"
    refine v_app1K rfl hTf ?_
    refine v_pop1 rfl hT ?_
    walk_at "dv"
    rw [List.length_map]
    refine draw_fz bz.flow (by omega) ?_ fun v T2 v0 v1 zz => ?_
    · have := Nat.log2_lt (n := ((ws.length : Nat) : Int).natAbs) (k := 64) (by omega)
      omega
    have hT2 : T2[k]? = some (.lst (ws.map Dt.str)) := (zz.oth _ (by omega)).trans hT
    have hTf2 : T2[f]? = some (.lst (fs.map Dt.str)) := (zz.oth _ (by omega)).trans hTf
    have hv : v.toNat < ws.length := by omega
    obtain ⟨a, b, e, ha⟩ := cut_at (List.getElem?_eq_getElem hv)
    generalize ws[v.toNat] = x at e
    subst e
    have ee : (((a ++ x :: b).map Dt.str).eraseIdx a.length) = (a ++ b).map Dt.str := by
      rw [List.map_append, List.map_cons, List.eraseIdx_append_of_length_le (by simp)]
      simp
    have pm : ((a ++ x :: b) ++ fs).Perm ((a ++ b) ++ (fs ++ [x])) := by
      have p1 : ((a ++ x :: b) ++ fs).Perm (x :: ((a ++ b) ++ fs)) := (List.perm_middle (a := x) (l₁ := a) (l₂ := b)).append_right fs
      have p2 : ((a ++ b) ++ (fs ++ [x])).Perm (x :: ((a ++ b) ++ fs)) := by
        rw [← List.append_assoc]
        exact List.perm_append_singleton x _
      exact p1.trans p2.symm
    have ln : (a ++ x :: b).length = (a ++ b).length + 1 := by simp; omega
    refine ⟨a.length, .str x, _, by rw [ha, Int.toNat_of_nonneg v0], by omega, hT2, by simp, ?_⟩
    rw [ee]
    refine ⟨_, (List.getElem?_set_ne hkf).trans hTf2, by rw [List.length_map]; omega, ?_⟩
    refine ⟨k, f, _, a ++ b, fs ++ [x], rfl, ((bz.draw zz).set hk).set hf, ((zz.pure pT).set (show pureO (.lst ((a ++ b).map Dt.str)) = true from strs_pure _ 11)).set ?_, hk, hf, hkf, ?_, ?_, pm.nodup_iff.mp nd, fun y hy => hx y (pm.mem_iff.mpr hy), ?_, ?_⟩
    · show (fs.map Dt.str ++ [Dt.str x]).all (noRef 11) = true
      rw [show fs.map Dt.str ++ [Dt.str x] = (fs ++ [x]).map Dt.str by simp]
      exact strs_pure _ _
    · rw [List.getElem?_set_ne hkf.symm, set_same hT2]
    · rw [set_same ((List.getElem?_set_ne hkf).trans hTf2)]
      simp
    · simp at hl ⊢
      omega
    · rw [List.length_append, List.length_singleton]
      omega
  · rintro en T ⟨k, f, x4, ws, fs, rfl, bz, pT, hk, hf, hkf, hT, hTf, nd, hx, hl, hlen⟩
    walk_at "dv"
    refine v_finB bz hp hTf hf (strs_pure _ _) fun S' zz => q fs S' (List.nodup_append.mp nd).2.1 (fun x h => hx x (List.mem_append.mpr (.inr h))) (by simpa using hlen) zz
end
end Lw
set_option Elab.async false
set_option linter.all false
set_option maxRecDepth 100000
set_option maxHeartbeats 4000000
set_option autoImplicit false
namespace Lw
open PySem Dv
/-! steps of our own words -/
local macro_rules | `(tactic| walk_at "num") => `(tactic| first | assumption | decide | omega)
local macro_rules | `(tactic| walk_at "dv0") => `(tactic| with_reducible first
  | refine v_seq ?_ | refine v_ifS ?_ | refine v_set ?_ | refine v_ret ?_ | refine v_asg ?_ | refine v_par ?_ | refine v_drop ?_ | refine v_nx ?_ | refine v_bk ?_ | refine v_ct ?_ | refine v_retN ?_ | refine v_for ?_
  | refine v_c ?_ | refine v_nil ?_ | refine v_cons ?_ | refine v_op ?_ | refine v_B ?_ | refine v_truth ?_ | refine v_andT ?_ | refine v_orT ?_ | refine v_notT ?_
  | refine v_andV ?_ | refine v_orV ?_ | refine v_notV ?_ | refine v_if ?_ | refine v_neg ?_ | refine v_chain ?_ | refine v_tup ?_ | refine v_lst ?_ | refine v_lstR ?_ | refine v_noPart ?_ | refine v_part ?_ | refine v_sl ?_
  | refine v_CB ?_ | refine v_call ?_ | refine v_abs ?_ | refine v_lc ?_ | refine v_yes ?_ | refine v_it ?_ | refine v_rng1 ?_ | refine v_rng2 ?_ | refine v_rng3 ?_ | refine v_T ?_ | refine v_F ?_
  | refine v_add ?_ | refine v_sub ?_ | refine v_iadd ?_ | refine v_lt ?_ | refine v_le ?_ | refine v_gt ?_ | refine v_ge ?_ | refine v_eqI ?_ | refine v_neI ?_ | refine v_eqB ?_ | refine v_neB ?_)
local macro_rules | `(tactic| walk_at "dv1") => `(tactic| first
  | (with_reducible refine' v_var ?h ?_); (case h => rfl)
  | (with_reducible refine' v_aug ?h ?_); (case h => rfl)
  | (with_reducible refine' v_div ?h1 ?h2 ?_); (case h1 => walk_at "num"); (case h2 => walk_at "num")
  | (with_reducible refine' v_mod ?h1 ?_); (case h1 => walk_at "num")
  | (with_reducible refine' v_pow ?h1 ?_); (case h1 => walk_at "num")
  | (with_reducible refine' v_mulR ?h1 ?_); (case h1 => walk_at "num")
  | (with_reducible refine' v_mulL ?h1 ?_); (case h1 => walk_at "num")
  | (with_reducible refine' v_fin ?h1 ?_); (case h1 => first | exact Or.inl rfl | exact Or.inr rfl | (refine Or.inr ?_; simp only [List.length_set, *]; done))
  | (with_reducible refine' v_ix ?h1 ?_); (case h1 => first | exact ixD_ref (by assumption) (by rfl) | rfl)
  | (with_reducible refine' v_len ?h1 ?_); (case h1 => first | exact lenD_ref (by assumption) | rfl)
  | (with_reducible refine' v_list ?h1 ?_); (case h1 => rfl)
  | (with_reducible refine' v_listR ?h1 ?_); (case h1 => rfl)
  | (with_reducible refine' v_tuple ?h1 ?_); (case h1 => rfl)
  | (with_reducible refine' v_isd ?h1 ?_); (case h1 => rfl)
  | (with_reducible refine' v_isiTy ?h1 ?h2 ?_); (case h1 => rfl); (case h2 => rfl)
  | (with_reducible refine' v_isiT ?h1 ?_); (case h1 => rfl))
local macro_rules | `(tactic| walk_at "dv2") => `(tactic| first
  | refine v_gsub (by rfl) (by rfl) (by assumption) (by rfl) (fun _ _ _ => ?_) | refine ⟨_, rfl, ?_⟩ | (with_reducible refine' ⟨rng_ok ?h1 ?h2, ?_⟩); (case h1 => omega); (case h2 => omega) | refine ⟨rfl, ?_⟩ | refine ⟨_, _, rfl, ?_⟩ | refine ⟨Nat.le_of_ble_eq_true rfl, ?_⟩)
local macro_rules | `(tactic| walk_at "dv3") => `(tactic| first
  | (with_reducible refine' v_dec (fun _ => ?_) (fun hn => absurd ?h hn)); (case h => first | assumption | omega | decide)
  | (with_reducible refine' v_dec (fun hn => absurd hn ?h) (fun _ => ?_)); (case h => first | assumption | omega | decide)
  | (with_reducible refine' v_ndec (fun _ => ?_) (fun hn => absurd hn ?h)); (case h => first | assumption | omega | decide)
  | (with_reducible refine' v_ndec (fun hn => absurd ?h hn) (fun _ => ?_)); (case h => first | assumption | omega | decide)
  | (with_reducible refine' v_bT ?h ?_); (case h => first | assumption | rfl)
  | (with_reducible refine' v_bF ?h ?_); (case h => first | assumption | rfl))
local macro_rules | `(tactic| walk_at "dv4") => `(tactic| with_reducible first
  | refine v_places ?_ | refine v_roads ?_ | refine v_over ?_ | refine v_line ?_ | refine v_spots ?_ | refine v_myards ?_ | refine v_mroads ?_ | refine v_mW (by decide +kernel) ?_ | refine v_mK (by decide +kernel) ?_
  | refine v_itX ?_ | refine v_ev ?_ | refine v_rev ?_ | refine v_zs ?_ | refine v_enum ?_ | refine v_enum2 ?_ | refine v_makeV ?_ | refine v_tryN ?_ | refine v_lc2 ?_ | refine v_fz ?_ | refine v_make ?_ | refine v_fldS ?_)
local macro_rules | `(tactic| walk_at "dv5") => `(tactic| first
  | refine ⟨_, _, rfl, rfl, ?_⟩ | refine ⟨⟨_, _, rfl⟩, ?_⟩ | refine ⟨⟨_, _, _, rfl⟩, ?_⟩ | refine ⟨_, _, _, rfl, ?_⟩ | refine Or.inl ⟨_, rfl, ?_⟩ | refine Or.inr ⟨_, (fun _ z => by cases z), rfl, ?_⟩)
local macro_rules | `(tactic| walk_at "dv") => `(tactic| repeat (first | walk_at "dv0" | walk_at "dv4" | walk_at "dv1" | walk_at "dv3" | walk_at "dv2" | walk_at "dv5"))
/-! law_drawn_web in parts -/
def b_law_drawn_web_1 : Bd := (mSeq (mSet 9 (mTup (mCons (mOp mIx (mVar 4) (mOp mAdd (mVar 1) (mVar 6))) (mCons (mVar 7) (mCons (mVar 8) (mCons (mCall 2 m_law_number (mCons (mVar 0) (mCons (mVar 3) mNil))) mNil)))))) (mDrop (mApp1 (mGetS "roads" (mVar 5)) (mOp mAdd (mVar 9) (mTup (mCons (mCall 2 m_law_number (mCons (mVar 0) (mCons (mVar 3) mNil))) mNil))))))
theorem b_law_drawn_web_eq : b_law_drawn_web = (mSeq (mSet 4 (mCall 2 m_law_names (mCons (mVar 0) (mCons (mOp mAdd (mVar 1) (mVar 2)) mNil)))) (mSeq (mSet 5 (mDict ["yards", "roads"] [(mSl (mVar 4) mNoPart (mPart (mVar 1))), (mLstR mNil)])) (mSeq (mFor (mRng1 (mCons (mVar 2) mNil)) (gNm 6) (mSeq (mSet 7 (mCall 2 m_law_pick (mCons (mVar 0) (mCons (mGetS "yards" (mVar 5)) mNil)))) (mSeq (mSet 8 (mCall 2 m_law_pick (mCons (mVar 0) (mCons (mGetS "yards" (mVar 5)) mNil)))) (mSeq (mIfS (mB (mOp mLt (mOp mAdd (mVar 6) (mC (.int 1))) (mVar 1))) (mPar 7 8 (mCons (mOp mIx (mGetS "yards" (mVar 5)) (mVar 6)) (mCons (mOp mIx (mGetS "yards" (mVar 5)) (mOp mAdd (mVar 6) (mC (.int 1)))) mNil))) mNx) b_law_drawn_web_1)))) (mRet (mVar 5))))) := rfl
/-! ### webs drawn -/
theorem v_addT {xs ys : List Dt} {S : Store} {Q : Dt → Store → Prop} {X : Ex → Store → Prop} (hl : xs.length + ys.length ≤ 1000000) (q : Q (.tup (xs ++ ys)) S) : Pe (mAdd (.tup xs) (.tup ys) S) Q X := v_ifok hl q
theorem rangeD_drop {n k : Nat} (h : k < n) : (rangeD 0 n).drop k = .int (k : Int) :: (rangeD 0 n).drop (k + 1) := by
  have hl : k < (rangeD 0 n).length := by simp [rangeD, h]
  rw [List.drop_eq_getElem_cons hl]
  simp [rangeD]
theorem rangeD_end (n : Nat) : (rangeD 0 n).drop n = [] := by
  rw [List.drop_eq_nil_iff]
  simp [rangeD]
theorem frz_modR {n k : Nat} {T : Store} {a : Dt} {ds : List Dt} (ha : noRef 11 a = true) (hT : T[k]? = some (.lst ds)) (hk : n ≤ k) (h : ds.all (noRef 10) = true) : frz n T deepF (.dct mF [a, .ref k]) = some (.dct mF [a, .lst ds]) := by
  show frz n T (11 + 1) _ = _
  unfold frz
  rw [if_neg (by simp [noRef])]
  dsimp only
  have e : frz n T 11 (.ref k) = some (.lst ds) := by
    show frz n T (10 + 1) (.ref k) = _
    unfold frz
    rw [if_neg (by simp [noRef])]
    dsimp only
    rw [if_neg (by omega), hT]
    dsimp only
    rw [mapO_pure h]
    rfl
  unfold mapO
  rw [frz_pure ha]
  unfold mapO
  rw [e]
  rfl
theorem getS_roads {en : Dv.Env} {S : Store} {a b : Dt} {i : Nat} (h : en[i]? = some (some (modV a b))) : mGetS "roads" (mVar i) en S = .ok b S := by
  have e : mVar i en S = .ok (modV a b) S := by
    unfold mVar
    rw [h]
  unfold mGetS
  rw [e]
  show (match lookK mF [a, b] (.inr "roads") with
    | some d => R.ok d S
    | none => .stuck) = _
  rw [m_roads]
theorem word_ok : ∀ x ∈ words15, nameOk x = true ∧ PyData.strOk x = true := by decide +kernel
theorem str_ix {l : List Str} {k : Nat} (h : k < l.length) : L2.atI (l.map Dt.str) (k : Int) = some (.str l[k]) := atI_in (by simp [h])
theorem log_lt {n : Int} (h : n.natAbs < 2 ^ 64) (h0 : n ≠ 0) : n.natAbs.log2 < 9000 := by
  have := Nat.log2_lt (n := n.natAbs) (k := 64) (by omega)
  omega
/-- a web as drawn: its passages' numbers within most -/
structure Mod.Drawn (m : Mod) (most : Nat) : Prop where
  ok : m.Ok
  nm : m.Nm
  nb : ∀ r ∈ m.rs, r.h.natAbs ≤ most ∧ r.t.natAbs ≤ most
  y0 : m.ys ≠ []
  wd : ∀ x ∈ m.ys ++ m.rs.map Road.n, x ∈ words15
section
variable {S : Store} {i : Nat}
theorem number_ok (hF : FlowAt S i) {most : Int} (h0 : 1 ≤ most) (h1 : most ≤ 1000) {Q : Dt → Store → Prop} {X : Ex → Store → Prop} (q : ∀ v S', v ≠ 0 → v.natAbs ≤ most.natAbs → Fz i S S' → Q (.int v) S') : Pe (m_law_number [.ref i, .int most] S) Q X := by
  refine v_fn ?_
  unfold b_law_number
  walk_at "dv"
  refine draw_fz hF (by decide) (by decide) fun a S1 a0 a1 z1 => ?_
  walk_at "dv"
  refine v_dec (fun _ => ?_) (fun _ => ?_)
  · walk_at "dv"
    refine pick_fz z1.flow (Nat.le_of_ble_eq_true rfl) (Nat.le_of_ble_eq_true rfl) fun v S2 hv z2 => ?_
    simp only [List.mem_cons, List.not_mem_nil, or_false] at hv
    have zz := z1.trans z2
    rcases hv with rfl | rfl
    · exact v_fin (.inr zz.len) (q _ _ (by decide) (by omega) zz)
    · exact v_fin (.inr zz.len) (q _ _ (by decide) (by omega) zz)
  · walk_at "dv"
    refine pick_fz z1.flow (Nat.le_of_ble_eq_true rfl) (Nat.le_of_ble_eq_true rfl) fun v S2 hv z2 => ?_
    have zz := z1.trans z2
    obtain ⟨v, rfl, hva⟩ : ∃ a : Int, v = .int a ∧ (a = 1 ∨ a = -1) := by
      simp only [List.mem_cons, List.not_mem_nil, or_false] at hv
      rcases hv with rfl | rfl | rfl
      · exact ⟨_, rfl, .inl rfl⟩
      · exact ⟨_, rfl, .inl rfl⟩
      · exact ⟨_, rfl, .inr rfl⟩
    clear hv
    walk_at "dv"
    refine draw_fz zz.flow (by omega) (log_lt (by omega) (by omega)) fun w S3 w0 w1 z3 => ?_
    have zz := zz.trans z3
    walk_at "dv"
    refine v_fin (.inr zz.len) (q _ _ ?_ ?_ zz)
    · rcases hva with rfl | rfl <;> omega
    · rcases hva with rfl | rfl <;> omega
theorem drawn_web_ok (hp : PureS S) (hF : FlowAt S i) {ny nr : Nat} {most : Int} (hy0 : 1 ≤ ny) (hy : ny ≤ 6) (hr : nr ≤ 8) (h0 : 1 ≤ most) (h1 : most ≤ 99) {Q : Dt → Store → Prop} {X : Ex → Store → Prop}
    (q : ∀ (m : Mod) S', m.Drawn most.natAbs → m.ys.length = ny → m.rs.length = nr → Fz i S S' → Q m.d S') : Pe (m_law_drawn_web [.ref i, .int ny, .int nr, .int most] S) Q X := by
  refine v_fn ?_
  rw [b_law_drawn_web_eq]
  walk_at "dv"
  refine names_ok hp hF (by omega) (by omega) fun fs S1 nd hw hlen z1 => ?_
  walk_at "dv"
  refine v_dict ?_
  refine v_ps1 ?_
  walk_at "dv"
  dsimp only
  rw [cut_take, ← List.map_take]
  have hfs : fs.length = ny + nr := by omega
  obtain ⟨ys, ns, rfl, hys⟩ : ∃ ys ns : List Str, fs = ys ++ ns ∧ ys.length = ny := ⟨fs.take ny, fs.drop ny, (List.take_append_drop _ _).symm, by rw [List.length_take]; omega⟩
  have hns : ns.length = nr := by
    rw [List.length_append] at hfs
    omega
  rw [List.take_left' hys]
  walk_at "dv"
  have p1 := z1.pure hp
  have ib : S.length ≤ S1.length := by rw [z1.len]; exact Nat.le_refl _
  have ilt : i < S.length := hF.lt
  refine v_loop (fun ds en T => ∃ (x6 x7 x8 x9 : Option Dt) (rs : List Road) (rest : List Str), en = [some (.ref i), some (.int ny), some (.int nr), some (.int most), some (.lst ((ys ++ ns).map Dt.str)), some (modV (.lst (ys.map Dt.str)) (.ref S1.length)), x6, x7, x8, x9] ∧ Bz i S T ∧ PureS T ∧ T[S1.length]? = some (.lst (rs.map Road.d)) ∧
      ns = rs.map Road.n ++ rest ∧ ds = (rangeD 0 nr).drop rs.length ∧ ∀ r ∈ rs, (r.b ∈ ys ∧ r.e ∈ ys) ∧ (r.h ≠ 0 ∧ r.h.natAbs ≤ most.natAbs) ∧ r.t ≠ 0 ∧ r.t.natAbs ≤ most.natAbs)
    ⟨_, _, _, _, [], ns, rfl, ((Bz.refl hF).draw z1).push, p1.push rfl, last_at, rfl, rfl, fun r hr => (List.not_mem_nil hr).elim⟩ ?_ ?_
  · rintro d ds en T ⟨x6, x7, x8, x9, rs, rest, rfl, bz, pT, hT, hn, hd, hrs⟩
    cases rest with
    | nil =>
      have e := congrArg List.length hn
      rw [List.append_nil, List.length_map, hns] at e
      rw [← e, rangeD_end] at hd
      cases hd
    | cons n rest =>
      have hlt : rs.length < nr := by
        have e := congrArg List.length hn
        rw [List.length_append, List.length_map, List.length_cons, hns] at e
        omega
      rw [rangeD_drop hlt] at hd
      obtain ⟨rfl, rfl⟩ := List.cons.inj hd
      refine ⟨_, _, rfl, ?_⟩
      walk_at "dv"
      have py : 0 < (ys.map Dt.str).length := by rw [List.length_map]; omega
      have py2 : (ys.map Dt.str).length < 2 ^ 64 := by rw [List.length_map]; omega
      refine pick_fz bz.flow py py2 fun o T1 ho z2 => ?_
      obtain ⟨o, hoy, rfl⟩ := List.mem_map.mp ho
      walk_at "dv"
      refine pick_fz z2.flow py py2 fun o' T2 ho' z3 => ?_
      obtain ⟨o', hoy', rfl⟩ := List.mem_map.mp ho'
      have z23 := z2.trans z3
      walk_at "dv"
      have tail : ∀ (o o' : Str), o ∈ ys → o' ∈ ys → ∀ {QS : Fl → Dv.Env → Store → Prop} {XS : Ex → Dv.Env → Store → Prop}, (∀ (x9 : Option Dt) (r : Road) (T4 : Store), r.n = n → r.b = o → r.e = o' → (r.h ≠ 0 ∧ r.h.natAbs ≤ most.natAbs) → (r.t ≠ 0 ∧ r.t.natAbs ≤ most.natAbs) → Fz i T2 T4 → QS .nx [some (.ref i), some (.int ny), some (.int nr), some (.int most), some (.lst ((ys ++ ns).map Dt.str)), some (modV (.lst (ys.map Dt.str)) (.ref S1.length)), some (.int rs.length), some (.str o), some (.str o'), x9] (T4.set S1.length (.lst ((rs.map Road.d) ++ [r.d])))) →
          Ps (b_law_drawn_web_1 [some (.ref i), some (.int ny), some (.int nr), some (.int most), some (.lst ((ys ++ ns).map Dt.str)), some (modV (.lst (ys.map Dt.str)) (.ref S1.length)), some (.int rs.length), some (.str o), some (.str o'), x9] T2) QS XS := by
        intro o o' ho ho' QS XS q
        unfold b_law_drawn_web_1
        have xn : L2.atI ((ys ++ ns).map Dt.str) ((ny : Int) + (rs.length : Int)) = some (.str n) := by
          rw [show (ny : Int) + (rs.length : Int) = ((ny + rs.length : Nat) : Int) by omega]
          refine atI_in ?_
          rw [List.getElem?_map, List.getElem?_append_right (by omega), hn, List.getElem?_append_right (by rw [List.length_map]; omega), List.length_map, show ny + rs.length - ys.length - rs.length = 0 by omega]
          rfl
        walk_at "dv"
        refine v_ix xn ?_
        walk_at "dv"
        refine number_ok z3.flow h0 (by omega) fun h T3 hh hh2 z4 => ?_
        walk_at "dv"
        have z34 := z23.trans z4
        have i1 : S1.length ≠ i := by rw [z1.len]; omega
        have hT3 : T3[S1.length]? = some (.lst (rs.map Road.d)) := (z34.oth _ i1).trans hT
        refine v_app1K (getS_roads rfl) hT3 ?_
        walk_at "dv"
        refine number_ok z4.flow h0 (by omega) fun t T4 ht ht2 z5 => ?_
        walk_at "dv"
        refine v_addT (Nat.le_of_ble_eq_true rfl) ?_
        refine ⟨_, (z5.oth _ i1).trans hT3, by rw [List.length_map]; omega, ?_⟩
        exact q _ ⟨n, o, o', h, t⟩ T4 rfl rfl rfl ⟨hh, hh2⟩ ⟨ht, ht2⟩ (z4.trans z5)
      have fin : ∀ (x9 : Option Dt) (o o' : Str) (r : Road) (T4 : Store), o ∈ ys → o' ∈ ys → r.n = n → r.b = o → r.e = o' → (r.h ≠ 0 ∧ r.h.natAbs ≤ most.natAbs) → (r.t ≠ 0 ∧ r.t.natAbs ≤ most.natAbs) → Fz i T2 T4 → ∃ (x6 x7 x8 x9' : Option Dt) (rs' : List Road) (rest : List Str), [some (Dt.ref i), some (.int ny), some (.int nr), some (.int most), some (.lst ((ys ++ ns).map Dt.str)), some (modV (.lst (ys.map Dt.str)) (.ref S1.length)), some (.int rs.length), some (.str o), some (.str o'), x9] = [some (.ref i), some (.int ny), some (.int nr), some (.int most), some (.lst ((ys ++ ns).map Dt.str)), some (modV (.lst (ys.map Dt.str)) (.ref S1.length)), x6, x7, x8, x9'] ∧ Bz i S (T4.set S1.length (.lst ((rs.map Road.d) ++ [r.d]))) ∧ PureS (T4.set S1.length (.lst ((rs.map Road.d) ++ [r.d]))) ∧ (T4.set S1.length (.lst ((rs.map Road.d) ++ [r.d])))[S1.length]? = some (.lst (rs'.map Road.d)) ∧
          ns = rs'.map Road.n ++ rest ∧ (rangeD 0 nr).drop (rs.length + 1) = (rangeD 0 nr).drop rs'.length ∧ ∀ r ∈ rs', (r.b ∈ ys ∧ r.e ∈ ys) ∧ (r.h ≠ 0 ∧ r.h.natAbs ≤ most.natAbs) ∧ r.t ≠ 0 ∧ r.t.natAbs ≤ most.natAbs := by
        intro x9 o o' r T4 ho ho' en eb ee hh ht z4
        have z34 := z23.trans z4
        have i1 : S1.length ≠ i := by rw [z1.len]; omega
        have er : (rs.map Road.d) ++ [r.d] = (rs ++ [r]).map Road.d := by rw [List.map_append]; rfl
        refine ⟨_, _, _, _, rs ++ [r], rest, rfl, (bz.draw z34).set ib, (z34.pure pT).set ?_, ?_, ?_, by rw [List.length_append]; rfl, ?_⟩
        · rw [er]
          exact roads_pure _ 10
        · rw [set_same ((z34.oth _ i1).trans hT), er]
        · rw [hn, List.map_append, List.append_assoc, ← en]
          rfl
        · intro r' hr'
          rcases List.mem_append.mp hr' with z | z
          · exact hrs r' z
          · rw [List.mem_singleton.mp z, eb, ee]
            exact ⟨⟨ho, ho'⟩, hh, ht⟩
      refine v_dec (fun hk => ?_) (fun hk => ?_)
      · have hk1 : rs.length < ys.length := by omega
        have hk2 : rs.length + 1 < ys.length := by omega
        walk_at "dv"
        refine v_ix (str_ix hk1) ?_
        walk_at "dv"
        refine v_ix (str_ix (k := rs.length + 1) hk2) ?_
        walk_at "dv"
        exact tail _ _ (List.getElem_mem hk1) (List.getElem_mem hk2) fun x9 r T4 e1 e2 e3 hh ht z4 => fin x9 _ _ r T4 (List.getElem_mem hk1) (List.getElem_mem hk2) e1 e2 e3 hh ht z4
      · walk_at "dv0"
        exact tail _ _ hoy hoy' fun x9 r T4 e1 e2 e3 hh ht z4 => fin x9 _ _ r T4 hoy hoy' e1 e2 e3 hh ht z4
  · rintro en T ⟨x6, x7, x8, x9, rs, rest, rfl, bz, pT, hT, hn, hd, hrs⟩
    have hle : nr ≤ rs.length := by
      have e := congrArg List.length hd
      simp [rangeD] at e
      omega
    have hrest : rest = [] := by
      have e := congrArg List.length hn
      rw [List.length_append, List.length_map, hns] at e
      exact List.length_eq_zero_iff.mp (by omega)
    subst hrest
    rw [List.append_nil] at hn
    subst hn
    rw [List.length_map] at hns
    walk_at "dv"
    have hl0 : S1.length < T.length := (List.getElem?_eq_some_iff.mp hT).1
    refine v_finL (frz_modR (show noRef 11 (.lst (ys.map Dt.str)) = true from strs_pure ys 10) hT (by omega) (roads_pure rs 9)) (by omega) (bz.fz.pure hp) ?_
    have wk : ∀ x ∈ ys ++ rs.map Road.n, nameOk x = true ∧ PyData.strOk x = true := fun x hx => word_ok x (hw x hx)
    refine q ⟨ys, rs⟩ _ ⟨⟨fun r hr => ⟨?_, ?_, ?_⟩, fun y hy => (wk y (List.mem_append_left _ hy)).2, nd, fun r hr => (hrs r hr).1, fun r hr => ⟨⟨(hrs r hr).2.1.1, ?_⟩, (hrs r hr).2.2.1, ?_⟩, by show ys.length ≤ 6; omega, by show rs.length ≤ 8; omega⟩, ⟨fun y hy => (wk y (List.mem_append_left _ hy)).1, fun r hr => (wk r.n (List.mem_append_right _ (List.mem_map_of_mem hr))).1⟩, fun r hr => ⟨(hrs r hr).2.1.2, (hrs r hr).2.2.2⟩, ?_, hw⟩ hys hns bz.fz
    · exact (wk r.n (List.mem_append_right _ (List.mem_map_of_mem hr))).2
    · exact (wk r.b (List.mem_append_left _ (hrs r hr).1.1)).2
    · exact (wk r.e (List.mem_append_left _ (hrs r hr).1.2)).2
    · have := (hrs r hr).2.1.2
      omega
    · have := (hrs r hr).2.2.2
      omega
    · intro e
      have e : ys = [] := e
      rw [e] at hys
      simp at hys
      omega
end
end Lw
set_option Elab.async false
set_option linter.all false
set_option maxRecDepth 100000
set_option maxHeartbeats 4000000
set_option autoImplicit false
namespace Lw
open PySem Dv
/-! steps of our own words -/
local macro_rules | `(tactic| walk_at "num") => `(tactic| first | assumption | decide | omega)
local macro_rules | `(tactic| walk_at "dv0") => `(tactic| with_reducible first
  | refine v_seq ?_ | refine v_ifS ?_ | refine v_set ?_ | refine v_ret ?_ | refine v_asg ?_ | refine v_par ?_ | refine v_drop ?_ | refine v_nx ?_ | refine v_bk ?_ | refine v_ct ?_ | refine v_retN ?_ | refine v_for ?_
  | refine v_c ?_ | refine v_nil ?_ | refine v_cons ?_ | refine v_op ?_ | refine v_B ?_ | refine v_truth ?_ | refine v_andT ?_ | refine v_orT ?_ | refine v_notT ?_
  | refine v_andV ?_ | refine v_orV ?_ | refine v_notV ?_ | refine v_if ?_ | refine v_neg ?_ | refine v_chain ?_ | refine v_tup ?_ | refine v_lst ?_ | refine v_lstR ?_ | refine v_noPart ?_ | refine v_part ?_ | refine v_sl ?_
  | refine v_CB ?_ | refine v_call ?_ | refine v_abs ?_ | refine v_lc ?_ | refine v_yes ?_ | refine v_it ?_ | refine v_rng1 ?_ | refine v_rng2 ?_ | refine v_rng3 ?_ | refine v_T ?_ | refine v_F ?_
  | refine v_add ?_ | refine v_sub ?_ | refine v_iadd ?_ | refine v_lt ?_ | refine v_le ?_ | refine v_gt ?_ | refine v_ge ?_ | refine v_eqI ?_ | refine v_neI ?_ | refine v_eqB ?_ | refine v_neB ?_)
local macro_rules | `(tactic| walk_at "dv1") => `(tactic| first
  | (with_reducible refine' v_var ?h ?_); (case h => rfl)
  | (with_reducible refine' v_aug ?h ?_); (case h => rfl)
  | (with_reducible refine' v_div ?h1 ?h2 ?_); (case h1 => walk_at "num"); (case h2 => walk_at "num")
  | (with_reducible refine' v_mod ?h1 ?_); (case h1 => walk_at "num")
  | (with_reducible refine' v_pow ?h1 ?_); (case h1 => walk_at "num")
  | (with_reducible refine' v_mulR ?h1 ?_); (case h1 => walk_at "num")
  | (with_reducible refine' v_mulL ?h1 ?_); (case h1 => walk_at "num")
  | (with_reducible refine' v_fin ?h1 ?_); (case h1 => first | exact Or.inl rfl | exact Or.inr rfl | (refine Or.inr ?_; simp only [List.length_set, *]; done))
  | (with_reducible refine' v_ix ?h1 ?_); (case h1 => first | exact ixD_ref (by assumption) (by rfl) | rfl)
  | (with_reducible refine' v_len ?h1 ?_); (case h1 => first | exact lenD_ref (by assumption) | rfl)
  | (with_reducible refine' v_list ?h1 ?_); (case h1 => rfl)
  | (with_reducible refine' v_listR ?h1 ?_); (case h1 => rfl)
  | (with_reducible refine' v_tuple ?h1 ?_); (case h1 => rfl)
  | (with_reducible refine' v_isd ?h1 ?_); (case h1 => rfl)
  | (with_reducible refine' v_isiTy ?h1 ?h2 ?_); (case h1 => rfl); (case h2 => rfl)
  | (with_reducible refine' v_isiT ?h1 ?_); (case h1 => rfl))
local macro_rules | `(tactic| walk_at "dv2") => `(tactic| first
  | refine v_gsub (by rfl) (by rfl) (by assumption) (by rfl) (fun _ _ _ => ?_) | refine ⟨_, rfl, ?_⟩ | (with_reducible refine' ⟨rng_ok ?h1 ?h2, ?_⟩); (case h1 => omega); (case h2 => omega) | refine ⟨rfl, ?_⟩ | refine ⟨_, _, rfl, ?_⟩ | refine ⟨Nat.le_of_ble_eq_true rfl, ?_⟩)
local macro_rules | `(tactic| walk_at "dv3") => `(tactic| first
  | (with_reducible refine' v_dec (fun _ => ?_) (fun hn => absurd ?h hn)); (case h => first | assumption | omega | decide)
  | (with_reducible refine' v_dec (fun hn => absurd hn ?h) (fun _ => ?_)); (case h => first | assumption | omega | decide)
  | (with_reducible refine' v_ndec (fun _ => ?_) (fun hn => absurd hn ?h)); (case h => first | assumption | omega | decide)
  | (with_reducible refine' v_ndec (fun hn => absurd ?h hn) (fun _ => ?_)); (case h => first | assumption | omega | decide)
  | (with_reducible refine' v_bT ?h ?_); (case h => first | assumption | rfl)
  | (with_reducible refine' v_bF ?h ?_); (case h => first | assumption | rfl))
local macro_rules | `(tactic| walk_at "dv4") => `(tactic| with_reducible first
  | refine v_places ?_ | refine v_roads ?_ | refine v_over ?_ | refine v_line ?_ | refine v_spots ?_ | refine v_myards ?_ | refine v_mroads ?_ | refine v_mW (by decide +kernel) ?_ | refine v_mK (by decide +kernel) ?_
  | refine v_itX ?_ | refine v_ev ?_ | refine v_rev ?_ | refine v_zs ?_ | refine v_enum ?_ | refine v_enum2 ?_ | refine v_makeV ?_ | refine v_tryN ?_ | refine v_lc2 ?_ | refine v_fz ?_ | refine v_make ?_ | refine v_fldS ?_)
local macro_rules | `(tactic| walk_at "dv5") => `(tactic| first
  | refine ⟨_, _, rfl, rfl, ?_⟩ | refine ⟨⟨_, _, rfl⟩, ?_⟩ | refine ⟨⟨_, _, _, rfl⟩, ?_⟩ | refine ⟨_, _, _, rfl, ?_⟩ | refine Or.inl ⟨_, rfl, ?_⟩ | refine Or.inr ⟨_, (fun _ z => by cases z), rfl, ?_⟩)
local macro_rules | `(tactic| walk_at "dv") => `(tactic| repeat (first | walk_at "dv0" | walk_at "dv4" | walk_at "dv1" | walk_at "dv3" | walk_at "dv2" | walk_at "dv5"))
/-! law_small_web in parts -/
def b_law_small_web_1 : Bd := (mRet (mCall 4 m_law_drawn_web (mCons (mVar 0) (mCons (mVar 1) (mCons (mCall 2 m_law_draw (mCons (mVar 0) (mCons (mC (.int 5)) mNil))) (mCons (mCall 2 m_law_pick (mCons (mVar 0) (mCons (mLst (mCons (mC (.int 2)) (mCons (mC (.int 4)) (mCons (mC (.int 9)) (mCons (mC (.int 99)) mNil))))) mNil))) mNil))))))
theorem b_law_small_web_eq : b_law_small_web = (mSeq (mSet 1 (mOp mAdd (mC (.int 1)) (mCall 2 m_law_draw (mCons (mVar 0) (mCons (mC (.int 3)) mNil))))) (mSeq (mSet 1 (mIf (mB (mOp mEq (mCall 2 m_law_draw (mCons (mVar 0) (mCons (mC (.int 5)) mNil))) (mC (.int 0)))) (mOp mAdd (mC (.int 4)) (mOp mMod (mVar 1) (mC (.int 2)))) (mVar 1))) b_law_small_web_1)) := rfl
/-! ### small webs, some walks -/
section
variable {S : Store} {i : Nat}
theorem small_web_ok (hp : PureS S) (hF : FlowAt S i) {Q : Dt → Store → Prop} {X : Ex → Store → Prop}
    (q : ∀ (m : Mod) S', m.Drawn 99 → Fz i S S' → Q m.d S') : Pe (m_law_small_web [.ref i] S) Q X := by
  refine v_fn ?_
  rw [b_law_small_web_eq]
  walk_at "dv"
  refine draw_fz hF (by decide) (by decide) fun a S1 a0 a1 z1 => ?_
  walk_at "dv"
  refine draw_fz z1.flow (by decide) (by decide) fun b S2 b0 b1 z2 => ?_
  have z12 := z1.trans z2
  walk_at "dv"
  have tail : ∀ n : Int, 1 ≤ n → n ≤ 6 → Ps (b_law_small_web_1 [some (.ref i), some (.int n)] S2)
      (fun f _ S' => match f with
        | .rt d => Pe (fin false S.length d S') Q X
        | .nx => Pe (fin false S.length .non S') Q X
        | _ => False) (fun x _ S' => Pe (finX false S.length x S') Q X) := by
    intro n h1 h2
    obtain ⟨n, rfl⟩ : ∃ k : Nat, n = k := ⟨n.toNat, by omega⟩
    unfold b_law_small_web_1
    walk_at "dv"
    refine draw_fz z12.flow (by decide) (by decide) fun c S3 c0 c1 z3 => ?_
    have z13 := z12.trans z3
    obtain ⟨c, rfl⟩ : ∃ k : Nat, c = k := ⟨c.toNat, by omega⟩
    walk_at "dv"
    refine pick_fz z13.flow (Nat.le_of_ble_eq_true rfl) (Nat.le_of_ble_eq_true rfl) fun v S4 hv z4 => ?_
    have z14 := z13.trans z4
    obtain ⟨v, rfl, hv1, hv2⟩ : ∃ a : Int, v = .int a ∧ 1 ≤ a ∧ a ≤ 99 := by
      simp only [List.mem_cons, List.not_mem_nil, or_false] at hv
      rcases hv with rfl | rfl | rfl | rfl <;> exact ⟨_, rfl, by decide⟩
    walk_at "dv"
    refine drawn_web_ok (z14.pure hp) z14.flow (by omega) (by omega) (by omega) hv1 hv2 fun m S5 dm _ _ z5 => ?_
    have z15 := z14.trans z5
    walk_at "dv"
    refine v_fin (.inr z15.len) (q m _ ⟨dm.ok, dm.nm, fun r hr => ?_, dm.y0, dm.wd⟩ z15)
    have := dm.nb r hr
    omega
  refine v_dec (fun _ => ?_) (fun _ => ?_)
  · walk_at "dv"
    refine tail _ ?_ ?_
    · rw [Int.fmod_eq_emod_of_nonneg _ (by decide)]
      omega
    · rw [Int.fmod_eq_emod_of_nonneg _ (by decide)]
      omega
  · walk_at "dv"
    exact tail _ (by omega) (by omega)
theorem walk_of_ok {m : Mod} (ok : m.Ok) (y0 : m.ys ≠ []) (hp : PureS S) (hF : FlowAt S i) {most far : Int} (hm0 : 0 ≤ most) (hm1 : most ≤ 900) (h0 : 0 ≤ far) (h1 : far ≤ 10000) {Q : Dt → Store → Prop} {X : Ex → Store → Prop}
    (q : ∀ y t l z S', y ∈ m.ys → Path m y l z → l.length ≤ most.natAbs → t.natAbs ≤ far.natAbs + 200 → Within (far.natAbs + 200) l → Fz i S S' → Q (.tup [.str y, .lst (rowD t l)]) S') : Pe (m_law_walk_of [.ref i, m.d, .int most, .int far] S) Q X := by
  refine v_fn ?_
  unfold b_law_walk_of
  walk_at "dv"
  have hly := ok.ly
  have py : 0 < (m.ys.map Dt.str).length := by
    rw [List.length_map]
    exact List.length_pos_iff.mpr y0
  have py2 : (m.ys.map Dt.str).length < 2 ^ 64 := by rw [List.length_map]; omega
  refine pick_fz hF py py2 fun y S1 hy z1 => ?_
  obtain ⟨y, hyy, rfl⟩ := List.mem_map.mp hy
  walk_at "dv"
  refine draw_fz z1.flow (by omega) (log_lt (by omega) (by omega)) fun a S2 a0 a1 z2 => ?_
  have z12 := z1.trans z2
  walk_at "dv"
  refine drawn_row_ok ok (z12.pure hp) z12.flow hyy a0 (by omega) h0 h1 fun t l z S3 h hl ht hw z3 => ?_
  have z13 := z12.trans z3
  walk_at "dv"
  exact v_fin (.inr z13.len) (q y t l z _ hyy h (by omega) ht hw z13)
theorem some_walk_ok (hp : PureS S) (hF : FlowAt S i) {most : Int} (hm0 : 0 ≤ most) (hm1 : most ≤ 900) {Q : Dt → Store → Prop} {X : Ex → Store → Prop}
    (q : ∀ (m : Mod) y t l z S', m.Drawn 99 → y ∈ m.ys → Path m y l z → l.length ≤ most.natAbs → t.natAbs ≤ 320 → Within 320 l → Fz i S S' → Q (.tup [m.d, .str y, .lst (rowD t l)]) S') : Pe (m_law_some_walk [.ref i, .int most] S) Q X := by
  refine v_fn ?_
  unfold b_law_some_walk
  walk_at "dv"
  refine small_web_ok hp hF fun m S1 dm z1 => ?_
  walk_at "dv"
  refine pick_fz z1.flow (Nat.le_of_ble_eq_true rfl) (Nat.le_of_ble_eq_true rfl) fun v S2 hv z2 => ?_
  have z12 := z1.trans z2
  obtain ⟨v, rfl, hv1, hv2⟩ : ∃ a : Int, v = .int a ∧ 0 ≤ a ∧ a ≤ 120 := by
    simp only [List.mem_cons, List.not_mem_nil, or_false] at hv
    rcases hv with rfl | rfl | rfl <;> exact ⟨_, rfl, by decide⟩
  walk_at "dv"
  refine walk_of_ok dm.ok dm.y0 (z12.pure hp) z12.flow hm0 hm1 hv1 (by omega) fun y t l z S3 hy h hl ht hw z3 => ?_
  have z13 := z12.trans z3
  walk_at "dv"
  exact v_fin (.inr z13.len) (q m y t l z _ dm hy h hl (by omega) (hw.up (by omega)) z13)
end
end Lw
set_option Elab.async false
set_option linter.all false
set_option maxRecDepth 100000
set_option maxHeartbeats 4000000
set_option autoImplicit false
namespace Lw
open PySem Dv
/-! steps of our own words -/
local macro_rules | `(tactic| walk_at "num") => `(tactic| first | assumption | decide | omega)
local macro_rules | `(tactic| walk_at "dv0") => `(tactic| with_reducible first
  | refine v_seq ?_ | refine v_ifS ?_ | refine v_set ?_ | refine v_ret ?_ | refine v_asg ?_ | refine v_par ?_ | refine v_drop ?_ | refine v_nx ?_ | refine v_bk ?_ | refine v_ct ?_ | refine v_retN ?_ | refine v_for ?_
  | refine v_c ?_ | refine v_nil ?_ | refine v_cons ?_ | refine v_op ?_ | refine v_B ?_ | refine v_truth ?_ | refine v_andT ?_ | refine v_orT ?_ | refine v_notT ?_
  | refine v_andV ?_ | refine v_orV ?_ | refine v_notV ?_ | refine v_if ?_ | refine v_neg ?_ | refine v_chain ?_ | refine v_tup ?_ | refine v_lst ?_ | refine v_lstR ?_ | refine v_noPart ?_ | refine v_part ?_ | refine v_sl ?_
  | refine v_CB ?_ | refine v_call ?_ | refine v_abs ?_ | refine v_lc ?_ | refine v_yes ?_ | refine v_it ?_ | refine v_rng1 ?_ | refine v_rng2 ?_ | refine v_rng3 ?_ | refine v_T ?_ | refine v_F ?_
  | refine v_add ?_ | refine v_sub ?_ | refine v_iadd ?_ | refine v_lt ?_ | refine v_le ?_ | refine v_gt ?_ | refine v_ge ?_ | refine v_eqI ?_ | refine v_neI ?_ | refine v_eqB ?_ | refine v_neB ?_)
local macro_rules | `(tactic| walk_at "dv1") => `(tactic| first
  | (with_reducible refine' v_var ?h ?_); (case h => rfl)
  | (with_reducible refine' v_aug ?h ?_); (case h => rfl)
  | (with_reducible refine' v_div ?h1 ?h2 ?_); (case h1 => walk_at "num"); (case h2 => walk_at "num")
  | (with_reducible refine' v_mod ?h1 ?_); (case h1 => walk_at "num")
  | (with_reducible refine' v_pow ?h1 ?_); (case h1 => walk_at "num")
  | (with_reducible refine' v_mulR ?h1 ?_); (case h1 => walk_at "num")
  | (with_reducible refine' v_mulL ?h1 ?_); (case h1 => walk_at "num")
  | (with_reducible refine' v_fin ?h1 ?_); (case h1 => first | exact Or.inl rfl | exact Or.inr rfl | (refine Or.inr ?_; simp only [List.length_set, *]; done))
  | (with_reducible refine' v_ix ?h1 ?_); (case h1 => first | exact ixD_ref (by assumption) (by rfl) | rfl)
  | (with_reducible refine' v_len ?h1 ?_); (case h1 => first | exact lenD_ref (by assumption) | rfl)
  | (with_reducible refine' v_list ?h1 ?_); (case h1 => rfl)
  | (with_reducible refine' v_listR ?h1 ?_); (case h1 => rfl)
  | (with_reducible refine' v_tuple ?h1 ?_); (case h1 => rfl)
  | (with_reducible refine' v_isd ?h1 ?_); (case h1 => rfl)
  | (with_reducible refine' v_isiTy ?h1 ?h2 ?_); (case h1 => rfl); (case h2 => rfl)
  | (with_reducible refine' v_isiT ?h1 ?_); (case h1 => rfl))
local macro_rules | `(tactic| walk_at "dv2") => `(tactic| first
  | refine v_gsub (by rfl) (by rfl) (by assumption) (by rfl) (fun _ _ _ => ?_) | refine ⟨_, rfl, ?_⟩ | (with_reducible refine' ⟨rng_ok ?h1 ?h2, ?_⟩); (case h1 => omega); (case h2 => omega) | refine ⟨rfl, ?_⟩ | refine ⟨_, _, rfl, ?_⟩ | refine ⟨Nat.le_of_ble_eq_true rfl, ?_⟩)
local macro_rules | `(tactic| walk_at "dv3") => `(tactic| first
  | (with_reducible refine' v_dec (fun _ => ?_) (fun hn => absurd ?h hn)); (case h => first | assumption | omega | decide)
  | (with_reducible refine' v_dec (fun hn => absurd hn ?h) (fun _ => ?_)); (case h => first | assumption | omega | decide)
  | (with_reducible refine' v_ndec (fun _ => ?_) (fun hn => absurd hn ?h)); (case h => first | assumption | omega | decide)
  | (with_reducible refine' v_ndec (fun hn => absurd ?h hn) (fun _ => ?_)); (case h => first | assumption | omega | decide)
  | (with_reducible refine' v_bT ?h ?_); (case h => first | assumption | rfl)
  | (with_reducible refine' v_bF ?h ?_); (case h => first | assumption | rfl))
local macro_rules | `(tactic| walk_at "dv4") => `(tactic| with_reducible first
  | refine v_places ?_ | refine v_roads ?_ | refine v_over ?_ | refine v_line ?_ | refine v_spots ?_ | refine v_myards ?_ | refine v_mroads ?_ | refine v_mW (by decide +kernel) ?_ | refine v_mK (by decide +kernel) ?_
  | refine v_itX ?_ | refine v_ev ?_ | refine v_rev ?_ | refine v_zs ?_ | refine v_enum ?_ | refine v_enum2 ?_ | refine v_makeV ?_ | refine v_tryN ?_ | refine v_lc2 ?_ | refine v_fz ?_ | refine v_make ?_ | refine v_fldS ?_)
local macro_rules | `(tactic| walk_at "dv5") => `(tactic| first
  | refine ⟨_, _, rfl, rfl, ?_⟩ | refine ⟨⟨_, _, rfl⟩, ?_⟩ | refine ⟨⟨_, _, _, rfl⟩, ?_⟩ | refine ⟨_, _, _, rfl, ?_⟩ | refine Or.inl ⟨_, rfl, ?_⟩ | refine Or.inr ⟨_, (fun _ z => by cases z), rfl, ?_⟩)
local macro_rules | `(tactic| walk_at "dv") => `(tactic| repeat (first | walk_at "dv0" | walk_at "dv4" | walk_at "dv1" | walk_at "dv3" | walk_at "dv2" | walk_at "dv5"))
/-! ### settled -/
abbrev Pairs := List (Int × Step)
def ruleOf (m : Mod) (s : Step) : Int × Int := match m.road s.1 with
  | some r => r.rule s.2
  | none => (1, 1)
def pushS (h : Int × Int) (ps : Pairs) (x : Int) (s : Step) : Pairs × Int := (ps ++ [(x.fmod h.1.natAbs, s)], (x - x.fmod h.1.natAbs).fdiv h.1 * h.2)
def stl1 (h : Int × Int) (ps : Pairs) (x : Int) (s : Step) : Pairs × Int := match ps.getLast? with
  | some p => if p.2 = und s ∧ x.fmod h.1 = 0 then (ps.dropLast, p.1 + x.fdiv h.1 * h.2) else pushS h ps x s
  | none => pushS h ps x s
section
variable {m : Mod} {S : Store}
theorem undone_ok {s : Step} : m_undone [stD s] S = .ok (stD (und s)) S := by
  refine Pe.eq (v_fn ?_)
  unfold b_undone
  walk_at "dv"
  first | exact ⟨rfl, rfl⟩ | exact rfl
end
end Lw
set_option Elab.async false
set_option linter.all false
set_option maxRecDepth 100000
set_option maxHeartbeats 4000000
set_option autoImplicit false
namespace Lw
open PySem Dv
/-! steps of our own words -/
local macro_rules | `(tactic| walk_at "num") => `(tactic| first | assumption | decide | omega)
local macro_rules | `(tactic| walk_at "dv0") => `(tactic| with_reducible first
  | refine v_seq ?_ | refine v_ifS ?_ | refine v_set ?_ | refine v_ret ?_ | refine v_asg ?_ | refine v_par ?_ | refine v_drop ?_ | refine v_nx ?_ | refine v_bk ?_ | refine v_ct ?_ | refine v_retN ?_ | refine v_for ?_
  | refine v_c ?_ | refine v_nil ?_ | refine v_cons ?_ | refine v_op ?_ | refine v_B ?_ | refine v_truth ?_ | refine v_andT ?_ | refine v_orT ?_ | refine v_notT ?_
  | refine v_andV ?_ | refine v_orV ?_ | refine v_notV ?_ | refine v_if ?_ | refine v_neg ?_ | refine v_chain ?_ | refine v_tup ?_ | refine v_lst ?_ | refine v_lstR ?_ | refine v_noPart ?_ | refine v_part ?_ | refine v_sl ?_
  | refine v_CB ?_ | refine v_call ?_ | refine v_abs ?_ | refine v_lc ?_ | refine v_yes ?_ | refine v_it ?_ | refine v_rng1 ?_ | refine v_rng2 ?_ | refine v_rng3 ?_ | refine v_T ?_ | refine v_F ?_
  | refine v_add ?_ | refine v_sub ?_ | refine v_iadd ?_ | refine v_lt ?_ | refine v_le ?_ | refine v_gt ?_ | refine v_ge ?_ | refine v_eqI ?_ | refine v_neI ?_ | refine v_eqB ?_ | refine v_neB ?_)
local macro_rules | `(tactic| walk_at "dv1") => `(tactic| first
  | (with_reducible refine' v_var ?h ?_); (case h => rfl)
  | (with_reducible refine' v_aug ?h ?_); (case h => rfl)
  | (with_reducible refine' v_div ?h1 ?h2 ?_); (case h1 => walk_at "num"); (case h2 => walk_at "num")
  | (with_reducible refine' v_mod ?h1 ?_); (case h1 => walk_at "num")
  | (with_reducible refine' v_pow ?h1 ?_); (case h1 => walk_at "num")
  | (with_reducible refine' v_mulR ?h1 ?_); (case h1 => walk_at "num")
  | (with_reducible refine' v_mulL ?h1 ?_); (case h1 => walk_at "num")
  | (with_reducible refine' v_fin ?h1 ?_); (case h1 => first | exact Or.inl rfl | exact Or.inr rfl | (refine Or.inr ?_; simp only [List.length_set, *]; done))
  | (with_reducible refine' v_ix ?h1 ?_); (case h1 => first | exact ixD_ref (by assumption) (by rfl) | rfl)
  | (with_reducible refine' v_len ?h1 ?_); (case h1 => first | exact lenD_ref (by assumption) | rfl)
  | (with_reducible refine' v_list ?h1 ?_); (case h1 => rfl)
  | (with_reducible refine' v_listR ?h1 ?_); (case h1 => rfl)
  | (with_reducible refine' v_tuple ?h1 ?_); (case h1 => rfl)
  | (with_reducible refine' v_isd ?h1 ?_); (case h1 => rfl)
  | (with_reducible refine' v_isiTy ?h1 ?h2 ?_); (case h1 => rfl); (case h2 => rfl)
  | (with_reducible refine' v_isiT ?h1 ?_); (case h1 => rfl))
local macro_rules | `(tactic| walk_at "dv2") => `(tactic| first
  | refine v_gsub (by rfl) (by rfl) (by assumption) (by rfl) (fun _ _ _ => ?_) | refine ⟨_, rfl, ?_⟩ | (with_reducible refine' ⟨rng_ok ?h1 ?h2, ?_⟩); (case h1 => omega); (case h2 => omega) | refine ⟨rfl, ?_⟩ | refine ⟨_, _, rfl, ?_⟩ | refine ⟨Nat.le_of_ble_eq_true rfl, ?_⟩)
local macro_rules | `(tactic| walk_at "dv3") => `(tactic| first
  | (with_reducible refine' v_dec (fun _ => ?_) (fun hn => absurd ?h hn)); (case h => first | assumption | omega | decide)
  | (with_reducible refine' v_dec (fun hn => absurd hn ?h) (fun _ => ?_)); (case h => first | assumption | omega | decide)
  | (with_reducible refine' v_ndec (fun _ => ?_) (fun hn => absurd hn ?h)); (case h => first | assumption | omega | decide)
  | (with_reducible refine' v_ndec (fun hn => absurd ?h hn) (fun _ => ?_)); (case h => first | assumption | omega | decide)
  | (with_reducible refine' v_bT ?h ?_); (case h => first | assumption | rfl)
  | (with_reducible refine' v_bF ?h ?_); (case h => first | assumption | rfl))
local macro_rules | `(tactic| walk_at "dv4") => `(tactic| with_reducible first
  | refine v_places ?_ | refine v_roads ?_ | refine v_over ?_ | refine v_line ?_ | refine v_spots ?_ | refine v_myards ?_ | refine v_mroads ?_ | refine v_mW (by decide +kernel) ?_ | refine v_mK (by decide +kernel) ?_
  | refine v_itX ?_ | refine v_ev ?_ | refine v_rev ?_ | refine v_zs ?_ | refine v_enum ?_ | refine v_enum2 ?_ | refine v_makeV ?_ | refine v_tryN ?_ | refine v_lc2 ?_ | refine v_fz ?_ | refine v_make ?_ | refine v_fldS ?_)
local macro_rules | `(tactic| walk_at "dv5") => `(tactic| first
  | refine ⟨_, _, rfl, rfl, ?_⟩ | refine ⟨⟨_, _, rfl⟩, ?_⟩ | refine ⟨⟨_, _, _, rfl⟩, ?_⟩ | refine ⟨_, _, _, rfl, ?_⟩ | refine Or.inl ⟨_, rfl, ?_⟩ | refine Or.inr ⟨_, (fun _ z => by cases z), rfl, ?_⟩)
local macro_rules | `(tactic| walk_at "dv") => `(tactic| repeat (first | walk_at "dv0" | walk_at "dv4" | walk_at "dv1" | walk_at "dv3" | walk_at "dv2" | walk_at "dv5"))
/-! ### alike and plain -/
theorem v_eqB {x y : Dt} {b : Bool} {S : Store} {Q : Dt → Store → Prop} {X : Ex → Store → Prop} (h : okD 12 (res S x) = true) (h' : okD 12 (res S y) = true) (e : eqD (res S x) (res S y) = b) (q : Q (.bl b) S) : Pe (mEq x y S) Q X := by
  refine v_ifok ⟨h, h'⟩ ?_
  rw [e]
  exact q
end Lw
set_option Elab.async false
set_option linter.all false
set_option maxRecDepth 100000
set_option maxHeartbeats 4000000
set_option autoImplicit false
namespace Lw
open PySem Dv
/-! steps of our own words -/
local macro_rules | `(tactic| walk_at "num") => `(tactic| first | assumption | decide | omega)
local macro_rules | `(tactic| walk_at "dv0") => `(tactic| with_reducible first
  | refine v_seq ?_ | refine v_ifS ?_ | refine v_set ?_ | refine v_ret ?_ | refine v_asg ?_ | refine v_par ?_ | refine v_drop ?_ | refine v_nx ?_ | refine v_bk ?_ | refine v_ct ?_ | refine v_retN ?_ | refine v_for ?_
  | refine v_c ?_ | refine v_nil ?_ | refine v_cons ?_ | refine v_op ?_ | refine v_B ?_ | refine v_truth ?_ | refine v_andT ?_ | refine v_orT ?_ | refine v_notT ?_
  | refine v_andV ?_ | refine v_orV ?_ | refine v_notV ?_ | refine v_if ?_ | refine v_neg ?_ | refine v_chain ?_ | refine v_tup ?_ | refine v_lst ?_ | refine v_lstR ?_ | refine v_noPart ?_ | refine v_part ?_ | refine v_sl ?_
  | refine v_CB ?_ | refine v_call ?_ | refine v_abs ?_ | refine v_lc ?_ | refine v_yes ?_ | refine v_it ?_ | refine v_rng1 ?_ | refine v_rng2 ?_ | refine v_rng3 ?_ | refine v_T ?_ | refine v_F ?_
  | refine v_add ?_ | refine v_sub ?_ | refine v_iadd ?_ | refine v_lt ?_ | refine v_le ?_ | refine v_gt ?_ | refine v_ge ?_ | refine v_eqI ?_ | refine v_neI ?_ | refine v_eqB ?_ | refine v_neB ?_)
local macro_rules | `(tactic| walk_at "dv1") => `(tactic| first
  | (with_reducible refine' v_var ?h ?_); (case h => rfl)
  | (with_reducible refine' v_aug ?h ?_); (case h => rfl)
  | (with_reducible refine' v_div ?h1 ?h2 ?_); (case h1 => walk_at "num"); (case h2 => walk_at "num")
  | (with_reducible refine' v_mod ?h1 ?_); (case h1 => walk_at "num")
  | (with_reducible refine' v_pow ?h1 ?_); (case h1 => walk_at "num")
  | (with_reducible refine' v_mulR ?h1 ?_); (case h1 => walk_at "num")
  | (with_reducible refine' v_mulL ?h1 ?_); (case h1 => walk_at "num")
  | (with_reducible refine' v_fin ?h1 ?_); (case h1 => first | exact Or.inl rfl | exact Or.inr rfl | (refine Or.inr ?_; simp only [List.length_set, *]; done))
  | (with_reducible refine' v_ix ?h1 ?_); (case h1 => first | exact ixD_ref (by assumption) (by rfl) | rfl)
  | (with_reducible refine' v_len ?h1 ?_); (case h1 => first | exact lenD_ref (by assumption) | rfl)
  | (with_reducible refine' v_list ?h1 ?_); (case h1 => rfl)
  | (with_reducible refine' v_listR ?h1 ?_); (case h1 => rfl)
  | (with_reducible refine' v_tuple ?h1 ?_); (case h1 => rfl)
  | (with_reducible refine' v_isd ?h1 ?_); (case h1 => rfl)
  | (with_reducible refine' v_isiTy ?h1 ?h2 ?_); (case h1 => rfl); (case h2 => rfl)
  | (with_reducible refine' v_isiT ?h1 ?_); (case h1 => rfl))
local macro_rules | `(tactic| walk_at "dv2") => `(tactic| first
  | refine v_gsub (by rfl) (by rfl) (by assumption) (by rfl) (fun _ _ _ => ?_) | refine ⟨_, rfl, ?_⟩ | (with_reducible refine' ⟨rng_ok ?h1 ?h2, ?_⟩); (case h1 => omega); (case h2 => omega) | refine ⟨rfl, ?_⟩ | refine ⟨_, _, rfl, ?_⟩ | refine ⟨Nat.le_of_ble_eq_true rfl, ?_⟩)
local macro_rules | `(tactic| walk_at "dv3") => `(tactic| first
  | (with_reducible refine' v_dec (fun _ => ?_) (fun hn => absurd ?h hn)); (case h => first | assumption | omega | decide)
  | (with_reducible refine' v_dec (fun hn => absurd hn ?h) (fun _ => ?_)); (case h => first | assumption | omega | decide)
  | (with_reducible refine' v_ndec (fun _ => ?_) (fun hn => absurd hn ?h)); (case h => first | assumption | omega | decide)
  | (with_reducible refine' v_ndec (fun hn => absurd ?h hn) (fun _ => ?_)); (case h => first | assumption | omega | decide)
  | (with_reducible refine' v_bT ?h ?_); (case h => first | assumption | rfl)
  | (with_reducible refine' v_bF ?h ?_); (case h => first | assumption | rfl))
local macro_rules | `(tactic| walk_at "dv4") => `(tactic| with_reducible first
  | refine v_places ?_ | refine v_roads ?_ | refine v_over ?_ | refine v_line ?_ | refine v_spots ?_ | refine v_myards ?_ | refine v_mroads ?_ | refine v_mW (by decide +kernel) ?_ | refine v_mK (by decide +kernel) ?_
  | refine v_itX ?_ | refine v_ev ?_ | refine v_rev ?_ | refine v_zs ?_ | refine v_enum ?_ | refine v_enum2 ?_ | refine v_makeV ?_ | refine v_tryN ?_ | refine v_lc2 ?_ | refine v_fz ?_ | refine v_make ?_ | refine v_fldS ?_)
local macro_rules | `(tactic| walk_at "dv5") => `(tactic| first
  | refine ⟨_, _, rfl, rfl, ?_⟩ | refine ⟨⟨_, _, rfl⟩, ?_⟩ | refine ⟨⟨_, _, _, rfl⟩, ?_⟩ | refine ⟨_, _, _, rfl, ?_⟩ | refine Or.inl ⟨_, rfl, ?_⟩ | refine Or.inr ⟨_, (fun _ z => by cases z), rfl, ?_⟩)
local macro_rules | `(tactic| walk_at "dv") => `(tactic| repeat (first | walk_at "dv0" | walk_at "dv4" | walk_at "dv1" | walk_at "dv3" | walk_at "dv2" | walk_at "dv5"))
/-! ### one step on a plain walk's pairs: an action -/
def WayOk (s : Step) : Prop := s.2 = 1 ∨ s.2 = -1
theorem und_way {s : Step} (h : WayOk s) : WayOk (und s) := by
  rcases h with e | e
  · exact .inr (by show 0 - s.2 = -1; rw [e]; rfl)
  · exact .inl (by show 0 - s.2 = 1; rw [e]; rfl)
abbrev G (m : Mod) (s : Step) (ps : Pairs) (x : Int) : Pairs × Int := stl1 (ruleOf m s) ps x s
/-! ### rows act on plain pairs; exchanges keep what they do -/
section
variable {m : Mod}
def Ways (l : Seg) : Prop := ∀ p ∈ l, WayOk p.1
theorem Path.ways {y z : Str} {l : Seg} (h : Path m y l z) : Ways l := by
  induction h with
  | nil y => exact fun p hp => (List.not_mem_nil hp).elim
  | cons h1 h2 h3 _ ih =>
    intro p hp
    rcases List.mem_cons.mp hp with rfl | hp
    · exact h2
    · exact ih p hp
theorem Ways.cons {p : Step × Int} {l : Seg} : Ways (p :: l) ↔ WayOk p.1 ∧ Ways l := by
  unfold Ways
  simp
theorem Ways.app {a b : Seg} : Ways (a ++ b) ↔ Ways a ∧ Ways b := by
  unfold Ways
  constructor
  · exact fun h => ⟨fun p hp => h p (List.mem_append_left _ hp), fun p hp => h p (List.mem_append_right _ hp)⟩
  · rintro ⟨h1, h2⟩ p hp
    rcases List.mem_append.mp hp with z | z
    · exact h1 p z
    · exact h2 p z
/-- a row undone -/
def bk (t : Int) : Seg → Int × Seg
  | [] => (0 - t, [])
  | (s, u) :: l => ((bk u l).1, (bk u l).2 ++ [(und s, 0 - t)])
theorem bk_len (t : Int) (l : Seg) : (bk t l).2.length = l.length := by
  induction l generalizing t with
  | nil => rfl
  | cons p l ih =>
    show ((bk p.2 l).2 ++ [(und p.1, 0 - t)]).length = _
    rw [List.length_append, ih]
    rfl
theorem Path.und1 {y z : Str} {s : Step} {t u : Int} (h : Path m y [(s, t)] z) : Path m z [(und s, u)] y := by
  cases h with
  | cons h1 h2 h3 h4 =>
    cases h4
    rename_i r
    have hu := und_way h2
    refine .cons (show m.road (und s).1 = some r from h1) hu ?_ ?_
    · show (r.ends (0 - s.2)).1 = _
      rw [und_ends r h2]
    · have : (r.ends (und s).2).2 = y := by
        show (r.ends (0 - s.2)).2 = y
        rw [und_ends r h2]
        exact h3
      rw [this]
      exact .nil y
theorem bk_path {y z : Str} {l : Seg} (h : Path m y l z) (t : Int) : Path m z (bk t l).2 y := by
  induction l generalizing y t with
  | nil =>
    cases h
    exact .nil _
  | cons p l ih =>
    obtain ⟨s, u⟩ := p
    cases h with
    | cons h1 h2 h3 h4 =>
      exact (ih h4 u).app (Path.und1 (t := u) (.cons h1 h2 h3 (.nil _)))
theorem bk_b {B : Nat} : ∀ {l : Seg} {t : Int}, t.natAbs ≤ B → Within B l → (bk t l).1.natAbs ≤ B ∧ Within B (bk t l).2
  | [], t, ht, _ => ⟨by show (0 - t).natAbs ≤ B; omega, fun p hp => (List.not_mem_nil hp).elim⟩
  | (s, u) :: l, t, ht, hw => by
    obtain ⟨h1, h2⟩ := Within.cons.mp hw
    obtain ⟨i1, i2⟩ := bk_b (l := l) (t := u) h1 h2
    exact ⟨i1, Within.app.mpr ⟨i2, Within.cons.mpr ⟨by show (0 - t).natAbs ≤ B; omega, fun p hp => (List.not_mem_nil hp).elim⟩⟩⟩
end
end Lw
set_option Elab.async false
set_option linter.all false
set_option maxRecDepth 100000
set_option maxHeartbeats 4000000
set_option autoImplicit false
namespace Lw
open PySem Dv
/-! steps of our own words -/
local macro_rules | `(tactic| walk_at "num") => `(tactic| first | assumption | decide | omega)
local macro_rules | `(tactic| walk_at "dv0") => `(tactic| with_reducible first
  | refine v_seq ?_ | refine v_ifS ?_ | refine v_set ?_ | refine v_ret ?_ | refine v_asg ?_ | refine v_par ?_ | refine v_drop ?_ | refine v_nx ?_ | refine v_bk ?_ | refine v_ct ?_ | refine v_retN ?_ | refine v_for ?_
  | refine v_c ?_ | refine v_nil ?_ | refine v_cons ?_ | refine v_op ?_ | refine v_B ?_ | refine v_truth ?_ | refine v_andT ?_ | refine v_orT ?_ | refine v_notT ?_
  | refine v_andV ?_ | refine v_orV ?_ | refine v_notV ?_ | refine v_if ?_ | refine v_neg ?_ | refine v_chain ?_ | refine v_tup ?_ | refine v_lst ?_ | refine v_lstR ?_ | refine v_noPart ?_ | refine v_part ?_ | refine v_sl ?_
  | refine v_CB ?_ | refine v_call ?_ | refine v_abs ?_ | refine v_lc ?_ | refine v_yes ?_ | refine v_it ?_ | refine v_rng1 ?_ | refine v_rng2 ?_ | refine v_rng3 ?_ | refine v_T ?_ | refine v_F ?_
  | refine v_add ?_ | refine v_sub ?_ | refine v_iadd ?_ | refine v_lt ?_ | refine v_le ?_ | refine v_gt ?_ | refine v_ge ?_ | refine v_eqI ?_ | refine v_neI ?_ | refine v_eqB ?_ | refine v_neB ?_)
local macro_rules | `(tactic| walk_at "dv1") => `(tactic| first
  | (with_reducible refine' v_var ?h ?_); (case h => rfl)
  | (with_reducible refine' v_aug ?h ?_); (case h => rfl)
  | (with_reducible refine' v_div ?h1 ?h2 ?_); (case h1 => walk_at "num"); (case h2 => walk_at "num")
  | (with_reducible refine' v_mod ?h1 ?_); (case h1 => walk_at "num")
  | (with_reducible refine' v_pow ?h1 ?_); (case h1 => walk_at "num")
  | (with_reducible refine' v_mulR ?h1 ?_); (case h1 => walk_at "num")
  | (with_reducible refine' v_mulL ?h1 ?_); (case h1 => walk_at "num")
  | (with_reducible refine' v_fin ?h1 ?_); (case h1 => first | exact Or.inl rfl | exact Or.inr rfl | (refine Or.inr ?_; simp only [List.length_set, *]; done))
  | (with_reducible refine' v_ix ?h1 ?_); (case h1 => first | exact ixD_ref (by assumption) (by rfl) | rfl)
  | (with_reducible refine' v_len ?h1 ?_); (case h1 => first | exact lenD_ref (by assumption) | rfl)
  | (with_reducible refine' v_list ?h1 ?_); (case h1 => rfl)
  | (with_reducible refine' v_listR ?h1 ?_); (case h1 => rfl)
  | (with_reducible refine' v_tuple ?h1 ?_); (case h1 => rfl)
  | (with_reducible refine' v_isd ?h1 ?_); (case h1 => rfl)
  | (with_reducible refine' v_isiTy ?h1 ?h2 ?_); (case h1 => rfl); (case h2 => rfl)
  | (with_reducible refine' v_isiT ?h1 ?_); (case h1 => rfl))
local macro_rules | `(tactic| walk_at "dv2") => `(tactic| first
  | refine v_gsub (by rfl) (by rfl) (by assumption) (by rfl) (fun _ _ _ => ?_) | refine ⟨_, rfl, ?_⟩ | (with_reducible refine' ⟨rng_ok ?h1 ?h2, ?_⟩); (case h1 => omega); (case h2 => omega) | refine ⟨rfl, ?_⟩ | refine ⟨_, _, rfl, ?_⟩ | refine ⟨Nat.le_of_ble_eq_true rfl, ?_⟩)
local macro_rules | `(tactic| walk_at "dv3") => `(tactic| first
  | (with_reducible refine' v_dec (fun _ => ?_) (fun hn => absurd ?h hn)); (case h => first | assumption | omega | decide)
  | (with_reducible refine' v_dec (fun hn => absurd hn ?h) (fun _ => ?_)); (case h => first | assumption | omega | decide)
  | (with_reducible refine' v_ndec (fun _ => ?_) (fun hn => absurd hn ?h)); (case h => first | assumption | omega | decide)
  | (with_reducible refine' v_ndec (fun hn => absurd ?h hn) (fun _ => ?_)); (case h => first | assumption | omega | decide)
  | (with_reducible refine' v_bT ?h ?_); (case h => first | assumption | rfl)
  | (with_reducible refine' v_bF ?h ?_); (case h => first | assumption | rfl))
local macro_rules | `(tactic| walk_at "dv4") => `(tactic| with_reducible first
  | refine v_places ?_ | refine v_roads ?_ | refine v_over ?_ | refine v_line ?_ | refine v_spots ?_ | refine v_myards ?_ | refine v_mroads ?_ | refine v_mW (by decide +kernel) ?_ | refine v_mK (by decide +kernel) ?_
  | refine v_itX ?_ | refine v_ev ?_ | refine v_rev ?_ | refine v_zs ?_ | refine v_enum ?_ | refine v_enum2 ?_ | refine v_makeV ?_ | refine v_tryN ?_ | refine v_lc2 ?_ | refine v_fz ?_ | refine v_make ?_ | refine v_fldS ?_)
local macro_rules | `(tactic| walk_at "dv5") => `(tactic| first
  | refine ⟨_, _, rfl, rfl, ?_⟩ | refine ⟨⟨_, _, rfl⟩, ?_⟩ | refine ⟨⟨_, _, _, rfl⟩, ?_⟩ | refine ⟨_, _, _, rfl, ?_⟩ | refine Or.inl ⟨_, rfl, ?_⟩ | refine Or.inr ⟨_, (fun _ z => by cases z), rfl, ?_⟩)
local macro_rules | `(tactic| walk_at "dv") => `(tactic| repeat (first | walk_at "dv0" | walk_at "dv4" | walk_at "dv1" | walk_at "dv3" | walk_at "dv2" | walk_at "dv5"))
/-! ### walks undone, joined -/
def gBack : Dt → Option Dt
  | .int i => some (.int (0 - i))
  | .tup [.str n, .int w] => some (stD (n, 0 - w))
  | _ => none
theorem back_rows : ∀ (l : Seg) (t : Int), (rowD t l).reverse.filterMap gBack = rowD (bk t l).1 (bk t l).2
  | [], t => rfl
  | (s, u) :: l, t => by
    have ih := back_rows l u
    have e : rowD t ((s, u) :: l) = .int t :: stD s :: rowD u l := rfl
    have er : ∀ ls : List Dt, (Dt.int t :: stD s :: ls).reverse = ls.reverse ++ [stD s, .int t] := fun ls => by simp
    rw [e, er, List.filterMap_append, ih]
    show rowD (bk u l).1 (bk u l).2 ++ [stD (und s), .int (0 - t)] = rowD (bk u l).1 ((bk u l).2 ++ [(und s, 0 - t)])
    exact row_add _ _ _ _
section
variable {m : Mod} {S : Store}
theorem back_row_ok {t : Int} {l : Seg} (hl : l.length ≤ 100000) : m_back_row [.lst (rowD t l)] S = .ok (.lst (rowD (bk t l).1 (bk t l).2)) S := by
  refine Pe.eq (v_fn ?_)
  unfold b_back_row
  walk_at "dv"
  refine v_cloop gBack (fun d hd => ?_) ?_ ?_
  · have hd : d ∈ rowD t l := List.mem_reverse.mp hd
    have two : (∃ i, d = .int i) ∨ ∃ s : Step, d = stD s := by
      rcases List.mem_cons.mp hd with z | z
      · exact .inl ⟨_, z⟩
      · obtain ⟨p, _, hp⟩ := List.mem_flatMap.mp z
        rcases List.mem_cons.mp hp with z | z
        · exact .inr ⟨_, z⟩
        · exact .inl ⟨_, List.mem_singleton.mp z⟩
    refine ⟨_, rfl, ?_⟩
    rcases two with ⟨i, rfl⟩ | ⟨s, rfl⟩
    · walk_at "dv"
      first | exact ⟨rfl, rfl⟩ | exact rfl
    · walk_at "dv"
      refine Pe.of undone_ok ?_
      first | exact ⟨rfl, rfl⟩ | exact rfl
  · rw [List.length_reverse, row_len]
    simp
    omega
  · rw [List.nil_append, back_rows]
    walk_at "dv"
    first | exact ⟨rfl, rfl⟩ | exact rfl
theorem walk_back_ok (ok : m.Ok) (hp : PureS S) {y z : Str} {t : Int} {l : Seg} (h : Path m y l z) (hz : z ∈ m.ys) (ht : t.natAbs ≤ 10 ^ 60) (hw : Within (10 ^ 60) l) (hl : l.length ≤ 200) : m_Walk_back [walkD m y t l] S = .ok (walkD m z (bk t l).1 (bk t l).2) S := by
  refine Pe.eq (v_fn ?_)
  unfold b_Walk_back
  walk_at "dv"
  refine Pe.of (walk_end_ok h) ?_
  walk_at "dv"
  refine Pe.of walk_row_ok ?_
  walk_at "dv"
  refine Pe.of (back_row_ok (by omega)) ?_
  walk_at "dv"
  obtain ⟨b1, b2⟩ := bk_b ht hw
  refine v_walk2 ok hp (bk_path h t) hz b1 b2 (by rw [bk_len]; exact hl) ?_
  walk_at "dv"
  first | exact ⟨rfl, rfl⟩ | exact rfl
theorem odds_row (t : Int) : ∀ l : Seg, evens (List.drop 1 (rowD t l)) = l.map fun p => stD p.1 := fun l => evens_seg l
theorem walk_steps_ok {y : Str} {t : Int} {l : Seg} : m_Walk_steps [walkD m y t l] S = .ok (.lst (l.map fun p => stD p.1)) S := by
  refine Pe.eq (v_fn ?_)
  unfold b_Walk_steps
  walk_at "dv"
  rw [odds_row]
  first | exact ⟨rfl, rfl⟩ | exact rfl
end
section
variable {m : Mod} {S : Store}
theorem walk_yards_ok {y : Str} {t : Int} {l : Seg} : m_Walk_yards [walkD m y t l] S = .ok (.lst ((spots m y l).map Dt.str)) S := by
  refine Pe.eq (v_fn ?_)
  unfold b_Walk_yards
  walk_at "dv"
  first | exact ⟨rfl, rfl⟩ | exact rfl
end
end Lw
set_option Elab.async false
set_option linter.all false
set_option maxRecDepth 100000
set_option maxHeartbeats 4000000
set_option autoImplicit false
namespace Lw
open PySem Dv
/-! steps of our own words -/
local macro_rules | `(tactic| walk_at "num") => `(tactic| first | assumption | decide | omega)
local macro_rules | `(tactic| walk_at "dv0") => `(tactic| with_reducible first
  | refine v_seq ?_ | refine v_ifS ?_ | refine v_set ?_ | refine v_ret ?_ | refine v_asg ?_ | refine v_par ?_ | refine v_drop ?_ | refine v_nx ?_ | refine v_bk ?_ | refine v_ct ?_ | refine v_retN ?_ | refine v_for ?_
  | refine v_c ?_ | refine v_nil ?_ | refine v_cons ?_ | refine v_op ?_ | refine v_B ?_ | refine v_truth ?_ | refine v_andT ?_ | refine v_orT ?_ | refine v_notT ?_
  | refine v_andV ?_ | refine v_orV ?_ | refine v_notV ?_ | refine v_if ?_ | refine v_neg ?_ | refine v_chain ?_ | refine v_tup ?_ | refine v_lst ?_ | refine v_lstR ?_ | refine v_noPart ?_ | refine v_part ?_ | refine v_sl ?_
  | refine v_CB ?_ | refine v_call ?_ | refine v_abs ?_ | refine v_lc ?_ | refine v_yes ?_ | refine v_it ?_ | refine v_rng1 ?_ | refine v_rng2 ?_ | refine v_rng3 ?_ | refine v_T ?_ | refine v_F ?_
  | refine v_add ?_ | refine v_sub ?_ | refine v_iadd ?_ | refine v_lt ?_ | refine v_le ?_ | refine v_gt ?_ | refine v_ge ?_ | refine v_eqI ?_ | refine v_neI ?_ | refine v_eqB ?_ | refine v_neB ?_)
local macro_rules | `(tactic| walk_at "dv1") => `(tactic| first
  | (with_reducible refine' v_var ?h ?_); (case h => rfl)
  | (with_reducible refine' v_aug ?h ?_); (case h => rfl)
  | (with_reducible refine' v_div ?h1 ?h2 ?_); (case h1 => walk_at "num"); (case h2 => walk_at "num")
  | (with_reducible refine' v_mod ?h1 ?_); (case h1 => walk_at "num")
  | (with_reducible refine' v_pow ?h1 ?_); (case h1 => walk_at "num")
  | (with_reducible refine' v_mulR ?h1 ?_); (case h1 => walk_at "num")
  | (with_reducible refine' v_mulL ?h1 ?_); (case h1 => walk_at "num")
  | (with_reducible refine' v_fin ?h1 ?_); (case h1 => first | exact Or.inl rfl | exact Or.inr rfl | (refine Or.inr ?_; simp only [List.length_set, *]; done))
  | (with_reducible refine' v_ix ?h1 ?_); (case h1 => first | exact ixD_ref (by assumption) (by rfl) | rfl)
  | (with_reducible refine' v_len ?h1 ?_); (case h1 => first | exact lenD_ref (by assumption) | rfl)
  | (with_reducible refine' v_list ?h1 ?_); (case h1 => rfl)
  | (with_reducible refine' v_listR ?h1 ?_); (case h1 => rfl)
  | (with_reducible refine' v_tuple ?h1 ?_); (case h1 => rfl)
  | (with_reducible refine' v_isd ?h1 ?_); (case h1 => rfl)
  | (with_reducible refine' v_isiTy ?h1 ?h2 ?_); (case h1 => rfl); (case h2 => rfl)
  | (with_reducible refine' v_isiT ?h1 ?_); (case h1 => rfl))
local macro_rules | `(tactic| walk_at "dv2") => `(tactic| first
  | refine v_gsub (by rfl) (by rfl) (by assumption) (by rfl) (fun _ _ _ => ?_) | refine ⟨_, rfl, ?_⟩ | (with_reducible refine' ⟨rng_ok ?h1 ?h2, ?_⟩); (case h1 => omega); (case h2 => omega) | refine ⟨rfl, ?_⟩ | refine ⟨_, _, rfl, ?_⟩ | refine ⟨Nat.le_of_ble_eq_true rfl, ?_⟩)
local macro_rules | `(tactic| walk_at "dv3") => `(tactic| first
  | (with_reducible refine' v_dec (fun _ => ?_) (fun hn => absurd ?h hn)); (case h => first | assumption | omega | decide)
  | (with_reducible refine' v_dec (fun hn => absurd hn ?h) (fun _ => ?_)); (case h => first | assumption | omega | decide)
  | (with_reducible refine' v_ndec (fun _ => ?_) (fun hn => absurd hn ?h)); (case h => first | assumption | omega | decide)
  | (with_reducible refine' v_ndec (fun hn => absurd ?h hn) (fun _ => ?_)); (case h => first | assumption | omega | decide)
  | (with_reducible refine' v_bT ?h ?_); (case h => first | assumption | rfl)
  | (with_reducible refine' v_bF ?h ?_); (case h => first | assumption | rfl))
local macro_rules | `(tactic| walk_at "dv4") => `(tactic| with_reducible first
  | refine v_places ?_ | refine v_roads ?_ | refine v_over ?_ | refine v_line ?_ | refine v_spots ?_ | refine v_myards ?_ | refine v_mroads ?_ | refine v_mW (by decide +kernel) ?_ | refine v_mK (by decide +kernel) ?_
  | refine v_itX ?_ | refine v_ev ?_ | refine v_rev ?_ | refine v_zs ?_ | refine v_enum ?_ | refine v_enum2 ?_ | refine v_makeV ?_ | refine v_tryN ?_ | refine v_lc2 ?_ | refine v_fz ?_ | refine v_make ?_ | refine v_fldS ?_)
local macro_rules | `(tactic| walk_at "dv5") => `(tactic| first
  | refine ⟨_, _, rfl, rfl, ?_⟩ | refine ⟨⟨_, _, rfl⟩, ?_⟩ | refine ⟨⟨_, _, _, rfl⟩, ?_⟩ | refine ⟨_, _, _, rfl, ?_⟩ | refine Or.inl ⟨_, rfl, ?_⟩ | refine Or.inr ⟨_, (fun _ z => by cases z), rfl, ?_⟩)
local macro_rules | `(tactic| walk_at "dv") => `(tactic| repeat (first | walk_at "dv0" | walk_at "dv4" | walk_at "dv1" | walk_at "dv3" | walk_at "dv2" | walk_at "dv5"))
/-! ### the steps that a web tells -/
theorem Ps.imp {r : RS} {QS QS' : Fl → Dv.Env → Store → Prop} {XS XS' : Ex → Dv.Env → Store → Prop} (h : Ps r QS XS) (hq : ∀ f e S, QS f e S → QS' f e S) (hx : ∀ x e S, XS x e S → XS' x e S) : Ps r QS' XS' := by
  cases r with
  | ok f e S => exact hq _ _ _ h
  | err x e S => exact hx _ _ _ h
  | stuck => exact h.elim
section
variable {m : Mod} {S : Store} {en : Dv.Env}
theorem passages_ok : m_Web_passages [m.w] S = .ok (.lst m.rsD) S := by
  refine Pe.eq (v_fn ?_)
  unfold b_Web_passages
  walk_at "dv"
  exact rfl
theorem webyards_ok : m_Web_yards [m.w] S = .ok (.lst m.ysD) S := by
  refine Pe.eq (v_fn ?_)
  unfold b_Web_yards
  walk_at "dv"
  exact rfl
end
/-! ### the same, told of bools, texts and rows -/
theorem same_bool {S : Store} {k : Nat} {b : Bool} : m_law_same (k + 1) [.bl b, .bl b] S = .ok (.bl true) S := by
  refine Pe.eq (v_fn ?_)
  unfold b_law_same
  walk_at "dv"
  refine v_eqB (b := true) (by simp [okD, res]) (by simp [okD, res]) (by cases b <;> rfl) ?_
  walk_at "dv"
  first | exact ⟨rfl, rfl⟩ | exact rfl
theorem same_str {S : Store} {k : Nat} {s : Str} (h : PyData.strOk s = true) : m_law_same (k + 1) [.str s, .str s] S = .ok (.bl true) S := by
  refine Pe.eq (v_fn ?_)
  unfold b_law_same
  walk_at "dv"
  refine v_eqS h h ?_
  walk_at "dv"
  first | exact ⟨rfl, rfl⟩ | exact rfl | exact ⟨by simp, rfl⟩
/-! ### the same, told of any plain data -/
theorem same_non {S : Store} {k : Nat} : m_law_same (k + 1) [.non, .non] S = .ok (.bl true) S := by
  refine Pe.eq (v_fn ?_)
  unfold b_law_same
  walk_at "dv"
  first | exact ⟨rfl, rfl⟩ | exact rfl
def sok : Nat → Dt → Bool
  | 0, _ => false
  | k + 1, d => match d with
    | .non => true
    | .bl _ => true
    | .int _ => true
    | .str s => PyData.strOk s
    | .tup ds => decide (ds.length ≤ 100000) && ds.all (sok k)
    | .lst ds => decide (ds.length ≤ 100000) && ds.all (sok k)
    | _ => false
theorem same_all {S : Store} : ∀ (k : Nat) (d : Dt), sok k d = true → m_law_same k [d, d] S = .ok (.bl true) S
  | 0, _, h => nomatch h
  | k + 1, d, h => by
    unfold sok at h
    split at h
    · exact same_non
    · exact same_bool
    · exact same_int
    · exact same_str h
    · rename_i ds
      rw [Bool.and_eq_true] at h
      refine Pe.eq (same_seq (.inl rfl) (of_decide_eq_true h.1) fun d hd => same_all k d (List.all_eq_true.mp h.2 d hd))
    · rename_i ds
      rw [Bool.and_eq_true] at h
      refine Pe.eq (same_seq (.inr rfl) (of_decide_eq_true h.1) fun d hd => same_all k d (List.all_eq_true.mp h.2 d hd))
    · cases h
/-- the law's same, of the same -/
theorem v_same {x y : Dt} {S : Store} {Q : Dt → Store → Prop} {X : Ex → Store → Prop} (e : x = y) (h : sok 20 x = true) (q : Q (.bl true) S) : Pe (m_law_same 20 [x, y] S) Q X := by
  subst e
  exact Pe.of (same_all 20 x h) q
/-! ### == of plain data with itself -/
end Lw
set_option Elab.async false
set_option linter.all false
set_option maxRecDepth 100000
set_option maxHeartbeats 4000000
set_option autoImplicit false
namespace Lw
open PySem Dv
/-! steps of our own words -/
local macro_rules | `(tactic| walk_at "num") => `(tactic| first | assumption | decide | omega)
local macro_rules | `(tactic| walk_at "dv0") => `(tactic| with_reducible first
  | refine v_seq ?_ | refine v_ifS ?_ | refine v_set ?_ | refine v_ret ?_ | refine v_asg ?_ | refine v_par ?_ | refine v_drop ?_ | refine v_nx ?_ | refine v_bk ?_ | refine v_ct ?_ | refine v_retN ?_ | refine v_for ?_
  | refine v_c ?_ | refine v_nil ?_ | refine v_cons ?_ | refine v_op ?_ | refine v_B ?_ | refine v_truth ?_ | refine v_andT ?_ | refine v_orT ?_ | refine v_notT ?_
  | refine v_andV ?_ | refine v_orV ?_ | refine v_notV ?_ | refine v_if ?_ | refine v_neg ?_ | refine v_chain ?_ | refine v_tup ?_ | refine v_lst ?_ | refine v_lstR ?_ | refine v_noPart ?_ | refine v_part ?_ | refine v_sl ?_
  | refine v_CB ?_ | refine v_call ?_ | refine v_abs ?_ | refine v_lc ?_ | refine v_yes ?_ | refine v_it ?_ | refine v_rng1 ?_ | refine v_rng2 ?_ | refine v_rng3 ?_ | refine v_T ?_ | refine v_F ?_
  | refine v_add ?_ | refine v_sub ?_ | refine v_iadd ?_ | refine v_lt ?_ | refine v_le ?_ | refine v_gt ?_ | refine v_ge ?_ | refine v_eqI ?_ | refine v_neI ?_ | refine v_eqB ?_ | refine v_neB ?_)
local macro_rules | `(tactic| walk_at "dv1") => `(tactic| first
  | (with_reducible refine' v_var ?h ?_); (case h => rfl)
  | (with_reducible refine' v_aug ?h ?_); (case h => rfl)
  | (with_reducible refine' v_div ?h1 ?h2 ?_); (case h1 => walk_at "num"); (case h2 => walk_at "num")
  | (with_reducible refine' v_mod ?h1 ?_); (case h1 => walk_at "num")
  | (with_reducible refine' v_pow ?h1 ?_); (case h1 => walk_at "num")
  | (with_reducible refine' v_mulR ?h1 ?_); (case h1 => walk_at "num")
  | (with_reducible refine' v_mulL ?h1 ?_); (case h1 => walk_at "num")
  | (with_reducible refine' v_fin ?h1 ?_); (case h1 => first | exact Or.inl rfl | exact Or.inr rfl | (refine Or.inr ?_; simp only [List.length_set, *]; done))
  | (with_reducible refine' v_ix ?h1 ?_); (case h1 => first | exact ixD_ref (by assumption) (by rfl) | rfl)
  | (with_reducible refine' v_len ?h1 ?_); (case h1 => first | exact lenD_ref (by assumption) | rfl)
  | (with_reducible refine' v_list ?h1 ?_); (case h1 => rfl)
  | (with_reducible refine' v_listR ?h1 ?_); (case h1 => rfl)
  | (with_reducible refine' v_tuple ?h1 ?_); (case h1 => rfl)
  | (with_reducible refine' v_isd ?h1 ?_); (case h1 => rfl)
  | (with_reducible refine' v_isiTy ?h1 ?h2 ?_); (case h1 => rfl); (case h2 => rfl)
  | (with_reducible refine' v_isiT ?h1 ?_); (case h1 => rfl))
local macro_rules | `(tactic| walk_at "dv2") => `(tactic| first
  | refine v_gsub (by rfl) (by rfl) (by assumption) (by rfl) (fun _ _ _ => ?_) | refine ⟨_, rfl, ?_⟩ | (with_reducible refine' ⟨rng_ok ?h1 ?h2, ?_⟩); (case h1 => omega); (case h2 => omega) | refine ⟨rfl, ?_⟩ | refine ⟨_, _, rfl, ?_⟩ | refine ⟨Nat.le_of_ble_eq_true rfl, ?_⟩)
local macro_rules | `(tactic| walk_at "dv3") => `(tactic| first
  | (with_reducible refine' v_dec (fun _ => ?_) (fun hn => absurd ?h hn)); (case h => first | assumption | omega | decide)
  | (with_reducible refine' v_dec (fun hn => absurd hn ?h) (fun _ => ?_)); (case h => first | assumption | omega | decide)
  | (with_reducible refine' v_ndec (fun _ => ?_) (fun hn => absurd hn ?h)); (case h => first | assumption | omega | decide)
  | (with_reducible refine' v_ndec (fun hn => absurd ?h hn) (fun _ => ?_)); (case h => first | assumption | omega | decide)
  | (with_reducible refine' v_bT ?h ?_); (case h => first | assumption | rfl)
  | (with_reducible refine' v_bF ?h ?_); (case h => first | assumption | rfl))
local macro_rules | `(tactic| walk_at "dv4") => `(tactic| with_reducible first
  | refine v_places ?_ | refine v_roads ?_ | refine v_over ?_ | refine v_line ?_ | refine v_spots ?_ | refine v_myards ?_ | refine v_mroads ?_ | refine v_mW (by decide +kernel) ?_ | refine v_mK (by decide +kernel) ?_
  | refine v_itX ?_ | refine v_ev ?_ | refine v_rev ?_ | refine v_zs ?_ | refine v_enum ?_ | refine v_enum2 ?_ | refine v_makeV ?_ | refine v_tryN ?_ | refine v_lc2 ?_ | refine v_fz ?_ | refine v_make ?_ | refine v_fldS ?_)
local macro_rules | `(tactic| walk_at "dv5") => `(tactic| first
  | refine ⟨_, _, rfl, rfl, ?_⟩ | refine ⟨⟨_, _, rfl⟩, ?_⟩ | refine ⟨⟨_, _, _, rfl⟩, ?_⟩ | refine ⟨_, _, _, rfl, ?_⟩ | refine Or.inl ⟨_, rfl, ?_⟩ | refine Or.inr ⟨_, (fun _ z => by cases z), rfl, ?_⟩)
local macro_rules | `(tactic| walk_at "dv") => `(tactic| repeat (first | walk_at "dv0" | walk_at "dv4" | walk_at "dv1" | walk_at "dv3" | walk_at "dv2" | walk_at "dv5"))
/-! ### sums by yards and by passages -/
def addAt : List Str → List Int → Str → Int → List Int
  | y' :: ys, v :: vs, y, t => if y' = y then (v + t) :: vs else v :: addAt ys vs y t
  | _, vs, _, _ => vs
def valAt : List Str → List Int → Str → Option Int
  | y' :: ys, v :: vs, y => if y' = y then some v else valAt ys vs y
  | _, _, _ => none
abbrev ksOf (ys : List Str) : List L2.Key := ys.map Sum.inr
abbrev iD (vs : List Int) : List Dt := vs.map Dt.int
theorem addAt_len : ∀ (ys : List Str) (vs : List Int) (y : Str) (t : Int), (addAt ys vs y t).length = vs.length
  | [], vs, _, _ => by cases vs <;> rfl
  | y' :: ys, [], _, _ => rfl
  | y' :: ys, v :: vs, y, t => by
    unfold addAt
    split
    · rfl
    · rw [List.length_cons, List.length_cons, addAt_len ys vs y t]
theorem val_in : ∀ {ys : List Str} {vs : List Int} {y : Str}, y ∈ ys → ys.length = vs.length → ∃ v, valAt ys vs y = some v
  | [], _, _, h, _ => by cases h
  | y' :: ys, [], _, _, h => by cases h
  | y' :: ys, v :: vs, y, h, hl => by
    unfold valAt
    by_cases e : y' = y
    · exact ⟨v, if_pos e⟩
    · rw [if_neg e]
      rcases List.mem_cons.mp h with z | z
      · exact absurd z.symm e
      · exact val_in z (Nat.succ.inj hl)
theorem look_val : ∀ {ys : List Str} {vs : List Int} {y : Str} {v : Int}, valAt ys vs y = some v → lookK (ksOf ys) (iD vs) (Sum.inr y) = some (.int v)
  | [], _, _, _, h => by cases h
  | y' :: ys, [], _, _, h => by cases h
  | y' :: ys, v' :: vs, y, v, h => by
    unfold valAt at h
    show (if (Sum.inr y' : L2.Key) = Sum.inr y then some (Dt.int v') else lookK (ksOf ys) (iD vs) (Sum.inr y)) = _
    by_cases e : y' = y
    · rw [if_pos e] at h
      rw [if_pos (by rw [e]), Option.some.inj h]
    · rw [if_neg e] at h
      rw [if_neg fun z => e (Sum.inr.inj z)]
      exact look_val h
theorem has_no {y : Str} : ∀ {ys : List Str}, y ∉ ys → hasK (Sum.inr y) (ksOf ys) = false
  | [], _ => rfl
  | y' :: ys, h => by
    show (if (Sum.inr y' : L2.Key) = Sum.inr y then true else hasK (Sum.inr y) (ksOf ys)) = false
    rw [if_neg fun z => h (by rw [← Sum.inr.inj z]; exact List.mem_cons_self)]
    exact has_no fun z => h (List.mem_cons_of_mem _ z)
theorem put_add : ∀ {ys : List Str} {vs : List Int} {y : Str} {v t : Int}, ys.Nodup → valAt ys vs y = some v → putD (ksOf ys) (iD vs) (Sum.inr y) (.int (v + t)) = some (iD (addAt ys vs y t))
  | [], _, _, _, _, _, h => by cases h
  | y' :: ys, [], _, _, _, _, h => by cases h
  | y' :: ys, v' :: vs, y, v, t, nd, h => by
    obtain ⟨n1, n2⟩ := List.nodup_cons.mp nd
    unfold valAt at h
    unfold addAt
    show (if (Sum.inr y' : L2.Key) = Sum.inr y then (if hasK (Sum.inr y) (ksOf ys) = true then none else some (Dt.int (v + t) :: iD vs)) else (putD (ksOf ys) (iD vs) (Sum.inr y) (.int (v + t))).map (Dt.int v' :: ·)) = _
    by_cases e : y' = y
    · rw [if_pos e] at h
      rw [if_pos (by rw [e]), if_pos e, ← e, has_no n1, if_neg Bool.false_ne_true, Option.some.inj h]
      rfl
    · rw [if_neg e] at h
      rw [if_neg fun z => e (Sum.inr.inj z), if_neg e, put_add n2 h]
      rfl
theorem idx_add : ∀ {ys : List Str} {vs : List Int} {y : Str} (t : Int), y ∈ ys → ys.length = vs.length →
    ∃ j v, (ys.map Dt.str).findIdx? (fun z => eqD z (.str y)) = some j ∧ vs[j]? = some v ∧ addAt ys vs y t = vs.set j (v + t)
  | [], _, _, _, h, _ => by cases h
  | y' :: ys, [], _, _, _, h => by cases h
  | y' :: ys, v :: vs, y, t, h, hl => by
    have e0 : eqD (.str y') (.str y) = decide (y' = y) := str_eq y' y
    rw [List.map_cons, List.findIdx?_cons, e0]
    unfold addAt
    by_cases e : y' = y
    · rw [decide_eq_true e, if_pos e]
      exact ⟨0, v, rfl, rfl, rfl⟩
    · rw [decide_eq_false e, if_neg e]
      rcases List.mem_cons.mp h with z | z
      · exact absurd z.symm e
      · obtain ⟨j, w, h1, h2, h3⟩ := idx_add t z (Nat.succ.inj hl)
        refine ⟨j + 1, w, ?_, h2, ?_⟩
        · rw [h1]
          rfl
        · rw [h3]
          rfl
/-- all that is added, one behind another -/
def tsum (ys : List Str) : List (Str × Int) → List Int → List Int
  | [], vs => vs
  | p :: l, vs => tsum ys l (addAt ys vs p.1 p.2)
theorem tsum_len (ys : List Str) : ∀ (l : List (Str × Int)) (vs : List Int), (tsum ys l vs).length = vs.length
  | [], vs => rfl
  | p :: l, vs => by
    unfold tsum
    rw [tsum_len ys l, addAt_len]
theorem addAt_map {y : Str} {t : Int} : ∀ {ys : List Str} (f : Str → Int), ys.Nodup → addAt ys (ys.map f) y t = ys.map fun n => if n = y then f n + t else f n
  | [], f, _ => rfl
  | y' :: ys, f, nd => by
    obtain ⟨n1, n2⟩ := List.nodup_cons.mp nd
    rw [List.map_cons, List.map_cons]
    unfold addAt
    by_cases e : y' = y
    · rw [if_pos e, if_pos e]
      congr 1
      refine List.map_congr_left fun n hn => ?_
      rw [if_neg fun z => n1 (by rw [e, ← z]; exact hn)]
    · rw [if_neg e, if_neg e, addAt_map f n2]
/-- what comes to one name -/
def net (n : Str) : List (Str × Int) → Int
  | [] => 0
  | p :: l => (if n = p.1 then p.2 else 0) + net n l
theorem tsum_map {ys : List Str} (nd : ys.Nodup) : ∀ (l : List (Str × Int)) (f : Str → Int), tsum ys l (ys.map f) = ys.map fun n => f n + net n l
  | [], f => by
    unfold tsum
    refine List.map_congr_left fun n _ => ?_
    show f n = f n + 0
    rw [Int.add_zero]
  | p :: l, f => by
    unfold tsum
    rw [addAt_map f nd, tsum_map nd l]
    refine List.map_congr_left fun n _ => ?_
    show (if n = p.1 then f n + p.2 else f n) + net n l = f n + ((if n = p.1 then p.2 else 0) + net n l)
    split <;> omega
theorem net_app (n : Str) : ∀ a b : List (Str × Int), net n (a ++ b) = net n a + net n b
  | [], b => by
    show net n b = 0 + net n b
    rw [Int.zero_add]
  | p :: a, b => by
    show (if n = p.1 then p.2 else 0) + net n (a ++ b) = (if n = p.1 then p.2 else 0) + net n a + net n b
    rw [net_app n a b, Int.add_assoc]
theorem net_back (n : Str) : ∀ ss : List Step, net n (ss.map und).reverse = 0 - net n ss
  | [] => rfl
  | s :: ss => by
    rw [List.map_cons, List.reverse_cons, net_app, net_back n ss]
    show 0 - net n ss + ((if n = s.1 then 0 - s.2 else 0) + 0) = 0 - ((if n = s.1 then s.2 else 0) + net n ss)
    split <;> omega
theorem net_count (n : Str) : ∀ {ss : List Step}, (∀ s ∈ ss, s.2 = 1 ∨ s.2 = -1) → net n ss = ((ss.countP fun s => decide (s = (n, 1)) : Nat) : Int) - ((ss.countP fun s => decide (s = (n, -1)) : Nat) : Int)
  | [], _ => rfl
  | s :: ss, h => by
    have ih := net_count n fun x hx => h x (List.mem_cons_of_mem _ hx)
    obtain ⟨a, w⟩ := s
    have hw : w = 1 ∨ w = -1 := h (a, w) List.mem_cons_self
    show (if n = a then w else 0) + net n ss = _
    rw [List.countP_cons, List.countP_cons, ih]
    by_cases e : n = a
    · subst e
      rcases hw with rfl | rfl <;> simp <;> omega
    · have e1 : ¬ (a, w) = (n, 1) := fun z => e (congrArg Prod.fst z).symm
      have e2 : ¬ (a, w) = (n, -1) := fun z => e (congrArg Prod.fst z).symm
      rw [if_neg e, decide_eq_false e1, decide_eq_false e2]
      simp
theorem back_steps : ∀ (l : Seg) (t : Int), ((bk t l).2.map (·.1)) = ((l.map (·.1)).map und).reverse
  | [], t => rfl
  | (s, u) :: l, t => by
    show (((bk u l).2 ++ [(und s, 0 - t)]).map (·.1)) = _
    rw [List.map_append, back_steps l u]
    show _ ++ [und s] = ((s :: l.map (·.1)).map und).reverse
    rw [List.map_cons, List.reverse_cons]
abbrev zeros (n : Nat) : List Int := List.replicate n 0
theorem zeros_map (ys : List Str) : zeros ys.length = ys.map fun _ => (0 : Int) := by
  induction ys with
  | nil => rfl
  | cons y ys ih =>
    rw [List.length_cons, List.map_cons, ← ih]
    rfl
def visits (m : Mod) (y : Str) (t : Int) (l : Seg) : List (Str × Int) := (y, t) :: l.map fun p => (goes m p.1, p.2)
abbrev namesOf (m : Mod) : List Str := m.rs.map Road.n
def turnsV (m : Mod) (y : Str) (t : Int) (l : Seg) : List Int := tsum m.ys (visits m y t l) (zeros m.ys.length)
def goneV (m : Mod) (l : Seg) : List Int := tsum (namesOf m) (l.map (·.1)) (zeros m.rs.length)
theorem goneV_eq {m : Mod} (ok : m.Ok) (l : Seg) : goneV m l = (namesOf m).map fun n => net n (l.map (·.1)) := by
  unfold goneV
  have nd := (List.nodup_append.mp ok.nd).2.1
  have e : zeros m.rs.length = (namesOf m).map fun _ => (0 : Int) := by
    rw [← zeros_map, List.length_map]
  rw [e, tsum_map nd]
  refine List.map_congr_left fun n _ => ?_
  rw [Int.zero_add]
theorem goneV_back {m : Mod} (ok : m.Ok) (t : Int) (l : Seg) : goneV m (bk t l).2 = (goneV m l).map fun x => 0 - x := by
  rw [goneV_eq ok, goneV_eq ok]
  refine Eq.trans (List.map_congr_left fun n _ => ?_) (List.map_map).symm
  show net n ((bk t l).2.map (·.1)) = 0 - net n (l.map (·.1))
  rw [back_steps, net_back]
end Lw
set_option Elab.async false
set_option linter.all false
set_option maxRecDepth 100000
set_option maxHeartbeats 4000000
set_option autoImplicit false
namespace Lw
open PySem Dv
/-! steps of our own words -/
local macro_rules | `(tactic| walk_at "num") => `(tactic| first | assumption | decide | omega)
local macro_rules | `(tactic| walk_at "dv0") => `(tactic| with_reducible first
  | refine v_seq ?_ | refine v_ifS ?_ | refine v_set ?_ | refine v_ret ?_ | refine v_asg ?_ | refine v_par ?_ | refine v_drop ?_ | refine v_nx ?_ | refine v_bk ?_ | refine v_ct ?_ | refine v_retN ?_ | refine v_for ?_
  | refine v_c ?_ | refine v_nil ?_ | refine v_cons ?_ | refine v_op ?_ | refine v_B ?_ | refine v_truth ?_ | refine v_andT ?_ | refine v_orT ?_ | refine v_notT ?_
  | refine v_andV ?_ | refine v_orV ?_ | refine v_notV ?_ | refine v_if ?_ | refine v_neg ?_ | refine v_chain ?_ | refine v_tup ?_ | refine v_lst ?_ | refine v_lstR ?_ | refine v_noPart ?_ | refine v_part ?_ | refine v_sl ?_
  | refine v_CB ?_ | refine v_call ?_ | refine v_abs ?_ | refine v_lc ?_ | refine v_yes ?_ | refine v_it ?_ | refine v_rng1 ?_ | refine v_rng2 ?_ | refine v_rng3 ?_ | refine v_T ?_ | refine v_F ?_
  | refine v_add ?_ | refine v_sub ?_ | refine v_iadd ?_ | refine v_lt ?_ | refine v_le ?_ | refine v_gt ?_ | refine v_ge ?_ | refine v_eqI ?_ | refine v_neI ?_ | refine v_eqB ?_ | refine v_neB ?_)
local macro_rules | `(tactic| walk_at "dv1") => `(tactic| first
  | (with_reducible refine' v_var ?h ?_); (case h => rfl)
  | (with_reducible refine' v_aug ?h ?_); (case h => rfl)
  | (with_reducible refine' v_div ?h1 ?h2 ?_); (case h1 => walk_at "num"); (case h2 => walk_at "num")
  | (with_reducible refine' v_mod ?h1 ?_); (case h1 => walk_at "num")
  | (with_reducible refine' v_pow ?h1 ?_); (case h1 => walk_at "num")
  | (with_reducible refine' v_mulR ?h1 ?_); (case h1 => walk_at "num")
  | (with_reducible refine' v_mulL ?h1 ?_); (case h1 => walk_at "num")
  | (with_reducible refine' v_fin ?h1 ?_); (case h1 => first | exact Or.inl rfl | exact Or.inr rfl | (refine Or.inr ?_; simp only [List.length_set, *]; done))
  | (with_reducible refine' v_ix ?h1 ?_); (case h1 => first | exact ixD_ref (by assumption) (by rfl) | rfl)
  | (with_reducible refine' v_len ?h1 ?_); (case h1 => first | exact lenD_ref (by assumption) | rfl)
  | (with_reducible refine' v_list ?h1 ?_); (case h1 => rfl)
  | (with_reducible refine' v_listR ?h1 ?_); (case h1 => rfl)
  | (with_reducible refine' v_tuple ?h1 ?_); (case h1 => rfl)
  | (with_reducible refine' v_isd ?h1 ?_); (case h1 => rfl)
  | (with_reducible refine' v_isiTy ?h1 ?h2 ?_); (case h1 => rfl); (case h2 => rfl)
  | (with_reducible refine' v_isiT ?h1 ?_); (case h1 => rfl))
local macro_rules | `(tactic| walk_at "dv2") => `(tactic| first
  | refine v_gsub (by rfl) (by rfl) (by assumption) (by rfl) (fun _ _ _ => ?_) | refine ⟨_, rfl, ?_⟩ | (with_reducible refine' ⟨rng_ok ?h1 ?h2, ?_⟩); (case h1 => omega); (case h2 => omega) | refine ⟨rfl, ?_⟩ | refine ⟨_, _, rfl, ?_⟩ | refine ⟨Nat.le_of_ble_eq_true rfl, ?_⟩)
local macro_rules | `(tactic| walk_at "dv3") => `(tactic| first
  | (with_reducible refine' v_dec (fun _ => ?_) (fun hn => absurd ?h hn)); (case h => first | assumption | omega | decide)
  | (with_reducible refine' v_dec (fun hn => absurd hn ?h) (fun _ => ?_)); (case h => first | assumption | omega | decide)
  | (with_reducible refine' v_ndec (fun _ => ?_) (fun hn => absurd hn ?h)); (case h => first | assumption | omega | decide)
  | (with_reducible refine' v_ndec (fun hn => absurd ?h hn) (fun _ => ?_)); (case h => first | assumption | omega | decide)
  | (with_reducible refine' v_bT ?h ?_); (case h => first | assumption | rfl)
  | (with_reducible refine' v_bF ?h ?_); (case h => first | assumption | rfl))
local macro_rules | `(tactic| walk_at "dv4") => `(tactic| with_reducible first
  | refine v_places ?_ | refine v_roads ?_ | refine v_over ?_ | refine v_line ?_ | refine v_spots ?_ | refine v_myards ?_ | refine v_mroads ?_ | refine v_mW (by decide +kernel) ?_ | refine v_mK (by decide +kernel) ?_
  | refine v_itX ?_ | refine v_ev ?_ | refine v_rev ?_ | refine v_zs ?_ | refine v_enum ?_ | refine v_enum2 ?_ | refine v_makeV ?_ | refine v_tryN ?_ | refine v_lc2 ?_ | refine v_fz ?_ | refine v_make ?_ | refine v_fldS ?_)
local macro_rules | `(tactic| walk_at "dv5") => `(tactic| first
  | refine ⟨_, _, rfl, rfl, ?_⟩ | refine ⟨⟨_, _, rfl⟩, ?_⟩ | refine ⟨⟨_, _, _, rfl⟩, ?_⟩ | refine ⟨_, _, _, rfl, ?_⟩ | refine Or.inl ⟨_, rfl, ?_⟩ | refine Or.inr ⟨_, (fun _ z => by cases z), rfl, ?_⟩)
local macro_rules | `(tactic| walk_at "dv") => `(tactic| repeat (first | walk_at "dv0" | walk_at "dv4" | walk_at "dv1" | walk_at "dv3" | walk_at "dv2" | walk_at "dv5"))
/-! ### sums, walked -/
section
variable {S : Store} {QS : Fl → Dv.Env → Store → Prop} {XS : Ex → Dv.Env → Store → Prop}
theorem v_augD {i : Nat} {ys : List Str} {vs : List Int} {y : Str} {t : Int} {mo mi me : Dv.Env → Store → R Dt} {en : Dv.Env} (ho : mo en S = .ok (.ref i) S) (hi : mi en S = .ok (.str y) S) (he : me en S = .ok (.int t) S) (hS : S[i]? = some (.dct (ksOf ys) (iD vs))) (nd : ys.Nodup) (hy : y ∈ ys) (hl : ys.length = vs.length) (h1 : ys.length < 1000)
    (q : QS .nx en (S.set i (.dct (ksOf ys) (iD (addAt ys vs y t))))) : Ps (mAugD mo mi me en S) QS XS := by
  obtain ⟨v, hv⟩ := val_in hy hl
  have d : dctAt S (.ref i) = some (ksOf ys, iD vs) := by
    unfold dctAt
    simp only [hS]
  have st : setKx S (.ref i) (Sum.inr y) (.int (v + t)) = some (S.set i (.dct (ksOf ys) (iD (addAt ys vs y t)))) := by
    unfold setKx
    dsimp only
    rw [hS]
    dsimp only
    rw [if_pos (by rw [List.length_map]; exact h1), put_add nd hv]
    rfl
  have e : mAugD mo mi me en S = .ok .nx en (S.set i (.dct (ksOf ys) (iD (addAt ys vs y t)))) := by
    unfold mAugD
    rw [ho]
    show R.toS (mi en S) en _ = _
    rw [hi]
    show (match dctAt S (.ref i), Dt.str y with
      | some (ks, ds), .str k => _
      | _, _ => RS.stuck) = _
    rw [d]
    dsimp only
    rw [look_val hv]
    dsimp only
    rw [he]
    show (match setKx S (.ref i) (Sum.inr y) (.int (v + t)) with
      | some S4 => RS.ok .nx en S4
      | none => .stuck) = _
    rw [st]
  rw [e]
  exact q
theorem v_lvals {i : Nat} {ks : List L2.Key} {ds : List Dt} {md : Dv.Env → Store → R Dt} {en : Dv.Env} {Q : Dt → Store → Prop} {X : Ex → Store → Prop} (ho : md en S = .ok (.ref i) S) (hS : S[i]? = some (.dct ks ds)) (q : Q (.ref S.length) (S ++ [.lst ds])) : Pe (mLVals md en S) Q X := by
  have d : dctAt S (.ref i) = some (ks, ds) := by
    unfold dctAt
    simp only [hS]
  have e : mLVals md en S = .ok (.ref S.length) (S ++ [.lst ds]) := by
    unfold mLVals
    rw [ho]
    show (match dctAt S (.ref i) with
      | some (_, ds) => (R.ok (Dt.ref S.length) (S ++ [Ob.lst ds]) : R Dt)
      | none => .stuck) = _
    rw [d]
  exact Pe.of e q
theorem dc_zero {α : Type} (f : α → Str) (g : α → Dt) {mg : Dt → Dv.Env → Option Dv.Env} {mk : Dv.Env → Store → R Dt} {en : Dv.Env} (h : ∀ a, ∃ e1, mg (g a) en = some e1 ∧ mk e1 S = .ok (.str (f a)) S) : ∀ (xs : List α) (pre : List Str), (pre ++ xs.map f).Nodup → (pre ++ xs.map f).length ≤ 900 →
    dcLoop mg mYes mk (mC (.int 0)) en (xs.map g) (ksOf pre) (iD (zeros pre.length)) S = .ok (ksOf (pre ++ xs.map f), iD (zeros (pre ++ xs.map f).length)) S
  | [], pre, _, _ => by
    simp only [List.map_nil, List.append_nil]
    rfl
  | a :: xs, pre, nd, hl => by
    obtain ⟨e1, h1, h2⟩ := h a
    have ea : pre ++ (a :: xs).map f = (pre ++ [f a]) ++ xs.map f := by rw [List.map_cons, List.append_assoc]; rfl
    rw [ea] at nd hl
    have ih := dc_zero f g h xs (pre ++ [f a]) nd hl
    have n1 : f a ∉ pre := by
      intro z
      have := (List.nodup_append.mp (List.nodup_append.mp nd).1).2.2 (f a) z (f a) (by simp)
      exact this rfl
    have lp : pre.length < 1000 := by
      rw [List.length_append, List.length_append, List.length_singleton] at hl
      omega
    rw [List.map_cons, ea, ← ih]
    have step : dcLoop mg mYes mk (mC (.int 0)) en (g a :: xs.map g) (ksOf pre) (iD (zeros pre.length)) S = dcLoop mg mYes mk (mC (.int 0)) en (xs.map g) (ksOf pre ++ [Sum.inr (f a)]) (iD (zeros pre.length) ++ [.int 0]) S := by
      conv => lhs; unfold dcLoop
      rw [h1]
      show ((mk e1 S).nx.bind fun k S2 => _) = _
      rw [h2]
      show (if hasK (Sum.inr (f a)) (ksOf pre) = false ∧ (ksOf pre).length < 1000 then _ else R.stuck) = _
      rw [if_pos ⟨has_no n1, by rw [List.length_map]; exact lp⟩]
    rw [step]
    have k1 : ksOf pre ++ [Sum.inr (f a)] = ksOf (pre ++ [f a]) := by rw [ksOf, ksOf, List.map_append]; rfl
    have k2 : iD (zeros pre.length) ++ [Dt.int 0] = iD (zeros (pre ++ [f a]).length) := by
      rw [List.length_append, List.length_singleton]
      show _ = iD (List.replicate (pre.length + 1) 0)
      rw [List.replicate_succ', iD, iD, List.map_append]
      rfl
    rw [k1, k2]
def vD (p : Str × Int) : Dt := .tup [.int p.2, .str p.1]
theorem evens_row0 (t : Int) : ∀ l : Seg, evens (rowD t l) = .int t :: l.map fun p => Dt.int p.2
  | [] => rfl
  | p :: l => by
    show Dt.int t :: evens (rowD p.2 l) = _
    rw [evens_row0 p.2 l]
    rfl
theorem pairs_visits (m : Mod) (y : Str) (t : Int) (l : Seg) : pairsD (.int t :: l.map fun p => Dt.int p.2) ((spots m y l).map Dt.str) = (visits m y t l).map vD := by
  show Dt.tup [.int t, .str y] :: List.zipWith (fun x y => Dt.tup [x, y]) (l.map fun p => Dt.int p.2) ((l.map fun p => goes m p.1).map Dt.str) = Dt.tup [.int t, .str y] :: (l.map fun p => (goes m p.1, p.2)).map vD
  congr 1
  induction l with
  | nil => rfl
  | cons p l ih =>
    rw [List.map_cons, List.map_cons, List.map_cons, List.map_cons, List.zipWith_cons_cons, List.map_cons, ih]
    rfl
abbrev en9 (a b c d e f g h i : Option Dt) : Dv.Env := [a, b, c, d, e, f, g, h, i]
variable {m : Mod}
/-- what is made while summing -/
def sumS (S : Store) (ys ns : List Str) (A B : List Int) : Store := S ++ [.dct (ksOf ys) (iD A), .dct (ksOf ns) (iD B), .lst (iD A), .lst (iD B)]
theorem iD_pure (vs : List Int) (k : Nat) : (iD vs).all (noRef k) = true := by
  rw [List.all_map, List.all_eq_true]
  intro x _
  cases k <;> rfl
theorem goes_in' (ok : m.Ok) {y z : Str} {l : Seg} (h : Path m y l z) : ∀ q ∈ l, goes m q.1 ∈ m.ys := by
  induction h with
  | nil => exact fun q hq => (List.not_mem_nil hq).elim
  | @cons y s u l z r h1 h2 h3 k ih =>
    intro q hq
    rcases List.mem_cons.mp hq with rfl | hq
    · have e : goes m s = (r.ends s.2).2 := by unfold goes; rw [h1]
      rw [e]
      exact (ends_in ok h1 s.2).2
    · exact ih q hq
theorem visits_in (ok : m.Ok) {y z : Str} {t : Int} {l : Seg} (h : Path m y l z) (hy : y ∈ m.ys) : ∀ p ∈ visits m y t l, p.1 ∈ m.ys := by
  intro p hp
  rcases List.mem_cons.mp hp with rfl | hp
  · exact hy
  · obtain ⟨q, hq, rfl⟩ := List.mem_map.mp hp
    exact goes_in' ok h q hq
theorem names_in {y z : Str} {l : Seg} (h : Path m y l z) : ∀ q ∈ l, q.1.1 ∈ namesOf m := by
  induction h with
  | nil => exact fun q hq => (List.not_mem_nil hq).elim
  | @cons y s u l z r h1 h2 h3 k ih =>
    intro q hq
    rcases List.mem_cons.mp hq with rfl | hq
    · obtain ⟨a, b⟩ := road_in h1
      exact List.mem_map.mpr ⟨r, a, b⟩
    · exact ih q hq
theorem sums_body (ok : m.Ok) (hp : PureS S) {y z : Str} {t : Int} {l : Seg} (h : Path m y l z) (hy : y ∈ m.ys)
    (q : ∀ en, QS (.rt (.tup [.ref (S.length + 2), .ref (S.length + 3)])) en (sumS S m.ys (namesOf m) (turnsV m y t l) (goneV m l))) : Ps (b_sums (en9 (some (walkD m y t l)) none none none none none none none none) S) QS XS := by
  have ndy := (List.nodup_append.mp ok.nd).1
  have ndn := (List.nodup_append.mp ok.nd).2.1
  have ly := ok.ly
  have lr := ok.lr
  have ln : (namesOf m).length = m.rs.length := List.length_map ..
  unfold b_sums
  refine v_seq (v_set (v_mK (by decide +kernel) (v_var rfl ⟨⟨_, _, _, rfl⟩, v_nil ⟨rfl, ?_⟩⟩)))
  refine Pe.of walk_web_ok ?_
  refine v_seq (v_set (v_dcR (v_it (ds := []) (d := .non) ?_)))
  refine v_mW (by decide +kernel) (v_var rfl ⟨⟨_, _, rfl⟩, v_nil ⟨rfl, ?_⟩⟩)
  refine Pe.of webyards_ok ⟨_, rfl, ?_⟩
  have d1 := dc_zero (S := S) (mg := wNm 3) (mk := mVar 3) (en := wipeE (en9 (some (walkD m y t l)) (some m.w) none none none none none none none) [3]) (fun a : Str => a) Dt.str (fun a => ⟨_, rfl, rfl⟩) m.ys [] (by rw [List.map_id', List.nil_append]; exact ndy) (by rw [List.map_id', List.nil_append]; omega)
  rw [List.map_id', List.nil_append] at d1
  refine Pe.of d1 ?_
  have hs0 : (S ++ [Ob.dct (ksOf m.ys) (iD (zeros m.ys.length))])[S.length]? = some (.dct (ksOf m.ys) (iD (zeros m.ys.length))) := last_at
  refine v_seq (v_for (v_zs (v_cons (v_ev ?_))))
  refine v_mK (by decide +kernel) (v_var rfl ⟨⟨_, _, _, rfl⟩, v_nil ⟨rfl, ?_⟩⟩)
  refine Pe.of walk_row_ok (.inr ⟨_, fun t z => (by cases z), rfl, ?_⟩)
  refine v_cons (v_mK (by decide +kernel) (v_var rfl ⟨⟨_, _, _, rfl⟩, v_nil ⟨rfl, ?_⟩⟩))
  refine Pe.of walk_yards_ok ?_
  refine v_nil ⟨_, _, _, _, rfl, rfl, rfl, ?_, ?_⟩
  · rw [List.drop_zero, evens_row0, List.length_cons, List.length_map, List.length_map, spots_len]
  rw [List.drop_zero, evens_row0, pairs_visits]
  refine v_loop (fun ds en T => ∃ (rest : List (Str × Int)) (vs : List Int) (x3 x4 : Option Dt), ds = rest.map vD ∧ en = en9 (some (walkD m y t l)) (some m.w) (some (.ref S.length)) x3 x4 none none none none ∧ T = S ++ [.dct (ksOf m.ys) (iD vs)] ∧ vs.length = m.ys.length ∧ (∀ p ∈ rest, p.1 ∈ m.ys) ∧ tsum m.ys rest vs = turnsV m y t l)
    ⟨visits m y t l, zeros m.ys.length, _, _, rfl, rfl, rfl, List.length_replicate, visits_in ok h hy, rfl⟩ ?_ ?_
  · rintro d ds en T ⟨rest, vs, x3, x4, hds, rfl, rfl, lv, hin, hv⟩
    cases rest with
    | nil => cases hds
    | cons p rest =>
      rw [List.map_cons] at hds
      obtain ⟨rfl, rfl⟩ := List.cons.inj hds
      refine ⟨_, _, rfl, ?_⟩
      refine v_augD (i := S.length) (ys := m.ys) (vs := vs) (y := p.1) (t := p.2) rfl rfl rfl last_at ndy (hin p List.mem_cons_self) lv.symm (by omega) ?_
      refine ⟨rest, addAt m.ys vs p.1 p.2, _, _, rfl, rfl, by rw [set_last], by rw [addAt_len]; exact lv, fun x hx => hin x (List.mem_cons_of_mem _ hx), hv⟩
  rintro en T ⟨rest, vs, x3, x4, hds, rfl, rfl, lv, hin, hv⟩
  have hr : rest = [] := List.map_eq_nil_iff.mp hds.symm
  subst hr
  have hv : vs = turnsV m y t l := hv
  subst hv
  generalize hA : turnsV m y t l = A at *
  refine v_seq (v_set (v_dcR (v_it (ds := []) (d := .non) ?_)))
  refine v_mW (by decide +kernel) (v_var rfl ⟨⟨_, _, rfl⟩, v_nil ⟨rfl, ?_⟩⟩)
  refine Pe.of passages_ok ⟨_, rfl, ?_⟩
  have d2 := dc_zero (S := S ++ [.dct (ksOf m.ys) (iD A)]) (mg := wNm 6) (mk := mOp mIx (mVar 6) (mC (.int 0))) (en := wipeE (en9 (some (walkD m y t l)) (some m.w) (some (.ref S.length)) x3 x4 none none none none) [6]) Road.n Road.d (fun r => ⟨_, rfl, rfl⟩) m.rs [] (by rw [List.nil_append]; exact ndn) (by rw [List.nil_append, ln]; omega)
  rw [List.nil_append, ln] at d2
  refine Pe.of d2 ?_
  refine v_seq (v_for (v_it (ds := []) (d := .non) ?_))
  refine v_mK (by decide +kernel) (v_var rfl ⟨⟨_, _, _, rfl⟩, v_nil ⟨rfl, ?_⟩⟩)
  refine Pe.of walk_steps_ok ⟨_, rfl, ?_⟩
  have l1 : (S ++ [Ob.dct (ksOf m.ys) (iD A)]).length = S.length + 1 := by simp
  refine v_loop (fun ds en T => ∃ (rest : List Step) (vs : List Int) (x6 x7 x8 : Option Dt), ds = rest.map stD ∧ en = en9 (some (walkD m y t l)) (some m.w) (some (.ref S.length)) x3 x4 (some (.ref (S.length + 1))) x6 x7 x8 ∧ T = S ++ [.dct (ksOf m.ys) (iD A)] ++ [.dct (ksOf (namesOf m)) (iD vs)] ∧ vs.length = m.rs.length ∧ (∀ s ∈ rest, s.1 ∈ namesOf m) ∧ tsum (namesOf m) rest vs = goneV m l)
    ⟨l.map (·.1), zeros m.rs.length, _, _, _, by rw [List.map_map]; rfl, by rw [l1]; rfl, rfl, List.length_replicate, fun s hs => by
      obtain ⟨q, hq, rfl⟩ := List.mem_map.mp hs
      exact names_in h q hq, rfl⟩ ?_ ?_
  · rintro d ds en T ⟨rest, vs, x6, x7, x8, hds, rfl, rfl, lv, hin, hv⟩
    cases rest with
    | nil => cases hds
    | cons s rest =>
      rw [List.map_cons] at hds
      obtain ⟨rfl, rfl⟩ := List.cons.inj hds
      refine ⟨_, _, rfl, ?_⟩
      have hl1 : (S ++ [Ob.dct (ksOf m.ys) (iD A)] ++ [Ob.dct (ksOf (namesOf m)) (iD vs)])[S.length + 1]? = some (.dct (ksOf (namesOf m)) (iD vs)) := by
        rw [← l1]
        exact last_at
      refine v_augD (i := S.length + 1) (ys := namesOf m) (vs := vs) (y := s.1) (t := s.2) rfl rfl rfl hl1 ndn (hin s List.mem_cons_self) (by rw [ln, lv]) (by omega) ?_
      refine ⟨rest, addAt (namesOf m) vs s.1 s.2, _, _, _, rfl, rfl, by rw [← l1, set_last], by rw [addAt_len]; exact lv, fun x hx => hin x (List.mem_cons_of_mem _ hx), hv⟩
  rintro en T ⟨rest, vs, x6, x7, x8, hds, rfl, rfl, lv, hin, hv⟩
  have hr : rest = [] := List.map_eq_nil_iff.mp hds.symm
  subst hr
  have hv : vs = goneV m l := hv
  subst hv
  generalize goneV m l = B at *
  have a1 : (S ++ [Ob.dct (ksOf m.ys) (iD A)] ++ [Ob.dct (ksOf (namesOf m)) (iD B)])[S.length]? = some (.dct (ksOf m.ys) (iD A)) := by simp
  have a2 : (S ++ [Ob.dct (ksOf m.ys) (iD A)] ++ [Ob.dct (ksOf (namesOf m)) (iD B)] ++ [Ob.lst (iD A)])[S.length + 1]? = some (.dct (ksOf (namesOf m)) (iD B)) := by simp
  refine v_ret (v_tup (v_cons (v_lvals (i := S.length) rfl a1 ?_)))
  refine v_cons (v_lvals (i := S.length + 1) rfl a2 ?_)
  refine v_nil ⟨Nat.le_of_ble_eq_true rfl, ?_⟩
  have e1 : (S ++ [Ob.dct (ksOf m.ys) (iD A)] ++ [Ob.dct (ksOf (namesOf m)) (iD B)]).length = S.length + 2 := by simp
  have e2 : (S ++ [Ob.dct (ksOf m.ys) (iD A)] ++ [Ob.dct (ksOf (namesOf m)) (iD B)] ++ [Ob.lst (iD A)]).length = S.length + 3 := by simp
  rw [e1, e2]
  have e3 : S ++ [Ob.dct (ksOf m.ys) (iD A)] ++ [Ob.dct (ksOf (namesOf m)) (iD B)] ++ [Ob.lst (iD A)] ++ [Ob.lst (iD B)] = sumS S m.ys (namesOf m) A B := by simp [sumS]
  rw [e3]
  exact q _
end
end Lw
set_option Elab.async false
set_option linter.all false
set_option maxRecDepth 100000
set_option maxHeartbeats 4000000
set_option autoImplicit false
namespace Lw
open PySem Dv
/-! steps of our own words -/
local macro_rules | `(tactic| walk_at "num") => `(tactic| first | assumption | decide | omega)
local macro_rules | `(tactic| walk_at "dv0") => `(tactic| with_reducible first
  | refine v_seq ?_ | refine v_ifS ?_ | refine v_set ?_ | refine v_ret ?_ | refine v_asg ?_ | refine v_par ?_ | refine v_drop ?_ | refine v_nx ?_ | refine v_bk ?_ | refine v_ct ?_ | refine v_retN ?_ | refine v_for ?_
  | refine v_c ?_ | refine v_nil ?_ | refine v_cons ?_ | refine v_op ?_ | refine v_B ?_ | refine v_truth ?_ | refine v_andT ?_ | refine v_orT ?_ | refine v_notT ?_
  | refine v_andV ?_ | refine v_orV ?_ | refine v_notV ?_ | refine v_if ?_ | refine v_neg ?_ | refine v_chain ?_ | refine v_tup ?_ | refine v_lst ?_ | refine v_lstR ?_ | refine v_noPart ?_ | refine v_part ?_ | refine v_sl ?_
  | refine v_CB ?_ | refine v_call ?_ | refine v_abs ?_ | refine v_lc ?_ | refine v_yes ?_ | refine v_it ?_ | refine v_rng1 ?_ | refine v_rng2 ?_ | refine v_rng3 ?_ | refine v_T ?_ | refine v_F ?_
  | refine v_add ?_ | refine v_sub ?_ | refine v_iadd ?_ | refine v_lt ?_ | refine v_le ?_ | refine v_gt ?_ | refine v_ge ?_ | refine v_eqI ?_ | refine v_neI ?_ | refine v_eqB ?_ | refine v_neB ?_)
local macro_rules | `(tactic| walk_at "dv1") => `(tactic| first
  | (with_reducible refine' v_var ?h ?_); (case h => rfl)
  | (with_reducible refine' v_aug ?h ?_); (case h => rfl)
  | (with_reducible refine' v_div ?h1 ?h2 ?_); (case h1 => walk_at "num"); (case h2 => walk_at "num")
  | (with_reducible refine' v_mod ?h1 ?_); (case h1 => walk_at "num")
  | (with_reducible refine' v_pow ?h1 ?_); (case h1 => walk_at "num")
  | (with_reducible refine' v_mulR ?h1 ?_); (case h1 => walk_at "num")
  | (with_reducible refine' v_mulL ?h1 ?_); (case h1 => walk_at "num")
  | (with_reducible refine' v_fin ?h1 ?_); (case h1 => first | exact Or.inl rfl | exact Or.inr rfl | (refine Or.inr ?_; simp only [List.length_set, *]; done))
  | (with_reducible refine' v_ix ?h1 ?_); (case h1 => first | exact ixD_ref (by assumption) (by rfl) | rfl)
  | (with_reducible refine' v_len ?h1 ?_); (case h1 => first | exact lenD_ref (by assumption) | rfl)
  | (with_reducible refine' v_list ?h1 ?_); (case h1 => rfl)
  | (with_reducible refine' v_listR ?h1 ?_); (case h1 => rfl)
  | (with_reducible refine' v_tuple ?h1 ?_); (case h1 => rfl)
  | (with_reducible refine' v_isd ?h1 ?_); (case h1 => rfl)
  | (with_reducible refine' v_isiTy ?h1 ?h2 ?_); (case h1 => rfl); (case h2 => rfl)
  | (with_reducible refine' v_isiT ?h1 ?_); (case h1 => rfl))
local macro_rules | `(tactic| walk_at "dv2") => `(tactic| first
  | refine v_gsub (by rfl) (by rfl) (by assumption) (by rfl) (fun _ _ _ => ?_) | refine ⟨_, rfl, ?_⟩ | (with_reducible refine' ⟨rng_ok ?h1 ?h2, ?_⟩); (case h1 => omega); (case h2 => omega) | refine ⟨rfl, ?_⟩ | refine ⟨_, _, rfl, ?_⟩ | refine ⟨Nat.le_of_ble_eq_true rfl, ?_⟩)
local macro_rules | `(tactic| walk_at "dv3") => `(tactic| first
  | (with_reducible refine' v_dec (fun _ => ?_) (fun hn => absurd ?h hn)); (case h => first | assumption | omega | decide)
  | (with_reducible refine' v_dec (fun hn => absurd hn ?h) (fun _ => ?_)); (case h => first | assumption | omega | decide)
  | (with_reducible refine' v_ndec (fun _ => ?_) (fun hn => absurd hn ?h)); (case h => first | assumption | omega | decide)
  | (with_reducible refine' v_ndec (fun hn => absurd ?h hn) (fun _ => ?_)); (case h => first | assumption | omega | decide)
  | (with_reducible refine' v_bT ?h ?_); (case h => first | assumption | rfl)
  | (with_reducible refine' v_bF ?h ?_); (case h => first | assumption | rfl))
local macro_rules | `(tactic| walk_at "dv4") => `(tactic| with_reducible first
  | refine v_places ?_ | refine v_roads ?_ | refine v_over ?_ | refine v_line ?_ | refine v_spots ?_ | refine v_myards ?_ | refine v_mroads ?_ | refine v_mW (by decide +kernel) ?_ | refine v_mK (by decide +kernel) ?_
  | refine v_itX ?_ | refine v_ev ?_ | refine v_rev ?_ | refine v_zs ?_ | refine v_enum ?_ | refine v_enum2 ?_ | refine v_makeV ?_ | refine v_tryN ?_ | refine v_lc2 ?_ | refine v_fz ?_ | refine v_make ?_ | refine v_fldS ?_)
local macro_rules | `(tactic| walk_at "dv5") => `(tactic| first
  | refine ⟨_, _, rfl, rfl, ?_⟩ | refine ⟨⟨_, _, rfl⟩, ?_⟩ | refine ⟨⟨_, _, _, rfl⟩, ?_⟩ | refine ⟨_, _, _, rfl, ?_⟩ | refine Or.inl ⟨_, rfl, ?_⟩ | refine Or.inr ⟨_, (fun _ z => by cases z), rfl, ?_⟩)
local macro_rules | `(tactic| walk_at "dv") => `(tactic| repeat (first | walk_at "dv0" | walk_at "dv4" | walk_at "dv1" | walk_at "dv3" | walk_at "dv2" | walk_at "dv5"))
/-! ### the law's own sums -/
section
variable {m : Mod} {S : Store}
theorem frz_two {n a b : Nat} {T : Store} {xs ys : List Dt} (ha : T[a]? = some (.lst xs)) (hb : T[b]? = some (.lst ys)) (h1 : n ≤ a) (h2 : n ≤ b) (px : xs.all (noRef 10) = true) (py : ys.all (noRef 10) = true) : frz n T deepF (.tup [.ref a, .ref b]) = some (.tup [.lst xs, .lst ys]) := by
  show frz n T (11 + 1) _ = _
  unfold frz
  rw [if_neg (by simp [noRef])]
  dsimp only
  have e : ∀ {k : Nat} {ds : List Dt}, T[k]? = some (.lst ds) → n ≤ k → ds.all (noRef 10) = true → frz n T 11 (.ref k) = some (.lst ds) := by
    intro k ds hT hk h
    show frz n T (10 + 1) (.ref k) = _
    unfold frz
    rw [if_neg (by simp [noRef])]
    dsimp only
    rw [if_neg (by omega), hT]
    dsimp only
    rw [mapO_pure h]
    rfl
  unfold mapO
  rw [e ha h1 px]
  unfold mapO
  rw [e hb h2 py]
  rfl
theorem sumS_a (ys ns : List Str) (A B : List Int) : (sumS S ys ns A B)[S.length + 2]? = some (.lst (iD A)) := by simp [sumS]
theorem sumS_b (ys ns : List Str) (A B : List Int) : (sumS S ys ns A B)[S.length + 3]? = some (.lst (iD B)) := by simp [sumS]
theorem sums_ok (ok : m.Ok) (hp : PureS S) {y z : Str} {t : Int} {l : Seg} (h : Path m y l z) (hy : y ∈ m.ys) : m_sums [walkD m y t l] S = .ok (.tup [.lst (iD (turnsV m y t l)), .lst (iD (goneV m l))]) S := by
  refine Pe.eq (v_fn ?_)
  show Ps (b_sums (en9 (some (walkD m y t l)) none none none none none none none none) S) _ _
  refine sums_body ok hp h hy fun en => ?_
  have tk : (sumS S m.ys (namesOf m) (turnsV m y t l) (goneV m l)).take S.length = S := List.take_left
  refine v_finL (frz_two (sumS_a _ _ _ _) (sumS_b _ _ _ _) (by omega) (by omega) (iD_pure _ _) (iD_pure _ _)) (by simp [sumS]) (by rw [tk]; exact hp) ?_
  rw [tk]
  exact ⟨rfl, rfl⟩
theorem sums_o_ok (ok : m.Ok) (hp : PureS S) {y z : Str} {t : Int} {l : Seg} (h : Path m y l z) (hy : y ∈ m.ys) : m_sums_o [walkD m y t l] S = .ok (.tup [.ref (S.length + 2), .ref (S.length + 3)]) (sumS S m.ys (namesOf m) (turnsV m y t l) (goneV m l)) := by
  refine Pe.eq (v_fn ?_)
  show Ps (b_sums (en9 (some (walkD m y t l)) none none none none none none none none) S) _ _
  refine sums_body ok hp h hy fun en => ?_
  exact v_fin (.inl rfl) ⟨rfl, rfl⟩
theorem v_lm {f : Dt → Dt → Store → R Dt} {mo : Dv.Env → Store → R Dt} {ma : Dv.Env → Store → R (List Dt)} {en : Dv.Env} {o x : Dt} {xs : List Dt} {Q : Dt → Store → Prop} {X : Ex → Store → Prop} (ho : mo en S = .ok o S) (hp : asP S o = some xs) (ha : ma en S = .ok [x] S) (h : Pe (f o x S) Q X) : Pe (mLM f mo ma en S) Q X := by
  have e : mLM f mo ma en S = f o x S := by
    unfold mLM
    rw [ho]
    show (match asP S o with
      | some _ => (ma en S).bind fun xs S2 => (match xs with
        | [x] => f o x S2
        | _ => R.stuck)
      | none => .stuck) = _
    rw [hp]
    dsimp only
    rw [ha]
  rw [e]
  exact h
theorem v_idx {ys : List Str} {y : Str} {j : Nat} {Q : Dt → Store → Prop} {X : Ex → Store → Prop} (hs : ∀ y ∈ ys, PyData.strOk y = true) (hy : PyData.strOk y = true) (h : (ys.map Dt.str).findIdx? (fun z => eqD z (.str y)) = some j) (q : Q (.int (j : Nat)) S) : Pe (idxD (.lst (ys.map Dt.str)) (.str y) S) Q X := by
  have e : idxD (.lst (ys.map Dt.str)) (.str y) S = .ok (.int (j : Nat)) S := by
    show (if okD deep (.str y) = true ∧ okD deep (.lst (ys.map Dt.str)) = true then (match (ys.map Dt.str).findIdx? (fun z => eqD z (.str y)) with
      | some j => (R.ok (Dt.int (j : Nat)) S : R Dt)
      | none => .stuck) else .stuck) = _
    rw [if_pos ⟨hy, all_map (p := okD 11) fun z hz => hs z hz⟩, h]
  exact Pe.of e q
theorem count_row (s : Step) : ∀ (l : Seg) (t : Int), (rowD t l).countP (fun z => eqD z (stD s)) = (l.map (·.1)).countP fun x => decide (x = s)
  | [], t => rfl
  | p :: l, t => by
    have ih := count_row s l p.2
    have e0 : eqD (.int t) (stD s) = false := rfl
    have e1 : eqD (stD p.1) (stD s) = decide (p.1 = s) := eqD_st p.1 s
    show (Dt.int t :: stD p.1 :: rowD p.2 l).countP _ = _
    rw [List.countP_cons, List.countP_cons, ih, e0, e1, List.map_cons, List.countP_cons]
    simp
theorem v_cnt {s : Step} {t : Int} {l : Seg} {Q : Dt → Store → Prop} {X : Ex → Store → Prop} (hs : ∀ p ∈ l, PyData.strOk p.1.1 = true) (hl : PyData.strOk s.1 = true) (q : Q (.int (((l.map (·.1)).countP fun x => decide (x = s) : Nat) : Int)) S) : Pe (cntD (.lst (rowD t l)) (stD s) S) Q X := by
  have e : cntD (.lst (rowD t l)) (stD s) S = .ok (.int (((l.map (·.1)).countP fun x => decide (x = s) : Nat) : Int)) S := by
    show (if okD deep (stD s) = true ∧ okD deep (.lst (rowD t l)) = true then (R.ok (Dt.int (((rowD t l).countP fun z => eqD z (stD s) : Nat) : Int)) S : R Dt) else .stuck) = _
    have k2 : okD deep (.lst (rowD t l)) = true := by
      show (rowD t l).all (okD 11) = true
      have : ∀ (l : Seg) (t : Int), (∀ p ∈ l, PyData.strOk p.1.1 = true) → (rowD t l).all (okD 11) = true := by
        intro l
        induction l with
        | nil => intro t _; rfl
        | cons p l ih =>
          intro t h
          show (Dt.int t :: stD p.1 :: rowD p.2 l).all (okD 11) = true
          rw [List.all_cons, List.all_cons, ih p.2 fun x hx => h x (List.mem_cons_of_mem _ hx), okD_st (h p List.mem_cons_self) 10]
          rfl
      exact this l t hs
    rw [if_pos ⟨okD_st hl 11, k2⟩, count_row]
  exact Pe.of e q
theorem rep_zero : ∀ n : Nat, (List.replicate n [Dt.int 0]).flatten = iD (zeros n)
  | 0 => rfl
  | n + 1 => by
    rw [List.replicate_succ, List.flatten_cons, rep_zero n]
    show _ = iD (List.replicate (n + 1) 0)
    rw [List.replicate_succ]
    rfl
theorem row_at (t : Int) : ∀ (l : Seg) (k : Nat) (y : Str) (p : Str × Int), (visits m y t l)[k]? = some p → (rowD t l)[2 * k]? = some (.int p.2)
  | l, 0, y, p, h => by
    have h : (y, t) = p := by simpa [visits] using h
    subst h
    rfl
  | [], k + 1, y, p, h => by simp [visits] at h
  | q :: l, k + 1, y, p, h => by
    have h : (visits m (goes m q.1) q.2 l)[k]? = some p := h
    have ih := row_at q.2 l k _ p h
    show (Dt.int t :: stD q.1 :: rowD q.2 l)[2 * k + 2]? = _
    exact ih
theorem spot_at {l : Seg} {k : Nat} {y : Str} {t : Int} {p : Str × Int} (h : (visits m y t l)[k]? = some p) : (spots m y l)[k]? = some p.1 := by
  have e : spots m y l = (visits m y t l).map (·.1) := by
    unfold spots visits
    rw [List.map_cons, List.map_map]
    rfl
  rw [e, List.getElem?_map, h]
  rfl
abbrev lsS (S : Store) (A : List Int) : Store := S ++ [.lst (iD A)]
theorem law_sums_ok (ok : m.Ok) (hp : PureS S) {y z : Str} {t : Int} {l : Seg} (h : Path m y l z) (hy : y ∈ m.ys) (hl : l.length ≤ 1000) : m_law_sums [m.d, .str y, .lst (rowD t l)] S = .ok (.tup [.lst (iD (turnsV m y t l)), .lst (iD (goneV m l))]) S := by
  have ly := ok.ly
  have lr := ok.lr
  have gy : ∀ {en : Dv.Env} {T : Store}, en[0]? = some (some m.d) → mGetS "yards" (mVar 0) en T = .ok (.lst m.ysD) T := fun {en T} he => by
    unfold mGetS
    show (mVar 0 en T).bind _ = _
    unfold mVar
    rw [he]
    rfl
  have hst := h.str ok
  refine Pe.eq (v_fn ?_)
  show Ps (b_law_sums (en9 (some m.d) (some (.str y)) (some (.lst (rowD t l))) none none none none none none) S) _ _
  unfold b_law_sums
  refine v_seq (v_set (v_op (v_lst (v_cons (v_c (v_nil ⟨Nat.le_of_ble_eq_true rfl, ?_⟩))))))
  refine v_CB (v_cons (Pe.of (gy rfl) (v_nil (v_len (n := m.ys.length) (by show some _ = _; rw [List.length_map]) ?_))))
  refine v_mulRR ⟨by omega, by omega, Nat.le_of_ble_eq_true rfl⟩ ?_
  rw [Int.toNat_natCast, rep_zero]
  have p1 : ∀ A : List Int, PureS (lsS S A) := fun A o ho => by
    rcases List.mem_append.mp ho with z | z
    · exact hp o z
    · rw [List.mem_singleton.mp z]
      exact iD_pure A _
  refine v_seq (v_set (v_call (v_cons (v_var rfl (v_cons (v_var rfl (v_cons (v_var rfl (v_nil ⟨rfl, ?_⟩)))))))))
  refine Pe.of (law_yards_ok ok (p1 _) h (by omega)) ?_
  refine v_seq (v_for (v_rng1 (v_cons (v_CB (v_cons (v_var rfl (v_nil (v_len (n := l.length + 1) (by show some _ = _; rw [List.length_map, spots_len]) (v_nil ⟨_, rfl, by unfold rngOk; simp; omega, ?_⟩)))))))))
  have tn : (((l.length + 1 : Nat) : Int)).toNat = l.length + 1 := Int.toNat_natCast _
  rw [tn]
  have vl : (visits m y t l).length = l.length + 1 := by unfold visits; rw [List.length_cons, List.length_map]
  refine v_loop (fun ds en T => ∃ (k : Nat) (vs : List Int) (x5 x6 : Option Dt), k ≤ l.length + 1 ∧ ds = (rangeD 0 (l.length + 1)).drop k ∧ en = en9 (some m.d) (some (.str y)) (some (.lst (rowD t l))) (some (.ref S.length)) (some (.lst ((spots m y l).map Dt.str))) x5 x6 none none ∧ T = lsS S vs ∧ vs.length = m.ys.length ∧ tsum m.ys ((visits m y t l).drop k) vs = turnsV m y t l)
    ⟨0, zeros m.ys.length, _, _, Nat.zero_le _, rfl, rfl, rfl, List.length_replicate, rfl⟩ ?_ ?_
  · rintro d ds en T ⟨k, vs, x5, x6, hk, hds, rfl, rfl, lv, hv⟩
    have hlt : k < l.length + 1 := by
      apply Classical.byContradiction
      intro hc
      have : k = l.length + 1 := by omega
      subst this
      rw [rangeD_end] at hds
      cases hds
    rw [rangeD_drop hlt] at hds
    obtain ⟨rfl, rfl⟩ := List.cons.inj hds
    obtain ⟨p, hp9⟩ : ∃ p, (visits m y t l)[k]? = some p := ⟨(visits m y t l)[k]'(by omega), by simp⟩
    have hin := visits_in ok h (t := t) hy p (List.mem_of_getElem? hp9)
    have edr : (visits m y t l).drop k = p :: (visits m y t l).drop (k + 1) := by
      rw [List.drop_eq_getElem_cons (by omega)]
      have := (List.getElem?_eq_some_iff.mp hp9).2
      rw [this]
    rw [edr] at hv
    obtain ⟨j, v, i1, i2, i3⟩ := idx_add p.2 hin (by rw [lv] : m.ys.length = vs.length)
    have jl := (List.getElem?_eq_some_iff.mp i2).1
    have jl : j < vs.length := jl
    have ix1 : ixD (lsS S vs) (.lst ((spots m y l).map Dt.str)) (k : Int) = some (.str p.1) := atI_in (j := k) (by rw [List.getElem?_map, spot_at hp9]; rfl)
    have lst : (lsS S vs)[S.length]? = some (.lst (iD vs)) := last_at
    have ix2 : ixD (lsS S vs) (.ref S.length) (j : Int) = some (.int v) := ixD_ref lst (atI_in (j := j) (by rw [List.getElem?_map, i2]; rfl))
    have ix3 : ixD (lsS S vs) (.lst (rowD t l)) (2 * (k : Int)) = some (.int p.2) := by
      rw [show (2 * (k : Int)) = ((2 * k : Nat) : Int) by omega]
      exact atI_in (j := 2 * k) (row_at t l k y p hp9)
    refine ⟨_, _, rfl, ?_⟩
    refine v_seq (v_set (v_lm (o := .lst m.ysD) (x := .str p.1) (gy rfl) rfl ?_ (v_idx ok.sy (ok.sy _ hin) i1 ?_)))
    · have : Pe (mCons (mOp mIx (mVar 4) (mVar 5)) mNil ((en9 (some m.d) (some (.str y)) (some (.lst (rowD t l))) (some (.ref S.length)) (some (.lst ((spots m y l).map Dt.str))) x5 x6 none none).set 5 (some (.int (k : Int)))) (lsS S vs)) (fun a T => a = [.str p.1] ∧ T = lsS S vs) X0 := v_cons (v_op (v_var rfl (v_var rfl (v_ix ix1 (v_nil ⟨rfl, rfl⟩)))))
      exact Pe.eq this
    refine v_asg (v_op (v_op (v_var rfl (v_var rfl (v_ix ix2 ?_)))))
    refine v_op (v_var rfl (v_op (v_c (v_var rfl (v_mulL (by decide) (v_ix ix3 (v_add ?_)))))))
    refine v_gsub (k := S.length) (n := j) (j := (j : Int)) (ds := iD vs) rfl rfl lst (by unfold L2.ixN; rw [List.length_map, if_pos (by omega), if_pos (by omega)]; rfl) fun S' e1 _ => ?_
    subst e1
    refine ⟨k + 1, addAt m.ys vs p.1 p.2, _, _, hlt, rfl, rfl, ?_, by rw [addAt_len]; exact lv, hv⟩
    rw [set_last, i3, ← List.map_set]
  rintro en T ⟨k, vs, x5, x6, hk, hds, rfl, rfl, lv, hv⟩
  have ke : k = l.length + 1 := by
    apply Classical.byContradiction
    intro hc
    rw [rangeD_drop (by omega)] at hds
    cases hds
  subst ke
  rw [List.drop_eq_nil_of_le (by omega)] at hv
  have hv : vs = turnsV m y t l := hv
  subst hv
  generalize turnsV m y t l = A at *
  have l1 : (lsS S A).length = S.length + 1 := by simp
  refine v_seq (v_set (v_lstR (v_nil ⟨Nat.le_of_ble_eq_true rfl, ?_⟩)))
  rw [l1]
  refine v_seq (v_for (v_it (ds := []) (d := .non) ?_))
  have gr : ∀ {T : Store}, mGetS "roads" (mVar 0) ((en9 (some m.d) (some (.str y)) (some (.lst (rowD t l))) (some (.ref S.length)) (some (.lst ((spots m y l).map Dt.str))) x5 x6 none none).set 7 (some (.ref (S.length + 1)))) T = .ok (.lst m.rsD) T := getS_roads rfl
  refine Pe.of gr ⟨_, rfl, ?_⟩
  refine v_loop (fun ds en T => ∃ (rest : List Road) (gs : List Int) (x8 : Option Dt), ds = rest.map Road.d ∧ en = en9 (some m.d) (some (.str y)) (some (.lst (rowD t l))) (some (.ref S.length)) (some (.lst ((spots m y l).map Dt.str))) x5 x6 (some (.ref (S.length + 1))) x8 ∧ T = lsS S A ++ [.lst (iD gs)] ∧ (∀ r ∈ rest, r ∈ m.rs) ∧ gs.length + rest.length ≤ 8 ∧ gs ++ rest.map (fun r => net r.n (l.map (·.1))) = goneV m l)
    ⟨m.rs, [], _, rfl, rfl, rfl, fun r h => h, by simpa using lr, by rw [goneV_eq ok, List.nil_append, namesOf, List.map_map]; rfl⟩ ?_ ?_
  · rintro d ds en T ⟨rest, gs, x8, hds, rfl, rfl, hin, hlen, hg⟩
    cases rest with
    | nil => cases hds
    | cons r rest =>
      rw [List.map_cons] at hds
      obtain ⟨rfl, rfl⟩ := List.cons.inj hds
      rw [List.length_cons] at hlen
      have hr := ok.sr r (hin r List.mem_cons_self)
      have way : ∀ s ∈ l.map (·.1), s.2 = 1 ∨ s.2 = -1 := fun s hs => by
        obtain ⟨q, hq, rfl⟩ := List.mem_map.mp hs
        exact h.ways q hq
      have nc := net_count r.n way
      refine ⟨_, _, rfl, ?_⟩
      have lst2 : (lsS S A ++ [Ob.lst (iD gs)])[S.length + 1]? = some (.lst (iD gs)) := by
        rw [← l1]
        exact last_at
      refine v_drop (v_app1K rfl lst2 ?_)
      refine v_op (v_lm (o := .lst (rowD t l)) (x := stD (r.n, 1)) rfl rfl rfl (v_cnt hst hr.1 ?_))
      refine v_lm (o := .lst (rowD t l)) (x := stD (r.n, -1)) rfl rfl rfl (v_cnt hst hr.1 ?_)
      refine v_sub ⟨_, lst2, by rw [List.length_map]; omega, ?_⟩
      rw [← nc]
      refine ⟨rest, gs ++ [net r.n (l.map (·.1))], _, rfl, rfl, ?_, fun x hx => hin x (List.mem_cons_of_mem _ hx), by rw [List.length_append, List.length_singleton]; omega, ?_⟩
      · rw [← l1, set_last, iD, iD, List.map_append]
        rfl
      · rw [← hg, List.append_assoc]
        rfl
  rintro en T ⟨rest, gs, x8, hds, rfl, rfl, hin, hlen, hg⟩
  have hr : rest = [] := List.map_eq_nil_iff.mp hds.symm
  subst hr
  rw [List.map_nil, List.append_nil] at hg
  subst hg
  have a1 : (lsS S A ++ [Ob.lst (iD (goneV m l))])[S.length]? = some (.lst (iD A)) := by simp
  have a2 : (lsS S A ++ [Ob.lst (iD (goneV m l))])[S.length + 1]? = some (.lst (iD (goneV m l))) := by simp
  have tk : (lsS S A ++ [Ob.lst (iD (goneV m l))]).take S.length = S := by rw [lsS, List.append_assoc]; exact List.take_left
  refine v_ret (v_tup (v_cons (v_var rfl (v_cons (v_var rfl (v_nil ⟨Nat.le_of_ble_eq_true rfl, ?_⟩))))))
  refine v_finL (frz_two a1 a2 (by omega) (by omega) (iD_pure _ _) (iD_pure _ _)) (by simp) (by rw [tk]; exact hp) ?_
  rw [tk]
  exact ⟨rfl, rfl⟩
end
end Lw
set_option Elab.async false
set_option linter.all false
set_option maxRecDepth 100000
set_option maxHeartbeats 4000000
set_option autoImplicit false
namespace Lw
open PySem Dv
/-! steps of our own words -/
local macro_rules | `(tactic| walk_at "num") => `(tactic| first | assumption | decide | omega)
local macro_rules | `(tactic| walk_at "dv0") => `(tactic| with_reducible first
  | refine v_seq ?_ | refine v_ifS ?_ | refine v_set ?_ | refine v_ret ?_ | refine v_asg ?_ | refine v_par ?_ | refine v_drop ?_ | refine v_nx ?_ | refine v_bk ?_ | refine v_ct ?_ | refine v_retN ?_ | refine v_for ?_
  | refine v_c ?_ | refine v_nil ?_ | refine v_cons ?_ | refine v_op ?_ | refine v_B ?_ | refine v_truth ?_ | refine v_andT ?_ | refine v_orT ?_ | refine v_notT ?_
  | refine v_andV ?_ | refine v_orV ?_ | refine v_notV ?_ | refine v_if ?_ | refine v_neg ?_ | refine v_chain ?_ | refine v_tup ?_ | refine v_lst ?_ | refine v_lstR ?_ | refine v_noPart ?_ | refine v_part ?_ | refine v_sl ?_
  | refine v_CB ?_ | refine v_call ?_ | refine v_abs ?_ | refine v_lc ?_ | refine v_yes ?_ | refine v_it ?_ | refine v_rng1 ?_ | refine v_rng2 ?_ | refine v_rng3 ?_ | refine v_T ?_ | refine v_F ?_
  | refine v_add ?_ | refine v_sub ?_ | refine v_iadd ?_ | refine v_lt ?_ | refine v_le ?_ | refine v_gt ?_ | refine v_ge ?_ | refine v_eqI ?_ | refine v_neI ?_ | refine v_eqB ?_ | refine v_neB ?_)
local macro_rules | `(tactic| walk_at "dv1") => `(tactic| first
  | (with_reducible refine' v_var ?h ?_); (case h => rfl)
  | (with_reducible refine' v_aug ?h ?_); (case h => rfl)
  | (with_reducible refine' v_div ?h1 ?h2 ?_); (case h1 => walk_at "num"); (case h2 => walk_at "num")
  | (with_reducible refine' v_mod ?h1 ?_); (case h1 => walk_at "num")
  | (with_reducible refine' v_pow ?h1 ?_); (case h1 => walk_at "num")
  | (with_reducible refine' v_mulR ?h1 ?_); (case h1 => walk_at "num")
  | (with_reducible refine' v_mulL ?h1 ?_); (case h1 => walk_at "num")
  | (with_reducible refine' v_fin ?h1 ?_); (case h1 => first | exact Or.inl rfl | exact Or.inr rfl | (refine Or.inr ?_; simp only [List.length_set, *]; done))
  | (with_reducible refine' v_ix ?h1 ?_); (case h1 => first | exact ixD_ref (by assumption) (by rfl) | rfl)
  | (with_reducible refine' v_len ?h1 ?_); (case h1 => first | exact lenD_ref (by assumption) | rfl)
  | (with_reducible refine' v_list ?h1 ?_); (case h1 => rfl)
  | (with_reducible refine' v_listR ?h1 ?_); (case h1 => rfl)
  | (with_reducible refine' v_tuple ?h1 ?_); (case h1 => rfl)
  | (with_reducible refine' v_isd ?h1 ?_); (case h1 => rfl)
  | (with_reducible refine' v_isiTy ?h1 ?h2 ?_); (case h1 => rfl); (case h2 => rfl)
  | (with_reducible refine' v_isiT ?h1 ?_); (case h1 => rfl))
local macro_rules | `(tactic| walk_at "dv2") => `(tactic| first
  | refine v_gsub (by rfl) (by rfl) (by assumption) (by rfl) (fun _ _ _ => ?_) | refine ⟨_, rfl, ?_⟩ | (with_reducible refine' ⟨rng_ok ?h1 ?h2, ?_⟩); (case h1 => omega); (case h2 => omega) | refine ⟨rfl, ?_⟩ | refine ⟨_, _, rfl, ?_⟩ | refine ⟨Nat.le_of_ble_eq_true rfl, ?_⟩)
local macro_rules | `(tactic| walk_at "dv3") => `(tactic| first
  | (with_reducible refine' v_dec (fun _ => ?_) (fun hn => absurd ?h hn)); (case h => first | assumption | omega | decide)
  | (with_reducible refine' v_dec (fun hn => absurd hn ?h) (fun _ => ?_)); (case h => first | assumption | omega | decide)
  | (with_reducible refine' v_ndec (fun _ => ?_) (fun hn => absurd hn ?h)); (case h => first | assumption | omega | decide)
  | (with_reducible refine' v_ndec (fun hn => absurd ?h hn) (fun _ => ?_)); (case h => first | assumption | omega | decide)
  | (with_reducible refine' v_bT ?h ?_); (case h => first | assumption | rfl)
  | (with_reducible refine' v_bF ?h ?_); (case h => first | assumption | rfl))
local macro_rules | `(tactic| walk_at "dv4") => `(tactic| with_reducible first
  | refine v_places ?_ | refine v_roads ?_ | refine v_over ?_ | refine v_line ?_ | refine v_spots ?_ | refine v_myards ?_ | refine v_mroads ?_ | refine v_mW (by decide +kernel) ?_ | refine v_mK (by decide +kernel) ?_
  | refine v_itX ?_ | refine v_ev ?_ | refine v_rev ?_ | refine v_zs ?_ | refine v_enum ?_ | refine v_enum2 ?_ | refine v_makeV ?_ | refine v_tryN ?_ | refine v_lc2 ?_ | refine v_fz ?_ | refine v_make ?_ | refine v_fldS ?_)
local macro_rules | `(tactic| walk_at "dv5") => `(tactic| first
  | refine ⟨_, _, rfl, rfl, ?_⟩ | refine ⟨⟨_, _, rfl⟩, ?_⟩ | refine ⟨⟨_, _, _, rfl⟩, ?_⟩ | refine ⟨_, _, _, rfl, ?_⟩ | refine Or.inl ⟨_, rfl, ?_⟩ | refine Or.inr ⟨_, (fun _ z => by cases z), rfl, ?_⟩)
local macro_rules | `(tactic| walk_at "dv") => `(tactic| repeat (first | walk_at "dv0" | walk_at "dv4" | walk_at "dv1" | walk_at "dv3" | walk_at "dv2" | walk_at "dv5"))
theorem same_ref {S : Store} {k k0 : Nat} {ds : List Dt} (hT : S[k0]? = some (.lst ds)) (hn : ds.length ≤ 100000) (ih : ∀ d ∈ ds, m_law_same k [d, d] S = .ok (.bl true) S) : Pe (m_law_same (k + 1) [.ref k0, .lst ds] S) (fun d S' => d = .bl true ∧ S' = S) X0 := by
  refine v_fn ?_
  unfold b_law_same
  have elem : ∀ (j : Nat) (e1 : Dv.Env), j < ds.length → e1 = [some (.ref k0), some (.lst ds), some (.int (0 + (j : Int)))] → Pe (mCall 2 (m_law_same k) (mCons (mOp mIx (mVar 0) (mVar 2)) (mCons (mOp mIx (mVar 1) (mVar 2)) mNil)) e1 S) (fun x S2 => S2 = S ∧ some (Dt.bl true) = some x) X0 := by
    intro j e1 hj he
    subst he
    have ej : ds[j]? = some ds[j] := by simp [hj]
    have z : L2.atI ds (0 + (j : Int)) = some ds[j] := by
      rw [Int.zero_add]
      exact atI_in ej
    walk_at "dv"
    refine v_ix (ixD_ref hT z) ?_
    walk_at "dv"
    refine v_ix (d := ds[j]) z ?_
    walk_at "dv"
    exact Pe.of (ih _ (List.getElem_mem hj)) ⟨rfl, rfl⟩
  have rest : ∀ {en : Dv.Env} {Q : List Dt → Store → Prop} {X : Ex → Store → Prop}, en = [some (.ref k0), some (.lst ds), none] → Q (List.replicate ds.length (.bl true)) S → Pe (cLoop (wNm 2) mYes
      (mCall 2 (m_law_same k) (mCons (mOp mIx (mVar 0) (mVar 2)) (mCons (mOp mIx (mVar 1) (mVar 2)) mNil))) en (rangeD 0 (ds.length : Int).toNat) [] S) Q X := by
    intro en Q X he q
    subst he
    refine v_cloop (fun _ => some (.bl true)) (fun d hd => ?_) ?_ ?_
    · obtain ⟨j, hj, rfl⟩ := range_mem hd
      refine ⟨_, rfl, v_yes ⟨rfl, v_T ?_⟩⟩
      exact elem j _ (by simpa using hj) rfl
    · simp [rangeD]
      omega
    · rw [List.nil_append, Int.toNat_natCast, range_const]
      exact q
  have fin : ∀ {Q : Dt → Store → Prop} {X : Ex → Store → Prop}, Q (.bl true) S → Pe (mAll [.lst (List.replicate ds.length (.bl true))] S) Q X := by
    intro Q X q
    unfold mAll
    simp only [asL, Option.bind_some, all_true]
    refine v_ok ?_
    have e : (List.replicate ds.length true).all (fun b => b) = true := by simp
    rw [e]
    exact q
  have ht : tyS S (.ref k0) = some (.inl "list") := by
    unfold tyS
    simp only [hT]
  walk_at "dv"
  refine v_isiTy ht rfl ?_
  walk_at "dv"
  refine v_isiTy ht rfl ?_
  walk_at "dv"
  refine v_isiT (by rw [ht]; rfl) ?_
  walk_at "dv"
  refine rest rfl ?_
  walk_at "dv"
  refine fin ?_
  walk_at "dv"
  rfl
/-! law in parts -/
def b_law_1 : Bd := (mIfS (mOrT (mNotT (mTruth (mCall 2 (m_law_same 20) (mCons (mCall 1 m_sums (mCons (mVar 6) mNil)) (mCons (mVar 7) mNil))))) (mNotT (mTruth (mCall 2 (m_law_same 20) (mCons (mOp mIx (mCall 1 m_sums (mCons (mMeth "Walk" "back" 1 m_Walk_back (mVar 6) mNil) mNil)) (mC (.int 1))) (mCons (mLc [9] (mIt (mOp mIx (mVar 7) (mC (.int 1)))) (wNm 9) mYes (mOp mSub (mC (.int 0)) (mVar 9))) mNil)))))) (mRet (mC (.bl false))) mNx)
def b_law_2 : Bd := (mSeq (mDrop (mApp1 (mOp mIx (mVar 8) (mC (.int 1))) (mC (.int 0)))) b_law_1)
def b_law_3 : Bd := (mSeq (mDrop (mClear (mOp mIx (mVar 8) (mC (.int 0))))) b_law_2)
def b_law_4 : Bd := (mSeq (mIfS (mNotT (mTruth (mCall 2 (m_law_same 20) (mCons (mVar 8) (mCons (mVar 7) mNil))))) (mRet (mC (.bl false))) mNx) b_law_3)
def b_law_5 : Bd := (mSeq (mSet 8 (mCall 1 m_sums_o (mCons (mVar 6) mNil))) b_law_4)
def b_law_6 : Bd := (mSeq (mSet 7 (mCall 3 m_law_sums (mCons (mVar 3) (mCons (mVar 4) (mCons (mVar 5) mNil))))) b_law_5)
def b_law_7 : Bd := (mSeq (mSet 6 (mFz (mMake "Walk" 4 m_Walk_dinit (mCons (mCall 1 m_law_web (mCons (mVar 3) mNil)) (mCons (mVar 4) (mCons (mVar 5) mNil)))))) b_law_6)
def b_law_8 : Bd := (mSeq (mAsg (gTp 3 (gCons' (gNm 3) (gCons' (gNm 4) (gCons' (gNm 5) gNil')))) (mCall 2 m_law_some_walk (mCons (mVar 1) (mCons (mC (.int 16)) mNil)))) b_law_7)
def b_law_9 : Bd := (mSeq (mFor (mRng1 (mCons (mC (.int 3)) mNil)) (gNm 2) b_law_8) (mRet (mC (.bl true))))
theorem b_law_eq : b_law = (mSeq (mSet 1 (mCall 1 m_law_flow (mCons (mVar 0) mNil))) b_law_9) := rfl
/-! ### the law's turn -/
theorem same_tup {S : Store} {k : Nat} {ds es : List Dt} (hl : es.length = ds.length) (hn : ds.length ≤ 100000) (ih : ∀ (j : Nat) (d e : Dt), ds[j]? = some d → es[j]? = some e → m_law_same k [d, e] S = .ok (.bl true) S) : Pe (m_law_same (k + 1) [.tup ds, .tup es] S) (fun d S' => d = .bl true ∧ S' = S) X0 := by
  refine v_fn ?_
  unfold b_law_same
  have elem : ∀ (j : Nat) (e1 : Dv.Env), j < ds.length → e1 = [some (.tup ds), some (.tup es), some (.int (0 + (j : Int)))] → Pe (mCall 2 (m_law_same k) (mCons (mOp mIx (mVar 0) (mVar 2)) (mCons (mOp mIx (mVar 1) (mVar 2)) mNil)) e1 S) (fun x S2 => S2 = S ∧ some (Dt.bl true) = some x) X0 := by
    intro j e1 hj he
    subst he
    have ej : ds[j]? = some ds[j] := by simp [hj]
    have ej2 : es[j]? = some (es[j]'(by omega)) := by simp [show j < es.length by omega]
    have z : L2.atI ds (0 + (j : Int)) = some ds[j] := by
      rw [Int.zero_add]
      exact atI_in ej
    have z2 : L2.atI es (0 + (j : Int)) = some (es[j]'(by omega)) := by
      rw [Int.zero_add]
      exact atI_in ej2
    walk_at "dv"
    refine v_ix (d := ds[j]) z ?_
    walk_at "dv"
    refine v_ix (d := es[j]'(by omega)) z2 ?_
    walk_at "dv"
    exact Pe.of (ih j _ _ ej ej2) ⟨rfl, rfl⟩
  have rest : ∀ {en : Dv.Env} {Q : List Dt → Store → Prop} {X : Ex → Store → Prop}, en = [some (.tup ds), some (.tup es), none] → Q (List.replicate ds.length (.bl true)) S → Pe (cLoop (wNm 2) mYes
      (mCall 2 (m_law_same k) (mCons (mOp mIx (mVar 0) (mVar 2)) (mCons (mOp mIx (mVar 1) (mVar 2)) mNil))) en (rangeD 0 (ds.length : Int).toNat) [] S) Q X := by
    intro en Q X he q
    subst he
    refine v_cloop (fun _ => some (.bl true)) (fun d hd => ?_) ?_ ?_
    · obtain ⟨j, hj, rfl⟩ := range_mem hd
      refine ⟨_, rfl, v_yes ⟨rfl, v_T ?_⟩⟩
      exact elem j _ (by simpa using hj) rfl
    · simp [rangeD]
      omega
    · rw [List.nil_append, Int.toNat_natCast, range_const]
      exact q
  have fin : ∀ {Q : Dt → Store → Prop} {X : Ex → Store → Prop}, Q (.bl true) S → Pe (mAll [.lst (List.replicate ds.length (.bl true))] S) Q X := by
    intro Q X q
    unfold mAll
    simp only [asL, Option.bind_some, all_true]
    refine v_ok ?_
    have e : (List.replicate ds.length true).all (fun b => b) = true := by simp
    rw [e]
    exact q
  walk_at "dv"
  rw [hl]
  refine rest rfl ?_
  walk_at "dv"
  refine fin ?_
  walk_at "dv"
  rfl
section
variable {m : Mod} {S : Store} {QS : Fl → Dv.Env → Store → Prop} {XS : Ex → Dv.Env → Store → Prop}
theorem sok_iD (vs : List Int) (hl : vs.length ≤ 1000) (k : Nat) : sok (k + 2) (.lst (iD vs)) = true := by
  show (decide ((iD vs).length ≤ 100000) && (iD vs).all (sok (k + 1))) = true
  rw [Bool.and_eq_true]
  refine ⟨decide_eq_true (by rw [List.length_map]; omega), ?_⟩
  rw [List.all_map, List.all_eq_true]
  exact fun x _ => rfl
theorem same_told {a b : Nat} {A B : List Int} (ha : S[a]? = some (.lst (iD A))) (hb : S[b]? = some (.lst (iD B))) (la : A.length ≤ 1000) (lb : B.length ≤ 1000) : m_law_same 20 [.tup [.ref a, .ref b], .tup [.lst (iD A), .lst (iD B)]] S = .ok (.bl true) S := by
  have one : ∀ {k : Nat} {vs : List Int}, S[k]? = some (.lst (iD vs)) → vs.length ≤ 1000 → m_law_same 19 [.ref k, .lst (iD vs)] S = .ok (.bl true) S := fun {k vs} h hl => by
    refine Pe.eq (same_ref h (by rw [List.length_map]; omega) fun d hd => ?_)
    obtain ⟨x, _, rfl⟩ := List.mem_map.mp hd
    exact same_all 18 _ rfl
  refine Pe.eq (same_tup (k := 19) rfl (Nat.le_of_ble_eq_true rfl) fun j d e h1 h2 => ?_)
  match j, h1, h2 with
  | 0, h1, h2 =>
    have h1 : Dt.ref a = d := Option.some.inj h1
    have h2 : Dt.lst (iD A) = e := Option.some.inj h2
    subst h1 h2
    exact one ha la
  | 1, h1, h2 =>
    have h1 : Dt.ref b = d := Option.some.inj h1
    have h2 : Dt.lst (iD B) = e := Option.some.inj h2
    subst h1 h2
    exact one hb lb
theorem v_clear {k : Nat} {ds : List Dt} {mo : Dv.Env → Store → R Dt} {en : Dv.Env} {Q : Dt → Store → Prop} {X : Ex → Store → Prop} (h : Pe (mo en S) (fun x S1 => x = .ref k ∧ S1[k]? = some (.lst ds) ∧ Q .non (S1.set k (.lst []))) X) : Pe (mClear mo en S) Q X := by
  refine Pe.bind (h.imp (fun x S1 ⟨e1, e2, q⟩ => ?_) fun _ _ z => z)
  subst e1
  dsimp only
  rw [e2]
  exact q
abbrev t44 (a x2 x3 x4 x5 x6 x7 x8 x9 : Option Dt) : Dv.Env := [a, some (.ref 0), x2, x3, x4, x5, x6, x7, x8, x9]
theorem turn44 (hp : PureS S) (hF : FlowAt S 0) {a x2 x3 x4 x5 x6 x7 x8 x9 : Option Dt}
    (q : ∀ y3 y4 y5 y6 y7 y8 y9 S', PureS S' → FlowAt S' 0 → QS .nx (t44 a x2 y3 y4 y5 y6 y7 y8 y9) S') : Ps (b_law_8 (t44 a x2 x3 x4 x5 x6 x7 x8 x9) S) QS XS := by
  unfold b_law_8
  walk_at "dv"
  refine some_walk_ok hp hF (by decide) (by decide) fun m y t l z S1 dm hy h hl ht hw z1 => ?_
  have ok := dm.ok
  have p1 := z1.pure hp
  have f1 := z1.flow
  have hl : l.length ≤ 16 := hl
  have ly := ok.ly
  have lr := ok.lr
  have hz := h.to_in ok hy
  have ht' : t.natAbs ≤ 10 ^ 60 := Nat.le_trans ht (by decide)
  have hw' : Within (10 ^ 60) l := fun p hp => Nat.le_trans (hw p hp) (by decide)
  have lA : (turnsV m y t l).length = m.ys.length := by unfold turnsV; rw [tsum_len, List.length_replicate]
  have lB : ∀ l, (goneV m l).length = m.rs.length := fun l => by unfold goneV; rw [tsum_len, List.length_replicate]
  walk_at "dv"
  unfold b_law_7
  walk_at "dv"
  refine Pe.of (law_web_ok ok dm.nm p1) ?_
  walk_at "dv"
  refine v_walk2 ok p1 h hy ht' hw' (by omega) ?_
  unfold b_law_6
  walk_at "dv"
  refine Pe.of (law_sums_ok ok p1 h hy (by omega)) ?_
  unfold b_law_5
  walk_at "dv"
  refine Pe.of (sums_o_ok ok p1 h hy) ?_
  unfold b_law_4
  walk_at "dv"
  refine Pe.of (same_told (sumS_a _ _ _ _) (sumS_b _ _ _ _) (by omega) (by rw [lB]; omega)) ?_
  walk_at "dv"
  unfold b_law_3
  refine v_seq (v_drop (v_clear (k := S1.length + 2) (ds := iD (turnsV m y t l)) ?_))
  walk_at "dv"
  refine ⟨sumS_a _ _ _ _, ?_⟩
  have hB : (goneV m l).length = m.rs.length := lB l
  have see := goneV_back ok t l
  generalize hAA : turnsV m y t l = A at *
  generalize hBB : goneV m l = B at *
  have e1 : (sumS S1 m.ys (namesOf m) A B).set (S1.length + 2) (.lst []) = S1 ++ [.dct (ksOf m.ys) (iD A), .dct (ksOf (namesOf m)) (iD B), .lst [], .lst (iD B)] := by
    unfold sumS
    rw [List.set_append_right _ _ (by omega), Nat.add_sub_cancel_left]
    rfl
  rw [e1]
  have g2 : (S1 ++ [Ob.dct (ksOf m.ys) (iD A), .dct (ksOf (namesOf m)) (iD B), .lst [], .lst (iD B)])[S1.length + 3]? = some (.lst (iD B)) := by
    rw [List.getElem?_append_right (by omega), Nat.add_sub_cancel_left]
    rfl
  unfold b_law_2
  refine v_seq (v_drop (v_app1K (k := S1.length + 3) rfl g2 (v_c ⟨_, g2, by rw [List.length_map]; omega, ?_⟩)))
  have e2 : (S1 ++ [Ob.dct (ksOf m.ys) (iD A), .dct (ksOf (namesOf m)) (iD B), .lst [], .lst (iD B)]).set (S1.length + 3) (.lst (iD B ++ [.int 0])) = S1 ++ [.dct (ksOf m.ys) (iD A), .dct (ksOf (namesOf m)) (iD B), .lst [], .lst (iD (B ++ [0]))] := by
    have e3 : iD (B ++ [0]) = iD B ++ [.int 0] := List.map_append
    rw [List.set_append_right _ _ (by omega), Nat.add_sub_cancel_left, e3]
    rfl
  rw [e2]
  have p2 : PureS (S1 ++ [Ob.dct (ksOf m.ys) (iD A), .dct (ksOf (namesOf m)) (iD B), .lst [], .lst (iD (B ++ [0]))]) := by
    intro o ho
    rcases List.mem_append.mp ho with z | z
    · exact p1 o z
    · simp only [List.mem_cons, List.not_mem_nil, or_false] at z
      rcases z with rfl | rfl | rfl | rfl
      · exact iD_pure _ _
      · exact iD_pure _ _
      · rfl
      · exact iD_pure _ _
  have f2 : FlowAt (S1 ++ [Ob.dct (ksOf m.ys) (iD A), .dct (ksOf (namesOf m)) (iD B), .lst [], .lst (iD (B ++ [0]))]) 0 := by
    obtain ⟨f, h1, h2⟩ := f1
    refine ⟨f, ?_, h2⟩
    rw [List.getElem?_append_left (List.getElem?_eq_some_iff.mp h1).1]
    exact h1
  generalize S1 ++ [Ob.dct (ksOf m.ys) (iD A), .dct (ksOf (namesOf m)) (iD B), .lst [], .lst (iD (B ++ [0]))] = T at *
  unfold b_law_1
  walk_at "dv"
  refine Pe.of (sums_ok ok p2 h hy) ?_
  rw [hAA, hBB]
  walk_at "dv"
  refine v_same rfl (by simp [sok, sok_iD]; omega) ?_
  walk_at "dv"
  refine Pe.of (walk_back_ok ok p2 h hz ht' hw' (by omega)) ?_
  walk_at "dv"
  refine Pe.of (sums_ok ok p2 (bk_path h t) hz) ?_
  rw [see]
  walk_at "dv"
  refine v_cloop (fun d => match d with
    | .int x => some (.int (0 - x))
    | _ => none) (fun d hd => ?_) ?_ ?_
  · obtain ⟨x, _, rfl⟩ := List.mem_map.mp hd
    refine ⟨_, rfl, v_yes ⟨rfl, v_T ?_⟩⟩
    refine v_op (v_c (v_var rfl (v_sub ⟨rfl, rfl⟩)))
  · rw [List.length_map, List.length_nil]
    omega
  have ef : ((iD B).filterMap fun d : Dt => match d with
    | .int x => some (Dt.int (0 - x))
    | _ => none) = iD (B.map fun x => 0 - x) := by
    clear see hBB g2 e1 e2 p2 f2 lB hB
    induction B with
    | nil => rfl
    | cons b B ih =>
      show Dt.int (0 - b) :: (iD B).filterMap _ = _
      rw [ih]
      rfl
  rw [List.nil_append, ef]
  walk_at "dv"
  refine v_same rfl (sok_iD _ (by rw [List.length_map]; omega) 18) ?_
  walk_at "dv"
  exact q _ _ _ _ _ _ _ T p2 f2
end
theorem law_true (ns : List Int) (hn : ns.length ≤ 63) : ∃ S, m_law [.fz (ns.map Dt.int)] [] = .ok (.bl true) S := by
  suffices h : Pe (m_law [.fz (ns.map Dt.int)] []) (fun d _ => d = .bl true) X0 by
    obtain ⟨a, S, e, rfl⟩ := h.ex
    exact ⟨S, e⟩
  refine v_fn ?_
  rw [b_law_eq]
  walk_at "dv"
  refine flow_new fun S1 hl1 _ hf => ?_
  have hl : S1.length = 1 := hl1
  have hf : FlowAt S1 0 := hf
  have hp : PureS S1 := by
    obtain ⟨f, h1, _⟩ := hf
    match S1, hl, h1 with
    | [o], _, h1 =>
      intro x hx
      rw [List.mem_singleton.mp hx, Option.some.inj h1]
      exact f.pure
  walk_at "dv"
  unfold b_law_9
  walk_at "dv"
  refine v_loop (fun ds en T => ∃ (x2 x3 x4 x5 x6 x7 x8 x9 : Option Dt), en = t44 (some (.fz (ns.map Dt.int))) x2 x3 x4 x5 x6 x7 x8 x9 ∧ PureS T ∧ FlowAt T 0)
    ⟨_, _, _, _, _, _, _, _, rfl, hp, hf⟩ ?_ ?_
  · rintro d ds en T ⟨x2, x3, x4, x5, x6, x7, x8, x9, rfl, pT, hT⟩
    refine ⟨_, _, rfl, ?_⟩
    exact turn44 pT hT fun y3 y4 y5 y6 y7 y8 y9 S' p' f' => ⟨_, _, _, _, _, _, _, _, rfl, p', f'⟩
  · rintro en T ⟨x2, x3, x4, x5, x6, x7, x8, x9, rfl, pT, hT⟩
    walk_at "dv"
    rfl
end Lw
set_option Elab.async false
set_option linter.all false
set_option maxRecDepth 100000
set_option maxHeartbeats 4000000
set_option autoImplicit false
namespace Lw
open PySem PySem.Spec PyProof.Rows L2 Dv
theorem all_of {l : PySem.W.OpenLaw} {w : World} {K : PySem.W.Frag} {h : Heap} {mg : Str → Option Value} {fa : Addr} (X : K.In h) (G : h.Ns mainGlobals mg) (hfa : mg "law" = some (.ref fa)) (c : SaysL hTests hDefs K) :
    ∃ fd : FuncData, (∀ (s : Shared) (v : Value), BindsTo s fd ⟨[v], []⟩ [("_law_script", v)]) ∧ ∀ base : Heap, K.In base → base.Ns mainGlobals mg → FnOk l.prog w K mg base (L2.CX l.prog w) 22 fa fd ["_law_script"] (spLaw K []) := by
  have a1 : PySem.W.findIn K (.ref (He.ga K "Web")) "need_yard" = some (some (.ref (He.fAd K ("Web", some "need_yard")))) := He.eqO_ok (c.fact 0 rfl)
  have i1 : PySem.W.isFn K (.ref (He.fAd K ("Web", some "need_yard"))) = true := c.fact 1 rfl
  have a2 : PySem.W.nsIn K mainGlobals "need_form" = some (some (.ref (He.fAd K ("need_form", none)))) := He.eqO_ok (c.fact 2 rfl)
  have a3 : PySem.W.findIn K (.ref (He.ga K "Web")) "road_of" = some (some (.ref (He.fAd K ("Web", some "road_of")))) := He.eqO_ok (c.fact 3 rfl)
  have i3 : PySem.W.isFn K (.ref (He.fAd K ("Web", some "road_of"))) = true := c.fact 4 rfl
  have a4 : PySem.W.findIn K (.ref (He.ga K "Web")) "turned_so" = some (some (.ref (He.fAd K ("Web", some "turned_so")))) := He.eqO_ok (c.fact 5 rfl)
  have i4 : PySem.W.isFn K (.ref (He.fAd K ("Web", some "turned_so"))) = true := c.fact 6 rfl
  have a5 : PySem.W.findIn K (.ref (He.ga K "Web")) "ends" = some (some (.ref (He.fAd K ("Web", some "ends")))) := He.eqO_ok (c.fact 7 rfl)
  have i5 : PySem.W.isFn K (.ref (He.fAd K ("Web", some "ends"))) = true := c.fact 8 rfl
  have a6 : PySem.W.nsIn K mainGlobals "yards_on" = some (some (.ref (He.fAd K ("yards_on", none)))) := He.eqO_ok (c.fact 9 rfl)
  have a7 : PySem.W.findIn K (.ref (He.ga K "Walk")) "__init__" = some (some (.ref (He.fAd K ("Walk", some "__init__")))) := He.eqO_ok (c.fact 10 rfl)
  have i7 : PySem.W.isFn K (.ref (He.fAd K ("Walk", some "__init__"))) = true := c.fact 11 rfl
  have a8 : PySem.W.findIn K (.ref (He.ga K "Walk")) "end" = some (some (.ref (He.fAd K ("Walk", some "end")))) := He.eqO_ok (c.fact 12 rfl)
  have i8 : PySem.W.isFn K (.ref (He.fAd K ("Walk", some "end"))) = true := c.fact 13 rfl
  have a9 : PySem.W.findIn K (.ref (He.ga K "Walk")) "row" = some (some (.ref (He.fAd K ("Walk", some "row")))) := He.eqO_ok (c.fact 14 rfl)
  have i9 : PySem.W.isFn K (.ref (He.fAd K ("Walk", some "row"))) = true := c.fact 15 rfl
  have a10 : PySem.W.nsIn K mainGlobals "undone" = some (some (.ref (He.fAd K ("undone", none)))) := He.eqO_ok (c.fact 16 rfl)
  have a11 : PySem.W.nsIn K mainGlobals "back_row" = some (some (.ref (He.fAd K ("back_row", none)))) := He.eqO_ok (c.fact 17 rfl)
  have a12 : PySem.W.findIn K (.ref (He.ga K "Walk")) "back" = some (some (.ref (He.fAd K ("Walk", some "back")))) := He.eqO_ok (c.fact 18 rfl)
  have i12 : PySem.W.isFn K (.ref (He.fAd K ("Walk", some "back"))) = true := c.fact 19 rfl
  have a13 : PySem.W.nsIn K mainGlobals "_law_flow" = some (some (.ref (He.fAd K ("_law_flow", none)))) := He.eqO_ok (c.fact 20 rfl)
  have a14 : PySem.W.nsIn K mainGlobals "_law_same" = some (some (.ref (He.fAd K ("_law_same", none)))) := He.eqO_ok (c.fact 21 rfl)
  have a15 : PySem.W.nsIn K mainGlobals "_law_draw" = some (some (.ref (He.fAd K ("_law_draw", none)))) := He.eqO_ok (c.fact 22 rfl)
  have a16 : PySem.W.nsIn K mainGlobals "_law_pick" = some (some (.ref (He.fAd K ("_law_pick", none)))) := He.eqO_ok (c.fact 23 rfl)
  have a17 : PySem.W.nsIn K mainGlobals "_law_names" = some (some (.ref (He.fAd K ("_law_names", none)))) := He.eqO_ok (c.fact 24 rfl)
  have a18 : PySem.W.nsIn K mainGlobals "_law_number" = some (some (.ref (He.fAd K ("_law_number", none)))) := He.eqO_ok (c.fact 25 rfl)
  have a19 : PySem.W.nsIn K mainGlobals "_law_drawn_web" = some (some (.ref (He.fAd K ("_law_drawn_web", none)))) := He.eqO_ok (c.fact 26 rfl)
  have a20 : PySem.W.nsIn K mainGlobals "_law_small_web" = some (some (.ref (He.fAd K ("_law_small_web", none)))) := He.eqO_ok (c.fact 27 rfl)
  have a21 : PySem.W.nsIn K mainGlobals "_law_road" = some (some (.ref (He.fAd K ("_law_road", none)))) := He.eqO_ok (c.fact 28 rfl)
  have a22 : PySem.W.nsIn K mainGlobals "_law_ends" = some (some (.ref (He.fAd K ("_law_ends", none)))) := He.eqO_ok (c.fact 29 rfl)
  have a23 : PySem.W.nsIn K mainGlobals "_law_rule" = some (some (.ref (He.fAd K ("_law_rule", none)))) := He.eqO_ok (c.fact 30 rfl)
  have a24 : PySem.W.nsIn K mainGlobals "_law_steps_from" = some (some (.ref (He.fAd K ("_law_steps_from", none)))) := He.eqO_ok (c.fact 31 rfl)
  have a25 : PySem.W.nsIn K mainGlobals "_law_turns" = some (some (.ref (He.fAd K ("_law_turns", none)))) := He.eqO_ok (c.fact 32 rfl)
  have a26 : PySem.W.nsIn K mainGlobals "_law_undone" = some (some (.ref (He.fAd K ("_law_undone", none)))) := He.eqO_ok (c.fact 33 rfl)
  have a27 : PySem.W.nsIn K mainGlobals "_law_drawn_row" = some (some (.ref (He.fAd K ("_law_drawn_row", none)))) := He.eqO_ok (c.fact 34 rfl)
  have a28 : PySem.W.nsIn K mainGlobals "_law_walk_of" = some (some (.ref (He.fAd K ("_law_walk_of", none)))) := He.eqO_ok (c.fact 35 rfl)
  have a29 : PySem.W.nsIn K mainGlobals "_law_some_walk" = some (some (.ref (He.fAd K ("_law_some_walk", none)))) := He.eqO_ok (c.fact 36 rfl)
  have a30 : PySem.W.nsIn K mainGlobals "_law_yards_on" = some (some (.ref (He.fAd K ("_law_yards_on", none)))) := He.eqO_ok (c.fact 37 rfl)
  have a31 : PySem.W.nsIn K mainGlobals "_law_sums" = some (some (.ref (He.fAd K ("_law_sums", none)))) := He.eqO_ok (c.fact 38 rfl)
  have a32 : PySem.W.findIn K (.ref (He.ga K "Web")) "__init__" = some (some (.ref (He.fAd K ("Web", some "__init__")))) := He.eqO_ok (c.fact 39 rfl)
  have i32 : PySem.W.isFn K (.ref (He.fAd K ("Web", some "__init__"))) = true := c.fact 40 rfl
  have a33 : PySem.W.nsIn K mainGlobals "is_name" = some (some (.ref (He.fAd K ("is_name", none)))) := He.eqO_ok (c.fact 41 rfl)
  have a34 : PySem.W.findIn K (.ref (He.ga K "Web")) "need_new" = some (some (.ref (He.fAd K ("Web", some "need_new")))) := He.eqO_ok (c.fact 42 rfl)
  have i34 : PySem.W.isFn K (.ref (He.fAd K ("Web", some "need_new"))) = true := c.fact 43 rfl
  have a35 : PySem.W.findIn K (.ref (He.ga K "Web")) "turned" = some (some (.ref (He.fAd K ("Web", some "turned")))) := He.eqO_ok (c.fact 44 rfl)
  have i35 : PySem.W.isFn K (.ref (He.fAd K ("Web", some "turned"))) = true := c.fact 45 rfl
  have a36 : PySem.W.nsIn K mainGlobals "is_whole" = some (some (.ref (He.fAd K ("is_whole", none)))) := He.eqO_ok (c.fact 46 rfl)
  have a37 : PySem.W.nsIn K mainGlobals "need_turns" = some (some (.ref (He.fAd K ("need_turns", none)))) := He.eqO_ok (c.fact 47 rfl)
  have a38 : PySem.W.findIn K (.ref (He.ga K "Web")) "with_passage" = some (some (.ref (He.fAd K ("Web", some "with_passage")))) := He.eqO_ok (c.fact 48 rfl)
  have i38 : PySem.W.isFn K (.ref (He.fAd K ("Web", some "with_passage"))) = true := c.fact 49 rfl
  have a39 : PySem.W.findIn K (.ref (He.ga K "Web")) "with_yard" = some (some (.ref (He.fAd K ("Web", some "with_yard")))) := He.eqO_ok (c.fact 50 rfl)
  have i39 : PySem.W.isFn K (.ref (He.fAd K ("Web", some "with_yard"))) = true := c.fact 51 rfl
  have a40 : PySem.W.nsIn K mainGlobals "_law_web" = some (some (.ref (He.fAd K ("_law_web", none)))) := He.eqO_ok (c.fact 52 rfl)
  have a41 : PySem.W.findIn K (.ref (He.ga K "Walk")) "steps" = some (some (.ref (He.fAd K ("Walk", some "steps")))) := He.eqO_ok (c.fact 53 rfl)
  have i41 : PySem.W.isFn K (.ref (He.fAd K ("Walk", some "steps"))) = true := c.fact 54 rfl
  have a42 : PySem.W.findIn K (.ref (He.ga K "Walk")) "web" = some (some (.ref (He.fAd K ("Walk", some "web")))) := He.eqO_ok (c.fact 55 rfl)
  have i42 : PySem.W.isFn K (.ref (He.fAd K ("Walk", some "web"))) = true := c.fact 56 rfl
  have a43 : PySem.W.findIn K (.ref (He.ga K "Walk")) "yards" = some (some (.ref (He.fAd K ("Walk", some "yards")))) := He.eqO_ok (c.fact 57 rfl)
  have i43 : PySem.W.isFn K (.ref (He.fAd K ("Walk", some "yards"))) = true := c.fact 58 rfl
  have a44 : PySem.W.findIn K (.ref (He.ga K "Web")) "passages" = some (some (.ref (He.fAd K ("Web", some "passages")))) := He.eqO_ok (c.fact 59 rfl)
  have i44 : PySem.W.isFn K (.ref (He.fAd K ("Web", some "passages"))) = true := c.fact 60 rfl
  have a45 : PySem.W.findIn K (.ref (He.ga K "Web")) "yards" = some (some (.ref (He.fAd K ("Web", some "yards")))) := He.eqO_ok (c.fact 61 rfl)
  have i45 : PySem.W.isFn K (.ref (He.fAd K ("Web", some "yards"))) = true := c.fact 62 rfl
  have a46 : PySem.W.nsIn K mainGlobals "sums" = some (some (.ref (He.fAd K ("sums", none)))) := He.eqO_ok (c.fact 63 rfl)
  have a47 : PySem.W.nsIn K mainGlobals "law" = some (some (.ref (He.fAd K ("law", none)))) := He.eqO_ok (c.fact 64 rfl)
  have gWalk : PySem.W.nsIn K mainGlobals "Walk" = some (some (.ref (He.ga K "Walk"))) := He.eqO_ok (c.fact 65 rfl)
  have pgWalk : PySem.W.plainGet K (He.ga K "Walk") Str.empty = true := c.fact 66 rfl
  have hdWalk : PySem.W.hasDictIn K (He.ga K "Walk") = true := c.fact 67 rfl
  have poWalk : PySem.W.plainOver K (He.ga K "Walk") = true := c.fact 68 rfl
  have saWalk : PySem.W.findIn K (.ref (He.ga K "Walk")) "__setattr__" = some (some (.builtin "object.__setattr__")) := He.eqO_ok (c.fact 69 rfl)
  have haWalk : PySem.W.findIn K (.ref (He.ga K "Walk")) "__class__" = some (some (.builtin "object.__class__")) := He.eqO_ok (c.fact 70 rfl)
  have hmWalk : PySem.W.mroIn K (He.ga K "Walk") (.type "object") = some true := of_decide_eq_true (c.fact 71 rfl)
  have miWalk : PySem.W.makesIn K (He.ga K "Walk") = true := c.fact 72 rfl
  have kcWalk : PySem.W.keepIn K (.ref (He.ga K "Walk")) = true := c.fact 73 rfl
  have gWeb : PySem.W.nsIn K mainGlobals "Web" = some (some (.ref (He.ga K "Web"))) := He.eqO_ok (c.fact 74 rfl)
  have pgWeb : PySem.W.plainGet K (He.ga K "Web") Str.empty = true := c.fact 75 rfl
  have hdWeb : PySem.W.hasDictIn K (He.ga K "Web") = true := c.fact 76 rfl
  have poWeb : PySem.W.plainOver K (He.ga K "Web") = true := c.fact 77 rfl
  have saWeb : PySem.W.findIn K (.ref (He.ga K "Web")) "__setattr__" = some (some (.builtin "object.__setattr__")) := He.eqO_ok (c.fact 78 rfl)
  have haWeb : PySem.W.findIn K (.ref (He.ga K "Web")) "__class__" = some (some (.builtin "object.__class__")) := He.eqO_ok (c.fact 79 rfl)
  have hmWeb : PySem.W.mroIn K (He.ga K "Web") (.type "object") = some true := of_decide_eq_true (c.fact 80 rfl)
  have miWeb : PySem.W.makesIn K (He.ga K "Web") = true := c.fact 81 rfl
  have kcWeb : PySem.W.keepIn K (.ref (He.ga K "Web")) = true := c.fact 82 rfl
  have na_Walk_over : PySem.W.findIn K (.ref (He.ga K "Walk")) "over" = some none := He.eqO_ok (c.fact 83 rfl)
  have na_Walk_line : PySem.W.findIn K (.ref (He.ga K "Walk")) "line" = some none := He.eqO_ok (c.fact 84 rfl)
  have na_Walk_spots : PySem.W.findIn K (.ref (He.ga K "Walk")) "spots" = some none := He.eqO_ok (c.fact 85 rfl)
  have na_Web_places : PySem.W.findIn K (.ref (He.ga K "Web")) "places" = some none := He.eqO_ok (c.fact 86 rfl)
  have na_Web_roads : PySem.W.findIn K (.ref (He.ga K "Web")) "roads" = some none := He.eqO_ok (c.fact 87 rfl)
  have hn : PySem.W.specialIn K (.builtin "object.__class__") "__get__" = some (some (.builtin "getset_descriptor.__get__")) := He.eqO_ok (c.fact 88 rfl)
  have htk : PySem.W.takesIn K (.builtin "object.__class__") = some true := of_decide_eq_true (c.fact 89 rfl)
  have cb : clsB K [("Walk", (He.ga K "Walk")), ("Web", (He.ga K "Web"))] = true := c.fact 90 rfl
  have zrange : PySem.W.nsIn K mainGlobals "range" = some none := He.eqO_ok (c.fact 91 rfl)
  have zlen : PySem.W.nsIn K mainGlobals "len" = some none := He.eqO_ok (c.fact 92 rfl)
  have ztuple : PySem.W.nsIn K mainGlobals "tuple" = some none := He.eqO_ok (c.fact 93 rfl)
  have zenumerate : PySem.W.nsIn K mainGlobals "enumerate" = some none := He.eqO_ok (c.fact 94 rfl)
  have zisinstance : PySem.W.nsIn K mainGlobals "isinstance" = some none := He.eqO_ok (c.fact 95 rfl)
  have zabs : PySem.W.nsIn K mainGlobals "abs" = some none := He.eqO_ok (c.fact 96 rfl)
  have zlist : PySem.W.nsIn K mainGlobals "list" = some none := He.eqO_ok (c.fact 97 rfl)
  have zbool : PySem.W.nsIn K mainGlobals "bool" = some none := He.eqO_ok (c.fact 98 rfl)
  have zint : PySem.W.nsIn K mainGlobals "int" = some none := He.eqO_ok (c.fact 99 rfl)
  have zstr : PySem.W.nsIn K mainGlobals "str" = some none := He.eqO_ok (c.fact 100 rfl)
  have zall : PySem.W.nsIn K mainGlobals "all" = some none := He.eqO_ok (c.fact 101 rfl)
  have zzip : PySem.W.nsIn K mainGlobals "zip" = some none := He.eqO_ok (c.fact 102 rfl)
  have cLONGEST := He.int_ok X G (c.fact 103 rfl)
  have cGREATEST := He.int_ok X G (c.fact 104 rfl)
  have cMOST_PASSAGES := He.int_ok X G (c.fact 105 rfl)
  have cLETTERS := He.str_ok X G (c.fact 106 rfl)
  have cLONGEST_NAME := He.int_ok X G (c.fact 107 rfl)
  have cMOST_TURNS := He.int_ok X G (c.fact 108 rfl)
  have cMOST_YARDS := He.int_ok X G (c.fact 109 rfl)
  have e := hfa.symm.trans (PySem.W.mg_of X G a47)
  have e2 : (He.fAd K ("law", none)) = fa := by cases e; rfl
  subst e2
  obtain ⟨d1, FD1⟩ := c.def_ 0 rfl
  have F1 : Fun K "need_yard" "Web.need_yard" s_Web_need_yard (He.fAd K ("Web", some "need_yard")) d1 := funOfD FD1
  have b1 := F1.binds (ps := ["self", "name"]) fun _ _ _ _ _ _ us hl => match us, hl with | [_, _], _ => rfl
  obtain ⟨d2, FD2⟩ := c.def_ 1 rfl
  have F2 : Fun K "need_form" "need_form" s_need_form (He.fAd K ("need_form", none)) d2 := funOfD FD2
  have b2 := F2.binds (ps := ["row"]) fun _ _ _ _ _ _ us hl => match us, hl with | [_], _ => rfl
  obtain ⟨d3, FD3⟩ := c.def_ 2 rfl
  have F3 : Fun K "road_of" "Web.road_of" s_Web_road_of (He.fAd K ("Web", some "road_of")) d3 := funOfD FD3
  have b3 := F3.binds (ps := ["self", "name"]) fun _ _ _ _ _ _ us hl => match us, hl with | [_, _], _ => rfl
  obtain ⟨d4, FD4⟩ := c.def_ 3 rfl
  have F4 : Fun K "turned_so" "Web.turned_so" s_Web_turned_so (He.fAd K ("Web", some "turned_so")) d4 := funOfD FD4
  have b4 := F4.binds (ps := ["self", "step", "at"]) fun _ _ _ _ _ _ us hl => match us, hl with | [_, _, _], _ => rfl
  obtain ⟨d5, FD5⟩ := c.def_ 4 rfl
  have F5 : Fun K "ends" "Web.ends" s_Web_ends (He.fAd K ("Web", some "ends")) d5 := funOfD FD5
  have b5 := F5.binds (ps := ["self", "step"]) fun _ _ _ _ _ _ us hl => match us, hl with | [_, _], _ => rfl
  obtain ⟨d6, FD6⟩ := c.def_ 5 rfl
  have F6 : Fun K "yards_on" "yards_on" s_yards_on (He.fAd K ("yards_on", none)) d6 := funOfD FD6
  have b6 := F6.binds (ps := ["web", "start", "row"]) fun _ _ _ _ _ _ us hl => match us, hl with | [_, _, _], _ => rfl
  obtain ⟨d7, FD7⟩ := c.def_ 6 rfl
  have F7 := FD7
  have b7 := funD_all (st := s_Walk_dinit) (ps := ["self", "web", "start", "row"]) (dvs := [.ref (He.dflAt ("Walk", some "__init__") 0 K)]) F7 (by simp) fun _ _ _ _ _ _ _ us its hl hi => match us, hl with | [_, _, _, _], _ => match its, hi with | [_], _ => ⟨_, rfl, rfl⟩
  obtain ⟨d8, FD8⟩ := c.def_ 7 rfl
  have F8 : Fun K "end" "Walk.end" s_Walk_end (He.fAd K ("Walk", some "end")) d8 := funOfD FD8
  have b8 := F8.binds (ps := ["self"]) fun _ _ _ _ _ _ us hl => match us, hl with | [_], _ => rfl
  obtain ⟨d9, FD9⟩ := c.def_ 8 rfl
  have F9 : Fun K "row" "Walk.row" s_Walk_row (He.fAd K ("Walk", some "row")) d9 := funOfD FD9
  have b9 := F9.binds (ps := ["self"]) fun _ _ _ _ _ _ us hl => match us, hl with | [_], _ => rfl
  obtain ⟨d10, FD10⟩ := c.def_ 9 rfl
  have F10 : Fun K "undone" "undone" s_undone (He.fAd K ("undone", none)) d10 := funOfD FD10
  have b10 := F10.binds (ps := ["step"]) fun _ _ _ _ _ _ us hl => match us, hl with | [_], _ => rfl
  obtain ⟨d11, FD11⟩ := c.def_ 10 rfl
  have F11 : Fun K "back_row" "back_row" s_back_row (He.fAd K ("back_row", none)) d11 := funOfD FD11
  have b11 := F11.binds (ps := ["row"]) fun _ _ _ _ _ _ us hl => match us, hl with | [_], _ => rfl
  obtain ⟨d12, FD12⟩ := c.def_ 11 rfl
  have F12 : Fun K "back" "Walk.back" s_Walk_back (He.fAd K ("Walk", some "back")) d12 := funOfD FD12
  have b12 := F12.binds (ps := ["self"]) fun _ _ _ _ _ _ us hl => match us, hl with | [_], _ => rfl
  obtain ⟨d13, FD13⟩ := c.def_ 12 rfl
  have F13 : Fun K "_law_flow" "_law_flow" s_law_flow (He.fAd K ("_law_flow", none)) d13 := funOfD FD13
  have b13 := F13.binds (ps := ["_law_script"]) fun _ _ _ _ _ _ us hl => match us, hl with | [_], _ => rfl
  obtain ⟨d14, FD14⟩ := c.def_ 13 rfl
  have F14 : Fun K "_law_same" "_law_same" s_law_same (He.fAd K ("_law_same", none)) d14 := funOfD FD14
  have b14 := F14.binds (ps := ["_law_found", "_law_due"]) fun _ _ _ _ _ _ us hl => match us, hl with | [_, _], _ => rfl
  obtain ⟨d15, FD15⟩ := c.def_ 14 rfl
  have F15 : Fun K "_law_draw" "_law_draw" s_law_draw (He.fAd K ("_law_draw", none)) d15 := funOfD FD15
  have b15 := F15.binds (ps := ["_law_flow_here", "_law_size"]) fun _ _ _ _ _ _ us hl => match us, hl with | [_, _], _ => rfl
  obtain ⟨d16, FD16⟩ := c.def_ 15 rfl
  have F16 : Fun K "_law_pick" "_law_pick" s_law_pick (He.fAd K ("_law_pick", none)) d16 := funOfD FD16
  have b16 := F16.binds (ps := ["_law_flow_here", "_law_lot"]) fun _ _ _ _ _ _ us hl => match us, hl with | [_, _], _ => rfl
  obtain ⟨d17, FD17⟩ := c.def_ 16 rfl
  have F17 : Fun K "_law_names" "_law_names" s_law_names (He.fAd K ("_law_names", none)) d17 := funOfD FD17
  have b17 := F17.binds (ps := ["_law_flow_here", "_law_many"]) fun _ _ _ _ _ _ us hl => match us, hl with | [_, _], _ => rfl
  obtain ⟨d18, FD18⟩ := c.def_ 17 rfl
  have F18 : Fun K "_law_number" "_law_number" s_law_number (He.fAd K ("_law_number", none)) d18 := funOfD FD18
  have b18 := F18.binds (ps := ["_law_flow_here", "_law_most_now"]) fun _ _ _ _ _ _ us hl => match us, hl with | [_, _], _ => rfl
  obtain ⟨d19, FD19⟩ := c.def_ 18 rfl
  have F19 : Fun K "_law_drawn_web" "_law_drawn_web" s_law_drawn_web (He.fAd K ("_law_drawn_web", none)) d19 := funOfD FD19
  have b19 := F19.binds (ps := ["_law_flow_here", "_law_many", "_law_more", "_law_most_now"]) fun _ _ _ _ _ _ us hl => match us, hl with | [_, _, _, _], _ => rfl
  obtain ⟨d20, FD20⟩ := c.def_ 19 rfl
  have F20 : Fun K "_law_small_web" "_law_small_web" s_law_small_web (He.fAd K ("_law_small_web", none)) d20 := funOfD FD20
  have b20 := F20.binds (ps := ["_law_flow_here"]) fun _ _ _ _ _ _ us hl => match us, hl with | [_], _ => rfl
  obtain ⟨d21, FD21⟩ := c.def_ 20 rfl
  have F21 : Fun K "_law_road" "_law_road" s_law_road (He.fAd K ("_law_road", none)) d21 := funOfD FD21
  have b21 := F21.binds (ps := ["_law_m", "_law_name"]) fun _ _ _ _ _ _ us hl => match us, hl with | [_, _], _ => rfl
  obtain ⟨d22, FD22⟩ := c.def_ 21 rfl
  have F22 : Fun K "_law_ends" "_law_ends" s_law_ends (He.fAd K ("_law_ends", none)) d22 := funOfD FD22
  have b22 := F22.binds (ps := ["_law_m", "_law_step"]) fun _ _ _ _ _ _ us hl => match us, hl with | [_, _], _ => rfl
  obtain ⟨d23, FD23⟩ := c.def_ 22 rfl
  have F23 : Fun K "_law_rule" "_law_rule" s_law_rule (He.fAd K ("_law_rule", none)) d23 := funOfD FD23
  have b23 := F23.binds (ps := ["_law_m", "_law_step"]) fun _ _ _ _ _ _ us hl => match us, hl with | [_, _], _ => rfl
  obtain ⟨d24, FD24⟩ := c.def_ 23 rfl
  have F24 : Fun K "_law_steps_from" "_law_steps_from" s_law_steps_from (He.fAd K ("_law_steps_from", none)) d24 := funOfD FD24
  have b24 := F24.binds (ps := ["_law_m", "_law_yard"]) fun _ _ _ _ _ _ us hl => match us, hl with | [_, _], _ => rfl
  obtain ⟨d25, FD25⟩ := c.def_ 24 rfl
  have F25 : Fun K "_law_turns" "_law_turns" s_law_turns (He.fAd K ("_law_turns", none)) d25 := funOfD FD25
  have b25 := F25.binds (ps := ["_law_flow_here", "_law_far_now"]) fun _ _ _ _ _ _ us hl => match us, hl with | [_, _], _ => rfl
  obtain ⟨d26, FD26⟩ := c.def_ 25 rfl
  have F26 : Fun K "_law_undone" "_law_undone" s_law_undone (He.fAd K ("_law_undone", none)) d26 := funOfD FD26
  have b26 := F26.binds (ps := ["_law_step"]) fun _ _ _ _ _ _ us hl => match us, hl with | [_], _ => rfl
  obtain ⟨d27, FD27⟩ := c.def_ 26 rfl
  have F27 : Fun K "_law_drawn_row" "_law_drawn_row" s_law_drawn_row (He.fAd K ("_law_drawn_row", none)) d27 := funOfD FD27
  have b27 := F27.binds (ps := ["_law_flow_here", "_law_m", "_law_start", "_law_many", "_law_far_now"]) fun _ _ _ _ _ _ us hl => match us, hl with | [_, _, _, _, _], _ => rfl
  obtain ⟨d28, FD28⟩ := c.def_ 27 rfl
  have F28 : Fun K "_law_walk_of" "_law_walk_of" s_law_walk_of (He.fAd K ("_law_walk_of", none)) d28 := funOfD FD28
  have b28 := F28.binds (ps := ["_law_flow_here", "_law_m", "_law_most_now", "_law_far_now"]) fun _ _ _ _ _ _ us hl => match us, hl with | [_, _, _, _], _ => rfl
  obtain ⟨d29, FD29⟩ := c.def_ 28 rfl
  have F29 : Fun K "_law_some_walk" "_law_some_walk" s_law_some_walk (He.fAd K ("_law_some_walk", none)) d29 := funOfD FD29
  have b29 := F29.binds (ps := ["_law_flow_here", "_law_most_now"]) fun _ _ _ _ _ _ us hl => match us, hl with | [_, _], _ => rfl
  obtain ⟨d30, FD30⟩ := c.def_ 29 rfl
  have F30 : Fun K "_law_yards_on" "_law_yards_on" s_law_yards_on (He.fAd K ("_law_yards_on", none)) d30 := funOfD FD30
  have b30 := F30.binds (ps := ["_law_m", "_law_start", "_law_row"]) fun _ _ _ _ _ _ us hl => match us, hl with | [_, _, _], _ => rfl
  obtain ⟨d31, FD31⟩ := c.def_ 30 rfl
  have F31 : Fun K "_law_sums" "_law_sums" s_law_sums (He.fAd K ("_law_sums", none)) d31 := funOfD FD31
  have b31 := F31.binds (ps := ["_law_m", "_law_start", "_law_row"]) fun _ _ _ _ _ _ us hl => match us, hl with | [_, _, _], _ => rfl
  obtain ⟨d32, FD32⟩ := c.def_ 31 rfl
  have F32 : Fun K "__init__" "Web.__init__" s_Web_dinit (He.fAd K ("Web", some "__init__")) d32 := funOfD FD32
  have b32 := F32.binds (ps := ["self"]) fun _ _ _ _ _ _ us hl => match us, hl with | [_], _ => rfl
  obtain ⟨d33, FD33⟩ := c.def_ 32 rfl
  have F33 : Fun K "is_name" "is_name" s_is_name (He.fAd K ("is_name", none)) d33 := funOfD FD33
  have b33 := F33.binds (ps := ["text"]) fun _ _ _ _ _ _ us hl => match us, hl with | [_], _ => rfl
  obtain ⟨d34, FD34⟩ := c.def_ 33 rfl
  have F34 : Fun K "need_new" "Web.need_new" s_Web_need_new (He.fAd K ("Web", some "need_new")) d34 := funOfD FD34
  have b34 := F34.binds (ps := ["self", "name"]) fun _ _ _ _ _ _ us hl => match us, hl with | [_, _], _ => rfl
  obtain ⟨d35, FD35⟩ := c.def_ 34 rfl
  have F35 : Fun K "turned" "Web.turned" s_Web_turned (He.fAd K ("Web", some "turned")) d35 := funOfD FD35
  have b35 := F35.binds (ps := ["self", "places", "roads"]) fun _ _ _ _ _ _ us hl => match us, hl with | [_, _, _], _ => rfl
  obtain ⟨d36, FD36⟩ := c.def_ 35 rfl
  have F36 : Fun K "is_whole" "is_whole" s_is_whole (He.fAd K ("is_whole", none)) d36 := funOfD FD36
  have b36 := F36.binds (ps := ["thing", "low", "high"]) fun _ _ _ _ _ _ us hl => match us, hl with | [_, _, _], _ => rfl
  obtain ⟨d37, FD37⟩ := c.def_ 36 rfl
  have F37 : Fun K "need_turns" "need_turns" s_need_turns (He.fAd K ("need_turns", none)) d37 := funOfD FD37
  have b37 := F37.binds (ps := ["number"]) fun _ _ _ _ _ _ us hl => match us, hl with | [_], _ => rfl
  obtain ⟨d38, FD38⟩ := c.def_ 37 rfl
  have F38 : Fun K "with_passage" "Web.with_passage" s_Web_with_passage (He.fAd K ("Web", some "with_passage")) d38 := funOfD FD38
  obtain ⟨d39, FD39⟩ := c.def_ 38 rfl
  have F39 : Fun K "with_yard" "Web.with_yard" s_Web_with_yard (He.fAd K ("Web", some "with_yard")) d39 := funOfD FD39
  have b39 := F39.binds (ps := ["self", "name"]) fun _ _ _ _ _ _ us hl => match us, hl with | [_, _], _ => rfl
  obtain ⟨d40, FD40⟩ := c.def_ 39 rfl
  have F40 : Fun K "_law_web" "_law_web" s_law_web (He.fAd K ("_law_web", none)) d40 := funOfD FD40
  have b40 := F40.binds (ps := ["_law_m"]) fun _ _ _ _ _ _ us hl => match us, hl with | [_], _ => rfl
  obtain ⟨d41, FD41⟩ := c.def_ 40 rfl
  have F41 : Fun K "steps" "Walk.steps" s_Walk_steps (He.fAd K ("Walk", some "steps")) d41 := funOfD FD41
  have b41 := F41.binds (ps := ["self"]) fun _ _ _ _ _ _ us hl => match us, hl with | [_], _ => rfl
  obtain ⟨d42, FD42⟩ := c.def_ 41 rfl
  have F42 : Fun K "web" "Walk.web" s_Walk_web (He.fAd K ("Walk", some "web")) d42 := funOfD FD42
  have b42 := F42.binds (ps := ["self"]) fun _ _ _ _ _ _ us hl => match us, hl with | [_], _ => rfl
  obtain ⟨d43, FD43⟩ := c.def_ 42 rfl
  have F43 : Fun K "yards" "Walk.yards" s_Walk_yards (He.fAd K ("Walk", some "yards")) d43 := funOfD FD43
  have b43 := F43.binds (ps := ["self"]) fun _ _ _ _ _ _ us hl => match us, hl with | [_], _ => rfl
  obtain ⟨d44, FD44⟩ := c.def_ 43 rfl
  have F44 : Fun K "passages" "Web.passages" s_Web_passages (He.fAd K ("Web", some "passages")) d44 := funOfD FD44
  have b44 := F44.binds (ps := ["self"]) fun _ _ _ _ _ _ us hl => match us, hl with | [_], _ => rfl
  obtain ⟨d45, FD45⟩ := c.def_ 44 rfl
  have F45 : Fun K "yards" "Web.yards" s_Web_yards (He.fAd K ("Web", some "yards")) d45 := funOfD FD45
  have b45 := F45.binds (ps := ["self"]) fun _ _ _ _ _ _ us hl => match us, hl with | [_], _ => rfl
  obtain ⟨d46, FD46⟩ := c.def_ 45 rfl
  have F46 : Fun K "sums" "sums" s_sums (He.fAd K ("sums", none)) d46 := funOfD FD46
  have b46 := F46.binds (ps := ["walk"]) fun _ _ _ _ _ _ us hl => match us, hl with | [_], _ => rfl
  obtain ⟨d47, FD47⟩ := c.def_ 46 rfl
  have F47 : Fun K "law" "law" s_law (He.fAd K ("law", none)) d47 := funOfD FD47
  have b47 := F47.binds (ps := ["_law_script"]) fun _ _ _ _ _ _ us hl => match us, hl with | [_], _ => rfl
  have kb0_Web_with_passage := fun_kbn (ps := ["self", "name", "begin", "end", "here", "there"]) (ks := ["there", "here"]) F38 4 [1, 0] fun _ _ _ _ _ _ us ws hl hw => match us, hl with | [_, _, _, _], _ => match ws, hw with | [_, _], _ => rfl
  have T : Tx K mg ⟨(He.fAd K ("Web", some "need_yard")), d1, (He.fAd K ("need_form", none)), d2, (He.fAd K ("Web", some "road_of")), d3, (He.fAd K ("Web", some "turned_so")), d4, (He.fAd K ("Web", some "ends")), d5, (He.fAd K ("yards_on", none)), d6, (He.fAd K ("Walk", some "__init__")), d7, [.ref (He.dflAt ("Walk", some "__init__") 0 K)], (He.fAd K ("Walk", some "end")), d8, (He.fAd K ("Walk", some "row")), d9, (He.fAd K ("undone", none)), d10, (He.fAd K ("back_row", none)), d11, (He.fAd K ("Walk", some "back")), d12, (He.fAd K ("_law_flow", none)), d13, (He.fAd K ("_law_same", none)), d14, (He.fAd K ("_law_draw", none)), d15, (He.fAd K ("_law_pick", none)), d16, (He.fAd K ("_law_names", none)), d17, (He.fAd K ("_law_number", none)), d18, (He.fAd K ("_law_drawn_web", none)), d19, (He.fAd K ("_law_small_web", none)), d20, (He.fAd K ("_law_road", none)), d21, (He.fAd K ("_law_ends", none)), d22, (He.fAd K ("_law_rule", none)), d23, (He.fAd K ("_law_steps_from", none)), d24, (He.fAd K ("_law_turns", none)), d25, (He.fAd K ("_law_undone", none)), d26, (He.fAd K ("_law_drawn_row", none)), d27, (He.fAd K ("_law_walk_of", none)), d28, (He.fAd K ("_law_some_walk", none)), d29, (He.fAd K ("_law_yards_on", none)), d30, (He.fAd K ("_law_sums", none)), d31, (He.fAd K ("Web", some "__init__")), d32, (He.fAd K ("is_name", none)), d33, (He.fAd K ("Web", some "need_new")), d34, (He.fAd K ("Web", some "turned")), d35, (He.fAd K ("is_whole", none)), d36, (He.fAd K ("need_turns", none)), d37, (He.fAd K ("Web", some "with_passage")), d38, (He.fAd K ("Web", some "with_yard")), d39, (He.fAd K ("_law_web", none)), d40, (He.fAd K ("Walk", some "steps")), d41, (He.fAd K ("Walk", some "web")), d42, (He.fAd K ("Walk", some "yards")), d43, (He.fAd K ("Web", some "passages")), d44, (He.fAd K ("Web", some "yards")), d45, (He.fAd K ("sums", none)), d46, (He.fAd K ("law", none)), d47, He.ga K "Walk", He.ga K "Web"⟩ := {
    F_Web_need_yard := F1, me_Web_need_yard := ⟨a1, i1, F1.kp⟩, b_Web_need_yard := b1,
    F_need_form := F2, g_need_form := PySem.W.mg_of X G a2, b_need_form := b2,
    F_Web_road_of := F3, me_Web_road_of := ⟨a3, i3, F3.kp⟩, b_Web_road_of := b3,
    F_Web_turned_so := F4, me_Web_turned_so := ⟨a4, i4, F4.kp⟩, b_Web_turned_so := b4,
    F_Web_ends := F5, me_Web_ends := ⟨a5, i5, F5.kp⟩, b_Web_ends := b5,
    F_yards_on := F6, g_yards_on := PySem.W.mg_of X G a6, b_yards_on := b6,
    F_Walk_dinit := F7, mk_Walk := ⟨miWalk, a7, i7, kcWalk⟩, b_Walk_dinit := b7,
    F_Walk_end := F8, me_Walk_end := ⟨a8, i8, F8.kp⟩, b_Walk_end := b8,
    F_Walk_row := F9, me_Walk_row := ⟨a9, i9, F9.kp⟩, b_Walk_row := b9,
    F_undone := F10, g_undone := PySem.W.mg_of X G a10, b_undone := b10,
    F_back_row := F11, g_back_row := PySem.W.mg_of X G a11, b_back_row := b11,
    F_Walk_back := F12, me_Walk_back := ⟨a12, i12, F12.kp⟩, b_Walk_back := b12,
    F_law_flow := F13, g_law_flow := PySem.W.mg_of X G a13, b_law_flow := b13,
    F_law_same := F14, g_law_same := PySem.W.mg_of X G a14, b_law_same := b14,
    F_law_draw := F15, g_law_draw := PySem.W.mg_of X G a15, b_law_draw := b15,
    F_law_pick := F16, g_law_pick := PySem.W.mg_of X G a16, b_law_pick := b16,
    F_law_names := F17, g_law_names := PySem.W.mg_of X G a17, b_law_names := b17,
    F_law_number := F18, g_law_number := PySem.W.mg_of X G a18, b_law_number := b18,
    F_law_drawn_web := F19, g_law_drawn_web := PySem.W.mg_of X G a19, b_law_drawn_web := b19,
    F_law_small_web := F20, g_law_small_web := PySem.W.mg_of X G a20, b_law_small_web := b20,
    F_law_road := F21, g_law_road := PySem.W.mg_of X G a21, b_law_road := b21,
    F_law_ends := F22, g_law_ends := PySem.W.mg_of X G a22, b_law_ends := b22,
    F_law_rule := F23, g_law_rule := PySem.W.mg_of X G a23, b_law_rule := b23,
    F_law_steps_from := F24, g_law_steps_from := PySem.W.mg_of X G a24, b_law_steps_from := b24,
    F_law_turns := F25, g_law_turns := PySem.W.mg_of X G a25, b_law_turns := b25,
    F_law_undone := F26, g_law_undone := PySem.W.mg_of X G a26, b_law_undone := b26,
    F_law_drawn_row := F27, g_law_drawn_row := PySem.W.mg_of X G a27, b_law_drawn_row := b27,
    F_law_walk_of := F28, g_law_walk_of := PySem.W.mg_of X G a28, b_law_walk_of := b28,
    F_law_some_walk := F29, g_law_some_walk := PySem.W.mg_of X G a29, b_law_some_walk := b29,
    F_law_yards_on := F30, g_law_yards_on := PySem.W.mg_of X G a30, b_law_yards_on := b30,
    F_law_sums := F31, g_law_sums := PySem.W.mg_of X G a31, b_law_sums := b31,
    F_Web_dinit := F32, mk_Web := ⟨miWeb, a32, i32, kcWeb⟩, b_Web_dinit := b32,
    F_is_name := F33, g_is_name := PySem.W.mg_of X G a33, b_is_name := b33,
    F_Web_need_new := F34, me_Web_need_new := ⟨a34, i34, F34.kp⟩, b_Web_need_new := b34,
    F_Web_turned := F35, me_Web_turned := ⟨a35, i35, F35.kp⟩, b_Web_turned := b35,
    F_is_whole := F36, g_is_whole := PySem.W.mg_of X G a36, b_is_whole := b36,
    F_need_turns := F37, g_need_turns := PySem.W.mg_of X G a37, b_need_turns := b37,
    F_Web_with_passage := F38, me_Web_with_passage := ⟨a38, i38, F38.kp⟩,
    F_Web_with_yard := F39, me_Web_with_yard := ⟨a39, i39, F39.kp⟩, b_Web_with_yard := b39,
    F_law_web := F40, g_law_web := PySem.W.mg_of X G a40, b_law_web := b40,
    F_Walk_steps := F41, me_Walk_steps := ⟨a41, i41, F41.kp⟩, b_Walk_steps := b41,
    F_Walk_web := F42, me_Walk_web := ⟨a42, i42, F42.kp⟩, b_Walk_web := b42,
    F_Walk_yards := F43, me_Walk_yards := ⟨a43, i43, F43.kp⟩, b_Walk_yards := b43,
    F_Web_passages := F44, me_Web_passages := ⟨a44, i44, F44.kp⟩, b_Web_passages := b44,
    F_Web_yards := F45, me_Web_yards := ⟨a45, i45, F45.kp⟩, b_Web_yards := b45,
    F_sums := F46, g_sums := PySem.W.mg_of X G a46, b_sums := b46,
    F_law := F47, g_law := PySem.W.mg_of X G a47, b_law := b47,
    kb0_Web_with_passage := kb0_Web_with_passage,
    g_Walk := PySem.W.mg_of X G gWalk, cF_Walk := ⟨pgWalk, hdWalk, poWalk, saWalk, haWalk, hmWalk⟩,
    g_Web := PySem.W.mg_of X G gWeb, cF_Web := ⟨pgWeb, hdWeb, poWeb, saWeb, haWeb, hmWeb⟩,
    na_Walk_over := na_Walk_over,
    na_Walk_line := na_Walk_line,
    na_Walk_spots := na_Walk_spots,
    na_Web_places := na_Web_places,
    na_Web_roads := na_Web_roads,
    cb := cb, hn := hn, htk := htk,
    z_range := PySem.W.mg_none_of X G zrange,
    z_len := PySem.W.mg_none_of X G zlen,
    z_tuple := PySem.W.mg_none_of X G ztuple,
    z_enumerate := PySem.W.mg_none_of X G zenumerate,
    z_isinstance := PySem.W.mg_none_of X G zisinstance,
    z_abs := PySem.W.mg_none_of X G zabs,
    z_list := PySem.W.mg_none_of X G zlist,
    z_bool := PySem.W.mg_none_of X G zbool,
    z_int := PySem.W.mg_none_of X G zint,
    z_str := PySem.W.mg_none_of X G zstr,
    z_all := PySem.W.mg_none_of X G zall,
    z_zip := PySem.W.mg_none_of X G zzip,
    c_LONGEST := cLONGEST,
    c_GREATEST := cGREATEST,
    c_MOST_PASSAGES := cMOST_PASSAGES,
    c_LETTERS := cLETTERS,
    c_LONGEST_NAME := cLONGEST_NAME,
    c_MOST_TURNS := cMOST_TURNS,
    c_MOST_YARDS := cMOST_YARDS }
  have bA := FunD.bindsA (ps := ["_law_script"]) FD47 fun _ _ _ _ _ _ us hl => match us, hl with | [_], _ => rfl
  refine ⟨_, fun s v => ?_, fun base _ _ => law_sp (G := Gx K _) rfl (ok_law T) law_true⟩
  exact bA s [v] rfl
end Lw
open PySem PySem.W PySem.Calls PyProof.Rows in
set_option maxRecDepth 100000 in
set_option maxHeartbeats 0 in
theorem PySem.Challenge.cw_hawserweb_k44_sums_holds : PySem.Challenge.rw_hawserweb_k44_sums.Holds := by
  w_on; o_law
  refine HandSHeadRun.head_any (r := Lw.hRow) (q := view Lw.hRow.prog [57]) (H := Lw.hk) (ob := Lw.hOb) (M := 60000) (loose := Lw.hNames) (d := HandSHeadRun.topDef Lw.hRow.prog 57) (kwd := []) Lw.hOb_eq
    (by kernel_rfl) (fun s => by kernel_rfl) Lw.hRun (by kernel_rfl) (by kernel_rfl) (by kernel_rfl) (by rfl) (by first | assumption | decide +kernel) (by decide +kernel) ⟨rfl, rfl, rfl, rfl, rfl, by decide +kernel⟩ ?hw ?hc
  case hw => w_witness2
  case hc =>
    refine Dv.walk_lawE (l := PySem.Challenge.rw_hawserweb_k44_sums) (k := 22) (x := "_law_script") rfl (by kernel_rfl) ⟨rfl, by decide, by decide⟩ ?F
    intro w mg fa h Y G hmg0
    obtain ⟨K, KX, c⟩ := Y
    have hmg : mg ("law" : PySem.Str) = some (.ref fa) := by
      have e : (HandSHeadRun.topDef Lw.hRow.prog 57).name = ("law" : PySem.Str) := by kernel_rfl
      rw [← e]
      exact hmg0
    obtain ⟨fd, hb, hF⟩ := Lw.all_of (l := PySem.Challenge.rw_hawserweb_k44_sums) (w := w) KX G hmg c
    exact ⟨K, fd, KX, hb, hF⟩
