import PyProof.Rows.All
import PySem.Challenge.RW_hawserweb_k65_refusals_apart
import Wide.All
import OpenK.AllK
import Wide.FinOn
import HandS.ForMost
import HandS.Wide
import HandS.Exc
import HandS.ExcOwn
import HandS.ExcInit
import HandS.Head0
import HandS.Head1
import HandS.Head2
import HandS.HeadEnd
import HandS.HeadHook1
import HandS.HeadHook2
import KE.KNestM
import KE.KTryMore
import HandS.ExcField
import KE.KExcInit
import HandS.HeadHook3
import HandS.TryOnly
import HandS.TryMany
import HandS.WordsExc
import HandS.CallSlots
import HandS.TupAny
import HandS.IsInst
import HandS.Flow
import HandS.Lambda
import HandS.Style
import HandS.ExcCtx
import HandS.HotCalls
import HandS.FStr
import HandS.RaiseMore
import HandS.Dict
import KE.KUnpackStar
import HandS.Iter
import KE.GoesEnumKw
import HandS.Defaults
import HandS.OwnEq
import KE.GoesMore
import KE.GoesEnum
import HandS.Deep
import HandS.HeadWalk
import KE.KExcStr
import HandS.Small
import HandS.List
import HandS.DictEq
import HandS.DeepEq
import PyProof.P3Eq
import HandS.WrittenGet
import HandS.TupMul
import HandS.More
import PyProof.StrBlock2
import HandS.Text
import HandS.TupLen
import KE.KDictDisplayH
import PyProof.EqAt
import PyProof.EqKinds
import HandS.Sort
import HandS.Conv
import HandS.DictComp
import HandS.Finally
import PyProof.NeKinds
import HandS.TupSets
import KE.KeyNested
import KE.KDictLaws
import KE.KDictPairs
import HandS.WordsDict
import HandS.SetBool
import HandS.Comp
import KE.KExcIs
set_option Elab.async false
set_option linter.all false
set_option maxRecDepth 100000
set_option maxHeartbeats 4000000
set_option autoImplicit false
/-! what the head decides: ahead of all else, for its run wants room -/
namespace Dv
open PySem PySem.Spec PyProof.Rows L2
abbrev tys : List String := ["NoneType", "bool", "int", "str", "tuple", "list", "dict"]
abbrev clss : List String := ["bool", "int", "str", "tuple", "list", "dict"]
/-- the classes' addresses by name -/
abbrev CL := List (String × Addr)
abbrev bmVE : List Value := [.type "ValueError", .type "Exception", .type "BaseException", .type "object"]
abbrev bmLE : List Value := [.type "LookupError", .type "Exception", .type "BaseException", .type "object"]
abbrev bmIE : List Value := [.type "IndexError", .type "LookupError", .type "Exception", .type "BaseException", .type "object"]
def oexGB (K : PySem.W.Frag) (C : Addr) : Bool := match K.lookup C with
  | some ⟨.type "type", _, .cls cd, sl⟩ => (match cd.mro, sl.toList with
    | .ref C' :: bm, [_, _, _, _, some (.builtin n), _] => C' == C && !cd.hasDel && cd.hasDict && ((n == "ValueError.__new__" && PySem.W.excTail bmVE bm) || (n == "LookupError.__new__" && PySem.W.excTail bmLE bm) || (n == "IndexError.__new__" && PySem.W.excTail bmIE bm))
    | _, _ => false)
  | _ => false
abbrev Test : Type := PySem.W.Frag → Bool
def obsL (fs : List Test) (fn : List He.DefD) (K : PySem.W.Frag) : He.AlD := ((fs.all fun f => f K) && fn.all fun d => d.ok K, fn.map fun d => He.fnW K d.at_)
def SaysL (fs : List Test) (fn : List He.DefD) (K : PySem.W.Frag) : Prop := obsL fs fn K = He.valD fn
def obsLG (as : List Addr) (fs : List Test) (fn : List He.DefD) (g : Addr → Option Obj) : He.AlD := obsL fs fn (He.frG g as)
def hookL (as : List Addr) (fs : List Test) (fn : List He.DefD) : PySem.W.Hook where
  α := He.AlD
  obs := fun s => obsLG as fs fn s.heap.get?
  val := fun _ => He.valD fn
  says := fun _ h => ∃ K : PySem.W.Frag, K.In h ∧ SaysL fs fn K
  of := fun _ _ e => ⟨_, He.frG_in, e⟩
  keeps := fun _ _ _ ⟨K, hK, c⟩ k => ⟨K, PySem.W.Frag.In.keeps hK k, c⟩
theorem obsLG_eq {as : List Addr} {fs : List Test} {fn : List He.DefD} {g : Addr → Option Obj} {s : Shared} (h : ∀ a, g a = s.heap.get? a) : obsLG as fs fn g = (hookL as fs fn).obs s := by
  have e : g = s.heap.get? := funext h
  rw [e] <;> rfl
/-! ### tables of code objects: left out of K -/
/-! ### a world whose answer to one question is told -/
/-! ### tables of the top with text keys -/
abbrev TabD : Type := (PySem.W.Frag → Addr) × List Str
def SaysW (ts : List TabD) (w : World) (K : PySem.W.Frag) : Prop := (ts.map fun t => He.dicW K (t.1 K)) = ts.map fun t => some (He.keysIn w.params t.2)
theorem SaysW.tab {ts : List TabD} {w : World} {K : PySem.W.Frag} (c : SaysW ts w K) (i : Nat) {t : TabD} (h : ts[i]? = some t := by rfl) : He.dicW K (t.1 K) = some (He.keysIn w.params t.2) := by
  have e2 : (ts.map fun t => He.dicW K (t.1 K))[i]? = (ts.map fun t => some (He.keysIn w.params t.2))[i]? := by rw [show (ts.map fun t => He.dicW K (t.1 K)) = _ from c]
  rw [List.getElem?_map, List.getElem?_map, h] at e2
  exact Option.some.inj e2
end Dv
set_option Elab.async false
set_option linter.all false
set_option maxRecDepth 100000
set_option maxHeartbeats 4000000
set_option autoImplicit false
/-! what the head decides of exceptions that are asked for their class -/
namespace Dv
open PySem PySem.Spec PyProof.Rows L2
/-- what the class says, so that isinstance asks its instances rightly -/
def exvB (K : PySem.W.Frag) (C : Addr) : Bool := (PySem.W.clsIn K C).isSome && (xfB K C && (decide (PySem.W.findIn K (.ref C) "__class__" = some (some (.builtin "object.__class__"))) && decide (PySem.W.mroIn K C (.type "object") = some true)))
def clsAskB (K : PySem.W.Frag) : Bool := decide (PySem.W.specialIn K (.builtin "object.__class__") "__get__" = some (some (.builtin "getset_descriptor.__get__"))) && decide (PySem.W.takesIn K (.builtin "object.__class__") = some true)
/-- exceptions by their classes, what they are asked for: a class, the names of those under it -/
def isEB (K : PySem.W.Frag) (L : List (String × Addr)) (M : List (Value × List String)) : Bool := clsAskB K && L.all fun p => exvB K p.2 && M.all fun q => PySem.W.kitOne K (.ref p.2) q.1 == some (decide (p.1 ∈ q.2))
theorem ite_some {α : Type} {p : Prop} [Decidable p] {x z : α} {y : Option α} (h : (if p then some x else y) = some z) : (p ∧ x = z) ∨ y = some z := by
  by_cases e : p
  · rw [if_pos e] at h
    exact .inl ⟨e, Option.some.inj h⟩
  · rw [if_neg e] at h
    exact .inr h
end Dv
set_option Elab.async false
set_option linter.all false
set_option maxRecDepth 100000
set_option maxHeartbeats 4000000
set_option autoImplicit false
namespace Lw
open PySem PySem.Spec PyProof.Rows L2 Dv
def topS (i : Nat) : Stmt := PySem.Challenge.pw_hawserweb_k65_refusals_apart.main.body.getD i (.Pass ⟨0, 0, 0, 0⟩)
abbrev s_law_draw : Stmt := topS 35
theorem sc_law_draw : FnScope ["_law_flow_here", "_law_size", "_law_found", "_law_cell", "_law_base"] ["_law_flow_here", "_law_size"] (defScope s_law_draw) := ⟨rfl, rfl, rfl, by decide +kernel, rfl, by decide +kernel, by decide +kernel⟩
abbrev s_law_flags : Stmt := topS 38
theorem sc_law_flags : FnScope ["_law_e", "_law_found"] ["_law_e"] (defScope s_law_flags) := ⟨rfl, rfl, rfl, by decide +kernel, rfl, by decide +kernel, by decide +kernel⟩
abbrev s_law_flow : Stmt := topS 34
theorem sc_law_flow : FnScope ["_law_script"] ["_law_script"] (defScope s_law_flow) := ⟨rfl, rfl, rfl, by decide +kernel, rfl, by decide +kernel, by decide +kernel⟩
abbrev s_law_made_error : Stmt := topS 37
theorem sc_law_made_error : FnScope ["_law_at", "_law_field", "_law_name", "_law_some"] ["_law_at", "_law_field"] (defScope s_law_made_error) := ⟨rfl, rfl, rfl, by decide +kernel, rfl, by decide +kernel, by decide +kernel⟩
abbrev s_law_same : Stmt := topS 36
theorem sc_law_same : FnScope ["_law_found", "_law_due", "_law_k"] ["_law_found", "_law_due"] (defScope s_law_same) := ⟨rfl, rfl, rfl, by decide +kernel, rfl, by decide +kernel, by decide +kernel⟩
abbrev s_law : Stmt := topS 39
theorem sc_law : FnScope ["_law_script", "_law_flow_here", "_law_words", "_law_begin", "_law_field", "_law_step", "_law_at", "_law_e", "_law_k", "_law_kin", "_law_found"] ["_law_script"] (defScope s_law) := ⟨rfl, rfl, rfl, by decide +kernel, rfl, by decide +kernel, by decide +kernel⟩
abbrev s_Missing_init : Stmt := inClass (topS 27) 0
abbrev s_BadRow_init : Stmt := inClass (topS 8) 0
theorem sc_BadRow_init : FnScope ["self", "at"] ["self", "at"] (defScope s_BadRow_init) := ⟨rfl, rfl, rfl, by decide +kernel, rfl, by decide +kernel, by decide +kernel⟩
abbrev s_Tied_init : Stmt := inClass (topS 6) 0
theorem sc_Tied_init : FnScope ["self", "name"] ["self", "name"] (defScope s_Tied_init) := ⟨rfl, rfl, rfl, by decide +kernel, rfl, by decide +kernel, by decide +kernel⟩
abbrev s_BadTurns_init : Stmt := inClass (topS 5) 0
theorem sc_BadTurns_init : FnScope ["self", "number"] ["self", "number"] (defScope s_BadTurns_init) := ⟨rfl, rfl, rfl, by decide +kernel, rfl, by decide +kernel, by decide +kernel⟩
abbrev s_Full_init : Stmt := inClass (topS 4) 0
theorem sc_Full_init : FnScope ["self", "many"] ["self", "many"] (defScope s_Full_init) := ⟨rfl, rfl, rfl, by decide +kernel, rfl, by decide +kernel, by decide +kernel⟩
abbrev s_BadDeed_init : Stmt := inClass (topS 25) 0
theorem sc_BadDeed_init : FnScope ["self", "at"] ["self", "at"] (defScope s_BadDeed_init) := ⟨rfl, rfl, rfl, by decide +kernel, rfl, by decide +kernel, by decide +kernel⟩
abbrev s_BadExchange_init : Stmt := inClass (topS 14) 0
theorem sc_BadExchange_init : FnScope ["self", "at"] ["self", "at"] (defScope s_BadExchange_init) := ⟨rfl, rfl, rfl, by decide +kernel, rfl, by decide +kernel, by decide +kernel⟩
abbrev s_BadText_init : Stmt := inClass (topS 21) 0
theorem sc_BadText_init : FnScope ["self", "at"] ["self", "at"] (defScope s_BadText_init) := ⟨rfl, rfl, rfl, by decide +kernel, rfl, by decide +kernel, by decide +kernel⟩
abbrev s_Astray_init : Stmt := inClass (topS 9) 0
theorem sc_Astray_init : FnScope ["self", "at"] ["self", "at"] (defScope s_Astray_init) := ⟨rfl, rfl, rfl, by decide +kernel, rfl, by decide +kernel, by decide +kernel⟩
abbrev s_NoWalk_init : Stmt := inClass (topS 31) 0
theorem sc_NoWalk_init : FnScope ["self", "name"] ["self", "name"] (defScope s_NoWalk_init) := ⟨rfl, rfl, rfl, by decide +kernel, rfl, by decide +kernel, by decide +kernel⟩
abbrev s_Breaks_init : Stmt := inClass (topS 24) 0
theorem sc_Breaks_init : FnScope ["self", "name"] ["self", "name"] (defScope s_Breaks_init) := ⟨rfl, rfl, rfl, by decide +kernel, rfl, by decide +kernel, by decide +kernel⟩
abbrev s_Taken_init : Stmt := inClass (topS 3) 0
theorem sc_Taken_init : FnScope ["self", "name"] ["self", "name"] (defScope s_Taken_init) := ⟨rfl, rfl, rfl, by decide +kernel, rfl, by decide +kernel, by decide +kernel⟩
abbrev s_BadName_init : Stmt := inClass (topS 2) 0
theorem sc_BadName_init : FnScope ["self", "name"] ["self", "name"] (defScope s_BadName_init) := ⟨rfl, rfl, rfl, by decide +kernel, rfl, by decide +kernel, by decide +kernel⟩
abbrev s_BadWay_init : Stmt := inClass (topS 7) 0
theorem sc_BadWay_init : FnScope ["self"] ["self"] (defScope s_BadWay_init) := ⟨rfl, rfl, rfl, by decide +kernel, rfl, by decide +kernel, by decide +kernel⟩
abbrev s_TooGreat_init : Stmt := inClass (topS 11) 0
theorem sc_TooGreat_init : FnScope ["self"] ["self"] (defScope s_TooGreat_init) := ⟨rfl, rfl, rfl, by decide +kernel, rfl, by decide +kernel, by decide +kernel⟩
abbrev s_TooLong_init : Stmt := inClass (topS 10) 0
theorem sc_TooLong_init : FnScope ["self"] ["self"] (defScope s_TooLong_init) := ⟨rfl, rfl, rfl, by decide +kernel, rfl, by decide +kernel, by decide +kernel⟩
abbrev s_NotHome_init : Stmt := inClass (topS 13) 0
theorem sc_NotHome_init : FnScope ["self"] ["self"] (defScope s_NotHome_init) := ⟨rfl, rfl, rfl, by decide +kernel, rfl, by decide +kernel, by decide +kernel⟩
abbrev s_NotMet_init : Stmt := inClass (topS 12) 0
theorem sc_NotMet_init : FnScope ["self"] ["self"] (defScope s_NotMet_init) := ⟨rfl, rfl, rfl, by decide +kernel, rfl, by decide +kernel, by decide +kernel⟩
abbrev s_Stays_init : Stmt := inClass (topS 17) 0
theorem sc_Stays_init : FnScope ["self"] ["self"] (defScope s_Stays_init) := ⟨rfl, rfl, rfl, by decide +kernel, rfl, by decide +kernel, by decide +kernel⟩
abbrev s_BadPlace_init : Stmt := inClass (topS 16) 0
theorem sc_BadPlace_init : FnScope ["self"] ["self"] (defScope s_BadPlace_init) := ⟨rfl, rfl, rfl, by decide +kernel, rfl, by decide +kernel, by decide +kernel⟩
abbrev s_Strange_init : Stmt := inClass (topS 15) 0
theorem sc_Strange_init : FnScope ["self"] ["self"] (defScope s_Strange_init) := ⟨rfl, rfl, rfl, by decide +kernel, rfl, by decide +kernel, by decide +kernel⟩
abbrev s_BadTerm_init : Stmt := inClass (topS 20) 0
theorem sc_BadTerm_init : FnScope ["self"] ["self"] (defScope s_BadTerm_init) := ⟨rfl, rfl, rfl, by decide +kernel, rfl, by decide +kernel, by decide +kernel⟩
abbrev s_NoWay_init : Stmt := inClass (topS 19) 0
theorem sc_NoWay_init : FnScope ["self"] ["self"] (defScope s_NoWay_init) := ⟨rfl, rfl, rfl, by decide +kernel, rfl, by decide +kernel, by decide +kernel⟩
abbrev s_Moves_init : Stmt := inClass (topS 18) 0
theorem sc_Moves_init : FnScope ["self"] ["self"] (defScope s_Moves_init) := ⟨rfl, rfl, rfl, by decide +kernel, rfl, by decide +kernel, by decide +kernel⟩
abbrev s_Ring_init : Stmt := inClass (topS 23) 0
theorem sc_Ring_init : FnScope ["self"] ["self"] (defScope s_Ring_init) := ⟨rfl, rfl, rfl, by decide +kernel, rfl, by decide +kernel, by decide +kernel⟩
abbrev s_InUse_init : Stmt := inClass (topS 22) 0
theorem sc_InUse_init : FnScope ["self", "name"] ["self", "name"] (defScope s_InUse_init) := ⟨rfl, rfl, rfl, by decide +kernel, rfl, by decide +kernel, by decide +kernel⟩
abbrev s_BadNumber_init : Stmt := inClass (topS 26) 0
theorem sc_BadNumber_init : FnScope ["self"] ["self"] (defScope s_BadNumber_init) := ⟨rfl, rfl, rfl, by decide +kernel, rfl, by decide +kernel, by decide +kernel⟩
abbrev s_NoPassage_init : Stmt := inClass (topS 30) 0
theorem sc_NoPassage_init : FnScope ["self", "name"] ["self", "name"] (defScope s_NoPassage_init) := ⟨rfl, rfl, rfl, by decide +kernel, rfl, by decide +kernel, by decide +kernel⟩
abbrev s_NoYard_init : Stmt := inClass (topS 29) 0
theorem sc_NoYard_init : FnScope ["self", "name"] ["self", "name"] (defScope s_NoYard_init) := ⟨rfl, rfl, rfl, by decide +kernel, rfl, by decide +kernel, by decide +kernel⟩
abbrev s_NoName_init : Stmt := inClass (topS 28) 0
theorem sc_NoName_init : FnScope ["self", "name"] ["self", "name"] (defScope s_NoName_init) := ⟨rfl, rfl, rfl, by decide +kernel, rfl, by decide +kernel, by decide +kernel⟩
abbrev s_NothingLeft_init : Stmt := inClass (topS 32) 0
theorem sc_NothingLeft_init : FnScope ["self"] ["self"] (defScope s_NothingLeft_init) := ⟨rfl, rfl, rfl, by decide +kernel, rfl, by decide +kernel, by decide +kernel⟩
end Lw
set_option Elab.async false
set_option linter.all false
set_option maxRecDepth 100000
set_option maxHeartbeats 0
set_option autoImplicit false
namespace Lw
open PySem PySem.Spec PyProof.Rows L2 Dv
/-! the head by one run: printed by our gen.py -/
def hTests : List Test := [
  fun K => He.eqO (PySem.W.nsIn K mainGlobals "_law_draw") (some (some (.ref (He.fAd K ("_law_draw", none))))),
  fun K => He.eqO (PySem.W.nsIn K mainGlobals "_law_flags") (some (some (.ref (He.fAd K ("_law_flags", none))))),
  fun K => He.eqO (PySem.W.nsIn K mainGlobals "_law_flow") (some (some (.ref (He.fAd K ("_law_flow", none))))),
  fun K => He.eqO (PySem.W.nsIn K mainGlobals "_law_made_error") (some (some (.ref (He.fAd K ("_law_made_error", none))))),
  fun K => He.eqO (PySem.W.nsIn K mainGlobals "_law_same") (some (some (.ref (He.fAd K ("_law_same", none))))),
  fun K => He.eqO (PySem.W.nsIn K mainGlobals "law") (some (some (.ref (He.fAd K ("law", none))))),
  fun K => He.eqO (PySem.W.nsIn K mainGlobals "Missing") (some (some (.ref (He.ga K "Missing")))),
  fun K => oexGB K (He.ga K "Missing"),
  fun K => He.eqO (PySem.W.findIn K (.ref (He.ga K "Missing")) "__setattr__") (some (some (.builtin "object.__setattr__"))),
  fun K => decide (PySem.W.subIn K (.ref (He.ga K "Missing")) (.type "BaseException") = some true),
  fun K => decide (PySem.W.typeIn K (.ref (He.ga K "Missing")) = some (.type "type")),
  fun K => PySem.W.keepIn K (.ref (He.ga K "Missing")),
  fun K => He.eqO (PySem.W.findIn K (.ref (He.ga K "Missing")) "__init__") (some (some (.ref (He.ma K (He.ga K "Missing") "__init__")))),
  fun K => decide (PySem.W.typeIn K (.ref (He.ma K (He.ga K "Missing") "__init__")) = some (.type "function")),
  fun K => He.eqO (PySem.W.findIn K (.ref (He.ga K "Missing")) "word") (some none),
  fun K => He.eqO (PySem.W.findIn K (.ref (He.ga K "Missing")) "name") (some none),
  fun K => He.eqO (PySem.W.nsIn K mainGlobals "BadRow") (some (some (.ref (He.ga K "BadRow")))),
  fun K => oexGB K (He.ga K "BadRow"),
  fun K => He.eqO (PySem.W.findIn K (.ref (He.ga K "BadRow")) "__setattr__") (some (some (.builtin "object.__setattr__"))),
  fun K => decide (PySem.W.subIn K (.ref (He.ga K "BadRow")) (.type "BaseException") = some true),
  fun K => decide (PySem.W.typeIn K (.ref (He.ga K "BadRow")) = some (.type "type")),
  fun K => PySem.W.keepIn K (.ref (He.ga K "BadRow")),
  fun K => He.eqO (PySem.W.findIn K (.ref (He.ga K "BadRow")) "__init__") (some (some (.ref (He.ma K (He.ga K "BadRow") "__init__")))),
  fun K => decide (PySem.W.typeIn K (.ref (He.ma K (He.ga K "BadRow") "__init__")) = some (.type "function")),
  fun K => He.eqO (PySem.W.findIn K (.ref (He.ga K "BadRow")) "word") (some none),
  fun K => He.eqO (PySem.W.findIn K (.ref (He.ga K "BadRow")) "at") (some none),
  fun K => He.eqO (PySem.W.nsIn K mainGlobals "Tied") (some (some (.ref (He.ga K "Tied")))),
  fun K => oexGB K (He.ga K "Tied"),
  fun K => He.eqO (PySem.W.findIn K (.ref (He.ga K "Tied")) "__setattr__") (some (some (.builtin "object.__setattr__"))),
  fun K => decide (PySem.W.subIn K (.ref (He.ga K "Tied")) (.type "BaseException") = some true),
  fun K => decide (PySem.W.typeIn K (.ref (He.ga K "Tied")) = some (.type "type")),
  fun K => PySem.W.keepIn K (.ref (He.ga K "Tied")),
  fun K => He.eqO (PySem.W.findIn K (.ref (He.ga K "Tied")) "__init__") (some (some (.ref (He.ma K (He.ga K "Tied") "__init__")))),
  fun K => decide (PySem.W.typeIn K (.ref (He.ma K (He.ga K "Tied") "__init__")) = some (.type "function")),
  fun K => He.eqO (PySem.W.findIn K (.ref (He.ga K "Tied")) "word") (some none),
  fun K => He.eqO (PySem.W.findIn K (.ref (He.ga K "Tied")) "name") (some none),
  fun K => He.eqO (PySem.W.nsIn K mainGlobals "BadTurns") (some (some (.ref (He.ga K "BadTurns")))),
  fun K => oexGB K (He.ga K "BadTurns"),
  fun K => He.eqO (PySem.W.findIn K (.ref (He.ga K "BadTurns")) "__setattr__") (some (some (.builtin "object.__setattr__"))),
  fun K => decide (PySem.W.subIn K (.ref (He.ga K "BadTurns")) (.type "BaseException") = some true),
  fun K => decide (PySem.W.typeIn K (.ref (He.ga K "BadTurns")) = some (.type "type")),
  fun K => PySem.W.keepIn K (.ref (He.ga K "BadTurns")),
  fun K => He.eqO (PySem.W.findIn K (.ref (He.ga K "BadTurns")) "__init__") (some (some (.ref (He.ma K (He.ga K "BadTurns") "__init__")))),
  fun K => decide (PySem.W.typeIn K (.ref (He.ma K (He.ga K "BadTurns") "__init__")) = some (.type "function")),
  fun K => He.eqO (PySem.W.findIn K (.ref (He.ga K "BadTurns")) "word") (some none),
  fun K => He.eqO (PySem.W.findIn K (.ref (He.ga K "BadTurns")) "number") (some none),
  fun K => He.eqO (PySem.W.nsIn K mainGlobals "Full") (some (some (.ref (He.ga K "Full")))),
  fun K => oexGB K (He.ga K "Full"),
  fun K => He.eqO (PySem.W.findIn K (.ref (He.ga K "Full")) "__setattr__") (some (some (.builtin "object.__setattr__"))),
  fun K => decide (PySem.W.subIn K (.ref (He.ga K "Full")) (.type "BaseException") = some true),
  fun K => decide (PySem.W.typeIn K (.ref (He.ga K "Full")) = some (.type "type")),
  fun K => PySem.W.keepIn K (.ref (He.ga K "Full")),
  fun K => He.eqO (PySem.W.findIn K (.ref (He.ga K "Full")) "__init__") (some (some (.ref (He.ma K (He.ga K "Full") "__init__")))),
  fun K => decide (PySem.W.typeIn K (.ref (He.ma K (He.ga K "Full") "__init__")) = some (.type "function")),
  fun K => He.eqO (PySem.W.findIn K (.ref (He.ga K "Full")) "word") (some none),
  fun K => He.eqO (PySem.W.findIn K (.ref (He.ga K "Full")) "many") (some none),
  fun K => He.eqO (PySem.W.nsIn K mainGlobals "BadDeed") (some (some (.ref (He.ga K "BadDeed")))),
  fun K => oexGB K (He.ga K "BadDeed"),
  fun K => He.eqO (PySem.W.findIn K (.ref (He.ga K "BadDeed")) "__setattr__") (some (some (.builtin "object.__setattr__"))),
  fun K => decide (PySem.W.subIn K (.ref (He.ga K "BadDeed")) (.type "BaseException") = some true),
  fun K => decide (PySem.W.typeIn K (.ref (He.ga K "BadDeed")) = some (.type "type")),
  fun K => PySem.W.keepIn K (.ref (He.ga K "BadDeed")),
  fun K => He.eqO (PySem.W.findIn K (.ref (He.ga K "BadDeed")) "__init__") (some (some (.ref (He.ma K (He.ga K "BadDeed") "__init__")))),
  fun K => decide (PySem.W.typeIn K (.ref (He.ma K (He.ga K "BadDeed") "__init__")) = some (.type "function")),
  fun K => He.eqO (PySem.W.findIn K (.ref (He.ga K "BadDeed")) "word") (some none),
  fun K => He.eqO (PySem.W.findIn K (.ref (He.ga K "BadDeed")) "at") (some none),
  fun K => He.eqO (PySem.W.nsIn K mainGlobals "BadExchange") (some (some (.ref (He.ga K "BadExchange")))),
  fun K => oexGB K (He.ga K "BadExchange"),
  fun K => He.eqO (PySem.W.findIn K (.ref (He.ga K "BadExchange")) "__setattr__") (some (some (.builtin "object.__setattr__"))),
  fun K => decide (PySem.W.subIn K (.ref (He.ga K "BadExchange")) (.type "BaseException") = some true),
  fun K => decide (PySem.W.typeIn K (.ref (He.ga K "BadExchange")) = some (.type "type")),
  fun K => PySem.W.keepIn K (.ref (He.ga K "BadExchange")),
  fun K => He.eqO (PySem.W.findIn K (.ref (He.ga K "BadExchange")) "__init__") (some (some (.ref (He.ma K (He.ga K "BadExchange") "__init__")))),
  fun K => decide (PySem.W.typeIn K (.ref (He.ma K (He.ga K "BadExchange") "__init__")) = some (.type "function")),
  fun K => He.eqO (PySem.W.findIn K (.ref (He.ga K "BadExchange")) "word") (some none),
  fun K => He.eqO (PySem.W.findIn K (.ref (He.ga K "BadExchange")) "at") (some none),
  fun K => He.eqO (PySem.W.nsIn K mainGlobals "BadText") (some (some (.ref (He.ga K "BadText")))),
  fun K => oexGB K (He.ga K "BadText"),
  fun K => He.eqO (PySem.W.findIn K (.ref (He.ga K "BadText")) "__setattr__") (some (some (.builtin "object.__setattr__"))),
  fun K => decide (PySem.W.subIn K (.ref (He.ga K "BadText")) (.type "BaseException") = some true),
  fun K => decide (PySem.W.typeIn K (.ref (He.ga K "BadText")) = some (.type "type")),
  fun K => PySem.W.keepIn K (.ref (He.ga K "BadText")),
  fun K => He.eqO (PySem.W.findIn K (.ref (He.ga K "BadText")) "__init__") (some (some (.ref (He.ma K (He.ga K "BadText") "__init__")))),
  fun K => decide (PySem.W.typeIn K (.ref (He.ma K (He.ga K "BadText") "__init__")) = some (.type "function")),
  fun K => He.eqO (PySem.W.findIn K (.ref (He.ga K "BadText")) "word") (some none),
  fun K => He.eqO (PySem.W.findIn K (.ref (He.ga K "BadText")) "at") (some none),
  fun K => He.eqO (PySem.W.nsIn K mainGlobals "Astray") (some (some (.ref (He.ga K "Astray")))),
  fun K => oexGB K (He.ga K "Astray"),
  fun K => He.eqO (PySem.W.findIn K (.ref (He.ga K "Astray")) "__setattr__") (some (some (.builtin "object.__setattr__"))),
  fun K => decide (PySem.W.subIn K (.ref (He.ga K "Astray")) (.type "BaseException") = some true),
  fun K => decide (PySem.W.typeIn K (.ref (He.ga K "Astray")) = some (.type "type")),
  fun K => PySem.W.keepIn K (.ref (He.ga K "Astray")),
  fun K => He.eqO (PySem.W.findIn K (.ref (He.ga K "Astray")) "__init__") (some (some (.ref (He.ma K (He.ga K "Astray") "__init__")))),
  fun K => decide (PySem.W.typeIn K (.ref (He.ma K (He.ga K "Astray") "__init__")) = some (.type "function")),
  fun K => He.eqO (PySem.W.findIn K (.ref (He.ga K "Astray")) "word") (some none),
  fun K => He.eqO (PySem.W.findIn K (.ref (He.ga K "Astray")) "at") (some none),
  fun K => He.eqO (PySem.W.nsIn K mainGlobals "NoWalk") (some (some (.ref (He.ga K "NoWalk")))),
  fun K => oexGB K (He.ga K "NoWalk"),
  fun K => He.eqO (PySem.W.findIn K (.ref (He.ga K "NoWalk")) "__setattr__") (some (some (.builtin "object.__setattr__"))),
  fun K => decide (PySem.W.subIn K (.ref (He.ga K "NoWalk")) (.type "BaseException") = some true),
  fun K => decide (PySem.W.typeIn K (.ref (He.ga K "NoWalk")) = some (.type "type")),
  fun K => PySem.W.keepIn K (.ref (He.ga K "NoWalk")),
  fun K => He.eqO (PySem.W.findIn K (.ref (He.ga K "NoWalk")) "__init__") (some (some (.ref (He.ma K (He.ga K "NoWalk") "__init__")))),
  fun K => decide (PySem.W.typeIn K (.ref (He.ma K (He.ga K "NoWalk") "__init__")) = some (.type "function")),
  fun K => He.eqO (PySem.W.findIn K (.ref (He.ga K "NoWalk")) "word") (some none),
  fun K => He.eqO (PySem.W.findIn K (.ref (He.ga K "NoWalk")) "name") (some none),
  fun K => He.eqO (PySem.W.nsIn K mainGlobals "Breaks") (some (some (.ref (He.ga K "Breaks")))),
  fun K => oexGB K (He.ga K "Breaks"),
  fun K => He.eqO (PySem.W.findIn K (.ref (He.ga K "Breaks")) "__setattr__") (some (some (.builtin "object.__setattr__"))),
  fun K => decide (PySem.W.subIn K (.ref (He.ga K "Breaks")) (.type "BaseException") = some true),
  fun K => decide (PySem.W.typeIn K (.ref (He.ga K "Breaks")) = some (.type "type")),
  fun K => PySem.W.keepIn K (.ref (He.ga K "Breaks")),
  fun K => He.eqO (PySem.W.findIn K (.ref (He.ga K "Breaks")) "__init__") (some (some (.ref (He.ma K (He.ga K "Breaks") "__init__")))),
  fun K => decide (PySem.W.typeIn K (.ref (He.ma K (He.ga K "Breaks") "__init__")) = some (.type "function")),
  fun K => He.eqO (PySem.W.findIn K (.ref (He.ga K "Breaks")) "word") (some none),
  fun K => He.eqO (PySem.W.findIn K (.ref (He.ga K "Breaks")) "name") (some none),
  fun K => He.eqO (PySem.W.nsIn K mainGlobals "Taken") (some (some (.ref (He.ga K "Taken")))),
  fun K => oexGB K (He.ga K "Taken"),
  fun K => He.eqO (PySem.W.findIn K (.ref (He.ga K "Taken")) "__setattr__") (some (some (.builtin "object.__setattr__"))),
  fun K => decide (PySem.W.subIn K (.ref (He.ga K "Taken")) (.type "BaseException") = some true),
  fun K => decide (PySem.W.typeIn K (.ref (He.ga K "Taken")) = some (.type "type")),
  fun K => PySem.W.keepIn K (.ref (He.ga K "Taken")),
  fun K => He.eqO (PySem.W.findIn K (.ref (He.ga K "Taken")) "__init__") (some (some (.ref (He.ma K (He.ga K "Taken") "__init__")))),
  fun K => decide (PySem.W.typeIn K (.ref (He.ma K (He.ga K "Taken") "__init__")) = some (.type "function")),
  fun K => He.eqO (PySem.W.findIn K (.ref (He.ga K "Taken")) "word") (some none),
  fun K => He.eqO (PySem.W.findIn K (.ref (He.ga K "Taken")) "name") (some none),
  fun K => He.eqO (PySem.W.nsIn K mainGlobals "BadName") (some (some (.ref (He.ga K "BadName")))),
  fun K => oexGB K (He.ga K "BadName"),
  fun K => He.eqO (PySem.W.findIn K (.ref (He.ga K "BadName")) "__setattr__") (some (some (.builtin "object.__setattr__"))),
  fun K => decide (PySem.W.subIn K (.ref (He.ga K "BadName")) (.type "BaseException") = some true),
  fun K => decide (PySem.W.typeIn K (.ref (He.ga K "BadName")) = some (.type "type")),
  fun K => PySem.W.keepIn K (.ref (He.ga K "BadName")),
  fun K => He.eqO (PySem.W.findIn K (.ref (He.ga K "BadName")) "__init__") (some (some (.ref (He.ma K (He.ga K "BadName") "__init__")))),
  fun K => decide (PySem.W.typeIn K (.ref (He.ma K (He.ga K "BadName") "__init__")) = some (.type "function")),
  fun K => He.eqO (PySem.W.findIn K (.ref (He.ga K "BadName")) "word") (some none),
  fun K => He.eqO (PySem.W.findIn K (.ref (He.ga K "BadName")) "name") (some none),
  fun K => He.eqO (PySem.W.nsIn K mainGlobals "BadWay") (some (some (.ref (He.ga K "BadWay")))),
  fun K => oexGB K (He.ga K "BadWay"),
  fun K => He.eqO (PySem.W.findIn K (.ref (He.ga K "BadWay")) "__setattr__") (some (some (.builtin "object.__setattr__"))),
  fun K => decide (PySem.W.subIn K (.ref (He.ga K "BadWay")) (.type "BaseException") = some true),
  fun K => decide (PySem.W.typeIn K (.ref (He.ga K "BadWay")) = some (.type "type")),
  fun K => PySem.W.keepIn K (.ref (He.ga K "BadWay")),
  fun K => He.eqO (PySem.W.findIn K (.ref (He.ga K "BadWay")) "__init__") (some (some (.ref (He.ma K (He.ga K "BadWay") "__init__")))),
  fun K => decide (PySem.W.typeIn K (.ref (He.ma K (He.ga K "BadWay") "__init__")) = some (.type "function")),
  fun K => He.eqO (PySem.W.findIn K (.ref (He.ga K "BadWay")) "word") (some none),
  fun K => He.eqO (PySem.W.nsIn K mainGlobals "TooGreat") (some (some (.ref (He.ga K "TooGreat")))),
  fun K => oexGB K (He.ga K "TooGreat"),
  fun K => He.eqO (PySem.W.findIn K (.ref (He.ga K "TooGreat")) "__setattr__") (some (some (.builtin "object.__setattr__"))),
  fun K => decide (PySem.W.subIn K (.ref (He.ga K "TooGreat")) (.type "BaseException") = some true),
  fun K => decide (PySem.W.typeIn K (.ref (He.ga K "TooGreat")) = some (.type "type")),
  fun K => PySem.W.keepIn K (.ref (He.ga K "TooGreat")),
  fun K => He.eqO (PySem.W.findIn K (.ref (He.ga K "TooGreat")) "__init__") (some (some (.ref (He.ma K (He.ga K "TooGreat") "__init__")))),
  fun K => decide (PySem.W.typeIn K (.ref (He.ma K (He.ga K "TooGreat") "__init__")) = some (.type "function")),
  fun K => He.eqO (PySem.W.findIn K (.ref (He.ga K "TooGreat")) "word") (some none),
  fun K => He.eqO (PySem.W.nsIn K mainGlobals "TooLong") (some (some (.ref (He.ga K "TooLong")))),
  fun K => oexGB K (He.ga K "TooLong"),
  fun K => He.eqO (PySem.W.findIn K (.ref (He.ga K "TooLong")) "__setattr__") (some (some (.builtin "object.__setattr__"))),
  fun K => decide (PySem.W.subIn K (.ref (He.ga K "TooLong")) (.type "BaseException") = some true),
  fun K => decide (PySem.W.typeIn K (.ref (He.ga K "TooLong")) = some (.type "type")),
  fun K => PySem.W.keepIn K (.ref (He.ga K "TooLong")),
  fun K => He.eqO (PySem.W.findIn K (.ref (He.ga K "TooLong")) "__init__") (some (some (.ref (He.ma K (He.ga K "TooLong") "__init__")))),
  fun K => decide (PySem.W.typeIn K (.ref (He.ma K (He.ga K "TooLong") "__init__")) = some (.type "function")),
  fun K => He.eqO (PySem.W.findIn K (.ref (He.ga K "TooLong")) "word") (some none),
  fun K => He.eqO (PySem.W.nsIn K mainGlobals "NotHome") (some (some (.ref (He.ga K "NotHome")))),
  fun K => oexGB K (He.ga K "NotHome"),
  fun K => He.eqO (PySem.W.findIn K (.ref (He.ga K "NotHome")) "__setattr__") (some (some (.builtin "object.__setattr__"))),
  fun K => decide (PySem.W.subIn K (.ref (He.ga K "NotHome")) (.type "BaseException") = some true),
  fun K => decide (PySem.W.typeIn K (.ref (He.ga K "NotHome")) = some (.type "type")),
  fun K => PySem.W.keepIn K (.ref (He.ga K "NotHome")),
  fun K => He.eqO (PySem.W.findIn K (.ref (He.ga K "NotHome")) "__init__") (some (some (.ref (He.ma K (He.ga K "NotHome") "__init__")))),
  fun K => decide (PySem.W.typeIn K (.ref (He.ma K (He.ga K "NotHome") "__init__")) = some (.type "function")),
  fun K => He.eqO (PySem.W.findIn K (.ref (He.ga K "NotHome")) "word") (some none),
  fun K => He.eqO (PySem.W.nsIn K mainGlobals "NotMet") (some (some (.ref (He.ga K "NotMet")))),
  fun K => oexGB K (He.ga K "NotMet"),
  fun K => He.eqO (PySem.W.findIn K (.ref (He.ga K "NotMet")) "__setattr__") (some (some (.builtin "object.__setattr__"))),
  fun K => decide (PySem.W.subIn K (.ref (He.ga K "NotMet")) (.type "BaseException") = some true),
  fun K => decide (PySem.W.typeIn K (.ref (He.ga K "NotMet")) = some (.type "type")),
  fun K => PySem.W.keepIn K (.ref (He.ga K "NotMet")),
  fun K => He.eqO (PySem.W.findIn K (.ref (He.ga K "NotMet")) "__init__") (some (some (.ref (He.ma K (He.ga K "NotMet") "__init__")))),
  fun K => decide (PySem.W.typeIn K (.ref (He.ma K (He.ga K "NotMet") "__init__")) = some (.type "function")),
  fun K => He.eqO (PySem.W.findIn K (.ref (He.ga K "NotMet")) "word") (some none),
  fun K => He.eqO (PySem.W.nsIn K mainGlobals "Stays") (some (some (.ref (He.ga K "Stays")))),
  fun K => oexGB K (He.ga K "Stays"),
  fun K => He.eqO (PySem.W.findIn K (.ref (He.ga K "Stays")) "__setattr__") (some (some (.builtin "object.__setattr__"))),
  fun K => decide (PySem.W.subIn K (.ref (He.ga K "Stays")) (.type "BaseException") = some true),
  fun K => decide (PySem.W.typeIn K (.ref (He.ga K "Stays")) = some (.type "type")),
  fun K => PySem.W.keepIn K (.ref (He.ga K "Stays")),
  fun K => He.eqO (PySem.W.findIn K (.ref (He.ga K "Stays")) "__init__") (some (some (.ref (He.ma K (He.ga K "Stays") "__init__")))),
  fun K => decide (PySem.W.typeIn K (.ref (He.ma K (He.ga K "Stays") "__init__")) = some (.type "function")),
  fun K => He.eqO (PySem.W.findIn K (.ref (He.ga K "Stays")) "word") (some none),
  fun K => He.eqO (PySem.W.nsIn K mainGlobals "BadPlace") (some (some (.ref (He.ga K "BadPlace")))),
  fun K => oexGB K (He.ga K "BadPlace"),
  fun K => He.eqO (PySem.W.findIn K (.ref (He.ga K "BadPlace")) "__setattr__") (some (some (.builtin "object.__setattr__"))),
  fun K => decide (PySem.W.subIn K (.ref (He.ga K "BadPlace")) (.type "BaseException") = some true),
  fun K => decide (PySem.W.typeIn K (.ref (He.ga K "BadPlace")) = some (.type "type")),
  fun K => PySem.W.keepIn K (.ref (He.ga K "BadPlace")),
  fun K => He.eqO (PySem.W.findIn K (.ref (He.ga K "BadPlace")) "__init__") (some (some (.ref (He.ma K (He.ga K "BadPlace") "__init__")))),
  fun K => decide (PySem.W.typeIn K (.ref (He.ma K (He.ga K "BadPlace") "__init__")) = some (.type "function")),
  fun K => He.eqO (PySem.W.findIn K (.ref (He.ga K "BadPlace")) "word") (some none),
  fun K => He.eqO (PySem.W.nsIn K mainGlobals "Strange") (some (some (.ref (He.ga K "Strange")))),
  fun K => oexGB K (He.ga K "Strange"),
  fun K => He.eqO (PySem.W.findIn K (.ref (He.ga K "Strange")) "__setattr__") (some (some (.builtin "object.__setattr__"))),
  fun K => decide (PySem.W.subIn K (.ref (He.ga K "Strange")) (.type "BaseException") = some true),
  fun K => decide (PySem.W.typeIn K (.ref (He.ga K "Strange")) = some (.type "type")),
  fun K => PySem.W.keepIn K (.ref (He.ga K "Strange")),
  fun K => He.eqO (PySem.W.findIn K (.ref (He.ga K "Strange")) "__init__") (some (some (.ref (He.ma K (He.ga K "Strange") "__init__")))),
  fun K => decide (PySem.W.typeIn K (.ref (He.ma K (He.ga K "Strange") "__init__")) = some (.type "function")),
  fun K => He.eqO (PySem.W.findIn K (.ref (He.ga K "Strange")) "word") (some none),
  fun K => He.eqO (PySem.W.nsIn K mainGlobals "BadTerm") (some (some (.ref (He.ga K "BadTerm")))),
  fun K => oexGB K (He.ga K "BadTerm"),
  fun K => He.eqO (PySem.W.findIn K (.ref (He.ga K "BadTerm")) "__setattr__") (some (some (.builtin "object.__setattr__"))),
  fun K => decide (PySem.W.subIn K (.ref (He.ga K "BadTerm")) (.type "BaseException") = some true),
  fun K => decide (PySem.W.typeIn K (.ref (He.ga K "BadTerm")) = some (.type "type")),
  fun K => PySem.W.keepIn K (.ref (He.ga K "BadTerm")),
  fun K => He.eqO (PySem.W.findIn K (.ref (He.ga K "BadTerm")) "__init__") (some (some (.ref (He.ma K (He.ga K "BadTerm") "__init__")))),
  fun K => decide (PySem.W.typeIn K (.ref (He.ma K (He.ga K "BadTerm") "__init__")) = some (.type "function")),
  fun K => He.eqO (PySem.W.findIn K (.ref (He.ga K "BadTerm")) "word") (some none),
  fun K => He.eqO (PySem.W.nsIn K mainGlobals "NoWay") (some (some (.ref (He.ga K "NoWay")))),
  fun K => oexGB K (He.ga K "NoWay"),
  fun K => He.eqO (PySem.W.findIn K (.ref (He.ga K "NoWay")) "__setattr__") (some (some (.builtin "object.__setattr__"))),
  fun K => decide (PySem.W.subIn K (.ref (He.ga K "NoWay")) (.type "BaseException") = some true),
  fun K => decide (PySem.W.typeIn K (.ref (He.ga K "NoWay")) = some (.type "type")),
  fun K => PySem.W.keepIn K (.ref (He.ga K "NoWay")),
  fun K => He.eqO (PySem.W.findIn K (.ref (He.ga K "NoWay")) "__init__") (some (some (.ref (He.ma K (He.ga K "NoWay") "__init__")))),
  fun K => decide (PySem.W.typeIn K (.ref (He.ma K (He.ga K "NoWay") "__init__")) = some (.type "function")),
  fun K => He.eqO (PySem.W.findIn K (.ref (He.ga K "NoWay")) "word") (some none),
  fun K => He.eqO (PySem.W.nsIn K mainGlobals "Moves") (some (some (.ref (He.ga K "Moves")))),
  fun K => oexGB K (He.ga K "Moves"),
  fun K => He.eqO (PySem.W.findIn K (.ref (He.ga K "Moves")) "__setattr__") (some (some (.builtin "object.__setattr__"))),
  fun K => decide (PySem.W.subIn K (.ref (He.ga K "Moves")) (.type "BaseException") = some true),
  fun K => decide (PySem.W.typeIn K (.ref (He.ga K "Moves")) = some (.type "type")),
  fun K => PySem.W.keepIn K (.ref (He.ga K "Moves")),
  fun K => He.eqO (PySem.W.findIn K (.ref (He.ga K "Moves")) "__init__") (some (some (.ref (He.ma K (He.ga K "Moves") "__init__")))),
  fun K => decide (PySem.W.typeIn K (.ref (He.ma K (He.ga K "Moves") "__init__")) = some (.type "function")),
  fun K => He.eqO (PySem.W.findIn K (.ref (He.ga K "Moves")) "word") (some none),
  fun K => He.eqO (PySem.W.nsIn K mainGlobals "Ring") (some (some (.ref (He.ga K "Ring")))),
  fun K => oexGB K (He.ga K "Ring"),
  fun K => He.eqO (PySem.W.findIn K (.ref (He.ga K "Ring")) "__setattr__") (some (some (.builtin "object.__setattr__"))),
  fun K => decide (PySem.W.subIn K (.ref (He.ga K "Ring")) (.type "BaseException") = some true),
  fun K => decide (PySem.W.typeIn K (.ref (He.ga K "Ring")) = some (.type "type")),
  fun K => PySem.W.keepIn K (.ref (He.ga K "Ring")),
  fun K => He.eqO (PySem.W.findIn K (.ref (He.ga K "Ring")) "__init__") (some (some (.ref (He.ma K (He.ga K "Ring") "__init__")))),
  fun K => decide (PySem.W.typeIn K (.ref (He.ma K (He.ga K "Ring") "__init__")) = some (.type "function")),
  fun K => He.eqO (PySem.W.findIn K (.ref (He.ga K "Ring")) "word") (some none),
  fun K => He.eqO (PySem.W.nsIn K mainGlobals "InUse") (some (some (.ref (He.ga K "InUse")))),
  fun K => oexGB K (He.ga K "InUse"),
  fun K => He.eqO (PySem.W.findIn K (.ref (He.ga K "InUse")) "__setattr__") (some (some (.builtin "object.__setattr__"))),
  fun K => decide (PySem.W.subIn K (.ref (He.ga K "InUse")) (.type "BaseException") = some true),
  fun K => decide (PySem.W.typeIn K (.ref (He.ga K "InUse")) = some (.type "type")),
  fun K => PySem.W.keepIn K (.ref (He.ga K "InUse")),
  fun K => He.eqO (PySem.W.findIn K (.ref (He.ga K "InUse")) "__init__") (some (some (.ref (He.ma K (He.ga K "InUse") "__init__")))),
  fun K => decide (PySem.W.typeIn K (.ref (He.ma K (He.ga K "InUse") "__init__")) = some (.type "function")),
  fun K => He.eqO (PySem.W.findIn K (.ref (He.ga K "InUse")) "word") (some none),
  fun K => He.eqO (PySem.W.findIn K (.ref (He.ga K "InUse")) "name") (some none),
  fun K => He.eqO (PySem.W.nsIn K mainGlobals "BadNumber") (some (some (.ref (He.ga K "BadNumber")))),
  fun K => oexGB K (He.ga K "BadNumber"),
  fun K => He.eqO (PySem.W.findIn K (.ref (He.ga K "BadNumber")) "__setattr__") (some (some (.builtin "object.__setattr__"))),
  fun K => decide (PySem.W.subIn K (.ref (He.ga K "BadNumber")) (.type "BaseException") = some true),
  fun K => decide (PySem.W.typeIn K (.ref (He.ga K "BadNumber")) = some (.type "type")),
  fun K => PySem.W.keepIn K (.ref (He.ga K "BadNumber")),
  fun K => He.eqO (PySem.W.findIn K (.ref (He.ga K "BadNumber")) "__init__") (some (some (.ref (He.ma K (He.ga K "BadNumber") "__init__")))),
  fun K => decide (PySem.W.typeIn K (.ref (He.ma K (He.ga K "BadNumber") "__init__")) = some (.type "function")),
  fun K => He.eqO (PySem.W.findIn K (.ref (He.ga K "BadNumber")) "word") (some none),
  fun K => He.eqO (PySem.W.nsIn K mainGlobals "NoPassage") (some (some (.ref (He.ga K "NoPassage")))),
  fun K => oexGB K (He.ga K "NoPassage"),
  fun K => He.eqO (PySem.W.findIn K (.ref (He.ga K "NoPassage")) "__setattr__") (some (some (.builtin "object.__setattr__"))),
  fun K => decide (PySem.W.subIn K (.ref (He.ga K "NoPassage")) (.type "BaseException") = some true),
  fun K => decide (PySem.W.typeIn K (.ref (He.ga K "NoPassage")) = some (.type "type")),
  fun K => PySem.W.keepIn K (.ref (He.ga K "NoPassage")),
  fun K => He.eqO (PySem.W.findIn K (.ref (He.ga K "NoPassage")) "__init__") (some (some (.ref (He.ma K (He.ga K "NoPassage") "__init__")))),
  fun K => decide (PySem.W.typeIn K (.ref (He.ma K (He.ga K "NoPassage") "__init__")) = some (.type "function")),
  fun K => He.eqO (PySem.W.findIn K (.ref (He.ga K "NoPassage")) "word") (some none),
  fun K => He.eqO (PySem.W.findIn K (.ref (He.ga K "NoPassage")) "name") (some none),
  fun K => He.eqO (PySem.W.nsIn K mainGlobals "NoYard") (some (some (.ref (He.ga K "NoYard")))),
  fun K => oexGB K (He.ga K "NoYard"),
  fun K => He.eqO (PySem.W.findIn K (.ref (He.ga K "NoYard")) "__setattr__") (some (some (.builtin "object.__setattr__"))),
  fun K => decide (PySem.W.subIn K (.ref (He.ga K "NoYard")) (.type "BaseException") = some true),
  fun K => decide (PySem.W.typeIn K (.ref (He.ga K "NoYard")) = some (.type "type")),
  fun K => PySem.W.keepIn K (.ref (He.ga K "NoYard")),
  fun K => He.eqO (PySem.W.findIn K (.ref (He.ga K "NoYard")) "__init__") (some (some (.ref (He.ma K (He.ga K "NoYard") "__init__")))),
  fun K => decide (PySem.W.typeIn K (.ref (He.ma K (He.ga K "NoYard") "__init__")) = some (.type "function")),
  fun K => He.eqO (PySem.W.findIn K (.ref (He.ga K "NoYard")) "word") (some none),
  fun K => He.eqO (PySem.W.findIn K (.ref (He.ga K "NoYard")) "name") (some none),
  fun K => He.eqO (PySem.W.nsIn K mainGlobals "NoName") (some (some (.ref (He.ga K "NoName")))),
  fun K => oexGB K (He.ga K "NoName"),
  fun K => He.eqO (PySem.W.findIn K (.ref (He.ga K "NoName")) "__setattr__") (some (some (.builtin "object.__setattr__"))),
  fun K => decide (PySem.W.subIn K (.ref (He.ga K "NoName")) (.type "BaseException") = some true),
  fun K => decide (PySem.W.typeIn K (.ref (He.ga K "NoName")) = some (.type "type")),
  fun K => PySem.W.keepIn K (.ref (He.ga K "NoName")),
  fun K => He.eqO (PySem.W.findIn K (.ref (He.ga K "NoName")) "__init__") (some (some (.ref (He.ma K (He.ga K "NoName") "__init__")))),
  fun K => decide (PySem.W.typeIn K (.ref (He.ma K (He.ga K "NoName") "__init__")) = some (.type "function")),
  fun K => He.eqO (PySem.W.findIn K (.ref (He.ga K "NoName")) "word") (some none),
  fun K => He.eqO (PySem.W.findIn K (.ref (He.ga K "NoName")) "name") (some none),
  fun K => He.eqO (PySem.W.nsIn K mainGlobals "NothingLeft") (some (some (.ref (He.ga K "NothingLeft")))),
  fun K => oexGB K (He.ga K "NothingLeft"),
  fun K => He.eqO (PySem.W.findIn K (.ref (He.ga K "NothingLeft")) "__setattr__") (some (some (.builtin "object.__setattr__"))),
  fun K => decide (PySem.W.subIn K (.ref (He.ga K "NothingLeft")) (.type "BaseException") = some true),
  fun K => decide (PySem.W.typeIn K (.ref (He.ga K "NothingLeft")) = some (.type "type")),
  fun K => PySem.W.keepIn K (.ref (He.ga K "NothingLeft")),
  fun K => He.eqO (PySem.W.findIn K (.ref (He.ga K "NothingLeft")) "__init__") (some (some (.ref (He.ma K (He.ga K "NothingLeft") "__init__")))),
  fun K => decide (PySem.W.typeIn K (.ref (He.ma K (He.ga K "NothingLeft") "__init__")) = some (.type "function")),
  fun K => He.eqO (PySem.W.findIn K (.ref (He.ga K "NothingLeft")) "word") (some none),
  fun K => isEB K [("Missing", (He.ga K "Missing")), ("BadRow", (He.ga K "BadRow")), ("Tied", (He.ga K "Tied")), ("BadTurns", (He.ga K "BadTurns")), ("Full", (He.ga K "Full")), ("BadDeed", (He.ga K "BadDeed")), ("BadExchange", (He.ga K "BadExchange")), ("BadText", (He.ga K "BadText")), ("Astray", (He.ga K "Astray")), ("NoWalk", (He.ga K "NoWalk")), ("Breaks", (He.ga K "Breaks")), ("Taken", (He.ga K "Taken")), ("BadName", (He.ga K "BadName")), ("BadWay", (He.ga K "BadWay")), ("TooGreat", (He.ga K "TooGreat")), ("TooLong", (He.ga K "TooLong")), ("NotHome", (He.ga K "NotHome")), ("NotMet", (He.ga K "NotMet")), ("Stays", (He.ga K "Stays")), ("BadPlace", (He.ga K "BadPlace")), ("Strange", (He.ga K "Strange")), ("BadTerm", (He.ga K "BadTerm")), ("NoWay", (He.ga K "NoWay")), ("Moves", (He.ga K "Moves")), ("Ring", (He.ga K "Ring")), ("InUse", (He.ga K "InUse")), ("BadNumber", (He.ga K "BadNumber")), ("NoPassage", (He.ga K "NoPassage")), ("NoYard", (He.ga K "NoYard")), ("NoName", (He.ga K "NoName")), ("NothingLeft", (He.ga K "NothingLeft"))] [(.ref (He.ga K "Missing"), ["Missing", "NoName", "NoYard", "NoPassage", "NoWalk"]), (.type "ValueError", ["BadName", "Taken", "Full", "BadTurns", "Tied", "BadWay", "BadRow", "Astray", "TooLong", "TooGreat", "NotMet", "NotHome", "BadExchange", "Strange", "BadPlace", "Stays", "Moves", "NoWay", "BadTerm", "BadText", "InUse", "Ring", "Breaks", "BadDeed", "BadNumber"]), (.ref (He.ga K "HawserError"), ["BadName", "Taken", "Full", "BadTurns", "Tied", "BadWay", "BadRow", "Astray", "TooLong", "TooGreat", "NotMet", "NotHome", "BadExchange", "Strange", "BadPlace", "Stays", "Moves", "NoWay", "BadTerm", "BadText", "InUse", "Ring", "Breaks", "BadDeed", "BadNumber"]), (.type "IndexError", ["NothingLeft"]), (.type "LookupError", ["Missing", "NoName", "NoYard", "NoPassage", "NoWalk", "NothingLeft"]), (.ref (He.ga K "BadTurns"), ["BadTurns"]), (.ref (He.ga K "Full"), ["Full"]), (.ref (He.ga K "Taken"), ["Taken"]), (.ref (He.ga K "BadName"), ["BadName"]), (.ref (He.ga K "BadRow"), ["BadRow"]), (.ref (He.ga K "BadWay"), ["BadWay"]), (.ref (He.ga K "Tied"), ["Tied"]), (.ref (He.ga K "TooGreat"), ["TooGreat"]), (.ref (He.ga K "TooLong"), ["TooLong"]), (.ref (He.ga K "Astray"), ["Astray"]), (.ref (He.ga K "BadExchange"), ["BadExchange"]), (.ref (He.ga K "NotHome"), ["NotHome"]), (.ref (He.ga K "NotMet"), ["NotMet"]), (.ref (He.ga K "Stays"), ["Stays"]), (.ref (He.ga K "BadPlace"), ["BadPlace"]), (.ref (He.ga K "Strange"), ["Strange"]), (.ref (He.ga K "BadTerm"), ["BadTerm"]), (.ref (He.ga K "NoWay"), ["NoWay"]), (.ref (He.ga K "Moves"), ["Moves"]), (.ref (He.ga K "Ring"), ["Ring"]), (.ref (He.ga K "InUse"), ["InUse"]), (.ref (He.ga K "BadText"), ["BadText"]), (.ref (He.ga K "BadNumber"), ["BadNumber"]), (.ref (He.ga K "BadDeed"), ["BadDeed"]), (.ref (He.ga K "Breaks"), ["Breaks"]), (.ref (He.ga K "NoPassage"), ["NoPassage"]), (.ref (He.ga K "NoYard"), ["NoYard"]), (.ref (He.ga K "NoName"), ["NoName"]), (.ref (He.ga K "NothingLeft"), ["NothingLeft"]), (.ref (He.ga K "NoWalk"), ["NoWalk"])],
  fun K => He.eqO (PySem.W.nsIn K mainGlobals "HawserError") (some (some (.ref (He.ga K "HawserError")))),
  fun K => xfB K (He.ga K "Missing"),
  fun K => xfB K (He.ga K "BadRow"),
  fun K => xfB K (He.ga K "Tied"),
  fun K => xfB K (He.ga K "BadTurns"),
  fun K => xfB K (He.ga K "Full"),
  fun K => xfB K (He.ga K "BadDeed"),
  fun K => xfB K (He.ga K "BadExchange"),
  fun K => xfB K (He.ga K "BadText"),
  fun K => xfB K (He.ga K "Astray"),
  fun K => xfB K (He.ga K "NoWalk"),
  fun K => xfB K (He.ga K "Breaks"),
  fun K => xfB K (He.ga K "Taken"),
  fun K => xfB K (He.ga K "BadName"),
  fun K => xfB K (He.ga K "BadWay"),
  fun K => xfB K (He.ga K "TooGreat"),
  fun K => xfB K (He.ga K "TooLong"),
  fun K => xfB K (He.ga K "NotHome"),
  fun K => xfB K (He.ga K "NotMet"),
  fun K => xfB K (He.ga K "Stays"),
  fun K => xfB K (He.ga K "BadPlace"),
  fun K => xfB K (He.ga K "Strange"),
  fun K => xfB K (He.ga K "BadTerm"),
  fun K => xfB K (He.ga K "NoWay"),
  fun K => xfB K (He.ga K "Moves"),
  fun K => xfB K (He.ga K "Ring"),
  fun K => xfB K (He.ga K "InUse"),
  fun K => xfB K (He.ga K "BadNumber"),
  fun K => xfB K (He.ga K "NoPassage"),
  fun K => xfB K (He.ga K "NoYard"),
  fun K => xfB K (He.ga K "NoName"),
  fun K => xfB K (He.ga K "NothingLeft"),
  fun K => He.eqO (PySem.W.nsIn K mainGlobals "range") (some none),
  fun K => He.eqO (PySem.W.nsIn K mainGlobals "isinstance") (some none),
  fun K => He.eqO (PySem.W.nsIn K mainGlobals "ValueError") (some none),
  fun K => He.eqO (PySem.W.nsIn K mainGlobals "IndexError") (some none),
  fun K => He.eqO (PySem.W.nsIn K mainGlobals "LookupError") (some none),
  fun K => He.eqO (PySem.W.nsIn K mainGlobals "len") (some none),
  fun K => He.eqO (PySem.W.nsIn K mainGlobals "abs") (some none),
  fun K => He.eqO (PySem.W.nsIn K mainGlobals "list") (some none),
  fun K => He.eqO (PySem.W.nsIn K mainGlobals "bool") (some none),
  fun K => He.eqO (PySem.W.nsIn K mainGlobals "int") (some none),
  fun K => He.eqO (PySem.W.nsIn K mainGlobals "str") (some none),
  fun K => He.eqO (PySem.W.nsIn K mainGlobals "tuple") (some none),
  fun K => He.eqO (PySem.W.nsIn K mainGlobals "all") (some none)]
def hDefs : List He.DefD := [
  ⟨("_law_draw", none), "_law_draw", "_law_draw", defArgs s_law_draw, defBody s_law_draw, defScope s_law_draw, [], []⟩,
  ⟨("_law_flags", none), "_law_flags", "_law_flags", defArgs s_law_flags, defBody s_law_flags, defScope s_law_flags, [], []⟩,
  ⟨("_law_flow", none), "_law_flow", "_law_flow", defArgs s_law_flow, defBody s_law_flow, defScope s_law_flow, [], []⟩,
  ⟨("_law_made_error", none), "_law_made_error", "_law_made_error", defArgs s_law_made_error, defBody s_law_made_error, defScope s_law_made_error, [], []⟩,
  ⟨("_law_same", none), "_law_same", "_law_same", defArgs s_law_same, defBody s_law_same, defScope s_law_same, [], []⟩,
  ⟨("law", none), "law", "law", defArgs s_law, defBody s_law, defScope s_law, [], []⟩,
  ⟨("Missing", some "__init__"), "__init__", "Missing.__init__", defArgs s_Missing_init, defBody s_Missing_init, defScope s_Missing_init, [], []⟩,
  ⟨("BadRow", some "__init__"), "__init__", "BadRow.__init__", defArgs s_BadRow_init, defBody s_BadRow_init, defScope s_BadRow_init, [], []⟩,
  ⟨("Tied", some "__init__"), "__init__", "Tied.__init__", defArgs s_Tied_init, defBody s_Tied_init, defScope s_Tied_init, [], []⟩,
  ⟨("BadTurns", some "__init__"), "__init__", "BadTurns.__init__", defArgs s_BadTurns_init, defBody s_BadTurns_init, defScope s_BadTurns_init, [], []⟩,
  ⟨("Full", some "__init__"), "__init__", "Full.__init__", defArgs s_Full_init, defBody s_Full_init, defScope s_Full_init, [], []⟩,
  ⟨("BadDeed", some "__init__"), "__init__", "BadDeed.__init__", defArgs s_BadDeed_init, defBody s_BadDeed_init, defScope s_BadDeed_init, [], []⟩,
  ⟨("BadExchange", some "__init__"), "__init__", "BadExchange.__init__", defArgs s_BadExchange_init, defBody s_BadExchange_init, defScope s_BadExchange_init, [], []⟩,
  ⟨("BadText", some "__init__"), "__init__", "BadText.__init__", defArgs s_BadText_init, defBody s_BadText_init, defScope s_BadText_init, [], []⟩,
  ⟨("Astray", some "__init__"), "__init__", "Astray.__init__", defArgs s_Astray_init, defBody s_Astray_init, defScope s_Astray_init, [], []⟩,
  ⟨("NoWalk", some "__init__"), "__init__", "NoWalk.__init__", defArgs s_NoWalk_init, defBody s_NoWalk_init, defScope s_NoWalk_init, [], []⟩,
  ⟨("Breaks", some "__init__"), "__init__", "Breaks.__init__", defArgs s_Breaks_init, defBody s_Breaks_init, defScope s_Breaks_init, [], []⟩,
  ⟨("Taken", some "__init__"), "__init__", "Taken.__init__", defArgs s_Taken_init, defBody s_Taken_init, defScope s_Taken_init, [], []⟩,
  ⟨("BadName", some "__init__"), "__init__", "BadName.__init__", defArgs s_BadName_init, defBody s_BadName_init, defScope s_BadName_init, [], []⟩,
  ⟨("BadWay", some "__init__"), "__init__", "BadWay.__init__", defArgs s_BadWay_init, defBody s_BadWay_init, defScope s_BadWay_init, [], []⟩,
  ⟨("TooGreat", some "__init__"), "__init__", "TooGreat.__init__", defArgs s_TooGreat_init, defBody s_TooGreat_init, defScope s_TooGreat_init, [], []⟩,
  ⟨("TooLong", some "__init__"), "__init__", "TooLong.__init__", defArgs s_TooLong_init, defBody s_TooLong_init, defScope s_TooLong_init, [], []⟩,
  ⟨("NotHome", some "__init__"), "__init__", "NotHome.__init__", defArgs s_NotHome_init, defBody s_NotHome_init, defScope s_NotHome_init, [], []⟩,
  ⟨("NotMet", some "__init__"), "__init__", "NotMet.__init__", defArgs s_NotMet_init, defBody s_NotMet_init, defScope s_NotMet_init, [], []⟩,
  ⟨("Stays", some "__init__"), "__init__", "Stays.__init__", defArgs s_Stays_init, defBody s_Stays_init, defScope s_Stays_init, [], []⟩,
  ⟨("BadPlace", some "__init__"), "__init__", "BadPlace.__init__", defArgs s_BadPlace_init, defBody s_BadPlace_init, defScope s_BadPlace_init, [], []⟩,
  ⟨("Strange", some "__init__"), "__init__", "Strange.__init__", defArgs s_Strange_init, defBody s_Strange_init, defScope s_Strange_init, [], []⟩,
  ⟨("BadTerm", some "__init__"), "__init__", "BadTerm.__init__", defArgs s_BadTerm_init, defBody s_BadTerm_init, defScope s_BadTerm_init, [], []⟩,
  ⟨("NoWay", some "__init__"), "__init__", "NoWay.__init__", defArgs s_NoWay_init, defBody s_NoWay_init, defScope s_NoWay_init, [], []⟩,
  ⟨("Moves", some "__init__"), "__init__", "Moves.__init__", defArgs s_Moves_init, defBody s_Moves_init, defScope s_Moves_init, [], []⟩,
  ⟨("Ring", some "__init__"), "__init__", "Ring.__init__", defArgs s_Ring_init, defBody s_Ring_init, defScope s_Ring_init, [], []⟩,
  ⟨("InUse", some "__init__"), "__init__", "InUse.__init__", defArgs s_InUse_init, defBody s_InUse_init, defScope s_InUse_init, [], []⟩,
  ⟨("BadNumber", some "__init__"), "__init__", "BadNumber.__init__", defArgs s_BadNumber_init, defBody s_BadNumber_init, defScope s_BadNumber_init, [], []⟩,
  ⟨("NoPassage", some "__init__"), "__init__", "NoPassage.__init__", defArgs s_NoPassage_init, defBody s_NoPassage_init, defScope s_NoPassage_init, [], []⟩,
  ⟨("NoYard", some "__init__"), "__init__", "NoYard.__init__", defArgs s_NoYard_init, defBody s_NoYard_init, defScope s_NoYard_init, [], []⟩,
  ⟨("NoName", some "__init__"), "__init__", "NoName.__init__", defArgs s_NoName_init, defBody s_NoName_init, defScope s_NoName_init, [], []⟩,
  ⟨("NothingLeft", some "__init__"), "__init__", "NothingLeft.__init__", defArgs s_NothingLeft_init, defBody s_NothingLeft_init, defScope s_NothingLeft_init, [], []⟩]
def hAs : List Nat := (List.range 1500).reverse
def hNames0 : List Str := ["HawserError", "BadName", "Taken", "Full", "BadTurns", "Tied", "BadWay", "BadRow", "Astray", "TooLong", "TooGreat", "NotMet", "NotHome", "BadExchange", "Strange", "BadPlace", "Stays", "Moves", "NoWay", "BadTerm", "BadText", "InUse", "Ring", "Breaks", "BadDeed", "BadNumber", "Missing", "NoName", "NoYard", "NoPassage"]
def hNames1 : List Str := ["NoWalk", "NothingLeft", "_law_flow", "_law_draw", "_law_same", "_law_made_error", "_law_flags"]
def hNames : List Str := hNames0 ++ hNames1
abbrev hk : PySem.W.Hook := hookL hAs hTests hDefs
def hOb (s : PySem.W.SharedT) : He.AlD := obsLG hAs hTests hDefs (HandSHeadRun.getT s)
theorem hOb_eq (s : PySem.W.SharedT) : hOb s = hk.obs s.abs := obsLG_eq (HandSHeadRun.getT_eq s)
abbrev hRow : PySem.W.OpenRow := PySem.W.OpenLaw.row PySem.Challenge.rw_hawserweb_k65_refusals_apart
theorem hRun (w : World) : HandSHeadRun.RunEq hRow (PySem.W.view hRow.prog [39]) hk hOb 60000 hNames w := by
  intro os
  kernel_rfl
end Lw
set_option Elab.async false
set_option linter.all false
set_option maxRecDepth 100000
set_option maxHeartbeats 4000000
set_option autoImplicit false
namespace Dv
open PySem PySem.Spec PyProof.Rows L2
/-! ### values as data; mutable objects stand in a store -/
/-- what is known of a function object and of its code -/
abbrev Pd := Addr → Addr → HO → HO → Prop
/-- what a field of an exception holds -/
inductive Fd where
  | int (i : Int) | str (s : Str)
def Fd.v : Fd → V
  | .int i => .int i
  | .str s => .str s
inductive Dt where
  | non | bl (b : Bool) | int (i : Int) | str (s : Str) | ty (n : String) | cls (c : String)
  | tup (ds : List Dt) | lst (ds : List Dt) | fz (ds : List Dt) | ins (c : String) (ns : List Str) (ds : List Dt) | dct (ks : List Key) (ds : List Dt) | ref (i : Nat) | lam (n : Nat) (p : Pd) | k0 | exc (c : String) (fs : List (Str × Fd))
inductive Ob where
  | lst (ds : List Dt) | ins (c : String) (ns : List Str) (ds : List Dt) | dct (ks : List Key) (ds : List Dt) | dkt (ks : List (List Key)) (ds : List Dt)
abbrev Store := List Ob
abbrev Env := List (Option Dt)
/-- an exception of a class of the text -/
structure Ex where
  c : String
  ns : List Str
  ds : List Dt
inductive R (α : Type) where
  | ok (a : α) (S : Store) | err (x : Ex) (S : Store) | stuck
@[reducible] def R.bind {α β : Type} (r : R α) (f : α → Store → R β) : R β := match r with
  | .ok a S => f a S
  | .err x S => .err x S
  | .stuck => .stuck
inductive Fl where
  | nx | bk | ct | rt (d : Dt)
inductive RS where
  | ok (f : Fl) (σ : Env) (S : Store) | err (x : Ex) (σ : Env) (S : Store) | stuck
/-- what the names of classes mean -/
structure Gv where
  K : PySem.W.Frag
  cl : String → Option Addr
  /-- the exceptions of the text -/
  xl : String → Option Addr
  /-- the tables of code objects that lambdas are noted in -/
  T : List (Addr × Str)
  /-- whether tuples of the written part may be met as values -/
  kt : Bool
/-- no table -/
def NoTb (o : HO) : Prop := ∀ ps, o ≠ .tbl ps
theorem exo_nt {e C : Addr} {d : Option Addr} : NoTb (exo e C d) := fun _ => exo_tbl
theorem exd_nt {d : Addr} {fs : List (Str × V)} : NoTb (exd d fs) := fun ps z => by
  have z' : HO.ext _ = HO.tbl ps := z
  cases z'
/-- neither a table nor told by a law of its own -/
def NoTx (o : HO) : Prop := NoTb o ∧ ∀ φ, o ≠ .ext φ
/-- the addresses of the store; further ones that change meanwhile -/
structure Io where
  l : List Addr
  h : List Addr
instance : Membership Addr Io := ⟨fun io a => a ∈ io.l ∨ a ∈ io.h⟩
abbrev Io.push (io : Io) (p : Addr) : Io := ⟨io.l ++ [p], io.h⟩
abbrev Io.take (io : Io) (n : Nat) : Io := ⟨io.l.take n, io.h⟩
def KTup (K : PySem.W.Frag) (a : Addr) (xs : List V) : Prop := ∃ (o : Obj) (its : Array Value) (n : Nat), K.lookup a = some o ∧ o.cls = .type "tuple" ∧ o.data = .seq its n ∧ its.size ≤ sizeLine ∧ Vals xs its.toList
def KLst (K : PySem.W.Frag) (a : Addr) (xs : List V) : Prop := ∃ (o : Obj) (its : Array Value) (n : Nat), K.lookup a = some o ∧ o.cls = .type "list" ∧ o.dict = none ∧ o.data = .seq its n ∧ its.size ≤ sizeLine ∧ Vals xs its.toList
/-- the empty tuple of the written part -/
def K0 (K : PySem.W.Frag) (a : Addr) : Prop := ∃ (o : Obj) (n : Nat), K.lookup a = some o ∧ o.cls = .type "tuple" ∧ o.dict = none ∧ o.data = .seq #[] n
mutual
inductive RelD (G : Gv) (io : Io) (H : Hp) : Dt → V → Prop
  | non : RelD G io H .non .non
  | bl (b : Bool) : RelD G io H (.bl b) (.bl b)
  | int (i : Int) : RelD G io H (.int i) (.int i)
  | str (s : Str) : RelD G io H (.str s) (.str s)
  | ty (n : String) : RelD G io H (.ty n) (.ty n)
  | cls {c : String} {C : Addr} : G.cl c = some C → RelD G io H (.cls c) (.ref C)
  | tup {a : Addr} {ds : List Dt} {vs : List V} : (H a = some (.tup vs) ∧ a ∉ io) ∨ (KTup G.K a vs ∧ G.kt = true) → RelDs G io H ds vs → RelD G io H (.tup ds) (.ref a)
  | lst {a : Addr} {ds : List Dt} {vs : List V} : H a = some (.lst vs) → a ∉ io → RelDs G io H ds vs → RelD G io H (.lst ds) (.ref a)
  | fz {a : Addr} {ds : List Dt} {vs : List V} : (Rd H a (.lst vs) ∧ a ∉ io) ∨ KLst G.K a vs → RelDs G io H ds vs → RelD G io H (.fz ds) (.ref a)
  | ins {a C dx : Addr} {c : String} {ns : List Str} {ds : List Dt} {vs : List V} : H a = some (.ins C dx (ns.zip vs)) → a ∉ io → G.cl c = some C → ns.length = ds.length → RelDs G io H ds vs → RelD G io H (.ins c ns ds) (.ref a)
  | dct {a : Addr} {ks : List Key} {ds : List Dt} {vs : List V} : H a = some (.dK (ks.zip vs)) → a ∉ io → ks.length = ds.length → RelDs G io H ds vs → RelD G io H (.dct ks ds) (.ref a)
  | ref {a : Addr} {i : Nat} : io.l[i]? = some a → RelD G io H (.ref i) (.ref a)
  | lam {f c : Addr} {u w : HO} {n : Nat} {p : Pd} : p f c u w → (H f = some u ∧ f ∉ io ∧ NoTb u) → (H c = some w ∧ c ∉ io ∧ NoTb w) → RelD G io H (.lam n p) (.ref f)
  | k0 {a : Addr} : K0 G.K a → RelD G io H .k0 (.ref a)
  | exc {e C d : Addr} {c : String} {fs : List (Str × Fd)} : (H e = some (exo e C (some d)) ∧ e ∉ io) → (H d = some (exd d (fs.map fun p => (p.1, p.2.v))) ∧ d ∉ io) → G.xl c = some C → RelD G io H (.exc c fs) (.ref e)
inductive RelDs (G : Gv) (io : Io) (H : Hp) : List Dt → List V → Prop
  | nil : RelDs G io H [] []
  | cons {d : Dt} {v : V} {ds : List Dt} {vs : List V} : RelD G io H d v → RelDs G io H ds vs → RelDs G io H (d :: ds) (v :: vs)
end
structure Grow (io : Io) (H : Hp) (io' : Io) (H' : Hp) : Prop where
  pre : ∃ t, io' = ⟨io.l ++ t, io.h⟩
  keep : ∀ b o, H b = some o → b ∉ io.l → (nt : NoTb o := by first | assumption | (intro _ e; cases e)) → H' b = some o
  new : ∀ a, a ∈ io'.l → a ∉ io.l → ∀ o, H a = some o → ¬ NoTb o
theorem Grow.refl {io : Io} {H : Hp} : Grow io H io H := ⟨⟨[], by simp⟩, fun _ _ h _ _ => h, fun a h n => absurd h n⟩
theorem Grow.trans {io i1 i2 : Io} {H H1 H2 : Hp} (a : Grow io H i1 H1) (b : Grow i1 H1 i2 H2) : Grow io H i2 H2 := by
  obtain ⟨t, rfl⟩ := a.pre
  obtain ⟨u, rfl⟩ := b.pre
  refine ⟨⟨t ++ u, by simp⟩, fun c o h n nt => ?_, fun c h n => ?_⟩
  · exact b.keep c o (a.keep c o h n nt) (fun hm => a.new c hm n o h nt) nt
  · by_cases hm : c ∈ io.l ++ t
    · exact a.new c hm n
    · exact fun o q nt => b.new c h hm o (a.keep c o q n nt) nt
theorem Grow.notin {io i1 : Io} {H H1 : Hp} (g : Grow io H i1 H1) {a : Addr} {o : HO} (h : H a = some o) (n : a ∉ io) (nt : NoTb o := by first | assumption | (intro _ e; cases e)) : a ∉ i1 := fun hm => by
  rcases hm with hm | hm
  · exact g.new a hm (fun q => n (.inl q)) o h nt
  · obtain ⟨t, rfl⟩ := g.pre
    exact n (.inr hm)
theorem Grow.at {io i1 : Io} {H H1 : Hp} (g : Grow io H i1 H1) {i : Nat} {a : Addr} (h : io.l[i]? = some a) : i1.l[i]? = some a := by
  obtain ⟨t, rfl⟩ := g.pre
  rw [List.getElem?_append_left (List.getElem?_eq_some_iff.mp h).1]
  exact h
theorem Grow.kp {io i1 : Io} {H H1 : Hp} (g : Grow io H i1 H1) {b : Addr} {o : HO} (h : H b = some o) (n : b ∉ io) (nt : NoTb o := by first | assumption | (intro _ e; cases e)) : H1 b = some o := g.keep b o h (fun q => n (.inl q)) nt
/-- what data leans on -/
structure Base (io : Io) (H : Hp) (io' : Io) (H' : Hp) : Prop where
  at_ : ∀ (i : Nat) (a : Addr), io.l[i]? = some a → io'.l[i]? = some a
  keep : ∀ b o, H b = some o → b ∉ io → (nt : NoTb o := by first | assumption | (intro _ e; cases e)) → H' b = some o ∧ b ∉ io'
theorem Grow.base {io i1 : Io} {H H1 : Hp} (g : Grow io H i1 H1) : Base io H i1 H1 := ⟨fun _ _ h => g.at h, fun _ _ h n nt => ⟨g.kp h n nt, g.notin h n nt⟩⟩
section
variable {G : Gv} {io i1 : Io} {H H1 : Hp}
theorem Base.rd (g : Base io H i1 H1) {a : Addr} {u : HO} (h : Rd H a u) (n : a ∉ io) (nt : NoTb u := by first | assumption | (intro _ e; cases e)) : Rd H1 a u ∧ a ∉ i1 := by
  rcases h with h | ⟨o, h⟩
  · exact ⟨.inl (g.keep _ _ h n).1, (g.keep _ _ h n).2⟩
  · exact ⟨.inr ⟨o, (g.keep _ _ h n).1⟩, (g.keep _ _ h n).2⟩
mutual
theorem RelD.monoB (g : Base io H i1 H1) : ∀ {d : Dt} {v : V}, RelD G io H d v → RelD G i1 H1 d v
  | _, _, .non => .non
  | _, _, .bl b => .bl b
  | _, _, .int i => .int i
  | _, _, .str s => .str s
  | _, _, .ty n => .ty n
  | _, _, .cls h => .cls h
  | _, _, .tup h r => .tup (h.imp (fun z => g.keep _ _ z.1 z.2) id) (RelDs.monoB g r)
  | _, _, .lst h n r => .lst (g.keep _ _ h n).1 (g.keep _ _ h n).2 (RelDs.monoB g r)
  | _, _, .fz h r => .fz (h.imp (fun z => g.rd z.1 z.2) id) (RelDs.monoB g r)
  | _, _, .ins h n c l r => .ins (g.keep _ _ h n).1 (g.keep _ _ h n).2 c l (RelDs.monoB g r)
  | _, _, .dct h n l r => .dct (g.keep _ _ h n).1 (g.keep _ _ h n).2 l (RelDs.monoB g r)
  | _, _, .ref h => .ref (g.at_ _ _ h)
  | _, _, .lam h a b => .lam h ⟨(g.keep _ _ a.1 a.2.1 a.2.2).1, (g.keep _ _ a.1 a.2.1 a.2.2).2, a.2.2⟩ ⟨(g.keep _ _ b.1 b.2.1 b.2.2).1, (g.keep _ _ b.1 b.2.1 b.2.2).2, b.2.2⟩
  | _, _, .k0 h => .k0 h
  | _, _, .exc a b c => .exc (g.keep _ _ a.1 a.2 exo_nt) (g.keep _ _ b.1 b.2 exd_nt) c
theorem RelDs.monoB (g : Base io H i1 H1) : ∀ {ds : List Dt} {vs : List V}, RelDs G io H ds vs → RelDs G i1 H1 ds vs
  | _, _, .nil => .nil
  | _, _, .cons h r => .cons (RelD.monoB g h) (RelDs.monoB g r)
end
theorem RelD.mono (g : Grow io H i1 H1) {d : Dt} {v : V} (r : RelD G io H d v) : RelD G i1 H1 d v := r.monoB g.base
theorem RelDs.mono (g : Grow io H i1 H1) {ds : List Dt} {vs : List V} (r : RelDs G io H ds vs) : RelDs G i1 H1 ds vs := r.monoB g.base
theorem RelDs.length : ∀ {ds : List Dt} {vs : List V}, RelDs G io H ds vs → ds.length = vs.length
  | _, _, .nil => rfl
  | _, _, .cons _ r => by rw [List.length_cons, List.length_cons, RelDs.length r]
theorem RelDs.append : ∀ {ds es : List Dt} {vs us : List V}, RelDs G io H ds vs → RelDs G io H es us → RelDs G io H (ds ++ es) (vs ++ us)
  | _, _, _, _, .nil, s => s
  | _, _, _, _, .cons h r, s => .cons h (RelDs.append r s)
theorem RelDs.get : ∀ {ds : List Dt} {vs : List V} {i : Nat} {d : Dt}, RelDs G io H ds vs → ds[i]? = some d → ∃ v, vs[i]? = some v ∧ RelD G io H d v
  | _, _, _, _, .nil, e => by simp at e
  | _, _, 0, _, .cons h _, e => by simp at e; subst e; exact ⟨_, rfl, h⟩
  | _, _, i + 1, d, .cons _ r, e => by
    obtain ⟨u, h1, h2⟩ := RelDs.get (i := i) (d := d) r (by simpa using e)
    exact ⟨u, by simpa using h1, h2⟩
theorem RelDs.set : ∀ {ds : List Dt} {vs : List V} {d : Dt} {v : V} (i : Nat), RelD G io H d v → RelDs G io H ds vs → RelDs G io H (ds.set i d) (vs.set i v)
  | _, _, _, _, _, _, .nil => .nil
  | _, _, _, _, 0, h, .cons _ r => .cons h r
  | _, _, _, _, i + 1, h, .cons k r => .cons k (RelDs.set i h r)
theorem RelDs.take : ∀ {ds : List Dt} {vs : List V} (n : Nat), RelDs G io H ds vs → RelDs G io H (ds.take n) (vs.take n)
  | _, _, 0, _ => .nil
  | _, _, _ + 1, .nil => .nil
  | _, _, n + 1, .cons h r => .cons h (RelDs.take n r)
theorem RelDs.drop : ∀ {ds : List Dt} {vs : List V} (n : Nat), RelDs G io H ds vs → RelDs G io H (ds.drop n) (vs.drop n)
  | _, _, 0, r => r
  | _, _, _ + 1, .nil => .nil
  | _, _, n + 1, .cons _ r => RelDs.drop n r
theorem RelDs.reverse : ∀ {ds : List Dt} {vs : List V}, RelDs G io H ds vs → RelDs G io H ds.reverse vs.reverse
  | _, _, .nil => .nil
  | _, _, .cons h r => by
    rw [List.reverse_cons, List.reverse_cons]
    exact RelDs.append (RelDs.reverse r) (.cons h .nil)
end
/-- a mutable object at its address -/
inductive RelO (G : Gv) (io : Io) (H : Hp) : Ob → Addr → Prop
  | lst {a : Addr} {ds : List Dt} {vs : List V} : H a = some (.lst vs) → RelDs G io H ds vs → RelO G io H (.lst ds) a
  | ins {a C dx : Addr} {c : String} {ns : List Str} {ds : List Dt} {vs : List V} : H a = some (.ins C dx (ns.zip vs)) → G.cl c = some C → ns.length = ds.length → RelDs G io H ds vs → RelO G io H (.ins c ns ds) a
  | dct {a : Addr} {ks : List Key} {ds : List Dt} {vs : List V} : H a = some (.dK (ks.zip vs)) → ks.length = ds.length → RelDs G io H ds vs → RelO G io H (.dct ks ds) a
  | dkt {a : Addr} {ks : List (List Key)} {ds : List Dt} {vs : List V} : H a = some (.dT (ks.zip vs)) → ks.length = ds.length → RelDs G io H ds vs → RelO G io H (.dkt ks ds) a
structure StoreOk (G : Gv) (io : Io) (S : Store) (H : Hp) : Prop where
  nd : io.l.Nodup
  len : S.length = io.l.length
  dis : ∀ a ∈ io.l, a ∉ io.h
  hid : ∀ a ∈ io.h, ∃ u, H a = some u ∧ NoTx u
  ob : ∀ (i : Nat) (o : Ob) (a : Addr), S[i]? = some o → io.l[i]? = some a → RelO G io H o a
  tab : LamX.Tabs G.T H
structure RelEnv (G : Gv) (io : Io) (H : Hp) (e : Env) (σ : L2.St) : Prop where
  len : e.length = σ.length
  at_ : ∀ (i : Nat) (d : Dt), e[i]? = some (some d) → ∃ v, σ[i]? = some (some v) ∧ RelD G io H d v
theorem RelEnv.mono {G : Gv} {io i1 : Io} {H H1 : Hp} {e : Env} {σ : L2.St} (g : Grow io H i1 H1) (r : RelEnv G io H e σ) : RelEnv G i1 H1 e σ :=
  ⟨r.len, fun i d h => let ⟨v, h1, h2⟩ := r.at_ i d h; ⟨v, h1, h2.mono g⟩⟩
theorem RelEnv.set {G : Gv} {io : Io} {H : Hp} {e : Env} {σ : L2.St} {i : Nat} {d : Dt} {v : V} (r : RelEnv G io H e σ) (h : RelD G io H d v) : RelEnv G io H (e.set i (some d)) (σ.set i (some v)) := by
  refine ⟨by simpa using r.len, fun j x hj => ?_⟩
  by_cases hij : i = j
  · subst hij
    have hl : i < e.length := by
      by_cases q : i < e.length
      · exact q
      · rw [List.getElem?_eq_none (by simpa using q)] at hj
        cases hj
    rw [List.getElem?_set_self hl] at hj
    cases hj
    exact ⟨v, List.getElem?_set_self (by rw [← r.len]; exact hl), h⟩
  · rw [List.getElem?_set_ne hij] at hj ⊢
    exact r.at_ j x hj
/-- an exception of the text's classes -/
def RelX (G : Gv) (io : Io) (H : Hp) (x : Ex) (cls : Value) (dx : Option Addr) : Prop :=
  ∃ (C a : Addr) (vs : List V), cls = .ref C ∧ G.xl x.c = some C ∧ dx = some a ∧ H a = some (.xd (x.ns.zip vs)) ∧ a ∉ io ∧ x.ns.length = x.ds.length ∧ RelDs G io H x.ds vs
theorem RelX.mono {G : Gv} {io i1 : Io} {H H1 : Hp} (g : Grow io H i1 H1) {x : Ex} {cls : Value} {dx : Option Addr} (r : RelX G io H x cls dx) : RelX G i1 H1 x cls dx := by
  obtain ⟨C, a, vs, h1, h2, h3, h4, h5, h6, h7⟩ := r
  exact ⟨C, a, vs, h1, h2, h3, g.kp h4 h5, g.notin h4 h5, h6, h7.mono g⟩
/-! ### ends -/
def Out (G : Gv) (io : Io) (H : Hp) {α : Type} (wx : Ex → Io → Hp → Prop) (post : α → Store → Io → Hp → Prop) : R α → Prop
  | .ok a S => ∀ io' H', Grow io H io' H' → StoreOk G io' S H' → post a S io' H'
  | .err x S => ∀ io' H', Grow io H io' H' → StoreOk G io' S H' → wx x io' H'
  | .stuck => False
theorem Out.from {G : Gv} {io i1 : Io} {H H1 : Hp} {α : Type} {wx : Ex → Io → Hp → Prop} {post : α → Store → Io → Hp → Prop} {r : R α} (g : Grow io H i1 H1) (h : Out G io H wx post r) : Out G i1 H1 wx post r := by
  cases r with
  | ok a S => exact fun io' H' g' s => h io' H' (g.trans g') s
  | err x S => exact fun io' H' g' s => h io' H' (g.trans g') s
  | stuck => exact h
theorem Out.bind {G : Gv} {io : Io} {H : Hp} {α β : Type} {wx : Ex → Io → Hp → Prop} {post : β → Store → Io → Hp → Prop} {r : R α} {f : α → Store → R β} (h : Out G io H wx post (r.bind f)) :
    Out G io H wx (fun a S io' H' => Out G io' H' wx post (f a S)) r := by
  cases r with
  | ok a S => exact fun io' H' g s => Out.from g h
  | err x S => exact h
  | stuck => exact h
theorem Out.imp {G : Gv} {io : Io} {H : Hp} {α : Type} {wx wx' : Ex → Io → Hp → Prop} {post post' : α → Store → Io → Hp → Prop} {r : R α} (h : Out G io H wx post r)
    (hx : ∀ x io' H', Grow io H io' H' → wx x io' H' → wx' x io' H') (hp : ∀ a S io' H', Grow io H io' H' → StoreOk G io' S H' → post a S io' H' → post' a S io' H') : Out G io H wx' post' r := by
  cases r with
  | ok a S => exact fun io' H' g s => hp _ _ _ _ g s (h io' H' g s)
  | err x S => exact fun io' H' g s => hx _ _ _ g (h io' H' g s)
  | stuck => exact h
def OutS (G : Gv) (io : Io) (H : Hp) (wx : Ex → Env → Io → Hp → Prop) (post : Fl → Env → Store → Io → Hp → Prop) : RS → Prop
  | .ok f e S => ∀ io' H', Grow io H io' H' → StoreOk G io' S H' → post f e S io' H'
  | .err x e S => ∀ io' H', Grow io H io' H' → StoreOk G io' S H' → wx x e io' H'
  | .stuck => False
theorem OutS.from {G : Gv} {io i1 : Io} {H H1 : Hp} {wx : Ex → Env → Io → Hp → Prop} {post : Fl → Env → Store → Io → Hp → Prop} {r : RS} (g : Grow io H i1 H1) (h : OutS G io H wx post r) : OutS G i1 H1 wx post r := by
  cases r with
  | ok a e S => exact fun io' H' g' s => h io' H' (g.trans g') s
  | err x e S => exact fun io' H' g' s => h io' H' (g.trans g') s
  | stuck => exact h
/-- the wish for an exception at the slots σ -/
abbrev wxE (G : Gv) (W : WX) (σ : L2.St) : Ex → Io → Hp → Prop := fun x io' H' => ∀ cls dx, RelX G io' H' x cls dx → W cls dx σ H'
abbrev poE (G : Gv) (Q : VK) : Dt → Store → Io → Hp → Prop := fun d _ io' H' => ∀ v, RelD G io' H' d v → Q v H'
abbrev poA (G : Gv) (Q : List V → Hp → Prop) : List Dt → Store → Io → Hp → Prop := fun ds _ io' H' => ∀ vs, RelDs G io' H' ds vs → Q vs H'
abbrev poT (Q : Bool → Hp → Prop) : Bool → Store → Io → Hp → Prop := fun b _ _ H' => Q b H'
def SimE (G : Gv) (W : WX) (t : TE) (m : Env → Store → R Dt) : Prop := ∀ io H S e σ Q, StoreOk G io S H → RelEnv G io H e σ → Out G io H (wxE G W σ) (poE G Q) (m e S) → t σ H Q
def SimA (G : Gv) (W : WX) (t : TA) (m : Env → Store → R (List Dt)) : Prop := ∀ io H S e σ Q, StoreOk G io S H → RelEnv G io H e σ → Out G io H (wxE G W σ) (poA G Q) (m e S) → t σ H Q
def SimT (G : Gv) (W : WX) (t : TT) (m : Env → Store → R Bool) : Prop := ∀ io H S e σ Q, StoreOk G io S H → RelEnv G io H e σ → Out G io H (wxE G W σ) (poT Q) (m e S) → t σ H Q
abbrev wxS (G : Gv) (W : WX) : Ex → Env → Io → Hp → Prop := fun x e io' H' => ∀ σ cls dx, RelEnv G io' H' e σ → RelX G io' H' x cls dx → W cls dx σ H'
def poF (G : Gv) (D : Ends) : Fl → Env → Store → Io → Hp → Prop
  | .nx, e, _, io, H => ∀ σ, RelEnv G io H e σ → D.nx σ H
  | .bk, e, _, io, H => ∀ σ, RelEnv G io H e σ → D.bk σ H
  | .ct, e, _, io, H => ∀ σ, RelEnv G io H e σ → D.ct σ H
  | .rt d, _, _, io, H => ∀ v, RelD G io H d v → D.rt v H
def SimS (G : Gv) (W : WX) (t : TS) (m : Env → Store → RS) : Prop := ∀ io H S e σ D, StoreOk G io S H → RelEnv G io H e σ → OutS G io H (wxS G W) (poF G D) (m e S) → t D σ H
/-! ### judgements -/
def DE (G : Gv) (X : Cx) (W : WX) (e : Expr) (m : Env → Store → R Dt) : Prop := ∃ t, PE X e t ∧ SimE G W t m
def DA (G : Gv) (X : Cx) (W : WX) (e : List Expr) (m : Env → Store → R (List Dt)) : Prop := ∃ t, PA X e t ∧ SimA G W t m
def DT (G : Gv) (X : Cx) (W : WX) (e : Expr) (m : Env → Store → R Bool) : Prop := ∃ t, PT X e t ∧ SimT G W t m
def DW (G : Gv) (X : Cx) (W : WX) (e : Expr) (m : Env → Store → R Bool) : Prop := ∃ t, PW X e t ∧ SimT G W t m
def DS (G : Gv) (X : Cx) (W : WX) (s : Stmt) (m : Env → Store → RS) : Prop := ∃ t, PS X s t ∧ SimS G W t m
def DB (G : Gv) (X : Cx) (W : WX) (s : List Stmt) (m : Env → Store → RS) : Prop := ∃ t, PSs X s t ∧ SimS G W t m
/-! ### names and constants -/
@[reducible] def mVar (i : Nat) : Env → Store → R Dt := fun e S => match e[i]? with
  | some (some d) => .ok d S
  | _ => .stuck
@[reducible] def mC (d : Dt) : Env → Store → R Dt := fun _ S => .ok d S
section
variable {G : Gv} {X : Cx} {W : WX}
theorem simE_var (i : Nat) : SimE G W (tVar i) (mVar i) := by
  intro io H S e σ Q so re h
  unfold mVar at h
  split at h
  · rename_i d hd
    obtain ⟨v, h1, h2⟩ := re.at_ i d hd
    exact ⟨v, h1, h io H Grow.refl so v h2⟩
  · exact h.elim
theorem simE_c {d : Dt} {v : V} (hr : ∀ io H, RelD G io H d v) : SimE G W (tC v) (mC d) := by
  intro io H S e σ Q so re h
  exact h io H Grow.refl so v (hr io H)
theorem de_var (i : Nat) {x : Str} {pos : Pos} (hN : X.N[i]? = some x := by rfl) (hv : Vis X.env.scope x := by first | exact Or.inl rfl | exact Or.inr (Or.inl rfl) | exact Or.inr (Or.inr rfl)) (hd : (x == ("__debug__" : Str)) = false := by decide)
    (hcd : (x == ("__classdict__" : Str)) = false := by decide) : DE G X W (.Name x pos) (mVar i) := ⟨_, pe_var hN hv hd hcd, simE_var i⟩
theorem de_int {i : Int} {j pos} : DE G X W (.Constant (.int i) j pos) (mC (.int i)) := ⟨_, pe_int, simE_c fun _ _ => .int i⟩
theorem de_bl {b j pos} : DE G X W (.Constant (.bool b) j pos) (mC (.bl b)) := ⟨_, pe_bl, simE_c fun _ _ => .bl b⟩
theorem de_non {j pos} : DE G X W (.Constant .none j pos) (mC .non) := ⟨_, pe_non, simE_c fun _ _ => .non⟩
theorem de_str {x j pos} : DE G X W (.Constant (.str x) j pos) (mC (.str x)) := ⟨_, pe_str, simE_c fun _ _ => .str x⟩
theorem de_ty {x : Str} {n : String} {pos : Pos} (hg : Gl X x) (hm : X.mg x = none) (hv : bootBuiltins x = some (.type n)) (hn : x ≠ "__name__" := by decide) (hd : (x == ("__debug__" : Str)) = false := by decide) : DE G X W (.Name x pos) (mC (.ty n)) :=
  ⟨_, pe_bltn (v := .ty n) hg hm hv rfl hn hd, simE_c fun _ _ => .ty n⟩
end
/-! ### argument lists -/
@[reducible] def mNil : Env → Store → R (List Dt) := fun _ S => .ok [] S
@[reducible] def mCons (ma : Env → Store → R Dt) (mr : Env → Store → R (List Dt)) : Env → Store → R (List Dt) := fun e S => (ma e S).bind fun d S1 => (mr e S1).bind fun ds S2 => .ok (d :: ds) S2
section
variable {G : Gv} {X : Cx} {W : WX} {e : Expr} {es : List Expr} {m : Env → Store → R Dt} {ms : Env → Store → R (List Dt)}
theorem da_nil : DA G X W [] mNil := ⟨_, pa_nil, fun io H S e σ Q so re h => h io H Grow.refl so [] .nil⟩
theorem da_cons (ha : DE G X W e m) (hr : DA G X W es ms) (hs : starEach (e :: es) X.env = (false, eval e X.env) :: starEach es X.env := by rfl) : DA G X W (e :: es) (mCons m ms) := by
  obtain ⟨t, p, q⟩ := ha
  obtain ⟨u, p', q'⟩ := hr
  refine ⟨_, pa_cons p p' hs, fun io H S e σ Q so re h => ?_⟩
  refine q io H S e σ _ so re (h.bind.imp (fun _ _ _ _ z => z) fun d S1 i1 H1 g1 s1 k1 v r => ?_)
  refine q' i1 H1 S1 e σ _ s1 (re.mono g1) (k1.bind.imp (fun _ _ _ _ z => z) fun ds S2 i2 H2 g2 s2 k2 vs rs => ?_)
  exact k2 i2 H2 Grow.refl s2 _ (.cons (r.mono g2) rs)
end
/-! ### operations on values -/
/-- a two-place operation -/
def SimO (G : Gv) (r : R2) (m : Dt → Dt → Store → R Dt) : Prop := ∀ io H S x y dx dy Q, StoreOk G io S H → RelD G io H dx x → RelD G io H dy y → Out G io H (fun _ _ _ => False) (poE G Q) (m dx dy S) → r x y H Q
@[reducible] def mOp (m : Dt → Dt → Store → R Dt) (ma mb : Env → Store → R Dt) : Env → Store → R Dt := fun e S => (ma e S).bind fun x S1 => (mb e S1).bind fun y S2 => m x y S2
def NoErr {α : Type} : R α → Prop
  | .err _ _ => False
  | _ => True
theorem Out.noErr {G : Gv} {io : Io} {H : Hp} {α : Type} {wx wx' : Ex → Io → Hp → Prop} {post : α → Store → Io → Hp → Prop} {r : R α} (n : NoErr r) (h : Out G io H wx post r) : Out G io H wx' post r := by
  cases r with
  | ok a S => exact h
  | err x S => exact n.elim
  | stuck => exact h
def DO (G : Gv) (X : Cx) (f : Value → Value → Sem Value) (m : Dt → Dt → Store → R Dt) : Prop := ∃ r, OpR X f r ∧ SimO G r m ∧ ∀ x y S, NoErr (m x y S)
section
variable {G : Gv} {X : Cx} {W : WX} {a b : Expr} {ma mb : Env → Store → R Dt}
theorem simE_op {r : R2} {ta tb : TE} {m : Dt → Dt → Store → R Dt} (ho : SimO G r m) (hn : ∀ x y S, NoErr (m x y S)) (ha : SimE G W ta ma) (hb : SimE G W tb mb) : SimE G W (tOp r ta tb) (mOp m ma mb) := by
  intro io H S e σ Q so re h
  refine ha io H S e σ _ so re (h.bind.imp (fun _ _ _ _ z => z) fun d S1 i1 H1 g1 s1 k1 v r1 => ?_)
  refine hb i1 H1 S1 e σ _ s1 (re.mono g1) (k1.bind.imp (fun _ _ _ _ z => z) fun d' S2 i2 H2 g2 s2 k2 v' r2 => ?_)
  exact ho i2 H2 S2 v v' d d' Q s2 (r1.mono g2) r2 (k2.noErr (hn _ _ _))
theorem de_op {op : Operator} {pos : Pos} {m : Dt → Dt → Store → R Dt} (ho : DO G X (binaryOp op) m) (ha : DE G X W a ma) (hb : DE G X W b mb) : DE G X W (.BinOp a op b pos) (mOp m ma mb) := by
  obtain ⟨r, p, q, n⟩ := ho
  obtain ⟨ta, pa, qa⟩ := ha
  obtain ⟨tb, pb, qb⟩ := hb
  exact ⟨_, pe_op p pa pb, simE_op q n qa qb⟩
theorem de_cmp {op : CmpOp} {pos : Pos} {m : Dt → Dt → Store → R Dt} (ho : DO G X (compareOp op) m) (ha : DE G X W a ma) (hb : DE G X W b mb) (hm : behindInMarks op b = false := by first | exact nomark _ | rfl) : DE G X W (.Compare a [op] [b] pos) (mOp m ma mb) := by
  obtain ⟨r, p, q, n⟩ := ho
  obtain ⟨ta, pa, qa⟩ := ha
  obtain ⟨tb, pb, qb⟩ := hb
  exact ⟨_, pe_cmpR p pa pb hm, simE_op q n qa qb⟩
/-- the truth of an answer that is a bool -/
@[reducible] def mB (m : Env → Store → R Dt) : Env → Store → R Bool := fun e S => (m e S).bind fun d S1 => match d with
  | .bl b => .ok b S1
  | _ => .stuck
theorem simT_b {t : TE} {m : Env → Store → R Dt} (h : SimE G W t m) : SimT G W (fun σ H Q => t σ H fun x H1 => ∃ c, x = .bl c ∧ Q c H1) (mB m) := by
  intro io H S e σ Q so re k
  refine h io H S e σ _ so re (k.bind.imp (fun _ _ _ _ z => z) fun d S1 i1 H1 g1 s1 k1 v r => ?_)
  cases r with
  | bl b => exact ⟨b, rfl, k1 i1 H1 Grow.refl s1⟩
  | _ => exact k1.elim
theorem dt_cmp {op : CmpOp} {pos : Pos} {m : Dt → Dt → Store → R Dt} (ho : DO G X (compareOp op) m) (ha : DE G X W a ma) (hb : DE G X W b mb) (hm : behindInMarks op b = false := by first | exact nomark _ | rfl) : DT G X W (.Compare a [op] [b] pos) (mB (mOp m ma mb)) := by
  obtain ⟨r, p, q, n⟩ := ho
  obtain ⟨ta, pa, qa⟩ := ha
  obtain ⟨tb, pb, qb⟩ := hb
  exact ⟨_, pt_cmpR p pa pb hm, simT_b (simE_op q n qa qb)⟩
end
end Dv
set_option Elab.async false
set_option linter.all false
set_option maxRecDepth 100000
set_option maxHeartbeats 4000000
set_option autoImplicit false
namespace Dv
open PySem PySem.Spec PyProof.Rows L2
/-! ### the store under extension -/
def ExtH (H H' : Hp) : Prop := ∀ b o, H b = some o → H' b = some o
theorem ExtH.new {H : Hp} {p : Addr} {o : HO} (h : H p = none) : ExtH H (upd H p o) := fun a u e => by
  rw [upd_ne (ne_of_none e h)]
  exact e
theorem ExtH.grow {io : Io} {H H' : Hp} (e : ExtH H H') : Grow io H io H' := ⟨⟨[], by simp⟩, fun b o h _ _ => e b o h, fun a h n => absurd h n⟩
/-- neither a table nor a code object -/
def PlainO (o : HO) : Prop := NoTb o ∧ ∀ f, o ≠ .ext f
theorem tabs_upd {T : List (Addr × Str)} {H : Hp} {p : Addr} {u : HO} (t : LamX.Tabs T H) (hp : ∀ o, H p = some o → PlainO o) : LamX.Tabs T (upd H p u) := fun x hx => by
  obtain ⟨ps, h1, h2, h3⟩ := t x hx
  have n1 : x.1 ≠ p := fun e => (hp _ (e ▸ h1)).1 ps rfl
  refine ⟨ps, by rw [upd_ne n1]; exact h1, h2, fun pos cv hc => ?_⟩
  obtain ⟨c, e1, e2⟩ := h3 pos cv hc
  have n2 : c ≠ p := fun e => (hp _ (e ▸ e2)).2 _ rfl
  exact ⟨c, e1, by rw [upd_ne n2]; exact e2⟩
theorem pl_none {H : Hp} {p : Addr} (h : H p = none) : ∀ o, H p = some o → PlainO o := fun o e => by
  rw [h] at e
  cases e
theorem pl_some {H : Hp} {p : Addr} {u : HO} (h : H p = some u) (hu : PlainO u := by exact ⟨(fun _ e => by cases e), (fun _ e => by cases e)⟩) : ∀ o, H p = some o → PlainO o := fun o e => by
  rw [h] at e
  cases e
  exact hu
section
variable {G : Gv} {io : Io} {H H' : Hp} {S : Store}
theorem RelO.there {o : Ob} {a : Addr} (r : RelO G io H o a) : ∃ u, H a = some u := by
  cases r with
  | lst h _ => exact ⟨_, h⟩
  | ins h _ _ _ => exact ⟨_, h⟩
  | dct h _ _ => exact ⟨_, h⟩
  | dkt h _ _ => exact ⟨_, h⟩
theorem RelO.pl {o : Ob} {a : Addr} (r : RelO G io H o a) : ∀ u, H a = some u → PlainO u := by
  cases r with
  | lst h _ => exact pl_some h
  | ins h _ _ _ => exact pl_some h
  | dct h _ _ => exact pl_some h
  | dkt h _ _ => exact pl_some h
theorem RelO.ext (e : ExtH H H') {o : Ob} {a : Addr} (r : RelO G io H o a) : RelO G io H' o a := by
  cases r with
  | lst h k => exact .lst (e _ _ h) (k.mono e.grow)
  | ins h c l k => exact .ins (e _ _ h) c l (k.mono e.grow)
  | dct h l k => exact .dct (e _ _ h) l (k.mono e.grow)
  | dkt h l k => exact .dkt (e _ _ h) l (k.mono e.grow)
theorem StoreOk.ext (e : ExtH H H') (so : StoreOk G io S H) : StoreOk G io S H' := ⟨so.nd, so.len, so.dis, fun a h => let ⟨u, z, nt⟩ := so.hid a h; ⟨u, e _ _ z, nt⟩, fun i o a h1 h2 => (so.ob i o a h1 h2).ext e, so.tab.ext e⟩
theorem StoreOk.at_ (so : StoreOk G io S H) {i : Nat} {o : Ob} (h : S[i]? = some o) : ∃ a, io.l[i]? = some a ∧ RelO G io H o a := by
  have hl : i < io.l.length := by
    rw [← so.len]
    exact (List.getElem?_eq_some_iff.mp h).1
  exact ⟨io.l[i], by simp [hl], so.ob i o _ h (by simp [hl])⟩
theorem StoreOk.there (so : StoreOk G io S H) {a : Addr} (h : a ∈ io) : ∃ u, H a = some u := by
  rcases h with h | h
  · obtain ⟨i, hl, e⟩ := List.getElem_of_mem h
    have hs : i < S.length := by rw [so.len]; exact hl
    exact (so.ob i S[i] a (by simp [hs]) (by simp [hl, e])).there
  · obtain ⟨u, e, _⟩ := so.hid a h
    exact ⟨u, e⟩
theorem StoreOk.fresh (so : StoreOk G io S H) {p : Addr} (h : H p = none) : p ∉ io := fun hm => by
  obtain ⟨u, e⟩ := so.there hm
  rw [h] at e
  cases e
theorem push_grow {p : Addr} {u : HO} (h : H p = none) : Grow io H (io.push p) (upd H p u) := by
  refine ⟨⟨[p], rfl⟩, fun b o h' _ _ => ExtH.new h b o h', fun a ha n => ?_⟩
  rcases List.mem_append.mp ha with z | z
  · exact absurd z n
  · rw [List.mem_singleton] at z
    rw [z]
    exact fun o e => by rw [h] at e; cases e
/-- a new object of the store -/
theorem StoreOk.push (so : StoreOk G io S H) {p : Addr} {o : Ob} {u : HO} (h : H p = none) (r : RelO G (io.push p) (upd H p u) o p) :
    Grow io H (io.push p) (upd H p u) ∧ StoreOk G (io.push p) (S ++ [o]) (upd H p u) := by
  have g : Grow io H (io.push p) (upd H p u) := push_grow h
  refine ⟨g, ?_, by simp [so.len], fun a ha => ?_, fun a ha => ?_, fun i ob a h1 h2 => ?_, tabs_upd so.tab (pl_none h)⟩
  · rw [List.nodup_append]
    refine ⟨so.nd, by simp, fun a ha b hb => ?_⟩
    rw [List.mem_singleton] at hb
    rw [hb]
    intro z
    rw [z] at ha
    exact so.fresh h (.inl ha)
  · rcases List.mem_append.mp ha with z | z
    · exact so.dis a z
    · rw [List.mem_singleton] at z
      rw [z]
      exact fun q => so.fresh h (.inr q)
  · obtain ⟨v, z, nt⟩ := so.hid a ha
    exact ⟨v, ExtH.new h _ _ z, nt⟩
  · by_cases hi : i < S.length
    · rw [List.getElem?_append_left hi] at h1
      rw [List.getElem?_append_left (by rw [← so.len]; exact hi)] at h2
      have q := so.ob i ob a h1 h2
      have e := ExtH.new (o := u) h
      cases q with
      | lst h k => exact .lst (e _ _ h) (k.mono g)
      | ins h c l k => exact .ins (e _ _ h) c l (k.mono g)
      | dct h l k => exact .dct (e _ _ h) l (k.mono g)
      | dkt h l k => exact .dkt (e _ _ h) l (k.mono g)
    · have hs : i = S.length := by
        have := (List.getElem?_eq_some_iff.mp h1).1
        rw [List.length_append, List.length_singleton] at this
        omega
      subst hs
      rw [List.getElem?_append_right (Nat.le_refl _)] at h1
      rw [so.len, List.getElem?_append_right (Nat.le_refl _)] at h2
      simp at h1 h2
      subst h1 h2
      exact r
/-- an object of the store is written -/
theorem StoreOk.write (so : StoreOk G io S H) {i : Nat} {p : Addr} {o : Ob} {u : HO} (hp : io.l[i]? = some p) (r : RelO G io (upd H p u) o p) : Grow io H io (upd H p u) ∧ StoreOk G io (S.set i o) (upd H p u) := by
  have hm : p ∈ io.l := List.mem_of_getElem? hp
  have hpl : ∀ o, H p = some o → PlainO o := by
    obtain ⟨hl, e⟩ := List.getElem?_eq_some_iff.mp hp
    have hs : i < S.length := by rw [so.len]; exact hl
    exact (so.ob i S[i] p (by simp [hs]) hp).pl
  have g : Grow io H io (upd H p u) := ⟨⟨[], by simp⟩, fun b o h n _ => by
    rw [upd_ne (fun z => n (by rw [z]; exact hm))]
    exact h, fun a h n => absurd h n⟩
  refine ⟨g, so.nd, by simp [so.len], so.dis, fun a ha => ?_, fun j ob a h1 h2 => ?_, tabs_upd so.tab hpl⟩
  · by_cases hb : a = p
    · exact absurd (hb ▸ ha) (so.dis p hm)
    · rw [upd_ne hb]
      exact so.hid a ha
  by_cases hj : i = j
  · subst hj
    have hl := (List.getElem?_eq_some_iff.mp hp).1
    rw [List.getElem?_set_self (by rw [so.len]; exact hl)] at h1
    rw [hp] at h2
    cases h1
    cases h2
    exact r
  · rw [List.getElem?_set_ne hj] at h1
    have ne : a ≠ p := fun z => by
      obtain ⟨l1, e1⟩ := List.getElem?_eq_some_iff.mp h2
      obtain ⟨l2, e2⟩ := List.getElem?_eq_some_iff.mp hp
      exact hj ((List.getElem_inj so.nd).mp (e2.trans (z.symm.trans e1.symm)))
    have q := so.ob j ob a h1 h2
    cases q with
    | lst h k => exact .lst (by rw [upd_ne ne]; exact h) (k.mono g)
    | ins h c l k => exact .ins (by rw [upd_ne ne]; exact h) c l (k.mono g)
    | dct h l k => exact .dct (by rw [upd_ne ne]; exact h) l (k.mono g)
    | dkt h l k => exact .dkt (by rw [upd_ne ne]; exact h) l (k.mono g)
end
/-! ### lists and tuples that are read -/
@[reducible] def asL (S : Store) : Dt → Option (List Dt)
  | .lst ds => some ds
  | .fz ds => some ds
  | .ref i => match S[i]? with
    | some (.lst ds) => some ds
    | _ => none
  | _ => none
@[reducible] def asP (S : Store) : Dt → Option (List Dt)
  | .lst ds => some ds
  | .ref i => match S[i]? with
    | some (.lst ds) => some ds
    | _ => none
  | _ => none
@[reducible] def asT : Dt → Option (List Dt)
  | .tup ds => some ds
  | _ => none
section
variable {G : Gv} {io : Io} {H H' : Hp} {S : Store} {d : Dt} {ds : List Dt} {v : V}
theorem asP_ok (so : StoreOk G io S H) (r : RelD G io H d v) (h : asP S d = some ds) : ∃ a vs, v = .ref a ∧ H a = some (.lst vs) ∧ RelDs G io H ds vs := by
  cases r with
  | lst e n k => cases h; exact ⟨_, _, rfl, e, k⟩
  | @ref a i e =>
    simp only [asP] at h
    split at h
    · rename_i xs hs
      cases h
      obtain ⟨a', h1, h2⟩ := so.at_ hs
      rw [e] at h1
      cases h1
      cases h2 with
      | lst h3 h4 => exact ⟨_, _, rfl, h3, h4⟩
    · cases h
  | _ => cases h
theorem asL_ok (so : StoreOk G io S H) (r : RelD G io H d v) (h : asL S d = some ds) : ∃ a vs, v = .ref a ∧ SqL G.K H a vs ∧ RelDs G io H ds vs := by
  cases r with
  | lst e n k => cases h; exact ⟨_, _, rfl, .inl (.inl e), k⟩
  | fz e k =>
    cases h
    refine ⟨_, _, rfl, ?_, k⟩
    rcases e with ⟨e, _⟩ | e
    · exact .inl e
    · exact .inr e
  | @ref a i e =>
    obtain ⟨a', vs, h1, h2, h3⟩ := asP_ok (d := .ref i) (ds := ds) so (.ref e) (by simpa only [asP, asL] using h)
    exact ⟨a', vs, h1, .inl (.inl h2), h3⟩
  | _ => cases h
theorem asT_ok (r : RelD G io H d v) (h : asT d = some ds) : ∃ a vs, v = .ref a ∧ SqT G.K H a vs ∧ RelDs G io H ds vs := by
  cases r with
  | tup e k =>
    cases h
    refine ⟨_, _, rfl, ?_, k⟩
    rcases e with ⟨e, _⟩ | e
    · exact .inl (.inl e)
    · exact .inr e.1
  | _ => cases h
/-- a new tuple, a new list by value -/
theorem new_tup (so : StoreOk G io S H) {ds : List Dt} {vs : List V} (r : RelDs G io H ds vs) {p : Addr} (h : H p = none) :
    Grow io H io (upd H p (.tup vs)) ∧ StoreOk G io S (upd H p (.tup vs)) ∧ RelD G io (upd H p (.tup vs)) (.tup ds) (.ref p) :=
  ⟨(ExtH.new h).grow, so.ext (ExtH.new h), .tup (.inl ⟨upd_same, so.fresh h⟩) (r.mono (ExtH.new h).grow)⟩
theorem new_lst (so : StoreOk G io S H) {ds : List Dt} {vs : List V} (r : RelDs G io H ds vs) {p : Addr} (h : H p = none) :
    Grow io H io (upd H p (.lst vs)) ∧ StoreOk G io S (upd H p (.lst vs)) ∧ RelD G io (upd H p (.lst vs)) (.lst ds) (.ref p) :=
  ⟨(ExtH.new h).grow, so.ext (ExtH.new h), .lst upd_same (so.fresh h) (r.mono (ExtH.new h).grow)⟩
theorem out_tup {wx : Ex → Io → Hp → Prop} {Q : VK} (so : StoreOk G io S H) {ds : List Dt} {vs : List V} (r : RelDs G io H ds vs) (h : Out G io H wx (poE G Q) (.ok (.tup ds) S)) {p : Addr} (hp : H p = none) : Q (.ref p) (upd H p (.tup vs)) := by
  obtain ⟨a, b, c⟩ := new_tup so r hp
  exact h io _ a b _ c
theorem out_lst {wx : Ex → Io → Hp → Prop} {Q : VK} (so : StoreOk G io S H) {ds : List Dt} {vs : List V} (r : RelDs G io H ds vs) (h : Out G io H wx (poE G Q) (.ok (.lst ds) S)) {p : Addr} (hp : H p = none) : Q (.ref p) (upd H p (.lst vs)) := by
  obtain ⟨a, b, c⟩ := new_lst so r hp
  exact h io _ a b _ c
theorem out_ref {wx : Ex → Io → Hp → Prop} {Q : VK} (so : StoreOk G io S H) {ds : List Dt} {vs : List V} (r : RelDs G io H ds vs) (h : Out G io H wx (poE G Q) (.ok (.ref S.length) (S ++ [.lst ds]))) {p : Addr} (hp : H p = none) : Q (.ref p) (upd H p (.lst vs)) := by
  obtain ⟨a, b⟩ := so.push (o := .lst ds) (u := .lst vs) hp (.lst upd_same (r.mono (push_grow hp)))
  exact h _ _ a b _ (.ref (by rw [so.len]; simp))
end
end Dv
set_option Elab.async false
set_option linter.all false
set_option maxRecDepth 100000
set_option maxHeartbeats 4000000
set_option autoImplicit false
namespace Dv
open PySem PySem.Spec PyProof.Rows L2
def mAdd (x y : Dt) (S : Store) : R Dt := match x, y with
  | .int i, .int j => .ok (.int (i + j)) S
  | .str a, .str b => if a.length + b.length ≤ 100000 then .ok (.str (a ++ b)) S else .stuck
  | .tup xs, .tup ys => if xs.length + ys.length ≤ 1000000 then .ok (.tup (xs ++ ys)) S else .stuck
  | x, y => match asP S x, asP S y with
    | some xs, some ys => if xs.length + ys.length ≤ 1000000 then .ok (.lst (xs ++ ys)) S else .stuck
    | _, _ => .stuck
def mSub (x y : Dt) (S : Store) : R Dt := match x, y with
  | .int i, .int j => .ok (.int (i - j)) S
  | _, _ => .stuck
/-- small enough for * -/
def mulOk (i j : Int) : Bool := decide (i.natAbs < 2 ^ 64) || decide (j.natAbs < 2 ^ 64) || decide (i.natAbs.log2 + j.natAbs.log2 < 1000000)
def mMul (x y : Dt) (S : Store) : R Dt := match x, y with
  | .int i, .int j => if mulOk i j = true then .ok (.int (i * j)) S else .stuck
  | x, .int k => match asP S x with
    | some xs => if -100000 ≤ k ∧ k ≤ 100000 ∧ xs.length ≤ 100 then .ok (.lst (List.replicate k.toNat xs).flatten) S else .stuck
    | none => .stuck
  | _, _ => .stuck
def divOk (j : Int) : Bool := decide (j ≠ 0) && decide (j.natAbs.log2 < 9000)
def mDiv (x y : Dt) (S : Store) : R Dt := match x, y with
  | .int i, .int j => if divOk j = true then .ok (.int (i.fdiv j)) S else .stuck
  | _, _ => .stuck
def mMod (x y : Dt) (S : Store) : R Dt := match x, y with
  | .int i, .int j => if j ≠ 0 then .ok (.int (i.fmod j)) S else .stuck
  | _, _ => .stuck
def powOk (i j : Int) : Bool := decide (0 ≤ j ∧ j ≤ 1000000 ∧ i.natAbs < 2 ^ 64)
def mPow (x y : Dt) (S : Store) : R Dt := match x, y with
  | .int i, .int j => if powOk i j = true then .ok (.int (i ^ j.toNat)) S else .stuck
  | _, _ => .stuck
def mCmpI (p : Int → Int → Bool) (x y : Dt) (S : Store) : R Dt := match x, y with
  | .int i, .int j => .ok (.bl (p i j)) S
  | _, _ => .stuck
def mLt : Dt → Dt → Store → R Dt := mCmpI fun i j => decide (i < j)
def mLe : Dt → Dt → Store → R Dt := mCmpI fun i j => decide (i ≤ j)
def mGt : Dt → Dt → Store → R Dt := mCmpI fun i j => decide (j < i)
def mGe : Dt → Dt → Store → R Dt := mCmpI fun i j => decide (j ≤ i)
/-- is, is not: None and bools -/
def mIs (neg : Bool) (x y : Dt) (S : Store) : R Dt := match x, y with
  | .non, .non => .ok (.bl (!neg)) S
  | .ref _, .non => .ok (.bl neg) S
  | .bl _, .non => .ok (.bl neg) S
  | .int _, .non => .ok (.bl neg) S
  | .str _, .non => .ok (.bl neg) S
  | .tup _, .non => .ok (.bl neg) S
  | .lst _, .non => .ok (.bl neg) S
  | .ins _ _ _, .non => .ok (.bl neg) S
  | .dct _ _, .non => .ok (.bl neg) S
  | .bl a, .bl b => .ok (.bl (if neg then !decide (a = b) else decide (a = b))) S
  | _, _ => .stuck
section
variable {G : Gv} {X : Cx}
theorem small6 {n : Nat} (h : n ≤ 1000000) : n ≤ sizeLine := Nat.le_trans h (by decide)
theorem rel_bl {G : Gv} {io : Io} {H : Hp} {i : Bool} {v : V} (r : RelD G io H (.bl i) v) : v = .bl i := by cases r; rfl
theorem nil_iff {G : Gv} {io : Io} {H : Hp} {ds : List Dt} {vs : List V} (r : RelDs G io H ds vs) : vs = [] ↔ ds = [] := by
  cases r with
  | nil => simp
  | cons _ _ => simp
/-- a rule on two ints -/
theorem sim_int {C : Int → Int → Prop} {c : Int → Int → Bool} {g : Int → Int → V} {gd : Int → Int → Dt} (hc : ∀ i j, c i j = true → C i j) (hg : ∀ G io H i j, RelD G io H (gd i j) (g i j)) :
    SimO G (rI C g) (fun x y S => match x, y with | .int i, .int j => if c i j = true then .ok (gd i j) S else .stuck | _, _ => .stuck) := by
  intro io H S x y dx dy Q so rx ry h
  dsimp only at h
  split at h
  · rename_i i j
    cases rx
    cases ry
    by_cases hcc : c i j = true
    · rw [if_pos hcc] at h
      exact ⟨_, _, rfl, rfl, hc _ _ hcc, h io H Grow.refl so _ (hg _ _ _ _ _)⟩
    · rw [if_neg hcc] at h
      exact h.elim
  · exact h.elim
theorem do_add (hK : X.K = G.K := by rfl) : DO G X (binaryOp .Add) mAdd := by
  refine ⟨_, (((op_add (X := X)).or op_add_str).or op_catA).or op_cat, ?_, ?_⟩
  · intro io H S x y dx dy Q so rx ry h
    unfold mAdd at h
    split at h
    · cases rx
      cases ry
      exact .inl (.inl (.inl ⟨_, _, rfl, rfl, h io H Grow.refl so _ (.int _)⟩))
    · rename_i a b
      cases rx
      cases ry
      by_cases hl : a.length + b.length ≤ 100000
      · rw [if_pos hl] at h
        exact .inl (.inl (.inr ⟨_, _, rfl, rfl, small6 (by omega), h io H Grow.refl so _ (.str _)⟩))
      · rw [if_neg hl] at h
        exact h.elim
    · rename_i xs ys
      by_cases hl : xs.length + ys.length ≤ 1000000
      · rw [if_pos hl] at h
        obtain ⟨a, vs, rfl, hs, rs⟩ := asT_ok rx rfl
        obtain ⟨b, us, rfl, ht, rt⟩ := asT_ok ry rfl
        have l1 := rs.length
        have l2 := rt.length
        refine .inl (.inr ⟨a, b, vs, us, rfl, rfl, by rw [hK]; exact hs, by rw [hK]; exact ht, small6 (by omega), fun e => ?_, fun e1 e2 => ?_, fun e1 e2 p hp => ?_⟩)
        · have e' := (nil_iff rs).mp e
          subst e'
          rw [List.nil_append] at h
          exact h io H Grow.refl so _ ry
        · have e' := (nil_iff rt).mp e2
          subst e'
          rw [List.append_nil] at h
          exact h io H Grow.refl so _ rx
        · exact out_tup so (rs.append rt) h hp
      · rw [if_neg hl] at h
        exact h.elim
    · split at h
      · rename_i xs ys e1 e2
        by_cases hl : xs.length + ys.length ≤ 1000000
        · rw [if_pos hl] at h
          obtain ⟨a, vs, rfl, hs, rs⟩ := asP_ok so rx e1
          obtain ⟨b, us, rfl, ht, rt⟩ := asP_ok so ry e2
          have l1 := rs.length
          have l2 := rt.length
          exact .inr ⟨a, b, vs, us, rfl, rfl, hs, ht, small6 (by omega), fun p hp => out_lst so (rs.append rt) h hp⟩
        · rw [if_neg hl] at h
          exact h.elim
      · exact h.elim
  · intro x y S
    unfold mAdd
    repeat' split
    all_goals trivial
theorem do_sub : DO G X (binaryOp .Sub) mSub := by
  refine ⟨_, op_sub, ?_, ?_⟩
  · intro io H S x y dx dy Q so rx ry h
    unfold mSub at h
    split at h
    · cases rx
      cases ry
      exact ⟨_, _, rfl, rfl, h io H Grow.refl so _ (.int _)⟩
    · exact h.elim
  · intro x y S
    unfold mSub
    split <;> trivial
theorem do_mul : DO G X (binaryOp .Mult) mMul := by
  refine ⟨_, ((op_mulW (X := X)).or op_mul).or op_rep, ?_, ?_⟩
  · intro io H S x y dx dy Q so rx ry h
    unfold mMul at h
    split at h
    · rename_i i j
      cases rx
      cases ry
      by_cases hc : mulOk i j = true
      · rw [if_pos hc] at h
        unfold mulOk at hc
        rw [Bool.or_eq_true, Bool.or_eq_true] at hc
        rcases hc with (hc | hc) | hc
        · have z := of_decide_eq_true hc
          exact .inl (.inr ⟨_, _, rfl, rfl, .inl (by omega), h io H Grow.refl so _ (.int _)⟩)
        · have z := of_decide_eq_true hc
          exact .inl (.inr ⟨_, _, rfl, rfl, .inr (by omega), h io H Grow.refl so _ (.int _)⟩)
        · exact .inl (.inl ⟨_, _, rfl, rfl, (of_decide_eq_true (p := i.natAbs.log2 + j.natAbs.log2 < 1000000) hc : CMulW i j), h io H Grow.refl so _ (.int _)⟩)
      · rw [if_neg hc] at h
        exact h.elim
    · rename_i k hne
      cases ry
      split at h
      · rename_i xs e1
        by_cases hl : -100000 ≤ k ∧ k ≤ 100000 ∧ xs.length ≤ 100
        · rw [if_pos hl] at h
          obtain ⟨a, vs, rfl, hs, rs⟩ := asP_ok so rx e1
          have l1 := rs.length
          refine .inr ⟨a, k, vs, rfl, rfl, hs, by omega, by omega, ?_, fun p hp => ?_⟩
          · have e : vs.length * k.toNat ≤ 100 * 100000 := Nat.mul_le_mul (by omega) (by omega)
            exact Nat.le_trans e (by decide)
          · have rr : ∀ n : Nat, RelDs G io H (List.replicate n xs).flatten (List.replicate n vs).flatten := fun n => by
              induction n with
              | zero => exact .nil
              | succ n ih =>
                rw [List.replicate_succ, List.replicate_succ, List.flatten_cons, List.flatten_cons]
                exact rs.append ih
            exact out_lst so (rr _) h hp
        · rw [if_neg hl] at h
          exact h.elim
      · exact h.elim
    · exact h.elim
  · intro x y S
    unfold mMul
    repeat' split
    all_goals trivial
theorem op_fdivA : OpR X (binaryOp .FloorDiv) (rI (fun _ j => j ≠ 0 ∧ j.natAbs.log2 < 9000) fun i j => .int (i.fdiv j)) := opI fun _ _ _ _ _ _ _ hc q =>
  floordiv_int hc.1 q (.inl (PyProof.noPylong_of_log2 hc.2))
theorem noErr_int {c : Int → Int → Bool} {gd : Int → Int → Dt} (x y : Dt) (S : Store) : NoErr (match x, y with | .int i, .int j => if c i j = true then R.ok (gd i j) S else .stuck | _, _ => .stuck) := by
  repeat' split
  all_goals trivial
theorem do_div : DO G X (binaryOp .FloorDiv) mDiv :=
  ⟨_, op_fdivA, sim_int (c := fun _ j => divOk j) (gd := fun i j => .int (i.fdiv j)) (fun i j h => by
    unfold divOk at h
    rw [Bool.and_eq_true] at h
    exact ⟨of_decide_eq_true h.1, of_decide_eq_true h.2⟩) (fun _ _ _ _ _ => .int _), fun x y S => noErr_int (c := fun _ j => divOk j) (gd := fun i j => .int (i.fdiv j)) x y S⟩
theorem do_mod : DO G X (binaryOp .Mod) mMod := by
  refine ⟨_, op_modN, ?_, ?_⟩
  · intro io H S x y dx dy Q so rx ry h
    unfold mMod at h
    split at h
    · rename_i i j
      cases rx
      cases ry
      by_cases hc : j ≠ 0
      · rw [if_pos hc] at h
        exact ⟨_, _, rfl, rfl, hc, h io H Grow.refl so _ (.int _)⟩
      · rw [if_neg hc] at h
        exact h.elim
    · exact h.elim
  · intro x y S
    unfold mMod
    repeat' split
    all_goals trivial
theorem do_pow : DO G X (binaryOp .Pow) mPow :=
  ⟨_, op_pow, sim_int (c := powOk) (gd := fun i j => .int (i ^ j.toNat)) (fun i j h => (of_decide_eq_true (p := 0 ≤ j ∧ j ≤ 1000000 ∧ i.natAbs < 2 ^ 64) h : CPow i j)) (fun _ _ _ _ _ => .int _), fun x y S => noErr_int (c := powOk) (gd := fun i j => .int (i ^ j.toNat)) x y S⟩
theorem do_cmpI {op : CmpOp} {p : Int → Int → Bool} (ho : OpR X (compareOp op) (rI0 fun i j => .bl (p i j))) : DO G X (compareOp op) (mCmpI p) := by
  refine ⟨_, ho, ?_, ?_⟩
  · intro io H S x y dx dy Q so rx ry h
    unfold mCmpI at h
    split at h
    · cases rx
      cases ry
      exact ⟨_, _, rfl, rfl, h io H Grow.refl so _ (.bl _)⟩
    · exact h.elim
  · intro x y S
    unfold mCmpI
    split <;> trivial
theorem do_lt : DO G X (compareOp .Lt) mLt := do_cmpI op_lt
theorem do_gt : DO G X (compareOp .Gt) mGt := do_cmpI op_gt
theorem do_ge : DO G X (compareOp .GtE) mGe := do_cmpI op_ge
theorem do_is : DO G X (compareOp .Is) (mIs false) := by
  refine ⟨_, (op_isN (X := X)).or op_isBl, ?_, ?_⟩
  · intro io H S x y dx dy Q so rx ry h
    unfold mIs at h
    split at h
    case h_11 => exact h.elim
    case h_10 =>
      cases rx
      cases ry
      exact .inr ⟨_, _, rfl, rfl, h io H Grow.refl so _ (.bl _)⟩
    all_goals
      cases ry
      refine .inl ⟨rfl, ?_⟩
      cases rx
      exact h io H Grow.refl so _ (.bl _)
  · intro x y S
    unfold mIs
    split <;> trivial
end
/-! ### == of plain data -/
mutual
def eqD : Dt → Dt → Bool
  | .non, .non => true
  | .bl a, .bl b => a == b
  | .bl a, .int j => (if a then 1 else 0) == j
  | .int i, .bl b => i == (if b then 1 else 0)
  | .int i, .int j => i == j
  | .str a, .str b => a == b
  | .tup xs, .tup ys => eqDs xs ys
  | .lst xs, .lst ys => eqDs xs ys
  | _, _ => false
def eqDs : List Dt → List Dt → Bool
  | [], [] => true
  | x :: xs, y :: ys => eqD x y && eqDs xs ys
  | _, _ => false
end
/-- plain data, so deep at most -/
def okD : Nat → Dt → Bool
  | _, .non => true
  | _, .bl _ => true
  | _, .int _ => true
  | _, .str s => PyData.strOk s
  | k + 1, .tup ds => ds.all (okD k)
  | k + 1, .lst ds => ds.all (okD k)
  | _, _ => false
mutual
def toPy : Dt → PyData
  | .bl b => .bool b
  | .int i => .int i
  | .str s => .str s
  | .tup ds => .tuple (toPys ds)
  | .lst ds => .list (toPys ds)
  | _ => .none
def toPys : List Dt → List PyData
  | [] => []
  | d :: ds => toPy d :: toPys ds
end
section
variable {G : Gv} {io : Io} {H : Hp}
theorem all_cons {k : Nat} {d : Dt} {ds : List Dt} (h : (d :: ds).all (okD k) = true) : okD k d = true ∧ ds.all (okD k) = true := by
  rw [List.all_cons, Bool.and_eq_true] at h
  exact h
theorem dp_of : ∀ (k : Nat) {d : Dt} {v : V}, RelD G io H d v → okD k d = true → Dp G.K H v (toPy d) ∧ (toPy d).canLay0 = true ∧ (toPy d).depth ≤ k := by
  intro k
  induction k with
  | zero =>
    intro d v r h
    cases r with
    | non => exact ⟨.non, rfl, Nat.le_refl _⟩
    | bl b => exact ⟨.bl b, rfl, Nat.le_refl _⟩
    | int i => exact ⟨.int i, rfl, Nat.le_refl _⟩
    | str s => exact ⟨.str s, by simpa [okD, toPy, PyData.canLay0] using h, by simp [toPy, PyData.depth]⟩
    | _ => simp [okD] at h
  | succ k ih =>
    have all : ∀ {ds : List Dt} {vs : List V}, RelDs G io H ds vs → ds.all (okD k) = true → DpAll G.K H vs (toPys ds) ∧ PyData.canLayAll0 (toPys ds) = true ∧ PyData.depthAll (toPys ds) ≤ k := by
      intro ds
      induction ds with
      | nil =>
        intro vs r _
        cases r
        exact ⟨.nil, rfl, Nat.zero_le _⟩
      | cons d ds ih2 =>
        intro vs r h
        cases r with
        | cons r1 r2 =>
          obtain ⟨h1, h2⟩ := all_cons h
          obtain ⟨a1, a2, a3⟩ := ih r1 h1
          obtain ⟨b1, b2, b3⟩ := ih2 r2 h2
          refine ⟨.cons a1 b1, ?_, ?_⟩
          · show ((toPy d).canLay0 && PyData.canLayAll0 (toPys ds)) = true
            rw [a2, b2]
            rfl
          · show PyData.depthAll (toPy d :: toPys ds) ≤ k
            simp only [PyData.depthAll]
            omega
    intro d v r h
    cases r with
    | non => exact ⟨.non, rfl, by simp [toPy, PyData.depth]⟩
    | bl b => exact ⟨.bl b, rfl, by simp [toPy, PyData.depth]⟩
    | int i => exact ⟨.int i, rfl, by simp [toPy, PyData.depth]⟩
    | str s => exact ⟨.str s, by simpa [okD, toPy, PyData.canLay0] using h, by simp [toPy, PyData.depth]⟩
    | tup e rs =>
      obtain ⟨a1, a2, a3⟩ := all rs (by simpa [okD] using h)
      refine ⟨.tup ?_ a1, a2, ?_⟩
      · rcases e with ⟨e, _⟩ | e
        · exact .inl (.inl e)
        · exact .inr e.1
      · simp only [toPy, PyData.depth]
        omega
    | lst e n rs =>
      obtain ⟨a1, a2, a3⟩ := all rs (by simpa [okD] using h)
      refine ⟨.lst (.inl (.inl e)) a1, a2, ?_⟩
      simp only [toPy, PyData.depth]
      omega
    | _ => simp [okD] at h
theorem shaped_of {k : Nat} {d : Dt} {v : V} (hk : k ≤ 60) (r : RelD G io H d v) (h : okD k d = true) : SeqAt.shaped (toPy d) = true := by
  obtain ⟨_, a, b⟩ := dp_of k r h
  unfold SeqAt.shaped
  rw [a, Bool.true_and]
  exact decide_eq_true (by omega)
theorem eqv_of : ∀ (k : Nat) (d e : Dt), okD k d = true → okD k e = true → PyData.eqv (toPy d) (toPy e) = eqD d e := by
  intro k
  induction k with
  | zero =>
    intro d e h1 h2
    cases d <;> cases e <;> first
      | rfl
      | (simp [okD] at h1; done)
      | (simp [okD] at h2; done)
  | succ k ih =>
    have all : ∀ ds es : List Dt, ds.all (okD k) = true → es.all (okD k) = true → PyData.eqvAll (toPys ds) (toPys es) = eqDs ds es := by
      intro ds
      induction ds with
      | nil =>
        intro es _ _
        cases es <;> rfl
      | cons d ds ih2 =>
        intro es h1 h2
        cases es with
        | nil => rfl
        | cons e es =>
          obtain ⟨a1, a2⟩ := all_cons h1
          obtain ⟨b1, b2⟩ := all_cons h2
          show (PyData.eqv (toPy d) (toPy e) && PyData.eqvAll (toPys ds) (toPys es)) = (eqD d e && eqDs ds es)
          rw [ih d e a1 b1, ih2 es a2 b2]
    intro d e h1 h2
    cases d <;> cases e <;> first
      | rfl
      | (simp [okD] at h1; done)
      | (simp [okD] at h2; done)
      | exact all _ _ (by simpa [okD] using h1) (by simpa [okD] using h2)
end
/-- a list of the store, as it stands -/
def res (S : Store) (d : Dt) : Dt := match d with
  | .ref i => match S[i]? with
    | some (.lst ds) => .lst ds
    | _ => .ref i
  | d => d
theorem res_ok {G : Gv} {io : Io} {H : Hp} {S : Store} {d : Dt} {v : V} {k : Nat} (so : StoreOk G io S H) (r : RelD G io H d v) (h : okD k (res S d) = true) : Dp G.K H v (toPy (res S d)) ∧ (k ≤ 60 → SeqAt.shaped (toPy (res S d)) = true) := by
  cases d with
  | ref i =>
    unfold res at h ⊢
    dsimp only at h ⊢
    split at h
    · rename_i ds hs
      obtain ⟨a, vs, rfl, e, rs⟩ := asP_ok (d := .ref i) (ds := ds) so r (by simp [asP, hs])
      cases k with
      | zero => simp [okD] at h
      | succ k =>
        have z : ∀ (ds : List Dt) (vs : List V), RelDs G io H ds vs → ds.all (okD k) = true → DpAll G.K H vs (toPys ds) ∧ PyData.canLayAll0 (toPys ds) = true ∧ PyData.depthAll (toPys ds) ≤ k := by
          intro ds
          induction ds with
          | nil =>
            intro vs r _
            cases r
            exact ⟨.nil, rfl, Nat.zero_le _⟩
          | cons d ds ih2 =>
            intro vs r h
            cases r with
            | cons r1 r2 =>
              obtain ⟨h1, h2⟩ := all_cons h
              obtain ⟨a1, a2, a3⟩ := dp_of k r1 h1
              obtain ⟨b1, b2, b3⟩ := ih2 _ r2 h2
              refine ⟨.cons a1 b1, ?_, ?_⟩
              · show ((toPy d).canLay0 && PyData.canLayAll0 (toPys ds)) = true
                rw [a2, b2]
                rfl
              · show PyData.depthAll (toPy d :: toPys ds) ≤ k
                simp only [PyData.depthAll]
                omega
        obtain ⟨a1, a2, a3⟩ := z ds vs rs (by simpa [okD] using h)
        refine ⟨.lst (.inl (.inl e)) a1, fun hk => ?_⟩
        unfold SeqAt.shaped
        rw [show (toPy (Dt.lst ds)).canLay0 = true from a2, Bool.true_and]
        refine decide_eq_true ?_
        simp only [toPy, PyData.depth]
        omega
    · cases k <;> simp [okD] at h
  | _ => exact ⟨(dp_of k r h).1, fun hk => shaped_of hk r h⟩
def deep : Nat := 12
def mEq (x y : Dt) (S : Store) : R Dt := if okD deep (res S x) = true ∧ okD deep (res S y) = true then .ok (.bl (eqD (res S x) (res S y))) S else .stuck
def mNe (x y : Dt) (S : Store) : R Dt := if okD deep (res S x) = true ∧ okD deep (res S y) = true then .ok (.bl (!eqD (res S x) (res S y))) S else .stuck
section
variable {G : Gv} {X : Cx}
theorem do_eq (hu : X.A.units + 64 < cLine) (hK : X.K = G.K := by rfl) : DO G X (compareOp .Eq) mEq := by
  refine ⟨_, op_eqD hu, ?_, ?_⟩
  · intro io H S x y dx dy Q so rx ry h
    unfold mEq at h
    split at h
    · rename_i hc
      obtain ⟨p1, q1⟩ := res_ok so rx hc.1
      obtain ⟨p2, q2⟩ := res_ok so ry hc.2
      refine ⟨_, _, by rw [hK]; exact p1, by rw [hK]; exact p2, q1 (by decide), q2 (by decide), ?_⟩
      rw [eqv_of deep _ _ hc.1 hc.2]
      exact h io H Grow.refl so _ (.bl _)
    · exact h.elim
  · intro x y S
    unfold mEq
    split <;> trivial
theorem do_ne (hu : X.A.units + 64 < cLine) (hK : X.K = G.K := by rfl) : DO G X (compareOp .NotEq) mNe := by
  refine ⟨_, op_neD hu, ?_, ?_⟩
  · intro io H S x y dx dy Q so rx ry h
    unfold mNe at h
    split at h
    · rename_i hc
      obtain ⟨p1, q1⟩ := res_ok so rx hc.1
      obtain ⟨p2, q2⟩ := res_ok so ry hc.2
      refine ⟨_, _, by rw [hK]; exact p1, by rw [hK]; exact p2, q1 (by decide), q2 (by decide), ?_⟩
      rw [eqv_of deep _ _ hc.1 hc.2]
      exact h io H Grow.refl so _ (.bl _)
    · exact h.elim
  · intro x y S
    unfold mNe
    split <;> trivial
end
end Dv
set_option Elab.async false
set_option linter.all false
set_option maxRecDepth 100000
set_option maxHeartbeats 4000000
set_option autoImplicit false
namespace Dv
open PySem PySem.Spec PyProof.Rows L2
/-! ### truth -/
def tru (S : Store) (d : Dt) : Option Bool := match d with
  | .non => some false
  | .bl b => some b
  | .int i => some (i != 0)
  | .str s => if s.length ≤ 100000 then some ((s.length : Int) != 0) else none
  | .tup ds => some (!ds.isEmpty)
  | .dct ks _ => some (!ks.isEmpty)
  | d => match asL S d with
    | some ds => some (!ds.isEmpty)
    | none => none
def mTruth (m : Env → Store → R Dt) : Env → Store → R Bool := fun e S => (m e S).bind fun d S1 => match tru S1 d with
  | some b => .ok b S1
  | none => .stuck
section
variable {G : Gv} {X : Cx} {W : WX}
theorem isEmpty_rel {G : Gv} {io : Io} {H : Hp} {ds : List Dt} {vs : List V} (r : RelDs G io H ds vs) : ds.isEmpty = vs.isEmpty := by cases r <;> rfl
theorem tru_of {io : Io} {H : Hp} {S : Store} {d : Dt} {v : V} {b : Bool} (so : StoreOk G io S H) (r : RelD G io H d v) (h : tru S d = some b) : TruV G.K v H b := by
  have ls : ∀ {d : Dt}, RelD G io H d v → (match asL S d with | some ds => some (!ds.isEmpty) | none => none) = some b → TruV G.K v H b := fun {d} r h => by
    split at h
    · rename_i ds e
      obtain ⟨a, vs, rfl, h1, h2⟩ := asL_ok so r e
      cases h
      exact .inl ⟨vs, h1, by rw [isEmpty_rel h2]⟩
    · cases h
  unfold tru at h
  split at h
  · cases r; cases h; rfl
  · cases r; cases h; rfl
  · cases r; cases h; rfl
  · cases r
    split at h
    · cases h
      exact ⟨Nat.le_trans (by assumption) (by decide), rfl⟩
    · cases h
  · cases h
    obtain ⟨a, vs, rfl, h1, h2⟩ := asT_ok r rfl
    exact .inr (.inl ⟨vs, h1, by rw [isEmpty_rel h2]⟩)
  · rename_i ks ds
    cases h
    cases r with
    | @dct a _ _ vs e n l k =>
      refine .inr (.inr ⟨_, e, ?_⟩)
      have l2 := k.length
      cases ks with
      | nil => rfl
      | cons x xs =>
        cases vs with
        | nil =>
          rw [List.length_cons] at l
          rw [List.length_nil] at l2
          omega
        | cons _ _ => rfl
  · exact ls r h
theorem simT_truth {t : TE} {m : Env → Store → R Dt} (hK : X.K = G.K) (h : SimE G W t m) : SimT G W (fun σ H Q => t σ H fun x H' => ∃ k, TruV X.K x H' k ∧ Q k H') (mTruth m) := by
  intro io H S e σ Q so re k
  refine h io H S e σ _ so re (k.bind.imp (fun _ _ _ _ z => z) fun d S1 i1 H1 g1 s1 k1 v r => ?_)
  split at k1
  · rename_i b hb
    exact ⟨b, by rw [hK]; exact tru_of s1 r hb, k1 i1 H1 Grow.refl s1⟩
  · exact k1.elim
theorem dt_truth {a : Expr} {m : Env → Store → R Dt} (ha : DE G X W a m) (hK : X.K = G.K := by rfl) (he : ∀ whole, isTrue a X.env whole = (do let v ← whole; standAt a.pos; holding [v] (truthy v)) := by intro _; rfl) : DT G X W a (mTruth m) := by
  obtain ⟨t, p, q⟩ := ha
  exact ⟨_, pt_truth p he, simT_truth hK q⟩
/-! ### and, or, not as tests -/
def mAndT (a b : Env → Store → R Bool) : Env → Store → R Bool := fun e S => (a e S).bind fun c S1 => if c = true then b e S1 else .ok false S1
def mOrT (a b : Env → Store → R Bool) : Env → Store → R Bool := fun e S => (a e S).bind fun c S1 => if c = true then .ok true S1 else b e S1
def mNotT (a : Env → Store → R Bool) : Env → Store → R Bool := fun e S => (a e S).bind fun c S1 => .ok (!c) S1
variable {a b : Expr} {rest : List Expr} {pos : Pos} {ma mb : Env → Store → R Bool}
theorem dw_or1 (h : DT G X W a ma) : DW G X W (.BoolOp .Or [a] pos) ma := let ⟨_, p, q⟩ := h; ⟨_, pw_or1 p, q⟩
theorem dw_or (h : DT G X W a ma) (k : DW G X W (.BoolOp .Or (b :: rest) pos) mb) : DW G X W (.BoolOp .Or (a :: b :: rest) pos) (mOrT ma mb) := by
  obtain ⟨t, p, q⟩ := h
  obtain ⟨u, p', q'⟩ := k
  refine ⟨_, pw_or p p', fun io H S e σ Q so re h => ?_⟩
  refine q io H S e σ _ so re (h.bind.imp (fun _ _ _ _ z => z) fun c S1 i1 H1 g1 s1 k1 => ?_)
  cases c with
  | false => exact q' i1 H1 S1 e σ Q s1 (re.mono g1) k1
  | true => exact k1 i1 H1 Grow.refl s1
theorem dt_w {e : Expr} {m : Env → Store → R Bool} (h : DW G X W e m) : DT G X W e m := let ⟨_, p, q⟩ := h; ⟨_, p.pt, q⟩
theorem dt_not (h : DT G X W a ma) : DT G X W (.UnaryOp .Not a pos) (mNotT ma) := by
  obtain ⟨t, p, q⟩ := h
  refine ⟨_, pt_not p, fun io H S e σ Q so re h => ?_⟩
  exact q io H S e σ _ so re (h.bind.imp (fun _ _ _ _ z => z) fun c S1 i1 H1 g1 s1 k1 => k1 i1 H1 Grow.refl s1)
/-! ### a < b < c -/
def mChain (m m' : Dt → Dt → Store → R Dt) (ma mb mc : Env → Store → R Dt) : Env → Store → R Dt := fun e S => (ma e S).bind fun x S1 => (mb e S1).bind fun y S2 => (m x y S2).bind fun z S3 => match z with
  | .bl true => (mc e S3).bind fun w S4 => m' y w S4
  | .bl false => .ok (.bl false) S3
  | _ => .stuck
theorem simE_chain {r r' : R2} {ta tb tc : TE} {m m' : Dt → Dt → Store → R Dt} {ma mb mc : Env → Store → R Dt} (ho : SimO G r m) (hn : ∀ x y S, NoErr (m x y S)) (ho' : SimO G r' m') (hn' : ∀ x y S, NoErr (m' x y S))
    (ha : SimE G W ta ma) (hb : SimE G W tb mb) (hc : SimE G W tc mc) : SimE G W (tChain r r' ta tb tc) (mChain m m' ma mb mc) := by
  intro io H S e σ Q so re h
  refine ha io H S e σ _ so re (h.bind.imp (fun _ _ _ _ z => z) fun d S1 i1 H1 g1 s1 k1 v r1 => ?_)
  refine hb i1 H1 S1 e σ _ s1 (re.mono g1) (k1.bind.imp (fun _ _ _ _ z => z) fun d' S2 i2 H2 g2 s2 k2 v' r2 => ?_)
  refine ho i2 H2 S2 v v' d d' _ s2 (r1.mono g2) r2 ((k2.bind.noErr (hn _ _ _)).imp (fun _ _ _ _ z => z) fun z S3 i3 H3 g3 s3 k3 vz rz => ?_)
  split at k3
  · refine ⟨true, rel_bl rz, ?_⟩
    rw [if_pos rfl]
    refine hc i3 H3 S3 e σ _ s3 ((re.mono (g1.trans g2)).mono g3) (k3.bind.imp (fun _ _ _ _ z => z) fun w S4 i4 H4 g4 s4 k4 vw rw' => ?_)
    exact ho' i4 H4 S4 v' vw d' w Q s4 ((r2.mono g3).mono g4) rw' (k4.noErr (hn' _ _ _))
  · refine ⟨false, rel_bl rz, ?_⟩
    rw [if_neg Bool.false_ne_true]
    exact k3 i3 H3 Grow.refl s3 _ (.bl _)
  · exact k3.elim
theorem de_chain {op op' : CmpOp} {m m' : Dt → Dt → Store → R Dt} {ma mb mc : Env → Store → R Dt} {c : Expr} (ho : DO G X (compareOp op) m) (ho' : DO G X (compareOp op') m') (ha : DE G X W a ma) (hb : DE G X W b mb) (hc : DE G X W c mc)
    (hm : lastMarks [op, op'] [b, c] = false := by with_unfolding_all rfl) : DE G X W (.Compare a [op, op'] [b, c] pos) (mChain m m' ma mb mc) := by
  obtain ⟨r, p, q, n⟩ := ho
  obtain ⟨r', p', q', n'⟩ := ho'
  obtain ⟨ta, pa, qa⟩ := ha
  obtain ⟨tb, pb, qb⟩ := hb
  obtain ⟨tc, pc, qc⟩ := hc
  exact ⟨_, pe_chain p p' pa pb pc hm, simE_chain q n q' n' qa qb qc⟩
end
/-! ### and, or, not, if as values -/
section
variable {G : Gv} {X : Cx} {W : WX} {a b : Expr} {rest : List Expr} {pos : Pos} {ma mb : Env → Store → R Dt}
def mAndV (a b : Env → Store → R Dt) : Env → Store → R Dt := fun e S => (a e S).bind fun d S1 => match tru S1 d with
  | some true => b e S1
  | some false => .ok d S1
  | none => .stuck
def mOrV (a b : Env → Store → R Dt) : Env → Store → R Dt := fun e S => (a e S).bind fun d S1 => match tru S1 d with
  | some true => .ok d S1
  | some false => b e S1
  | none => .stuck
def mNotV (a : Env → Store → R Dt) : Env → Store → R Dt := fun e S => (a e S).bind fun d S1 => match tru S1 d with
  | some b => .ok (.bl (!b)) S1
  | none => .stuck
theorem de_one {op} (h : DE G X W a ma) : DE G X W (.BoolOp op [a] pos) ma := let ⟨_, p, q⟩ := h; ⟨_, pe_one p, q⟩
theorem de_and (h : DE G X W a ma) (k : DE G X W (.BoolOp .And (b :: rest) pos) mb) (hK : X.K = G.K := by rfl) : DE G X W (.BoolOp .And (a :: b :: rest) pos) (mAndV ma mb) := by
  obtain ⟨t, p, q⟩ := h
  obtain ⟨u, p', q'⟩ := k
  refine ⟨_, pe_andT p p', fun io H S e σ Q so re h => ?_⟩
  refine q io H S e σ _ so re (h.bind.imp (fun _ _ _ _ z => z) fun d S1 i1 H1 g1 s1 k1 v r => ?_)
  split at k1
  · rename_i hb
    refine ⟨true, by rw [hK]; exact tru_of s1 r hb, ?_⟩
    rw [if_pos rfl]
    exact q' i1 H1 S1 e σ Q s1 (re.mono g1) k1
  · rename_i hb
    refine ⟨false, by rw [hK]; exact tru_of s1 r hb, ?_⟩
    rw [if_neg Bool.false_ne_true]
    exact k1 i1 H1 Grow.refl s1 _ r
  · exact k1.elim
theorem de_not (h : DE G X W a ma) (hK : X.K = G.K := by rfl) : DE G X W (.UnaryOp .Not a pos) (mNotV ma) := by
  obtain ⟨t, p, q⟩ := h
  refine ⟨_, pe_notT p, fun io H S e σ Q so re h => ?_⟩
  refine q io H S e σ _ so re (h.bind.imp (fun _ _ _ _ z => z) fun d S1 i1 H1 g1 s1 k1 v r => ?_)
  split at k1
  · rename_i c hb
    exact ⟨c, by rw [hK]; exact tru_of s1 r hb, k1 i1 H1 Grow.refl s1 _ (.bl _)⟩
  · exact k1.elim
def mIf (c : Env → Store → R Bool) (a b : Env → Store → R Dt) : Env → Store → R Dt := fun e S => (c e S).bind fun k S1 => if k = true then a e S1 else b e S1
/-- -a -/
def mNeg (a : Env → Store → R Dt) : Env → Store → R Dt := fun e S => (a e S).bind fun d S1 => match d with
  | .int i => .ok (.int (-i)) S1
  | _ => .stuck
end
/-! ### displays -/
section
variable {G : Gv} {X : Cx} {W : WX} {es : List Expr} {pos : Pos} {ms : Env → Store → R (List Dt)}
def mTup (m : Env → Store → R (List Dt)) : Env → Store → R Dt := fun e S => (m e S).bind fun ds S1 => if ds.length ≤ 1000 then .ok (.tup ds) S1 else .stuck
def mLst (m : Env → Store → R (List Dt)) : Env → Store → R Dt := fun e S => (m e S).bind fun ds S1 => if ds.length ≤ 1000 then .ok (.lst ds) S1 else .stuck
/-- a list that will change: an object of the store -/
def mLstR (m : Env → Store → R (List Dt)) : Env → Store → R Dt := fun e S => (m e S).bind fun ds S1 => if ds.length ≤ 1000 then .ok (.ref S1.length) (S1 ++ [.lst ds]) else .stuck
theorem de_tup {x1} (h : DA G X W es ms) : DE G X W (.Tuple es x1 pos) (mTup ms) := by
  obtain ⟨t, p, q⟩ := h
  refine ⟨_, pe_tup p, fun io H S e σ Q so re h => ?_⟩
  refine q io H S e σ _ so re (h.bind.imp (fun _ _ _ _ z => z) fun ds S1 i1 H1 g1 s1 k1 vs r => ?_)
  split at k1
  · rename_i hl
    exact ⟨by rw [← r.length]; exact Nat.le_trans hl (by decide), fun p hp => out_tup s1 r k1 hp⟩
  · exact k1.elim
theorem de_lst (h : DA G X W es ms) : DE G X W (.List es pos) (mLst ms) := by
  obtain ⟨t, p, q⟩ := h
  refine ⟨_, pe_lst p, fun io H S e σ Q so re h => ?_⟩
  refine q io H S e σ _ so re (h.bind.imp (fun _ _ _ _ z => z) fun ds S1 i1 H1 g1 s1 k1 vs r => ?_)
  split at k1
  · rename_i hl
    exact ⟨by rw [← r.length]; exact Nat.le_trans hl (by decide), fun p hp => out_lst s1 r k1 hp⟩
  · exact k1.elim
theorem de_lstR (h : DA G X W es ms) : DE G X W (.List es pos) (mLstR ms) := by
  obtain ⟨t, p, q⟩ := h
  refine ⟨_, pe_lst p, fun io H S e σ Q so re h => ?_⟩
  refine q io H S e σ _ so re (h.bind.imp (fun _ _ _ _ z => z) fun ds S1 i1 H1 g1 s1 k1 vs r => ?_)
  split at k1
  · rename_i hl
    exact ⟨by rw [← r.length]; exact Nat.le_trans hl (by decide), fun p hp => out_ref s1 r k1 hp⟩
  · exact k1.elim
end
/-! ### subscripts -/
theorem rel_at {G : Gv} {io : Io} {H : Hp} {ds : List Dt} {vs : List V} {i : Int} {d : Dt} (r : RelDs G io H ds vs) (h : atI ds i = some d) : ∃ v, atI vs i = some v ∧ RelD G io H d v := by
  unfold atI at h ⊢
  rw [← r.length]
  cases e : ixN ds.length i with
  | none => rw [e] at h; cases h
  | some j =>
    rw [e] at h
    exact r.get h
def ixD (S : Store) (x : Dt) (i : Int) : Option Dt := match x with
  | .tup ds => atI ds i
  | .str s => if s.length ≤ 100000 then (atI s.cps.toList i).map fun c => .str ⟨#[c]⟩ else none
  | x => (asL S x).bind fun ds => atI ds i
def mIx (x y : Dt) (S : Store) : R Dt := match y with
  | .int i => match ixD S x i with
    | some d => .ok d S
    | none => .stuck
  | _ => .stuck
section
variable {G : Gv} {X : Cx} {W : WX} {a b : Expr} {pos : Pos} {ma mb : Env → Store → R Dt}
theorem sim_ix (hK : X.K = G.K) : SimO G (rIx X.K) mIx := by
  intro io H S x y dx dy Q so rx ry h
  unfold mIx at h
  split at h
  · rename_i i
    split at h
    · rename_i d hd
      cases ry
      have ls : ∀ {dx : Dt}, RelD G io H dx x → (asL S dx).bind (fun ds => atI ds i) = some d → rIx X.K x (.int i) H Q := fun {dx} r h' => by
        cases e : asL S dx with
        | none => rw [e] at h'; cases h'
        | some ds =>
          rw [e] at h'
          obtain ⟨p, vs, rfl, h1, h2⟩ := asL_ok so r e
          obtain ⟨v, e1, e2⟩ := rel_at h2 h'
          exact .inl ⟨p, vs, i, v, rfl, rfl, by rw [hK]; exact h1, e1, h io H Grow.refl so v e2⟩
      unfold ixD at hd
      split at hd
      · obtain ⟨p, vs, rfl, h1, h2⟩ := asT_ok rx rfl
        obtain ⟨v, e1, e2⟩ := rel_at h2 hd
        exact .inr (.inl ⟨p, vs, i, v, rfl, rfl, by rw [hK]; exact h1, e1, h io H Grow.refl so v e2⟩)
      · split at hd
        · rename_i s hl
          cases rx
          cases e : atI s.cps.toList i with
          | none => rw [e] at hd; cases hd
          | some c =>
            rw [e] at hd
            cases hd
            exact .inr (.inr ⟨s, i, c, rfl, rfl, Nat.le_trans hl (by decide), e, h io H Grow.refl so _ (.str _)⟩)
        · cases hd
      · exact ls rx hd
    · exact h.elim
  · exact h.elim
theorem noErr_ix (x y : Dt) (S : Store) : NoErr (mIx x y S) := by
  unfold mIx
  repeat' split
  all_goals trivial
theorem de_ix (ha : DE G X W a ma) (hb : DE G X W b mb) (hK : X.K = G.K := by rfl) (hs : PlainIx b := by exact fun _ _ => rfl) : DE G X W (.Subscript a b pos) (mOp mIx ma mb) := by
  obtain ⟨ta, pa, qa⟩ := ha
  obtain ⟨tb, pb, qb⟩ := hb
  exact ⟨_, pe_ix ix_seq pa pb hs, simE_op (sim_ix hK) noErr_ix qa qb⟩
/-- a slice's parts -/
def DP (G : Gv) (X : Cx) (W : WX) (e : Option Expr) (m : Env → Store → R (Option Int)) : Prop := ∃ t, PO X e t ∧ ∀ io H S e σ Q, StoreOk G io S H → RelEnv G io H e σ → Out G io H (wxE G W σ) (fun o _ _ H' => Q o H') (m e S) → t σ H Q
def mNoPart : Env → Store → R (Option Int) := fun _ S => .ok none S
def mPart (m : Env → Store → R Dt) : Env → Store → R (Option Int) := fun e S => (m e S).bind fun d S1 => match d with
  | .int i => .ok (some i) S1
  | _ => .stuck
theorem dp_none : DP G X W none mNoPart := ⟨_, po_none, fun io H S e σ Q so re h => h io H Grow.refl so⟩
theorem dp_some (ha : DE G X W a ma) : DP G X W (some a) (mPart ma) := by
  obtain ⟨t, p, q⟩ := ha
  refine ⟨_, po_some p, fun io H S e σ Q so re h => ?_⟩
  refine q io H S e σ _ so re (h.bind.imp (fun _ _ _ _ z => z) fun d S1 i1 H1 g1 s1 k1 v r => ?_)
  cases r with
  | int i => exact ⟨i, rfl, k1 i1 H1 Grow.refl s1⟩
  | _ => exact k1.elim
/-- the items of xs[lo:hi] -/
def cutA {α : Type} (xs : List α) (lo hi : Option Int) : List α := (xs.drop (HT.sIx xs.length 0 lo)).take (HT.sIx xs.length xs.length hi - HT.sIx xs.length 0 lo)
theorem rel_cut {G : Gv} {io : Io} {H : Hp} {ds : List Dt} {vs : List V} {lo hi : Option Int} (r : RelDs G io H ds vs) : RelDs G io H (cutA ds lo hi) (cutV vs lo hi) := by
  unfold cutA cutV
  rw [← r.length]
  exact (r.drop _).take _
def slD (S : Store) (x : Dt) (lo hi : Option Int) : Option Dt := match x with
  | .tup ds => some (.tup (cutA ds lo hi))
  | x => (asL S x).map fun ds => .lst (cutA ds lo hi)
def mSl (m : Env → Store → R Dt) (ml mh : Env → Store → R (Option Int)) : Env → Store → R Dt := fun e S => (m e S).bind fun x S1 => (ml e S1).bind fun l S2 => (mh e S2).bind fun h S3 => match slD S3 x l h with
  | some d => .ok d S3
  | none => .stuck
theorem cut_whole {α : Type} {xs : List α} {lo hi : Option Int} (h : HT.sIx xs.length 0 lo = 0 ∧ HT.sIx xs.length xs.length hi = xs.length) : cutA xs lo hi = xs := by
  unfold cutA
  rw [h.1, h.2]
  simp
theorem de_sl {lo hi : Option Expr} {p2 : Pos} {ml mh : Env → Store → R (Option Int)} (ha : DE G X W a ma) (hl : DP G X W lo ml) (hh : DP G X W hi mh) (hK : X.K = G.K := by rfl) : DE G X W (.Subscript a (.Slice lo hi none p2) pos) (mSl ma ml mh) := by
  obtain ⟨ta, pa, qa⟩ := ha
  obtain ⟨tl, pl, ql⟩ := hl
  obtain ⟨th, ph, qh⟩ := hh
  refine ⟨_, pe_slice (sl_list.or sl_tupA) pa pl ph, fun io H S e σ Q so re h => ?_⟩
  refine qa io H S e σ _ so re (h.bind.imp (fun _ _ _ _ z => z) fun x S1 i1 H1 g1 s1 k1 v rx => ?_)
  refine ql i1 H1 S1 e σ _ s1 (re.mono g1) (k1.bind.imp (fun _ _ _ _ z => z) fun l S2 i2 H2 g2 s2 k2 => ?_)
  refine qh i2 H2 S2 e σ _ s2 ((re.mono g1).mono g2) (k2.bind.imp (fun _ _ _ _ z => z) fun u S3 i3 H3 g3 s3 k3 => ?_)
  have rx3 := (rx.mono g2).mono g3
  split at k3
  · rename_i d hd
    unfold slD at hd
    split at hd
    · rename_i ds
      cases hd
      obtain ⟨p, vs, rfl, h1, h2⟩ := asT_ok rx3 rfl
      refine .inr ⟨p, vs, rfl, by rw [hK]; exact h1, fun hw => ?_, fun _ q hq => out_tup s3 (rel_cut h2) k3 hq⟩
      rw [← h2.length] at hw
      rw [cut_whole hw] at k3
      exact k3 i3 H3 Grow.refl s3 _ rx3
    · rename_i x' hne
      cases el : asL S3 x with
      | none => rw [el] at hd; cases hd
      | some ds =>
        rw [el] at hd
        cases hd
        obtain ⟨p, vs, rfl, h1, h2⟩ := asL_ok s3 rx3 el
        exact .inl ⟨p, vs, rfl, by rw [hK]; exact h1, fun q hq => out_lst s3 (rel_cut h2) k3 hq⟩
  · exact k3.elim
end
/-! ### built-in functions -/
def SimC (G : Gv) (r : List V → Hp → VK → Prop) (m : List Dt → Store → R Dt) : Prop := ∀ io H S ds vs Q, StoreOk G io S H → RelDs G io H ds vs → Out G io H (fun _ _ _ => False) (poE G Q) (m ds S) → r vs H Q
def DC (G : Gv) (X : Cx) (f : Value) (m : List Dt → Store → R Dt) : Prop := ∃ r, CallR X f r ∧ SimC G r m ∧ ∀ ds S, NoErr (m ds S)
def mCB (m : List Dt → Store → R Dt) (ma : Env → Store → R (List Dt)) : Env → Store → R Dt := fun e S => (ma e S).bind m
section
variable {G : Gv} {X : Cx} {W : WX} {e : Expr} {es : List Expr} {x : Str} {p pos : Pos} {ms : Env → Store → R (List Dt)} {id T : String} {m : List Dt → Store → R Dt}
theorem de_callB (hc : DC G X (.builtin id) m) (hg : Gl X x) (hm : X.mg x = none) (hv : bootBuiltins x = some (.builtin id)) (ha : DA G X W (e :: es) ms) (hn : x ≠ "__name__" := by decide) (hdb : (x == ("__debug__" : Str)) = false := by decide)
    (he : starEach (e :: es) X.env = (false, eval e X.env) :: starEach es X.env := by rfl) (hpl : (backTo pos (starEach es X.env)).any (·.1) = false := by rfl) : DE G X W (.Call (.Name x p) (e :: es) [] pos) (mCB m ms) := by
  obtain ⟨r, p1, q1, n1⟩ := hc
  obtain ⟨t, p2, q2⟩ := ha
  refine ⟨_, pe_callB p1 hg hm hv p2 hn hdb he hpl, fun io H S e σ Q so re h => ?_⟩
  exact q2 io H S e σ _ so re (h.bind.imp (fun _ _ _ _ z => z) fun ds S1 i1 H1 g1 s1 k1 vs r => q1 i1 H1 S1 ds vs Q s1 r (k1.noErr (n1 _ _)))
theorem de_callTy (hc : DC G X (.type T) m) (hg : Gl X x) (hm : X.mg x = none) (hv : bootBuiltins x = some (.type T)) (ha : DA G X W (e :: es) ms) (hn : x ≠ "__name__" := by decide) (hdb : (x == ("__debug__" : Str)) = false := by decide)
    (he : starEach (e :: es) X.env = (false, eval e X.env) :: starEach es X.env := by rfl) (hpl : (backTo pos (starEach es X.env)).any (·.1) = false := by rfl) : DE G X W (.Call (.Name x p) (e :: es) [] pos) (mCB m ms) := by
  obtain ⟨r, p1, q1, n1⟩ := hc
  obtain ⟨t, p2, q2⟩ := ha
  refine ⟨_, pe_callTy p1 hg hm hv p2 hn hdb he hpl, fun io H S e σ Q so re h => ?_⟩
  exact q2 io H S e σ _ so re (h.bind.imp (fun _ _ _ _ z => z) fun ds S1 i1 H1 g1 s1 k1 vs r => q1 i1 H1 S1 ds vs Q s1 r (k1.noErr (n1 _ _)))
def mAbs (ds : List Dt) (S : Store) : R Dt := match ds with
  | [.int i] => .ok (.int (if i < 0 then -i else i)) S
  | _ => .stuck
theorem dc_abs : DC G X (.builtin "abs") mAbs := by
  refine ⟨_, call_abs, ?_, ?_⟩
  · intro io H S ds vs Q so r h
    unfold mAbs at h
    split at h
    · cases r with
      | cons r1 r2 =>
        cases r1
        cases r2
        exact ⟨_, rfl, h io H Grow.refl so _ (.int _)⟩
    · exact h.elim
  · intro ds S
    unfold mAbs
    split <;> trivial
def lenD (S : Store) (d : Dt) : Option Nat := match d with
  | .tup ds => some ds.length
  | .str s => if s.length ≤ 100000 then some s.length else none
  | d => (asL S d).map List.length
def mLen (ds : List Dt) (S : Store) : R Dt := match ds with
  | [d] => match lenD S d with
    | some n => .ok (.int n) S
    | none => .stuck
  | _ => .stuck
theorem dc_len (hK : X.K = G.K := by rfl) : DC G X (.builtin "len") mLen := by
  refine ⟨_, (call_len_seq (X := X)).or call_len_str, ?_, ?_⟩
  · intro io H S ds vs Q so r h
    unfold mLen at h
    split at h
    · rename_i d
      cases r with
      | cons r1 r2 =>
        cases r2
        split at h
        · rename_i n hn
          unfold lenD at hn
          split at hn
          · cases hn
            obtain ⟨p, us, rfl, h1, h2⟩ := asT_ok r1 rfl
            refine .inl ⟨p, us, rfl, .inr (by rw [hK]; exact h1), ?_⟩
            rw [← h2.length]
            exact h io H Grow.refl so _ (.int _)
          · split at hn
            · rename_i hl
              cases hn
              cases r1
              exact .inr ⟨_, rfl, Nat.le_trans hl (by decide), h io H Grow.refl so _ (.int _)⟩
            · cases hn
          · cases el : asL S d with
            | none => rw [el] at hn; cases hn
            | some ds =>
              rw [el] at hn
              cases hn
              obtain ⟨p, us, rfl, h1, h2⟩ := asL_ok so r1 el
              refine .inl ⟨p, us, rfl, .inl (by rw [hK]; exact h1), ?_⟩
              rw [← h2.length]
              exact h io H Grow.refl so _ (.int _)
        · exact h.elim
    · exact h.elim
  · intro ds S
    unfold mLen
    repeat' split
    all_goals trivial
def asS (S : Store) (d : Dt) : Option (List Dt) := match d with
  | .tup ds => some ds
  | d => asL S d
theorem asS_ok {io : Io} {H : Hp} {S : Store} {d : Dt} {ds : List Dt} {v : V} (so : StoreOk G io S H) (r : RelD G io H d v) (h : asS S d = some ds) : ∃ a vs, v = .ref a ∧ (SqL G.K H a vs ∨ SqT G.K H a vs) ∧ RelDs G io H ds vs := by
  unfold asS at h
  split at h
  · obtain ⟨a, vs, h1, h2, h3⟩ := asT_ok r h
    exact ⟨a, vs, h1, .inr h2, h3⟩
  · obtain ⟨a, vs, h1, h2, h3⟩ := asL_ok so r h
    exact ⟨a, vs, h1, .inl h2, h3⟩
/-- list(xs): by value; an object of the store -/
def mList (ds : List Dt) (S : Store) : R Dt := match ds with
  | [d] => match asS S d with
    | some ds => .ok (.lst ds) S
    | none => .stuck
  | _ => .stuck
def mListR (ds : List Dt) (S : Store) : R Dt := match ds with
  | [d] => match asS S d with
    | some ds => .ok (.ref S.length) (S ++ [.lst ds])
    | none => .stuck
  | _ => .stuck
theorem dc_list (hK : X.K = G.K := by rfl) : DC G X (.type "list") mList := by
  refine ⟨_, call_list_of, ?_, ?_⟩
  · intro io H S ds vs Q so r h
    unfold mList at h
    split at h
    · cases r with
      | cons r1 r2 =>
        cases r2
        split at h
        · rename_i es he
          obtain ⟨a, us, rfl, h1, h2⟩ := asS_ok so r1 he
          exact ⟨a, us, rfl, by rw [hK]; exact h1, fun l hl => out_lst so h2 h hl⟩
        · exact h.elim
    · exact h.elim
  · intro ds S
    unfold mList
    repeat' split
    all_goals trivial
def mTuple (ds : List Dt) (S : Store) : R Dt := match ds with
  | [d] => match asS S d with
    | some ds => .ok (.tup ds) S
    | none => .stuck
  | _ => .stuck
/-- all, any, sum of a list -/
def bools : List Dt → Option (List Bool)
  | [] => some []
  | .bl b :: r => (bools r).map (b :: ·)
  | _ => none
theorem bools_ok {io : Io} {H : Hp} : ∀ {ds : List Dt} {vs : List V} {bs : List Bool}, RelDs G io H ds vs → bools ds = some bs → vs = bs.map V.bl
  | [], _, _, r, h => by cases r; cases h; rfl
  | d :: ds, _, bs, r, h => by
    cases r with
    | cons r1 r2 =>
      cases r1 with
      | bl b =>
        simp only [bools] at h
        cases e : bools ds with
        | none => rw [e] at h; cases h
        | some cs =>
          rw [e] at h
          cases h
          rw [bools_ok r2 e]
          rfl
      | _ => cases h
def mAll (ds : List Dt) (S : Store) : R Dt := match ds with
  | [d] => match (asL S d).bind bools with
    | some bs => .ok (.bl (bs.all fun b => b)) S
    | none => .stuck
  | _ => .stuck
theorem dc_all (hc : X.calm = true := by rfl) (hK : X.K = G.K := by rfl) : DC G X (.builtin "all") mAll := by
  refine ⟨_, cr_all hc, ?_, ?_⟩
  · intro io H S ds vs Q so r h
    unfold mAll at h
    split at h
    · rename_i d
      cases r with
      | cons r1 r2 =>
        cases r2
        split at h
        · rename_i bs hb
          cases el : asL S d with
          | none => rw [el] at hb; cases hb
          | some es =>
            rw [el] at hb
            obtain ⟨a, us, rfl, h1, h2⟩ := asL_ok so r1 el
            have e := bools_ok h2 hb
            subst e
            refine ⟨a, bs, rfl, by rw [hK]; exact h1, ?_⟩
            have e2 : bs.all (fun b => b) = bs.all id := rfl
            rw [e2] at h
            exact h io H Grow.refl so _ (.bl _)
        · exact h.elim
    · exact h.elim
  · intro ds S
    unfold mAll
    repeat' split
    all_goals trivial
end
end Dv
set_option Elab.async false
set_option linter.all false
set_option maxRecDepth 100000
set_option maxHeartbeats 4000000
set_option autoImplicit false
namespace Dv
open PySem PySem.Spec PyProof.Rows L2
/-! ### isinstance -/
/-- what isinstance asks of the text's own classes -/
structure ClsOk (G : Gv) : Prop where
  cls : ∀ c C, G.cl c = some C → Cls G.K C
  ha : ∀ c C, G.cl c = some C → PySem.W.findIn G.K (.ref C) "__class__" = some (some (.builtin "object.__class__"))
  hn : PySem.W.specialIn G.K (.builtin "object.__class__") "__get__" = some (some (.builtin "getset_descriptor.__get__")) ∨ ∀ c, G.cl c = none
  htk : PySem.W.takesIn G.K (.builtin "object.__class__") = some true ∨ ∀ c, G.cl c = none
  hm : ∀ c C, G.cl c = some C → PySem.W.mroIn G.K C (.type "object") = some true
  tyOwn : ∀ c C, G.cl c = some C → ∀ t ∈ tys, PySem.W.kitOne G.K (.type t) (.ref C) = some false
  ownTy : ∀ c C, G.cl c = some C → ∀ t ∈ clss, PySem.W.kitOne G.K (.ref C) (.type t) = some false
  ownOwn : ∀ c C d D, G.cl c = some C → G.cl d = some D → PySem.W.kitOne G.K (.ref C) (.ref D) = some (c == d)
theorem ClsOk.none {G : Gv} (h : ∀ c, G.cl c = none) : ClsOk G := by
  have z : ∀ {P : Prop} {c : String} {C : Addr}, G.cl c = some C → P := fun {P c C} e => by
    rw [h] at e
    cases e
  exact ⟨fun _ _ e => z e, fun _ _ e => z e, .inr h, .inr h, fun _ _ e => z e, fun _ _ e => z e, fun _ _ e => z e, fun _ _ _ _ e => z e⟩
theorem ClsOk.tyOf {G : Gv} (o : ClsOk G) {H : Hp} {a C dx : Addr} {fs : List (Str × V)} {c : String} (h : G.cl c = some C) (e : H a = some (.ins C dx fs)) : TyOf G.K H (.ref a) (.ref C) := by
  have n1 := o.hn.resolve_right fun z => by rw [z] at h; cases h
  have n2 := o.htk.resolve_right fun z => by rw [z] at h; cases h
  exact .ins e (o.cls c C h) (o.ha c C h) n1 n2 (o.hm c C h)
/-- the type of a value: a built-in one, or an own class -/
def tyS (S : Store) (d : Dt) : Option (String ⊕ String) := match d with
  | .non => some (.inl "NoneType")
  | .bl _ => some (.inl "bool")
  | .int _ => some (.inl "int")
  | .str _ => some (.inl "str")
  | .tup _ => some (.inl "tuple")
  | .lst _ => some (.inl "list")
  | .dct _ _ => some (.inl "dict")
  | .ins c _ _ => some (.inr c)
  | .ref i => match S[i]? with
    | some (.lst _) => some (.inl "list")
    | some (.dct _ _) => some (.inl "dict")
    | some (.ins c _ _) => some (.inr c)
    | some (.dkt _ _) => none
    | none => none
  | _ => none
def isiB (t c : String) : Bool := t == c || t == "bool" && c == "int"
theorem kit_isiB {K : PySem.W.Frag} {t c : String} (ht : t ∈ tys) (hc : c ∈ clss) : PySem.W.kitOne K (.type t) (.type c) = some (isiB t c) := by
  have all : (tys.all fun t => clss.all fun c => decide (kitB t c = some (isiB t c))) = true := by decide +kernel
  rw [List.all_eq_true] at all
  have z := List.all_eq_true.mp (all t ht) c hc
  exact kit_ty (of_decide_eq_true z)
def isiT (t : String ⊕ String) (c : Dt) : Option Bool := match t, c with
  | .inl t, .ty n => if n ∈ clss then some (isiB t n) else none
  | .inl _, .cls _ => some false
  | .inr _, .ty n => if n ∈ clss then some false else none
  | .inr c, .cls d => some (c == d)
  | _, _ => none
def isiAny (t : String ⊕ String) : List Dt → Option Bool
  | [] => some false
  | c :: r => match isiT t c with
    | some true => (isiAny t r).map fun _ => true
    | some false => isiAny t r
    | none => none
def mIsi (ds : List Dt) (S : Store) : R Dt := match ds with
  | [x, .tup cs] => match (tyS S x).bind fun t => isiAny t cs with
    | some b => .ok (.bl b) S
    | none => .stuck
  | [x, c] => match (tyS S x).bind fun t => isiT t c with
    | some b => .ok (.bl b) S
    | none => .stuck
  | _ => .stuck
/-- a type as a value of the model -/
inductive TyV (G : Gv) : String ⊕ String → Value → Prop
  | b {t : String} : t ∈ tys → TyV G (.inl t) (.type t)
  | own {c : String} {C : Addr} : G.cl c = some C → TyV G (.inr c) (.ref C)
section
variable {G : Gv} {X : Cx} {W : WX} {io : Io} {H : Hp} {S : Store}
theorem tyS_ok (o : ClsOk G) {d : Dt} {v : V} {t : String ⊕ String} (so : StoreOk G io S H) (r : RelD G io H d v) (h : tyS S d = some t) : ∃ u, TyV G t u ∧ TyX G.K H v u := by
  cases r with
  | non => cases h; exact ⟨_, .b (by decide), .base .non⟩
  | bl b => cases h; exact ⟨_, .b (by decide), .base (.bl b)⟩
  | int i => cases h; exact ⟨_, .b (by decide), .base (.int i)⟩
  | str s => cases h; exact ⟨_, .b (by decide), .base (.str s)⟩
  | tup e _ =>
    cases h
    rcases e with ⟨e, _⟩ | ⟨⟨o, its, n, h1, h2, _⟩, _⟩
    · exact ⟨_, .b (by decide), .base (.tup e)⟩
    · exact ⟨_, .b (by decide), .kTuple h1 h2⟩
  | lst e _ _ => cases h; exact ⟨_, .b (by decide), .base (.lst e)⟩
  | dct e _ _ _ => cases h; exact ⟨_, .b (by decide), .base (.dK e)⟩
  | ins e n c l k => cases h; exact ⟨_, .own c, .base (o.tyOf c e)⟩
  | @ref a i e =>
    unfold tyS at h
    dsimp only at h
    split at h
    · rename_i hs
      obtain ⟨a', h1, h2⟩ := so.at_ hs
      rw [e] at h1
      cases h1
      cases h
      cases h2 with
      | lst e1 _ => exact ⟨_, .b (by decide), .base (.lst e1)⟩
    · rename_i hs
      obtain ⟨a', h1, h2⟩ := so.at_ hs
      rw [e] at h1
      cases h1
      cases h
      cases h2 with
      | dct e1 _ _ => exact ⟨_, .b (by decide), .base (.dK e1)⟩
    · rename_i hs
      obtain ⟨a', h1, h2⟩ := so.at_ hs
      rw [e] at h1
      cases h1
      cases h
      cases h2 with
      | ins e1 c _ _ => exact ⟨_, .own c, .base (o.tyOf c e1)⟩
    · cases h
    · cases h
  | _ => cases h
theorem isiT_ok (o : ClsOk G) {t : String ⊕ String} {u : Value} {c : Dt} {vc : V} {b : Bool} (ht : TyV G t u) (r : RelD G io H c vc) (h : isiT t c = some b) : ∃ uc, ClsV vc uc ∧ PySem.W.kitOne G.K u uc = some b := by
  cases r with
  | ty n =>
    refine ⟨_, .ty n, ?_⟩
    cases ht with
    | b ht =>
      unfold isiT at h
      dsimp only at h
      split at h
      · rename_i hc
        cases h
        exact kit_isiB ht hc
      · cases h
    | own hc =>
      unfold isiT at h
      dsimp only at h
      split at h
      · rename_i hn
        cases h
        exact o.ownTy _ _ hc _ hn
      · cases h
  | @cls c C hC =>
    refine ⟨_, .own C, ?_⟩
    cases ht with
    | b ht =>
      cases h
      exact o.tyOwn _ _ hC _ ht
    | own hc =>
      cases h
      exact o.ownOwn _ _ _ _ hc hC
  | _ => cases ht <;> cases h
theorem isiAny_ok (o : ClsOk G) {t : String ⊕ String} {u : Value} (ht : TyV G t u) : ∀ {cs : List Dt} {vs : List V} {b : Bool}, RelDs G io H cs vs → isiAny t cs = some b → ∃ us, Paired ClsV vs us ∧ PySem.W.kitAny G.K u us = some b
  | [], _, b, r, h => by
    cases r
    cases h
    exact ⟨[], .nil, rfl⟩
  | c :: cs, _, b, r, h => by
    cases r with
    | cons r1 r2 =>
      unfold isiAny at h
      split at h
      · rename_i e1
        cases e : isiAny t cs with
        | none => rw [e] at h; cases h
        | some b' =>
          rw [e] at h
          cases h
          obtain ⟨uc, h1, h2⟩ := isiT_ok o ht r1 e1
          obtain ⟨us, h3, _⟩ := isiAny_ok o ht r2 e
          exact ⟨uc :: us, .cons h1 h3, kitAny_cons h2 (fun z => by cases z) fun _ => rfl⟩
      · rename_i e1
        obtain ⟨uc, h1, h2⟩ := isiT_ok o ht r1 e1
        obtain ⟨us, h3, h4⟩ := isiAny_ok o ht r2 h
        exact ⟨uc :: us, .cons h1 h3, kitAny_cons h2 (fun _ => h4) fun z => by cases z⟩
      · cases h
theorem dc_isi (o : ClsOk G) (hK : X.K = G.K := by rfl) : DC G X (.builtin "isinstance") mIsi := by
  refine ⟨_, ((call_isi (X := X)).or call_isiT).or call_isiK, ?_, ?_⟩
  · intro io H S ds vs Q so r h
    rw [hK]
    unfold mIsi at h
    split at h
    · rename_i x cs
      cases r with
      | cons r1 r2 =>
        cases r2 with
        | cons r2 r3 =>
          cases r3
          split at h
          · rename_i b hb
            cases et : tyS S x with
            | none => rw [et] at hb; cases hb
            | some t =>
              rw [et] at hb
              obtain ⟨u, h1, h2⟩ := tyS_ok o so r1 et
              cases r2 with
              | @tup a _ us e rs =>
                obtain ⟨ws, h3, h4⟩ := isiAny_ok o h1 rs hb
                have q := h io H Grow.refl so _ (.bl b)
                rcases e with ⟨e, _⟩ | ⟨⟨ob, its, n, k1, k2, k3, k4, k5⟩, _⟩
                · exact .inl (.inr ⟨_, _, _, _, _, b, rfl, e, h3, h2, h4, q⟩)
                · obtain ⟨oc, od, dt, sl⟩ := ob
                  simp only at k2 k3
                  subst k2 k3
                  have e3 := ClsV.all h3 k5
                  subst e3
                  exact .inr ⟨_, _, od, its.toList, n, sl, _, b, rfl, by simpa using k1, h2, h4, q⟩
          · exact h.elim
    · rename_i x c hne
      cases r with
      | cons r1 r2 =>
        cases r2 with
        | cons r2 r3 =>
          cases r3
          split at h
          · rename_i b hb
            cases et : tyS S x with
            | none => rw [et] at hb; cases hb
            | some t =>
              rw [et] at hb
              obtain ⟨u, h1, h2⟩ := tyS_ok o so r1 et
              obtain ⟨uc, h3, h4⟩ := isiT_ok o h1 r2 hb
              exact .inl (.inl ⟨_, _, _, _, b, rfl, h3, h2, h4, h io H Grow.refl so _ (.bl b)⟩)
          · exact h.elim
    · exact h.elim
  · intro ds S
    unfold mIsi
    repeat' split
    all_goals trivial
end
/-! ### statements -/
def R.toS {α : Type} (r : R α) (e : Env) (f : α → Store → RS) : RS := match r with
  | .ok a S => f a S
  | .err x S => .err x e S
  | .stuck => .stuck
theorem OutS.bind {G : Gv} {io : Io} {H : Hp} {α : Type} {wx : Ex → Env → Io → Hp → Prop} {post : Fl → Env → Store → Io → Hp → Prop} {r : R α} {e : Env} {f : α → Store → RS} (h : OutS G io H wx post (r.toS e f)) :
    Out G io H (fun x io' H' => wx x e io' H') (fun a S io' H' => OutS G io' H' wx post (f a S)) r := by
  cases r with
  | ok a S => exact fun io' H' g s => OutS.from g h
  | err x S => exact h
  | stuck => exact h
section
variable {G : Gv} {X : Cx} {W : WX} {e : Expr} {me : Env → Store → R Dt} {pos : Pos}
/-- a wish at the statement's slots -/
theorem wx_of {io : Io} {H : Hp} {en : Env} {σ : L2.St} (re : RelEnv G io H en σ) : ∀ x io' H', Grow io H io' H' → wxS G W x en io' H' → wxE G W σ x io' H' := fun x io' H' g z cls dx rx => z σ cls dx (re.mono g) rx
/-- targets -/
def DG (G : Gv) (X : Cx) (tg : Expr) (m : Dt → Env → Store → Option (Env × Store)) : Prop := ∃ g, PG X tg g ∧ ∀ io H S en σ d v (Q : L2.St → Hp → Prop), StoreOk G io S H → RelEnv G io H en σ → RelD G io H d v →
  (match m d en S with
    | some (e', S') => ∀ io' H', Grow io H io' H' → StoreOk G io' S' H' → ∀ σ', RelEnv G io' H' e' σ' → Q σ' H'
    | none => False) → g v σ H Q
def gNm (i : Nat) : Dt → Env → Store → Option (Env × Store) := fun d e S => some (e.set i (some d), S)
theorem dg_name {i : Nat} {x : Str} (hN : X.N.Nodup) (hi : X.N[i]? = some x) (hx : Loc X.env.scope x) (hf : X.fn x = true ∨ X.env.scope.names.lookup x = some .local := by first | exact .inl rfl | exact .inr rfl | assumption) : DG G X (.Name x pos) (gNm i) :=
  ⟨_, pg_name hN hi hx hf, fun io H S en σ d v Q so re r h => h io H Grow.refl so _ (re.set r)⟩
def mSet (i : Nat) (m : Env → Store → R Dt) : Env → Store → RS := fun en S => (m en S).toS en fun d S1 => .ok .nx (en.set i (some d)) S1
theorem ds_set {i : Nat} {x : Str} {pos' : Pos} (hN : X.N.Nodup) (he : DE G X W e me) (hi : X.N[i]? = some x := by rfl) (hx : Loc X.env.scope x := by first | exact Or.inl rfl | exact Or.inr rfl) (hs : swapsWith e (some (.Name x pos')) pos.line X.env = pure false := by rfl) (hf : X.fn x = true ∨ X.env.scope.names.lookup x = some .local := by first | exact .inl rfl | exact .inr rfl | assumption) :
    DS G X W (.Assign [.Name x pos'] e pos) (mSet i me) := by
  obtain ⟨t, p, q⟩ := he
  refine ⟨_, ps_set hN hi hx p hs hf, fun io H S en σ D so re h => ?_⟩
  refine q io H S en σ _ so re (h.bind.imp (wx_of re) fun d S1 i1 H1 g1 s1 k1 v r => ?_)
  exact k1 i1 H1 Grow.refl s1 _ ((re.mono g1).set r)
/-- target = value -/
def mAsg (g : Dt → Env → Store → Option (Env × Store)) (m : Env → Store → R Dt) : Env → Store → RS := fun en S => (m en S).toS en fun d S1 => match g d en S1 with
  | some (e', S') => .ok .nx e' S'
  | none => .stuck
theorem ds_asg {tg : Expr} {g : Dt → Env → Store → Option (Env × Store)} (he : DE G X W e me) (hg : DG G X tg g) (hs : swapsWithSole [tg] e pos.line X.env = pure false := by rfl) (hw : swappedStores [tg] e X.env = pure none := by rfl)
    (h1 : (assignEach [tg] X.env).map (·.2) = [assign tg X.env] := by rfl) : DS G X W (.Assign [tg] e pos) (mAsg g me) := by
  obtain ⟨t, p, q⟩ := he
  obtain ⟨g', p', q'⟩ := hg
  refine ⟨_, ps_asg p p' hs hw h1, fun io H S en σ D so re h => ?_⟩
  refine q io H S en σ _ so re (h.bind.imp (wx_of re) fun d S1 i1 H1 g1 s1 k1 v r => ?_)
  refine q' i1 H1 S1 en σ d v _ s1 (re.mono g1) r ?_
  split
  · rename_i e' S' em
    rw [em] at k1
    exact fun io' H' g s σ' re' => k1 io' H' g s σ' re'
  · rename_i em
    rw [em] at k1
    exact k1.elim
/-- a, b = x, y: plain names -/
def mPar (i j : Nat) (m : Env → Store → R (List Dt)) : Env → Store → RS := fun en S => (m en S).toS en fun ds S1 => match ds with
  | [d, d'] => .ok .nx ((en.set i (some d)).set j (some d')) S1
  | _ => .stuck
/-- an expression alone -/
def mDrop (m : Env → Store → R Dt) : Env → Store → RS := fun en S => (m en S).toS en fun _ S1 => .ok .nx en S1
def mRet (m : Env → Store → R Dt) : Env → Store → RS := fun en S => (m en S).toS en fun d S1 => .ok (.rt d) en S1
theorem ds_ret (he : DE G X W e me) : DS G X W (.Return (some e) pos) (mRet me) := by
  obtain ⟨t, p, q⟩ := he
  refine ⟨_, ps_ret p, fun io H S en σ D so re h => ?_⟩
  exact q io H S en σ _ so re (h.bind.imp (wx_of re) fun d S1 i1 H1 g1 s1 k1 v r => k1 i1 H1 Grow.refl s1 _ r)
def mRetN : Env → Store → RS := fun en S => .ok (.rt .non) en S
def mNx : Env → Store → RS := fun en S => .ok .nx en S
def mBk : Env → Store → RS := fun en S => .ok .bk en S
def mCt : Env → Store → RS := fun en S => .ok .ct en S
/-- blocks -/
def mSeq (m k : Env → Store → RS) : Env → Store → RS := fun en S => match m en S with
  | .ok .nx e1 S1 => k e1 S1
  | r => r
variable {st : Stmt} {sts : List Stmt} {m k : Env → Store → RS}
theorem db_nil : DB G X W [] mNx := ⟨_, pss_nil, fun io H S en σ D so re h => h io H Grow.refl so _ re⟩
theorem db_one (h : DS G X W st m) : DB G X W [st] m := let ⟨_, p, q⟩ := h; ⟨_, pss_one p, q⟩
theorem db_cons (h : DS G X W st m) (h2 : DB G X W sts k) : DB G X W (st :: sts) (mSeq m k) := by
  obtain ⟨t, p, q⟩ := h
  obtain ⟨u, p', q'⟩ := h2
  refine ⟨_, pss_cons p p', fun io H S en σ D so re h => ?_⟩
  refine q io H S en σ _ so re ?_
  unfold mSeq at h
  cases em : m en S with
  | stuck => rw [em] at h; exact h
  | err x e1 S1 => rw [em] at h; exact h
  | ok f e1 S1 =>
    rw [em] at h
    cases f with
    | nx => exact fun i1 H1 g1 s1 σ1 re1 => q' i1 H1 S1 e1 σ1 D s1 re1 (OutS.from g1 h)
    | bk => exact h
    | ct => exact h
    | rt d => exact h
def mIfS (c : Env → Store → R Bool) (a b : Env → Store → RS) : Env → Store → RS := fun en S => (c en S).toS en fun t S1 => if t = true then a en S1 else b en S1
theorem ds_if {c : Expr} {a b : List Stmt} {mc : Env → Store → R Bool} {ma mb : Env → Store → RS} (hc : DT G X W c mc) (ha : DB G X W a ma) (hb : DB G X W b mb) : DS G X W (.If c a b pos) (mIfS mc ma mb) := by
  obtain ⟨t, p, q⟩ := hc
  obtain ⟨ta, pa, qa⟩ := ha
  obtain ⟨tb, pb, qb⟩ := hb
  refine ⟨_, ps_if p pa pb, fun io H S en σ D so re h => ?_⟩
  refine q io H S en σ _ so re (h.bind.imp (wx_of re) fun c S1 i1 H1 g1 s1 k1 => ?_)
  cases c with
  | true => exact qa i1 H1 S1 en σ D s1 (re.mono g1) k1
  | false => exact qb i1 H1 S1 en σ D s1 (re.mono g1) k1
/-! ### while -/
/-! ### for -/
/-- an iterator over these items -/
structure JOk (G : Gv) (io0 : Io) (H0 : Hp) (J : It) (items : List Dt) : Prop where
  go : ∀ i io H, Base io0 H0 io H → i < items.length → J.go i H
  stop : ∀ i io H, Base io0 H0 io H → items.length ≤ i → J.stop i H
  yld : ∀ i io H x H', Base io0 H0 io H → (∀ a, H a = none → a ∉ io) → i < items.length → J.yld i H x H' → ExtH H H' ∧ ∃ d, items[i]? = some d ∧ RelD G io H' d x
def DI (G : Gv) (X : Cx) (W : WX) (tg it : Expr) (m : Env → Store → R (List Dt)) : Prop := ∃ wi, PI X tg it wi ∧ ∀ io H S en σ (Q : It → Hp → Prop), StoreOk G io S H → RelEnv G io H en σ →
  Out G io H (wxE G W σ) (fun items _ io' H' => ∀ J, JOk G io' H' J items → Q J H') (m en S) → wi σ H Q
def fLoop (tg : Dt → Env → Store → Option (Env × Store)) (b : Env → Store → RS) : List Dt → Env → Store → RS
  | [], en, S => .ok .nx en S
  | d :: ds, en, S => match tg d en S with
    | none => .stuck
    | some (e1, S1) => match b e1 S1 with
      | .ok .nx e2 S2 => fLoop tg b ds e2 S2
      | .ok .ct e2 S2 => fLoop tg b ds e2 S2
      | .ok .bk e2 S2 => .ok .nx e2 S2
      | r => r
def mFor (mi : Env → Store → R (List Dt)) (tg : Dt → Env → Store → Option (Env × Store)) (b : Env → Store → RS) : Env → Store → RS := fun en S => (mi en S).toS en fun items S1 => fLoop tg b items en S1
theorem ds_for {tg it : Expr} {body : List Stmt} {mi : Env → Store → R (List Dt)} {g : Dt → Env → Store → Option (Env × Store)} {mb : Env → Store → RS} (hp : PassesOwn (model X.prog X.w) X.A X.env X.xe) (hi : DI G X W tg it mi) (hg : DG G X tg g) (hb : DB G X W body mb)
    (hc : X.calm = true := by rfl) (hs : ∀ x, foldedSetIterable it X.env x = pure x := by intro _; rfl) : DS G X W (.For tg it body [] pos) (mFor mi g mb) := by
  obtain ⟨wi, pi, qi⟩ := hi
  obtain ⟨g', pg, qg⟩ := hg
  obtain ⟨tb, pb, qb⟩ := hb
  refine ⟨_, ps_for hp hc pi pg pb hs, fun io H S en σ D so re h => ?_⟩
  refine qi io H S en σ _ so re (h.bind.imp (wx_of re) fun items S1 i1 H1 g1 s1 k1 J jo => ?_)
  refine ⟨fun i m σ H => m = items.length - i ∧ i ≤ items.length ∧ ∃ io en S, Grow i1 H1 io H ∧ StoreOk G io S H ∧ RelEnv G io H en σ ∧ OutS G io H (wxS G W) (poF G D) (fLoop g mb (items.drop i) en S),
    ⟨_, rfl, Nat.zero_le _, i1, en, S1, Grow.refl, s1, re.mono g1, by simpa using k1⟩, ?_⟩
  rintro i m σ2 H2 ⟨rfl, hle, i2, e2, S2, g2, s2, re2, h2⟩
  by_cases hlt : i < items.length
  · refine .inr ⟨jo.go i i2 H2 g2.base hlt, fun σ' H' => ∃ m', m' < items.length - i ∧ m' = items.length - (i + 1) ∧ i + 1 ≤ items.length ∧ ∃ io en S, Grow i1 H1 io H' ∧ StoreOk G io S H' ∧ RelEnv G io H' en σ' ∧ OutS G io H' (wxS G W) (poF G D) (fLoop g mb (items.drop (i + 1)) en S),
      fun σ' H' z => z, fun x H3 hy => ?_⟩
    obtain ⟨ex, d, hd, rd⟩ := jo.yld i i2 H2 x H3 g2.base (fun _ z => s2.fresh z) hlt hy
    have g3 : Grow i2 H2 i2 H3 := ex.grow
    have s3 := s2.ext ex
    have edr : items.drop i = d :: items.drop (i + 1) := by
      rw [List.drop_eq_getElem_cons hlt]
      have := (List.getElem?_eq_some_iff.mp hd).2
      rw [this]
    rw [edr] at h2
    unfold fLoop at h2
    refine qg i2 H3 S2 e2 σ2 d x _ s3 (re2.mono g3) rd ?_
    split
    · rename_i e4 S4 em
      rw [em] at h2
      dsimp only at h2
      intro i4 H4 g4 s4 σ4 re4
      refine qb i4 H4 S4 e4 σ4 _ s4 re4 ?_
      have h4 := OutS.from (g3.trans g4) h2
      have gg := g2.trans (g3.trans g4)
      cases eb : mb e4 S4 with
      | stuck => rw [eb] at h4; exact h4
      | err x e2 S2 => rw [eb] at h4; exact h4
      | ok fl e5 S5 =>
        rw [eb] at h4
        cases fl with
        | nx => exact fun i5 H5 g5 s5 σ5 re5 => ⟨_, by omega, rfl, hlt, i5, e5, S5, gg.trans g5, s5, re5, OutS.from g5 h4⟩
        | ct => exact fun i5 H5 g5 s5 σ5 re5 => ⟨_, by omega, rfl, hlt, i5, e5, S5, gg.trans g5, s5, re5, OutS.from g5 h4⟩
        | bk => exact h4
        | rt d => exact h4
    · rename_i em
      rw [em] at h2
      exact h2.elim
  · have e : i = items.length := by omega
    subst e
    rw [List.drop_length] at h2
    exact .inl ⟨jo.stop _ i2 H2 g2.base (Nat.le_refl _), h2 i2 H2 Grow.refl s2 _ re2⟩
end
end Dv
set_option Elab.async false
set_option linter.all false
set_option maxRecDepth 100000
set_option maxHeartbeats 4000000
set_option autoImplicit false
namespace Dv
open PySem PySem.Spec PyProof.Rows L2
/-! ### leaving a def: what it made is by value from there on -/
def noRef : Nat → Dt → Bool
  | _, .non => true
  | _, .bl _ => true
  | _, .int _ => true
  | _, .str _ => true
  | _, .ty _ => true
  | _, .cls _ => true
  | k + 1, .tup ds => ds.all (noRef k)
  | k + 1, .lst ds => ds.all (noRef k)
  | k + 1, .fz ds => ds.all (noRef k)
  | k + 1, .ins _ _ ds => ds.all (noRef k)
  | k + 1, .dct _ ds => ds.all (noRef k)
  | _, .lam _ _ => true
  | _, .exc _ _ => true
  | _, _ => false
def mapO {α β : Type} (f : α → Option β) : List α → Option (List β)
  | [] => some []
  | d :: ds => match f d with
    | some x => (mapO f ds).map (x :: ·)
    | none => none
/-- the first n objects of the store stay; the others become values -/
def frz (n : Nat) (S : Store) : Nat → Dt → Option Dt
  | 0, d => if noRef 0 d = true then some d else none
  | k + 1, d => if noRef (k + 1) d = true then some d else match d with
    | .ref i => if i < n then some (.ref i) else match S[i]? with
      | some (.lst ds) => (mapO (frz n S k) ds).map .lst
      | some (.ins c ns ds) => (mapO (frz n S k) ds).map (.ins c ns)
      | some (.dct ks ds) => (mapO (frz n S k) ds).map (.dct ks)
      | some (.dkt _ _) => none
      | none => none
    | .tup ds => (mapO (frz n S k) ds).map .tup
    | .lst ds => (mapO (frz n S k) ds).map .lst
    | .ins c ns ds => (mapO (frz n S k) ds).map (.ins c ns)
    | .dct ks ds => (mapO (frz n S k) ds).map (.dct ks)
    | _ => none
def frzO (n : Nat) (S : Store) (k : Nat) : Ob → Option Ob
  | .lst ds => (mapO (frz n S k) ds).map .lst
  | .ins c ns ds => (mapO (frz n S k) ds).map (.ins c ns)
  | .dct ks ds => (mapO (frz n S k) ds).map (.dct ks)
  | .dkt ks ds => (mapO (frz n S k) ds).map (.dkt ks)
section
variable {G : Gv} {io : Io} {H : Hp} {S : Store}
theorem notin_take {n : Nat} {a : Addr} (h : a ∉ io) : a ∉ io.take n := fun z => h (z.imp List.mem_of_mem_take id)
theorem mapO_len {α β : Type} {f : α → Option β} : ∀ {ds : List α} {es : List β}, mapO f ds = some es → ds.length = es.length
  | [], _, h => by cases h; rfl
  | d :: ds, es, h => by
    unfold mapO at h
    split at h
    · cases e : mapO f ds with
      | none => rw [e] at h; cases h
      | some l =>
        rw [e] at h
        cases h
        rw [List.length_cons, List.length_cons, mapO_len e]
    · cases h
theorem noRef_rel {n : Nat} : ∀ (k : Nat) {d : Dt} {v : V}, noRef k d = true → RelD G io H d v → RelD G (io.take n) H d v := by
  intro k
  induction k with
  | zero =>
    intro d v h r
    cases r with
    | non => exact .non
    | bl b => exact .bl b
    | int i => exact .int i
    | str s => exact .str s
    | ty n => exact .ty n
    | cls hc => exact .cls hc
    | lam e a b => exact .lam e ⟨a.1, notin_take a.2.1, a.2.2⟩ ⟨b.1, notin_take b.2.1, b.2.2⟩
    | k0 hk => exact .k0 hk
    | exc a b c => exact .exc ⟨a.1, notin_take a.2⟩ ⟨b.1, notin_take b.2⟩ c
    | _ => simp [noRef] at h
  | succ k ih =>
    have all : ∀ {ds : List Dt} {vs : List V}, ds.all (noRef k) = true → RelDs G io H ds vs → RelDs G (io.take n) H ds vs := by
      intro ds
      induction ds with
      | nil =>
        intro vs _ r
        cases r
        exact .nil
      | cons d ds ih2 =>
        intro vs h r
        rw [List.all_cons, Bool.and_eq_true] at h
        cases r with
        | cons r1 r2 => exact .cons (ih h.1 r1) (ih2 h.2 r2)
    intro d v h r
    cases r with
    | non => exact .non
    | bl b => exact .bl b
    | int i => exact .int i
    | str s => exact .str s
    | ty n => exact .ty n
    | cls hc => exact .cls hc
    | tup e rs => exact .tup (e.imp (fun z => ⟨z.1, notin_take z.2⟩) id) (all (by simpa [noRef] using h) rs)
    | lst e n rs => exact .lst e (notin_take n) (all (by simpa [noRef] using h) rs)
    | fz e rs => exact .fz (e.imp (fun z => ⟨z.1, notin_take z.2⟩) id) (all (by simpa [noRef] using h) rs)
    | ins e n c l rs => exact .ins e (notin_take n) c l (all (by simpa [noRef] using h) rs)
    | dct e n l rs => exact .dct e (notin_take n) l (all (by simpa [noRef] using h) rs)
    | ref e => simp [noRef] at h
    | lam e a b => exact .lam e ⟨a.1, notin_take a.2.1, a.2.2⟩ ⟨b.1, notin_take b.2.1, b.2.2⟩
    | k0 hk => exact .k0 hk
    | exc a b c => exact .exc ⟨a.1, notin_take a.2⟩ ⟨b.1, notin_take b.2⟩ c
theorem mapO_rel {n : Nat} {f : Dt → Option Dt} (hf : ∀ {d d' : Dt} {v : V}, f d = some d' → RelD G io H d v → RelD G (io.take n) H d' v) : ∀ {ds es : List Dt} {vs : List V}, mapO f ds = some es → RelDs G io H ds vs → RelDs G (io.take n) H es vs
  | [], _, _, h, r => by
    cases h
    cases r
    exact .nil
  | d :: ds, es, _, h, r => by
    unfold mapO at h
    cases r with
    | cons r1 r2 =>
      split at h
      · rename_i x ex
        cases e : mapO f ds with
        | none => rw [e] at h; cases h
        | some l =>
          rw [e] at h
          cases h
          exact .cons (hf ex r1) (mapO_rel hf e r2)
      · cases h
theorem take_at {n i : Nat} {a : Addr} (h : io.l[i]? = some a) (hi : i < n) : (io.take n).l[i]? = some a := by
  show (io.l.take n)[i]? = some a
  rw [List.getElem?_take_of_lt hi]
  exact h
theorem take_not {n i : Nat} {a : Addr} (so : StoreOk G io S H) (h : io.l[i]? = some a) (hi : ¬ i < n) : a ∉ io.take n := fun z => by
  rcases z with z | z
  · obtain ⟨j, hj, e⟩ := List.getElem_of_mem z
    rw [List.length_take] at hj
    rw [List.getElem_take] at e
    obtain ⟨l1, e1⟩ := List.getElem?_eq_some_iff.mp h
    have := (List.getElem_inj so.nd).mp (e.trans e1.symm)
    omega
  · exact so.dis a (List.mem_of_getElem? h) z
theorem map_some {α β : Type} {f : α → β} {o : Option α} {b : β} (h : o.map f = some b) : ∃ a, o = some a ∧ b = f a := by
  cases o with
  | none => cases h
  | some a => cases h; exact ⟨a, rfl, rfl⟩
theorem frz_rel {n : Nat} (so : StoreOk G io S H) : ∀ (k : Nat) {d d' : Dt} {v : V}, frz n S k d = some d' → RelD G io H d v → RelD G (io.take n) H d' v := by
  intro k
  induction k with
  | zero =>
    intro d d' v h r
    unfold frz at h
    split at h
    · rename_i hn
      cases h
      exact noRef_rel 0 hn r
    · cases h
  | succ k ih =>
    intro d d' v h r
    unfold frz at h
    split at h
    · rename_i hn
      cases h
      exact noRef_rel (k + 1) hn r
    · split at h
      · cases r with
        | @ref a i e =>
          split at h
          · rename_i hi
            cases h
            exact .ref (take_at e hi)
          · rename_i hi
            have na := take_not so e hi
            split at h
            · rename_i ds hs
              obtain ⟨es, e1, rfl⟩ := map_some h
              have q := so.ob _ _ _ hs e
              cases q with
              | lst h1 h2 => exact .lst h1 na (mapO_rel ih e1 h2)
            · rename_i c ns ds hs
              obtain ⟨es, e1, rfl⟩ := map_some h
              have q := so.ob _ _ _ hs e
              cases q with
              | ins h1 h2 h3 h4 => exact .ins h1 na h2 (by rw [h3, mapO_len e1]) (mapO_rel ih e1 h4)
            · rename_i ks ds hs
              obtain ⟨es, e1, rfl⟩ := map_some h
              have q := so.ob _ _ _ hs e
              cases q with
              | dct h1 h2 h3 => exact .dct h1 na (by rw [h2, mapO_len e1]) (mapO_rel ih e1 h3)
            · cases h
            · cases h
      · obtain ⟨es, e1, rfl⟩ := map_some h
        cases r with
        | tup e rs => exact .tup (e.imp (fun z => ⟨z.1, notin_take z.2⟩) id) (mapO_rel ih e1 rs)
      · obtain ⟨es, e1, rfl⟩ := map_some h
        cases r with
        | lst e n rs => exact .lst e (notin_take n) (mapO_rel ih e1 rs)
      · obtain ⟨es, e1, rfl⟩ := map_some h
        cases r with
        | ins e n c l rs => exact .ins e (notin_take n) c (by rw [l, mapO_len e1]) (mapO_rel ih e1 rs)
      · obtain ⟨es, e1, rfl⟩ := map_some h
        cases r with
        | dct e n l rs => exact .dct e (notin_take n) (by rw [l, mapO_len e1]) (mapO_rel ih e1 rs)
      · cases h
theorem mapOb_at {f : Ob → Option Ob} : ∀ {S S' : Store} {i : Nat} {o : Ob}, mapO f S = some S' → S'[i]? = some o → ∃ o0, S[i]? = some o0 ∧ f o0 = some o
  | [], _, i, o, h, e => by
    cases h
    simp at e
  | x :: xs, S', i, o, h, e => by
    unfold mapO at h
    split at h
    · rename_i y ey
      cases em : mapO f xs with
      | none => rw [em] at h; cases h
      | some l =>
        rw [em] at h
        cases h
        cases i with
        | zero =>
          cases e
          exact ⟨x, rfl, ey⟩
        | succ i =>
          obtain ⟨o0, h1, h2⟩ := mapOb_at em (i := i) (by simpa using e)
          exact ⟨o0, by simpa using h1, h2⟩
    · cases h
def deepF : Nat := 60
def exitS (n : Nat) (S : Store) : Option Store := mapO (frzO n S deepF) (S.take n)
theorem exitS_ok {n : Nat} {S2 : Store} (so : StoreOk G io S H) (h : exitS n S = some S2) (hn : n ≤ S.length) : StoreOk G (io.take n) S2 H := by
  refine ⟨so.nd.sublist (List.take_sublist _ _), ?_, fun a ha => so.dis a (List.mem_of_mem_take ha), so.hid, fun i o a h1 h2 => ?_, so.tab⟩
  · rw [← mapO_len h, List.length_take, List.length_take, so.len]
  · obtain ⟨o0, e0, e1⟩ := mapOb_at h h1
    rw [List.getElem?_take] at e0 h2
    split at e0
    · rename_i hi
      rw [if_pos hi] at h2
      have q := so.ob i o0 a e0 h2
      cases o0 with
      | lst ds =>
        obtain ⟨es, m1, rfl⟩ := map_some e1
        cases q with
        | lst k1 k2 => exact .lst k1 (mapO_rel (frz_rel so deepF) m1 k2)
      | ins c ns ds =>
        obtain ⟨es, m1, rfl⟩ := map_some e1
        cases q with
        | ins k1 k2 k3 k4 => exact .ins k1 k2 (by rw [k3, mapO_len m1]) (mapO_rel (frz_rel so deepF) m1 k4)
      | dct ks ds =>
        obtain ⟨es, m1, rfl⟩ := map_some e1
        cases q with
        | dct k1 k2 k3 => exact .dct k1 (by rw [k2, mapO_len m1]) (mapO_rel (frz_rel so deepF) m1 k3)
      | dkt ks ds =>
        obtain ⟨es, m1, rfl⟩ := map_some e1
        cases q with
        | dkt k1 k2 k3 => exact .dkt k1 (by rw [k2, mapO_len m1]) (mapO_rel (frz_rel so deepF) m1 k3)
    · cases e0
end
/-! ### defs -/
abbrev Fn := List Dt → Store → R Dt
def fin (keep : Bool) (n : Nat) (d : Dt) (S : Store) : R Dt := if keep = true ∨ S.length = n then .ok d S else match frz n S deepF d, exitS n S with
  | some d', some S' => .ok d' S'
  | _, _ => .stuck
def finX (keep : Bool) (n : Nat) (x : Ex) (S : Store) : R Dt := if keep = true ∨ S.length = n then .err x S else match mapO (frz n S deepF) x.ds, exitS n S with
  | some ds, some S' => .err ⟨x.c, x.ns, ds⟩ S'
  | _, _ => .stuck
/-- a def by its body: keep says that what it made stays an object -/
def fnRun (nl : Nat) (keep : Bool) (body : Env → Store → RS) : Fn := fun ds S => match body (ds.map some ++ List.replicate (nl - ds.length) none) S with
  | .ok (.rt d) _ S' => fin keep S.length d S'
  | .ok .nx _ S' => fin keep S.length .non S'
  | .ok _ _ _ => .stuck
  | .err x _ S' => finX keep S.length x S'
  | .stuck => .stuck
def spF (G : Gv) (np : Nat) (m : Fn) : Sp := fun vs H Q E => ∃ io S ds, StoreOk G io S H ∧ RelDs G io H ds vs ∧ ds.length = np ∧ Out G io H (fun x io' H' => ∀ cls dx, RelX G io' H' x cls dx → E cls dx H') (poE G Q) (m ds S)
theorem grow_take {io io' : Io} {H H' : Hp} (g : Grow io H io' H') : io'.take io.l.length = io ∧ Grow io H io H' := by
  obtain ⟨t, rfl⟩ := g.pre
  exact ⟨by cases io; simp [Io.take], ⟨⟨[], by simp⟩, fun b o h n nt => g.keep b o h n nt, fun a h n => absurd h n⟩⟩
theorem fin_ok {G : Gv} {io io' : Io} {H H' : Hp} {S S' : Store} {keep : Bool} {d : Dt} {v : V} {wx : Ex → Io → Hp → Prop} {Q : VK} (so : StoreOk G io S H) (g : Grow io H io' H') (so' : StoreOk G io' S' H') (r : RelD G io' H' d v)
    (h : Out G io H wx (poE G Q) (fin keep S.length d S')) : Q v H' := by
  unfold fin at h
  split at h
  · exact h io' H' g so' v r
  · split at h
    · rename_i d' S2 e1 e2
      obtain ⟨t1, t2⟩ := grow_take g
      have hn : S.length ≤ S'.length := by
        obtain ⟨t, rfl⟩ := g.pre
        rw [so.len, so'.len, List.length_append]
        omega
      have q1 := frz_rel so' deepF e1 r
      have q2 := exitS_ok so' e2 hn
      rw [so.len, t1] at q1 q2
      exact h io H' t2 q2 v q1
    · exact h.elim
theorem finX_ok {G : Gv} {io io' : Io} {H H' : Hp} {S S' : Store} {keep : Bool} {x : Ex} {cls : Value} {dx : Option Addr} {Q : VK} {E : XK} (so : StoreOk G io S H) (g : Grow io H io' H') (so' : StoreOk G io' S' H') (r : RelX G io' H' x cls dx)
    (h : Out G io H (fun x io' H' => ∀ cls dx, RelX G io' H' x cls dx → E cls dx H') (poE G Q) (finX keep S.length x S')) : E cls dx H' := by
  unfold finX at h
  split at h
  · exact h io' H' g so' cls dx r
  · split at h
    · rename_i ds S2 e1 e2
      obtain ⟨t1, t2⟩ := grow_take g
      have hn : S.length ≤ S'.length := by
        obtain ⟨t, rfl⟩ := g.pre
        rw [so.len, so'.len, List.length_append]
        omega
      have q2 := exitS_ok so' e2 hn
      rw [so.len, t1] at q2
      refine h io H' t2 q2 cls dx ?_
      obtain ⟨C, a, vs, h1, h2, h3, h4, h5, h6, h7⟩ := r
      refine ⟨C, a, vs, h1, h2, h3, h4, ?_, by rw [h6, mapO_len e1], ?_⟩
      · rw [← t1]
        exact notin_take h5
      · have q := mapO_rel (n := S.length) (frz_rel so' deepF) e1 h7
        rw [so.len, t1] at q
        exact q
    · exact h.elim
section
variable {P : Program} {w : World} {K : PySem.W.Frag} {mg : Str → Option Value} {base : Heap} {G : Gv}
theorem rel_start {io : Io} {H : Hp} {N : List Str} {ds : List Dt} {vs : List V} (r : RelDs G io H ds vs) (hl : vs.length ≤ N.length) : RelEnv G io H (ds.map some ++ List.replicate (N.length - ds.length) none) (L2.start N vs) := by
  have l := r.length
  refine ⟨by unfold L2.start; simp [l], fun i d h => ?_⟩
  unfold L2.start
  by_cases hi : i < ds.length
  · rw [List.getElem?_append_left (by simpa using hi), List.getElem?_map] at h
    cases e : ds[i]? with
    | none => rw [e] at h; cases h
    | some x =>
      rw [e] at h
      cases h
      obtain ⟨v, h1, h2⟩ := r.get e
      refine ⟨v, ?_, h2⟩
      rw [List.getElem?_append_left (by rw [List.length_map, ← l]; exact hi), List.getElem?_map, h1]
      rfl
  · rw [List.getElem?_append_right (by simpa using hi), List.getElem?_replicate] at h
    split at h <;> cases h
/-- a def whose exceptions have no context -/
theorem okN {q qual : Str} {st : Stmt} {a : Addr} {fd : FuncData} {N ps : List Str} {k : Nat} {sp : Sp} (F : Fun K q qual st a fd) (S : FnScope N ps (defScope st)) (hl : ∀ vs H Q E, sp vs H Q E → vs.length = ps.length)
    (hb : ∀ (cdv : Value) (A : Around) (outer : List PySem.Env) (s : Shared) (H : Hp) (vs : List V) (Q : VK) (E : XK), Room k (A.deeper (envOfC qual (defScope st) s.heap.objs.size a cdv)) → sp vs H Q E →
      ∃ t, PSs (cxOf (L2N.CX P w) P w K mg base N qual (defScope st) a cdv A outer s H E) (defBody st) t ∧ t { nx := fun _ z => Q .non z, rt := Q } (start N vs) H) : FnOk P w K mg base (L2N.CX P w) (k + 1) a fd ps sp := by
  obtain ⟨_, _, _, _, _, _, c, _, _, e, h1, h2⟩ := F.ex
  subst e
  exact fn_of h1 h2 S hl fun A outer s H vs Q E room hs => hb c A outer s H vs Q E room hs
/-- THE RULE for a def -/
theorem fn_ok {x qual : Str} {st : Stmt} {f : Addr} {fd : FuncData} {N ps : List Str} {k : Nat} {m : Env → Store → RS} (keep : Bool) (F : Fun K x qual st f fd) (S : FnScope N ps (defScope st))
    (hbody : ∀ (cdv : Value) (A : Around) (outer : List PySem.Env) (s : Shared) (H : Hp) (E : XK), Room k (A.deeper (envOfC qual (defScope st) s.heap.objs.size f cdv)) →
      DB G (cxOf (L2N.CX P w) P w K mg base N qual (defScope st) f cdv A outer s H E) (fun cls d _ H => E cls d H) (defBody st) m) : FnOk P w K mg base (L2N.CX P w) (k + 1) f fd ps (spF G ps.length (fnRun N.length keep m)) := by
  refine okN F S (fun vs H Q E h => ?_) (fun cdv A outer s H vs Q E hr h => ?_)
  · obtain ⟨io, St, ds, so, r, hl, _⟩ := h
    rw [← r.length]
    exact hl
  · obtain ⟨io, St, ds, so, r, hl, ho⟩ := h
    obtain ⟨t, p, q⟩ := hbody cdv A outer s H E hr
    refine ⟨t, p, ?_⟩
    have hpl : ps.length ≤ N.length := by have := congrArg List.length S.pre; rw [List.length_take] at this; omega
    have lv := r.length
    refine q io H St _ _ _ so (rel_start r (by omega)) ?_
    unfold fnRun at ho
    cases em : m (ds.map some ++ List.replicate (N.length - ds.length) none) St with
    | stuck => rw [em] at ho; exact ho
    | err x e1 S1 =>
      rw [em] at ho
      exact fun io' H' g so' σ cls dx re rx => finX_ok so g so' rx ho
    | ok fl e1 S1 =>
      rw [em] at ho
      cases fl with
      | nx => exact fun io' H' g so' σ re => fin_ok so g so' .non ho
      | bk => exact ho.elim
      | ct => exact ho.elim
      | rt d => exact fun io' H' g so' v r => fin_ok so g so' r ho
theorem takes0N {X : Cx} : L2N.Takes X (fun _ _ _ _ => False) := fun _ _ ⟨_, _, _, _, _, _, _, _, _, _, _, _, _, _, _, _, no⟩ => no.elim
/-- no def is called deeper than its level -/
theorem fn_tk {qual : Str} {st : Stmt} {f : Addr} {N : List Str} {cdv : Value} {A : Around} {outer : List PySem.Env} {s : Shared} {H : Hp} {E : XK} : L2N.Takes (cxOf (L2N.CX P w) P w K mg base N qual (defScope st) f cdv A outer s H E) (fun cls d _ H => E cls d H) := L2N.takes_of rfl rfl rfl rfl
theorem fn_po {qual : Str} {st : Stmt} {f : Addr} {N : List Str} {cdv : Value} {A : Around} {outer : List PySem.Env} {s : Shared} {H : Hp} {E : XK} : PassesOwn (model P w) (cxOf (L2N.CX P w) P w K mg base N qual (defScope st) f cdv A outer s H E).A (cxOf (L2N.CX P w) P w K mg base N qual (defScope st) f cdv A outer s H E).env (cxOf (L2N.CX P w) P w K mg base N qual (defScope st) f cdv A outer s H E).xe := passes_of (X := cxOf (L2N.CX P w) P w K mg base N qual (defScope st) f cdv A outer s H E) rfl
end
/-- f(e, ..) -/
def mCall (np : Nat) (m : Fn) (ma : Env → Store → R (List Dt)) : Env → Store → R Dt := fun en S => (ma en S).bind fun ds S1 => if ds.length = np then m ds S1 else .stuck
section
variable {G : Gv} {X : Cx} {W : WX} {k np : Nat} {f : Addr} {fd : FuncData} {ps : List Str} {x : Str} {p pos : Pos} {e : Expr} {es : List Expr} {ma : Env → Store → R (List Dt)} {m : Fn}
theorem de_call (F : FnOk X.prog X.w X.K X.mg X.base (L2N.CX X.prog X.w) k f fd ps (spF G np m)) (hr : Room k X.A) (hm : X.mg x = some (.ref f)) (hk : PySem.W.keepIn X.K (.ref f) = true) (hb : Binds X.K fd ps []) (tk : L2N.Takes X W)
    (ha : DA G X W (e :: es) ma) (hg : Gl X x := by rfl) (hdb : (x == ("__debug__" : Str)) = false := by decide) (he : starEach (e :: es) X.env = (false, eval e X.env) :: starEach es X.env := by rfl) (hpl : (backTo pos (starEach es X.env)).any (·.1) = false := by rfl) :
    DE G X W (.Call (.Name x p) (e :: es) [] pos) (mCall np m ma) := by
  obtain ⟨t, pa, qa⟩ := ha
  refine ⟨_, pe_callS (E := WE W) F hr hg hm hk hb (fun σ => L2N.passAt tk σ) pa hdb he hpl, fun io H S en σ Q so re h => ?_⟩
  refine qa io H S en σ _ so re (h.bind.imp (fun _ _ _ _ z => z) fun ds S1 i1 H1 g1 s1 k1 vs r => ?_)
  split at k1
  · rename_i hl
    exact ⟨i1, S1, ds, s1, r, hl, k1⟩
  · exact k1.elim
end
end Dv
set_option Elab.async false
set_option linter.all false
set_option maxRecDepth 100000
set_option maxHeartbeats 4000000
set_option autoImplicit false
namespace Dv
open PySem PySem.Spec PyProof.Rows L2
/-! ### what is walked -/
/-- the items of a value that is walked -/
def itemsD (d : Dt) : Option (List Dt) := match d with
  | .lst ds => some ds
  | .fz ds => some ds
  | .tup ds => some ds
  | _ => none
def mIt (m : Env → Store → R Dt) : Env → Store → R (List Dt) := fun en S => (m en S).bind fun d S1 => match itemsD d with
  | some ds => .ok ds S1
  | none => .stuck
section
variable {G : Gv} {X : Cx} {W : WX} {tg e : Expr} {m : Env → Store → R Dt}
@[irreducible] def rngOk (i : Int) : Bool := decide (-(2 ^ 62) ≤ i ∧ i < 2 ^ 62)
theorem rng_iff {i : Int} : rngOk i = true ↔ -(2 ^ 62) ≤ i ∧ i < 2 ^ 62 := by
  unfold rngOk
  exact decide_eq_true_iff
theorem rng_ok {i : Int} (h0 : -4611686018427387904 ≤ i) (h1 : i < 4611686018427387904) : rngOk i = true := rng_iff.mpr ⟨by omega, by omega⟩
def rangeD (lo : Int) (n : Nat) : List Dt := (List.range n).map fun (k : Nat) => Dt.int (lo + (k : Int))
theorem jok_range {io : Io} {H : Hp} {lo : Int} {n : Nat} : JOk G io H (Itr lo n) (rangeD lo n) := by
  refine ⟨fun i io H g hi => ?_, fun i io H g hi => ?_, fun i io H x H' g _ hi hy => ?_⟩
  · simpa [Itr, rangeD] using hi
  · simpa [Itr, rangeD] using hi
  · obtain ⟨rfl, rfl⟩ := hy
    have hi' : i < n := by simpa [rangeD] using hi
    exact ⟨fun _ _ z => z, .int (lo + i), by simp [rangeD, hi'], .int _⟩
def mRng1 (m : Env → Store → R (List Dt)) : Env → Store → R (List Dt) := fun en S => (m en S).bind fun ds S1 => match ds with
  | [.int j] => if rngOk j = true then .ok (rangeD 0 j.toNat) S1 else .stuck
  | _ => .stuck
def mRng2 (m : Env → Store → R (List Dt)) : Env → Store → R (List Dt) := fun en S => (m en S).bind fun ds S1 => match ds with
  | [.int i, .int j] => if rngOk i = true ∧ rngOk j = true then .ok (rangeD i (j - i).toNat) S1 else .stuck
  | _ => .stuck
variable {a b : Expr} {ma : Env → Store → R (List Dt)} {p pos : Pos}
theorem di_range1 (hm : X.mg "range" = none) (ha : DA G X W [a] ma) (hg : Gl X "range" := by rfl) (hs : starEach [a] X.env = [(false, eval a X.env)] := by rfl) : DI G X W tg (.Call (.Name "range" p) [a] [] pos) (mRng1 ma) := by
  obtain ⟨t, pa, qa⟩ := ha
  refine ⟨_, pi_range1 hg hm pa hs, fun io H S en σ Q so re h => ?_⟩
  refine qa io H S en σ _ so re (h.bind.imp (fun _ _ _ _ z => z) fun ds S1 i1 H1 g1 s1 k1 vs r => ?_)
  split at k1
  · rename_i j
    split at k1
    · rename_i hj
      obtain ⟨h1, h2⟩ := rng_iff.mp hj
      cases r with
      | cons r1 r2 =>
        cases r1
        cases r2
        exact ⟨j, rfl, h1, h2, k1 i1 H1 Grow.refl s1 _ jok_range⟩
    · exact k1.elim
  · exact k1.elim
end
/-! ### comprehensions -/
def wipeE (e : Env) : List Nat → Env
  | [] => e
  | v :: vs => (wipeE e vs).set v none
theorem wipe_get (σ : L2.St) (vs : List Nat) (j : Nat) : (wipe σ vs)[j]? = if j ∈ vs then (if j < σ.length then some none else none) else σ[j]? := by
  induction vs with
  | nil => simp [wipe]
  | cons v vs ih =>
    unfold wipe
    by_cases hv : v = j
    · subst hv
      rw [if_pos (List.mem_cons_self)]
      by_cases hl : v < σ.length
      · rw [List.getElem?_set_self (by rw [wipe_length]; exact hl), if_pos hl]
      · rw [if_neg hl]
        apply List.getElem?_eq_none
        rw [List.length_set, wipe_length]
        omega
    · rw [List.getElem?_set_ne hv, ih]
      have : (j ∈ v :: vs) ↔ j ∈ vs := by
        rw [List.mem_cons]
        exact ⟨fun z => z.resolve_left (fun q => hv q.symm), .inr⟩
      simp only [this]
theorem wipeE_get (σ : Env) (vs : List Nat) (j : Nat) : (wipeE σ vs)[j]? = if j ∈ vs then (if j < σ.length then some none else none) else σ[j]? := by
  have len : ∀ vs : List Nat, (wipeE σ vs).length = σ.length := fun vs => by
    induction vs with
    | nil => rfl
    | cons v vs ih =>
      unfold wipeE
      rw [List.length_set, ih]
  induction vs with
  | nil => simp [wipeE]
  | cons v vs ih =>
    unfold wipeE
    by_cases hv : v = j
    · subst hv
      rw [if_pos (List.mem_cons_self)]
      by_cases hl : v < σ.length
      · rw [List.getElem?_set_self (by rw [len]; exact hl), if_pos hl]
      · rw [if_neg hl]
        apply List.getElem?_eq_none
        rw [List.length_set, len]
        omega
    · rw [List.getElem?_set_ne hv, ih]
      have : (j ∈ v :: vs) ↔ j ∈ vs := by
        rw [List.mem_cons]
        exact ⟨fun z => z.resolve_left (fun q => hv q.symm), .inr⟩
      simp only [this]
theorem rel_wipe {G : Gv} {io : Io} {H : Hp} {e : Env} {σ : L2.St} (r : RelEnv G io H e σ) (vs : List Nat) : RelEnv G io H (wipeE e vs) (wipe σ vs) := by
  have len : ∀ vs : List Nat, (wipeE e vs).length = e.length := fun vs => by
    induction vs with
    | nil => rfl
    | cons v vs ih =>
      unfold wipeE
      rw [List.length_set, ih]
  refine ⟨by rw [len, wipe_length]; exact r.len, fun i d h => ?_⟩
  rw [wipeE_get] at h
  rw [wipe_get]
  split at h
  · split at h <;> cases h
  · rename_i hi
    rw [if_neg hi]
    exact r.at_ i d h
/-- a target of names alone that sets these slots -/
def DGw (G : Gv) (X : Cx) (tg : Expr) (sl : List Nat) (m : Dt → Env → Option Env) : Prop := ∃ g, PG X tg g ∧ ∀ io H en σ d v (Q : L2.St → Hp → Prop), RelEnv G io H en σ → RelD G io H d v →
  (match m d en with
    | some e' => ∀ σ', RelEnv G io H e' σ' → σ'.length = σ.length → (∀ j : Nat, j ∉ sl → σ'[j]? = σ[j]?) → Q σ' H
    | none => False) → g v σ H Q
def wNm (i : Nat) : Dt → Env → Option Env := fun d e => some (e.set i (some d))
section
variable {G : Gv} {X : Cx} {pos : Pos}
theorem dgw_name {i : Nat} {x : Str} (hN : X.N.Nodup) (hi : X.N[i]? = some x) (hx : Loc X.env.scope x) (hf : X.fn x = true ∨ X.env.scope.names.lookup x = some .local := by first | exact .inl rfl | exact .inr rfl | assumption) : DGw G X (.Name x pos) [i] (wNm i) :=
  ⟨_, pg_name hN hi hx hf, fun io H en σ d v Q re r h => h _ (re.set r) (by simp) fun j hj => List.getElem?_set_ne (by simpa [eq_comm] using hj)⟩
end
/-- no error leaves a comprehension -/
def R.nx {α : Type} (r : R α) : R α := match r with
  | .ok a S => .ok a S
  | _ => .stuck
abbrev W0 : WX := fun _ _ _ _ => False
def cLoop (tg : Dt → Env → Option Env) (t : Env → Store → R Bool) (m : Env → Store → R Dt) (en : Env) : List Dt → List Dt → Store → R (List Dt)
  | [], acc, S => .ok acc S
  | d :: ds, acc, S => match tg d en with
    | none => .stuck
    | some e1 => (t e1 S).nx.bind fun b S1 => if b = true then (m e1 S1).nx.bind fun x S2 => if acc.length < 1000000 then cLoop tg t m en ds (acc ++ [x]) S2 else .stuck else cLoop tg t m en ds acc S1
def mYes : Env → Store → R Bool := fun _ S => .ok true S
/-- tests of a comprehension -/
def DTs (G : Gv) (X : Cx) (W : WX) (ts : List Expr) (m : Env → Store → R Bool) : Prop := ∃ t, PTs X ts t ∧ SimT G W t m
def mLc (sl : List Nat) (mi : Env → Store → R (List Dt)) (tg : Dt → Env → Option Env) (t : Env → Store → R Bool) (m : Env → Store → R Dt) : Env → Store → R Dt := fun en S => (mi en S).bind fun items S1 => (cLoop tg t m (wipeE en sl) items [] S1).bind fun ds S2 => .ok (.lst ds) S2
section
variable {G : Gv} {X : Cx} {W : WX}
theorem dts_nil : DTs G X W [] mYes := ⟨_, pts_nil, fun io H S e σ Q so re h => h io H Grow.refl so⟩
theorem Out.nx {io : Io} {H : Hp} {α : Type} {wx wx' : Ex → Io → Hp → Prop} {post : α → Store → Io → Hp → Prop} {r : R α} (h : Out G io H wx post r.nx) : Out G io H wx' post r := by
  cases r with
  | ok a S => exact h
  | err x S => exact h.elim
  | stuck => exact h
/-- the base stays -/
theorem Out.bind0 {io : Io} {H : Hp} {α β : Type} {wx : Ex → Io → Hp → Prop} {post : β → Store → Io → Hp → Prop} {r : R α} {f : α → Store → R β} (h : Out G io H wx post (r.bind f)) :
    Out G io H wx (fun a S _ _ => Out G io H wx post (f a S)) r := by
  cases r with
  | ok a S => exact fun io' H' g s => h
  | err x S => exact h
  | stuck => exact h
theorem wipe_eq {σ σ' : L2.St} {sl own : List Nat} (hs : ∀ j ∈ sl, j ∈ own) (l : σ'.length = (wipe σ own).length) (u : ∀ j : Nat, j ∉ sl → σ'[j]? = (wipe σ own)[j]?) : wipe σ' own = wipe σ own := by
  apply List.ext_getElem?
  intro j
  rw [wipe_get, wipe_get]
  rw [wipe_length] at l
  by_cases hj : j ∈ own
  · rw [if_pos hj, if_pos hj, l]
  · rw [if_neg hj, if_neg hj, u j fun z => hj (hs j z), wipe_get, if_neg hj]
/-- one address more is let change -/
abbrev Io.hide (io : Io) (D : Addr) : Io := ⟨io.l, D :: io.h⟩
section
variable {io i1 : Io} {H H1 : Hp} {D : Addr}
theorem hide_mem {a : Addr} : a ∈ io.hide D ↔ a = D ∨ a ∈ io := by
  constructor
  · rintro (h | h)
    · exact .inr (.inl h)
    · rcases List.mem_cons.mp h with h | h
      · exact .inl h
      · exact .inr (.inr h)
  · rintro (h | h)
    · exact .inr (List.mem_cons.mpr (.inl h))
    · rcases h with h | h
      · exact .inl h
      · exact .inr (List.mem_cons.mpr (.inr h))
mutual
theorem RelD.unhide : ∀ {d : Dt} {v : V}, RelD G (io.hide D) H d v → RelD G io H d v
  | _, _, .non => .non
  | _, _, .bl b => .bl b
  | _, _, .int i => .int i
  | _, _, .str s => .str s
  | _, _, .ty n => .ty n
  | _, _, .cls h => .cls h
  | _, _, .tup h r => .tup (h.imp (fun z => ⟨z.1, fun q => z.2 (hide_mem.mpr (.inr q))⟩) id) (RelDs.unhide r)
  | _, _, .lst h n r => .lst h (fun q => n (hide_mem.mpr (.inr q))) (RelDs.unhide r)
  | _, _, .fz h r => .fz (h.imp (fun z => ⟨z.1, fun q => z.2 (hide_mem.mpr (.inr q))⟩) id) (RelDs.unhide r)
  | _, _, .ins h n c l r => .ins h (fun q => n (hide_mem.mpr (.inr q))) c l (RelDs.unhide r)
  | _, _, .dct h n l r => .dct h (fun q => n (hide_mem.mpr (.inr q))) l (RelDs.unhide r)
  | _, _, .ref h => .ref h
  | _, _, .lam h a b => .lam h ⟨a.1, fun q => a.2.1 (hide_mem.mpr (.inr q)), a.2.2⟩ ⟨b.1, fun q => b.2.1 (hide_mem.mpr (.inr q)), b.2.2⟩
  | _, _, .k0 h => .k0 h
  | _, _, .exc a b c => .exc ⟨a.1, fun q => a.2 (hide_mem.mpr (.inr q))⟩ ⟨b.1, fun q => b.2 (hide_mem.mpr (.inr q))⟩ c
theorem RelDs.unhide : ∀ {ds : List Dt} {vs : List V}, RelDs G (io.hide D) H ds vs → RelDs G io H ds vs
  | _, _, .nil => .nil
  | _, _, .cons h r => .cons (RelD.unhide h) (RelDs.unhide r)
end
theorem base_hid {o : HO} : Base (io.hide D) H (io.hide D) (upd H D o) := by
  refine ⟨fun _ _ h => h, fun b u h n _ => ⟨?_, n⟩⟩
  rw [upd_ne fun z => n (hide_mem.mpr (.inl z))]
  exact h
mutual
theorem RelD.hide (hD : H D = none) : ∀ {d : Dt} {v : V}, RelD G io H d v → RelD G (io.hide D) H d v
  | _, _, .non => .non
  | _, _, .bl b => .bl b
  | _, _, .int i => .int i
  | _, _, .str s => .str s
  | _, _, .ty n => .ty n
  | _, _, .cls h => .cls h
  | _, _, .tup h r => .tup (h.imp (fun z => ⟨z.1, fun q => (hide_mem.mp q).elim (fun e => ne_of_none z.1 hD e) z.2⟩) id) (RelDs.hide hD r)
  | _, _, .lst h n r => .lst h (fun q => (hide_mem.mp q).elim (fun e => ne_of_none h hD e) n) (RelDs.hide hD r)
  | _, _, .fz h r => .fz (h.imp (fun z => ⟨z.1, fun q => (hide_mem.mp q).elim (fun e => z.1.elim (fun k => ne_of_none k hD e) fun ⟨_, k⟩ => ne_of_none k hD e) z.2⟩) id) (RelDs.hide hD r)
  | _, _, .ins h n c l r => .ins h (fun q => (hide_mem.mp q).elim (fun e => ne_of_none h hD e) n) c l (RelDs.hide hD r)
  | _, _, .dct h n l r => .dct h (fun q => (hide_mem.mp q).elim (fun e => ne_of_none h hD e) n) l (RelDs.hide hD r)
  | _, _, .ref h => .ref h
  | _, _, .lam h a b => .lam h ⟨a.1, fun q => (hide_mem.mp q).elim (fun e => ne_of_none a.1 hD e) a.2.1, a.2.2⟩ ⟨b.1, fun q => (hide_mem.mp q).elim (fun e => ne_of_none b.1 hD e) b.2.1, b.2.2⟩
  | _, _, .k0 h => .k0 h
  | _, _, .exc a b c => .exc ⟨a.1, fun q => (hide_mem.mp q).elim (fun e => ne_of_none a.1 hD e) a.2⟩ ⟨b.1, fun q => (hide_mem.mp q).elim (fun e => ne_of_none b.1 hD e) b.2⟩ c
theorem RelDs.hide (hD : H D = none) : ∀ {ds : List Dt} {vs : List V}, RelDs G io H ds vs → RelDs G (io.hide D) H ds vs
  | _, _, .nil => .nil
  | _, _, .cons h r => .cons (RelD.hide hD h) (RelDs.hide hD r)
end
theorem RelO.hide (hD : H D = none) {o : Ob} {a : Addr} (r : RelO G io H o a) : RelO G (io.hide D) H o a := by
  cases r with
  | lst h k => exact .lst h (k.hide hD)
  | ins h c l k => exact .ins h c l (k.hide hD)
  | dct h l k => exact .dct h l (k.hide hD)
  | dkt h l k => exact .dkt h l (k.hide hD)
theorem RelO.unhide {o : Ob} {a : Addr} (r : RelO G (io.hide D) H o a) : RelO G io H o a := by
  cases r with
  | lst h k => exact .lst h k.unhide
  | ins h c l k => exact .ins h c l k.unhide
  | dct h l k => exact .dct h l k.unhide
  | dkt h l k => exact .dkt h l k.unhide
/-- a new list that is being made -/
theorem so_hide {S : Store} (so : StoreOk G io S H) (hD : H D = none) {o : HO} (nt : NoTx o := by exact ⟨(fun _ e => by cases e), (fun _ e => by cases e)⟩) : StoreOk G (io.hide D) S (upd H D o) := by
  have e := ExtH.new (o := o) hD
  refine ⟨so.nd, so.len, fun a ha hh => ?_, fun a ha => ?_, fun i ob a h1 h2 => ((so.ob i ob a h1 h2).hide hD).ext e, tabs_upd so.tab (pl_none hD)⟩
  · rcases List.mem_cons.mp hh with z | z
    · rw [z] at ha
      exact so.fresh hD (.inl ha)
    · exact so.dis a ha z
  · rcases List.mem_cons.mp ha with z | z
    · rw [z]
      exact ⟨o, upd_same, nt⟩
    · obtain ⟨u, q, nt⟩ := so.hid a z
      exact ⟨u, e _ _ q, nt⟩
theorem so_unhide {S : Store} (so : StoreOk G (io.hide D) S H) : StoreOk G io S H :=
  ⟨so.nd, so.len, fun a ha hh => so.dis a ha (List.mem_cons_of_mem _ hh), fun a ha => so.hid a (List.mem_cons_of_mem _ ha), fun i ob a h1 h2 => (so.ob i ob a h1 h2).unhide, so.tab⟩
/-- the hidden list grows -/
theorem so_hid {S : Store} (so : StoreOk G (io.hide D) S H) {o : HO} (hp : ∀ o, H D = some o → PlainO o := by exact pl_some (by assumption)) (nt : NoTx o := by exact ⟨(fun _ e => by cases e), (fun _ e => by cases e)⟩) : StoreOk G (io.hide D) S (upd H D o) := by
  refine ⟨so.nd, so.len, so.dis, fun a ha => ?_, fun i ob a h1 h2 => ?_, tabs_upd so.tab hp⟩
  · by_cases z : a = D
    · rw [z]
      exact ⟨o, upd_same, nt⟩
    · rw [upd_ne z]
      exact so.hid a ha
  · have na : a ≠ D := fun z => so.dis a (List.mem_of_getElem? h2) (by rw [z]; exact List.mem_cons_self)
    have q := so.ob i ob a h1 h2
    cases q with
    | lst k1 k2 => exact .lst (by rw [upd_ne na]; exact k1) (k2.monoB base_hid)
    | ins k1 c l k2 => exact .ins (by rw [upd_ne na]; exact k1) c l (k2.monoB base_hid)
    | dct k1 l k2 => exact .dct (by rw [upd_ne na]; exact k1) l (k2.monoB base_hid)
    | dkt k1 l k2 => exact .dkt (by rw [upd_ne na]; exact k1) l (k2.monoB base_hid)
theorem grow_un (g : Grow (io.hide D) H (i1.hide D) H1) : Grow io H i1 H1 := by
  obtain ⟨t, e⟩ := g.pre
  have e1 : i1.l = io.l ++ t := congrArg Io.l e
  have e2 : i1.h = io.h := (List.cons.inj (congrArg Io.h e)).2
  exact ⟨⟨t, by cases i1; simp only at e1 e2; subst e1 e2; rfl⟩, fun b o h n nt => g.keep b o h n nt, g.new⟩
end
/-- a state with a hidden list D is one of io.hide D: how the two ends fit -/
theorem io_hide {io i1 : Io} {H H1 : Hp} {D : Addr} (g : Grow (io.hide D) H i1 H1) : ∃ i2 : Io, i1 = i2.hide D := by
  obtain ⟨t, e⟩ := g.pre
  exact ⟨⟨io.l ++ t, io.h⟩, e⟩
/-- the reading of a comprehension, from the iterator on -/
theorem lc_sim {J : It} {g : TG} {tt : TT} {te : TE} {own sl : List Nat} {io : Io} {H : Hp} {S : Store} {en : Env} {σ : L2.St} {items : List Dt} {mg : Dt → Env → Option Env} {mt : Env → Store → R Bool} {m : Env → Store → R Dt} {wx : Ex → Io → Hp → Prop} {post : List Dt → Store → Io → Hp → Prop} {D : Addr}
    (hs : ∀ j ∈ sl, j ∈ own) (jo : JOk G io H J items) (so : StoreOk G io S H) (re : RelEnv G io H en σ)
    (hg : ∀ io H en σ d v (Q : L2.St → Hp → Prop), RelEnv G io H en σ → RelD G io H d v → (match mg d en with
      | some e' => ∀ σ', RelEnv G io H e' σ' → σ'.length = σ.length → (∀ j : Nat, j ∉ sl → σ'[j]? = σ[j]?) → Q σ' H
      | none => False) → g v σ H Q) (ht : SimT G W0 tt mt) (hm : SimE G W0 te m) (hD : H D = none)
    (h : Out G io H wx post (cLoop mg mt m (wipeE en own) items [] S)) (Rf : V → Hp → Prop)
    (hq : ∀ ds acc S' (io' : Io) H', Grow io H io' H' → StoreOk G (io'.hide D) S' H' → H' D = some (.lst acc) → RelDs G (io'.hide D) H' ds acc → post ds S' io' H' → Rf (.ref D) H') :
    ∃ W : Nat → Nat → Hp → Prop, (∃ m, W 0 m (upd H D (.lst []))) ∧ ∀ i m H, W i m H →
      (J.stop i H ∧ Rf (.ref D) H) ∨ (J.go i H ∧ ∃ Nx : Hp → Prop, (∀ H', Nx H' → ∃ m', m' < m ∧ W (i + 1) m' H') ∧ ∀ x H', J.yld i H x H' → g x (wipe σ own) H' fun σ2 H2 => wipe σ2 own = wipe σ own ∧ tt σ2 H2 fun b H3 =>
        if b = true then te σ2 H3 fun y H4 => ∃ acc, H4 D = some (.lst acc) ∧ acc.length < sizeLine ∧ Nx (upd H4 D (.lst (acc ++ [y]))) else Nx H3) := by
  let Wp : Nat → Nat → Hp → Prop := fun i n H' => n = items.length - i ∧ i ≤ items.length ∧ ∃ (io' : Io) (S' : Store) (dacc : List Dt) (acc : List V), Grow io H io' H' ∧ StoreOk G (io'.hide D) S' H' ∧ H' D = some (.lst acc) ∧ RelDs G (io'.hide D) H' dacc acc ∧ Out G io H wx post (cLoop mg mt m (wipeE en own) (items.drop i) dacc S')
  have gup : ∀ {i1 : Io} {H1 : Hp} {o : HO}, Grow io H i1 H1 → Grow io H i1 (upd H1 D o) := fun {i1 H1 o} g => ⟨g.pre, fun b u hb nb nt => by
    rw [upd_ne (ne_of_none hb hD)]
    exact g.keep b u hb nb nt, g.new⟩
  have base : ∀ {i1 : Io} {H1 : Hp}, Grow io H i1 H1 → Base io H (i1.hide D) H1 := fun {i1 H1} g => ⟨fun j a e => g.at e, fun b o hb nb nt => ⟨g.kp hb nb nt, fun z => (hide_mem.mp z).elim (ne_of_none hb hD) (g.notin hb nb nt)⟩⟩
  refine ⟨Wp, ⟨items.length, rfl, Nat.zero_le _, io, S, [], [], gup Grow.refl, so_hide so hD, upd_same, .nil, by simpa using h⟩, ?_⟩
  rintro i n H2 ⟨rfl, hle, i2, S2, dacc, acc, gu, s2, hD2, ra, h2⟩
  by_cases hlt : i < items.length
  · refine .inr ⟨jo.go i _ H2 (base gu) hlt, fun H' => Wp (i + 1) (items.length - (i + 1)) H', fun H' z => ⟨_, by omega, z⟩, fun x H3 hy => ?_⟩
    obtain ⟨ex, d, hd, rd⟩ := jo.yld i _ H2 x H3 (base gu) (fun _ z => s2.fresh z) hlt hy
    have g3 : Grow (i2.hide D) H2 (i2.hide D) H3 := ex.grow
    have s3 := s2.ext ex
    have edr : items.drop i = d :: items.drop (i + 1) := by
      rw [List.drop_eq_getElem_cons hlt]
      have := (List.getElem?_eq_some_iff.mp hd).2
      rw [this]
    rw [edr] at h2
    unfold cLoop at h2
    have gu3 : Grow io H i2 H3 := gu.trans (grow_un g3)
    have re3 : RelEnv G (i2.hide D) H3 en σ := ⟨re.len, fun j d e => let ⟨v, h1, h2⟩ := re.at_ j d e; ⟨v, h1, h2.monoB (base gu3)⟩⟩
    refine hg _ H3 (wipeE en own) (wipe σ own) d x _ (rel_wipe re3 own) rd ?_
    cases em : mg d (wipeE en own) with
    | none =>
      rw [em] at h2
      exact h2
    | some e1 =>
      rw [em] at h2
      intro σ2 rσ l2 u2
      refine ⟨wipe_eq hs l2 u2, ?_⟩
      -- an end wished at the base, asked with D hidden
      have lift : ∀ {α : Type} {wx : Ex → Io → Hp → Prop} {post : α → Store → Io → Hp → Prop} {r : R α} {i4 : Io} {H4 : Hp}, Grow io H i4 H4 → Out G io H wx post r.nx → Out G (i4.hide D) H4 (fun _ _ _ => False) (fun a S i5' H5 => ∀ i5 : Io, i5' = i5.hide D → Grow i4 H4 i5 H5 → post a S i5 H5) r := by
        intro α wx post r i4 H4 g4 h
        cases r with
        | ok a S =>
          intro i5' H5 g5 s5 i5 e g5'
          subst e
          exact h i5 H5 (g4.trans g5') (so_unhide s5)
        | err x S => exact h.elim
        | stuck => exact h
      refine ht _ H3 S2 e1 σ2 _ s3 rσ ((lift gu3 h2.bind0).imp (fun _ _ _ _ z => z.elim) fun b S4 i4' H4 g4 s4 k4 => ?_)
      obtain ⟨i4, rfl⟩ := io_hide g4
      have g4' := grow_un g4
      have k4 := k4 i4 rfl g4'
      have hD4 : H4 D = some (.lst acc) := g4.keep _ _ (ex _ _ hD2) fun z => s2.dis D z List.mem_cons_self
      cases b with
      | false => exact ⟨rfl, hlt, i4, S4, dacc, acc, gu3.trans g4', s4, hD4, (ra.mono g3).mono g4, k4⟩
      | true =>
        rw [if_pos rfl] at k4
        refine iteT (B := Wp (i + 1) (items.length - (i + 1)) H4) ?_
        refine hm _ H4 S4 e1 σ2 _ s4 (rσ.mono g4) ((lift (gu3.trans g4') k4.bind0).imp (fun _ _ _ _ z => z.elim) fun y S5 i5' H5 g5 s5 k5 v rv => ?_)
        obtain ⟨i5, rfl⟩ := io_hide g5
        have g5' := grow_un g5
        have k5 := k5 i5 rfl g5'
        have hD5 : H5 D = some (.lst acc) := g5.keep _ _ hD4 fun z => s4.dis D z List.mem_cons_self
        have ra5 := ((ra.mono g3).mono g4).mono g5
        split at k5
        · rename_i hl
          have la := ra.length
          exact ⟨acc, hD5, Nat.lt_of_lt_of_le (by rw [← la]; exact hl) (by decide), rfl, hlt, i5, S5, dacc ++ [y], acc ++ [v], gup ((gu3.trans g4').trans g5'), so_hid s5, upd_same, (ra5.append (.cons rv .nil)).monoB base_hid, k5⟩
        · exact k5.elim
  · have e : i = items.length := by omega
    subst e
    rw [List.drop_length] at h2
    exact .inl ⟨jo.stop _ _ H2 (base gu) (Nat.le_refl _), hq dacc acc S2 i2 H2 gu s2 hD2 ra (h2 i2 H2 gu (so_unhide s2))⟩
variable {elt tg iter : Expr} {ifs : List Expr} {scope : Scope} {own : List (Str × Nat)} {sl : List Nat} {pos : Pos} {mi : Env → Store → R (List Dt)} {mg : Dt → Env → Option Env} {mt : Env → Store → R Bool} {m : Env → Store → R Dt}
/-! the readings that a function's result gives -/
def cE (G : Gv) (W : WX) (m : Env → Store → R Dt) : TE := fun σ H Q => ∃ io S en, StoreOk G io S H ∧ RelEnv G io H en σ ∧ Out G io H (wxE G W σ) (poE G Q) (m en S)
def cT (G : Gv) (W : WX) (m : Env → Store → R Bool) : TT := fun σ H Q => ∃ io S en, StoreOk G io S H ∧ RelEnv G io H en σ ∧ Out G io H (wxE G W σ) (poT Q) (m en S)
def cGw (G : Gv) (sl : List Nat) (m : Dt → Env → Option Env) : TG := fun v σ H Q => ∃ io en d, RelEnv G io H en σ ∧ RelD G io H d v ∧ (match m d en with
    | some e' => ∀ σ', RelEnv G io H e' σ' → σ'.length = σ.length → (∀ j : Nat, j ∉ sl → σ'[j]? = σ[j]?) → Q σ' H
    | none => False)
theorem can_e {e : Expr} (h : DE G X W e m) : PE X e (cE G W m) := by
  obtain ⟨t, p, q⟩ := h
  exact ⟨fun pins s σ H Q I ⟨io, S, en, so, re, h⟩ => p.run pins s σ H Q I (q io H S en σ Q so re h)⟩
theorem can_t {ts : List Expr} (h : DTs G X W ts mt) : PTs X ts (cT G W mt) := by
  obtain ⟨t, p, q⟩ := h
  exact ⟨fun pins s σ H Q I ⟨io, S, en, so, re, h⟩ => p.run pins s σ H Q I (q io H S en σ Q so re h)⟩
theorem can_g (h : DGw G X tg sl mg) : PG X tg (cGw G sl mg) := by
  obtain ⟨t, p, q⟩ := h
  exact ⟨fun pins s σ H v u Q I r ⟨io, en, d, re, rd, h⟩ => p.run pins s σ H v u Q I r (q io H en σ d v Q re rd h)⟩
/-- [e for x in xs if t], by value -/
theorem de_lc (own : List (Str × Nat)) (hN : X.N.Nodup) (hi : DI G X W tg iter mi) (ok : BlkOk X.N X.env.scope scope own)
    (hg : ∀ (s : Shared) (H : Hp) (C : Addr) (cl : List (Str × Addr)) (fp : List Addr), DGw G (X.blk s H scope (compEnvC scope cl C X.env) fp) tg sl mg)
    (ht : ∀ (s : Shared) (H : Hp) (C : Addr) (cl : List (Str × Addr)) (fp : List Addr), DTs G (X.blk s H scope (compEnvC scope cl C X.env) fp) W0 ifs mt)
    (he : ∀ (s : Shared) (H : Hp) (C : Addr) (cl : List (Str × Addr)) (fp : List Addr), DE G (X.blk s H scope (compEnvC scope cl C X.env) fp) W0 elt m)
    (hsl : ∀ j ∈ sl, j ∈ own.map (·.2) := by decide) (hc : X.calm = true := by rfl) (hs : ∀ x, foldedSetIterable iter X.env x = pure x := by intro _; rfl) :
    DE G X W (.ListComp elt [⟨tg, iter, ifs, 0⟩] scope pos) (mLc (own.map (·.2)) mi mg mt m) := by
  obtain ⟨wi, pi, qi⟩ := hi
  refine ⟨_, pe_lc hc hN pi ok (fun s H C cl fp => can_g (hg s H C cl fp)) (fun s H C cl fp => can_t (ht s H C cl fp)) (fun s H C cl fp => can_e (he s H C cl fp)) hs, fun io H S en σ Q so re h => ?_⟩
  refine qi io H S en σ _ so re (h.bind.imp (fun _ _ _ _ z => z) fun items S1 i1 H1 g1 s1 k1 J jo => ?_)
  intro D hD
  refine lc_sim hsl jo s1 (re.mono g1) (fun io H en σ d v Q re rd h => ⟨io, en, d, re, rd, h⟩) (fun io H S e σ Q so re h => ⟨io, S, e, so, re, h⟩) (fun io H S e σ Q so re h => ⟨io, S, e, so, re, h⟩) hD k1.bind (fun v H => Q v H) ?_
  intro ds acc S' io' H' g' s' hD' rs post
  refine post io' H' Grow.refl (so_unhide s') (.ref D) (.lst hD' (fun z => ?_) rs.unhide)
  rcases z with z | z
  · exact s'.dis D z List.mem_cons_self
  · obtain ⟨t, rfl⟩ := g'.pre
    obtain ⟨u, e, _⟩ := s1.hid D z
    rw [hD] at e
    cases e
end
end Dv
set_option Elab.async false
set_option linter.all false
set_option maxRecDepth 100000
set_option maxHeartbeats 4000000
set_option autoImplicit false
namespace Dv
open PySem PySem.Spec PyProof.Rows L2
/-! ### o[i] = v of a list of the store -/
def setIx (S : Store) (x y v : Dt) : Option Store := match x, y with
  | .ref k, .int j => match S[k]? with
    | some (.lst ds) => (ixN ds.length j).map fun n => S.set k (.lst (ds.set n v))
    | _ => none
  | _, _ => none
def gSubD (mo mi : Env → Store → R Dt) : Dt → Env → Store → Option (Env × Store) := fun d en S => match mo en S with
  | .ok x S1 => match mi en S1 with
    | .ok y S2 => (setIx S2 x y d).map fun S3 => (en, S3)
    | _ => none
  | _ => none
section
variable {G : Gv} {X : Cx} {W : WX}
theorem setIx_ok {io : Io} {H : Hp} {S S' : Store} {x y d : Dt} {vx vy v : V} (so : StoreOk G io S H) (rx : RelD G io H x vx) (ry : RelD G io H y vy) (rd : RelD G io H d v) (h : setIx S x y d = some S') :
    ∃ p xs k j, vx = .ref p ∧ vy = .int k ∧ H p = some (.lst xs) ∧ ixN xs.length k = some j ∧ Grow io H io (upd H p (.lst (xs.set j v))) ∧ StoreOk G io S' (upd H p (.lst (xs.set j v))) := by
  unfold setIx at h
  split at h
  · rename_i k j
    split at h
    · rename_i ds hs
      obtain ⟨n, hn, rfl⟩ := map_some h
      cases rx with
      | ref e =>
        cases ry
        obtain ⟨a, h1, h2⟩ := so.at_ hs
        rw [e] at h1
        cases h1
        cases h2 with
        | lst h3 h4 =>
          have l := h4.length
          have g0 := (so.write (u := .lst (List.set _ n v)) e (.lst upd_same ((RelDs.set n rd h4).monoB ⟨fun _ _ z => z, fun b o hb nb _ => ⟨by
            rw [upd_ne fun z => nb (by rw [z]; exact .inl (List.mem_of_getElem? e))]
            exact hb, nb⟩⟩)))
          exact ⟨_, _, j, n, rfl, rfl, h3, by rw [← l]; exact hn, g0.1, g0.2⟩
    · cases h
  · cases h
theorem dg_sub {o i : Expr} {mo mi : Env → Store → R Dt} {pos : Pos} (ho : DE G X W0 o mo) (hi : DE G X W0 i mi)
    (ha : ∀ v, assign (.Subscript o i pos) X.env v = (do
      let ov ← holding [v] (eval o X.env)
      let iv ← holding [v, ov] (eval i X.env)
      standAt pos
      holding [v, ov, iv] (setItem ov iv v)
      release [v, ov, iv] []) := by intro _; rfl) : DG G X (.Subscript o i pos) (gSubD mo mi) := by
  obtain ⟨t, p, q⟩ := ho
  obtain ⟨t', p', q'⟩ := hi
  refine ⟨_, pg_sub p p' set_list ha, fun io H S en σ d v Q so re r h => ?_⟩
  unfold gSubD at h
  refine q io H S en σ _ so re ?_
  cases eo : mo en S with
  | stuck => simp [eo] at h
  | err x S1 => simp [eo] at h
  | ok x S1 =>
    simp only [eo] at h
    intro i1 H1 g1 s1 vx rx
    refine q' i1 H1 S1 en σ _ s1 (re.mono g1) ?_
    cases ei : mi en S1 with
    | stuck => simp [ei] at h
    | err x S1 => simp [ei] at h
    | ok y S2 =>
      simp only [ei] at h
      intro i2 H2 g2 s2 vy ry
      cases es : setIx S2 x y d with
      | none => simp [es] at h
      | some S3 =>
        simp only [es, Option.map_some] at h
        obtain ⟨p, xs, k, j, h1, h2, h3, h4, g3, s3⟩ := setIx_ok s2 (rx.mono g2) ry (r.mono (g1.trans g2)) es
        exact ⟨p, xs, k, j, h1, h2, h3, h4, h i2 _ ((g1.trans g2).trans g3) s3 σ (re.mono ((g1.trans g2).trans g3))⟩
/-! ### methods of a list of the store -/
variable {o e : Expr} {mo me : Env → Store → R Dt} {apos cpos : Pos}
/-- x += e, x -= e: ints, texts -/
def mAug (i : Nat) (m : Dt → Dt → Store → R Dt) (me : Env → Store → R Dt) : Env → Store → RS := fun en S => match en[i]? with
  | some (some x) => (me en S).toS en fun y S1 => (m x y S1).toS en fun z S2 => .ok .nx (en.set i (some z)) S2
  | _ => .stuck
def mIAdd (x y : Dt) (S : Store) : R Dt := match x, y with
  | .int i, .int j => .ok (.int (i + j)) S
  | .str a, .str b => if a.length + b.length ≤ 100000 then .ok (.str (a ++ b)) S else .stuck
  | _, _ => .stuck
end
end Dv
set_option Elab.async false
set_option linter.all false
set_option maxRecDepth 100000
set_option maxHeartbeats 4000000
set_option autoImplicit false
namespace Dv
open PySem PySem.Spec PyProof.Rows L2
section
end
section
variable {P : Program} {w : World} {K : PySem.W.Frag} {mg : Str → Option Value} {base : Heap} {G : Gv}
theorem fn_stuck {k np : Nat} {f : Addr} {fd : FuncData} {ps : List Str} : FnOk P w K mg base (L2N.CX P w) k f fd ps (spF G np fun _ _ => .stuck) :=
  ⟨fun vs H Q E ⟨_, _, _, _, _, _, h⟩ => h.elim, fun A outer s H args us vs Q E hr e0 hb rv ⟨_, _, _, _, _, _, h⟩ => h.elim⟩
def spLaw (K : PySem.W.Frag) (T : List (Addr × Str)) : Sp := fun vs H Q _ => ∃ (a : Addr) (ns : List Int), vs = [.ref a] ∧ SqL K H a (ns.map V.int) ∧ ns.length ≤ 63 ∧ LamX.Tabs T H ∧ ∀ H', Q (.bl true) H'
theorem rel_ints {io : Io} {H : Hp} : ∀ ns : List Int, RelDs G io H (ns.map Dt.int) (ns.map V.int)
  | [] => .nil
  | n :: ns => .cons (.int n) (rel_ints ns)
/-- the law's promise from what its function gives -/
theorem law_sp {k : Nat} {f : Addr} {fd : FuncData} {ps : List Str} {m : Fn} (hG : G.K = K) (F : FnOk P w K mg base (L2N.CX P w) k f fd ps (spF G 1 m)) (h : ∀ ns : List Int, ns.length ≤ 63 → ∃ S, m [.fz (ns.map Dt.int)] [] = .ok (.bl true) S) :
    FnOk P w K mg base (L2N.CX P w) k f fd ps (spLaw K G.T) := F.imp fun vs H Q E ⟨a, ns, e, hS, hl, hT, q⟩ => by
  subst e
  obtain ⟨S, hm⟩ := h ns hl
  refine ⟨⟨[], []⟩, [], [.fz (ns.map Dt.int)], ⟨List.nodup_nil, rfl, (fun _ h => by cases h), (fun _ h => by cases h), (fun i o a h => by simp at h), hT⟩, .cons (.fz ?_ (rel_ints ns)) .nil, rfl, ?_⟩
  · rw [hG]
    rcases hS with h | h
    · exact .inl ⟨h, fun z => by rcases z with z | z <;> cases z⟩
    · exact .inr h
  · rw [hm]
    intro io' H' g s v r
    cases r
    exact q H'
end
/-- a body -/
abbrev Bd := Env → Store → RS
end Dv
set_option Elab.async false
set_option linter.all false
set_option maxRecDepth 100000
set_option maxHeartbeats 4000000
set_option autoImplicit false
/-! what a function comes to, step by step: Q of a value and a store, X of an error -/
namespace Dv
open PySem L2
def Pe {α : Type} (r : R α) (Q : α → Store → Prop) (X : Ex → Store → Prop) : Prop := match r with
  | .ok a S => Q a S
  | .err x S => X x S
  | .stuck => False
def Ps (r : RS) (Q : Fl → Env → Store → Prop) (X : Ex → Env → Store → Prop) : Prop := match r with
  | .ok f e S => Q f e S
  | .err x e S => X x e S
  | .stuck => False
abbrev X0 : Ex → Store → Prop := fun _ _ => False
theorem Pe.eq {α : Type} {r : R α} {a : α} {S : Store} (h : Pe r (fun b T => b = a ∧ T = S) X0) : r = .ok a S := by
  cases r with
  | ok b T => obtain ⟨rfl, rfl⟩ := h; rfl
  | err x T => exact h.elim
  | stuck => exact h.elim
theorem Pe.of {α : Type} {r : R α} {a : α} {S : Store} {Q : α → Store → Prop} {X : Ex → Store → Prop} (e : r = .ok a S) (h : Q a S) : Pe r Q X := by
  rw [e]
  exact h
theorem Pe.imp {α : Type} {r : R α} {Q Q' : α → Store → Prop} {X X' : Ex → Store → Prop} (h : Pe r Q X) (hq : ∀ a S, Q a S → Q' a S) (hx : ∀ x S, X x S → X' x S) : Pe r Q' X' := by
  cases r with
  | ok b T => exact hq _ _ h
  | err x T => exact hx _ _ h
  | stuck => exact h.elim
theorem Pe.ex {α : Type} {r : R α} {Q : α → Store → Prop} (h : Pe r Q X0) : ∃ a S, r = .ok a S ∧ Q a S := by
  cases r with
  | ok b T => exact ⟨b, T, rfl, h⟩
  | err x T => exact h.elim
  | stuck => exact h.elim
theorem Pe.bind {α β : Type} {r : R α} {f : α → Store → R β} {Q : β → Store → Prop} {X : Ex → Store → Prop} (h : Pe r (fun a S => Pe (f a S) Q X) X) : Pe (r.bind f) Q X := by cases r <;> exact h
theorem Pe.toS {α : Type} {r : R α} {e : Env} {f : α → Store → RS} {Q : Fl → Env → Store → Prop} {X : Ex → Env → Store → Prop} (h : Pe r (fun a S => Ps (f a S) Q X) (fun x S => X x e S)) : Ps (r.toS e f) Q X := by cases r <;> exact h
theorem v_ok {α : Type} {a : α} {S : Store} {Q : α → Store → Prop} {X : Ex → Store → Prop} (h : Q a S) : Pe (.ok a S) Q X := h
theorem v_ifok {α : Type} {c : Prop} [Decidable c] {a : α} {S : Store} {Q : α → Store → Prop} {X : Ex → Store → Prop} (hc : c) (h : Q a S) : Pe (if c then R.ok a S else .stuck) Q X := by
  rw [if_pos hc]
  exact h
theorem v_sok {f : Fl} {e : Env} {S : Store} {Q : Fl → Env → Store → Prop} {X : Ex → Env → Store → Prop} (h : Q f e S) : Ps (.ok f e S) Q X := h
section
variable {en : Env} {S : Store} {Q : Dt → Store → Prop} {QA : List Dt → Store → Prop} {QB : Bool → Store → Prop} {X : Ex → Store → Prop} {QS : Fl → Env → Store → Prop} {XS : Ex → Env → Store → Prop} {ma mb mc me : Env → Store → R Dt} {ta tb : Env → Store → R Bool} {ms : Env → Store → R (List Dt)} {ba bb : Env → Store → RS}
theorem v_var {i : Nat} {d : Dt} (h : en[i]? = some (some d)) (q : Q d S) : Pe (mVar i en S) Q X := by
  unfold mVar
  rw [h]
  exact q
theorem v_c {d : Dt} (q : Q d S) : Pe (mC d en S) Q X := q
theorem v_nil (q : QA [] S) : Pe (mNil en S) QA X := q
theorem v_cons (h : Pe (ma en S) (fun d S1 => Pe (ms en S1) (fun ds S2 => QA (d :: ds) S2) X) X) : Pe (mCons ma ms en S) QA X := by
  refine Pe.bind (h.imp (fun d S1 k => ?_) fun _ _ z => z)
  exact Pe.bind k
theorem v_op {m : Dt → Dt → Store → R Dt} (h : Pe (ma en S) (fun x S1 => Pe (mb en S1) (fun y S2 => Pe (m x y S2) Q X) X) X) : Pe (mOp m ma mb en S) Q X :=
  Pe.bind (h.imp (fun _ _ k => Pe.bind k) fun _ _ z => z)
theorem v_B (h : Pe (ma en S) (fun d S1 => ∃ b, d = .bl b ∧ QB b S1) X) : Pe (mB ma en S) QB X := by
  refine Pe.bind (h.imp (fun d S1 ⟨b, e, k⟩ => ?_) fun _ _ z => z)
  subst e
  exact k
theorem v_truth (h : Pe (ma en S) (fun d S1 => ∃ b, tru S1 d = some b ∧ QB b S1) X) : Pe (mTruth ma en S) QB X := by
  refine Pe.bind (h.imp (fun d S1 ⟨b, e, k⟩ => ?_) fun _ _ z => z)
  rw [e]
  exact k
theorem v_andT (h : Pe (ta en S) (fun b S1 => if b = true then Pe (tb en S1) QB X else QB false S1) X) : Pe (mAndT ta tb en S) QB X := by
  refine Pe.bind (h.imp (fun b S1 k => ?_) fun _ _ z => z)
  cases b with
  | true => exact k
  | false => exact k
theorem v_orT (h : Pe (ta en S) (fun b S1 => if b = true then QB true S1 else Pe (tb en S1) QB X) X) : Pe (mOrT ta tb en S) QB X := by
  refine Pe.bind (h.imp (fun b S1 k => ?_) fun _ _ z => z)
  cases b with
  | true => exact k
  | false => exact k
theorem v_notT (h : Pe (ta en S) (fun b S1 => QB (!b) S1) X) : Pe (mNotT ta en S) QB X := Pe.bind h
theorem v_andV (h : Pe (ma en S) (fun d S1 => ∃ b, tru S1 d = some b ∧ if b = true then Pe (mb en S1) Q X else Q d S1) X) : Pe (mAndV ma mb en S) Q X := by
  refine Pe.bind (h.imp (fun d S1 ⟨b, e, k⟩ => ?_) fun _ _ z => z)
  cases b with
  | true => rw [e]; exact k
  | false => rw [e]; exact k
theorem v_orV (h : Pe (ma en S) (fun d S1 => ∃ b, tru S1 d = some b ∧ if b = true then Q d S1 else Pe (mb en S1) Q X) X) : Pe (mOrV ma mb en S) Q X := by
  refine Pe.bind (h.imp (fun d S1 ⟨b, e, k⟩ => ?_) fun _ _ z => z)
  cases b with
  | true => rw [e]; exact k
  | false => rw [e]; exact k
theorem v_notV (h : Pe (ma en S) (fun d S1 => ∃ b, tru S1 d = some b ∧ Q (.bl (!b)) S1) X) : Pe (mNotV ma en S) Q X := by
  refine Pe.bind (h.imp (fun d S1 ⟨b, e, k⟩ => ?_) fun _ _ z => z)
  rw [e]
  exact k
theorem v_if (h : Pe (ta en S) (fun b S1 => if b = true then Pe (ma en S1) Q X else Pe (mb en S1) Q X) X) : Pe (mIf ta ma mb en S) Q X := by
  refine Pe.bind (h.imp (fun b S1 k => ?_) fun _ _ z => z)
  cases b with
  | true => exact k
  | false => exact k
theorem v_neg (h : Pe (ma en S) (fun d S1 => ∃ i, d = .int i ∧ Q (.int (-i)) S1) X) : Pe (mNeg ma en S) Q X := by
  refine Pe.bind (h.imp (fun d S1 ⟨b, e, k⟩ => ?_) fun _ _ z => z)
  subst e
  exact k
theorem v_chain {m m' : Dt → Dt → Store → R Dt} (h : Pe (ma en S) (fun x S1 => Pe (mb en S1) (fun y S2 => Pe (m x y S2) (fun z S3 => ∃ b, z = .bl b ∧ if b = true then Pe (mc en S3) (fun w S4 => Pe (m' y w S4) Q X) X else Q (.bl false) S3) X) X) X) : Pe (mChain m m' ma mb mc en S) Q X := by
  refine Pe.bind (h.imp (fun d S1 k => Pe.bind (k.imp (fun d' S2 k => Pe.bind (k.imp (fun d2 S3 ⟨b, e, k⟩ => ?_) fun _ _ z => z)) fun _ _ z => z)) fun _ _ z => z)
  subst e
  cases b with
  | true => exact Pe.bind k
  | false => exact k
theorem v_tup (h : Pe (ms en S) (fun ds S1 => ds.length ≤ 1000 ∧ Q (.tup ds) S1) X) : Pe (mTup ms en S) Q X := by
  refine Pe.bind (h.imp (fun d S1 ⟨e, k⟩ => ?_) fun _ _ z => z)
  rw [if_pos e]
  exact k
theorem v_lst (h : Pe (ms en S) (fun ds S1 => ds.length ≤ 1000 ∧ Q (.lst ds) S1) X) : Pe (mLst ms en S) Q X := by
  refine Pe.bind (h.imp (fun d S1 ⟨e, k⟩ => ?_) fun _ _ z => z)
  rw [if_pos e]
  exact k
theorem v_lstR (h : Pe (ms en S) (fun ds S1 => ds.length ≤ 1000 ∧ Q (.ref S1.length) (S1 ++ [.lst ds])) X) : Pe (mLstR ms en S) Q X := by
  refine Pe.bind (h.imp (fun d S1 ⟨e, k⟩ => ?_) fun _ _ z => z)
  rw [if_pos e]
  exact k
theorem v_ix {x d : Dt} {i : Int} (e : ixD S x i = some d) (q : Q d S) : Pe (mIx x (.int i) S) Q X := by
  unfold mIx
  dsimp only
  rw [e]
  exact q
theorem v_noPart {QO : Option Int → Store → Prop} (q : QO none S) : Pe (mNoPart en S) QO X := q
theorem v_part {QO : Option Int → Store → Prop} (h : Pe (ma en S) (fun d S1 => ∃ i, d = .int i ∧ QO (some i) S1) X) : Pe (mPart ma en S) QO X := by
  refine Pe.bind (h.imp (fun d S1 ⟨b, e, k⟩ => ?_) fun _ _ z => z)
  subst e
  exact k
theorem v_sl {ml mh : Env → Store → R (Option Int)} (h : Pe (ma en S) (fun x S1 => Pe (ml en S1) (fun l S2 => Pe (mh en S2) (fun u S3 => ∃ d, slD S3 x l u = some d ∧ Q d S3) X) X) X) : Pe (mSl ma ml mh en S) Q X := by
  refine Pe.bind (h.imp (fun d S1 k => Pe.bind (k.imp (fun d' S2 k => Pe.bind (k.imp (fun d2 S3 ⟨b, e, k⟩ => ?_) fun _ _ z => z)) fun _ _ z => z)) fun _ _ z => z)
  rw [e]
  exact k
theorem v_CB {m : List Dt → Store → R Dt} (h : Pe (ms en S) (fun ds S1 => Pe (m ds S1) Q X) X) : Pe (mCB m ms en S) Q X := Pe.bind h
theorem v_call {np : Nat} {m : Fn} (h : Pe (ms en S) (fun ds S1 => ds.length = np ∧ Pe (m ds S1) Q X) X) : Pe (mCall np m ms en S) Q X := by
  refine Pe.bind (h.imp (fun d S1 ⟨e, k⟩ => ?_) fun _ _ z => z)
  rw [if_pos e]
  exact k
theorem v_abs {i : Int} (q : Q (.int (if i < 0 then -i else i)) S) : Pe (mAbs [.int i] S) Q X := q
theorem v_len {d : Dt} {n : Nat} (e : lenD S d = some n) (q : Q (.int n) S) : Pe (mLen [d] S) Q X := by
  unfold mLen
  dsimp only
  rw [e]
  exact q
theorem v_list {d : Dt} {ds : List Dt} (e : asS S d = some ds) (q : Q (.lst ds) S) : Pe (mList [d] S) Q X := by
  unfold mList
  dsimp only
  rw [e]
  exact q
theorem v_listR {d : Dt} {ds : List Dt} (e : asS S d = some ds) (q : Q (.ref S.length) (S ++ [.lst ds])) : Pe (mListR [d] S) Q X := by
  unfold mListR
  dsimp only
  rw [e]
  exact q
theorem v_tuple {d : Dt} {ds : List Dt} (e : asS S d = some ds) (q : Q (.tup ds) S) : Pe (mTuple [d] S) Q X := by
  unfold mTuple
  dsimp only
  rw [e]
  exact q
/-! statements -/
theorem v_seq (h : Ps (ba en S) (fun f e1 S1 => match f with | .nx => Ps (bb e1 S1) QS XS | f => QS f e1 S1) XS) : Ps (mSeq ba bb en S) QS XS := by
  unfold mSeq
  cases e : ba en S with
  | ok f e1 S1 =>
    rw [e] at h
    cases f <;> exact h
  | err x e1 S1 => rw [e] at h; exact h
  | stuck => rw [e] at h; exact h
theorem v_set {i : Nat} (h : Pe (me en S) (fun d S1 => QS .nx (en.set i (some d)) S1) (fun x S1 => XS x en S1)) : Ps (mSet i me en S) QS XS := Pe.toS h
theorem v_asg {g : Dt → Env → Store → Option (Env × Store)} (h : Pe (me en S) (fun d S1 => ∃ e' S', g d en S1 = some (e', S') ∧ QS .nx e' S') (fun x S1 => XS x en S1)) : Ps (mAsg g me en S) QS XS := by
  refine Pe.toS (h.imp (fun d S1 ⟨e', S', e, k⟩ => ?_) fun _ _ z => z)
  rw [e]
  exact k
theorem v_par {i j : Nat} (h : Pe (ms en S) (fun ds S1 => ∃ d d', ds = [d, d'] ∧ QS .nx ((en.set i (some d)).set j (some d')) S1) (fun x S1 => XS x en S1)) : Ps (mPar i j ms en S) QS XS := by
  refine Pe.toS (h.imp (fun d S1 ⟨e', S', e, k⟩ => ?_) fun _ _ z => z)
  subst e
  exact k
theorem v_drop (h : Pe (me en S) (fun _ S1 => QS .nx en S1) (fun x S1 => XS x en S1)) : Ps (mDrop me en S) QS XS := Pe.toS h
theorem v_ret (h : Pe (me en S) (fun d S1 => QS (.rt d) en S1) (fun x S1 => XS x en S1)) : Ps (mRet me en S) QS XS := Pe.toS h
theorem v_ifS (h : Pe (ta en S) (fun t S1 => if t = true then Ps (ba en S1) QS XS else Ps (bb en S1) QS XS) (fun x S1 => XS x en S1)) : Ps (mIfS ta ba bb en S) QS XS := by
  refine Pe.toS (h.imp (fun t S1 k => ?_) fun _ _ z => z)
  cases t with
  | true => exact k
  | false => exact k
theorem v_nx (q : QS .nx en S) : Ps (mNx en S) QS XS := q
theorem v_bk (q : QS .bk en S) : Ps (mBk en S) QS XS := q
theorem v_ct (q : QS .ct en S) : Ps (mCt en S) QS XS := q
theorem v_retN (q : QS (.rt .non) en S) : Ps (mRetN en S) QS XS := q
theorem v_for {mi : Env → Store → R (List Dt)} {g : Dt → Env → Store → Option (Env × Store)} (h : Pe (mi en S) (fun items S1 => Ps (fLoop g ba items en S1) QS XS) (fun x S1 => XS x en S1)) : Ps (mFor mi g ba en S) QS XS := Pe.toS h
/-- a for by its invariant over what is left -/
theorem v_loop {g : Dt → Env → Store → Option (Env × Store)} {items : List Dt} (I : List Dt → Env → Store → Prop) (h0 : I items en S)
    (hs : ∀ d ds en S, I (d :: ds) en S → ∃ e1 S1, g d en S = some (e1, S1) ∧ Ps (ba e1 S1) (fun f e2 S2 => match f with | .nx => I ds e2 S2 | .ct => I ds e2 S2 | .bk => QS .nx e2 S2 | .rt d => QS (.rt d) e2 S2) XS)
    (hd : ∀ en S, I [] en S → QS .nx en S) : Ps (fLoop g ba items en S) QS XS := by
  induction items generalizing en S with
  | nil => exact hd en S h0
  | cons d ds ih =>
    obtain ⟨e1, S1, e, k⟩ := hs d ds en S h0
    unfold fLoop
    rw [e]
    dsimp only
    cases eb : ba e1 S1 with
    | stuck => rw [eb] at k; exact k
    | err x e2 S2 => rw [eb] at k; exact k
    | ok f e2 S2 =>
      rw [eb] at k
      cases f with
      | nx => exact ih k
      | ct => exact ih k
      | bk => exact k
      | rt d => exact k
/-- a def -/
theorem v_fn {nl : Nat} {keep : Bool} {ds : List Dt} (h : Ps (ba (ds.map some ++ List.replicate (nl - ds.length) none) S) (fun f _ S' => match f with
    | .rt d => Pe (fin keep S.length d S') Q X
    | .nx => Pe (fin keep S.length .non S') Q X
    | _ => False) (fun x _ S' => Pe (finX keep S.length x S') Q X)) : Pe (fnRun nl keep ba ds S) Q X := by
  unfold fnRun
  cases e : ba (ds.map some ++ List.replicate (nl - ds.length) none) S with
  | stuck => rw [e] at h; exact h
  | err x e1 S1 => rw [e] at h; exact h
  | ok f e1 S1 =>
    rw [e] at h
    cases f with
    | nx => exact h
    | rt d => exact h
    | bk => exact h
    | ct => exact h
theorem v_fin {keep : Bool} {n : Nat} {d : Dt} (hc : keep = true ∨ S.length = n) (q : Q d S) : Pe (fin keep n d S) Q X := by
  unfold fin
  rw [if_pos hc]
  exact q
/-! comprehensions -/
theorem v_lc {sl : List Nat} {mi : Env → Store → R (List Dt)} {g : Dt → Env → Option Env} (h : Pe (mi en S) (fun items S1 => Pe (cLoop g ta me (wipeE en sl) items [] S1) (fun ds S2 => Q (.lst ds) S2) X) X) : Pe (mLc sl mi g ta me en S) Q X :=
  Pe.bind (h.imp (fun _ _ k => Pe.bind (k.imp (fun _ _ q => q) fun _ _ z => z)) fun _ _ z => z)
theorem Pe.nx {α : Type} {r : R α} {Q : α → Store → Prop} (h : Pe r Q X0) : Pe r.nx Q X := by
  cases r with
  | ok a S => exact h
  | err x S => exact h.elim
  | stuck => exact h.elim
/-- a comprehension that keeps the store: each item gives its value, or is left out -/
theorem v_cloop {g : Dt → Env → Option Env} {items : List Dt} {acc : List Dt} (f : Dt → Option Dt)
    (hs : ∀ d ∈ items, ∃ e1, g d en = some e1 ∧ Pe (ta e1 S) (fun b S1 => S1 = S ∧ if b = true then Pe (me e1 S) (fun x S2 => S2 = S ∧ f d = some x) X0 else f d = none) X0)
    (hl : acc.length + items.length ≤ 1000000) (q : QA (acc ++ items.filterMap f) S) : Pe (cLoop g ta me en items acc S) QA X := by
  induction items generalizing acc with
  | nil =>
    rw [List.filterMap_nil, List.append_nil] at q
    exact q
  | cons d ds ih =>
    obtain ⟨e1, e, p⟩ := hs d List.mem_cons_self
    unfold cLoop
    rw [e]
    dsimp only
    rw [List.length_cons] at hl
    refine Pe.bind (Pe.nx (p.imp (fun b S1 ⟨eS, k⟩ => ?_) fun _ _ z => z))
    subst eS
    cases b with
    | false =>
      rw [if_neg Bool.false_ne_true] at k ⊢
      rw [List.filterMap_cons, k] at q
      exact ih (fun x hx => hs x (List.mem_cons_of_mem _ hx)) (by omega) q
    | true =>
      rw [if_pos rfl] at k ⊢
      refine Pe.bind (Pe.nx (k.imp (fun x S2 ⟨eS2, k2⟩ => ?_) fun _ _ z => z))
      subst eS2
      rw [if_pos (by omega)]
      rw [List.filterMap_cons, k2] at q
      refine ih (fun x hx => hs x (List.mem_cons_of_mem _ hx)) (by rw [List.length_append, List.length_singleton]; omega) ?_
      rw [List.append_assoc]
      exact q
theorem v_yes (q : QB true S) : Pe (mYes en S) QB X := q
theorem v_it {d : Dt} {ds : List Dt} (h : Pe (me en S) (fun d S1 => ∃ ds, itemsD d = some ds ∧ QA ds S1) X) : Pe (mIt me en S) QA X := by
  refine Pe.bind (h.imp (fun d S1 ⟨b, e, k⟩ => ?_) fun _ _ z => z)
  rw [e]
  exact k
theorem v_rng1 (h : Pe (ms en S) (fun ds S1 => ∃ j, ds = [.int j] ∧ rngOk j = true ∧ QA (rangeD 0 j.toNat) S1) X) : Pe (mRng1 ms en S) QA X := by
  refine Pe.bind (h.imp (fun d S1 ⟨b, e, r, k⟩ => ?_) fun _ _ z => z)
  subst e
  dsimp only
  rw [if_pos r]
  exact k
theorem v_rng2 (h : Pe (ms en S) (fun ds S1 => ∃ i j, ds = [.int i, .int j] ∧ (rngOk i = true ∧ rngOk j = true) ∧ QA (rangeD i (j - i).toNat) S1) X) : Pe (mRng2 ms en S) QA X := by
  refine Pe.bind (h.imp (fun d S1 ⟨b, b', e, r, k⟩ => ?_) fun _ _ z => z)
  subst e
  dsimp only
  rw [if_pos r]
  exact k
/-! the ways of a test -/
theorem v_dec {p A B : Prop} [Decidable p] (h1 : p → A) (h2 : ¬p → B) : if decide p = true then A else B := by
  by_cases h : p
  · rw [decide_eq_true h, if_pos rfl]
    exact h1 h
  · rw [decide_eq_false h, if_neg Bool.false_ne_true]
    exact h2 h
theorem v_ndec {p A B : Prop} [Decidable p] (h1 : ¬p → A) (h2 : p → B) : if (!decide p) = true then A else B := by
  by_cases h : p
  · rw [decide_eq_true h, if_neg (by simp)]
    exact h2 h
  · rw [decide_eq_false h, if_pos (by simp)]
    exact h1 h
theorem v_T {A B : Prop} (h : A) : if true = true then A else B := h
theorem v_F {A B : Prop} (h : B) : if false = true then A else B := h
end
section
variable {en : Env} {S : Store} {Q : Dt → Store → Prop} {X : Ex → Store → Prop}
theorem v_div {i j : Int} (h0 : j ≠ 0) (hl : j.natAbs.log2 < 9000) (q : Q (.int (i.fdiv j)) S) : Pe (mDiv (.int i) (.int j) S) Q X := by
  refine v_ifok ?_ q
  unfold divOk
  rw [Bool.and_eq_true]
  exact ⟨decide_eq_true h0, decide_eq_true hl⟩
theorem v_mod {i j : Int} (h0 : j ≠ 0) (q : Q (.int (i.fmod j)) S) : Pe (mMod (.int i) (.int j) S) Q X := v_ifok h0 q
theorem v_mulL {i j : Int} (h : i.natAbs < 2 ^ 64) (q : Q (.int (i * j)) S) : Pe (mMul (.int i) (.int j) S) Q X := by
  refine v_ifok ?_ q
  unfold mulOk
  rw [decide_eq_true h]
  rfl
theorem v_mulR {i j : Int} (h : j.natAbs < 2 ^ 64) (q : Q (.int (i * j)) S) : Pe (mMul (.int i) (.int j) S) Q X := by
  refine v_ifok ?_ q
  unfold mulOk
  rw [decide_eq_true h, Bool.or_true]
  rfl
theorem v_pow {i j : Int} (h : 0 ≤ j ∧ j ≤ 1000000 ∧ i.natAbs < 2 ^ 64) (q : Q (.int (i ^ j.toNat)) S) : Pe (mPow (.int i) (.int j) S) Q X := v_ifok (decide_eq_true h) q
theorem ixD_ref {S : Store} {k : Nat} {ds : List Dt} {i : Int} {d : Dt} (hS : S[k]? = some (.lst ds)) (h : L2.atI ds i = some d) : ixD S (.ref k) i = some d := by
  unfold ixD
  simp [asL, hS, h]
theorem lenD_ref {S : Store} {k : Nat} {ds : List Dt} (hS : S[k]? = some (.lst ds)) : lenD S (.ref k) = some ds.length := by
  unfold lenD
  simp [asL, hS]
theorem gSub_ref {mo mi : Env → Store → R Dt} {d : Dt} {k n : Nat} {j : Int} {ds : List Dt} (ho : mo en S = .ok (.ref k) S) (hi : mi en S = .ok (.int j) S) (hS : S[k]? = some (.lst ds)) (hj : ixN ds.length j = some n) :
    gSubD mo mi d en S = some (en, S.set k (.lst (ds.set n d))) := by
  unfold gSubD
  simp only [ho, hi]
  unfold setIx
  simp only [hS, hj, Option.map_some]
theorem set_same {S : Store} {k : Nat} {o o' : Ob} (h : S[k]? = some o) : (S.set k o')[k]? = some o' := List.getElem?_set_self (List.getElem?_eq_some_iff.mp h).1
/-- a store into a list: the new store by a letter -/
theorem v_gsub {mo mi : Env → Store → R Dt} {d : Dt} {k n : Nat} {j : Int} {ds : List Dt} {A : Env → Store → Prop} (ho : mo en S = .ok (.ref k) S) (hi : mi en S = .ok (.int j) S) (hS : S[k]? = some (.lst ds)) (hj : ixN ds.length j = some n)
    (q : ∀ S', S' = S.set k (.lst (ds.set n d)) → S'[k]? = some (.lst (ds.set n d)) → A en S') : ∃ e' S', gSubD mo mi d en S = some (e', S') ∧ A e' S' :=
  ⟨en, _, gSub_ref ho hi hS hj, q _ rfl (set_same hS)⟩
theorem atI_in {α : Type} {xs : List α} {j : Nat} {x : α} (h : xs[j]? = some x) : L2.atI xs (j : Int) = some x := L2.atI_nat h
end
section
variable {en : Env} {S : Store} {Q : Dt → Store → Prop} {X : Ex → Store → Prop} {QS : Fl → Env → Store → Prop} {XS : Ex → Env → Store → Prop} {i j : Int}
theorem v_add (q : Q (.int (i + j)) S) : Pe (mAdd (.int i) (.int j) S) Q X := q
theorem v_sub (q : Q (.int (i - j)) S) : Pe (mSub (.int i) (.int j) S) Q X := q
theorem v_iadd (q : Q (.int (i + j)) S) : Pe (mIAdd (.int i) (.int j) S) Q X := q
theorem v_lt (q : Q (.bl (decide (i < j))) S) : Pe (mLt (.int i) (.int j) S) Q X := q
theorem v_le (q : Q (.bl (decide (i ≤ j))) S) : Pe (mLe (.int i) (.int j) S) Q X := q
theorem v_gt (q : Q (.bl (decide (j < i))) S) : Pe (mGt (.int i) (.int j) S) Q X := q
theorem v_ge (q : Q (.bl (decide (j ≤ i))) S) : Pe (mGe (.int i) (.int j) S) Q X := q
theorem v_eqI (q : Q (.bl (decide (i = j))) S) : Pe (mEq (.int i) (.int j) S) Q X := by
  have e : (i == j) = decide (i = j) := rfl
  show Q (.bl (i == j)) S
  rw [e]
  exact q
theorem v_neI (q : Q (.bl (!decide (i = j))) S) : Pe (mNe (.int i) (.int j) S) Q X := by
  have e : (i == j) = decide (i = j) := rfl
  show Q (.bl (!(i == j))) S
  rw [e]
  exact q
theorem v_eqB {a b : Bool} (q : Q (.bl (a == b)) S) : Pe (mEq (.bl a) (.bl b) S) Q X := q
theorem v_neB {a b : Bool} (q : Q (.bl (!(a == b))) S) : Pe (mNe (.bl a) (.bl b) S) Q X := q
theorem v_aug {k : Nat} {m : Dt → Dt → Store → R Dt} {me : Env → Store → R Dt} {x : Dt} (h : en[k]? = some (some x)) (q : Pe (me en S) (fun y S1 => Pe (m x y S1) (fun z S2 => QS .nx (en.set k (some z)) S2) (fun x S => XS x en S)) (fun x S => XS x en S)) : Ps (mAug k m me en S) QS XS := by
  unfold mAug
  rw [h]
  exact Pe.toS (q.imp (fun _ _ k => Pe.toS k) fun _ _ z => z)
theorem v_isi1 {x c : Dt} {b : Bool} (hc : ∀ cs, c ≠ .tup cs) (e : ((tyS S x).bind fun t => isiT t c) = some b) (q : Q (.bl b) S) : Pe (mIsi [x, c] S) Q X := by
  unfold mIsi
  cases c with
  | tup cs => exact absurd rfl (hc cs)
  | _ =>
    dsimp only
    rw [e]
    exact q
theorem v_isiT {x : Dt} {cs : List Dt} {b : Bool} (e : ((tyS S x).bind fun t => isiAny t cs) = some b) (q : Q (.bl b) S) : Pe (mIsi [x, .tup cs] S) Q X := by
  unfold mIsi
  dsimp only
  rw [e]
  exact q
theorem v_isiTy {x : Dt} {n : String} {t : String ⊕ String} {b : Bool} (ht : tyS S x = some t) (e : isiT t (.ty n) = some b) (q : Q (.bl b) S) : Pe (mIsi [x, .ty n] S) Q X :=
  v_isi1 (fun _ z => nomatch z) (by rw [ht]; exact e) q
end
theorem v_isd {S : Store} {Q : Dt → Store → Prop} {X : Ex → Store → Prop} {n : Bool} {x y d : Dt} (e : mIs n x y S = .ok d S) (q : Q d S) : Pe (mIs n x y S) Q X := by
  rw [e]
  exact q
theorem v_bT {b : Bool} {A B : Prop} (h : b = true) (q : A) : if b = true then A else B := by
  rw [if_pos h]
  exact q
theorem v_bF {b : Bool} {A B : Prop} (h : b = false) (q : B) : if b = true then A else B := by
  rw [if_neg (by rw [h]; exact Bool.false_ne_true)]
  exact q
end Dv
set_option Elab.async false
set_option linter.all false
set_option maxRecDepth 100000
set_option maxHeartbeats 4000000
set_option autoImplicit false
namespace Dv
open PySem PySem.Spec PyProof.Rows L2
/-! instances: fields, methods, new ones -/
/-- an instance: its class, its fields -/
def insD (S : Store) (d : Dt) : Option (String × List Str × List Dt) := match d with
  | .ins c ns ds => some (c, ns, ds)
  | .ref i => match S[i]? with
    | some (.ins c ns ds) => some (c, ns, ds)
    | _ => none
  | _ => none
section
end
/-- o.f -/
def mFld (cs : List String) (f : Str) (m : Env → Store → R Dt) : Env → Store → R Dt := fun en S => (m en S).bind fun d S1 => match insD S1 d with
  | some (c, ns, ds) => if c ∈ cs then (match (ns.zip ds).lookup f with
    | some x => .ok x S1
    | none => .stuck) else .stuck
  | none => .stuck
section
variable {G : Gv} {X : Cx} {W : WX} {e o : Expr} {es : List Expr} {m mo me : Env → Store → R Dt} {ma : Env → Store → R (List Dt)} {f : Str} {pos apos p : Pos}
/-! ### o.m(..) -/
def mMeth (c : String) (m : Str) (np : Nat) (fn : Fn) (mo : Env → Store → R Dt) (ma : Env → Store → R (List Dt)) : Env → Store → R Dt := fun en S => (mo en S).bind fun d S1 => match insD S1 d with
  | some (c', ns, _) => if c' = c ∧ m ∉ ns then (ma en S1).bind fun ds S2 => if ds.length + 1 = np then fn (d :: ds) S2 else .stuck else .stuck
  | none => .stuck
variable {C fa : Addr} {k np : Nat} {fd : FuncData} {ps : List Str} {sp : Sp} {E : L2.St → XK} {ta : TE} {t : TA} {CX : CXT} {n : Str}
/-! ### C(..) -/
def mMake (c : String) (np : Nat) (fn : Fn) (ma : Env → Store → R (List Dt)) : Env → Store → R Dt := fun en S => (ma en S).bind fun ds S1 => if ds.length + 1 = np then (fn (.ref S1.length :: ds) (S1 ++ [.ins c [] []])).bind fun r S2 => match r with
  | .non => .ok (.ref S1.length) S2
  | _ => .stuck else .stuck
variable {x : Str}
/-! ### o.f = v -/
def putN (f : Str) : List Str → List Str
  | [] => [f]
  | g :: r => if g = f then g :: r else g :: putN f r
def putW {α : Type} (f : Str) (y : α) : List Str → List α → List α
  | [], _ => [y]
  | _ :: _, [] => []
  | g :: r, v :: vs => if g = f then y :: vs else v :: putW f y r vs
/-- a field of an object of the store is written -/
def setFld (cs : List String) (f : Str) (S : Store) (x d : Dt) : Option Store := match x with
  | .ref k => match S[k]? with
    | some (.ins c ns ds) => if c ∈ cs ∧ ns.length < 1000 then some (S.set k (.ins c (putN f ns) (putW f d ns ds))) else none
    | _ => none
  | _ => none
def mFldS (cs : List String) (f : Str) (mo me : Env → Store → R Dt) : Env → Store → RS := fun en S => (me en S).toS en fun d S1 => (mo en S1).toS en fun x S2 => match setFld cs f S2 x d with
  | some S3 => .ok .nx en S3
  | none => .stuck
end
end Dv
set_option Elab.async false
set_option linter.all false
set_option maxRecDepth 100000
set_option maxHeartbeats 4000000
set_option autoImplicit false
namespace Dv
open PySem PySem.Spec PyProof.Rows L2
/-! exceptions of the text: an __init__ that stores a word, and at most one of its arguments -/
/-- self.word = w -/
def spX1 (K : PySem.W.Frag) (C : Addr) (w : Str) : Sp := fun vs H Q _ => ∃ a, vs = [.ref a] ∧ H a = some (exo a C none) ∧ ∀ dx, H dx = none → dx ≠ a → Q .non (upd (upd H dx (exd dx [("word", .str w)])) a (exo a C (some dx)))
/-- self.word = w, self.f = y -/
def spX2 (K : PySem.W.Frag) (C : Addr) (w f : Str) : Sp := fun vs H Q _ => ∃ a y, vs = [.ref a, y] ∧ H a = some (exo a C none) ∧ ∀ dx, H dx = none → dx ≠ a → Q .non (upd (upd (upd H dx (exd dx [("word", .str w)])) a (exo a C (some dx))) dx (exd dx [(f, y), ("word", .str w)]))
section
/-! ### raise -/
end
section
end
end Dv
set_option Elab.async false
set_option linter.all false
set_option maxRecDepth 100000
set_option maxHeartbeats 4000000
set_option autoImplicit false
namespace Dv
open PySem PySem.Spec PyProof.Rows L2
/-! x in xs -/
section
end
section
end
end Dv
set_option Elab.async false
set_option linter.all false
set_option maxRecDepth 100000
set_option maxHeartbeats 4000000
set_option autoImplicit false
namespace Dv
open PySem PySem.Spec PyProof.Rows L2
/-! texts -/
section
variable {G : Gv} {X : Cx} {W : WX}
variable {o e : Expr} {mo me : Env → Store → R Dt} {apos pos : Pos}
/-- o.split(e) -/
def mSplit (mo me : Env → Store → R Dt) : Env → Store → R Dt := fun en S => (mo en S).bind fun x S1 => match x with
  | .str a => (me en S1).bind fun y S2 => match y with
    | .str b => if (b.length == 0) = false ∧ a.length ≤ 100000 then .ok (.lst ((Txt.split a b).map Dt.str)) S2 else .stuck
    | _ => .stuck
  | _ => .stuck
theorem rel_strs {io : Io} {H : Hp} : ∀ ys : List Str, RelDs G io H (ys.map Dt.str) (ys.map V.str)
  | [] => .nil
  | y :: ys => .cons (.str y) (rel_strs ys)
theorem de_split (ho : DE G X W o mo) (he : DE G X W e me) (hs : starEach [e] X.env = [(false, eval e X.env)] := by rfl) (hbase : attributeBase o "split" X.env (eval o X.env) = eval o X.env := by rfl) (hline : (apos.endLine == pos.line) = true := by rfl) :
    DE G X W (.Call (.Attribute o "split" apos) [e] [] pos) (mSplit mo me) := by
  obtain ⟨to, po, qo⟩ := ho
  obtain ⟨te, pe, qe⟩ := he
  refine ⟨_, pe_split po pe hs hbase hline, fun io H S en σ Q so re h => ?_⟩
  refine qo io H S en σ _ so re (h.bind.imp (fun _ _ _ _ z => z) fun x S1 i1 H1 g1 s1 k1 v r => ?_)
  split at k1
  · rename_i a
    cases r
    refine ⟨⟨a, rfl⟩, ?_⟩
    refine qe i1 H1 S1 en σ _ s1 (re.mono g1) (k1.bind.imp (fun _ _ _ _ z => z) fun y S2 i2 H2 g2 s2 k2 v r => ?_)
    split at k2
    · cases r
      split at k2
      · rename_i hc
        exact ⟨_, _, rfl, rfl, hc.1, small6 (by omega), fun p hp => out_lst s2 (rel_strs _) k2 hp⟩
      · exact k2.elim
    · exact k2.elim
  · exact k1.elim
end
end Dv
set_option Elab.async false
set_option linter.all false
set_option maxRecDepth 100000
set_option maxHeartbeats 4000000
set_option autoImplicit false
namespace Dv
open PySem PySem.Spec PyProof.Rows L2
/-! lists of the store: pop(i), clear() -/
section
end
end Dv
set_option Elab.async false
set_option linter.all false
set_option maxRecDepth 100000
set_option maxHeartbeats 4000000
set_option autoImplicit false
namespace Dv
open PySem PySem.Spec PyProof.Rows L2
/-! dicts with text keys: the display, reading -/
section
variable {G : Gv} {X : Cx} {W : WX}
/-! reading by a text -/
def lookK : List Key → List Dt → Key → Option Dt
  | k :: ks, d :: ds, x => if k = x then some d else lookK ks ds x
  | _, _, _ => none
def dctD (S : Store) (d : Dt) : Option (List Key × List Dt) := match d with
  | .dct ks ds => some (ks, ds)
  | .ref i => match S[i]? with
    | some (.dct ks ds) => some (ks, ds)
    | _ => none
  | _ => none
/-- o["k"] -/
def mGetS (k : Str) (mo : Env → Store → R Dt) : Env → Store → R Dt := fun en S => (mo en S).bind fun x S1 => match dctD S1 x with
  | some (ks, ds) => match lookK ks ds (.inr k) with
    | some d => .ok d S1
    | none => .stuck
  | none => .stuck
end
end Dv
set_option Elab.async false
set_option linter.all false
set_option maxRecDepth 100000
set_option maxHeartbeats 4000000
set_option autoImplicit false
/-! targets with a star: a, b, *c = a tuple -/
namespace PySem.W
open PySem PySem.Spec PySem.Calls PyProof.Rows
section
end
end PySem.W
namespace Dv
open PySem PySem.Spec PyProof.Rows L2
section
end
end Dv
set_option Elab.async false
set_option linter.all false
set_option maxRecDepth 100000
set_option maxHeartbeats 4000000
set_option autoImplicit false
namespace Dv
open PySem PySem.Spec PyProof.Rows L2
/-! what the head decides of an exception of the text -/
end Dv
set_option Elab.async false
set_option linter.all false
set_option maxRecDepth 100000
set_option maxHeartbeats 4000000
set_option autoImplicit false
/-! every second item from a place on; turned about -/
namespace Dv
/-- every second item -/
def evens {α : Type} : List α → List α
  | [] => []
  | [x] => [x]
  | x :: _ :: r => x :: evens r
open PySem PySem.Spec PyProof.Rows L2
section
end
def mEv (k : Nat) (m : Env → Store → R Dt) : Env → Store → R Dt := fun en S => (m en S).bind fun x S1 => match x with
  | .tup ds => .ok (.tup (evens (ds.drop k))) S1
  | x => match asL S1 x with
    | some ds => .ok (.lst (evens (ds.drop k))) S1
    | none => .stuck
/-- xs[::-1] -/
def mRev (m : Env → Store → R Dt) : Env → Store → R Dt := fun en S => (m en S).bind fun x S1 => match asL S1 x with
    | some ds => .ok (.lst ds.reverse) S1
    | none => .stuck
section
end
end Dv
set_option Elab.async false
set_option linter.all false
set_option maxRecDepth 100000
set_option maxHeartbeats 4000000
set_option autoImplicit false
/-! zip of two lists of like length (strict), enumerate of a list -/
namespace Dv
open PySem PySem.Spec PyProof.Rows L2
section
end
section
end
end Dv
set_option Elab.async false
set_option linter.all false
set_option maxRecDepth 100000
set_option maxHeartbeats 4000000
set_option autoImplicit false
/-! walks over zip and enumerate -/
namespace Dv
open PySem PySem.Spec PyProof.Rows L2
/-! the layer's words -/
def pairsD (ds es : List Dt) : List Dt := List.zipWith (fun x y => .tup [x, y]) ds es
def itemsL (d : Dt) : Option (List Dt) := match d with
  | .lst ds => some ds
  | .fz ds => some ds
  | _ => none
def mZs (m : Env → Store → R (List Dt)) : Env → Store → R (List Dt) := fun en S => (m en S).bind fun ds S1 => match ds with
  | [x, y] => match itemsL x, itemsL y with
    | some xs, some ys => if xs.length = ys.length then .ok (pairsD xs ys) S1 else .stuck
    | _, _ => .stuck
  | _ => .stuck
def numbered (k : Nat) : List Dt → List Dt
  | [] => []
  | d :: ds => .tup [.int k, d] :: numbered (k + 1) ds
def mEnum (m : Env → Store → R (List Dt)) : Env → Store → R (List Dt) := fun en S => (m en S).bind fun ds S1 => match ds with
  | [x] => match itemsL x with
    | some xs => .ok (numbered 0 xs) S1
    | _ => .stuck
  | _ => .stuck
section
end
end Dv
set_option Elab.async false
set_option linter.all false
set_option maxRecDepth 100000
set_option maxHeartbeats 4000000
set_option autoImplicit false
/-! keywords; defs with defaults -/
namespace Dv
open PySem PySem.Spec PyProof.Rows L2
section
end
section
/-! o.m(.., k = v) -/
end
/-! a def with defaults -/
section
end
end Dv
set_option Elab.async false
set_option linter.all false
set_option maxRecDepth 100000
set_option maxHeartbeats 4000000
set_option autoImplicit false
/-! what an expression made, by value -/
namespace Dv
open PySem PySem.Spec PyProof.Rows L2
def mFz (m : Env → Store → R Dt) : Env → Store → R Dt := fun en S => match m en S with
  | .ok d S' => fin false S.length d S'
  | .err x S' => finX false S.length x S'
  | .stuck => .stuck
section
end
end Dv
set_option Elab.async false
set_option linter.all false
set_option maxRecDepth 100000
set_option maxHeartbeats 4000000
set_option autoImplicit false
/-! what is never come to; the text's classes from the head's facts -/
namespace Dv
open PySem PySem.Spec PyProof.Rows L2
section
end
end Dv
set_option Elab.async false
set_option linter.all false
set_option maxRecDepth 100000
set_option maxHeartbeats 4000000
set_option autoImplicit false
/-! comprehensions with two clauses -/
namespace Dv
open PySem PySem.Spec PyProof.Rows L2
theorem Base.trans {io i1 i2 : Io} {H H1 H2 : Hp} (a : Base io H i1 H1) (b : Base i1 H1 i2 H2) : Base io H i2 H2 :=
  ⟨fun i x h => b.at_ i x (a.at_ i x h), fun x o h n nt => let ⟨h1, n1⟩ := a.keep x o h n nt; b.keep x o h1 n1 nt⟩
section
variable {G : Gv}
/-- for tg in items if t for tg1 in .. if t1 -/
def cLoop2 (tg : Dt → Env → Option Env) (t : Env → Store → R Bool) (mi1 : Env → Store → R (List Dt)) (own1 : List Nat) (tg1 : Dt → Env → Option Env) (t1 : Env → Store → R Bool) (m : Env → Store → R Dt) (en : Env) : List Dt → List Dt → Store → R (List Dt)
  | [], acc, S => .ok acc S
  | d :: ds, acc, S => match tg d en with
    | none => .stuck
    | some e1 => (t e1 S).nx.bind fun b S1 => if b = true then (mi1 e1 S1).nx.bind fun its S2 => (cLoop tg1 t1 m (wipeE e1 own1) its acc S2).bind fun acc2 S3 => cLoop2 tg t mi1 own1 tg1 t1 m en ds acc2 S3 else cLoop2 tg t mi1 own1 tg1 t1 m en ds acc S1
def mLc2 (sl : List Nat) (mi : Env → Store → R (List Dt)) (tg : Dt → Env → Option Env) (t : Env → Store → R Bool) (mi1 : Env → Store → R (List Dt)) (sl1 : List Nat) (tg1 : Dt → Env → Option Env) (t1 : Env → Store → R Bool) (m : Env → Store → R Dt) : Env → Store → R Dt :=
  fun en S => (mi en S).bind fun items S1 => (cLoop2 tg t mi1 sl1 tg1 t1 m (wipeE en sl) items [] S1).bind fun ds S2 => .ok (.lst ds) S2
variable {X : Cx} {W : WX} {elt tg iter tg1 iter1 : Expr} {ifs ifs1 : List Expr} {scope : Scope} {sl sl1 : List Nat} {pos : Pos} {mi mi1 : Env → Store → R (List Dt)} {mg mg1 : Dt → Env → Option Env} {mt mt1 : Env → Store → R Bool} {m : Env → Store → R Dt}
end
end Dv
set_option Elab.async false
set_option linter.all false
set_option maxRecDepth 100000
set_option maxHeartbeats 4000000
set_option autoImplicit false
/-! == and != of instances by their own __eq__; get of a dict; sum -/
namespace Dv
open PySem PySem.Spec PyProof.Rows L2
section
end
section
/-! d.get(k, x) -/
/-! sum of a list of numbers -/
end
end Dv
set_option Elab.async false
set_option linter.all false
set_option maxRecDepth 100000
set_option maxHeartbeats 4000000
set_option autoImplicit false
/-! two statements, what they made by value behind them -/
namespace Dv
open PySem PySem.Spec PyProof.Rows L2
section
end
end Dv
set_option Elab.async false
set_option linter.all false
set_option maxRecDepth 100000
set_option maxHeartbeats 4000000
set_option autoImplicit false
/-! more words -/
namespace Dv
open PySem L2
section
variable {en : Env} {S : Store} {Q : Dt → Store → Prop} {QA : List Dt → Store → Prop} {QB : Bool → Store → Prop} {X : Ex → Store → Prop} {QS : Fl → Env → Store → Prop} {XS : Ex → Env → Store → Prop} {ma mb mc me mo : Env → Store → R Dt} {ta tb : Env → Store → R Bool} {ms mk : Env → Store → R (List Dt)} {ba bb : Env → Store → RS}
theorem v_fld {cs : List String} {f : Str} (h : Pe (me en S) (fun d S1 => ∃ c ns ds x, insD S1 d = some (c, ns, ds) ∧ c ∈ cs ∧ (ns.zip ds).lookup f = some x ∧ Q x S1) X) : Pe (mFld cs f me en S) Q X := by
  refine Pe.bind (h.imp (fun d S1 ⟨c, ns, ds, x, e, hc, hl, k⟩ => ?_) fun _ _ z => z)
  rw [e]
  dsimp only
  rw [if_pos hc, hl]
  exact k
theorem v_meth {c : String} {n : Str} {np : Nat} {fn : Fn} (h : Pe (mo en S) (fun d S1 => (∃ ns ds, insD S1 d = some (c, ns, ds) ∧ n ∉ ns) ∧ Pe (ms en S1) (fun ds S2 => ds.length + 1 = np ∧ Pe (fn (d :: ds) S2) Q X) X) X) : Pe (mMeth c n np fn mo ms en S) Q X := by
  refine Pe.bind (h.imp (fun d S1 ⟨⟨ns, ds, e, hn⟩, k⟩ => ?_) fun _ _ z => z)
  rw [e]
  dsimp only
  rw [if_pos ⟨rfl, hn⟩]
  refine Pe.bind (k.imp (fun ds S2 ⟨hl, k2⟩ => ?_) fun _ _ z => z)
  rw [if_pos hl]
  exact k2
theorem v_make {c : String} {np : Nat} {fn : Fn} (h : Pe (ms en S) (fun ds S1 => ds.length + 1 = np ∧ Pe (fn (.ref S1.length :: ds) (S1 ++ [.ins c [] []])) (fun r S2 => r = .non ∧ Q (.ref S1.length) S2) X) X) : Pe (mMake c np fn ms en S) Q X := by
  refine Pe.bind (h.imp (fun ds S1 ⟨hl, k⟩ => ?_) fun _ _ z => z)
  rw [if_pos hl]
  refine Pe.bind (k.imp (fun r S2 ⟨e, k2⟩ => ?_) fun _ _ z => z)
  subst e
  exact k2
theorem v_fz (h : Pe (me en S) (fun d S1 => Pe (fin false S.length d S1) Q X) (fun x S1 => Pe (finX false S.length x S1) Q X)) : Pe (mFz me en S) Q X := by
  unfold mFz
  cases e : me en S with
  | ok d S1 => rw [e] at h; exact h
  | err x S1 => rw [e] at h; exact h
  | stuck => rw [e] at h; exact h
theorem v_fldS {cs : List String} {f : Str} (h : Pe (me en S) (fun d S1 => Pe (mo en S1) (fun x S2 => ∃ S3, setFld cs f S2 x d = some S3 ∧ QS .nx en S3) (fun x S => XS x en S)) (fun x S => XS x en S)) : Ps (mFldS cs f mo me en S) QS XS := by
  refine Pe.toS (h.imp (fun d S1 k => Pe.toS (k.imp (fun x S2 ⟨S3, e, q⟩ => ?_) fun _ _ z => z)) fun _ _ z => z)
  rw [e]
  exact q
theorem v_getS {k : Str} (h : Pe (mo en S) (fun x S1 => ∃ ks ds d, dctD S1 x = some (ks, ds) ∧ lookK ks ds (.inr k) = some d ∧ Q d S1) X) : Pe (mGetS k mo en S) Q X := by
  refine Pe.bind (h.imp (fun x S1 ⟨ks, ds, d, e1, e2, q⟩ => ?_) fun _ _ z => z)
  rw [e1]
  dsimp only
  rw [e2]
  exact q
theorem v_ev {k : Nat} (h : Pe (me en S) (fun x S1 => (∃ ds, x = .tup ds ∧ Q (.tup (evens (ds.drop k))) S1) ∨ (∃ ds, (∀ t, x ≠ .tup t) ∧ asL S1 x = some ds ∧ Q (.lst (evens (ds.drop k))) S1)) X) : Pe (mEv k me en S) Q X := by
  refine Pe.bind (h.imp (fun x S1 z => ?_) fun _ _ z => z)
  rcases z with ⟨ds, rfl, q⟩ | ⟨ds, hn, e, q⟩
  · exact q
  · split
    · rename_i t
      exact absurd rfl (hn t)
    · rw [e]
      exact q
theorem v_rev (h : Pe (me en S) (fun x S1 => ∃ ds, asL S1 x = some ds ∧ Q (.lst ds.reverse) S1) X) : Pe (mRev me en S) Q X := by
  refine Pe.bind (h.imp (fun x S1 ⟨ds, e, q⟩ => ?_) fun _ _ z => z)
  rw [e]
  exact q
theorem v_zs (h : Pe (ms en S) (fun ds S1 => ∃ x y xs ys, ds = [x, y] ∧ itemsL x = some xs ∧ itemsL y = some ys ∧ xs.length = ys.length ∧ QA (pairsD xs ys) S1) X) : Pe (mZs ms en S) QA X := by
  refine Pe.bind (h.imp (fun ds S1 ⟨x, y, xs, ys, e, e1, e2, hl, q⟩ => ?_) fun _ _ z => z)
  subst e
  dsimp only
  rw [e1, e2]
  dsimp only
  rw [if_pos hl]
  exact q
theorem v_enum (h : Pe (ms en S) (fun ds S1 => ∃ x xs, ds = [x] ∧ itemsL x = some xs ∧ QA (numbered 0 xs) S1) X) : Pe (mEnum ms en S) QA X := by
  refine Pe.bind (h.imp (fun ds S1 ⟨x, xs, e, e1, q⟩ => ?_) fun _ _ z => z)
  subst e
  dsimp only
  rw [e1]
  exact q
theorem v_lc2 {sl sl1 : List Nat} {mi mi1 : Env → Store → R (List Dt)} {g g1 : Dt → Env → Option Env} (h : Pe (mi en S) (fun items S1 => Pe (cLoop2 g ta mi1 sl1 g1 tb me (wipeE en sl) items [] S1) (fun ds S2 => Q (.lst ds) S2) X) X) : Pe (mLc2 sl mi g ta mi1 sl1 g1 tb me en S) Q X :=
  Pe.bind (h.imp (fun _ _ k => Pe.bind (k.imp (fun _ _ q => q) fun _ _ z => z)) fun _ _ z => z)
theorem v_itX (h : Pe (me en S) (fun d S1 => ∃ ds, itemsD d = some ds ∧ QA ds S1) X) : Pe (mIt me en S) QA X := by
  refine Pe.bind (h.imp (fun d S1 ⟨b, e, k⟩ => ?_) fun _ _ z => z)
  rw [e]
  exact k
/-! the text's own classes, the laws' own webs -/
abbrev wF : List Str := ["places", "roads"]
abbrev kF : List Str := ["over", "line", "spots"]
abbrev mF : List Key := [.inr "yards", .inr "roads"]
theorem w_places (a b : Dt) : (wF.zip [a, b]).lookup ("places" : Str) = some a := rfl
theorem w_roads (a b : Dt) : (wF.zip [a, b]).lookup ("roads" : Str) = some b := by
  have e : (("roads" : Str) == ("places" : Str)) = false := by decide +kernel
  show List.lookup ("roads" : Str) [(("places" : Str), a), (("roads" : Str), b)] = some b
  rw [List.lookup_cons, e, List.lookup_cons, beq_self_eq_true]
theorem k_over (a b c : Dt) : (kF.zip [a, b, c]).lookup ("over" : Str) = some a := rfl
theorem k_line (a b c : Dt) : (kF.zip [a, b, c]).lookup ("line" : Str) = some b := by
  have e : (("line" : Str) == ("over" : Str)) = false := by decide +kernel
  show List.lookup ("line" : Str) [(("over" : Str), a), (("line" : Str), b), (("spots" : Str), c)] = some b
  rw [List.lookup_cons, e, List.lookup_cons, beq_self_eq_true]
theorem k_spots (a b c : Dt) : (kF.zip [a, b, c]).lookup ("spots" : Str) = some c := by
  have e : (("spots" : Str) == ("over" : Str)) = false := by decide +kernel
  have e2 : (("spots" : Str) == ("line" : Str)) = false := by decide +kernel
  show List.lookup ("spots" : Str) [(("over" : Str), a), (("line" : Str), b), (("spots" : Str), c)] = some c
  rw [List.lookup_cons, e, List.lookup_cons, e2, List.lookup_cons, beq_self_eq_true]
theorem m_yards (a b : Dt) : lookK mF [a, b] (.inr "yards") = some a := by
  unfold lookK
  rw [if_pos rfl]
theorem m_roads (a b : Dt) : lookK mF [a, b] (.inr "roads") = some b := by
  unfold lookK
  rw [if_neg (by decide +kernel)]
  unfold lookK
  rw [if_pos rfl]
theorem v_places (h : Pe (me en S) (fun d S1 => ∃ a b, insD S1 d = some ("Web", wF, [a, b]) ∧ Q a S1) X) : Pe (mFld ["Web"] "places" me en S) Q X :=
  v_fld (h.imp (fun d S1 ⟨a, b, e, q⟩ => ⟨_, _, _, _, e, List.mem_singleton.mpr rfl, w_places a b, q⟩) fun _ _ z => z)
theorem v_roads (h : Pe (me en S) (fun d S1 => ∃ a b, insD S1 d = some ("Web", wF, [a, b]) ∧ Q b S1) X) : Pe (mFld ["Web"] "roads" me en S) Q X :=
  v_fld (h.imp (fun d S1 ⟨a, b, e, q⟩ => ⟨_, _, _, _, e, List.mem_singleton.mpr rfl, w_roads a b, q⟩) fun _ _ z => z)
theorem v_over (h : Pe (me en S) (fun d S1 => ∃ a b c, insD S1 d = some ("Walk", kF, [a, b, c]) ∧ Q a S1) X) : Pe (mFld ["Walk"] "over" me en S) Q X :=
  v_fld (h.imp (fun d S1 ⟨a, b, c, e, q⟩ => ⟨_, _, _, _, e, List.mem_singleton.mpr rfl, k_over a b c, q⟩) fun _ _ z => z)
theorem v_line (h : Pe (me en S) (fun d S1 => ∃ a b c, insD S1 d = some ("Walk", kF, [a, b, c]) ∧ Q b S1) X) : Pe (mFld ["Walk"] "line" me en S) Q X :=
  v_fld (h.imp (fun d S1 ⟨a, b, c, e, q⟩ => ⟨_, _, _, _, e, List.mem_singleton.mpr rfl, k_line a b c, q⟩) fun _ _ z => z)
theorem v_spots (h : Pe (me en S) (fun d S1 => ∃ a b c, insD S1 d = some ("Walk", kF, [a, b, c]) ∧ Q c S1) X) : Pe (mFld ["Walk"] "spots" me en S) Q X :=
  v_fld (h.imp (fun d S1 ⟨a, b, c, e, q⟩ => ⟨_, _, _, _, e, List.mem_singleton.mpr rfl, k_spots a b c, q⟩) fun _ _ z => z)
theorem v_myards (h : Pe (mo en S) (fun x S1 => ∃ a b, dctD S1 x = some (mF, [a, b]) ∧ Q a S1) X) : Pe (mGetS "yards" mo en S) Q X :=
  v_getS (h.imp (fun x S1 ⟨a, b, e, q⟩ => ⟨_, _, _, e, m_yards a b, q⟩) fun _ _ z => z)
theorem v_mroads (h : Pe (mo en S) (fun x S1 => ∃ a b, dctD S1 x = some (mF, [a, b]) ∧ Q b S1) X) : Pe (mGetS "roads" mo en S) Q X :=
  v_getS (h.imp (fun x S1 ⟨a, b, e, q⟩ => ⟨_, _, _, e, m_roads a b, q⟩) fun _ _ z => z)
/-- a method of the two classes -/
theorem v_mW {n : Str} {np : Nat} {fn : Fn} (hn : n ∉ wF) (h : Pe (mo en S) (fun d S1 => (∃ a b, insD S1 d = some ("Web", wF, [a, b])) ∧ Pe (ms en S1) (fun ds S2 => ds.length + 1 = np ∧ Pe (fn (d :: ds) S2) Q X) X) X) : Pe (mMeth "Web" n np fn mo ms en S) Q X :=
  v_meth (h.imp (fun d S1 ⟨⟨a, b, e⟩, q⟩ => ⟨⟨_, _, e, hn⟩, q⟩) fun _ _ z => z)
theorem v_mK {n : Str} {np : Nat} {fn : Fn} (hn : n ∉ kF) (h : Pe (mo en S) (fun d S1 => (∃ a b c, insD S1 d = some ("Walk", kF, [a, b, c])) ∧ Pe (ms en S1) (fun ds S2 => ds.length + 1 = np ∧ Pe (fn (d :: ds) S2) Q X) X) X) : Pe (mMeth "Walk" n np fn mo ms en S) Q X :=
  v_meth (h.imp (fun d S1 ⟨⟨a, b, c, e⟩, q⟩ => ⟨⟨_, _, e, hn⟩, q⟩) fun _ _ z => z)
end
end Dv
set_option Elab.async false
set_option linter.all false
set_option maxRecDepth 100000
set_option maxHeartbeats 4000000
set_option autoImplicit false
/-! the head by one run: facts told by tests of our own -/
namespace Dv
open PySem PySem.Spec PyProof.Rows L2
section
variable {fs : List Test} {fn : List He.DefD} {K : PySem.W.Frag}
theorem SaysL.fact (c : SaysL fs fn K) (i : Nat) {f : Test} (h : fs[i]? = some f) : f K = true := by
  have c1 := (He.ba (show ((fs.all fun f => f K) && fn.all fun d => d.ok K) = true from congrArg (fun z : He.AlD => z.1) c)).1
  exact List.all_eq_true.mp c1 f (List.mem_of_getElem? h)
theorem SaysL.def_ (c : SaysL fs fn K) (i : Nat) {d : He.DefD} (h : fn[i]? = some d) : ∃ fd, FunD K d.name d.qual d.params d.body d.scope (d.dvs K) (d.kws K) (He.fAd K d.at_) fd := by
  have c2 := (He.ba (show ((fs.all fun f => f K) && fn.all fun d => d.ok K) = true from congrArg (fun z : He.AlD => z.1) c)).2
  have e : fn.map (fun d => He.fnW K d.at_) = fn.map He.DefD.val := congrArg (fun z : He.AlD => z.2) c
  have e2 : (fn.map fun d => He.fnW K d.at_)[i]? = (fn.map He.DefD.val)[i]? := by rw [e]
  rw [List.getElem?_map, List.getElem?_map, h] at e2
  exact He.DefD.funD (Option.some.inj e2) (List.all_eq_true.mp c2 d (List.mem_of_getElem? h))
end
theorem funOfD {K : PySem.W.Frag} {x qual : Str} {st : Stmt} {f : Addr} {fd : FuncData} (F : FunD K x qual (defArgs st) (defBody st) (defScope st) [] [] f fd) : Fun K x qual st f fd := by
  obtain ⟨c1, c2, v, k1, d1, p1, n1, e1, t1, sl, hf, hl, hc, hd, _⟩ := F.ex
  have hv : v = .none := by
    rcases hd with h | h
    · exact h.2
    · exact absurd rfl h.1
  subst hv
  exact ⟨⟨c1, c2, k1, d1, p1, n1, e1, t1, sl, hf, hl, hc⟩, F.kp⟩
/-- the goal that this head leaves -/
theorem walk_lawE {l : PySem.W.OpenLaw} {k : Nat} {q : Program} {loose : List Str} {XP : (Str → Option Value) → Heap → Prop} {YP : World → Heap → Prop} {d : DefRec} {x : Str}
    (hn : l.most = some 63) (hdf : d.params.defaults = []) (hr : Room k callerA)
    (F : ∀ (w : World) (mg : Str → Option Value) (fa : Addr) (h : Heap), YP w h → h.Ns mainGlobals mg → mg d.name = some (.ref fa) →
      ∃ (K : PySem.W.Frag) (fd : FuncData), K.In h ∧ (∀ (s : Shared) (u : Value), BindsTo s fd ⟨[u], []⟩ [(x, u)]) ∧ ∀ base : Heap, K.In base → base.Ns mainGlobals mg → FnOk l.prog w K mg base (L2N.CX l.prog w) k fa fd [x] (spLaw K [])) :
    PySem.W.WalkO q loose XP YP l.row.toRowW d [] (fun f vs => PySem.call f vs) := by
  refine Att.attach_call hn hdf fun w s₀ s₁ mg mb fa o pm cd doc a vs ns G Y ho hd hcd hmg hobj hints hlen hg => ?_
  obtain ⟨K, fd, KX, hb, hF⟩ := F w mg fa _ Y G.T.g hmg
  exact law_call KX G.T.g G.T.b G.T.builtins G.T.nolimit hg hobj hints (Nat.le_trans hlen (by decide)) hr hF hb (fun H _ hS => ⟨a, ns, rfl, hS, hlen, (fun _ h => (List.not_mem_nil h).elim), fun _ => rfl⟩) fun H e s' z => by
    obtain ⟨_, _, _, _, _, _, _, _, _, _, _, _, z⟩ := z
    exact z.elim
end Dv
set_option Elab.async false
set_option linter.all false
set_option maxRecDepth 100000
set_option maxHeartbeats 4000000
set_option autoImplicit false
/-! range with a step -/
namespace Dv
open PySem PySem.Spec PyProof.Rows L2
def rangeC (lo c : Int) (n : Nat) : List Dt := (List.range n).map fun (k : Nat) => Dt.int (lo + (k : Int) * c)
def rngN (i j c : Int) : Nat := (Builtin.Range.rangeSize i j c).toNat
def rngC (i j c : Int) : Bool := decide (c ≠ 0) && (decide (c.natAbs < 1073741824) && (Builtin.Range.small i j c && decide (Builtin.Range.rangeSize i j c = (rngN i j c : Int))))
def mRng3 (m : Env → Store → R (List Dt)) : Env → Store → R (List Dt) := fun en S => (m en S).bind fun ds S1 => match ds with
  | [.int i, .int j, .int c] => if rngC i j c = true then .ok (rangeC i c (rngN i j c)) S1 else .stuck
  | _ => .stuck
section
variable {G : Gv} {X : Cx} {W : WX} {tg a b c : Expr} {ma : Env → Store → R (List Dt)} {p pos : Pos}
theorem v_rng3 {ms : Env → Store → R (List Dt)} {en : Env} {S : Store} {QA : List Dt → Store → Prop} {XE : Ex → Store → Prop} (h : Pe (ms en S) (fun ds S1 => ∃ i j k, ds = [.int i, .int j, .int k] ∧ rngC i j k = true ∧ QA (rangeC i k (rngN i j k)) S1) XE) : Pe (mRng3 ms en S) QA XE := by
  refine Pe.bind (h.imp (fun d S1 ⟨b, b', b'', e, r, k⟩ => ?_) fun _ _ z => z)
  subst e
  dsimp only
  rw [if_pos r]
  exact k
end
end Dv
set_option Elab.async false
set_option linter.all false
set_option maxRecDepth 100000
set_option maxHeartbeats 4000000
set_option autoImplicit false
/-! a try whose body lets nothing out; C(..) with defaults left out -/
namespace Dv
open PySem PySem.Spec PyProof.Rows L2
/-- try: the body, that lets nothing out -/
def mTryN (m : Env → Store → RS) : Env → Store → RS := fun en S => match m en S with
  | .ok f e S' => .ok f e S'
  | _ => .stuck
section
variable {G : Gv} {X : Cx} {W : WX}
theorem v_tryN {m : Env → Store → RS} {en : Env} {S : Store} {Q : Fl → Env → Store → Prop} {XE : Ex → Env → Store → Prop} (h : Ps (m en S) Q fun _ _ _ => False) : Ps (mTryN m en S) Q XE := by
  unfold mTryN
  cases e : m en S with
  | ok f e' S' => rw [e] at h; exact h
  | err x e' S' => rw [e] at h; exact h.elim
  | stuck => rw [e] at h; exact h.elim
end
/-! ### C(..), the last ones by default -/
def mMakeV (c : String) (np : Nat) (fn : Fn) (dfs : List Dt) (ma : Env → Store → R (List Dt)) : Env → Store → R Dt := fun en S => (ma en S).bind fun ds S1 => if (ds ++ dfs).length + 1 = np then (fn (.ref S1.length :: (ds ++ dfs)) (S1 ++ [.ins c [] []])).bind fun r S2 => match r with
  | .non => .ok (.ref S1.length) S2
  | _ => .stuck else .stuck
section
end
/-! words -/
section
variable {en : Env} {S : Store} {Q : Dt → Store → Prop} {XE : Ex → Store → Prop} {ms : Env → Store → R (List Dt)}
theorem v_makeV {c : String} {np : Nat} {fn : Fn} {dfs : List Dt} (h : Pe (ms en S) (fun ds S1 => (ds ++ dfs).length + 1 = np ∧ Pe (fn (.ref S1.length :: (ds ++ dfs)) (S1 ++ [.ins c [] []])) (fun r S2 => r = .non ∧ Q (.ref S1.length) S2) XE) XE) : Pe (mMakeV c np fn dfs ms en S) Q XE := by
  refine Pe.bind (h.imp (fun ds S1 ⟨hl, k⟩ => ?_) fun _ _ z => z)
  rw [if_pos hl]
  refine Pe.bind (k.imp (fun r S2 ⟨e, k2⟩ => ?_) fun _ _ z => z)
  subst e
  exact k2
end
end Dv
set_option Elab.async false
set_option linter.all false
set_option maxRecDepth 100000
set_option maxHeartbeats 4000000
set_option autoImplicit false
/-! len of an instance by its own __len__ -/
namespace Dv
open PySem PySem.Spec PyProof.Rows L2
section
end
section
end
section
end
end Dv
set_option Elab.async false
set_option linter.all false
set_option maxRecDepth 100000
set_option maxHeartbeats 4000000
set_option autoImplicit false
/-! enumerate(tuple) -/
namespace Dv
open PySem PySem.Spec PyProof.Rows L2
open PySem.Sem (wp)
open AutoSeq1 (wpAny_loadPart')
section
end
/-- the walk over enumerate(list or tuple) -/
def itemsX (d : Dt) : Option (List Dt) := match d with
  | .lst ds => some ds
  | .fz ds => some ds
  | .tup ds => some ds
  | _ => none
def mEnum2 (m : Env → Store → R (List Dt)) : Env → Store → R (List Dt) := fun en S => (m en S).bind fun ds S1 => match ds with
  | [x] => match itemsX x with
    | some xs => .ok (numbered 0 xs) S1
    | _ => .stuck
  | _ => .stuck
section
end
section
variable {en : Env} {S : Store} {QA : List Dt → Store → Prop} {XE : Ex → Store → Prop} {ms : Env → Store → R (List Dt)}
theorem v_enum2 (h : Pe (ms en S) (fun ds S1 => ∃ x xs, ds = [x] ∧ itemsX x = some xs ∧ QA (numbered 0 xs) S1) XE) : Pe (mEnum2 ms en S) QA XE := by
  refine Pe.bind (h.imp (fun ds S1 ⟨x, xs, e, e1, q⟩ => ?_) fun _ _ z => z)
  subst e
  dsimp only
  rw [e1]
  exact q
end
end Dv
set_option Elab.async false
set_option linter.all false
set_option maxRecDepth 100000
set_option maxHeartbeats 4000000
set_option autoImplicit false
/-! x in xs, the items plain data of any depth -/
namespace Dv
open PySem PySem.Spec PyProof.Rows L2
section
end
end Dv
set_option Elab.async false
set_option linter.all false
set_option maxRecDepth 100000
set_option maxHeartbeats 4000000
set_option autoImplicit false
/-! a, b, .. = a list -/
namespace Dv
open PySem PySem.Spec PyProof.Rows L2
end Dv
set_option Elab.async false
set_option linter.all false
set_option maxRecDepth 100000
set_option maxHeartbeats 4000000
set_option autoImplicit false
/-! try with several clauses `except (A, B, ..) as e` -/
namespace Dv
open PySem PySem.Spec PyProof.Rows L2
open PySem.W (exmOne exmAny Frag Looks)
section
end
section
end
/-! ### the tests of the clauses -/
section
end
/-! ### the statement -/
section
end
end Dv
set_option Elab.async false
set_option linter.all false
set_option maxRecDepth 100000
set_option maxHeartbeats 4000000
set_option autoImplicit false
/-! x(lambda: ..), x a def that tries what it gets -/
namespace Dv
open PySem PySem.Spec PyProof.Rows L2
/-- the asked lambda's context, its exceptions with no context -/
def lamN (X : Cx) (A : Around) (outer : List PySem.Env) (s : Shared) (H : Hp) (E : XK) (scope : Scope) (f c' : Addr) : Cx := { LamX.lamCx X A outer s H E scope f c' with
  xe := fun e s' => wpAny (model X.prog X.w) (A.deeper (LamX.lamEnv X scope s.heap.objs.size f c')) (leaving (LamX.lamEnv X scope s.heap.objs.size f c') e) (fun _ z => L2N.CX X.prog X.w outer H s E e z) (fun e' z => L2N.CX X.prog X.w outer H s E e' z) s' }
section
end
section
end
end Dv
set_option Elab.async false
set_option linter.all false
set_option maxRecDepth 100000
set_option maxHeartbeats 4000000
set_option autoImplicit false
/-! the two defs that try what they get -/
namespace Dv
open PySem PySem.Spec PyProof.Rows L2
open PySem.W (exmAny)
end Dv
set_option Elab.async false
set_option linter.all false
set_option maxRecDepth 100000
set_option maxHeartbeats 4000000
set_option autoImplicit false
/-! a def that makes lambdas; the head's end with tables -/
namespace Dv
open PySem PySem.Spec PyProof.Rows L2
section
end
end Dv
set_option Elab.async false
set_option linter.all false
set_option maxRecDepth 100000
set_option maxHeartbeats 4000000
set_option autoImplicit false
/-! bool and repr of an instance -/
namespace Dv
open PySem PySem.Spec PyProof.Rows L2
section
end
section
end
section
end
end Dv
set_option Elab.async false
set_option linter.all false
set_option maxRecDepth 100000
set_option maxHeartbeats 4000000
set_option autoImplicit false
/-! == and != of an instance and a thing of a built-in class -/
namespace Dv
open PySem PySem.Spec PyProof.Rows L2
section
end
section
end
section
end
end Dv
set_option Elab.async false
set_option linter.all false
set_option maxRecDepth 100000
set_option maxHeartbeats 4000000
set_option autoImplicit false
/-! max of two numbers -/
namespace Dv
open PySem PySem.Spec PyProof.Rows L2
section
end
end Dv
set_option Elab.async false
set_option linter.all false
set_option maxRecDepth 100000
set_option maxHeartbeats 4000000
set_option autoImplicit false
/-! dicts of the store: a display, d[k] = v -/
namespace Dv
open PySem PySem.Spec PyProof.Rows L2
section
end
section
end
section
end
end Dv
set_option Elab.async false
set_option linter.all false
set_option maxRecDepth 100000
set_option maxHeartbeats 4000000
set_option autoImplicit false
/-! min of two numbers -/
namespace Dv
open PySem PySem.Spec PyProof.Rows L2
section
end
end Dv
set_option Elab.async false
set_option linter.all false
set_option maxRecDepth 100000
set_option maxHeartbeats 4000000
set_option autoImplicit false
/-! d[k] = v of a dict of the store, k a text that it has -/
namespace Dv
open PySem PySem.Spec PyProof.Rows L2
section
end
end Dv
set_option Elab.async false
set_option linter.all false
set_option maxRecDepth 100000
set_option maxHeartbeats 4000000
set_option autoImplicit false
/-! targets with a star: a, *b = a list -/
namespace PySem.W
open PySem PySem.Spec PySem.Calls PyProof.Rows
section
end
end PySem.W
namespace Dv
open PySem PySem.Spec PyProof.Rows L2
section
end
end Dv
set_option Elab.async false
set_option linter.all false
set_option maxRecDepth 100000
set_option maxHeartbeats 4000000
set_option autoImplicit false
/-! a part of a block, what it made by value behind it -/
namespace Dv
open PySem PySem.Spec PyProof.Rows L2
section
end
end Dv
set_option Elab.async false
set_option linter.all false
set_option maxRecDepth 100000
set_option maxHeartbeats 4000000
set_option autoImplicit false
/-! a def of the text called with keywords; keyword-only parameters that are left out -/
namespace Dv
open PySem PySem.Spec PyProof.Rows L2
section
end
section
end
end Dv
set_option Elab.async false
set_option linter.all false
set_option maxRecDepth 100000
set_option maxHeartbeats 4000000
set_option autoImplicit false
/-! lists that change in place: += of two lists, an item += a number, a slice that is to be changed -/
namespace Dv
open PySem PySem.Spec PyProof.Rows L2
section
end
section
end
end Dv
set_option Elab.async false
set_option linter.all false
set_option maxRecDepth 100000
set_option maxHeartbeats 4000000
set_option autoImplicit false
/-! exceptions of the text over ValueError, LookupError or IndexError, whose __init__ stores -/
namespace Dv
open PySem PySem.Spec PyProof.Rows L2 Builtin Builtin.ObjectAttr
/-- a class of the text over one of the bases -/
structure OexG (K : PySem.W.Frag) (C : Addr) : Prop where
  cls : ∃ B bmB newId initId nm q N bs bm sn sub ab col dd k0 k1 k2 k3 k5, ExcBaseFacts B newId initId bmB ∧ StoreFacts B bmB "object.__setattr__" "object" ∧ K.lookup C = some (excClassObj nm q C N bs bm true sn sub ab col dd k0 k1 k2 k3 k5 newId) ∧ PySem.W.excTail bmB bm = true
  sa : PySem.W.findIn K (.ref C) "__setattr__" = some (some (.builtin "object.__setattr__"))
  exC : PySem.W.subIn K (.ref C) (.type "BaseException") = some true
  tyC : PySem.W.typeIn K (.ref C) = some (.type "type")
  kC : PySem.W.keepIn K (.ref C) = true
theorem upd_swap {H : Hp} {a b : Addr} {o u v : HO} (h : b ≠ a) : upd (upd (upd H b o) a u) b v = upd (upd H b v) a u := by
  funext c
  by_cases hb : c = b
  · subst hb
    rw [upd_same, upd_ne h, upd_same]
  · rw [upd_ne hb]
    by_cases ha : c = a
    · subst ha
      rw [upd_same, upd_same]
    · rw [upd_ne ha, upd_ne ha, upd_ne hb, upd_ne hb]
section
variable {X : Cx} {pins : List (Addr × Obj)} {σ : L2.St} {H : Hp} {s : Shared} {a C dx : Addr} {f : Str} {y : V} {u : Value} {fs : List (Str × V)} {Q : Unit → Shared → Prop} {E : Value → Shared → Prop} {A : Around}
/-- a further field -/
theorem sg_old (T : OexG X.K C) (I : Inv X pins σ H s) (e : H a = some (exo a C (some dx))) (ed : H dx = some (exd dx fs)) (hl : fs.length ≤ 900) (hno : PySem.W.findIn X.K (.ref C) f = some none) (ry : RelV y u)
    (h : ∀ s', Inv X pins σ (upd H dx (exd dx ((f, y) :: fs))) s' → Q () s') : wpAny (model X.prog X.w) A (setAttr (.ref a) f u) Q E s := by
  obtain ⟨B, bmB, newId, initId, nm, q, N, bs, bm, sn, sub, ab, col, dd, k0, k1, k2, k3, k5, FB, SF, hC, hbm⟩ := T.cls
  have hcl : PySem.W.clsIn X.K C = some { name := nm, bases := bs, mro := .ref C :: bm, ns := N, qualname := q, hasDict := true, slotNames := sn, subclasses := sub, abstract := ab, collection := col, hasDel := false } := by unfold PySem.W.clsIn; rw [hC] <;> rfl
  have ov : PySem.W.excOver X.K C bmB = true := by
    unfold PySem.W.excOver
    rw [hcl]
    show ((C == C) && _) = true
    rw [hbm, beq_self_eq_true]
    rfl
  have tk : PySem.W.takerIn X.K C f = some none := by
    unfold PySem.W.takerIn
    rw [hno]
    rfl
  obtain ⟨t1, ho⟩ := exo_at I.hok e
  obtain ⟨mA, hns, rel⟩ := exd_at I.hok ed
  have hw := within_of rel
  obtain ⟨hp, g, d, t, os⟩ := s
  obtain ⟨oD, _, _, hoD, _, _⟩ := hns.count hw
  refine PySem.W.set_plain I.kIn (ox := { cls := .ref C, dict := some dx, data := .fields #[.ref t1, .none, .none, .none, .bool false, .none] }) (od := some oD) ⟨ho, rfl, rfl, hoD⟩ T.sa ?_
  refine PySem.W.osa_openX (od := some oD) SF I.kIn ⟨ho, rfl, rfl, hoD⟩ ov tk fun b => ?_
  have hcls : PySem.W.Looks (model X.prog X.w) hp (classData C) _ := PySem.W.looks_clsIn I.kIn hcl
  have hz : (fs.map (·.1)).length ≤ 1000 := by rw [List.length_map]; omega
  show wpAny _ _ (storeInOwnDict (.ref a) (.ref C) (.str f t) f u b) _ _ _
  unfold storeInOwnDict ownDictForStores
  repeat (first | with_reducible refine PySem.OEX.store_in_old hns hw hz ?_ | with_reducible refine wpAny_loadPart_at ho ?_ | with_reducible refine hcls.at ?_ | wp_step)
  intro h' tk' hn sb
  have hd : ∃ o, h'.get? dx = some o := by
    obtain ⟨o, _, _, e', _⟩ := hn
    exact ⟨o, e'⟩
  exact h _ (I.write (t' := tk') (x := dx) (e := dx) (o := exd dx ((f, y) :: fs)) (by rw [ed]; exact True.intro) (.inl rfl) (fun b o hb q => (sb.2 b hb).trans q) hd (exd_ok hn (relO_put ry rel)))
/-- the first field: the dict is made -/
theorem sg_new (T : OexG X.K C) (I : Inv X pins σ H s) (e : H a = some (exo a C none)) (hno : PySem.W.findIn X.K (.ref C) f = some none) (ry : RelV y u)
    (h : ∀ dx s', H dx = none → dx ≠ a → Inv X pins σ (upd (upd H dx (exd dx [(f, y)])) a (exo a C (some dx))) s' → Q () s') : wpAny (model X.prog X.w) A (setAttr (.ref a) f u) Q E s := by
  obtain ⟨B, bmB, newId, initId, nm, q, N, bs, bm, sn, sub, ab, col, dd, k0, k1, k2, k3, k5, FB, SF, hC, hbm⟩ := T.cls
  have hcl : PySem.W.clsIn X.K C = some { name := nm, bases := bs, mro := .ref C :: bm, ns := N, qualname := q, hasDict := true, slotNames := sn, subclasses := sub, abstract := ab, collection := col, hasDel := false } := by unfold PySem.W.clsIn; rw [hC] <;> rfl
  have ov : PySem.W.excOver X.K C bmB = true := by
    unfold PySem.W.excOver
    rw [hcl]
    show ((C == C) && _) = true
    rw [hbm, beq_self_eq_true]
    rfl
  have tk : PySem.W.takerIn X.K C f = some none := by
    unfold PySem.W.takerIn
    rw [hno]
    rfl
  obtain ⟨t1, ho⟩ := exo_at I.hok e
  obtain ⟨hp, g, d, t, os⟩ := s
  have hne : a ≠ hp.objs.size := Nat.ne_of_lt (Heap.lt_size ho)
  have hnd : H hp.objs.size = none := I.hok.fresh (Nat.le_refl _)
  have I1 : Inv X pins σ (upd H hp.objs.size (exd hp.objs.size [])) ⟨hp.push { cls := .type "dict", data := .dict #[] }, g, d, t, os⟩ :=
    I.laid (t' := t) (fun b o q => Heap.get?_push_of_some _ q) (Nat.le_refl _) (exd_ok (mA := fun _ => none) ⟨_, #[], _, Heap.get?_push_at rfl rfl, rfl, fun e he => absurd he (by simp), List.Pairwise.nil, fun _ => rfl⟩ fun _ => True.intro)
  have e1 : upd H hp.objs.size (exd hp.objs.size []) a = some (exo a C none) := by rw [upd_ne hne]; exact e
  have ho1 := Heap.get?_push_of_some ({ cls := .type "dict", data := .dict #[] } : Obj) ho
  have hup : ((hp.push { cls := .type "dict", data := .dict #[] }).update a fun o => { o with dict := some hp.objs.size }).get? a = some ({ cls := .ref C, dict := some hp.objs.size, data := .fields #[.ref t1, .none, .none, .none, .bool false, .none] } : Obj) := Heap.get?_update_self _ ho1 rfl
  have I2 : Inv X pins σ (upd (upd H hp.objs.size (exd hp.objs.size [])) a (exo a C (some hp.objs.size))) ⟨(hp.push { cls := .type "dict", data := .dict #[] }).update a fun o => { o with dict := some hp.objs.size }, g, d, t, os⟩ :=
    I1.write (t' := t) (x := a) (e := a) (o := exo a C (some hp.objs.size)) (by rw [e1]; exact True.intro) (.inl rfl) (fun b o hb q => (Heap.get?_update_ne _ _ _ _ hb).trans q) ⟨_, hup⟩ (exo_ok hup)
  refine PySem.W.set_plain I.kIn (ox := { cls := .ref C, dict := none, data := .fields #[.ref t1, .none, .none, .none, .bool false, .none] }) (od := none) ⟨ho, rfl, rfl, trivial⟩ T.sa ?_
  refine PySem.W.osa_openX (od := none) SF I.kIn ⟨ho, rfl, rfl, trivial⟩ ov tk fun b => ?_
  have hcls : PySem.W.Looks (model X.prog X.w) hp (classData C) _ := PySem.W.looks_clsIn I.kIn hcl
  show wpAny _ _ (storeInOwnDict (.ref a) (.ref C) (.str f t) f u b) _ _ _
  unfold storeInOwnDict ownDictForStores
  repeat (first | with_reducible refine PySem.HandSPX.store_in_new ?_ ?_ | with_reducible refine wpAny_loadPart_at ho ?_ | with_reducible refine hcls.at ?_ | wp_step)
  · exact ⟨_, #[], _, (Heap.get?_update_ne _ _ _ _ (Ne.symm hne)).trans (Heap.get?_push_at rfl rfl), rfl, fun e he => absurd he (by simp), fun _ => rfl⟩
  · intro h' tk' hn sb
    have hd : ∃ o, h'.get? hp.objs.size = some o := by
      obtain ⟨o, _, _, e', _⟩ := hn
      exact ⟨o, e'⟩
    have e2 : upd (upd H hp.objs.size (exd hp.objs.size [])) a (exo a C (some hp.objs.size)) hp.objs.size = some (exd hp.objs.size []) := by rw [upd_ne (Ne.symm hne), upd_same]
    have I3 := I2.write (t' := tk') (h' := h') (x := hp.objs.size) (e := hp.objs.size) (o := exd hp.objs.size [(f, y)]) (by rw [e2]; exact True.intro) (.inl rfl) (fun b o hb q => (sb.2 b hb).trans q) hd (exd_ok hn (relO_put (fs := []) ry fun g => True.intro))
    rw [upd_swap (Ne.symm hne)] at I3
    exact h _ _ hnd (Ne.symm hne) I3
end
/-! ### the rules -/
/-- self.f = e of an exception -/
def tOsG (K : PySem.W.Frag) (f : Str) (to te : TE) : TS := fun D σ H => te σ H fun y H1 => to σ H1 fun x H2 => ∃ a C : Addr, x = .ref a ∧ OexG K C ∧ PySem.W.findIn K (.ref C) f = some none ∧
  ((H2 a = some (exo a C none) ∧ ∀ dx, H2 dx = none → dx ≠ a → D.nx σ (upd (upd H2 dx (exd dx [(f, y)])) a (exo a C (some dx)))) ∨
    ∃ (dx : Addr) (fs : List (Str × V)), H2 a = some (exo a C (some dx)) ∧ H2 dx = some (exd dx fs) ∧ fs.length ≤ 900 ∧ D.nx σ (upd H2 dx (exd dx ((f, y) :: fs))))
section
variable {X : Cx} {o e : Expr} {es : List Expr} {to te : TE} {ta : TA} {f : Str} {p p' p1 p2 pos : Pos}
theorem ps_osG (ho : PE X o to) (he : PE X e te) (hs : swapsWith e (some (.Attribute o f p')) pos.line X.env = pure false := by rfl) : PS X (.Assign [.Attribute o f p'] e pos) (tOsG X.K f to te) := by
  refine ⟨fun pins s σ H D I h => plainObj_wpAny_Assign_Attribute (thn (he.run pins s σ H _ I h) fun v s1 ⟨y, H1, I1, r1, q1⟩ => thn (ho.run pins s1 σ H1 _ I1 q1) fun u s2 ⟨x, H2, I2, r2, a, C, ex, T, hno, q⟩ => ?_) hs⟩
  subst ex
  cases (show u = Value.ref a from r2)
  cases q with
  | inl q => exact sg_new T I2 q.1 hno r1 fun dx s' n ne J => ⟨σ, _, J, q.2 dx n ne⟩
  | inr q =>
    obtain ⟨dx, fs, ea, ed, hl, q⟩ := q
    exact sg_old T I2 ea ed hl hno r1 fun s' J => ⟨σ, _, J, q⟩
end
section
variable {P : Program} {w : World} {K : PySem.W.Frag} {mg : Str → Option Value} {base : Heap} {G : Gv} {x qual : Str} {st : Stmt} {fa C : Addr} {fd : FuncData} {k : Nat} {wd fl pn : Str} {p1 p2 p3 p4 q1 q2 q3 q4 : Pos} {j : Nat}
theorem fx1G (F : Fun K x qual st fa fd) (S : FnScope ["self"] ["self"] (defScope st)) (hb : defBody st = [.Assign [.Attribute (.Name "self" p1) "word" p2] (.Constant (.str wd) j p3) p4]) (T : OexG K C) (hno : PySem.W.findIn K (.ref C) "word" = some none)
    (hv : ∀ (f : Addr) (cdv : Value) (L : Nat), Vis (envOfC qual (defScope st) L fa cdv).scope "self") :
    FnOk P w K mg base (L2N.CX P w) (k + 1) fa fd ["self"] (spX1 K C wd) := by
  refine okN F S (fun vs H Q E ⟨a, h, _⟩ => by rw [h]; rfl) (fun cdv A outer s H vs Q E hr ⟨a, h, ha, q⟩ => ?_)
  rw [hb]
  refine ⟨_, pss_one (ps_osG (pe_var (i := 0) rfl (hv fa cdv _)) pe_str), ?_⟩
  subst h
  refine ⟨_, rfl, a, C, rfl, T, hno, .inl ⟨ha, fun dx hd hne => q dx hd hne⟩⟩
theorem fx2G (F : Fun K x qual st fa fd) (S : FnScope ["self", pn] ["self", pn] (defScope st)) (hb : defBody st = [.Assign [.Attribute (.Name "self" p1) "word" p2] (.Constant (.str wd) j p3) p4, .Assign [.Attribute (.Name "self" q1) fl q2] (.Name pn q3) q4]) (T : OexG K C) (hno : PySem.W.findIn K (.ref C) "word" = some none) (hnf : PySem.W.findIn K (.ref C) fl = some none)
    (hv : ∀ (f : Addr) (cdv : Value) (L : Nat), Vis (envOfC qual (defScope st) L fa cdv).scope "self") (hv2 : ∀ (f : Addr) (cdv : Value) (L : Nat), Vis (envOfC qual (defScope st) L fa cdv).scope pn) (hd1 : (pn == ("__debug__" : Str)) = false := by decide) (hd2 : (pn == ("__classdict__" : Str)) = false := by decide) :
    FnOk P w K mg base (L2N.CX P w) (k + 1) fa fd ["self", pn] (spX2 K C wd fl) := by
  refine okN F S (fun vs H Q E ⟨a, y, h, _⟩ => by rw [h]; rfl) (fun cdv A outer s H vs Q E hr ⟨a, y, h, ha, q⟩ => ?_)
  rw [hb]
  refine ⟨_, pss_cons (ps_osG (pe_var (i := 0) rfl (hv fa cdv _)) pe_str) (pss_one (ps_osG (pe_var (i := 0) rfl (hv fa cdv _)) (pe_var (i := 1) rfl (hv2 fa cdv _) hd1 hd2))), ?_⟩
  subst h
  refine ⟨_, rfl, a, C, rfl, T, hno, .inl ⟨ha, fun dx hd hne => ?_⟩⟩
  refine ⟨_, rfl, _, rfl, a, C, rfl, T, hnf, .inr ⟨dx, _, upd_same, ?_, Nat.le_of_ble_eq_true rfl, q dx hd hne⟩⟩
  rw [upd_ne hne, upd_same]
end
section
end
/-! what the head decides -/
theorem oexG_of {K : PySem.W.Frag} {C : Addr} (q : oexGB K C = true) (sa : PySem.W.findIn K (.ref C) "__setattr__" = some (some (.builtin "object.__setattr__"))) (exC : PySem.W.subIn K (.ref C) (.type "BaseException") = some true) (tyC : PySem.W.typeIn K (.ref C) = some (.type "type")) (kC : PySem.W.keepIn K (.ref C) = true) : OexG K C := by
  refine ⟨?_, sa, exC, tyC, kC⟩
  unfold oexGB at q
  split at q
  · rename_i dd cd sl ho
    split at q
    · rename_i C' bm k0 k1 k2 k3 n k5 hm hs
      simp only [Bool.and_eq_true, Bool.or_eq_true, beq_iff_eq, Bool.not_eq_true'] at q
      obtain ⟨⟨⟨rfl, hdel⟩, hdct⟩, hre⟩ := q
      obtain ⟨nm, bs, mro, ns, qn, hd, sn, sub, ab, col, del⟩ := cd
      dsimp only at hm hdel hdct
      subst hm hdel hdct
      have hsl : sl = #[k0, k1, k2, k3, some (.builtin n), k5] := by
        obtain ⟨l⟩ := sl
        simp only at hs
        rw [hs]
      subst hsl
      rcases hre with (⟨rfl, h⟩ | ⟨rfl, h⟩) | ⟨rfl, h⟩
      · exact ⟨_, _, _, _, nm, qn, ns, bs, bm, sn, sub, ab, col, dd, k0, k1, k2, k3, k5, F.excBase_ValueError, F.store_ValueError, ho, h⟩
      · exact ⟨_, _, _, _, nm, qn, ns, bs, bm, sn, sub, ab, col, dd, k0, k1, k2, k3, k5, F.excBase_LookupError, F.store_LookupError, ho, h⟩
      · exact ⟨_, _, _, _, nm, qn, ns, bs, bm, sn, sub, ab, col, dd, k0, k1, k2, k3, k5, F.excBase_IndexError, F.store_IndexError, ho, h⟩
    · cases q
  · cases q
end Dv
set_option Elab.async false
set_option linter.all false
set_option maxRecDepth 100000
set_option maxHeartbeats 4000000
set_option autoImplicit false
/-! the def that asks, and tells the word and the field of what it gets -/
namespace Dv
open PySem PySem.Spec PyProof.Rows L2
open PySem.W (exmAny)
/-! the clauses as they stand -/
end Dv
set_option Elab.async false
set_option linter.all false
set_option maxRecDepth 100000
set_option maxHeartbeats 4000000
set_option autoImplicit false
/-! a method called without its keyword-only parameters -/
namespace Dv
open PySem PySem.Spec PyProof.Rows L2
section
end
end Dv
set_option Elab.async false
set_option linter.all false
set_option maxRecDepth 100000
set_option maxHeartbeats 4000000
set_option autoImplicit false
/-! o[a:b] = a list, o a list of the store -/
namespace Dv
open PySem PySem.Spec PyProof.Rows L2
section
end
end Dv
set_option Elab.async false
set_option linter.all false
set_option maxRecDepth 100000
set_option maxHeartbeats 4000000
set_option autoImplicit false
/-! del o[a:b], o a list of the store -/
namespace Dv
open PySem PySem.Spec PyProof.Rows L2
section
end
section
end
/-! words of the walks -/
section
end
end Dv
set_option Elab.async false
set_option linter.all false
set_option maxRecDepth 100000
set_option maxHeartbeats 4000000
set_option autoImplicit false
/-! == of two dicts of the same two text keys, whose values are lists -/
namespace Dv
open PySem PySem.Spec PyProof.Rows L2
section
end
section
end
section
end
end Dv
set_option Elab.async false
set_option linter.all false
set_option maxRecDepth 100000
set_option maxHeartbeats 4000000
set_option autoImplicit false
/-! TABLE.get(key, z): a dict of the module with text keys and whole numbers -/
namespace Dv
open PySem PySem.Spec PyProof.Rows L2
section
end
section
end
section
end
end Dv
set_option Elab.async false
set_option linter.all false
set_option maxRecDepth 100000
set_option maxHeartbeats 4000000
set_option autoImplicit false
/-! a, b, c = x, y, z: plain names -/
namespace Dv
open PySem PySem.Spec PyProof.Rows L2
section
end
section
end
end Dv
set_option Elab.async false
set_option linter.all false
set_option maxRecDepth 100000
set_option maxHeartbeats 4000000
set_option autoImplicit false
/-! xs.insert(i, y), xs a list of the store, i not below nought -/
namespace Dv
open PySem PySem.Spec PyProof.Rows L2
section
end
end Dv
set_option Elab.async false
set_option linter.all false
set_option maxRecDepth 100000
set_option maxHeartbeats 4000000
set_option autoImplicit false
/-! try: .. except (A, B, ..): .., nothing bound -/
namespace Dv
open PySem PySem.Spec PyProof.Rows L2
open PySem.W (exmOne exmAny Frag Looks)
section
end
section
end
end Dv
set_option Elab.async false
set_option linter.all false
set_option maxRecDepth 100000
set_option maxHeartbeats 4000000
set_option autoImplicit false
/-! a tuple so often -/
namespace Dv
open PySem PySem.Spec PyProof.Rows L2
section
end
end Dv
set_option Elab.async false
set_option linter.all false
set_option maxRecDepth 100000
set_option maxHeartbeats 4000000
set_option autoImplicit false
/-! a tuple so often, also once or never -/
namespace Dv
open PySem PySem.Spec PyProof.Rows L2
section
end
section
end
end Dv
set_option Elab.async false
set_option linter.all false
set_option maxRecDepth 100000
set_option maxHeartbeats 4000000
set_option autoImplicit false
/-! for at, thing in enumerate(row), the row an object of the store that stays as it is meanwhile -/
noncomputable section
namespace Dv
open PySem PySem.Spec PyProof.Rows L2
section
end
section
end
end Dv
end
set_option Elab.async false
set_option linter.all false
set_option maxRecDepth 100000
set_option maxHeartbeats 4000000
set_option autoImplicit false
/-! for and [..] over a list of the store that stays as it is meanwhile -/
noncomputable section
namespace Dv
open PySem PySem.Spec PyProof.Rows L2
section
end
section
end
section
end
end Dv
end
set_option Elab.async false
set_option linter.all false
set_option maxRecDepth 100000
set_option maxHeartbeats 4000000
set_option autoImplicit false
/-! [..] that stays an object, over a list of the store -/
noncomputable section
namespace Dv
open PySem PySem.Spec PyProof.Rows L2
section
end
section
end
end Dv
end
set_option Elab.async false
set_option linter.all false
set_option maxRecDepth 100000
set_option maxHeartbeats 4000000
set_option autoImplicit false
/-! a tuple of texts that the module names -/
namespace Dv
open PySem PySem.Spec PyProof.Rows L2
/-! max of a list of numbers -/
section
end
end Dv
set_option Elab.async false
set_option linter.all false
set_option maxRecDepth 100000
set_option maxHeartbeats 4000000
set_option autoImplicit false
/-! a lambda that is kept in a variable and handed to a def later -/
namespace Dv
open PySem PySem.Spec PyProof.Rows L2
section
end
section
end
/-- a lambda as it stands -/
structure LamE where
  ar : Arguments
  body : Expr
  sc : Scope
section
variable {G : Gv} {X : Cx} {W : WX}
theorem so_not {io : Io} {S : Store} {H : Hp} {a : Addr} (so : StoreOk G io S H) (h : H a = none) : a ∉ io := by
  rintro (z | z)
  · obtain ⟨i, hi, e⟩ := List.getElem_of_mem z
    have hl : i < S.length := by rw [so.len]; exact hi
    obtain ⟨u, e2⟩ := (so.ob i S[i] a (List.getElem?_eq_getElem hl) (by rw [List.getElem?_eq_getElem hi, e])).there
    rw [h] at e2
    cases e2
  · obtain ⟨u, e2, _⟩ := so.hid a z
    rw [h] at e2
    cases e2
structure LamD (G : Gv) (X : Cx) (k : Nat) (l : LamE) (m : Env → Store → R Dt) : Prop where
  ok : LamX.LamS X.env.scope l.sc
  bind : ∀ (q : Str) (cl : List (Str × Addr)) (pm cv ctv : Value), bindArgs (PySem.W.kla_fn "<lambda>" q l.ar l.body l.sc cl pm cv ctv) ⟨[], []⟩ = pure []
  body : ∀ (A : Around) (outer : List PySem.Env) (s : Shared) (H : Hp) (E : XK) (f c : Addr), Room k (A.deeper (LamX.lamEnv X l.sc s.heap.objs.size f c)) → DE G (lamN X A outer s H E l.sc f c) (fun cls d _ H => E cls d H) l.body m
inductive LamsD (G : Gv) (X : Cx) (k : Nat) : List LamE → List (Env → Store → R Dt) → Prop
  | nil : LamsD G X k [] []
  | cons {l : LamE} {m : Env → Store → R Dt} {ls : List LamE} {ms : List (Env → Store → R Dt)} : LamD G X k l m → LamsD G X k ls ms → LamsD G X k (l :: ls) (m :: ms)
theorem LamsD.at_ {k : Nat} {ls : List LamE} {ms : List (Env → Store → R Dt)} (h : LamsD G X k ls ms) : ∀ {n : Nat} {l : LamE} {m : Env → Store → R Dt}, ls[n]? = some l → ms[n]? = some m → LamD G X k l m := by
  induction h with
  | nil => intro n l m e; simp at e
  | cons h r ih =>
    intro n l m e1 e2
    cases n with
    | zero =>
      simp at e1 e2
      subst e1 e2
      exact h
    | succ n => exact ih (by simpa using e1) (by simpa using e2)
end
section
end
end Dv
set_option Elab.async false
set_option linter.all false
set_option maxRecDepth 100000
set_option maxHeartbeats 4000000
set_option autoImplicit false
/-! a lambda that is kept in a variable, called by the def that made it -/
namespace Dv
open PySem PySem.Spec PyProof.Rows L2
section
end
end Dv
set_option Elab.async false
set_option linter.all false
set_option maxRecDepth 100000
set_option maxHeartbeats 4000000
set_option autoImplicit false
/-! dict(d): another dict with the same entries -/
namespace Dv
open PySem PySem.Spec PyProof.Rows L2
section
end
end Dv
set_option Elab.async false
set_option linter.all false
set_option maxRecDepth 100000
set_option maxHeartbeats 4000000
set_option autoImplicit false
/-! a text so often, a long list so often -/
namespace Dv
open PySem PySem.Spec PyProof.Rows L2
section
end
end Dv
set_option Elab.async false
set_option linter.all false
set_option maxRecDepth 100000
set_option maxHeartbeats 4000000
set_option autoImplicit false
/-! slices of texts -/
namespace Dv
open PySem PySem.Spec PyProof.Rows L2
section
variable {G : Gv} {X : Cx} {W : WX} {a : Expr} {pos : Pos} {ma : Env → Store → R Dt}
def cutT (z : Str) (lo hi : Option Int) : Str := ⟨(cutA z.cps.toList lo hi).toArray⟩
def mSlT (m : Env → Store → R Dt) (ml mh : Env → Store → R (Option Int)) : Env → Store → R Dt := fun e S => (m e S).bind fun x S1 => (ml e S1).bind fun l S2 => (mh e S2).bind fun h S3 => match x with
  | .str z => if z.length ≤ 100000 then .ok (.str (cutT z l h)) S3 else .stuck
  | _ => .stuck
theorem de_slT {lo hi : Option Expr} {p2 : Pos} {ml mh : Env → Store → R (Option Int)} (ha : DE G X W a ma) (hl : DP G X W lo ml) (hh : DP G X W hi mh) : DE G X W (.Subscript a (.Slice lo hi none p2) pos) (mSlT ma ml mh) := by
  obtain ⟨ta, pa, qa⟩ := ha
  obtain ⟨tl, pl, ql⟩ := hl
  obtain ⟨th, ph, qh⟩ := hh
  refine ⟨_, pe_slice sl_str pa pl ph, fun io H S e σ Q so re h => ?_⟩
  refine qa io H S e σ _ so re (h.bind.imp (fun _ _ _ _ z => z) fun x S1 i1 H1 g1 s1 k1 v rx => ?_)
  refine ql i1 H1 S1 e σ _ s1 (re.mono g1) (k1.bind.imp (fun _ _ _ _ z => z) fun l S2 i2 H2 g2 s2 k2 => ?_)
  refine qh i2 H2 S2 e σ _ s2 ((re.mono g1).mono g2) (k2.bind.imp (fun _ _ _ _ z => z) fun u S3 i3 H3 g3 s3 k3 => ?_)
  split at k3
  · rename_i z
    split at k3
    · rename_i hz
      cases rx
      have e : cutS z l u = cutT z l u := by
        unfold cutS cutT cutA
        rw [show z.cps.toList.length = z.length from Array.length_toList]
      refine ⟨z, rfl, by have : (100000 : Nat) ≤ sizeLine := by decide
                         omega, ?_⟩
      rw [e]
      exact k3 i3 H3 Grow.refl s3 _ (.str _)
    · exact k3.elim
  · exact k3.elim
theorem v_slT {en : Env} {S : Store} {Q : Dt → Store → Prop} {Z : Ex → Store → Prop} {ml mh : Env → Store → R (Option Int)} (h : Pe (ma en S) (fun x S1 => Pe (ml en S1) (fun l S2 => Pe (mh en S2) (fun u S3 => ∃ z, x = .str z ∧ z.length ≤ 100000 ∧ Q (.str (cutT z l u)) S3) Z) Z) Z) : Pe (mSlT ma ml mh en S) Q Z := by
  refine Pe.bind (h.imp (fun d S1 k => Pe.bind (k.imp (fun l S2 k => Pe.bind (k.imp (fun u S3 ⟨z, e, hz, k3⟩ => ?_) fun _ _ z => z)) fun _ _ z => z)) fun _ _ z => z)
  subst e
  show Pe (if z.length ≤ 100000 then _ else _) Q Z
  rw [if_pos hz]
  exact k3
end
end Dv
set_option Elab.async false
set_option linter.all false
set_option maxRecDepth 100000
set_option maxHeartbeats 4000000
set_option autoImplicit false
/-! dicts of the store whose keys are tuples of numbers and texts -/
namespace Dv
open PySem PySem.Spec PyProof.Rows L2
section
end
section
/-! {k: v}, k a tuple -/
end
end Dv
set_option Elab.async false
set_option linter.all false
set_option maxRecDepth 100000
set_option maxHeartbeats 4000000
set_option autoImplicit false
/-! a tuple that begins with a text == a tuple of one text -/
namespace Dv
open PySem PySem.Spec PyProof.Rows L2
section
end
end Dv
set_option Elab.async false
set_option linter.all false
set_option maxRecDepth 100000
set_option maxHeartbeats 4000000
set_option autoImplicit false
/-! xs.index(x), xs.count(x), the items plain data of any depth -/
namespace Dv
open PySem PySem.Spec PyProof.Rows L2
section
end
end Dv
set_option Elab.async false
set_option linter.all false
set_option maxRecDepth 100000
set_option maxHeartbeats 4000000
set_option autoImplicit false
/-! list(d.values()) as an object of the store -/
namespace Dv
open PySem PySem.Spec PyProof.Rows L2
section
end
end Dv
set_option Elab.async false
set_option linter.all false
set_option maxRecDepth 100000
set_option maxHeartbeats 4000000
set_option autoImplicit false
/-! {k: v for x in xs} as an object of the store, the keys texts, none twice -/
namespace Dv
open PySem PySem.Spec PyProof.Rows L2
section
end
section
end
end Dv
set_option Elab.async false
set_option linter.all false
set_option maxRecDepth 100000
set_option maxHeartbeats 4000000
set_option autoImplicit false
/-! xs * k as an object of the store -/
namespace Dv
open PySem PySem.Spec PyProof.Rows L2
section
end
end Dv
set_option Elab.async false
set_option linter.all false
set_option maxRecDepth 100000
set_option maxHeartbeats 4000000
set_option autoImplicit false
/-! y = {k: v for x in xs} on one line, y a local -/
namespace Dv
open PySem PySem.Spec PyProof.Rows L2
section
end
end Dv
set_option Elab.async false
set_option linter.all false
set_option maxRecDepth 100000
set_option maxHeartbeats 4000000
set_option autoImplicit false
/-! try: .. finally: .. ; the suite behind lets nothing out, the body ends at its end or raises -/
namespace Dv
open PySem PySem.Spec PyProof.Rows L2
section
end
section
end
section
end
section
end
end Dv
set_option Elab.async false
set_option linter.all false
set_option maxRecDepth 100000
set_option maxHeartbeats 4000000
set_option autoImplicit false
/-! == of an instance and an instance of another own class -/
namespace Dv
open PySem PySem.Spec PyProof.Rows L2
section
end
section
end
end Dv
set_option Elab.async false
set_option linter.all false
set_option maxRecDepth 100000
set_option maxHeartbeats 4000000
set_option autoImplicit false
/-! any(xs) of a list of truths -/
namespace Dv
open PySem PySem.Spec PyProof.Rows L2
section
end
end Dv
set_option Elab.async false
set_option linter.all false
set_option maxRecDepth 100000
set_option maxHeartbeats 4000000
set_option autoImplicit false
/-! walks over zip(xs, ys): lists of the store that stay as they are, or plain ones, of any lengths -/
noncomputable section
namespace Dv
open PySem PySem.Spec PyProof.Rows L2
section
end
section
end
end Dv
set_option Elab.async false
set_option linter.all false
set_option maxRecDepth 100000
set_option maxHeartbeats 4000000
set_option autoImplicit false
/-! (a, b, ..) = a tuple, where an exception is handled whose context is None -/
namespace Dv
open PySem PySem.Spec PyProof.Rows L2
section
end
section
end
end Dv
set_option Elab.async false
set_option linter.all false
set_option maxRecDepth 100000
set_option maxHeartbeats 4000000
set_option autoImplicit false
/-! != of two lists of the very same objects of the store -/
namespace Dv
open PySem PySem.Spec PyProof.Rows L2
section
end
section
end
end Dv
set_option Elab.async false
set_option linter.all false
set_option maxRecDepth 100000
set_option maxHeartbeats 4000000
set_option autoImplicit false
/-! sets of nested tuples that are all apart: the table -/
namespace Dv
open PySem PySem.Spec PyProof.Rows L2
section
end
/-- the key k stands at a -/
def NIs (h : Heap) (k : NestedKey) (a : Addr) : Prop := NestedIs h k (.ref a) ∧ k.depth ≤ 8
theorem NIs.keep {h h' : Heap} {k : NestedKey} {a : Addr} (x : NIs h k a) (hk : ∀ b o vs n, h.get? b = some o → o.data = .seq vs n → h'.get? b = some o) : NIs h' k a := ⟨NestedIs.at hk _ _ x.1, x.2⟩
section
variable {P : Program} {w : World} {A : Around} {E : Value → Shared → Prop} {s : Shared}
/-- the rows of the table -/
def rowsN (w : World) (L : List (Addr × NestedKey)) : List (Int × Value) := L.map fun p => (p.2.hash w, Value.ref p.1)
theorem rowsN_len (w : World) (L : List (Addr × NestedKey)) : (rowsN w L).length = L.length := List.length_map ..
/-- a set of keys at a -/
structure SetN (w : World) (h : Heap) (a : Addr) (L : List (Addr × NestedKey)) (es : Array (Int × Value)) (ep : Nat) (t : SetTable) : Prop where
  ob : ∃ o, h.get? a = some o ∧ o.ExactSet ∧ o.data = .set es ep t
  rows : es.toList = rowsN w L
  tab : TabOk t (L.map fun p => p.2.hash w)
  nd : (L.map (·.2)).Nodup
  keys : ∀ p ∈ L, NIs h p.2 p.1
  room : L.length * 5 < t.mask * 3
  few : L.length ≤ 76
variable {a : Addr} {L : List (Addr × NestedKey)} {es : Array (Int × Value)} {ep : Nat} {t : SetTable}
theorem SetN.size (R : SetN w s.heap a L es ep t) : es.size = L.length := by
  rw [← Array.length_toList, R.rows, rowsN_len]
theorem SetN.fits (R : SetN w s.heap a L es ep t) : t.fits es.size = true := by
  have h1 := R.tab.sz
  rw [List.length_map] at h1
  have h2 := R.size
  have h3 := R.room
  unfold SetTable.fits SetTable.fill
  rw [R.tab.dm, Bool.and_eq_true, beq_iff_eq, decide_eq_true_eq]
  show t.place.size = es.size ∧ t.place.size + 0 ≤ t.mask
  omega
end
end Dv
set_option Elab.async false
set_option linter.all false
set_option maxRecDepth 100000
set_option maxHeartbeats 4000000
set_option autoImplicit false
/-! sets of nested tuples that are all apart: adding, set(xs), len(set(xs)) -/
namespace Dv
open PySem PySem.Spec PyProof.Rows L2
section
end
end Dv
set_option Elab.async false
set_option linter.all false
set_option maxRecDepth 100000
set_option maxHeartbeats 4000000
set_option autoImplicit false
/-! set(xs), len(set(xs)) of nested tuples that are all apart -/
namespace Dv
open PySem PySem.Spec PyProof.Rows L2
section
variable {P : Program} {w : World} {A : Around} {E : Value → Shared → Prop} {s : Shared}
theorem SetN.keep {h h' : Heap} {a : Addr} {L : List (Addr × NestedKey)} {es : Array (Int × Value)} {ep : Nat} {t : SetTable} (R : SetN w h a L es ep t) (ha : ∀ o, h.get? a = some o → h'.get? a = some o) (ht : ∀ p ∈ L, NIs h' p.2 p.1) : SetN w h' a L es ep t := by
  obtain ⟨o, ho, r⟩ := R.ob
  exact ⟨⟨o, ha o ho, r⟩, R.rows, R.tab, R.nd, ht, R.room, R.few⟩
end
end Dv
set_option Elab.async false
set_option linter.all false
set_option maxRecDepth 100000
set_option maxHeartbeats 4000000
set_option autoImplicit false
/-! len(set(xs)), xs a list of nested tuples that are all apart -/
namespace Dv
open PySem PySem.Spec PyProof.Rows L2
section
end
section
end
section
end
section
end
end Dv
set_option Elab.async false
set_option linter.all false
set_option maxRecDepth 100000
set_option maxHeartbeats 4000000
set_option autoImplicit false
/-! d[k] = v of a dict of the store that grows, k a text -/
namespace Dv
open PySem PySem.Spec PyProof.Rows L2
section
end
end Dv
set_option Elab.async false
set_option linter.all false
set_option maxRecDepth 100000
set_option maxHeartbeats 4000000
set_option autoImplicit false
/-! dicts of the store: the empty one, one of one item whose key is any text -/
namespace Dv
open PySem PySem.Spec PyProof.Rows L2
section
end
end Dv
set_option Elab.async false
set_option linter.all false
set_option maxRecDepth 100000
set_option maxHeartbeats 4000000
set_option autoImplicit false
/-! d.update(d2), two dicts of the store; the keys of d2 are new -/
namespace Dv
open PySem PySem.Spec PyProof.Rows L2
section
end
section
end
end Dv
set_option Elab.async false
set_option linter.all false
set_option maxRecDepth 100000
set_option maxHeartbeats 4000000
set_option autoImplicit false
/-! dicts with text keys: d[k], k in d, len(d), sorted(d), dict(()) -/
namespace Dv
open PySem PySem.Spec PyProof.Rows L2
section
end
section
end
section
end
end Dv
set_option Elab.async false
set_option linter.all false
set_option maxRecDepth 100000
set_option maxHeartbeats 4000000
set_option autoImplicit false
/-! d == {} -/
namespace Dv
open PySem PySem.Spec PyProof.Rows L2
section
end
section
end
end Dv
set_option Elab.async false
set_option linter.all false
set_option maxRecDepth 100000
set_option maxHeartbeats 4000000
set_option autoImplicit false
/-! sets of texts, told by what was laid in, one after another -/
namespace Dv
open PySem PySem.Spec PyProof.Rows L2
/-- a text laid in -/
def insS (l : List Str) (k : Str) : List Str := if k ∈ l then l else l ++ [k]
/-- the texts, each once -/
def dd (ks : List Str) : List Str := ks.foldl insS []
def txE (e : Int × Value) : Str := match e.2 with
  | .str x _ => x
  | _ => ⟨#[]⟩
/-- the set of the texts L at a; its table can be walked -/
structure StrAt (w : World) (h : Heap) (a : Addr) (L : List Str) (o : Obj) (es : Array (Int × Value)) (ep : Nat) (t : SetTable) : Prop where
  at_ : h.get? a = some o
  ex : o.ExactSet
  dat : o.data = .set es ep t
  good : ∀ e ∈ es.toList, ∃ x tk, e.2 = Value.str x tk ∧ e.1 = hashStr w x
  pm : (es.toList.map txE).Perm L
  nd : L.Nodup
  few : L.length < scanBound
  fits : t.fits es.size = true
  ris : Ris t.place.toList
  led : w.params.followText "set-order" = true ∨ t.led = true
def StrR (w : World) (h : Heap) (a : Addr) (L : List Str) : Prop := ∃ o es ep t, StrAt w h a L o es ep t
section
variable {P : Program} {w : World} {A : Around} {E : Value → Shared → Prop} {s : Shared} {a : Addr} {L : List Str} {o : Obj} {es : Array (Int × Value)} {ep : Nat} {t : SetTable}
theorem StrAt.size {h : Heap} (R : StrAt w h a L o es ep t) : es.size = L.length := by rw [← Array.length_toList, ← List.length_map (f := txE), R.pm.length_eq]
theorem StrR.keep {h h' : Heap} (R : StrR w h a L) (k : ∀ o, h.get? a = some o → h'.get? a = some o) : StrR w h' a L := by
  obtain ⟨o, es, ep, t, R⟩ := R
  exact ⟨o, es, ep, t, k o R.at_, R.ex, R.dat, R.good, R.pm, R.nd, R.few, R.fits, R.ris, R.led⟩
end
/-! ### in the tracked heap -/
section
end
end Dv
set_option Elab.async false
set_option linter.all false
set_option maxRecDepth 100000
set_option maxHeartbeats 4000000
set_option autoImplicit false
/-! {e for x in xs for y in ys}, e a text -/
namespace Dv
open PySem PySem.Spec PyProof.Rows L2 PpSet
section
end
section
variable {X : Cx}
theorem StrR.there {w : World} {h : Heap} {a : Addr} {L : List Str} (R : StrR w h a L) : ∃ o, h.get? a = some o ∧ ∀ v, o.data ≠ .cell v := by
  obtain ⟨o, es, ep, t, R⟩ := R
  exact ⟨o, R.at_, fun v e => by have := R.dat; rw [e] at this; cases this⟩
end
end Dv
set_option Elab.async false
set_option linter.all false
set_option maxRecDepth 100000
set_option maxHeartbeats 4000000
set_option autoImplicit false
/-! texts in order; sorted({e for x in xs for y in ys}), sorted(texts) -/
namespace Dv
open PySem PySem.Spec PyProof.Rows L2
/-! ### sorted(texts) -/
section
end
/-! ### sorted(a set comprehension of two clauses) -/
section
end
/-! ### used -/
end Dv
set_option Elab.async false
set_option linter.all false
set_option maxRecDepth 100000
set_option maxHeartbeats 4000000
set_option autoImplicit false
/-! sorted({e for x in xs for y in ys}), the ys lists of the store, the outcome one of the store -/
noncomputable section
namespace Dv
open PySem PySem.Spec PyProof.Rows L2
section
end
/-! ### used -/
end Dv
end
set_option Elab.async false
set_option linter.all false
set_option maxRecDepth 100000
set_option maxHeartbeats 4000000
set_option autoImplicit false
/-! enumerate over a locked dict -/
namespace Dv
open PySem PySem.Spec PyProof.Rows L2
section
end
section
end
end Dv
set_option Elab.async false
set_option linter.all false
set_option maxRecDepth 100000
set_option maxHeartbeats 4000000
set_option autoImplicit false
/-! [pair[0] for pair in d.values()] -/
namespace Dv
open PySem PySem.Spec PyProof.Rows L2
section
end
end Dv
set_option Elab.async false
set_option linter.all false
set_option maxRecDepth 100000
set_option maxHeartbeats 4000000
set_option autoImplicit false
/-! {k: rows[at] for at, k in enumerate(d)} -/
namespace Dv
open PySem PySem.Spec PyProof.Rows L2
theorem atI_nat {α : Type} {xs : List α} {n : Nat} {x : α} (h : xs[n]? = some x) : atI xs (n : Int) = some x := by
  have hl := (List.getElem?_eq_some_iff.mp h).1
  unfold atI ixN
  rw [if_pos (Int.natCast_nonneg n), if_pos (by omega)]
  exact h
section
end
end Dv
set_option Elab.async false
set_option linter.all false
set_option maxRecDepth 100000
set_option maxHeartbeats 4000000
set_option autoImplicit false
/-! a, *b = xs, b a new list of the store -/
namespace Dv
open PySem PySem.Spec PyProof.Rows L2
section
end
end Dv
set_option Elab.async false
set_option linter.all false
set_option maxRecDepth 100000
set_option maxHeartbeats 4000000
set_option autoImplicit false
/-! exceptions of the text as values: made, asked for their class, their fields read -/
namespace Dv
open PySem PySem.Spec PyProof.Rows L2
/-! ### made -/
/-- C(..) as a value -/
def tMkV (C : Addr) (sp : Sp) (ta : TA) : TE := fun σ H Q => ta σ H fun vs H1 => vs.length ≤ 1000 ∧ ∀ a, H1 a = none → sp (.ref a :: vs) (upd H1 a (exo a C none)) (fun v H2 => v = .non ∧ (∃ (d : Addr) (fs : List (Str × V)), H2 a = some (exo a C (some d)) ∧ H2 d = some (exd d fs)) ∧ Q (.ref a) H2) (fun _ _ _ => False)
/-- what a call made beside the new object e stays beside it -/
theorem un_with {l : List Addr} {H1 H2 : Hp} {e : Addr} {o : HO} {h0 h1 h2 : Heap} (un : Un l [] (upd H1 e o) H2 h1 h2) (he : h0.objs.size ≤ e) (hn : H1 e = none) (k : ∀ b u, h0.get? b = some u → h1.get? b = some u) : Un l [] H1 H2 h0 h2 := by
  have ne : ∀ {b : Addr} {u : Obj}, h0.get? b = some u → b ≠ e := fun {b u} z => Nat.ne_of_lt (Nat.lt_of_lt_of_le (Heap.lt_size z) he)
  have no : ∀ {b : Addr} {u : Obj}, h0.get? b = some u → H1 b = none → upd H1 e o b = none := fun {b u} z n => by
    rw [upd_ne (ne z)]
    exact n
  have at' : ∀ {b : Addr} {u : HO}, H1 b = some u → upd H1 e o b = some u := fun {b u} z => by
    rw [upd_ne fun q => by rw [q, hn] at z; cases z]
    exact z
  exact { keep := fun b u z n hf hx => un.keep b u (k b u z) (no z n) hf hx, slot := fun b u z n hf hx => un.slot b u (k b u z) (no z n) hf hx, free := fun b u z n hx => un.free b u (k b u z) (no z n) hx,
          there := fun b u z hx => un.there b u (k b u z) hx, tups := fun b xs z => un.tups b xs (at' z), frzs := fun b u v z => un.frzs b u v (at' z), tbls := fun b ps z => un.tbls b ps (at' z) }
section
variable {X : Cx} {e : Expr} {es : List Expr} {ta : TA} {p pos : Pos}
theorem call_v {CX : CXT} {C fI : Addr} {k : Nat} {fd : FuncData} {ps : List Str} {sp : Sp} {pins : List (Addr × Obj)} {σ : L2.St} {H : Hp} {Q : VK} {s : Shared} {vs : List V} {us : List Value} (T : OexG X.K C) (iC : PySem.W.findIn X.K (.ref C) "__init__" = some (some (.ref fI))) (tI : PySem.W.typeIn X.K (.ref fI) = some (.type "function"))
    (F1 : FnOk X.prog X.w X.K X.mg X.base CX k fI fd ps sp) (hr : Room (k + 1) X.A) (hb : Binds X.K fd ps []) (hx : Passes CX X (fun _ _ _ => False)) (I : Inv X pins σ H s) (r : Vals vs us) (h : tMkV C sp (fun _ H K => K vs H) σ H Q) :
    wpAny (model X.prog X.w) X.A (call (.ref C) us) (fun u s' => ∃ x H', Inv X pins σ H' s' ∧ RelV x u ∧ Q x H') X.xe s := by
  obtain ⟨_, q1⟩ := h
  obtain ⟨B, bmB, nwI, inI, nm, q, N, bs, bm, sn, sub, ab, col, dd, k0, k1, k2, k3, k5, FB, _, hC, hbm⟩ := T.cls
  obtain ⟨hp, g, dr, tk, os⟩ := s
  have sz : hp.objs.size ≤ hp.objs.size + 1 := Nat.le_succ _
  have fr := I.hok.fresh sz
  have hq := q1 (hp.objs.size + 1) fr
  have kk : ∀ b o, hp.get? b = some o → ((hp.push (PySem.W.kdv_tup us)).push (PySem.HandSPX.excO C hp.objs.size)).get? b = some o := fun b o z => Heap.get?_push_of_some _ (Heap.get?_push_of_some _ z)
  have J : Inv X pins σ (upd H (hp.objs.size + 1) (exo (hp.objs.size + 1) C none)) ⟨(hp.push (PySem.W.kdv_tup us)).push (PySem.HandSPX.excO C hp.objs.size), g, dr, tk, os⟩ :=
    I.laid (t' := tk) kk sz (exo_ok (t1 := hp.objs.size) (by heap_get))
  have rr : Vals (V.ref (hp.objs.size + 1) :: vs) (Value.ref (hp.objs.size + 1) :: us) := .cons rfl r
  have ll : (Value.ref (hp.objs.size + 1) :: us).length = ps.length := rr.length.symm.trans (F1.len _ _ _ _ hq)
  have bb := hb ⟨(hp.push (PySem.W.kdv_tup us)).push (PySem.HandSPX.excO C hp.objs.size), g, dr, tk, os⟩ (Value.ref (hp.objs.size + 1) :: us) J.kIn (by rw [List.append_nil]; exact ll)
  rw [List.append_nil] at bb
  have lu : us.length ≤ sizeLine := by
    have := r.length
    rw [sizeLine_eq]
    omega
  refine wpAny_call (PySem.HandSPX.call_own FB (fun Y => PySem.W.excTail_contains Y bm hbm) (I.kIn _ _ hC) (PySem.W.looks_findIn I.kIn iC) (fun self => PySem.W.bind_fn I.kIn self tI) lu
    (codeAny_mono (F1.run _ X.stack _ _ ⟨Value.ref (hp.objs.size + 1) :: us, []⟩ (Value.ref (hp.objs.size + 1) :: us) _ _ (fun _ _ _ => False) (hr.make C us []) (J.env0.make C us []) bb rr hq) fun z s' hz' => ?_))
  match z, hz' with
  | .error er, hz' => exact hx pins σ _ _ er s' J hz'
  | .ok (.ret u), ⟨v, H2, os2, bare2, un2, hok2, rv, ev, _, q2⟩ =>
    subst ev
    obtain ⟨h2, g2, d2, t2, os'⟩ := s'
    exact ⟨rv, .ref (hp.objs.size + 1), H2, I.call' (ch := []) os2 (un_with un2 sz fr kk) hok2 bare2 (fun b z => absurd z (by simp)), rfl, q2⟩
theorem pe_mkV0 {CX : CXT} {x : Str} {C fI : Addr} {k : Nat} {fd : FuncData} {ps : List Str} {sp : Sp} (T : OexG X.K C) (iC : PySem.W.findIn X.K (.ref C) "__init__" = some (some (.ref fI))) (tI : PySem.W.typeIn X.K (.ref fI) = some (.type "function"))
    (F1 : FnOk X.prog X.w X.K X.mg X.base CX k fI fd ps sp) (hr : Room (k + 1) X.A) (hb : Binds X.K fd ps []) (hx : Passes CX X (fun _ _ _ => False)) (hg : Gl X x) (hm : X.mg x = some (.ref C)) (hdb : (x == ("__debug__" : Str)) = false := by decide) :
    PE X (.Call (.Name x p) [] [] pos) (tMkV C sp tNil) := by
  refine ⟨fun pins s σ H Q I h => ?_⟩
  refine wpAny_Call_Name_kw (ld_glob I hg hm ?_ hdb)
  exact PySem.W.callWith_K0 I.kIn T.kC (call_v T iC tI F1 hr hb hx I .nil h)
theorem pe_mkV1 {CX : CXT} {x : Str} {C fI : Addr} {k : Nat} {fd : FuncData} {ps : List Str} {sp : Sp} (T : OexG X.K C) (iC : PySem.W.findIn X.K (.ref C) "__init__" = some (some (.ref fI))) (tI : PySem.W.typeIn X.K (.ref fI) = some (.type "function"))
    (F1 : FnOk X.prog X.w X.K X.mg X.base CX k fI fd ps sp) (hr : Room (k + 1) X.A) (hb : Binds X.K fd ps []) (hx : Passes CX X (fun _ _ _ => False)) (hg : Gl X x) (hm : X.mg x = some (.ref C)) (ha : PA X (e :: es) ta)
    (hdb : (x == ("__debug__" : Str)) = false := by decide) (he : starEach (e :: es) X.env = (false, eval e X.env) :: starEach es X.env := by rfl) (hpl : (backTo pos (starEach es X.env)).any (·.1) = false := by rfl) :
    PE X (.Call (.Name x p) (e :: es) [] pos) (tMkV C sp ta) := by
  refine ⟨fun pins s σ H Q I h => ?_⟩
  refine wpAny_Call_Name_kw (ld_glob I hg hm ?_ hdb)
  exact PySem.W.callWith_K (h₀ := X.base) I.ok.mod.kin T.kC (thn (ha.run pos pins s σ H _ I h) fun us s1 ⟨vs, H1, I1, r1, q⟩ => ⟨I1.kIn, call_v T iC tI F1 hr hb hx I1 r1 q⟩) he hpl
end
def fdOf : Dt → Option Fd
  | .int i => some (.int i)
  | .str s => some (.str s)
  | _ => none
def Fd.d : Fd → Dt
  | .int i => .int i
  | .str s => .str s
def mMkE0 (c : String) (wd : Str) : Env → Store → R Dt := fun _ S => .ok (.exc c [("word", .str wd)]) S
def mMkE1 (c : String) (wd fl : Str) (me : Env → Store → R Dt) : Env → Store → R Dt := fun en S => (me en S).bind fun d S1 => match fdOf d with
  | some x => .ok (.exc c [(fl, x), ("word", .str wd)]) S1
  | none => .stuck
section
variable {G : Gv} {X : Cx} {W : WX} {e : Expr} {me : Env → Store → R Dt} {x : Str} {C fI : Addr} {k : Nat} {fd : FuncData} {wd fl pn : Str} {c : String} {p pos : Pos}
theorem exc_rel {io : Io} {S : Store} {H H2 : Hp} {a dx : Addr} {fs : List (Str × Fd)} (so : StoreOk G io S H) (hX : G.xl c = some C) (ha : H a = none) (hd : H dx = none) (k2 : ∀ b, b ≠ a → b ≠ dx → H2 b = H b) (e1 : H2 a = some (exo a C (some dx))) (e2 : H2 dx = some (exd dx (fs.map fun p => (p.1, p.2.v)))) :
    Grow io H io H2 ∧ StoreOk G io S H2 ∧ RelD G io H2 (.exc c fs) (.ref a) := by
  have ex : ExtH H H2 := fun b o hb => by
    have h1 : b ≠ a := fun z => by rw [z, ha] at hb; cases hb
    have h2 : b ≠ dx := fun z => by rw [z, hd] at hb; cases hb
    rw [k2 b h1 h2]
    exact hb
  exact ⟨ex.grow, so.ext ex, .exc ⟨e1, so_not so ha⟩ ⟨e2, so_not so hd⟩ hX⟩
theorem de_mkE0 (hX : G.xl c = some C) (tk : L2N.Takes X W) (T : OexG G.K C) (iC : PySem.W.findIn G.K (.ref C) "__init__" = some (some (.ref fI))) (tI : PySem.W.typeIn G.K (.ref fI) = some (.type "function"))
    (F1 : FnOk X.prog X.w X.K X.mg X.base (L2N.CX X.prog X.w) k fI fd ["self"] (spX1 G.K C wd)) (hr : Room (k + 1) X.A) (hb : Binds X.K fd ["self"] []) (hm : X.mg x = some (.ref C)) (hg : Gl X x := by rfl)
    (hdb : (x == ("__debug__" : Str)) = false := by decide) (hK : X.K = G.K := by rfl) : DE G X W (.Call (.Name x p) [] [] pos) (mMkE0 c wd) := by
  refine ⟨_, pe_mkV0 (by rw [hK]; exact T) (by rw [hK]; exact iC) (by rw [hK]; exact tI) F1 hr hb (L2N.passes_call tk fun _ _ _ _ z => z.elim) hg hm hdb, fun io H S en σ Q so re h => ?_⟩
  refine ⟨Nat.zero_le _, fun a ha => ⟨a, rfl, upd_same, fun dx hd hne => ⟨rfl, ⟨dx, [("word", .str wd)], upd_same, ?_⟩, ?_⟩⟩⟩
  · rw [upd_ne hne, upd_same]
  · rw [upd_ne hne] at hd
    obtain ⟨g, s, r⟩ := exc_rel (fs := [("word", .str wd)]) so hX ha hd (H2 := upd (upd (upd H a (exo a C none)) dx (exd dx [("word", .str wd)])) a (exo a C (some dx))) (fun b h1 h2 => by rw [upd_ne h1, upd_ne h2, upd_ne h1]) upd_same (by rw [upd_ne hne, upd_same]; rfl)
    exact h io _ g s _ r
theorem de_mkE1 (hX : G.xl c = some C) (tk : L2N.Takes X W) (he : DE G X W e me) (T : OexG G.K C) (iC : PySem.W.findIn G.K (.ref C) "__init__" = some (some (.ref fI))) (tI : PySem.W.typeIn G.K (.ref fI) = some (.type "function"))
    (F1 : FnOk X.prog X.w X.K X.mg X.base (L2N.CX X.prog X.w) k fI fd ["self", pn] (spX2 G.K C wd fl)) (hr : Room (k + 1) X.A) (hb : Binds X.K fd ["self", pn] []) (hm : X.mg x = some (.ref C)) (hg : Gl X x := by rfl)
    (hdb : (x == ("__debug__" : Str)) = false := by decide) (hst : starEach [e] X.env = (false, eval e X.env) :: starEach [] X.env := by rfl) (hpl : (backTo pos (starEach [] X.env)).any (·.1) = false := by rfl) (hK : X.K = G.K := by rfl) :
    DE G X W (.Call (.Name x p) [e] [] pos) (mMkE1 c wd fl me) := by
  obtain ⟨t, pe, q⟩ := he
  refine ⟨_, pe_mkV1 (by rw [hK]; exact T) (by rw [hK]; exact iC) (by rw [hK]; exact tI) F1 hr hb (L2N.passes_call tk fun _ _ _ _ z => z.elim) hg hm (pa_cons pe pa_nil hst) hdb hst hpl, fun io H S en σ Q so re h => ?_⟩
  refine q io H S en σ _ so re (h.bind.imp (fun _ _ _ _ z => z) fun d S1 i1 H1 g1 s1 k1 v r => ?_)
  cases ef : fdOf d with
  | none => rw [ef] at k1; exact k1.elim
  | some y =>
    rw [ef] at k1
    have ev : v = y.v := by
      cases r with
      | int i => cases ef; rfl
      | str s => cases ef; rfl
      | _ => cases ef
    subst ev
    refine ⟨Nat.le_of_ble_eq_true rfl, fun a ha => ⟨a, y.v, rfl, upd_same, fun dx hd hne => ⟨rfl, ⟨dx, [(fl, y.v), ("word", .str wd)], ?_, upd_same⟩, ?_⟩⟩⟩
    · rw [upd_ne (Ne.symm hne), upd_same]
    · rw [upd_ne hne] at hd
      obtain ⟨g, s, r2⟩ := exc_rel (fs := [(fl, y), ("word", .str wd)]) s1 hX ha hd (H2 := upd (upd (upd (upd H1 a (exo a C none)) dx (exd dx [("word", .str wd)])) a (exo a C (some dx))) dx (exd dx [(fl, y.v), ("word", .str wd)])) (fun b h1 h2 => by rw [upd_ne h2, upd_ne h1, upd_ne h2, upd_ne h1])
        (by rw [upd_ne (Ne.symm hne), upd_same]) upd_same
      exact k1 i1 _ g s _ r2
end
/-! ### asked for their class -/
def rIsV (K : PySem.W.Frag) : List V → Hp → VK → Prop := fun xs H Q => ∃ (a C : Addr) (d : Option Addr) (dd : Addr) (fs : List (Str × V)) (c : V) (cv : Value) (b : Bool), xs = [.ref a, c] ∧ d = some dd ∧ H a = some (exo a C d) ∧ H dd = some (exd dd fs) ∧ exvB K C = true ∧ clsAskB K = true ∧ ClsV c cv ∧ PySem.W.kitOne K (.ref C) cv = some b ∧ Q (.bl b) H
theorem call_isV {X : Cx} : CallR X (.builtin "isinstance") (rIsV X.K) := by
  intro pins s σ H xs us Q I r h
  obtain ⟨a, C, d, dd, fs, c, cv, b, rfl, rfl, ea, ed, hv, hc, kc, e, q⟩ := h
  obtain ⟨u1, u2, rfl, r1, r2⟩ := vals2 r
  have e2 := kc.eq r2
  subst e2
  cases (show u1 = Value.ref a from r1)
  unfold exvB at hv
  unfold clsAskB at hc
  simp only [Bool.and_eq_true, decide_eq_true_eq] at hv hc
  obtain ⟨h1, h2, h3, h4⟩ := hv
  have xf := xfB_ok h2
  obtain ⟨t1, ho⟩ := exo_at I.hok ea
  obtain ⟨mA, hns, _⟩ := exd_at I.hok ed
  obtain ⟨od, hod, _⟩ := lookIn_ns hns
  have J : PySem.W.InstAt s.heap a { cls := .ref C, dict := some dd, data := .fields #[.ref t1, .none, .none, .none, .bool false, .none] } C (some od) := ⟨ho, rfl, rfl, hod⟩
  exact PySem.W.kia_one (PySem.W.kitx_exc h1 xf.ga xf.gg xf.exC h3 hc.1 hc.2 h4) I.kIn J e (fun z => nomatch z) fun tk => ⟨.bl b, H, I.tok tk, rfl, q⟩
def mIsE (L : List String) (me : Env → Store → R Dt) : Env → Store → R Dt := fun en S => (me en S).bind fun d S1 => match d with
  | .exc c _ => .ok (.bl (decide (c ∈ L))) S1
  | _ => .stuck
theorem isE_at {K : PySem.W.Frag} {L : List (String × Addr)} {M : List (Value × List String)} (h : isEB K L M = true) {c : String} {C : Addr} (hc : (c, C) ∈ L) {v : Value} {l : List String} (hv : (v, l) ∈ M) : (exvB K C = true ∧ clsAskB K = true) ∧ PySem.W.kitOne K (.ref C) v = some (decide (c ∈ l)) := by
  unfold isEB at h
  rw [Bool.and_eq_true, List.all_eq_true] at h
  have a := h.2 _ hc
  rw [Bool.and_eq_true, List.all_eq_true] at a
  exact ⟨⟨a.1, h.1⟩, eq_of_beq (a.2 _ hv)⟩
section
variable {G : Gv} {X : Cx} {W : WX} {e : Expr} {me : Env → Store → R Dt} {x : Str} {p p2 pos : Pos} {L : List (String × Addr)} {M : List (Value × List String)} {l : List String}
theorem isE_sim {C : V} {v : Value} (kc : ClsV C v) (hb : isEB G.K L M = true) (hL : ∀ c E, G.xl c = some E → (c, E) ∈ L) (hv : (v, l) ∈ M) (pn : PE X (.Name x p2) (tC C)) (he : DE G X W e me) (hz : X.mg "isinstance" = none) (hg : Gl X "isinstance" := by rfl)
    (n1 : starEach [e, .Name x p2] X.env = (false, eval e X.env) :: starEach [.Name x p2] X.env := by rfl) (n2 : starEach [.Name x p2] X.env = (false, eval (.Name x p2) X.env) :: starEach [] X.env := by rfl) (hpl : (backTo pos (starEach [.Name x p2] X.env)).any (·.1) = false := by rfl) (hK : X.K = G.K := by rfl) :
    DE G X W (.Call (.Name "isinstance" p) [e, .Name x p2] [] pos) (mIsE l me) := by
  obtain ⟨t, pe, q⟩ := he
  refine ⟨_, pe_callB call_isV hg hz (by rfl) (pa_cons pe (pa_cons pn pa_nil n2) n1) (by decide) (by decide) n1 hpl, fun io H S en σ Q so re h => ?_⟩
  refine q io H S en σ _ so re (h.bind.imp (fun _ _ _ _ z => z) fun d S1 i1 H1 g1 s1 k1 v' r => ?_)
  cases r with
  | @exc a E dd c fs ha hd hx =>
    obtain ⟨⟨a1, a2⟩, a3⟩ := isE_at hb (hL c E hx) hv
    exact ⟨a, E, _, dd, _, C, v, _, rfl, rfl, ha.1, hd.1, by rw [hK]; exact a1, by rw [hK]; exact a2, kc, by rw [hK]; exact a3, k1 i1 H1 Grow.refl s1 _ (.bl _)⟩
  | _ => exact k1.elim
theorem de_isE {D : Addr} (hm : X.mg x = some (.ref D)) (hb : isEB G.K L M = true) (hL : ∀ c E, G.xl c = some E → (c, E) ∈ L) (hv : (Value.ref D, l) ∈ M) (he : DE G X W e me) (hz : X.mg "isinstance" = none) (hg2 : Gl X x := by rfl) (hdb : (x == ("__debug__" : Str)) = false := by decide) (hg : Gl X "isinstance" := by rfl)
    (n1 : starEach [e, .Name x p2] X.env = (false, eval e X.env) :: starEach [.Name x p2] X.env := by rfl) (n2 : starEach [.Name x p2] X.env = (false, eval (.Name x p2) X.env) :: starEach [] X.env := by rfl) (hpl : (backTo pos (starEach [.Name x p2] X.env)).any (·.1) = false := by rfl) (hK : X.K = G.K := by rfl) :
    DE G X W (.Call (.Name "isinstance" p) [e, .Name x p2] [] pos) (mIsE l me) :=
  isE_sim (.own D) hb hL hv (pe_glob (v := .ref D) hg2 hm rfl hdb) he hz hg n1 n2 hpl hK
theorem de_isET {n : String} (hm : X.mg x = none) (hbt : bootBuiltins x = some (.type n)) (hb : isEB G.K L M = true) (hL : ∀ c E, G.xl c = some E → (c, E) ∈ L) (hv : (Value.type n, l) ∈ M) (he : DE G X W e me) (hz : X.mg "isinstance" = none) (hg2 : Gl X x := by rfl) (hn : x ≠ "__name__" := by decide) (hdb : (x == ("__debug__" : Str)) = false := by decide) (hg : Gl X "isinstance" := by rfl)
    (n1 : starEach [e, .Name x p2] X.env = (false, eval e X.env) :: starEach [.Name x p2] X.env := by rfl) (n2 : starEach [.Name x p2] X.env = (false, eval (.Name x p2) X.env) :: starEach [] X.env := by rfl) (hpl : (backTo pos (starEach [.Name x p2] X.env)).any (·.1) = false := by rfl) (hK : X.K = G.K := by rfl) :
    DE G X W (.Call (.Name "isinstance" p) [e, .Name x p2] [] pos) (mIsE l me) :=
  isE_sim (.ty n) hb hL hv (pe_bltn (v := .ty n) hg2 hm hbt rfl hn hdb) he hz hg n1 n2 hpl hK
end
/-! ### a field read -/
def tXfV (K : PySem.W.Frag) (f : Str) (te : TE) : TE := fun σ H Q => te σ H fun x H1 => ∃ (a C dd : Addr) (fs : List (Str × V)) (v : V), x = .ref a ∧ H1 a = some (exo a C (some dd)) ∧ H1 dd = some (exd dd fs) ∧ XfC K C ∧ PySem.W.findIn K (.ref C) f = some none ∧ fs.lookup f = some v ∧ Q v H1
theorem pe_xfV {X : Cx} {e : Expr} {te : TE} {pos : Pos} {n : Str} (he : PE X e te) (hb : attributeBase e n X.env (eval e X.env) = eval e X.env := by rfl) : PE X (.Attribute e n pos) (tXfV X.K n te) := by
  refine ⟨fun pins s σ H Q I h => attr_of hb (thn (he.run pins s σ H _ I h) fun u s1 ⟨x, H1, I1, rx, a, C, dd, fs, v, ex, ea, ed, T, hno, l, q⟩ => ?_)⟩
  subst ex
  cases (show u = Value.ref a from rx)
  obtain ⟨t1, ho⟩ := exo_at I1.hok ea
  obtain ⟨mA, hns, hr⟩ := exd_at I1.hok ed
  obtain ⟨od, hod, hl⟩ := lookIn_ns hns
  obtain ⟨u, hu, ru⟩ := RelO.some_of (v := v) (o := mA n) (by rw [← l]; exact hr n)
  have J : PySem.W.InstAt s1.heap a { cls := .ref C, dict := some dd, data := .fields #[.ref t1, .none, .none, .none, .bool false, .none] } C (some od) := ⟨ho, rfl, rfl, hod⟩
  exact HandSPX.exc_get I1.kIn J T.ga T.gg T.exC (PySem.W.findObj_own T.hdC hno rfl (by rw [hl, hu])) (handed_of ru) ⟨v, H1, I1.tok _, ru, q⟩
def mXFld (cs : List String) (f : Str) (me : Env → Store → R Dt) : Env → Store → R Dt := fun en S => (me en S).bind fun d S1 => match d with
  | .exc c fs => if c ∈ cs then (match fs.lookup f with
    | some y => .ok y.d S1
    | none => .stuck) else .stuck
  | _ => .stuck
theorem look_fd (f : Str) : ∀ fs : List (Str × Fd), (fs.map fun p => (p.1, p.2.v)).lookup f = (fs.lookup f).map Fd.v
  | [] => rfl
  | (g, y) :: fs => by
    show (match f == g with | true => some y.v | false => List.lookup f (fs.map fun p => (p.1, p.2.v))) = (match f == g with | true => some y | false => List.lookup f fs).map Fd.v
    cases f == g with
    | true => rfl
    | false => exact look_fd f fs
theorem de_xfld {G : Gv} {X : Cx} {W : WX} {e : Expr} {me : Env → Store → R Dt} {f : Str} {pos : Pos} (cs : List String) (ok : ∀ c ∈ cs, ∀ C, G.xl c = some C → XfC G.K C ∧ PySem.W.findIn G.K (.ref C) f = some none) (he : DE G X W e me) (hb : attributeBase e f X.env (eval e X.env) = eval e X.env := by rfl) (hK : X.K = G.K := by rfl) :
    DE G X W (.Attribute e f pos) (mXFld cs f me) := by
  obtain ⟨t, pe, q⟩ := he
  refine ⟨_, pe_xfV pe hb, fun io H S en σ Q so re h => ?_⟩
  refine q io H S en σ _ so re (h.bind.imp (fun _ _ _ _ z => z) fun d S1 i1 H1 g1 s1 k1 v r => ?_)
  cases r with
  | @exc a E dd c fs ha hd hx =>
    dsimp only at k1
    split at k1
    · rename_i hc
      split at k1
      · rename_i y hy
        obtain ⟨z1, z2⟩ := ok c hc E hx
        refine ⟨a, E, dd, _, y.v, rfl, ha.1, hd.1, by rw [hK]; exact z1, by rw [hK]; exact z2, by rw [look_fd, hy]; rfl, ?_⟩
        refine k1 i1 H1 Grow.refl s1 _ ?_
        cases y with
        | int i => exact .int i
        | str s => exact .str s
      · exact k1.elim
    · exact k1.elim
  | _ => exact k1.elim
/-! ### words -/
section
end
end Dv
set_option Elab.async false
set_option linter.all false
set_option maxRecDepth 100000
set_option maxHeartbeats 4000000
set_option autoImplicit false
namespace Lw
open PySem Dv
/-! the defs as functions: printed by our gen.py -/
def b_law_draw : Bd :=
  (mSeq (mIfS (mB (mOp mGt (mOp mIx (mVar 0) (mC (.int 2))) (mC (.int 0)))) (mSeq (mSet 2 (mOp mMod (mOp mIx (mVar 0) (mC (.int 2))) (mVar 1)))
  (mSeq (mAsg (gSubD (mVar 0) (mC (.int 2))) (mOp mDiv (mOp mIx (mVar 0) (mC (.int 2))) (mVar 1)))
  (mRet (mVar 2)))) mNx)
  (mSeq (mSet 3 (mC (.int 0)))
  (mSeq (mIfS (mB (mOp mLt (mOp mIx (mVar 0) (mC (.int 1))) (mCB mLen (mCons (mOp mIx (mVar 0) (mC (.int 0))) mNil)))) (mSet 3 (mOp mIx (mOp mIx (mVar 0) (mC (.int 0))) (mOp mIx (mVar 0) (mC (.int 1))))) mNx)
  (mSeq (mAsg (gSubD (mVar 0) (mC (.int 1))) (mOp mAdd (mOp mIx (mVar 0) (mC (.int 1))) (mC (.int 1))))
  (mSeq (mIfS (mB (mOp mGe (mCB mAbs (mCons (mVar 3) mNil)) (mOp mPow (mC (.int 10)) (mC (.int 18))))) (mSeq (mAsg (gSubD (mVar 0) (mC (.int 2))) (mOp mDiv (mCB mAbs (mCons (mVar 3) mNil)) (mVar 1)))
  (mRet (mOp mMod (mCB mAbs (mCons (mVar 3) mNil)) (mVar 1)))) mNx)
  (mSeq (mSet 4 (mOp mAdd (mOp mAdd (mOp mPow (mOp mIx (mVar 0) (mC (.int 3))) (mC (.int 3))) (mOp mMul (mOp mIx (mVar 0) (mC (.int 3))) (mC (.int 37)))) (mOp mMul (mOp mIx (mVar 0) (mC (.int 1))) (mC (.int 69621)))))
  (mSeq (mSet 4 (mOp mMod (mOp mAdd (mVar 4) (mOp mMul (mOp mMod (mVar 3) (mC (.int 2147483629))) (mC (.int 48271)))) (mC (.int 2147483647))))
  (mSeq (mAsg (gSubD (mVar 0) (mC (.int 3))) (mVar 4))
  (mRet (mOp mMod (mOp mAdd (mOp mDiv (mVar 4) (mC (.int 8192))) (mOp mMul (mOp mMod (mVar 4) (mC (.int 8191))) (mC (.int 40503)))) (mVar 1)))))))))))
def m_law_draw : Fn := fnRun 5 false b_law_draw
def b_law_flags : Bd :=
  (mSeq (mSet 1 (mLst (mCons (mIsE ["BadName"] (mVar 0)) (mCons (mIsE ["Taken"] (mVar 0)) (mCons (mIsE ["Full"] (mVar 0)) (mCons (mIsE ["BadTurns"] (mVar 0)) mNil))))))
  (mSeq (mSet 1 (mOp mAdd (mVar 1) (mLst (mCons (mIsE ["Tied"] (mVar 0)) (mCons (mIsE ["BadWay"] (mVar 0)) (mCons (mIsE ["BadRow"] (mVar 0)) mNil))))))
  (mSeq (mSet 1 (mOp mAdd (mVar 1) (mLst (mCons (mIsE ["Astray"] (mVar 0)) (mCons (mIsE ["TooLong"] (mVar 0)) (mCons (mIsE ["TooGreat"] (mVar 0)) mNil))))))
  (mSeq (mSet 1 (mOp mAdd (mVar 1) (mLst (mCons (mIsE ["NotMet"] (mVar 0)) (mCons (mIsE ["NotHome"] (mVar 0)) (mCons (mIsE ["BadExchange"] (mVar 0)) mNil))))))
  (mSeq (mSet 1 (mOp mAdd (mVar 1) (mLst (mCons (mIsE ["Strange"] (mVar 0)) (mCons (mIsE ["BadPlace"] (mVar 0)) (mCons (mIsE ["Stays"] (mVar 0)) mNil))))))
  (mSeq (mSet 1 (mOp mAdd (mVar 1) (mLst (mCons (mIsE ["Moves"] (mVar 0)) (mCons (mIsE ["NoWay"] (mVar 0)) (mCons (mIsE ["BadTerm"] (mVar 0)) mNil))))))
  (mSeq (mSet 1 (mOp mAdd (mVar 1) (mLst (mCons (mIsE ["BadText"] (mVar 0)) (mCons (mIsE ["InUse"] (mVar 0)) (mCons (mIsE ["Ring"] (mVar 0)) mNil))))))
  (mSeq (mSet 1 (mOp mAdd (mVar 1) (mLst (mCons (mIsE ["Breaks"] (mVar 0)) (mCons (mIsE ["BadDeed"] (mVar 0)) (mCons (mIsE ["BadNumber"] (mVar 0)) mNil))))))
  (mSeq (mSet 1 (mOp mAdd (mVar 1) (mLst (mCons (mIsE ["NoName"] (mVar 0)) (mCons (mIsE ["NoYard"] (mVar 0)) (mCons (mIsE ["NoPassage"] (mVar 0)) mNil))))))
  (mRet (mOp mAdd (mVar 1) (mLst (mCons (mIsE ["NoWalk"] (mVar 0)) (mCons (mIsE ["NothingLeft"] (mVar 0)) mNil))))))))))))))
def m_law_flags : Fn := fnRun 2 false b_law_flags
def b_law_flow : Bd :=
  (mRet (mLstR (mCons (mCB mList (mCons (mSl (mVar 0) mNoPart (mPart (mC (.int 63)))) mNil)) (mCons (mC (.int 0)) (mCons (mC (.int 0)) (mCons (mC (.int 23)) mNil))))))
def m_law_flow : Fn := fnRun 1 true b_law_flow
def b_law_made_error : Bd :=
  (mSeq (mSet 2 (mSlT (mC (.str "abcdefgh")) mNoPart (mPart (mOp mAdd (mC (.int 1)) (mOp mMod (mVar 1) (mC (.int 8)))))))
  (mSeq (mIfS (mB (mOp mLt (mVar 0) (mC (.int 10)))) (mSeq (mSet 3 (mLst (mCons (mMkE1 "BadName" "badname" "name" (mVar 2)) (mCons (mMkE1 "Taken" "taken" "name" (mVar 2)) (mCons (mMkE1 "Full" "full" "many" (mVar 1)) (mCons (mMkE1 "BadTurns" "badturns" "number" (mVar 1)) (mCons (mMkE1 "Tied" "tied" "name" (mVar 2)) (mCons (mMkE0 "BadWay" "badway") mNil))))))))
  (mRet (mOp mIx (mOp mAdd (mVar 3) (mLst (mCons (mMkE1 "BadRow" "badrow" "at" (mVar 1)) (mCons (mMkE1 "Astray" "astray" "at" (mVar 1)) (mCons (mMkE0 "TooLong" "toolong") (mCons (mMkE0 "TooGreat" "toogreat") mNil)))))) (mVar 0)))) mNx)
  (mSeq (mIfS (mB (mOp mLt (mVar 0) (mC (.int 20)))) (mSeq (mSet 3 (mLst (mCons (mMkE0 "NotMet" "notmet") (mCons (mMkE0 "NotHome" "nothome") (mCons (mMkE1 "BadExchange" "badexchange" "at" (mVar 1)) (mCons (mMkE0 "Strange" "strange") (mCons (mMkE0 "BadPlace" "badplace") (mCons (mMkE0 "Stays" "stays") (mCons (mMkE0 "Moves" "moves") mNil)))))))))
  (mRet (mOp mIx (mOp mAdd (mVar 3) (mLst (mCons (mMkE0 "NoWay" "noway") (mCons (mMkE0 "BadTerm" "badterm") (mCons (mMkE1 "BadText" "badtext" "at" (mVar 1)) mNil))))) (mOp mSub (mVar 0) (mC (.int 10)))))) mNx)
  (mSeq (mSet 3 (mLst (mCons (mMkE1 "InUse" "inuse" "name" (mVar 2)) (mCons (mMkE0 "Ring" "ring") (mCons (mMkE1 "Breaks" "breaks" "name" (mVar 2)) (mCons (mMkE1 "BadDeed" "baddeed" "at" (mVar 1)) (mCons (mMkE0 "BadNumber" "badnumber") (mCons (mMkE1 "NoName" "noname" "name" (mVar 2)) mNil))))))))
  (mRet (mOp mIx (mOp mAdd (mVar 3) (mLst (mCons (mMkE1 "NoYard" "noyard" "name" (mVar 2)) (mCons (mMkE1 "NoPassage" "nopassage" "name" (mVar 2)) (mCons (mMkE1 "NoWalk" "nowalk" "name" (mVar 2)) (mCons (mMkE0 "NothingLeft" "nothingleft") mNil)))))) (mOp mSub (mVar 0) (mC (.int 20)))))))))
def m_law_made_error : Fn := fnRun 4 false b_law_made_error
def b_law_same (rc : Fn) : Bd :=
  (mSeq (mIfS (mTruth (mCB mIsi (mCons (mVar 1) (mCons (mC (.ty "bool")) mNil)))) (mRet (mAndV (mCB mIsi (mCons (mVar 0) (mCons (mC (.ty "bool")) mNil))) (mOp mEq (mVar 0) (mVar 1)))) mNx)
  (mSeq (mIfS (mB (mOp (mIs false) (mVar 1) (mC .non))) (mRet (mOp (mIs false) (mVar 0) (mC .non))) mNx)
  (mSeq (mIfS (mTruth (mCB mIsi (mCons (mVar 1) (mCons (mC (.ty "int")) mNil)))) (mRet (mAndV (mCB mIsi (mCons (mVar 0) (mCons (mC (.ty "int")) mNil))) (mAndV (mNotV (mCB mIsi (mCons (mVar 0) (mCons (mC (.ty "bool")) mNil)))) (mOp mEq (mVar 0) (mVar 1))))) mNx)
  (mSeq (mIfS (mTruth (mCB mIsi (mCons (mVar 1) (mCons (mC (.ty "str")) mNil)))) (mRet (mAndV (mCB mIsi (mCons (mVar 0) (mCons (mC (.ty "str")) mNil))) (mOp mEq (mVar 0) (mVar 1)))) mNx)
  (mSeq (mIfS (mOrT (mB (mOp mNe (mCB mIsi (mCons (mVar 1) (mCons (mC (.ty "tuple")) mNil))) (mCB mIsi (mCons (mVar 0) (mCons (mC (.ty "tuple")) mNil))))) (mB (mOp mNe (mCB mIsi (mCons (mVar 1) (mCons (mC (.ty "list")) mNil))) (mCB mIsi (mCons (mVar 0) (mCons (mC (.ty "list")) mNil)))))) (mRet (mC (.bl false))) mNx)
  (mSeq (mIfS (mOrT (mNotT (mTruth (mCB mIsi (mCons (mVar 0) (mCons (mTup (mCons (mC (.ty "tuple")) (mCons (mC (.ty "list")) mNil))) mNil))))) (mB (mOp mNe (mCB mLen (mCons (mVar 0) mNil)) (mCB mLen (mCons (mVar 1) mNil))))) (mRet (mC (.bl false))) mNx)
  (mRet (mCB mAll (mCons (mLc [2] (mRng1 (mCons (mCB mLen (mCons (mVar 1) mNil)) mNil)) (wNm 2) mYes (mCall 2 rc (mCons (mOp mIx (mVar 0) (mVar 2)) (mCons (mOp mIx (mVar 1) (mVar 2)) mNil)))) mNil)))))))))
def m_law_same : Nat → Fn
  | 0 => fun _ _ => .stuck
  | n + 1 => fnRun 3 false (b_law_same (m_law_same n))
def b_law : Bd :=
  (mSeq (mSet 1 (mCall 1 m_law_flow (mCons (mVar 0) mNil)))
  (mSeq (mSet 2 (mC (.str "badname taken full badturns tied badway badrow astray toolong toogreat notmet ")))
  (mSeq (mSet 2 (mOp mAdd (mVar 2) (mC (.str "nothome badexchange strange badplace stays moves noway badterm badtext "))))
  (mSeq (mSet 2 (mOp mAdd (mVar 2) (mC (.str "inuse ring breaks baddeed badnumber noname noyard nopassage nowalk "))))
  (mSeq (mSet 2 (mSplit (mOp mAdd (mVar 2) (mC (.str "nothingleft"))) (mC (.str " "))))
  (mSeq (mSet 3 (mCall 2 m_law_draw (mCons (mVar 1) (mCons (mC (.int 30)) mNil))))
  (mSeq (mSet 4 (mCall 2 m_law_draw (mCons (mVar 1) (mCons (mOp mPow (mC (.int 10)) (mC (.int 20))) mNil))))
  (mSeq (mFor (mRng1 (mCons (mC (.int 30)) mNil)) (gNm 5) (mSeq (mSet 6 (mOp mMod (mOp mAdd (mVar 3) (mVar 5)) (mC (.int 30))))
  (mSeq (mSet 7 (mCall 2 m_law_made_error (mCons (mVar 6) (mCons (mVar 4) mNil))))
  (mSeq (mIfS (mNotT (mTruth (mCall 2 (m_law_same 20) (mCons (mCall 1 m_law_flags (mCons (mVar 7) mNil)) (mCons (mLc [8] (mRng1 (mCons (mC (.int 30)) mNil)) (wNm 8) mYes (mOp mEq (mVar 8) (mVar 6))) mNil))))) (mRet (mC (.bl false))) mNx)
  (mSeq (mSet 9 (mLst (mCons (mIsE ["BadName", "Taken", "Full", "BadTurns", "Tied", "BadWay", "BadRow", "Astray", "TooLong", "TooGreat", "NotMet", "NotHome", "BadExchange", "Strange", "BadPlace", "Stays", "Moves", "NoWay", "BadTerm", "BadText", "InUse", "Ring", "Breaks", "BadDeed", "BadNumber"] (mVar 7)) (mCons (mIsE ["BadName", "Taken", "Full", "BadTurns", "Tied", "BadWay", "BadRow", "Astray", "TooLong", "TooGreat", "NotMet", "NotHome", "BadExchange", "Strange", "BadPlace", "Stays", "Moves", "NoWay", "BadTerm", "BadText", "InUse", "Ring", "Breaks", "BadDeed", "BadNumber"] (mVar 7)) (mCons (mIsE ["Missing", "NoName", "NoYard", "NoPassage", "NoWalk"] (mVar 7)) mNil)))))
  (mSeq (mSet 9 (mOp mAdd (mVar 9) (mLst (mCons (mIsE ["Missing", "NoName", "NoYard", "NoPassage", "NoWalk", "NothingLeft"] (mVar 7)) (mCons (mIsE ["NothingLeft"] (mVar 7)) mNil)))))
  (mSeq (mIfS (mNotT (mTruth (mCall 2 (m_law_same 20) (mCons (mXFld ["BadName", "Taken", "Full", "BadTurns", "Tied", "BadWay", "BadRow", "Astray", "TooLong", "TooGreat", "NotMet", "NotHome", "BadExchange", "Strange", "BadPlace", "Stays", "Moves", "NoWay", "BadTerm", "BadText", "InUse", "Ring", "Breaks", "BadDeed", "BadNumber", "Missing", "NoName", "NoYard", "NoPassage", "NoWalk", "NothingLeft"] "word" (mVar 7)) (mCons (mOp mIx (mVar 2) (mVar 6)) mNil))))) (mRet (mC (.bl false))) mNx)
  (mIfS (mNotT (mTruth (mCall 2 (m_law_same 20) (mCons (mVar 9) (mCons (mLst (mCons (mOp mLt (mVar 6) (mC (.int 25))) (mCons (mOp mLt (mVar 6) (mC (.int 25))) (mCons (mChain mLt mLt (mC (.int 24)) (mVar 6) (mC (.int 29))) (mCons (mOp mGt (mVar 6) (mC (.int 24))) (mCons (mOp mEq (mVar 6) (mC (.int 29))) mNil)))))) mNil))))) (mRet (mC (.bl false))) mNx))))))))
  (mSeq (mSet 10 (mLst (mCons (mXFld ["Full"] "many" (mMkE1 "Full" "full" "many" (mVar 4))) (mCons (mXFld ["BadTurns"] "number" (mMkE1 "BadTurns" "badturns" "number" (mVar 4))) (mCons (mXFld ["Tied"] "name" (mMkE1 "Tied" "tied" "name" (mC (.str "a")))) (mCons (mXFld ["BadRow"] "at" (mMkE1 "BadRow" "badrow" "at" (mVar 4))) mNil))))))
  (mSeq (mSet 10 (mOp mAdd (mVar 10) (mLst (mCons (mXFld ["BadText"] "at" (mMkE1 "BadText" "badtext" "at" (mVar 4))) (mCons (mXFld ["BadExchange"] "at" (mMkE1 "BadExchange" "badexchange" "at" (mVar 4))) (mCons (mXFld ["BadDeed"] "at" (mMkE1 "BadDeed" "baddeed" "at" (mVar 4))) mNil))))))
  (mSeq (mSet 10 (mOp mAdd (mVar 10) (mLst (mCons (mXFld ["Breaks"] "name" (mMkE1 "Breaks" "breaks" "name" (mC (.str "b")))) (mCons (mXFld ["NoWalk"] "name" (mMkE1 "NoWalk" "nowalk" "name" (mC (.str "c")))) (mCons (mXFld ["Astray"] "at" (mMkE1 "Astray" "astray" "at" (mVar 4))) mNil))))))
  (mRet (mCall 2 (m_law_same 20) (mCons (mVar 10) (mCons (mLst (mCons (mVar 4) (mCons (mVar 4) (mCons (mC (.str "a")) (mCons (mVar 4) (mCons (mVar 4) (mCons (mVar 4) (mCons (mVar 4) (mCons (mC (.str "b")) (mCons (mC (.str "c")) (mCons (mVar 4) mNil))))))))))) mNil)))))))))))))))
def m_law : Fn := fnRun 11 true b_law
end Lw
set_option Elab.async false
set_option linter.all false
set_option maxRecDepth 100000
set_option maxHeartbeats 4000000
set_option autoImplicit false
namespace Lw
open PySem PySem.Spec PyProof.Rows L2 Dv
structure Ad where
  a_law_draw : Addr
  d_law_draw : FuncData
  a_law_flags : Addr
  d_law_flags : FuncData
  a_law_flow : Addr
  d_law_flow : FuncData
  a_law_made_error : Addr
  d_law_made_error : FuncData
  a_law_same : Addr
  d_law_same : FuncData
  a_law : Addr
  d_law : FuncData
  h_HawserError : Addr
  e_Missing : Addr
  ei_Missing : Addr
  ed_Missing : FuncData
  e_BadRow : Addr
  ei_BadRow : Addr
  ed_BadRow : FuncData
  e_Tied : Addr
  ei_Tied : Addr
  ed_Tied : FuncData
  e_BadTurns : Addr
  ei_BadTurns : Addr
  ed_BadTurns : FuncData
  e_Full : Addr
  ei_Full : Addr
  ed_Full : FuncData
  e_BadDeed : Addr
  ei_BadDeed : Addr
  ed_BadDeed : FuncData
  e_BadExchange : Addr
  ei_BadExchange : Addr
  ed_BadExchange : FuncData
  e_BadText : Addr
  ei_BadText : Addr
  ed_BadText : FuncData
  e_Astray : Addr
  ei_Astray : Addr
  ed_Astray : FuncData
  e_NoWalk : Addr
  ei_NoWalk : Addr
  ed_NoWalk : FuncData
  e_Breaks : Addr
  ei_Breaks : Addr
  ed_Breaks : FuncData
  e_Taken : Addr
  ei_Taken : Addr
  ed_Taken : FuncData
  e_BadName : Addr
  ei_BadName : Addr
  ed_BadName : FuncData
  e_BadWay : Addr
  ei_BadWay : Addr
  ed_BadWay : FuncData
  e_TooGreat : Addr
  ei_TooGreat : Addr
  ed_TooGreat : FuncData
  e_TooLong : Addr
  ei_TooLong : Addr
  ed_TooLong : FuncData
  e_NotHome : Addr
  ei_NotHome : Addr
  ed_NotHome : FuncData
  e_NotMet : Addr
  ei_NotMet : Addr
  ed_NotMet : FuncData
  e_Stays : Addr
  ei_Stays : Addr
  ed_Stays : FuncData
  e_BadPlace : Addr
  ei_BadPlace : Addr
  ed_BadPlace : FuncData
  e_Strange : Addr
  ei_Strange : Addr
  ed_Strange : FuncData
  e_BadTerm : Addr
  ei_BadTerm : Addr
  ed_BadTerm : FuncData
  e_NoWay : Addr
  ei_NoWay : Addr
  ed_NoWay : FuncData
  e_Moves : Addr
  ei_Moves : Addr
  ed_Moves : FuncData
  e_Ring : Addr
  ei_Ring : Addr
  ed_Ring : FuncData
  e_InUse : Addr
  ei_InUse : Addr
  ed_InUse : FuncData
  e_BadNumber : Addr
  ei_BadNumber : Addr
  ed_BadNumber : FuncData
  e_NoPassage : Addr
  ei_NoPassage : Addr
  ed_NoPassage : FuncData
  e_NoYard : Addr
  ei_NoYard : Addr
  ed_NoYard : FuncData
  e_NoName : Addr
  ei_NoName : Addr
  ed_NoName : FuncData
  e_NothingLeft : Addr
  ei_NothingLeft : Addr
  ed_NothingLeft : FuncData
abbrev clOf (A : Ad) : CL := []
abbrev tabsOf (A : Ad) : List (Addr × Str) := []
abbrev Gx (K : PySem.W.Frag) (A : Ad) : Gv := ⟨K, fun c => (clOf A).lookup c, fun c => if c = "Missing" then some A.e_Missing else if c = "BadRow" then some A.e_BadRow else if c = "Tied" then some A.e_Tied else if c = "BadTurns" then some A.e_BadTurns else if c = "Full" then some A.e_Full else if c = "BadDeed" then some A.e_BadDeed else if c = "BadExchange" then some A.e_BadExchange else if c = "BadText" then some A.e_BadText else if c = "Astray" then some A.e_Astray else if c = "NoWalk" then some A.e_NoWalk else if c = "Breaks" then some A.e_Breaks else if c = "Taken" then some A.e_Taken else if c = "BadName" then some A.e_BadName else if c = "BadWay" then some A.e_BadWay else if c = "TooGreat" then some A.e_TooGreat else if c = "TooLong" then some A.e_TooLong else if c = "NotHome" then some A.e_NotHome else if c = "NotMet" then some A.e_NotMet else if c = "Stays" then some A.e_Stays else if c = "BadPlace" then some A.e_BadPlace else if c = "Strange" then some A.e_Strange else if c = "BadTerm" then some A.e_BadTerm else if c = "NoWay" then some A.e_NoWay else if c = "Moves" then some A.e_Moves else if c = "Ring" then some A.e_Ring else if c = "InUse" then some A.e_InUse else if c = "BadNumber" then some A.e_BadNumber else if c = "NoPassage" then some A.e_NoPassage else if c = "NoYard" then some A.e_NoYard else if c = "NoName" then some A.e_NoName else if c = "NothingLeft" then some A.e_NothingLeft else none, tabsOf A, true⟩
abbrev exL (A : Ad) : List (String × Addr) := [("Missing", A.e_Missing), ("BadRow", A.e_BadRow), ("Tied", A.e_Tied), ("BadTurns", A.e_BadTurns), ("Full", A.e_Full), ("BadDeed", A.e_BadDeed), ("BadExchange", A.e_BadExchange), ("BadText", A.e_BadText), ("Astray", A.e_Astray), ("NoWalk", A.e_NoWalk), ("Breaks", A.e_Breaks), ("Taken", A.e_Taken), ("BadName", A.e_BadName), ("BadWay", A.e_BadWay), ("TooGreat", A.e_TooGreat), ("TooLong", A.e_TooLong), ("NotHome", A.e_NotHome), ("NotMet", A.e_NotMet), ("Stays", A.e_Stays), ("BadPlace", A.e_BadPlace), ("Strange", A.e_Strange), ("BadTerm", A.e_BadTerm), ("NoWay", A.e_NoWay), ("Moves", A.e_Moves), ("Ring", A.e_Ring), ("InUse", A.e_InUse), ("BadNumber", A.e_BadNumber), ("NoPassage", A.e_NoPassage), ("NoYard", A.e_NoYard), ("NoName", A.e_NoName), ("NothingLeft", A.e_NothingLeft)]
abbrev isM (A : Ad) : List (Value × List String) := [(.ref A.e_Missing, ["Missing", "NoName", "NoYard", "NoPassage", "NoWalk"]), (.type "ValueError", ["BadName", "Taken", "Full", "BadTurns", "Tied", "BadWay", "BadRow", "Astray", "TooLong", "TooGreat", "NotMet", "NotHome", "BadExchange", "Strange", "BadPlace", "Stays", "Moves", "NoWay", "BadTerm", "BadText", "InUse", "Ring", "Breaks", "BadDeed", "BadNumber"]), (.ref A.h_HawserError, ["BadName", "Taken", "Full", "BadTurns", "Tied", "BadWay", "BadRow", "Astray", "TooLong", "TooGreat", "NotMet", "NotHome", "BadExchange", "Strange", "BadPlace", "Stays", "Moves", "NoWay", "BadTerm", "BadText", "InUse", "Ring", "Breaks", "BadDeed", "BadNumber"]), (.type "IndexError", ["NothingLeft"]), (.type "LookupError", ["Missing", "NoName", "NoYard", "NoPassage", "NoWalk", "NothingLeft"]), (.ref A.e_BadTurns, ["BadTurns"]), (.ref A.e_Full, ["Full"]), (.ref A.e_Taken, ["Taken"]), (.ref A.e_BadName, ["BadName"]), (.ref A.e_BadRow, ["BadRow"]), (.ref A.e_BadWay, ["BadWay"]), (.ref A.e_Tied, ["Tied"]), (.ref A.e_TooGreat, ["TooGreat"]), (.ref A.e_TooLong, ["TooLong"]), (.ref A.e_Astray, ["Astray"]), (.ref A.e_BadExchange, ["BadExchange"]), (.ref A.e_NotHome, ["NotHome"]), (.ref A.e_NotMet, ["NotMet"]), (.ref A.e_Stays, ["Stays"]), (.ref A.e_BadPlace, ["BadPlace"]), (.ref A.e_Strange, ["Strange"]), (.ref A.e_BadTerm, ["BadTerm"]), (.ref A.e_NoWay, ["NoWay"]), (.ref A.e_Moves, ["Moves"]), (.ref A.e_Ring, ["Ring"]), (.ref A.e_InUse, ["InUse"]), (.ref A.e_BadText, ["BadText"]), (.ref A.e_BadNumber, ["BadNumber"]), (.ref A.e_BadDeed, ["BadDeed"]), (.ref A.e_Breaks, ["Breaks"]), (.ref A.e_NoPassage, ["NoPassage"]), (.ref A.e_NoYard, ["NoYard"]), (.ref A.e_NoName, ["NoName"]), (.ref A.e_NothingLeft, ["NothingLeft"]), (.ref A.e_NoWalk, ["NoWalk"])]
structure Tx (K : PySem.W.Frag) (mg : Str → Option Value) (A : Ad) : Prop where
  isE : isEB K (exL A) (isM A) = true
  F_law_draw : Fun K "_law_draw" "_law_draw" s_law_draw A.a_law_draw A.d_law_draw
  g_law_draw : mg "_law_draw" = some (.ref A.a_law_draw)
  b_law_draw : Binds K A.d_law_draw ["_law_flow_here", "_law_size"] []
  F_law_flags : Fun K "_law_flags" "_law_flags" s_law_flags A.a_law_flags A.d_law_flags
  g_law_flags : mg "_law_flags" = some (.ref A.a_law_flags)
  b_law_flags : Binds K A.d_law_flags ["_law_e"] []
  F_law_flow : Fun K "_law_flow" "_law_flow" s_law_flow A.a_law_flow A.d_law_flow
  g_law_flow : mg "_law_flow" = some (.ref A.a_law_flow)
  b_law_flow : Binds K A.d_law_flow ["_law_script"] []
  F_law_made_error : Fun K "_law_made_error" "_law_made_error" s_law_made_error A.a_law_made_error A.d_law_made_error
  g_law_made_error : mg "_law_made_error" = some (.ref A.a_law_made_error)
  b_law_made_error : Binds K A.d_law_made_error ["_law_at", "_law_field"] []
  F_law_same : Fun K "_law_same" "_law_same" s_law_same A.a_law_same A.d_law_same
  g_law_same : mg "_law_same" = some (.ref A.a_law_same)
  b_law_same : Binds K A.d_law_same ["_law_found", "_law_due"] []
  F_law : Fun K "law" "law" s_law A.a_law A.d_law
  g_law : mg "law" = some (.ref A.a_law)
  b_law : Binds K A.d_law ["_law_script"] []
  g_Missing : mg "Missing" = some (.ref A.e_Missing)
  o_Missing : OexG K A.e_Missing
  i_Missing : PySem.W.findIn K (.ref A.e_Missing) "__init__" = some (some (.ref A.ei_Missing))
  t_Missing : PySem.W.typeIn K (.ref A.ei_Missing) = some (.type "function")
  F_Missing_init : Fun K "__init__" "Missing.__init__" s_Missing_init A.ei_Missing A.ed_Missing
  b_Missing_init : Binds K A.ed_Missing ["self", "name"] []
  nw_Missing : PySem.W.findIn K (.ref A.e_Missing) "word" = some none
  nf_Missing : PySem.W.findIn K (.ref A.e_Missing) "name" = some none
  g_BadRow : mg "BadRow" = some (.ref A.e_BadRow)
  o_BadRow : OexG K A.e_BadRow
  i_BadRow : PySem.W.findIn K (.ref A.e_BadRow) "__init__" = some (some (.ref A.ei_BadRow))
  t_BadRow : PySem.W.typeIn K (.ref A.ei_BadRow) = some (.type "function")
  F_BadRow_init : Fun K "__init__" "BadRow.__init__" s_BadRow_init A.ei_BadRow A.ed_BadRow
  b_BadRow_init : Binds K A.ed_BadRow ["self", "at"] []
  nw_BadRow : PySem.W.findIn K (.ref A.e_BadRow) "word" = some none
  nf_BadRow : PySem.W.findIn K (.ref A.e_BadRow) "at" = some none
  g_Tied : mg "Tied" = some (.ref A.e_Tied)
  o_Tied : OexG K A.e_Tied
  i_Tied : PySem.W.findIn K (.ref A.e_Tied) "__init__" = some (some (.ref A.ei_Tied))
  t_Tied : PySem.W.typeIn K (.ref A.ei_Tied) = some (.type "function")
  F_Tied_init : Fun K "__init__" "Tied.__init__" s_Tied_init A.ei_Tied A.ed_Tied
  b_Tied_init : Binds K A.ed_Tied ["self", "name"] []
  nw_Tied : PySem.W.findIn K (.ref A.e_Tied) "word" = some none
  nf_Tied : PySem.W.findIn K (.ref A.e_Tied) "name" = some none
  g_BadTurns : mg "BadTurns" = some (.ref A.e_BadTurns)
  o_BadTurns : OexG K A.e_BadTurns
  i_BadTurns : PySem.W.findIn K (.ref A.e_BadTurns) "__init__" = some (some (.ref A.ei_BadTurns))
  t_BadTurns : PySem.W.typeIn K (.ref A.ei_BadTurns) = some (.type "function")
  F_BadTurns_init : Fun K "__init__" "BadTurns.__init__" s_BadTurns_init A.ei_BadTurns A.ed_BadTurns
  b_BadTurns_init : Binds K A.ed_BadTurns ["self", "number"] []
  nw_BadTurns : PySem.W.findIn K (.ref A.e_BadTurns) "word" = some none
  nf_BadTurns : PySem.W.findIn K (.ref A.e_BadTurns) "number" = some none
  g_Full : mg "Full" = some (.ref A.e_Full)
  o_Full : OexG K A.e_Full
  i_Full : PySem.W.findIn K (.ref A.e_Full) "__init__" = some (some (.ref A.ei_Full))
  t_Full : PySem.W.typeIn K (.ref A.ei_Full) = some (.type "function")
  F_Full_init : Fun K "__init__" "Full.__init__" s_Full_init A.ei_Full A.ed_Full
  b_Full_init : Binds K A.ed_Full ["self", "many"] []
  nw_Full : PySem.W.findIn K (.ref A.e_Full) "word" = some none
  nf_Full : PySem.W.findIn K (.ref A.e_Full) "many" = some none
  g_BadDeed : mg "BadDeed" = some (.ref A.e_BadDeed)
  o_BadDeed : OexG K A.e_BadDeed
  i_BadDeed : PySem.W.findIn K (.ref A.e_BadDeed) "__init__" = some (some (.ref A.ei_BadDeed))
  t_BadDeed : PySem.W.typeIn K (.ref A.ei_BadDeed) = some (.type "function")
  F_BadDeed_init : Fun K "__init__" "BadDeed.__init__" s_BadDeed_init A.ei_BadDeed A.ed_BadDeed
  b_BadDeed_init : Binds K A.ed_BadDeed ["self", "at"] []
  nw_BadDeed : PySem.W.findIn K (.ref A.e_BadDeed) "word" = some none
  nf_BadDeed : PySem.W.findIn K (.ref A.e_BadDeed) "at" = some none
  g_BadExchange : mg "BadExchange" = some (.ref A.e_BadExchange)
  o_BadExchange : OexG K A.e_BadExchange
  i_BadExchange : PySem.W.findIn K (.ref A.e_BadExchange) "__init__" = some (some (.ref A.ei_BadExchange))
  t_BadExchange : PySem.W.typeIn K (.ref A.ei_BadExchange) = some (.type "function")
  F_BadExchange_init : Fun K "__init__" "BadExchange.__init__" s_BadExchange_init A.ei_BadExchange A.ed_BadExchange
  b_BadExchange_init : Binds K A.ed_BadExchange ["self", "at"] []
  nw_BadExchange : PySem.W.findIn K (.ref A.e_BadExchange) "word" = some none
  nf_BadExchange : PySem.W.findIn K (.ref A.e_BadExchange) "at" = some none
  g_BadText : mg "BadText" = some (.ref A.e_BadText)
  o_BadText : OexG K A.e_BadText
  i_BadText : PySem.W.findIn K (.ref A.e_BadText) "__init__" = some (some (.ref A.ei_BadText))
  t_BadText : PySem.W.typeIn K (.ref A.ei_BadText) = some (.type "function")
  F_BadText_init : Fun K "__init__" "BadText.__init__" s_BadText_init A.ei_BadText A.ed_BadText
  b_BadText_init : Binds K A.ed_BadText ["self", "at"] []
  nw_BadText : PySem.W.findIn K (.ref A.e_BadText) "word" = some none
  nf_BadText : PySem.W.findIn K (.ref A.e_BadText) "at" = some none
  g_Astray : mg "Astray" = some (.ref A.e_Astray)
  o_Astray : OexG K A.e_Astray
  i_Astray : PySem.W.findIn K (.ref A.e_Astray) "__init__" = some (some (.ref A.ei_Astray))
  t_Astray : PySem.W.typeIn K (.ref A.ei_Astray) = some (.type "function")
  F_Astray_init : Fun K "__init__" "Astray.__init__" s_Astray_init A.ei_Astray A.ed_Astray
  b_Astray_init : Binds K A.ed_Astray ["self", "at"] []
  nw_Astray : PySem.W.findIn K (.ref A.e_Astray) "word" = some none
  nf_Astray : PySem.W.findIn K (.ref A.e_Astray) "at" = some none
  g_NoWalk : mg "NoWalk" = some (.ref A.e_NoWalk)
  o_NoWalk : OexG K A.e_NoWalk
  i_NoWalk : PySem.W.findIn K (.ref A.e_NoWalk) "__init__" = some (some (.ref A.ei_NoWalk))
  t_NoWalk : PySem.W.typeIn K (.ref A.ei_NoWalk) = some (.type "function")
  F_NoWalk_init : Fun K "__init__" "NoWalk.__init__" s_NoWalk_init A.ei_NoWalk A.ed_NoWalk
  b_NoWalk_init : Binds K A.ed_NoWalk ["self", "name"] []
  nw_NoWalk : PySem.W.findIn K (.ref A.e_NoWalk) "word" = some none
  nf_NoWalk : PySem.W.findIn K (.ref A.e_NoWalk) "name" = some none
  g_Breaks : mg "Breaks" = some (.ref A.e_Breaks)
  o_Breaks : OexG K A.e_Breaks
  i_Breaks : PySem.W.findIn K (.ref A.e_Breaks) "__init__" = some (some (.ref A.ei_Breaks))
  t_Breaks : PySem.W.typeIn K (.ref A.ei_Breaks) = some (.type "function")
  F_Breaks_init : Fun K "__init__" "Breaks.__init__" s_Breaks_init A.ei_Breaks A.ed_Breaks
  b_Breaks_init : Binds K A.ed_Breaks ["self", "name"] []
  nw_Breaks : PySem.W.findIn K (.ref A.e_Breaks) "word" = some none
  nf_Breaks : PySem.W.findIn K (.ref A.e_Breaks) "name" = some none
  g_Taken : mg "Taken" = some (.ref A.e_Taken)
  o_Taken : OexG K A.e_Taken
  i_Taken : PySem.W.findIn K (.ref A.e_Taken) "__init__" = some (some (.ref A.ei_Taken))
  t_Taken : PySem.W.typeIn K (.ref A.ei_Taken) = some (.type "function")
  F_Taken_init : Fun K "__init__" "Taken.__init__" s_Taken_init A.ei_Taken A.ed_Taken
  b_Taken_init : Binds K A.ed_Taken ["self", "name"] []
  nw_Taken : PySem.W.findIn K (.ref A.e_Taken) "word" = some none
  nf_Taken : PySem.W.findIn K (.ref A.e_Taken) "name" = some none
  g_BadName : mg "BadName" = some (.ref A.e_BadName)
  o_BadName : OexG K A.e_BadName
  i_BadName : PySem.W.findIn K (.ref A.e_BadName) "__init__" = some (some (.ref A.ei_BadName))
  t_BadName : PySem.W.typeIn K (.ref A.ei_BadName) = some (.type "function")
  F_BadName_init : Fun K "__init__" "BadName.__init__" s_BadName_init A.ei_BadName A.ed_BadName
  b_BadName_init : Binds K A.ed_BadName ["self", "name"] []
  nw_BadName : PySem.W.findIn K (.ref A.e_BadName) "word" = some none
  nf_BadName : PySem.W.findIn K (.ref A.e_BadName) "name" = some none
  g_BadWay : mg "BadWay" = some (.ref A.e_BadWay)
  o_BadWay : OexG K A.e_BadWay
  i_BadWay : PySem.W.findIn K (.ref A.e_BadWay) "__init__" = some (some (.ref A.ei_BadWay))
  t_BadWay : PySem.W.typeIn K (.ref A.ei_BadWay) = some (.type "function")
  F_BadWay_init : Fun K "__init__" "BadWay.__init__" s_BadWay_init A.ei_BadWay A.ed_BadWay
  b_BadWay_init : Binds K A.ed_BadWay ["self"] []
  nw_BadWay : PySem.W.findIn K (.ref A.e_BadWay) "word" = some none
  g_TooGreat : mg "TooGreat" = some (.ref A.e_TooGreat)
  o_TooGreat : OexG K A.e_TooGreat
  i_TooGreat : PySem.W.findIn K (.ref A.e_TooGreat) "__init__" = some (some (.ref A.ei_TooGreat))
  t_TooGreat : PySem.W.typeIn K (.ref A.ei_TooGreat) = some (.type "function")
  F_TooGreat_init : Fun K "__init__" "TooGreat.__init__" s_TooGreat_init A.ei_TooGreat A.ed_TooGreat
  b_TooGreat_init : Binds K A.ed_TooGreat ["self"] []
  nw_TooGreat : PySem.W.findIn K (.ref A.e_TooGreat) "word" = some none
  g_TooLong : mg "TooLong" = some (.ref A.e_TooLong)
  o_TooLong : OexG K A.e_TooLong
  i_TooLong : PySem.W.findIn K (.ref A.e_TooLong) "__init__" = some (some (.ref A.ei_TooLong))
  t_TooLong : PySem.W.typeIn K (.ref A.ei_TooLong) = some (.type "function")
  F_TooLong_init : Fun K "__init__" "TooLong.__init__" s_TooLong_init A.ei_TooLong A.ed_TooLong
  b_TooLong_init : Binds K A.ed_TooLong ["self"] []
  nw_TooLong : PySem.W.findIn K (.ref A.e_TooLong) "word" = some none
  g_NotHome : mg "NotHome" = some (.ref A.e_NotHome)
  o_NotHome : OexG K A.e_NotHome
  i_NotHome : PySem.W.findIn K (.ref A.e_NotHome) "__init__" = some (some (.ref A.ei_NotHome))
  t_NotHome : PySem.W.typeIn K (.ref A.ei_NotHome) = some (.type "function")
  F_NotHome_init : Fun K "__init__" "NotHome.__init__" s_NotHome_init A.ei_NotHome A.ed_NotHome
  b_NotHome_init : Binds K A.ed_NotHome ["self"] []
  nw_NotHome : PySem.W.findIn K (.ref A.e_NotHome) "word" = some none
  g_NotMet : mg "NotMet" = some (.ref A.e_NotMet)
  o_NotMet : OexG K A.e_NotMet
  i_NotMet : PySem.W.findIn K (.ref A.e_NotMet) "__init__" = some (some (.ref A.ei_NotMet))
  t_NotMet : PySem.W.typeIn K (.ref A.ei_NotMet) = some (.type "function")
  F_NotMet_init : Fun K "__init__" "NotMet.__init__" s_NotMet_init A.ei_NotMet A.ed_NotMet
  b_NotMet_init : Binds K A.ed_NotMet ["self"] []
  nw_NotMet : PySem.W.findIn K (.ref A.e_NotMet) "word" = some none
  g_Stays : mg "Stays" = some (.ref A.e_Stays)
  o_Stays : OexG K A.e_Stays
  i_Stays : PySem.W.findIn K (.ref A.e_Stays) "__init__" = some (some (.ref A.ei_Stays))
  t_Stays : PySem.W.typeIn K (.ref A.ei_Stays) = some (.type "function")
  F_Stays_init : Fun K "__init__" "Stays.__init__" s_Stays_init A.ei_Stays A.ed_Stays
  b_Stays_init : Binds K A.ed_Stays ["self"] []
  nw_Stays : PySem.W.findIn K (.ref A.e_Stays) "word" = some none
  g_BadPlace : mg "BadPlace" = some (.ref A.e_BadPlace)
  o_BadPlace : OexG K A.e_BadPlace
  i_BadPlace : PySem.W.findIn K (.ref A.e_BadPlace) "__init__" = some (some (.ref A.ei_BadPlace))
  t_BadPlace : PySem.W.typeIn K (.ref A.ei_BadPlace) = some (.type "function")
  F_BadPlace_init : Fun K "__init__" "BadPlace.__init__" s_BadPlace_init A.ei_BadPlace A.ed_BadPlace
  b_BadPlace_init : Binds K A.ed_BadPlace ["self"] []
  nw_BadPlace : PySem.W.findIn K (.ref A.e_BadPlace) "word" = some none
  g_Strange : mg "Strange" = some (.ref A.e_Strange)
  o_Strange : OexG K A.e_Strange
  i_Strange : PySem.W.findIn K (.ref A.e_Strange) "__init__" = some (some (.ref A.ei_Strange))
  t_Strange : PySem.W.typeIn K (.ref A.ei_Strange) = some (.type "function")
  F_Strange_init : Fun K "__init__" "Strange.__init__" s_Strange_init A.ei_Strange A.ed_Strange
  b_Strange_init : Binds K A.ed_Strange ["self"] []
  nw_Strange : PySem.W.findIn K (.ref A.e_Strange) "word" = some none
  g_BadTerm : mg "BadTerm" = some (.ref A.e_BadTerm)
  o_BadTerm : OexG K A.e_BadTerm
  i_BadTerm : PySem.W.findIn K (.ref A.e_BadTerm) "__init__" = some (some (.ref A.ei_BadTerm))
  t_BadTerm : PySem.W.typeIn K (.ref A.ei_BadTerm) = some (.type "function")
  F_BadTerm_init : Fun K "__init__" "BadTerm.__init__" s_BadTerm_init A.ei_BadTerm A.ed_BadTerm
  b_BadTerm_init : Binds K A.ed_BadTerm ["self"] []
  nw_BadTerm : PySem.W.findIn K (.ref A.e_BadTerm) "word" = some none
  g_NoWay : mg "NoWay" = some (.ref A.e_NoWay)
  o_NoWay : OexG K A.e_NoWay
  i_NoWay : PySem.W.findIn K (.ref A.e_NoWay) "__init__" = some (some (.ref A.ei_NoWay))
  t_NoWay : PySem.W.typeIn K (.ref A.ei_NoWay) = some (.type "function")
  F_NoWay_init : Fun K "__init__" "NoWay.__init__" s_NoWay_init A.ei_NoWay A.ed_NoWay
  b_NoWay_init : Binds K A.ed_NoWay ["self"] []
  nw_NoWay : PySem.W.findIn K (.ref A.e_NoWay) "word" = some none
  g_Moves : mg "Moves" = some (.ref A.e_Moves)
  o_Moves : OexG K A.e_Moves
  i_Moves : PySem.W.findIn K (.ref A.e_Moves) "__init__" = some (some (.ref A.ei_Moves))
  t_Moves : PySem.W.typeIn K (.ref A.ei_Moves) = some (.type "function")
  F_Moves_init : Fun K "__init__" "Moves.__init__" s_Moves_init A.ei_Moves A.ed_Moves
  b_Moves_init : Binds K A.ed_Moves ["self"] []
  nw_Moves : PySem.W.findIn K (.ref A.e_Moves) "word" = some none
  g_Ring : mg "Ring" = some (.ref A.e_Ring)
  o_Ring : OexG K A.e_Ring
  i_Ring : PySem.W.findIn K (.ref A.e_Ring) "__init__" = some (some (.ref A.ei_Ring))
  t_Ring : PySem.W.typeIn K (.ref A.ei_Ring) = some (.type "function")
  F_Ring_init : Fun K "__init__" "Ring.__init__" s_Ring_init A.ei_Ring A.ed_Ring
  b_Ring_init : Binds K A.ed_Ring ["self"] []
  nw_Ring : PySem.W.findIn K (.ref A.e_Ring) "word" = some none
  g_InUse : mg "InUse" = some (.ref A.e_InUse)
  o_InUse : OexG K A.e_InUse
  i_InUse : PySem.W.findIn K (.ref A.e_InUse) "__init__" = some (some (.ref A.ei_InUse))
  t_InUse : PySem.W.typeIn K (.ref A.ei_InUse) = some (.type "function")
  F_InUse_init : Fun K "__init__" "InUse.__init__" s_InUse_init A.ei_InUse A.ed_InUse
  b_InUse_init : Binds K A.ed_InUse ["self", "name"] []
  nw_InUse : PySem.W.findIn K (.ref A.e_InUse) "word" = some none
  nf_InUse : PySem.W.findIn K (.ref A.e_InUse) "name" = some none
  g_BadNumber : mg "BadNumber" = some (.ref A.e_BadNumber)
  o_BadNumber : OexG K A.e_BadNumber
  i_BadNumber : PySem.W.findIn K (.ref A.e_BadNumber) "__init__" = some (some (.ref A.ei_BadNumber))
  t_BadNumber : PySem.W.typeIn K (.ref A.ei_BadNumber) = some (.type "function")
  F_BadNumber_init : Fun K "__init__" "BadNumber.__init__" s_BadNumber_init A.ei_BadNumber A.ed_BadNumber
  b_BadNumber_init : Binds K A.ed_BadNumber ["self"] []
  nw_BadNumber : PySem.W.findIn K (.ref A.e_BadNumber) "word" = some none
  g_NoPassage : mg "NoPassage" = some (.ref A.e_NoPassage)
  o_NoPassage : OexG K A.e_NoPassage
  i_NoPassage : PySem.W.findIn K (.ref A.e_NoPassage) "__init__" = some (some (.ref A.ei_NoPassage))
  t_NoPassage : PySem.W.typeIn K (.ref A.ei_NoPassage) = some (.type "function")
  F_NoPassage_init : Fun K "__init__" "NoPassage.__init__" s_NoPassage_init A.ei_NoPassage A.ed_NoPassage
  b_NoPassage_init : Binds K A.ed_NoPassage ["self", "name"] []
  nw_NoPassage : PySem.W.findIn K (.ref A.e_NoPassage) "word" = some none
  nf_NoPassage : PySem.W.findIn K (.ref A.e_NoPassage) "name" = some none
  g_NoYard : mg "NoYard" = some (.ref A.e_NoYard)
  o_NoYard : OexG K A.e_NoYard
  i_NoYard : PySem.W.findIn K (.ref A.e_NoYard) "__init__" = some (some (.ref A.ei_NoYard))
  t_NoYard : PySem.W.typeIn K (.ref A.ei_NoYard) = some (.type "function")
  F_NoYard_init : Fun K "__init__" "NoYard.__init__" s_NoYard_init A.ei_NoYard A.ed_NoYard
  b_NoYard_init : Binds K A.ed_NoYard ["self", "name"] []
  nw_NoYard : PySem.W.findIn K (.ref A.e_NoYard) "word" = some none
  nf_NoYard : PySem.W.findIn K (.ref A.e_NoYard) "name" = some none
  g_NoName : mg "NoName" = some (.ref A.e_NoName)
  o_NoName : OexG K A.e_NoName
  i_NoName : PySem.W.findIn K (.ref A.e_NoName) "__init__" = some (some (.ref A.ei_NoName))
  t_NoName : PySem.W.typeIn K (.ref A.ei_NoName) = some (.type "function")
  F_NoName_init : Fun K "__init__" "NoName.__init__" s_NoName_init A.ei_NoName A.ed_NoName
  b_NoName_init : Binds K A.ed_NoName ["self", "name"] []
  nw_NoName : PySem.W.findIn K (.ref A.e_NoName) "word" = some none
  nf_NoName : PySem.W.findIn K (.ref A.e_NoName) "name" = some none
  g_NothingLeft : mg "NothingLeft" = some (.ref A.e_NothingLeft)
  o_NothingLeft : OexG K A.e_NothingLeft
  i_NothingLeft : PySem.W.findIn K (.ref A.e_NothingLeft) "__init__" = some (some (.ref A.ei_NothingLeft))
  t_NothingLeft : PySem.W.typeIn K (.ref A.ei_NothingLeft) = some (.type "function")
  F_NothingLeft_init : Fun K "__init__" "NothingLeft.__init__" s_NothingLeft_init A.ei_NothingLeft A.ed_NothingLeft
  b_NothingLeft_init : Binds K A.ed_NothingLeft ["self"] []
  nw_NothingLeft : PySem.W.findIn K (.ref A.e_NothingLeft) "word" = some none
  z_range : mg "range" = none
  z_isinstance : mg "isinstance" = none
  z_ValueError : mg "ValueError" = none
  z_IndexError : mg "IndexError" = none
  z_LookupError : mg "LookupError" = none
  z_len : mg "len" = none
  z_abs : mg "abs" = none
  z_list : mg "list" = none
  z_bool : mg "bool" = none
  z_int : mg "int" = none
  z_str : mg "str" = none
  z_tuple : mg "tuple" = none
  z_all : mg "all" = none
  h_HawserError : mg "HawserError" = some (.ref A.h_HawserError)
  xf_Missing : XfC K A.e_Missing
  xf_BadRow : XfC K A.e_BadRow
  xf_Tied : XfC K A.e_Tied
  xf_BadTurns : XfC K A.e_BadTurns
  xf_Full : XfC K A.e_Full
  xf_BadDeed : XfC K A.e_BadDeed
  xf_BadExchange : XfC K A.e_BadExchange
  xf_BadText : XfC K A.e_BadText
  xf_Astray : XfC K A.e_Astray
  xf_NoWalk : XfC K A.e_NoWalk
  xf_Breaks : XfC K A.e_Breaks
  xf_Taken : XfC K A.e_Taken
  xf_BadName : XfC K A.e_BadName
  xf_BadWay : XfC K A.e_BadWay
  xf_TooGreat : XfC K A.e_TooGreat
  xf_TooLong : XfC K A.e_TooLong
  xf_NotHome : XfC K A.e_NotHome
  xf_NotMet : XfC K A.e_NotMet
  xf_Stays : XfC K A.e_Stays
  xf_BadPlace : XfC K A.e_BadPlace
  xf_Strange : XfC K A.e_Strange
  xf_BadTerm : XfC K A.e_BadTerm
  xf_NoWay : XfC K A.e_NoWay
  xf_Moves : XfC K A.e_Moves
  xf_Ring : XfC K A.e_Ring
  xf_InUse : XfC K A.e_InUse
  xf_BadNumber : XfC K A.e_BadNumber
  xf_NoPassage : XfC K A.e_NoPassage
  xf_NoYard : XfC K A.e_NoYard
  xf_NoName : XfC K A.e_NoName
  xf_NothingLeft : XfC K A.e_NothingLeft
theorem Tx.isi {K : PySem.W.Frag} {mg : Str → Option Value} {A : Ad} (_ : Tx K mg A) : ClsOk (Gx K A) := .none fun _ => rfl
theorem Tx.xlm {K : PySem.W.Frag} {mg : Str → Option Value} {A : Ad} (T : Tx K mg A) : ∀ c C, (Gx K A).xl c = some C → (c, C) ∈ exL A := by
  intro c C h
  dsimp only [Gx] at h
  rcases ite_some h with ⟨ec, h⟩ | h
  · subst ec
    cases h
    exact (.head _)
  rcases ite_some h with ⟨ec, h⟩ | h
  · subst ec
    cases h
    exact (.tail _ (.head _))
  rcases ite_some h with ⟨ec, h⟩ | h
  · subst ec
    cases h
    exact (.tail _ (.tail _ (.head _)))
  rcases ite_some h with ⟨ec, h⟩ | h
  · subst ec
    cases h
    exact (.tail _ (.tail _ (.tail _ (.head _))))
  rcases ite_some h with ⟨ec, h⟩ | h
  · subst ec
    cases h
    exact (.tail _ (.tail _ (.tail _ (.tail _ (.head _)))))
  rcases ite_some h with ⟨ec, h⟩ | h
  · subst ec
    cases h
    exact (.tail _ (.tail _ (.tail _ (.tail _ (.tail _ (.head _))))))
  rcases ite_some h with ⟨ec, h⟩ | h
  · subst ec
    cases h
    exact (.tail _ (.tail _ (.tail _ (.tail _ (.tail _ (.tail _ (.head _)))))))
  rcases ite_some h with ⟨ec, h⟩ | h
  · subst ec
    cases h
    exact (.tail _ (.tail _ (.tail _ (.tail _ (.tail _ (.tail _ (.tail _ (.head _))))))))
  rcases ite_some h with ⟨ec, h⟩ | h
  · subst ec
    cases h
    exact (.tail _ (.tail _ (.tail _ (.tail _ (.tail _ (.tail _ (.tail _ (.tail _ (.head _)))))))))
  rcases ite_some h with ⟨ec, h⟩ | h
  · subst ec
    cases h
    exact (.tail _ (.tail _ (.tail _ (.tail _ (.tail _ (.tail _ (.tail _ (.tail _ (.tail _ (.head _))))))))))
  rcases ite_some h with ⟨ec, h⟩ | h
  · subst ec
    cases h
    exact (.tail _ (.tail _ (.tail _ (.tail _ (.tail _ (.tail _ (.tail _ (.tail _ (.tail _ (.tail _ (.head _)))))))))))
  rcases ite_some h with ⟨ec, h⟩ | h
  · subst ec
    cases h
    exact (.tail _ (.tail _ (.tail _ (.tail _ (.tail _ (.tail _ (.tail _ (.tail _ (.tail _ (.tail _ (.tail _ (.head _))))))))))))
  rcases ite_some h with ⟨ec, h⟩ | h
  · subst ec
    cases h
    exact (.tail _ (.tail _ (.tail _ (.tail _ (.tail _ (.tail _ (.tail _ (.tail _ (.tail _ (.tail _ (.tail _ (.tail _ (.head _)))))))))))))
  rcases ite_some h with ⟨ec, h⟩ | h
  · subst ec
    cases h
    exact (.tail _ (.tail _ (.tail _ (.tail _ (.tail _ (.tail _ (.tail _ (.tail _ (.tail _ (.tail _ (.tail _ (.tail _ (.tail _ (.head _))))))))))))))
  rcases ite_some h with ⟨ec, h⟩ | h
  · subst ec
    cases h
    exact (.tail _ (.tail _ (.tail _ (.tail _ (.tail _ (.tail _ (.tail _ (.tail _ (.tail _ (.tail _ (.tail _ (.tail _ (.tail _ (.tail _ (.head _)))))))))))))))
  rcases ite_some h with ⟨ec, h⟩ | h
  · subst ec
    cases h
    exact (.tail _ (.tail _ (.tail _ (.tail _ (.tail _ (.tail _ (.tail _ (.tail _ (.tail _ (.tail _ (.tail _ (.tail _ (.tail _ (.tail _ (.tail _ (.head _))))))))))))))))
  rcases ite_some h with ⟨ec, h⟩ | h
  · subst ec
    cases h
    exact (.tail _ (.tail _ (.tail _ (.tail _ (.tail _ (.tail _ (.tail _ (.tail _ (.tail _ (.tail _ (.tail _ (.tail _ (.tail _ (.tail _ (.tail _ (.tail _ (.head _)))))))))))))))))
  rcases ite_some h with ⟨ec, h⟩ | h
  · subst ec
    cases h
    exact (.tail _ (.tail _ (.tail _ (.tail _ (.tail _ (.tail _ (.tail _ (.tail _ (.tail _ (.tail _ (.tail _ (.tail _ (.tail _ (.tail _ (.tail _ (.tail _ (.tail _ (.head _))))))))))))))))))
  rcases ite_some h with ⟨ec, h⟩ | h
  · subst ec
    cases h
    exact (.tail _ (.tail _ (.tail _ (.tail _ (.tail _ (.tail _ (.tail _ (.tail _ (.tail _ (.tail _ (.tail _ (.tail _ (.tail _ (.tail _ (.tail _ (.tail _ (.tail _ (.tail _ (.head _)))))))))))))))))))
  rcases ite_some h with ⟨ec, h⟩ | h
  · subst ec
    cases h
    exact (.tail _ (.tail _ (.tail _ (.tail _ (.tail _ (.tail _ (.tail _ (.tail _ (.tail _ (.tail _ (.tail _ (.tail _ (.tail _ (.tail _ (.tail _ (.tail _ (.tail _ (.tail _ (.tail _ (.head _))))))))))))))))))))
  rcases ite_some h with ⟨ec, h⟩ | h
  · subst ec
    cases h
    exact (.tail _ (.tail _ (.tail _ (.tail _ (.tail _ (.tail _ (.tail _ (.tail _ (.tail _ (.tail _ (.tail _ (.tail _ (.tail _ (.tail _ (.tail _ (.tail _ (.tail _ (.tail _ (.tail _ (.tail _ (.head _)))))))))))))))))))))
  rcases ite_some h with ⟨ec, h⟩ | h
  · subst ec
    cases h
    exact (.tail _ (.tail _ (.tail _ (.tail _ (.tail _ (.tail _ (.tail _ (.tail _ (.tail _ (.tail _ (.tail _ (.tail _ (.tail _ (.tail _ (.tail _ (.tail _ (.tail _ (.tail _ (.tail _ (.tail _ (.tail _ (.head _))))))))))))))))))))))
  rcases ite_some h with ⟨ec, h⟩ | h
  · subst ec
    cases h
    exact (.tail _ (.tail _ (.tail _ (.tail _ (.tail _ (.tail _ (.tail _ (.tail _ (.tail _ (.tail _ (.tail _ (.tail _ (.tail _ (.tail _ (.tail _ (.tail _ (.tail _ (.tail _ (.tail _ (.tail _ (.tail _ (.tail _ (.head _)))))))))))))))))))))))
  rcases ite_some h with ⟨ec, h⟩ | h
  · subst ec
    cases h
    exact (.tail _ (.tail _ (.tail _ (.tail _ (.tail _ (.tail _ (.tail _ (.tail _ (.tail _ (.tail _ (.tail _ (.tail _ (.tail _ (.tail _ (.tail _ (.tail _ (.tail _ (.tail _ (.tail _ (.tail _ (.tail _ (.tail _ (.tail _ (.head _))))))))))))))))))))))))
  rcases ite_some h with ⟨ec, h⟩ | h
  · subst ec
    cases h
    exact (.tail _ (.tail _ (.tail _ (.tail _ (.tail _ (.tail _ (.tail _ (.tail _ (.tail _ (.tail _ (.tail _ (.tail _ (.tail _ (.tail _ (.tail _ (.tail _ (.tail _ (.tail _ (.tail _ (.tail _ (.tail _ (.tail _ (.tail _ (.tail _ (.head _)))))))))))))))))))))))))
  rcases ite_some h with ⟨ec, h⟩ | h
  · subst ec
    cases h
    exact (.tail _ (.tail _ (.tail _ (.tail _ (.tail _ (.tail _ (.tail _ (.tail _ (.tail _ (.tail _ (.tail _ (.tail _ (.tail _ (.tail _ (.tail _ (.tail _ (.tail _ (.tail _ (.tail _ (.tail _ (.tail _ (.tail _ (.tail _ (.tail _ (.tail _ (.head _))))))))))))))))))))))))))
  rcases ite_some h with ⟨ec, h⟩ | h
  · subst ec
    cases h
    exact (.tail _ (.tail _ (.tail _ (.tail _ (.tail _ (.tail _ (.tail _ (.tail _ (.tail _ (.tail _ (.tail _ (.tail _ (.tail _ (.tail _ (.tail _ (.tail _ (.tail _ (.tail _ (.tail _ (.tail _ (.tail _ (.tail _ (.tail _ (.tail _ (.tail _ (.tail _ (.head _)))))))))))))))))))))))))))
  rcases ite_some h with ⟨ec, h⟩ | h
  · subst ec
    cases h
    exact (.tail _ (.tail _ (.tail _ (.tail _ (.tail _ (.tail _ (.tail _ (.tail _ (.tail _ (.tail _ (.tail _ (.tail _ (.tail _ (.tail _ (.tail _ (.tail _ (.tail _ (.tail _ (.tail _ (.tail _ (.tail _ (.tail _ (.tail _ (.tail _ (.tail _ (.tail _ (.tail _ (.head _))))))))))))))))))))))))))))
  rcases ite_some h with ⟨ec, h⟩ | h
  · subst ec
    cases h
    exact (.tail _ (.tail _ (.tail _ (.tail _ (.tail _ (.tail _ (.tail _ (.tail _ (.tail _ (.tail _ (.tail _ (.tail _ (.tail _ (.tail _ (.tail _ (.tail _ (.tail _ (.tail _ (.tail _ (.tail _ (.tail _ (.tail _ (.tail _ (.tail _ (.tail _ (.tail _ (.tail _ (.tail _ (.head _)))))))))))))))))))))))))))))
  rcases ite_some h with ⟨ec, h⟩ | h
  · subst ec
    cases h
    exact (.tail _ (.tail _ (.tail _ (.tail _ (.tail _ (.tail _ (.tail _ (.tail _ (.tail _ (.tail _ (.tail _ (.tail _ (.tail _ (.tail _ (.tail _ (.tail _ (.tail _ (.tail _ (.tail _ (.tail _ (.tail _ (.tail _ (.tail _ (.tail _ (.tail _ (.tail _ (.tail _ (.tail _ (.tail _ (.head _))))))))))))))))))))))))))))))
  rcases ite_some h with ⟨ec, h⟩ | h
  · subst ec
    cases h
    exact (.tail _ (.tail _ (.tail _ (.tail _ (.tail _ (.tail _ (.tail _ (.tail _ (.tail _ (.tail _ (.tail _ (.tail _ (.tail _ (.tail _ (.tail _ (.tail _ (.tail _ (.tail _ (.tail _ (.tail _ (.tail _ (.tail _ (.tail _ (.tail _ (.tail _ (.tail _ (.tail _ (.tail _ (.tail _ (.tail _ (.head _)))))))))))))))))))))))))))))))
  cases h
theorem Tx.xf0 {K : PySem.W.Frag} {mg : Str → Option Value} {A : Ad} (T : Tx K mg A) : ∀ c ∈ ["BadName", "Taken", "Full", "BadTurns", "Tied", "BadWay", "BadRow", "Astray", "TooLong", "TooGreat", "NotMet", "NotHome", "BadExchange", "Strange", "BadPlace", "Stays", "Moves", "NoWay", "BadTerm", "BadText", "InUse", "Ring", "Breaks", "BadDeed", "BadNumber", "Missing", "NoName", "NoYard", "NoPassage", "NoWalk", "NothingLeft"], ∀ C, (Gx K A).xl c = some C → XfC K C ∧ PySem.W.findIn K (.ref C) "word" = some none := by
  intro c hc C h
  simp only [List.mem_cons, List.not_mem_nil, or_false] at hc
  rcases hc with rfl | rfl | rfl | rfl | rfl | rfl | rfl | rfl | rfl | rfl | rfl | rfl | rfl | rfl | rfl | rfl | rfl | rfl | rfl | rfl | rfl | rfl | rfl | rfl | rfl | rfl | rfl | rfl | rfl | rfl | rfl
  · obtain rfl : A.e_BadName = C := Option.some.inj h
    exact ⟨T.xf_BadName, T.nw_BadName⟩
  · obtain rfl : A.e_Taken = C := Option.some.inj h
    exact ⟨T.xf_Taken, T.nw_Taken⟩
  · obtain rfl : A.e_Full = C := Option.some.inj h
    exact ⟨T.xf_Full, T.nw_Full⟩
  · obtain rfl : A.e_BadTurns = C := Option.some.inj h
    exact ⟨T.xf_BadTurns, T.nw_BadTurns⟩
  · obtain rfl : A.e_Tied = C := Option.some.inj h
    exact ⟨T.xf_Tied, T.nw_Tied⟩
  · obtain rfl : A.e_BadWay = C := Option.some.inj h
    exact ⟨T.xf_BadWay, T.nw_BadWay⟩
  · obtain rfl : A.e_BadRow = C := Option.some.inj h
    exact ⟨T.xf_BadRow, T.nw_BadRow⟩
  · obtain rfl : A.e_Astray = C := Option.some.inj h
    exact ⟨T.xf_Astray, T.nw_Astray⟩
  · obtain rfl : A.e_TooLong = C := Option.some.inj h
    exact ⟨T.xf_TooLong, T.nw_TooLong⟩
  · obtain rfl : A.e_TooGreat = C := Option.some.inj h
    exact ⟨T.xf_TooGreat, T.nw_TooGreat⟩
  · obtain rfl : A.e_NotMet = C := Option.some.inj h
    exact ⟨T.xf_NotMet, T.nw_NotMet⟩
  · obtain rfl : A.e_NotHome = C := Option.some.inj h
    exact ⟨T.xf_NotHome, T.nw_NotHome⟩
  · obtain rfl : A.e_BadExchange = C := Option.some.inj h
    exact ⟨T.xf_BadExchange, T.nw_BadExchange⟩
  · obtain rfl : A.e_Strange = C := Option.some.inj h
    exact ⟨T.xf_Strange, T.nw_Strange⟩
  · obtain rfl : A.e_BadPlace = C := Option.some.inj h
    exact ⟨T.xf_BadPlace, T.nw_BadPlace⟩
  · obtain rfl : A.e_Stays = C := Option.some.inj h
    exact ⟨T.xf_Stays, T.nw_Stays⟩
  · obtain rfl : A.e_Moves = C := Option.some.inj h
    exact ⟨T.xf_Moves, T.nw_Moves⟩
  · obtain rfl : A.e_NoWay = C := Option.some.inj h
    exact ⟨T.xf_NoWay, T.nw_NoWay⟩
  · obtain rfl : A.e_BadTerm = C := Option.some.inj h
    exact ⟨T.xf_BadTerm, T.nw_BadTerm⟩
  · obtain rfl : A.e_BadText = C := Option.some.inj h
    exact ⟨T.xf_BadText, T.nw_BadText⟩
  · obtain rfl : A.e_InUse = C := Option.some.inj h
    exact ⟨T.xf_InUse, T.nw_InUse⟩
  · obtain rfl : A.e_Ring = C := Option.some.inj h
    exact ⟨T.xf_Ring, T.nw_Ring⟩
  · obtain rfl : A.e_Breaks = C := Option.some.inj h
    exact ⟨T.xf_Breaks, T.nw_Breaks⟩
  · obtain rfl : A.e_BadDeed = C := Option.some.inj h
    exact ⟨T.xf_BadDeed, T.nw_BadDeed⟩
  · obtain rfl : A.e_BadNumber = C := Option.some.inj h
    exact ⟨T.xf_BadNumber, T.nw_BadNumber⟩
  · obtain rfl : A.e_Missing = C := Option.some.inj h
    exact ⟨T.xf_Missing, T.nw_Missing⟩
  · obtain rfl : A.e_NoName = C := Option.some.inj h
    exact ⟨T.xf_NoName, T.nw_NoName⟩
  · obtain rfl : A.e_NoYard = C := Option.some.inj h
    exact ⟨T.xf_NoYard, T.nw_NoYard⟩
  · obtain rfl : A.e_NoPassage = C := Option.some.inj h
    exact ⟨T.xf_NoPassage, T.nw_NoPassage⟩
  · obtain rfl : A.e_NoWalk = C := Option.some.inj h
    exact ⟨T.xf_NoWalk, T.nw_NoWalk⟩
  · obtain rfl : A.e_NothingLeft = C := Option.some.inj h
    exact ⟨T.xf_NothingLeft, T.nw_NothingLeft⟩
theorem Tx.xf1 {K : PySem.W.Frag} {mg : Str → Option Value} {A : Ad} (T : Tx K mg A) : ∀ c ∈ ["BadRow"], ∀ C, (Gx K A).xl c = some C → XfC K C ∧ PySem.W.findIn K (.ref C) "at" = some none := by
  intro c hc C h
  simp only [List.mem_cons, List.not_mem_nil, or_false] at hc
  rcases hc with rfl
  · obtain rfl : A.e_BadRow = C := Option.some.inj h
    exact ⟨T.xf_BadRow, T.nf_BadRow⟩
theorem Tx.xf2 {K : PySem.W.Frag} {mg : Str → Option Value} {A : Ad} (T : Tx K mg A) : ∀ c ∈ ["Tied"], ∀ C, (Gx K A).xl c = some C → XfC K C ∧ PySem.W.findIn K (.ref C) "name" = some none := by
  intro c hc C h
  simp only [List.mem_cons, List.not_mem_nil, or_false] at hc
  rcases hc with rfl
  · obtain rfl : A.e_Tied = C := Option.some.inj h
    exact ⟨T.xf_Tied, T.nf_Tied⟩
theorem Tx.xf3 {K : PySem.W.Frag} {mg : Str → Option Value} {A : Ad} (T : Tx K mg A) : ∀ c ∈ ["BadTurns"], ∀ C, (Gx K A).xl c = some C → XfC K C ∧ PySem.W.findIn K (.ref C) "number" = some none := by
  intro c hc C h
  simp only [List.mem_cons, List.not_mem_nil, or_false] at hc
  rcases hc with rfl
  · obtain rfl : A.e_BadTurns = C := Option.some.inj h
    exact ⟨T.xf_BadTurns, T.nf_BadTurns⟩
theorem Tx.xf4 {K : PySem.W.Frag} {mg : Str → Option Value} {A : Ad} (T : Tx K mg A) : ∀ c ∈ ["Full"], ∀ C, (Gx K A).xl c = some C → XfC K C ∧ PySem.W.findIn K (.ref C) "many" = some none := by
  intro c hc C h
  simp only [List.mem_cons, List.not_mem_nil, or_false] at hc
  rcases hc with rfl
  · obtain rfl : A.e_Full = C := Option.some.inj h
    exact ⟨T.xf_Full, T.nf_Full⟩
theorem Tx.xf5 {K : PySem.W.Frag} {mg : Str → Option Value} {A : Ad} (T : Tx K mg A) : ∀ c ∈ ["BadDeed"], ∀ C, (Gx K A).xl c = some C → XfC K C ∧ PySem.W.findIn K (.ref C) "at" = some none := by
  intro c hc C h
  simp only [List.mem_cons, List.not_mem_nil, or_false] at hc
  rcases hc with rfl
  · obtain rfl : A.e_BadDeed = C := Option.some.inj h
    exact ⟨T.xf_BadDeed, T.nf_BadDeed⟩
theorem Tx.xf6 {K : PySem.W.Frag} {mg : Str → Option Value} {A : Ad} (T : Tx K mg A) : ∀ c ∈ ["BadExchange"], ∀ C, (Gx K A).xl c = some C → XfC K C ∧ PySem.W.findIn K (.ref C) "at" = some none := by
  intro c hc C h
  simp only [List.mem_cons, List.not_mem_nil, or_false] at hc
  rcases hc with rfl
  · obtain rfl : A.e_BadExchange = C := Option.some.inj h
    exact ⟨T.xf_BadExchange, T.nf_BadExchange⟩
theorem Tx.xf7 {K : PySem.W.Frag} {mg : Str → Option Value} {A : Ad} (T : Tx K mg A) : ∀ c ∈ ["BadText"], ∀ C, (Gx K A).xl c = some C → XfC K C ∧ PySem.W.findIn K (.ref C) "at" = some none := by
  intro c hc C h
  simp only [List.mem_cons, List.not_mem_nil, or_false] at hc
  rcases hc with rfl
  · obtain rfl : A.e_BadText = C := Option.some.inj h
    exact ⟨T.xf_BadText, T.nf_BadText⟩
theorem Tx.xf8 {K : PySem.W.Frag} {mg : Str → Option Value} {A : Ad} (T : Tx K mg A) : ∀ c ∈ ["Astray"], ∀ C, (Gx K A).xl c = some C → XfC K C ∧ PySem.W.findIn K (.ref C) "at" = some none := by
  intro c hc C h
  simp only [List.mem_cons, List.not_mem_nil, or_false] at hc
  rcases hc with rfl
  · obtain rfl : A.e_Astray = C := Option.some.inj h
    exact ⟨T.xf_Astray, T.nf_Astray⟩
theorem Tx.xf9 {K : PySem.W.Frag} {mg : Str → Option Value} {A : Ad} (T : Tx K mg A) : ∀ c ∈ ["NoWalk"], ∀ C, (Gx K A).xl c = some C → XfC K C ∧ PySem.W.findIn K (.ref C) "name" = some none := by
  intro c hc C h
  simp only [List.mem_cons, List.not_mem_nil, or_false] at hc
  rcases hc with rfl
  · obtain rfl : A.e_NoWalk = C := Option.some.inj h
    exact ⟨T.xf_NoWalk, T.nf_NoWalk⟩
theorem Tx.xf10 {K : PySem.W.Frag} {mg : Str → Option Value} {A : Ad} (T : Tx K mg A) : ∀ c ∈ ["Breaks"], ∀ C, (Gx K A).xl c = some C → XfC K C ∧ PySem.W.findIn K (.ref C) "name" = some none := by
  intro c hc C h
  simp only [List.mem_cons, List.not_mem_nil, or_false] at hc
  rcases hc with rfl
  · obtain rfl : A.e_Breaks = C := Option.some.inj h
    exact ⟨T.xf_Breaks, T.nf_Breaks⟩
section
variable {P : Program} {w : World} {K : PySem.W.Frag} {mg : Str → Option Value} {base : Heap} {A : Ad}
theorem ok_BadRow_init (T : Tx K mg A) : FnOk P w K mg base (L2N.CX P w) 1 A.ei_BadRow A.ed_BadRow ["self", "at"] (spX2 K A.e_BadRow "badrow" "at") := fx2G T.F_BadRow_init sc_BadRow_init rfl T.o_BadRow T.nw_BadRow T.nf_BadRow (fun _ _ _ => by first | exact Or.inl rfl | exact Or.inr (Or.inl rfl) | exact Or.inr (Or.inr rfl)) (fun _ _ _ => by first | exact Or.inl rfl | exact Or.inr (Or.inl rfl) | exact Or.inr (Or.inr rfl))
theorem ok_Tied_init (T : Tx K mg A) : FnOk P w K mg base (L2N.CX P w) 1 A.ei_Tied A.ed_Tied ["self", "name"] (spX2 K A.e_Tied "tied" "name") := fx2G T.F_Tied_init sc_Tied_init rfl T.o_Tied T.nw_Tied T.nf_Tied (fun _ _ _ => by first | exact Or.inl rfl | exact Or.inr (Or.inl rfl) | exact Or.inr (Or.inr rfl)) (fun _ _ _ => by first | exact Or.inl rfl | exact Or.inr (Or.inl rfl) | exact Or.inr (Or.inr rfl))
theorem ok_BadTurns_init (T : Tx K mg A) : FnOk P w K mg base (L2N.CX P w) 1 A.ei_BadTurns A.ed_BadTurns ["self", "number"] (spX2 K A.e_BadTurns "badturns" "number") := fx2G T.F_BadTurns_init sc_BadTurns_init rfl T.o_BadTurns T.nw_BadTurns T.nf_BadTurns (fun _ _ _ => by first | exact Or.inl rfl | exact Or.inr (Or.inl rfl) | exact Or.inr (Or.inr rfl)) (fun _ _ _ => by first | exact Or.inl rfl | exact Or.inr (Or.inl rfl) | exact Or.inr (Or.inr rfl))
theorem ok_Full_init (T : Tx K mg A) : FnOk P w K mg base (L2N.CX P w) 1 A.ei_Full A.ed_Full ["self", "many"] (spX2 K A.e_Full "full" "many") := fx2G T.F_Full_init sc_Full_init rfl T.o_Full T.nw_Full T.nf_Full (fun _ _ _ => by first | exact Or.inl rfl | exact Or.inr (Or.inl rfl) | exact Or.inr (Or.inr rfl)) (fun _ _ _ => by first | exact Or.inl rfl | exact Or.inr (Or.inl rfl) | exact Or.inr (Or.inr rfl))
theorem ok_BadDeed_init (T : Tx K mg A) : FnOk P w K mg base (L2N.CX P w) 1 A.ei_BadDeed A.ed_BadDeed ["self", "at"] (spX2 K A.e_BadDeed "baddeed" "at") := fx2G T.F_BadDeed_init sc_BadDeed_init rfl T.o_BadDeed T.nw_BadDeed T.nf_BadDeed (fun _ _ _ => by first | exact Or.inl rfl | exact Or.inr (Or.inl rfl) | exact Or.inr (Or.inr rfl)) (fun _ _ _ => by first | exact Or.inl rfl | exact Or.inr (Or.inl rfl) | exact Or.inr (Or.inr rfl))
theorem ok_BadExchange_init (T : Tx K mg A) : FnOk P w K mg base (L2N.CX P w) 1 A.ei_BadExchange A.ed_BadExchange ["self", "at"] (spX2 K A.e_BadExchange "badexchange" "at") := fx2G T.F_BadExchange_init sc_BadExchange_init rfl T.o_BadExchange T.nw_BadExchange T.nf_BadExchange (fun _ _ _ => by first | exact Or.inl rfl | exact Or.inr (Or.inl rfl) | exact Or.inr (Or.inr rfl)) (fun _ _ _ => by first | exact Or.inl rfl | exact Or.inr (Or.inl rfl) | exact Or.inr (Or.inr rfl))
theorem ok_BadText_init (T : Tx K mg A) : FnOk P w K mg base (L2N.CX P w) 1 A.ei_BadText A.ed_BadText ["self", "at"] (spX2 K A.e_BadText "badtext" "at") := fx2G T.F_BadText_init sc_BadText_init rfl T.o_BadText T.nw_BadText T.nf_BadText (fun _ _ _ => by first | exact Or.inl rfl | exact Or.inr (Or.inl rfl) | exact Or.inr (Or.inr rfl)) (fun _ _ _ => by first | exact Or.inl rfl | exact Or.inr (Or.inl rfl) | exact Or.inr (Or.inr rfl))
theorem ok_Astray_init (T : Tx K mg A) : FnOk P w K mg base (L2N.CX P w) 1 A.ei_Astray A.ed_Astray ["self", "at"] (spX2 K A.e_Astray "astray" "at") := fx2G T.F_Astray_init sc_Astray_init rfl T.o_Astray T.nw_Astray T.nf_Astray (fun _ _ _ => by first | exact Or.inl rfl | exact Or.inr (Or.inl rfl) | exact Or.inr (Or.inr rfl)) (fun _ _ _ => by first | exact Or.inl rfl | exact Or.inr (Or.inl rfl) | exact Or.inr (Or.inr rfl))
theorem ok_NoWalk_init (T : Tx K mg A) : FnOk P w K mg base (L2N.CX P w) 1 A.ei_NoWalk A.ed_NoWalk ["self", "name"] (spX2 K A.e_NoWalk "nowalk" "name") := fx2G T.F_NoWalk_init sc_NoWalk_init rfl T.o_NoWalk T.nw_NoWalk T.nf_NoWalk (fun _ _ _ => by first | exact Or.inl rfl | exact Or.inr (Or.inl rfl) | exact Or.inr (Or.inr rfl)) (fun _ _ _ => by first | exact Or.inl rfl | exact Or.inr (Or.inl rfl) | exact Or.inr (Or.inr rfl))
theorem ok_Breaks_init (T : Tx K mg A) : FnOk P w K mg base (L2N.CX P w) 1 A.ei_Breaks A.ed_Breaks ["self", "name"] (spX2 K A.e_Breaks "breaks" "name") := fx2G T.F_Breaks_init sc_Breaks_init rfl T.o_Breaks T.nw_Breaks T.nf_Breaks (fun _ _ _ => by first | exact Or.inl rfl | exact Or.inr (Or.inl rfl) | exact Or.inr (Or.inr rfl)) (fun _ _ _ => by first | exact Or.inl rfl | exact Or.inr (Or.inl rfl) | exact Or.inr (Or.inr rfl))
theorem ok_Taken_init (T : Tx K mg A) : FnOk P w K mg base (L2N.CX P w) 1 A.ei_Taken A.ed_Taken ["self", "name"] (spX2 K A.e_Taken "taken" "name") := fx2G T.F_Taken_init sc_Taken_init rfl T.o_Taken T.nw_Taken T.nf_Taken (fun _ _ _ => by first | exact Or.inl rfl | exact Or.inr (Or.inl rfl) | exact Or.inr (Or.inr rfl)) (fun _ _ _ => by first | exact Or.inl rfl | exact Or.inr (Or.inl rfl) | exact Or.inr (Or.inr rfl))
theorem ok_BadName_init (T : Tx K mg A) : FnOk P w K mg base (L2N.CX P w) 1 A.ei_BadName A.ed_BadName ["self", "name"] (spX2 K A.e_BadName "badname" "name") := fx2G T.F_BadName_init sc_BadName_init rfl T.o_BadName T.nw_BadName T.nf_BadName (fun _ _ _ => by first | exact Or.inl rfl | exact Or.inr (Or.inl rfl) | exact Or.inr (Or.inr rfl)) (fun _ _ _ => by first | exact Or.inl rfl | exact Or.inr (Or.inl rfl) | exact Or.inr (Or.inr rfl))
theorem ok_BadWay_init (T : Tx K mg A) : FnOk P w K mg base (L2N.CX P w) 1 A.ei_BadWay A.ed_BadWay ["self"] (spX1 K A.e_BadWay "badway") := fx1G T.F_BadWay_init sc_BadWay_init rfl T.o_BadWay T.nw_BadWay (fun _ _ _ => by first | exact Or.inl rfl | exact Or.inr (Or.inl rfl) | exact Or.inr (Or.inr rfl))
theorem ok_TooGreat_init (T : Tx K mg A) : FnOk P w K mg base (L2N.CX P w) 1 A.ei_TooGreat A.ed_TooGreat ["self"] (spX1 K A.e_TooGreat "toogreat") := fx1G T.F_TooGreat_init sc_TooGreat_init rfl T.o_TooGreat T.nw_TooGreat (fun _ _ _ => by first | exact Or.inl rfl | exact Or.inr (Or.inl rfl) | exact Or.inr (Or.inr rfl))
theorem ok_TooLong_init (T : Tx K mg A) : FnOk P w K mg base (L2N.CX P w) 1 A.ei_TooLong A.ed_TooLong ["self"] (spX1 K A.e_TooLong "toolong") := fx1G T.F_TooLong_init sc_TooLong_init rfl T.o_TooLong T.nw_TooLong (fun _ _ _ => by first | exact Or.inl rfl | exact Or.inr (Or.inl rfl) | exact Or.inr (Or.inr rfl))
theorem ok_NotHome_init (T : Tx K mg A) : FnOk P w K mg base (L2N.CX P w) 1 A.ei_NotHome A.ed_NotHome ["self"] (spX1 K A.e_NotHome "nothome") := fx1G T.F_NotHome_init sc_NotHome_init rfl T.o_NotHome T.nw_NotHome (fun _ _ _ => by first | exact Or.inl rfl | exact Or.inr (Or.inl rfl) | exact Or.inr (Or.inr rfl))
theorem ok_NotMet_init (T : Tx K mg A) : FnOk P w K mg base (L2N.CX P w) 1 A.ei_NotMet A.ed_NotMet ["self"] (spX1 K A.e_NotMet "notmet") := fx1G T.F_NotMet_init sc_NotMet_init rfl T.o_NotMet T.nw_NotMet (fun _ _ _ => by first | exact Or.inl rfl | exact Or.inr (Or.inl rfl) | exact Or.inr (Or.inr rfl))
theorem ok_Stays_init (T : Tx K mg A) : FnOk P w K mg base (L2N.CX P w) 1 A.ei_Stays A.ed_Stays ["self"] (spX1 K A.e_Stays "stays") := fx1G T.F_Stays_init sc_Stays_init rfl T.o_Stays T.nw_Stays (fun _ _ _ => by first | exact Or.inl rfl | exact Or.inr (Or.inl rfl) | exact Or.inr (Or.inr rfl))
theorem ok_BadPlace_init (T : Tx K mg A) : FnOk P w K mg base (L2N.CX P w) 1 A.ei_BadPlace A.ed_BadPlace ["self"] (spX1 K A.e_BadPlace "badplace") := fx1G T.F_BadPlace_init sc_BadPlace_init rfl T.o_BadPlace T.nw_BadPlace (fun _ _ _ => by first | exact Or.inl rfl | exact Or.inr (Or.inl rfl) | exact Or.inr (Or.inr rfl))
theorem ok_Strange_init (T : Tx K mg A) : FnOk P w K mg base (L2N.CX P w) 1 A.ei_Strange A.ed_Strange ["self"] (spX1 K A.e_Strange "strange") := fx1G T.F_Strange_init sc_Strange_init rfl T.o_Strange T.nw_Strange (fun _ _ _ => by first | exact Or.inl rfl | exact Or.inr (Or.inl rfl) | exact Or.inr (Or.inr rfl))
theorem ok_BadTerm_init (T : Tx K mg A) : FnOk P w K mg base (L2N.CX P w) 1 A.ei_BadTerm A.ed_BadTerm ["self"] (spX1 K A.e_BadTerm "badterm") := fx1G T.F_BadTerm_init sc_BadTerm_init rfl T.o_BadTerm T.nw_BadTerm (fun _ _ _ => by first | exact Or.inl rfl | exact Or.inr (Or.inl rfl) | exact Or.inr (Or.inr rfl))
theorem ok_NoWay_init (T : Tx K mg A) : FnOk P w K mg base (L2N.CX P w) 1 A.ei_NoWay A.ed_NoWay ["self"] (spX1 K A.e_NoWay "noway") := fx1G T.F_NoWay_init sc_NoWay_init rfl T.o_NoWay T.nw_NoWay (fun _ _ _ => by first | exact Or.inl rfl | exact Or.inr (Or.inl rfl) | exact Or.inr (Or.inr rfl))
theorem ok_Moves_init (T : Tx K mg A) : FnOk P w K mg base (L2N.CX P w) 1 A.ei_Moves A.ed_Moves ["self"] (spX1 K A.e_Moves "moves") := fx1G T.F_Moves_init sc_Moves_init rfl T.o_Moves T.nw_Moves (fun _ _ _ => by first | exact Or.inl rfl | exact Or.inr (Or.inl rfl) | exact Or.inr (Or.inr rfl))
theorem ok_Ring_init (T : Tx K mg A) : FnOk P w K mg base (L2N.CX P w) 1 A.ei_Ring A.ed_Ring ["self"] (spX1 K A.e_Ring "ring") := fx1G T.F_Ring_init sc_Ring_init rfl T.o_Ring T.nw_Ring (fun _ _ _ => by first | exact Or.inl rfl | exact Or.inr (Or.inl rfl) | exact Or.inr (Or.inr rfl))
theorem ok_InUse_init (T : Tx K mg A) : FnOk P w K mg base (L2N.CX P w) 1 A.ei_InUse A.ed_InUse ["self", "name"] (spX2 K A.e_InUse "inuse" "name") := fx2G T.F_InUse_init sc_InUse_init rfl T.o_InUse T.nw_InUse T.nf_InUse (fun _ _ _ => by first | exact Or.inl rfl | exact Or.inr (Or.inl rfl) | exact Or.inr (Or.inr rfl)) (fun _ _ _ => by first | exact Or.inl rfl | exact Or.inr (Or.inl rfl) | exact Or.inr (Or.inr rfl))
theorem ok_BadNumber_init (T : Tx K mg A) : FnOk P w K mg base (L2N.CX P w) 1 A.ei_BadNumber A.ed_BadNumber ["self"] (spX1 K A.e_BadNumber "badnumber") := fx1G T.F_BadNumber_init sc_BadNumber_init rfl T.o_BadNumber T.nw_BadNumber (fun _ _ _ => by first | exact Or.inl rfl | exact Or.inr (Or.inl rfl) | exact Or.inr (Or.inr rfl))
theorem ok_NoPassage_init (T : Tx K mg A) : FnOk P w K mg base (L2N.CX P w) 1 A.ei_NoPassage A.ed_NoPassage ["self", "name"] (spX2 K A.e_NoPassage "nopassage" "name") := fx2G T.F_NoPassage_init sc_NoPassage_init rfl T.o_NoPassage T.nw_NoPassage T.nf_NoPassage (fun _ _ _ => by first | exact Or.inl rfl | exact Or.inr (Or.inl rfl) | exact Or.inr (Or.inr rfl)) (fun _ _ _ => by first | exact Or.inl rfl | exact Or.inr (Or.inl rfl) | exact Or.inr (Or.inr rfl))
theorem ok_NoYard_init (T : Tx K mg A) : FnOk P w K mg base (L2N.CX P w) 1 A.ei_NoYard A.ed_NoYard ["self", "name"] (spX2 K A.e_NoYard "noyard" "name") := fx2G T.F_NoYard_init sc_NoYard_init rfl T.o_NoYard T.nw_NoYard T.nf_NoYard (fun _ _ _ => by first | exact Or.inl rfl | exact Or.inr (Or.inl rfl) | exact Or.inr (Or.inr rfl)) (fun _ _ _ => by first | exact Or.inl rfl | exact Or.inr (Or.inl rfl) | exact Or.inr (Or.inr rfl))
theorem ok_NoName_init (T : Tx K mg A) : FnOk P w K mg base (L2N.CX P w) 1 A.ei_NoName A.ed_NoName ["self", "name"] (spX2 K A.e_NoName "noname" "name") := fx2G T.F_NoName_init sc_NoName_init rfl T.o_NoName T.nw_NoName T.nf_NoName (fun _ _ _ => by first | exact Or.inl rfl | exact Or.inr (Or.inl rfl) | exact Or.inr (Or.inr rfl)) (fun _ _ _ => by first | exact Or.inl rfl | exact Or.inr (Or.inl rfl) | exact Or.inr (Or.inr rfl))
theorem ok_NothingLeft_init (T : Tx K mg A) : FnOk P w K mg base (L2N.CX P w) 1 A.ei_NothingLeft A.ed_NothingLeft ["self"] (spX1 K A.e_NothingLeft "nothingleft") := fx1G T.F_NothingLeft_init sc_NothingLeft_init rfl T.o_NothingLeft T.nw_NothingLeft (fun _ _ _ => by first | exact Or.inl rfl | exact Or.inr (Or.inl rfl) | exact Or.inr (Or.inr rfl))
theorem ok_law_draw (T : Tx K mg A) : FnOk P w K mg base (L2N.CX P w) 1 A.a_law_draw A.d_law_draw ["_law_flow_here", "_law_size"] (spF (Gx K A) 2 m_law_draw) := by
  refine fn_ok false T.F_law_draw sc_law_draw (fun cdv A1 outer s1 H1 E1 hr => ?_)
  exact (db_cons (ds_if (dt_cmp do_gt (de_ix (de_var 0) de_int) de_int) (db_cons (ds_set (i := 2) sc_law_draw.nd (de_op do_mod (de_ix (de_var 0) de_int) (de_var 1)))
  (db_cons (ds_asg (de_op do_div (de_ix (de_var 0) de_int) (de_var 1)) (dg_sub (de_var 0) de_int))
  (db_one (ds_ret (de_var 2))))) db_nil)
  (db_cons (ds_set (i := 3) sc_law_draw.nd de_int)
  (db_cons (ds_if (dt_cmp do_lt (de_ix (de_var 0) de_int) (de_callB (dc_len) rfl T.z_len boot_len (da_cons (de_ix (de_var 0) de_int) da_nil))) (db_one (ds_set (i := 3) sc_law_draw.nd (de_ix (de_ix (de_var 0) de_int) (de_ix (de_var 0) de_int)))) db_nil)
  (db_cons (ds_asg (de_op do_add (de_ix (de_var 0) de_int) de_int) (dg_sub (de_var 0) de_int))
  (db_cons (ds_if (dt_cmp do_ge (de_callB (dc_abs) rfl T.z_abs boot_abs (da_cons (de_var 3) da_nil)) (de_op do_pow de_int de_int)) (db_cons (ds_asg (de_op do_div (de_callB (dc_abs) rfl T.z_abs boot_abs (da_cons (de_var 3) da_nil)) (de_var 1)) (dg_sub (de_var 0) de_int))
  (db_one (ds_ret (de_op do_mod (de_callB (dc_abs) rfl T.z_abs boot_abs (da_cons (de_var 3) da_nil)) (de_var 1))))) db_nil)
  (db_cons (ds_set (i := 4) sc_law_draw.nd (de_op do_add (de_op do_add (de_op do_pow (de_ix (de_var 0) de_int) de_int) (de_op do_mul (de_ix (de_var 0) de_int) de_int)) (de_op do_mul (de_ix (de_var 0) de_int) de_int)))
  (db_cons (ds_set (i := 4) sc_law_draw.nd (de_op do_mod (de_op do_add (de_var 4) (de_op do_mul (de_op do_mod (de_var 3) de_int) de_int)) de_int))
  (db_cons (ds_asg (de_var 4) (dg_sub (de_var 0) de_int))
  (db_one (ds_ret (de_op do_mod (de_op do_add (de_op do_div (de_var 4) de_int) (de_op do_mul (de_op do_mod (de_var 4) de_int) de_int)) (de_var 1))))))))))))
theorem ok_law_flags (T : Tx K mg A) : FnOk P w K mg base (L2N.CX P w) 1 A.a_law_flags A.d_law_flags ["_law_e"] (spF (Gx K A) 1 m_law_flags) := by
  refine fn_ok false T.F_law_flags sc_law_flags (fun cdv A1 outer s1 H1 E1 hr => ?_)
  exact (db_cons (ds_set (i := 1) sc_law_flags.nd (de_lst (da_cons (de_isE T.g_BadName T.isE T.xlm (.tail _ (.tail _ (.tail _ (.tail _ (.tail _ (.tail _ (.tail _ (.tail _ (.head _))))))))) (de_var 0) T.z_isinstance) (da_cons (de_isE T.g_Taken T.isE T.xlm (.tail _ (.tail _ (.tail _ (.tail _ (.tail _ (.tail _ (.tail _ (.head _)))))))) (de_var 0) T.z_isinstance) (da_cons (de_isE T.g_Full T.isE T.xlm (.tail _ (.tail _ (.tail _ (.tail _ (.tail _ (.tail _ (.head _))))))) (de_var 0) T.z_isinstance) (da_cons (de_isE T.g_BadTurns T.isE T.xlm (.tail _ (.tail _ (.tail _ (.tail _ (.tail _ (.head _)))))) (de_var 0) T.z_isinstance) da_nil))))))
  (db_cons (ds_set (i := 1) sc_law_flags.nd (de_op do_add (de_var 1) (de_lst (da_cons (de_isE T.g_Tied T.isE T.xlm (.tail _ (.tail _ (.tail _ (.tail _ (.tail _ (.tail _ (.tail _ (.tail _ (.tail _ (.tail _ (.tail _ (.head _)))))))))))) (de_var 0) T.z_isinstance) (da_cons (de_isE T.g_BadWay T.isE T.xlm (.tail _ (.tail _ (.tail _ (.tail _ (.tail _ (.tail _ (.tail _ (.tail _ (.tail _ (.tail _ (.head _))))))))))) (de_var 0) T.z_isinstance) (da_cons (de_isE T.g_BadRow T.isE T.xlm (.tail _ (.tail _ (.tail _ (.tail _ (.tail _ (.tail _ (.tail _ (.tail _ (.tail _ (.head _)))))))))) (de_var 0) T.z_isinstance) da_nil))))))
  (db_cons (ds_set (i := 1) sc_law_flags.nd (de_op do_add (de_var 1) (de_lst (da_cons (de_isE T.g_Astray T.isE T.xlm (.tail _ (.tail _ (.tail _ (.tail _ (.tail _ (.tail _ (.tail _ (.tail _ (.tail _ (.tail _ (.tail _ (.tail _ (.tail _ (.tail _ (.head _))))))))))))))) (de_var 0) T.z_isinstance) (da_cons (de_isE T.g_TooLong T.isE T.xlm (.tail _ (.tail _ (.tail _ (.tail _ (.tail _ (.tail _ (.tail _ (.tail _ (.tail _ (.tail _ (.tail _ (.tail _ (.tail _ (.head _)))))))))))))) (de_var 0) T.z_isinstance) (da_cons (de_isE T.g_TooGreat T.isE T.xlm (.tail _ (.tail _ (.tail _ (.tail _ (.tail _ (.tail _ (.tail _ (.tail _ (.tail _ (.tail _ (.tail _ (.tail _ (.head _))))))))))))) (de_var 0) T.z_isinstance) da_nil))))))
  (db_cons (ds_set (i := 1) sc_law_flags.nd (de_op do_add (de_var 1) (de_lst (da_cons (de_isE T.g_NotMet T.isE T.xlm (.tail _ (.tail _ (.tail _ (.tail _ (.tail _ (.tail _ (.tail _ (.tail _ (.tail _ (.tail _ (.tail _ (.tail _ (.tail _ (.tail _ (.tail _ (.tail _ (.tail _ (.head _)))))))))))))))))) (de_var 0) T.z_isinstance) (da_cons (de_isE T.g_NotHome T.isE T.xlm (.tail _ (.tail _ (.tail _ (.tail _ (.tail _ (.tail _ (.tail _ (.tail _ (.tail _ (.tail _ (.tail _ (.tail _ (.tail _ (.tail _ (.tail _ (.tail _ (.head _))))))))))))))))) (de_var 0) T.z_isinstance) (da_cons (de_isE T.g_BadExchange T.isE T.xlm (.tail _ (.tail _ (.tail _ (.tail _ (.tail _ (.tail _ (.tail _ (.tail _ (.tail _ (.tail _ (.tail _ (.tail _ (.tail _ (.tail _ (.tail _ (.head _)))))))))))))))) (de_var 0) T.z_isinstance) da_nil))))))
  (db_cons (ds_set (i := 1) sc_law_flags.nd (de_op do_add (de_var 1) (de_lst (da_cons (de_isE T.g_Strange T.isE T.xlm (.tail _ (.tail _ (.tail _ (.tail _ (.tail _ (.tail _ (.tail _ (.tail _ (.tail _ (.tail _ (.tail _ (.tail _ (.tail _ (.tail _ (.tail _ (.tail _ (.tail _ (.tail _ (.tail _ (.tail _ (.head _))))))))))))))))))))) (de_var 0) T.z_isinstance) (da_cons (de_isE T.g_BadPlace T.isE T.xlm (.tail _ (.tail _ (.tail _ (.tail _ (.tail _ (.tail _ (.tail _ (.tail _ (.tail _ (.tail _ (.tail _ (.tail _ (.tail _ (.tail _ (.tail _ (.tail _ (.tail _ (.tail _ (.tail _ (.head _)))))))))))))))))))) (de_var 0) T.z_isinstance) (da_cons (de_isE T.g_Stays T.isE T.xlm (.tail _ (.tail _ (.tail _ (.tail _ (.tail _ (.tail _ (.tail _ (.tail _ (.tail _ (.tail _ (.tail _ (.tail _ (.tail _ (.tail _ (.tail _ (.tail _ (.tail _ (.tail _ (.head _))))))))))))))))))) (de_var 0) T.z_isinstance) da_nil))))))
  (db_cons (ds_set (i := 1) sc_law_flags.nd (de_op do_add (de_var 1) (de_lst (da_cons (de_isE T.g_Moves T.isE T.xlm (.tail _ (.tail _ (.tail _ (.tail _ (.tail _ (.tail _ (.tail _ (.tail _ (.tail _ (.tail _ (.tail _ (.tail _ (.tail _ (.tail _ (.tail _ (.tail _ (.tail _ (.tail _ (.tail _ (.tail _ (.tail _ (.tail _ (.tail _ (.head _)))))))))))))))))))))))) (de_var 0) T.z_isinstance) (da_cons (de_isE T.g_NoWay T.isE T.xlm (.tail _ (.tail _ (.tail _ (.tail _ (.tail _ (.tail _ (.tail _ (.tail _ (.tail _ (.tail _ (.tail _ (.tail _ (.tail _ (.tail _ (.tail _ (.tail _ (.tail _ (.tail _ (.tail _ (.tail _ (.tail _ (.tail _ (.head _))))))))))))))))))))))) (de_var 0) T.z_isinstance) (da_cons (de_isE T.g_BadTerm T.isE T.xlm (.tail _ (.tail _ (.tail _ (.tail _ (.tail _ (.tail _ (.tail _ (.tail _ (.tail _ (.tail _ (.tail _ (.tail _ (.tail _ (.tail _ (.tail _ (.tail _ (.tail _ (.tail _ (.tail _ (.tail _ (.tail _ (.head _)))))))))))))))))))))) (de_var 0) T.z_isinstance) da_nil))))))
  (db_cons (ds_set (i := 1) sc_law_flags.nd (de_op do_add (de_var 1) (de_lst (da_cons (de_isE T.g_BadText T.isE T.xlm (.tail _ (.tail _ (.tail _ (.tail _ (.tail _ (.tail _ (.tail _ (.tail _ (.tail _ (.tail _ (.tail _ (.tail _ (.tail _ (.tail _ (.tail _ (.tail _ (.tail _ (.tail _ (.tail _ (.tail _ (.tail _ (.tail _ (.tail _ (.tail _ (.tail _ (.tail _ (.head _))))))))))))))))))))))))))) (de_var 0) T.z_isinstance) (da_cons (de_isE T.g_InUse T.isE T.xlm (.tail _ (.tail _ (.tail _ (.tail _ (.tail _ (.tail _ (.tail _ (.tail _ (.tail _ (.tail _ (.tail _ (.tail _ (.tail _ (.tail _ (.tail _ (.tail _ (.tail _ (.tail _ (.tail _ (.tail _ (.tail _ (.tail _ (.tail _ (.tail _ (.tail _ (.head _)))))))))))))))))))))))))) (de_var 0) T.z_isinstance) (da_cons (de_isE T.g_Ring T.isE T.xlm (.tail _ (.tail _ (.tail _ (.tail _ (.tail _ (.tail _ (.tail _ (.tail _ (.tail _ (.tail _ (.tail _ (.tail _ (.tail _ (.tail _ (.tail _ (.tail _ (.tail _ (.tail _ (.tail _ (.tail _ (.tail _ (.tail _ (.tail _ (.tail _ (.head _))))))))))))))))))))))))) (de_var 0) T.z_isinstance) da_nil))))))
  (db_cons (ds_set (i := 1) sc_law_flags.nd (de_op do_add (de_var 1) (de_lst (da_cons (de_isE T.g_Breaks T.isE T.xlm (.tail _ (.tail _ (.tail _ (.tail _ (.tail _ (.tail _ (.tail _ (.tail _ (.tail _ (.tail _ (.tail _ (.tail _ (.tail _ (.tail _ (.tail _ (.tail _ (.tail _ (.tail _ (.tail _ (.tail _ (.tail _ (.tail _ (.tail _ (.tail _ (.tail _ (.tail _ (.tail _ (.tail _ (.tail _ (.head _)))))))))))))))))))))))))))))) (de_var 0) T.z_isinstance) (da_cons (de_isE T.g_BadDeed T.isE T.xlm (.tail _ (.tail _ (.tail _ (.tail _ (.tail _ (.tail _ (.tail _ (.tail _ (.tail _ (.tail _ (.tail _ (.tail _ (.tail _ (.tail _ (.tail _ (.tail _ (.tail _ (.tail _ (.tail _ (.tail _ (.tail _ (.tail _ (.tail _ (.tail _ (.tail _ (.tail _ (.tail _ (.tail _ (.head _))))))))))))))))))))))))))))) (de_var 0) T.z_isinstance) (da_cons (de_isE T.g_BadNumber T.isE T.xlm (.tail _ (.tail _ (.tail _ (.tail _ (.tail _ (.tail _ (.tail _ (.tail _ (.tail _ (.tail _ (.tail _ (.tail _ (.tail _ (.tail _ (.tail _ (.tail _ (.tail _ (.tail _ (.tail _ (.tail _ (.tail _ (.tail _ (.tail _ (.tail _ (.tail _ (.tail _ (.tail _ (.head _)))))))))))))))))))))))))))) (de_var 0) T.z_isinstance) da_nil))))))
  (db_cons (ds_set (i := 1) sc_law_flags.nd (de_op do_add (de_var 1) (de_lst (da_cons (de_isE T.g_NoName T.isE T.xlm (.tail _ (.tail _ (.tail _ (.tail _ (.tail _ (.tail _ (.tail _ (.tail _ (.tail _ (.tail _ (.tail _ (.tail _ (.tail _ (.tail _ (.tail _ (.tail _ (.tail _ (.tail _ (.tail _ (.tail _ (.tail _ (.tail _ (.tail _ (.tail _ (.tail _ (.tail _ (.tail _ (.tail _ (.tail _ (.tail _ (.tail _ (.tail _ (.head _))))))))))))))))))))))))))))))))) (de_var 0) T.z_isinstance) (da_cons (de_isE T.g_NoYard T.isE T.xlm (.tail _ (.tail _ (.tail _ (.tail _ (.tail _ (.tail _ (.tail _ (.tail _ (.tail _ (.tail _ (.tail _ (.tail _ (.tail _ (.tail _ (.tail _ (.tail _ (.tail _ (.tail _ (.tail _ (.tail _ (.tail _ (.tail _ (.tail _ (.tail _ (.tail _ (.tail _ (.tail _ (.tail _ (.tail _ (.tail _ (.tail _ (.head _)))))))))))))))))))))))))))))))) (de_var 0) T.z_isinstance) (da_cons (de_isE T.g_NoPassage T.isE T.xlm (.tail _ (.tail _ (.tail _ (.tail _ (.tail _ (.tail _ (.tail _ (.tail _ (.tail _ (.tail _ (.tail _ (.tail _ (.tail _ (.tail _ (.tail _ (.tail _ (.tail _ (.tail _ (.tail _ (.tail _ (.tail _ (.tail _ (.tail _ (.tail _ (.tail _ (.tail _ (.tail _ (.tail _ (.tail _ (.tail _ (.head _))))))))))))))))))))))))))))))) (de_var 0) T.z_isinstance) da_nil))))))
  (db_one (ds_ret (de_op do_add (de_var 1) (de_lst (da_cons (de_isE T.g_NoWalk T.isE T.xlm (.tail _ (.tail _ (.tail _ (.tail _ (.tail _ (.tail _ (.tail _ (.tail _ (.tail _ (.tail _ (.tail _ (.tail _ (.tail _ (.tail _ (.tail _ (.tail _ (.tail _ (.tail _ (.tail _ (.tail _ (.tail _ (.tail _ (.tail _ (.tail _ (.tail _ (.tail _ (.tail _ (.tail _ (.tail _ (.tail _ (.tail _ (.tail _ (.tail _ (.tail _ (.head _))))))))))))))))))))))))))))))))))) (de_var 0) T.z_isinstance) (da_cons (de_isE T.g_NothingLeft T.isE T.xlm (.tail _ (.tail _ (.tail _ (.tail _ (.tail _ (.tail _ (.tail _ (.tail _ (.tail _ (.tail _ (.tail _ (.tail _ (.tail _ (.tail _ (.tail _ (.tail _ (.tail _ (.tail _ (.tail _ (.tail _ (.tail _ (.tail _ (.tail _ (.tail _ (.tail _ (.tail _ (.tail _ (.tail _ (.tail _ (.tail _ (.tail _ (.tail _ (.tail _ (.head _)))))))))))))))))))))))))))))))))) (de_var 0) T.z_isinstance) da_nil)))))))))))))))
theorem ok_law_flow (T : Tx K mg A) : FnOk P w K mg base (L2N.CX P w) 1 A.a_law_flow A.d_law_flow ["_law_script"] (spF (Gx K A) 1 m_law_flow) := by
  refine fn_ok true T.F_law_flow sc_law_flow (fun cdv A1 outer s1 H1 E1 hr => ?_)
  exact (db_one (ds_ret (de_lstR (da_cons (de_callTy (dc_list) rfl T.z_list boot_list (da_cons (de_sl (de_var 0) dp_none (dp_some de_int)) da_nil)) (da_cons de_int (da_cons de_int (da_cons de_int da_nil)))))))
theorem ok_law_made_error (T : Tx K mg A) : FnOk P w K mg base (L2N.CX P w) 3 A.a_law_made_error A.d_law_made_error ["_law_at", "_law_field"] (spF (Gx K A) 2 m_law_made_error) := by
  refine fn_ok false T.F_law_made_error sc_law_made_error (fun cdv A1 outer s1 H1 E1 hr => ?_)
  exact (db_cons (ds_set (i := 2) sc_law_made_error.nd (de_slT de_str dp_none (dp_some (de_op do_add de_int (de_op do_mod (de_var 1) de_int)))))
  (db_cons (ds_if (dt_cmp do_lt (de_var 0) de_int) (db_cons (ds_set (i := 3) sc_law_made_error.nd (de_lst (da_cons (de_mkE1 (c := "BadName") rfl fn_tk (de_var 2) T.o_BadName T.i_BadName T.t_BadName (ok_BadName_init T) (hr.mono (by decide)) T.b_BadName_init T.g_BadName) (da_cons (de_mkE1 (c := "Taken") rfl fn_tk (de_var 2) T.o_Taken T.i_Taken T.t_Taken (ok_Taken_init T) (hr.mono (by decide)) T.b_Taken_init T.g_Taken) (da_cons (de_mkE1 (c := "Full") rfl fn_tk (de_var 1) T.o_Full T.i_Full T.t_Full (ok_Full_init T) (hr.mono (by decide)) T.b_Full_init T.g_Full) (da_cons (de_mkE1 (c := "BadTurns") rfl fn_tk (de_var 1) T.o_BadTurns T.i_BadTurns T.t_BadTurns (ok_BadTurns_init T) (hr.mono (by decide)) T.b_BadTurns_init T.g_BadTurns) (da_cons (de_mkE1 (c := "Tied") rfl fn_tk (de_var 2) T.o_Tied T.i_Tied T.t_Tied (ok_Tied_init T) (hr.mono (by decide)) T.b_Tied_init T.g_Tied) (da_cons (de_mkE0 (c := "BadWay") rfl fn_tk T.o_BadWay T.i_BadWay T.t_BadWay (ok_BadWay_init T) (hr.mono (by decide)) T.b_BadWay_init T.g_BadWay) da_nil))))))))
  (db_one (ds_ret (de_ix (de_op do_add (de_var 3) (de_lst (da_cons (de_mkE1 (c := "BadRow") rfl fn_tk (de_var 1) T.o_BadRow T.i_BadRow T.t_BadRow (ok_BadRow_init T) (hr.mono (by decide)) T.b_BadRow_init T.g_BadRow) (da_cons (de_mkE1 (c := "Astray") rfl fn_tk (de_var 1) T.o_Astray T.i_Astray T.t_Astray (ok_Astray_init T) (hr.mono (by decide)) T.b_Astray_init T.g_Astray) (da_cons (de_mkE0 (c := "TooLong") rfl fn_tk T.o_TooLong T.i_TooLong T.t_TooLong (ok_TooLong_init T) (hr.mono (by decide)) T.b_TooLong_init T.g_TooLong) (da_cons (de_mkE0 (c := "TooGreat") rfl fn_tk T.o_TooGreat T.i_TooGreat T.t_TooGreat (ok_TooGreat_init T) (hr.mono (by decide)) T.b_TooGreat_init T.g_TooGreat) da_nil)))))) (de_var 0))))) db_nil)
  (db_cons (ds_if (dt_cmp do_lt (de_var 0) de_int) (db_cons (ds_set (i := 3) sc_law_made_error.nd (de_lst (da_cons (de_mkE0 (c := "NotMet") rfl fn_tk T.o_NotMet T.i_NotMet T.t_NotMet (ok_NotMet_init T) (hr.mono (by decide)) T.b_NotMet_init T.g_NotMet) (da_cons (de_mkE0 (c := "NotHome") rfl fn_tk T.o_NotHome T.i_NotHome T.t_NotHome (ok_NotHome_init T) (hr.mono (by decide)) T.b_NotHome_init T.g_NotHome) (da_cons (de_mkE1 (c := "BadExchange") rfl fn_tk (de_var 1) T.o_BadExchange T.i_BadExchange T.t_BadExchange (ok_BadExchange_init T) (hr.mono (by decide)) T.b_BadExchange_init T.g_BadExchange) (da_cons (de_mkE0 (c := "Strange") rfl fn_tk T.o_Strange T.i_Strange T.t_Strange (ok_Strange_init T) (hr.mono (by decide)) T.b_Strange_init T.g_Strange) (da_cons (de_mkE0 (c := "BadPlace") rfl fn_tk T.o_BadPlace T.i_BadPlace T.t_BadPlace (ok_BadPlace_init T) (hr.mono (by decide)) T.b_BadPlace_init T.g_BadPlace) (da_cons (de_mkE0 (c := "Stays") rfl fn_tk T.o_Stays T.i_Stays T.t_Stays (ok_Stays_init T) (hr.mono (by decide)) T.b_Stays_init T.g_Stays) (da_cons (de_mkE0 (c := "Moves") rfl fn_tk T.o_Moves T.i_Moves T.t_Moves (ok_Moves_init T) (hr.mono (by decide)) T.b_Moves_init T.g_Moves) da_nil)))))))))
  (db_one (ds_ret (de_ix (de_op do_add (de_var 3) (de_lst (da_cons (de_mkE0 (c := "NoWay") rfl fn_tk T.o_NoWay T.i_NoWay T.t_NoWay (ok_NoWay_init T) (hr.mono (by decide)) T.b_NoWay_init T.g_NoWay) (da_cons (de_mkE0 (c := "BadTerm") rfl fn_tk T.o_BadTerm T.i_BadTerm T.t_BadTerm (ok_BadTerm_init T) (hr.mono (by decide)) T.b_BadTerm_init T.g_BadTerm) (da_cons (de_mkE1 (c := "BadText") rfl fn_tk (de_var 1) T.o_BadText T.i_BadText T.t_BadText (ok_BadText_init T) (hr.mono (by decide)) T.b_BadText_init T.g_BadText) da_nil))))) (de_op do_sub (de_var 0) de_int))))) db_nil)
  (db_cons (ds_set (i := 3) sc_law_made_error.nd (de_lst (da_cons (de_mkE1 (c := "InUse") rfl fn_tk (de_var 2) T.o_InUse T.i_InUse T.t_InUse (ok_InUse_init T) (hr.mono (by decide)) T.b_InUse_init T.g_InUse) (da_cons (de_mkE0 (c := "Ring") rfl fn_tk T.o_Ring T.i_Ring T.t_Ring (ok_Ring_init T) (hr.mono (by decide)) T.b_Ring_init T.g_Ring) (da_cons (de_mkE1 (c := "Breaks") rfl fn_tk (de_var 2) T.o_Breaks T.i_Breaks T.t_Breaks (ok_Breaks_init T) (hr.mono (by decide)) T.b_Breaks_init T.g_Breaks) (da_cons (de_mkE1 (c := "BadDeed") rfl fn_tk (de_var 1) T.o_BadDeed T.i_BadDeed T.t_BadDeed (ok_BadDeed_init T) (hr.mono (by decide)) T.b_BadDeed_init T.g_BadDeed) (da_cons (de_mkE0 (c := "BadNumber") rfl fn_tk T.o_BadNumber T.i_BadNumber T.t_BadNumber (ok_BadNumber_init T) (hr.mono (by decide)) T.b_BadNumber_init T.g_BadNumber) (da_cons (de_mkE1 (c := "NoName") rfl fn_tk (de_var 2) T.o_NoName T.i_NoName T.t_NoName (ok_NoName_init T) (hr.mono (by decide)) T.b_NoName_init T.g_NoName) da_nil))))))))
  (db_one (ds_ret (de_ix (de_op do_add (de_var 3) (de_lst (da_cons (de_mkE1 (c := "NoYard") rfl fn_tk (de_var 2) T.o_NoYard T.i_NoYard T.t_NoYard (ok_NoYard_init T) (hr.mono (by decide)) T.b_NoYard_init T.g_NoYard) (da_cons (de_mkE1 (c := "NoPassage") rfl fn_tk (de_var 2) T.o_NoPassage T.i_NoPassage T.t_NoPassage (ok_NoPassage_init T) (hr.mono (by decide)) T.b_NoPassage_init T.g_NoPassage) (da_cons (de_mkE1 (c := "NoWalk") rfl fn_tk (de_var 2) T.o_NoWalk T.i_NoWalk T.t_NoWalk (ok_NoWalk_init T) (hr.mono (by decide)) T.b_NoWalk_init T.g_NoWalk) (da_cons (de_mkE0 (c := "NothingLeft") rfl fn_tk T.o_NothingLeft T.i_NothingLeft T.t_NothingLeft (ok_NothingLeft_init T) (hr.mono (by decide)) T.b_NothingLeft_init T.g_NothingLeft) da_nil)))))) (de_op do_sub (de_var 0) de_int))))))))
theorem ok_law_same (T : Tx K mg A) (n : Nat) : FnOk P w K mg base (L2N.CX P w) (n + 1) A.a_law_same A.d_law_same ["_law_found", "_law_due"] (spF (Gx K A) 2 (m_law_same n)) := by
  induction n with
  | zero => exact fn_stuck
  | succ n rc =>
    have hk : n + 1 ≤ n + 1 := Nat.le_refl _
    refine fn_ok false T.F_law_same sc_law_same (fun cdv A1 outer s1 H1 E1 hr => ?_)
    exact (db_cons (ds_if (dt_truth (de_callB (dc_isi T.isi) rfl T.z_isinstance boot_isinstance (da_cons (de_var 1) (da_cons (de_ty rfl T.z_bool boot_bool) da_nil)))) (db_one (ds_ret (de_and (de_callB (dc_isi T.isi) rfl T.z_isinstance boot_isinstance (da_cons (de_var 0) (da_cons (de_ty rfl T.z_bool boot_bool) da_nil))) (de_one (de_cmp (do_eq hr.units) (de_var 0) (de_var 1)))))) db_nil)
  (db_cons (ds_if (dt_cmp do_is (de_var 1) de_non) (db_one (ds_ret (de_cmp do_is (de_var 0) de_non))) db_nil)
  (db_cons (ds_if (dt_truth (de_callB (dc_isi T.isi) rfl T.z_isinstance boot_isinstance (da_cons (de_var 1) (da_cons (de_ty rfl T.z_int boot_int) da_nil)))) (db_one (ds_ret (de_and (de_callB (dc_isi T.isi) rfl T.z_isinstance boot_isinstance (da_cons (de_var 0) (da_cons (de_ty rfl T.z_int boot_int) da_nil))) (de_and (de_not (de_callB (dc_isi T.isi) rfl T.z_isinstance boot_isinstance (da_cons (de_var 0) (da_cons (de_ty rfl T.z_bool boot_bool) da_nil)))) (de_one (de_cmp (do_eq hr.units) (de_var 0) (de_var 1))))))) db_nil)
  (db_cons (ds_if (dt_truth (de_callB (dc_isi T.isi) rfl T.z_isinstance boot_isinstance (da_cons (de_var 1) (da_cons (de_ty rfl T.z_str boot_str) da_nil)))) (db_one (ds_ret (de_and (de_callB (dc_isi T.isi) rfl T.z_isinstance boot_isinstance (da_cons (de_var 0) (da_cons (de_ty rfl T.z_str boot_str) da_nil))) (de_one (de_cmp (do_eq hr.units) (de_var 0) (de_var 1)))))) db_nil)
  (db_cons (ds_if (dt_w (dw_or (dt_cmp (do_ne hr.units) (de_callB (dc_isi T.isi) rfl T.z_isinstance boot_isinstance (da_cons (de_var 1) (da_cons (de_ty rfl T.z_tuple boot_tuple) da_nil))) (de_callB (dc_isi T.isi) rfl T.z_isinstance boot_isinstance (da_cons (de_var 0) (da_cons (de_ty rfl T.z_tuple boot_tuple) da_nil)))) (dw_or1 (dt_cmp (do_ne hr.units) (de_callB (dc_isi T.isi) rfl T.z_isinstance boot_isinstance (da_cons (de_var 1) (da_cons (de_ty rfl T.z_list boot_list) da_nil))) (de_callB (dc_isi T.isi) rfl T.z_isinstance boot_isinstance (da_cons (de_var 0) (da_cons (de_ty rfl T.z_list boot_list) da_nil))))))) (db_one (ds_ret de_bl)) db_nil)
  (db_cons (ds_if (dt_w (dw_or (dt_not (dt_truth (de_callB (dc_isi T.isi) rfl T.z_isinstance boot_isinstance (da_cons (de_var 0) (da_cons (de_tup (da_cons (de_ty rfl T.z_tuple boot_tuple) (da_cons (de_ty rfl T.z_list boot_list) da_nil))) da_nil))))) (dw_or1 (dt_cmp (do_ne hr.units) (de_callB (dc_len) rfl T.z_len boot_len (da_cons (de_var 0) da_nil)) (de_callB (dc_len) rfl T.z_len boot_len (da_cons (de_var 1) da_nil)))))) (db_one (ds_ret de_bl)) db_nil)
  (db_one (ds_ret (de_callB (dc_all) rfl T.z_all boot_all (da_cons (de_lc [("_law_k", 2)] sc_law_same.nd (di_range1 T.z_range (da_cons (de_callB (dc_len) rfl T.z_len boot_len (da_cons (de_var 1) da_nil)) da_nil)) (blkOk_by (own := [("_law_k", 2)]) (N := ["_law_found", "_law_due", "_law_k"]) (sc := defScope s_law_same) (by decide +kernel)) (fun _ _ _ _ _ => (dgw_name sc_law_same.nd rfl (by first | exact Or.inl rfl | exact Or.inr rfl))) (fun _ _ _ _ _ => dts_nil) (fun _ _ _ _ _ => (de_call rc (hr.mono hk) T.g_law_same T.F_law_same.kp T.b_law_same takes0N (da_cons (de_ix (de_var 0) (de_var 2)) (da_cons (de_ix (de_var 1) (de_var 2)) da_nil))))) da_nil))))))))))
theorem ok_law (T : Tx K mg A) : FnOk P w K mg base (L2N.CX P w) 22 A.a_law A.d_law ["_law_script"] (spF (Gx K A) 1 m_law) := by
  refine fn_ok true T.F_law sc_law (fun cdv A1 outer s1 H1 E1 hr => ?_)
  exact (db_cons (ds_set (i := 1) sc_law.nd (de_call (ok_law_flow T) (hr.mono (by decide)) T.g_law_flow T.F_law_flow.kp T.b_law_flow fn_tk (da_cons (de_var 0) da_nil)))
  (db_cons (ds_set (i := 2) sc_law.nd de_str)
  (db_cons (ds_set (i := 2) sc_law.nd (de_op do_add (de_var 2) de_str))
  (db_cons (ds_set (i := 2) sc_law.nd (de_op do_add (de_var 2) de_str))
  (db_cons (ds_set (i := 2) sc_law.nd (de_split (de_op do_add (de_var 2) de_str) de_str))
  (db_cons (ds_set (i := 3) sc_law.nd (de_call (ok_law_draw T) (hr.mono (by decide)) T.g_law_draw T.F_law_draw.kp T.b_law_draw fn_tk (da_cons (de_var 1) (da_cons de_int da_nil))))
  (db_cons (ds_set (i := 4) sc_law.nd (de_call (ok_law_draw T) (hr.mono (by decide)) T.g_law_draw T.F_law_draw.kp T.b_law_draw fn_tk (da_cons (de_var 1) (da_cons (de_op do_pow de_int de_int) da_nil))))
  (db_cons (ds_for fn_po (di_range1 T.z_range (da_cons de_int da_nil)) (dg_name sc_law.nd rfl (by first | exact Or.inl rfl | exact Or.inr rfl)) (db_cons (ds_set (i := 6) sc_law.nd (de_op do_mod (de_op do_add (de_var 3) (de_var 5)) de_int))
  (db_cons (ds_set (i := 7) sc_law.nd (de_call (ok_law_made_error T) (hr.mono (by decide)) T.g_law_made_error T.F_law_made_error.kp T.b_law_made_error fn_tk (da_cons (de_var 6) (da_cons (de_var 4) da_nil))))
  (db_cons (ds_if (dt_not (dt_truth (de_call (ok_law_same T 20) (hr.mono (by decide)) T.g_law_same T.F_law_same.kp T.b_law_same fn_tk (da_cons (de_call (ok_law_flags T) (hr.mono (by decide)) T.g_law_flags T.F_law_flags.kp T.b_law_flags fn_tk (da_cons (de_var 7) da_nil)) (da_cons (de_lc [("_law_k", 8)] sc_law.nd (di_range1 T.z_range (da_cons de_int da_nil)) (blkOk_by (own := [("_law_k", 8)]) (N := ["_law_script", "_law_flow_here", "_law_words", "_law_begin", "_law_field", "_law_step", "_law_at", "_law_e", "_law_k", "_law_kin", "_law_found"]) (sc := defScope s_law) (by decide +kernel)) (fun _ _ _ _ _ => (dgw_name sc_law.nd rfl (by first | exact Or.inl rfl | exact Or.inr rfl))) (fun _ _ _ _ _ => dts_nil) (fun _ _ _ _ _ => (de_cmp (do_eq hr.units) (de_var 8) (de_var 6)))) da_nil))))) (db_one (ds_ret de_bl)) db_nil)
  (db_cons (ds_set (i := 9) sc_law.nd (de_lst (da_cons (de_isE T.h_HawserError T.isE T.xlm (.tail _ (.tail _ (.head _))) (de_var 7) T.z_isinstance) (da_cons (de_isET T.z_ValueError PyProof.Rows.Boot.«ValueError» T.isE T.xlm (.tail _ (.head _)) (de_var 7) T.z_isinstance) (da_cons (de_isE T.g_Missing T.isE T.xlm (.head _) (de_var 7) T.z_isinstance) da_nil)))))
  (db_cons (ds_set (i := 9) sc_law.nd (de_op do_add (de_var 9) (de_lst (da_cons (de_isET T.z_LookupError PyProof.Rows.Boot.«LookupError» T.isE T.xlm (.tail _ (.tail _ (.tail _ (.tail _ (.head _))))) (de_var 7) T.z_isinstance) (da_cons (de_isET T.z_IndexError PyProof.Rows.Boot.«IndexError» T.isE T.xlm (.tail _ (.tail _ (.tail _ (.head _)))) (de_var 7) T.z_isinstance) da_nil)))))
  (db_cons (ds_if (dt_not (dt_truth (de_call (ok_law_same T 20) (hr.mono (by decide)) T.g_law_same T.F_law_same.kp T.b_law_same fn_tk (da_cons (de_xfld ["BadName", "Taken", "Full", "BadTurns", "Tied", "BadWay", "BadRow", "Astray", "TooLong", "TooGreat", "NotMet", "NotHome", "BadExchange", "Strange", "BadPlace", "Stays", "Moves", "NoWay", "BadTerm", "BadText", "InUse", "Ring", "Breaks", "BadDeed", "BadNumber", "Missing", "NoName", "NoYard", "NoPassage", "NoWalk", "NothingLeft"] T.xf0 (de_var 7)) (da_cons (de_ix (de_var 2) (de_var 6)) da_nil))))) (db_one (ds_ret de_bl)) db_nil)
  (db_one (ds_if (dt_not (dt_truth (de_call (ok_law_same T 20) (hr.mono (by decide)) T.g_law_same T.F_law_same.kp T.b_law_same fn_tk (da_cons (de_var 9) (da_cons (de_lst (da_cons (de_cmp do_lt (de_var 6) de_int) (da_cons (de_cmp do_lt (de_var 6) de_int) (da_cons (de_chain do_lt do_lt de_int (de_var 6) de_int) (da_cons (de_cmp do_gt (de_var 6) de_int) (da_cons (de_cmp (do_eq hr.units) (de_var 6) de_int) da_nil)))))) da_nil))))) (db_one (ds_ret de_bl)) db_nil)))))))))
  (db_cons (ds_set (i := 10) sc_law.nd (de_lst (da_cons (de_xfld ["Full"] T.xf4 (de_mkE1 (c := "Full") rfl fn_tk (de_var 4) T.o_Full T.i_Full T.t_Full (ok_Full_init T) (hr.mono (by decide)) T.b_Full_init T.g_Full)) (da_cons (de_xfld ["BadTurns"] T.xf3 (de_mkE1 (c := "BadTurns") rfl fn_tk (de_var 4) T.o_BadTurns T.i_BadTurns T.t_BadTurns (ok_BadTurns_init T) (hr.mono (by decide)) T.b_BadTurns_init T.g_BadTurns)) (da_cons (de_xfld ["Tied"] T.xf2 (de_mkE1 (c := "Tied") rfl fn_tk de_str T.o_Tied T.i_Tied T.t_Tied (ok_Tied_init T) (hr.mono (by decide)) T.b_Tied_init T.g_Tied)) (da_cons (de_xfld ["BadRow"] T.xf1 (de_mkE1 (c := "BadRow") rfl fn_tk (de_var 4) T.o_BadRow T.i_BadRow T.t_BadRow (ok_BadRow_init T) (hr.mono (by decide)) T.b_BadRow_init T.g_BadRow)) da_nil))))))
  (db_cons (ds_set (i := 10) sc_law.nd (de_op do_add (de_var 10) (de_lst (da_cons (de_xfld ["BadText"] T.xf7 (de_mkE1 (c := "BadText") rfl fn_tk (de_var 4) T.o_BadText T.i_BadText T.t_BadText (ok_BadText_init T) (hr.mono (by decide)) T.b_BadText_init T.g_BadText)) (da_cons (de_xfld ["BadExchange"] T.xf6 (de_mkE1 (c := "BadExchange") rfl fn_tk (de_var 4) T.o_BadExchange T.i_BadExchange T.t_BadExchange (ok_BadExchange_init T) (hr.mono (by decide)) T.b_BadExchange_init T.g_BadExchange)) (da_cons (de_xfld ["BadDeed"] T.xf5 (de_mkE1 (c := "BadDeed") rfl fn_tk (de_var 4) T.o_BadDeed T.i_BadDeed T.t_BadDeed (ok_BadDeed_init T) (hr.mono (by decide)) T.b_BadDeed_init T.g_BadDeed)) da_nil))))))
  (db_cons (ds_set (i := 10) sc_law.nd (de_op do_add (de_var 10) (de_lst (da_cons (de_xfld ["Breaks"] T.xf10 (de_mkE1 (c := "Breaks") rfl fn_tk de_str T.o_Breaks T.i_Breaks T.t_Breaks (ok_Breaks_init T) (hr.mono (by decide)) T.b_Breaks_init T.g_Breaks)) (da_cons (de_xfld ["NoWalk"] T.xf9 (de_mkE1 (c := "NoWalk") rfl fn_tk de_str T.o_NoWalk T.i_NoWalk T.t_NoWalk (ok_NoWalk_init T) (hr.mono (by decide)) T.b_NoWalk_init T.g_NoWalk)) (da_cons (de_xfld ["Astray"] T.xf8 (de_mkE1 (c := "Astray") rfl fn_tk (de_var 4) T.o_Astray T.i_Astray T.t_Astray (ok_Astray_init T) (hr.mono (by decide)) T.b_Astray_init T.g_Astray)) da_nil))))))
  (db_one (ds_ret (de_call (ok_law_same T 20) (hr.mono (by decide)) T.g_law_same T.F_law_same.kp T.b_law_same fn_tk (da_cons (de_var 10) (da_cons (de_lst (da_cons (de_var 4) (da_cons (de_var 4) (da_cons de_str (da_cons (de_var 4) (da_cons (de_var 4) (da_cons (de_var 4) (da_cons (de_var 4) (da_cons de_str (da_cons de_str (da_cons (de_var 4) da_nil))))))))))) da_nil))))))))))))))))
end
end Lw
set_option Elab.async false
set_option linter.all false
set_option maxRecDepth 100000
set_option maxHeartbeats 4000000
set_option autoImplicit false
namespace Lw
open PySem Dv
/-! steps of our own words -/
local macro_rules | `(tactic| walk_at "num") => `(tactic| first | assumption | decide | omega)
local macro_rules | `(tactic| walk_at "dv0") => `(tactic| with_reducible first
  | refine v_seq ?_ | refine v_ifS ?_ | refine v_set ?_ | refine v_ret ?_ | refine v_asg ?_ | refine v_par ?_ | refine v_drop ?_ | refine v_nx ?_ | refine v_bk ?_ | refine v_ct ?_ | refine v_retN ?_ | refine v_for ?_
  | refine v_c ?_ | refine v_nil ?_ | refine v_cons ?_ | refine v_op ?_ | refine v_B ?_ | refine v_truth ?_ | refine v_andT ?_ | refine v_orT ?_ | refine v_notT ?_
  | refine v_andV ?_ | refine v_orV ?_ | refine v_notV ?_ | refine v_if ?_ | refine v_neg ?_ | refine v_chain ?_ | refine v_tup ?_ | refine v_lst ?_ | refine v_lstR ?_ | refine v_noPart ?_ | refine v_part ?_ | refine v_sl ?_
  | refine v_CB ?_ | refine v_call ?_ | refine v_abs ?_ | refine v_lc ?_ | refine v_yes ?_ | refine v_it ?_ | refine v_rng1 ?_ | refine v_rng2 ?_ | refine v_rng3 ?_ | refine v_T ?_ | refine v_F ?_
  | refine v_add ?_ | refine v_sub ?_ | refine v_iadd ?_ | refine v_lt ?_ | refine v_le ?_ | refine v_gt ?_ | refine v_ge ?_ | refine v_eqI ?_ | refine v_neI ?_ | refine v_eqB ?_ | refine v_neB ?_)
local macro_rules | `(tactic| walk_at "dv1") => `(tactic| first
  | (with_reducible refine' v_var ?h ?_); (case h => rfl)
  | (with_reducible refine' v_aug ?h ?_); (case h => rfl)
  | (with_reducible refine' v_div ?h1 ?h2 ?_); (case h1 => walk_at "num"); (case h2 => walk_at "num")
  | (with_reducible refine' v_mod ?h1 ?_); (case h1 => walk_at "num")
  | (with_reducible refine' v_pow ?h1 ?_); (case h1 => walk_at "num")
  | (with_reducible refine' v_mulR ?h1 ?_); (case h1 => walk_at "num")
  | (with_reducible refine' v_mulL ?h1 ?_); (case h1 => walk_at "num")
  | (with_reducible refine' v_fin ?h1 ?_); (case h1 => first | exact Or.inl rfl | exact Or.inr rfl | (refine Or.inr ?_; simp only [List.length_set, *]; done))
  | (with_reducible refine' v_ix ?h1 ?_); (case h1 => first | exact ixD_ref (by assumption) (by rfl) | rfl)
  | (with_reducible refine' v_len ?h1 ?_); (case h1 => first | exact lenD_ref (by assumption) | rfl)
  | (with_reducible refine' v_list ?h1 ?_); (case h1 => rfl)
  | (with_reducible refine' v_listR ?h1 ?_); (case h1 => rfl)
  | (with_reducible refine' v_tuple ?h1 ?_); (case h1 => rfl)
  | (with_reducible refine' v_isd ?h1 ?_); (case h1 => rfl)
  | (with_reducible refine' v_isiTy ?h1 ?h2 ?_); (case h1 => rfl); (case h2 => rfl)
  | (with_reducible refine' v_isiT ?h1 ?_); (case h1 => rfl))
local macro_rules | `(tactic| walk_at "dv2") => `(tactic| first
  | refine v_gsub (by rfl) (by rfl) (by assumption) (by rfl) (fun _ _ _ => ?_) | refine ⟨_, rfl, ?_⟩ | (with_reducible refine' ⟨rng_ok ?h1 ?h2, ?_⟩); (case h1 => omega); (case h2 => omega) | refine ⟨rfl, ?_⟩ | refine ⟨_, _, rfl, ?_⟩ | refine ⟨Nat.le_of_ble_eq_true rfl, ?_⟩)
local macro_rules | `(tactic| walk_at "dv3") => `(tactic| first
  | (with_reducible refine' v_dec (fun _ => ?_) (fun hn => absurd ?h hn)); (case h => first | assumption | omega | decide)
  | (with_reducible refine' v_dec (fun hn => absurd hn ?h) (fun _ => ?_)); (case h => first | assumption | omega | decide)
  | (with_reducible refine' v_ndec (fun _ => ?_) (fun hn => absurd hn ?h)); (case h => first | assumption | omega | decide)
  | (with_reducible refine' v_ndec (fun hn => absurd ?h hn) (fun _ => ?_)); (case h => first | assumption | omega | decide)
  | (with_reducible refine' v_bT ?h ?_); (case h => first | assumption | rfl)
  | (with_reducible refine' v_bF ?h ?_); (case h => first | assumption | rfl))
local macro_rules | `(tactic| walk_at "dv4") => `(tactic| with_reducible first
  | refine v_places ?_ | refine v_roads ?_ | refine v_over ?_ | refine v_line ?_ | refine v_spots ?_ | refine v_myards ?_ | refine v_mroads ?_ | refine v_mW (by decide +kernel) ?_ | refine v_mK (by decide +kernel) ?_
  | refine v_itX ?_ | refine v_ev ?_ | refine v_rev ?_ | refine v_zs ?_ | refine v_enum ?_ | refine v_enum2 ?_ | refine v_makeV ?_ | refine v_tryN ?_ | refine v_lc2 ?_ | refine v_fz ?_ | refine v_make ?_ | refine v_fldS ?_)
local macro_rules | `(tactic| walk_at "dv5") => `(tactic| first
  | refine ⟨_, _, rfl, rfl, ?_⟩ | refine ⟨⟨_, _, rfl⟩, ?_⟩ | refine ⟨⟨_, _, _, rfl⟩, ?_⟩ | refine ⟨_, _, _, rfl, ?_⟩ | refine Or.inl ⟨_, rfl, ?_⟩ | refine Or.inr ⟨_, (fun _ z => by cases z), rfl, ?_⟩)
local macro_rules | `(tactic| walk_at "dv") => `(tactic| repeat (first | walk_at "dv0" | walk_at "dv4" | walk_at "dv1" | walk_at "dv3" | walk_at "dv2" | walk_at "dv5"))
structure Fw where
  cells : List Int
  pos : Nat
  rest : Nat
  base : Nat
abbrev Fw.ds (f : Fw) : List Dt := [.lst (f.cells.map Dt.int), .int f.pos, .int f.rest, .int f.base]
abbrev Fw.ob (f : Fw) : Ob := .lst f.ds
/-- a draw gives a number from 0 on, below the size; the flow stays a flow -/
def Drawn (S : Store) (i : Nat) (n : Int) (d : Dt) (S' : Store) : Prop := ∃ (v : Int) (f' : Fw), d = .int v ∧ 0 ≤ v ∧ v < n ∧ f'.base < 2147483647 ∧ S' = S.set i f'.ob
theorem draw_rest {S : Store} {i : Nat} {f : Fw} {n : Int} (hS : S[i]? = some f.ob) (hn : 0 < n) (hl : n.natAbs.log2 < 9000) (h : 0 < f.rest) (hb : f.base < 2147483647) :
    Pe (m_law_draw [.ref i, .int n] S) (Drawn S i n) X0 := by
  refine v_fn ?_
  unfold b_law_draw
  walk_at "dv"
  refine ⟨_, { f with rest := ((f.rest : Int).fdiv n).toNat }, rfl, Int.fmod_nonneg_of_pos _ hn, Int.fmod_lt_of_pos _ hn, hb, ?_⟩
  rename_i S1 e1 e2
  rw [e1]
  have z : ((((f.rest : Int).fdiv n).toNat : Nat) : Int) = (f.rest : Int).fdiv n := Int.toNat_of_nonneg (Int.fdiv_nonneg (by omega) (by omega))
  simp [Fw.ob, Fw.ds, z]
theorem draw_cell {S : Store} {i : Nat} {f : Fw} {n : Int} (hS : S[i]? = some f.ob) (hn : 0 < n) (hl : n.natAbs.log2 < 9000) (h : f.rest = 0) (hb : f.base < 2147483647) :
    Pe (m_law_draw [.ref i, .int n] S) (Drawn S i n) X0 := by
  -- what both ways come to
  have fin1 : ∀ (S1 S2 : Store) (x r : Int), S1 = S.set i (.lst (f.ds.set (Int.toNat 1) (.int (f.pos + 1)))) → S2 = S1.set i (.lst ((f.ds.set (Int.toNat 1) (.int (f.pos + 1))).set (Int.toNat 3) (.int (x.fmod 2147483647)))) → Drawn S i n (.int (r.fmod n)) S2 := by
    intro S1 S2 x r e1 e2
    have h0 := Int.fmod_nonneg_of_pos x (b := 2147483647) (by decide)
    have h1 := Int.fmod_lt_of_pos x (b := 2147483647) (by decide)
    refine ⟨_, { f with pos := f.pos + 1, base := (x.fmod 2147483647).toNat }, rfl, Int.fmod_nonneg_of_pos _ hn, Int.fmod_lt_of_pos _ hn, ?_, ?_⟩
    · show (x.fmod 2147483647).toNat < 2147483647
      omega
    · rw [e2, e1, List.set_set]
      simp [Fw.ob, Fw.ds, Int.toNat_of_nonneg h0]
  have fin2 : ∀ (S1 S2 : Store) (a : Int), 0 ≤ a → S1 = S.set i (.lst (f.ds.set (Int.toNat 1) (.int (f.pos + 1)))) → S2 = S1.set i (.lst ((f.ds.set (Int.toNat 1) (.int (f.pos + 1))).set (Int.toNat 2) (.int (a.fdiv n)))) → Drawn S i n (.int (a.fmod n)) S2 := by
    intro S1 S2 a h0 e1 e2
    refine ⟨_, { f with pos := f.pos + 1, rest := (a.fdiv n).toNat }, rfl, Int.fmod_nonneg_of_pos _ hn, Int.fmod_lt_of_pos _ hn, hb, ?_⟩
    have z : (((a.fdiv n).toNat : Nat) : Int) = a.fdiv n := Int.toNat_of_nonneg (Int.fdiv_nonneg h0 (by omega))
    rw [e2, e1, List.set_set]
    simp [Fw.ob, Fw.ds, z]
  refine v_fn ?_
  unfold b_law_draw
  walk_at "dv"
  refine v_dec (fun hc => ?_) (fun hc => ?_)
  · obtain ⟨c, hcell⟩ : ∃ c, (f.cells.map Dt.int)[f.pos]? = some (.int c) := ⟨f.cells[f.pos]'(by simpa using hc), by simp⟩
    walk_at "dv"
    refine v_ix (atI_in hcell) ?_
    walk_at "dv"
    refine v_dec (fun hg => ?_) (fun hg => ?_)
    · walk_at "dv"
      exact fin2 _ _ _ (by split <;> omega) (by assumption) (by assumption)
    · walk_at "dv"
      exact fin1 _ _ _ _ (by assumption) (by assumption)
  · walk_at "dv"
    exact fin1 _ _ _ _ (by assumption) (by assumption)
theorem draw_spec {S : Store} {i : Nat} {f : Fw} {n : Int} (hS : S[i]? = some f.ob) (hb : f.base < 2147483647) (hn : 0 < n) (hl : n.natAbs.log2 < 9000) : Pe (m_law_draw [.ref i, .int n] S) (Drawn S i n) X0 := by
  by_cases h : 0 < f.rest
  · exact draw_rest hS hn hl h hb
  · exact draw_cell hS hn hl (by omega) hb
/-! ### the flow in a store -/
def FlowAt (S : Store) (i : Nat) : Prop := ∃ f : Fw, S[i]? = some f.ob ∧ f.base < 2147483647
/-- a store that differs in the flow alone -/
structure Fz (i : Nat) (S S' : Store) : Prop where
  len : S'.length = S.length
  oth : ∀ j : Nat, j ≠ i → S'[j]? = S[j]?
  flow : FlowAt S' i
theorem Fz.trans {i : Nat} {S S1 S2 : Store} (a : Fz i S S1) (b : Fz i S1 S2) : Fz i S S2 := ⟨b.len.trans a.len, fun j h => (b.oth j h).trans (a.oth j h), b.flow⟩
theorem draw_fz {S : Store} {i : Nat} {n : Int} {Q : Dt → Store → Prop} {X : Ex → Store → Prop} (hF : FlowAt S i) (hn : 0 < n) (hl : n.natAbs.log2 < 9000) (q : ∀ v S', 0 ≤ v → v < n → Fz i S S' → Q (.int v) S') : Pe (m_law_draw [.ref i, .int n] S) Q X := by
  obtain ⟨f, h1, h2⟩ := hF
  refine (draw_spec h1 h2 hn hl).imp (fun d S' ⟨v, f', e, v0, v1, b, eS⟩ => ?_) fun _ _ z => z.elim
  subst e
  have hi := (List.getElem?_eq_some_iff.mp h1).1
  subst eS
  exact q v _ v0 v1 ⟨by simp, fun j hj => List.getElem?_set_ne (Ne.symm hj), f', List.getElem?_set_self hi, b⟩
/-! the law -/
theorem cut_take {α : Type} (xs : List α) (k : Nat) : cutA xs none (some (k : Int)) = xs.take k := by
  unfold cutA
  rw [HT.sIx_nat, HT.sIx_none]
  simp only [List.drop_zero, Nat.sub_zero, Nat.min_def]
  split
  · rfl
  · rw [List.take_length, List.take_of_length_le (by omega)]
theorem flow_new {S : Store} {ns : List Int} {Q : Dt → Store → Prop} {X : Ex → Store → Prop} (q : ∀ S', S'.length = S.length + 1 → (∀ j : Nat, j < S.length → S'[j]? = S[j]?) → FlowAt S' S.length → Q (.ref S.length) S') : Pe (m_law_flow [.fz (ns.map Dt.int)] S) Q X := by
  refine v_fn ?_
  unfold b_law_flow
  walk_at "dv"
  refine q _ (by simp) (fun j hj => List.getElem?_append_left hj) ⟨⟨ns.take 63, 0, 0, 23⟩, ?_, show 23 < 2147483647 by decide⟩
  have e : cutA (List.map Dt.int ns) none (some 63) = (ns.take 63).map Dt.int := by
    rw [show (63 : Int) = ((63 : Nat) : Int) from rfl, cut_take, List.map_take]
  rw [List.getElem?_append_right (Nat.le_refl _), Nat.sub_self, e]
  rfl
/-! ### the same data are the same -/
theorem all_true : ∀ n : Nat, bools (List.replicate n (Dt.bl true)) = some (List.replicate n true)
  | 0 => rfl
  | n + 1 => by
    rw [List.replicate_succ, List.replicate_succ]
    show (bools (List.replicate n (Dt.bl true))).map (true :: ·) = _
    rw [all_true n]
    rfl
theorem range_mem {n : Nat} {d : Dt} (h : d ∈ rangeD 0 n) : ∃ k : Nat, k < n ∧ d = .int (0 + (k : Int)) := by
  unfold rangeD at h
  obtain ⟨k, hk, rfl⟩ := List.mem_map.mp h
  exact ⟨k, List.mem_range.mp hk, rfl⟩
theorem range_const (n : Nat) (x : Dt) : (rangeD 0 n).filterMap (fun _ => some x) = List.replicate n x := by
  unfold rangeD
  rw [List.filterMap_map]
  have e : ((fun _ => some x) ∘ fun (k : Nat) => Dt.int (0 + (k : Int))) = (fun k => some ((fun _ : Nat => x) k)) := rfl
  rw [e, List.filterMap_eq_map']
  simp [List.map_const']
theorem same_seq {S : Store} {k : Nat} {ds : List Dt} {x : Dt} (hx : x = .tup ds ∨ x = .lst ds) (hn : ds.length ≤ 100000) (ih : ∀ d ∈ ds, m_law_same k [d, d] S = .ok (.bl true) S) : Pe (m_law_same (k + 1) [x, x] S) (fun d S' => d = .bl true ∧ S' = S) X0 := by
  refine v_fn ?_
  unfold b_law_same
  have elem : ∀ (x : Dt) (j : Nat) (e1 : Dv.Env), (x = .tup ds ∨ x = .lst ds) → j < ds.length → e1 = [some x, some x, some (.int (0 + (j : Int)))] → Pe (mCall 2 (m_law_same k) (mCons (mOp mIx (mVar 0) (mVar 2)) (mCons (mOp mIx (mVar 1) (mVar 2)) mNil)) e1 S) (fun x S2 => S2 = S ∧ some (Dt.bl true) = some x) X0 := by
    intro x j e1 hx hj he
    subst he
    have ej : ds[j]? = some ds[j] := by simp [hj]
    have z : L2.atI ds (0 + (j : Int)) = some ds[j] := by
      rw [Int.zero_add]
      exact atI_in ej
    have zz : ixD S x (0 + (j : Int)) = some ds[j] := by rcases hx with rfl | rfl <;> exact z
    walk_at "dv"
    refine v_ix zz ?_
    walk_at "dv"
    refine v_ix zz ?_
    walk_at "dv"
    exact Pe.of (ih _ (List.getElem_mem hj)) ⟨rfl, rfl⟩
  have rest : ∀ {x : Dt} {en : Dv.Env} {Q : List Dt → Store → Prop} {X : Ex → Store → Prop}, (x = .tup ds ∨ x = .lst ds) → en = [some x, some x, none] → Q (List.replicate ds.length (.bl true)) S → Pe (cLoop (wNm 2) mYes
      (mCall 2 (m_law_same k) (mCons (mOp mIx (mVar 0) (mVar 2)) (mCons (mOp mIx (mVar 1) (mVar 2)) mNil))) en (rangeD 0 (ds.length : Int).toNat) [] S) Q X := by
    intro x en Q X hx he q
    subst he
    refine v_cloop (fun _ => some (.bl true)) (fun d hd => ?_) ?_ ?_
    · obtain ⟨j, hj, rfl⟩ := range_mem hd
      refine ⟨_, rfl, v_yes ⟨rfl, v_T ?_⟩⟩
      exact elem x j _ hx (by simpa using hj) rfl
    · simp [rangeD]
      omega
    · rw [List.nil_append, Int.toNat_natCast, range_const]
      exact q
  have fin : ∀ {Q : Dt → Store → Prop} {X : Ex → Store → Prop}, Q (.bl true) S → Pe (mAll [.lst (List.replicate ds.length (.bl true))] S) Q X := by
    intro Q X q
    unfold mAll
    simp only [asL, Option.bind_some, all_true]
    refine v_ok ?_
    have e : (List.replicate ds.length true).all (fun b => b) = true := by simp
    rw [e]
    exact q
  rcases hx with rfl | rfl
  · walk_at "dv"
    refine rest (.inl rfl) rfl ?_
    walk_at "dv"
    refine fin ?_
    walk_at "dv"
    rfl
  · walk_at "dv"
    refine rest (.inr rfl) rfl ?_
    walk_at "dv"
    refine fin ?_
    walk_at "dv"
    rfl
theorem same_int {S : Store} {k : Nat} {i : Int} : m_law_same (k + 1) [.int i, .int i] S = .ok (.bl true) S := by
  refine Pe.eq ?_
  refine v_fn ?_
  unfold b_law_same
  walk_at "dv"
  simp
/-! ### stores of pure objects, with others behind them -/
def pureO : Ob → Bool
  | .lst ds => ds.all (noRef 59)
  | .ins _ _ ds => ds.all (noRef 59)
  | .dct _ ds => ds.all (noRef 59)
  | .dkt _ ds => ds.all (noRef 59)
/-- closed: what is no plain value is an object of the same store -/
def closeD (n : Nat) (d : Dt) : Bool := noRef 59 d || match d with
  | .ref i => decide (i < n)
  | _ => false
def closeO (n : Nat) : Ob → Bool
  | .lst ds => ds.all (closeD n)
  | .ins _ _ ds => ds.all (closeD n)
  | .dct _ ds => ds.all (closeD n)
  | .dkt _ ds => ds.all (closeD n)
theorem close_of {n : Nat} {ds : List Dt} (h : ds.all (noRef 59) = true) : ds.all (closeD n) = true := List.all_eq_true.mpr fun d hd => by
  unfold closeD
  rw [List.all_eq_true.mp h d hd]
  rfl
theorem closeO_of {n : Nat} {o : Ob} (h : pureO o = true) : closeO n o = true := by
  cases o with
  | lst ds => exact close_of h
  | ins c ns ds => exact close_of h
  | dct ks ds => exact close_of h
  | dkt ks ds => exact close_of h
theorem closeD_up {n k : Nat} (hn : n ≤ k) {d : Dt} (h : closeD n d = true) : closeD k d = true := by
  unfold closeD at h ⊢
  rw [Bool.or_eq_true] at h ⊢
  rcases h with h | h
  · exact .inl h
  · refine .inr ?_
    cases d with
    | ref i => exact decide_eq_true (Nat.lt_of_lt_of_le (of_decide_eq_true h) hn)
    | _ => cases h
theorem closeO_up {n k : Nat} (hn : n ≤ k) {o : Ob} (h : closeO n o = true) : closeO k o = true := by
  cases o with
  | lst ds => exact List.all_eq_true.mpr fun d hd => closeD_up hn (List.all_eq_true.mp h d hd)
  | ins c ns ds => exact List.all_eq_true.mpr fun d hd => closeD_up hn (List.all_eq_true.mp h d hd)
  | dct ks ds => exact List.all_eq_true.mpr fun d hd => closeD_up hn (List.all_eq_true.mp h d hd)
  | dkt ks ds => exact List.all_eq_true.mpr fun d hd => closeD_up hn (List.all_eq_true.mp h d hd)
def PureS (S : Store) : Prop := ∀ o ∈ S, closeO S.length o = true
theorem PureS.add {S : Store} {o : Ob} (h : PureS S) (ho : closeO (S.length + 1) o = true) : PureS (S ++ [o]) := by
  have e : (S ++ [o]).length = S.length + 1 := by rw [List.length_append, List.length_singleton]
  intro x hx
  rw [e]
  rcases List.mem_append.mp hx with hx | hx
  · exact closeO_up (Nat.le_succ _) (h x hx)
  · rw [List.mem_singleton.mp hx]
    exact ho
theorem PureS.push {S : Store} {o : Ob} (h : PureS S) (ho : pureO o = true) : PureS (S ++ [o]) := h.add (closeO_of ho)
theorem PureS.put {S : Store} {k : Nat} {o : Ob} (h : PureS S) (ho : closeO S.length o = true) : PureS (S.set k o) := by
  intro x hx
  rw [List.length_set]
  rcases List.mem_or_eq_of_mem_set hx with hx | hx
  · exact h x hx
  · rw [hx]
    exact ho
theorem PureS.set {S : Store} {k : Nat} {o : Ob} (h : PureS S) (ho : pureO o = true) : PureS (S.set k o) := h.put (closeO_of ho)
/-- S with junk behind it -/
structure Jz (S T : Store) : Prop where
  le : S.length ≤ T.length
  eq : T.take S.length = S
theorem Jz.push {S T : Store} {o : Ob} (j : Jz S T) : Jz S (T ++ [o]) := ⟨by rw [List.length_append]; have := j.le; omega, by rw [List.take_append_of_le_length j.le]; exact j.eq⟩
theorem Jz.set {S T : Store} {k : Nat} {o : Ob} (j : Jz S T) (hk : S.length ≤ k) : Jz S (T.set k o) := ⟨by rw [List.length_set]; exact j.le, by rw [List.take_set_of_le hk]; exact j.eq⟩
/-- S, its flow drawn from, with junk behind it -/
structure Bz (i : Nat) (S T : Store) : Prop where
  lt : i < S.length
  le : S.length ≤ T.length
  fz : Fz i S (T.take S.length)
theorem FlowAt.lt {i : Nat} {S : Store} (h : FlowAt S i) : i < S.length := by
  obtain ⟨f, h1, _⟩ := h
  exact (List.getElem?_eq_some_iff.mp h1).1
theorem Bz.flow {i : Nat} {S T : Store} (b : Bz i S T) : FlowAt T i := by
  obtain ⟨f, h1, h2⟩ := b.fz.flow
  rw [List.getElem?_take_of_lt b.lt] at h1
  exact ⟨f, h1, h2⟩
theorem Bz.push {i : Nat} {S T : Store} {o : Ob} (b : Bz i S T) : Bz i S (T ++ [o]) := ⟨b.lt, by rw [List.length_append]; have := b.le; omega, by rw [List.take_append_of_le_length b.le]; exact b.fz⟩
theorem Bz.set {i : Nat} {S T : Store} {k : Nat} {o : Ob} (b : Bz i S T) (hk : S.length ≤ k) : Bz i S (T.set k o) := ⟨b.lt, by rw [List.length_set]; exact b.le, by rw [List.take_set_of_le hk]; exact b.fz⟩
/-! ### what a walk moves -/
theorem v_cc {g : Dt → Dv.Env → Option Dv.Env} {ta : Dv.Env → Store → R Bool} {me : Dv.Env → Store → R Dt} {en e1 : Dv.Env} {S : Store} {d : Dt} {ds acc : List Dt} {QA : List Dt → Store → Prop} {X : Ex → Store → Prop} (e : g d en = some e1)
    (h : Pe (ta e1 S) (fun b S1 => if b = true then Pe (me e1 S1) (fun x S2 => acc.length < 1000000 ∧ Pe (cLoop g ta me en ds (acc ++ [x]) S2) QA X) X0 else Pe (cLoop g ta me en ds acc S1) QA X) X0) : Pe (cLoop g ta me en (d :: ds) acc S) QA X := by
  unfold cLoop
  rw [e]
  dsimp only
  refine Pe.bind (Pe.nx (h.imp (fun b S1 k => ?_) fun _ _ z => z))
  cases b with
  | false => exact k
  | true =>
    rw [if_pos rfl] at k ⊢
    refine Pe.bind (Pe.nx (k.imp (fun x S2 ⟨hl, k2⟩ => ?_) fun _ _ z => z))
    rw [if_pos hl]
    exact k2
theorem v_cn {g : Dt → Dv.Env → Option Dv.Env} {ta : Dv.Env → Store → R Bool} {me : Dv.Env → Store → R Dt} {en : Dv.Env} {S : Store} {acc : List Dt} {QA : List Dt → Store → Prop} {X : Ex → Store → Prop} (q : QA acc S) : Pe (cLoop g ta me en [] acc S) QA X := q
theorem v_cmap {α : Type} {f g : α → Dt} {tg : Dt → Dv.Env → Option Dv.Env} {en : Dv.Env} (e1 : α → Dv.Env) {ta : Dv.Env → Store → R Bool} {me : Dv.Env → Store → R Dt} {S : Store} {QA : List Dt → Store → Prop} {X : Ex → Store → Prop} : ∀ (xs : List α) {acc : List Dt},
    (∀ a ∈ xs, tg (f a) en = some (e1 a) ∧ Pe (ta (e1 a) S) (fun b S1 => b = true ∧ S1 = S) X0 ∧ Pe (me (e1 a) S) (fun x S2 => x = g a ∧ S2 = S) X0) → acc.length + xs.length ≤ 100000 → QA (acc ++ xs.map g) S → Pe (cLoop tg ta me en (xs.map f) acc S) QA X
  | [], acc, _, _, q => by
    rw [List.map_nil, List.append_nil] at q
    exact v_cn q
  | a :: xs, acc, h, hl, q => by
    obtain ⟨h1, h2, h3⟩ := h a List.mem_cons_self
    rw [List.length_cons] at hl
    refine v_cc h1 (h2.imp (fun b S1 ⟨eb, eS⟩ => ?_) fun _ _ z => z)
    subst eb eS
    rw [if_pos rfl]
    refine h3.imp (fun x S2 ⟨ex, eS⟩ => ?_) fun _ _ z => z
    subst ex eS
    refine ⟨by omega, v_cmap e1 xs (fun b hb => h b (List.mem_cons_of_mem _ hb)) (by rw [List.length_append, List.length_singleton]; omega) ?_⟩
    rw [List.append_assoc]
    exact q
theorem str_eq (a b : Str) : (a == b) = decide (a = b) := by
  by_cases h : a = b
  · subst h
    rw [decide_eq_true rfl]
    exact beq_self_eq_true a
  · rw [decide_eq_false h]
    exact beq_eq_false_iff_ne.mpr h
theorem v_eqS {a b : Str} {S : Store} {Q : Dt → Store → Prop} {X : Ex → Store → Prop} (ha : PyData.strOk a = true) (hb : PyData.strOk b = true) (q : Q (.bl (decide (a = b))) S) : Pe (mEq (.str a) (.str b) S) Q X := by
  refine v_ifok ⟨ha, hb⟩ ?_
  show Q (.bl (a == b)) S
  rw [str_eq]
  exact q
/-! ### the same, told of bools, texts and rows -/
theorem same_bool {S : Store} {k : Nat} {b : Bool} : m_law_same (k + 1) [.bl b, .bl b] S = .ok (.bl true) S := by
  refine Pe.eq (v_fn ?_)
  unfold b_law_same
  walk_at "dv"
  exact ⟨by cases b <;> rfl, rfl⟩
theorem same_str {S : Store} {k : Nat} {s : Str} (h : PyData.strOk s = true) : m_law_same (k + 1) [.str s, .str s] S = .ok (.bl true) S := by
  refine Pe.eq (v_fn ?_)
  unfold b_law_same
  walk_at "dv"
  refine v_eqS h h ?_
  walk_at "dv"
  first | exact ⟨rfl, rfl⟩ | exact rfl | exact ⟨by simp, rfl⟩
/-! ### the same, told of any plain data -/
theorem same_non {S : Store} {k : Nat} : m_law_same (k + 1) [.non, .non] S = .ok (.bl true) S := by
  refine Pe.eq (v_fn ?_)
  unfold b_law_same
  walk_at "dv"
  first | exact ⟨rfl, rfl⟩ | exact rfl
def sok : Nat → Dt → Bool
  | 0, _ => false
  | k + 1, d => match d with
    | .non => true
    | .bl _ => true
    | .int _ => true
    | .str s => PyData.strOk s
    | .tup ds => decide (ds.length ≤ 100000) && ds.all (sok k)
    | .lst ds => decide (ds.length ≤ 100000) && ds.all (sok k)
    | _ => false
theorem same_all {S : Store} : ∀ (k : Nat) (d : Dt), sok k d = true → m_law_same k [d, d] S = .ok (.bl true) S
  | 0, _, h => nomatch h
  | k + 1, d, h => by
    unfold sok at h
    split at h
    · exact same_non
    · exact same_bool
    · exact same_int
    · exact same_str h
    · rename_i ds
      rw [Bool.and_eq_true] at h
      refine Pe.eq (same_seq (.inl rfl) (of_decide_eq_true h.1) fun d hd => same_all k d (List.all_eq_true.mp h.2 d hd))
    · rename_i ds
      rw [Bool.and_eq_true] at h
      refine Pe.eq (same_seq (.inr rfl) (of_decide_eq_true h.1) fun d hd => same_all k d (List.all_eq_true.mp h.2 d hd))
    · cases h
end Lw
set_option Elab.async false
set_option linter.all false
set_option maxRecDepth 100000
set_option maxHeartbeats 4000000
set_option autoImplicit false
namespace Lw
open PySem Dv
/-! steps of our own words -/
local macro_rules | `(tactic| walk_at "num") => `(tactic| first | assumption | decide | omega)
local macro_rules | `(tactic| walk_at "dv0") => `(tactic| with_reducible first
  | refine v_seq ?_ | refine v_ifS ?_ | refine v_set ?_ | refine v_ret ?_ | refine v_asg ?_ | refine v_par ?_ | refine v_drop ?_ | refine v_nx ?_ | refine v_bk ?_ | refine v_ct ?_ | refine v_retN ?_ | refine v_for ?_
  | refine v_c ?_ | refine v_nil ?_ | refine v_cons ?_ | refine v_op ?_ | refine v_B ?_ | refine v_truth ?_ | refine v_andT ?_ | refine v_orT ?_ | refine v_notT ?_
  | refine v_andV ?_ | refine v_orV ?_ | refine v_notV ?_ | refine v_if ?_ | refine v_neg ?_ | refine v_chain ?_ | refine v_tup ?_ | refine v_lst ?_ | refine v_lstR ?_ | refine v_noPart ?_ | refine v_part ?_ | refine v_sl ?_
  | refine v_CB ?_ | refine v_call ?_ | refine v_abs ?_ | refine v_lc ?_ | refine v_yes ?_ | refine v_it ?_ | refine v_rng1 ?_ | refine v_rng2 ?_ | refine v_rng3 ?_ | refine v_T ?_ | refine v_F ?_
  | refine v_add ?_ | refine v_sub ?_ | refine v_iadd ?_ | refine v_lt ?_ | refine v_le ?_ | refine v_gt ?_ | refine v_ge ?_ | refine v_eqI ?_ | refine v_neI ?_ | refine v_eqB ?_ | refine v_neB ?_)
local macro_rules | `(tactic| walk_at "dv1") => `(tactic| first
  | (with_reducible refine' v_var ?h ?_); (case h => rfl)
  | (with_reducible refine' v_aug ?h ?_); (case h => rfl)
  | (with_reducible refine' v_div ?h1 ?h2 ?_); (case h1 => walk_at "num"); (case h2 => walk_at "num")
  | (with_reducible refine' v_mod ?h1 ?_); (case h1 => walk_at "num")
  | (with_reducible refine' v_pow ?h1 ?_); (case h1 => walk_at "num")
  | (with_reducible refine' v_mulR ?h1 ?_); (case h1 => walk_at "num")
  | (with_reducible refine' v_mulL ?h1 ?_); (case h1 => walk_at "num")
  | (with_reducible refine' v_fin ?h1 ?_); (case h1 => first | exact Or.inl rfl | exact Or.inr rfl | (refine Or.inr ?_; simp only [List.length_set, *]; done))
  | (with_reducible refine' v_ix ?h1 ?_); (case h1 => first | exact ixD_ref (by assumption) (by rfl) | rfl)
  | (with_reducible refine' v_len ?h1 ?_); (case h1 => first | exact lenD_ref (by assumption) | rfl)
  | (with_reducible refine' v_list ?h1 ?_); (case h1 => rfl)
  | (with_reducible refine' v_listR ?h1 ?_); (case h1 => rfl)
  | (with_reducible refine' v_tuple ?h1 ?_); (case h1 => rfl)
  | (with_reducible refine' v_isd ?h1 ?_); (case h1 => rfl)
  | (with_reducible refine' v_isiTy ?h1 ?h2 ?_); (case h1 => rfl); (case h2 => rfl)
  | (with_reducible refine' v_isiT ?h1 ?_); (case h1 => rfl))
local macro_rules | `(tactic| walk_at "dv2") => `(tactic| first
  | refine v_gsub (by rfl) (by rfl) (by assumption) (by rfl) (fun _ _ _ => ?_) | refine ⟨_, rfl, ?_⟩ | (with_reducible refine' ⟨rng_ok ?h1 ?h2, ?_⟩); (case h1 => omega); (case h2 => omega) | refine ⟨rfl, ?_⟩ | refine ⟨_, _, rfl, ?_⟩ | refine ⟨Nat.le_of_ble_eq_true rfl, ?_⟩)
local macro_rules | `(tactic| walk_at "dv3") => `(tactic| first
  | (with_reducible refine' v_dec (fun _ => ?_) (fun hn => absurd ?h hn)); (case h => first | assumption | omega | decide)
  | (with_reducible refine' v_dec (fun hn => absurd hn ?h) (fun _ => ?_)); (case h => first | assumption | omega | decide)
  | (with_reducible refine' v_ndec (fun _ => ?_) (fun hn => absurd hn ?h)); (case h => first | assumption | omega | decide)
  | (with_reducible refine' v_ndec (fun hn => absurd ?h hn) (fun _ => ?_)); (case h => first | assumption | omega | decide)
  | (with_reducible refine' v_bT ?h ?_); (case h => first | assumption | rfl)
  | (with_reducible refine' v_bF ?h ?_); (case h => first | assumption | rfl))
local macro_rules | `(tactic| walk_at "dv4") => `(tactic| with_reducible first
  | refine v_places ?_ | refine v_roads ?_ | refine v_over ?_ | refine v_line ?_ | refine v_spots ?_ | refine v_myards ?_ | refine v_mroads ?_ | refine v_mW (by decide +kernel) ?_ | refine v_mK (by decide +kernel) ?_
  | refine v_itX ?_ | refine v_ev ?_ | refine v_rev ?_ | refine v_zs ?_ | refine v_enum ?_ | refine v_enum2 ?_ | refine v_makeV ?_ | refine v_tryN ?_ | refine v_lc2 ?_ | refine v_fz ?_ | refine v_make ?_ | refine v_fldS ?_)
local macro_rules | `(tactic| walk_at "dv5") => `(tactic| first
  | refine ⟨_, _, rfl, rfl, ?_⟩ | refine ⟨⟨_, _, rfl⟩, ?_⟩ | refine ⟨⟨_, _, _, rfl⟩, ?_⟩ | refine ⟨_, _, _, rfl, ?_⟩ | refine Or.inl ⟨_, rfl, ?_⟩ | refine Or.inr ⟨_, (fun _ z => by cases z), rfl, ?_⟩)
local macro_rules | `(tactic| walk_at "dv") => `(tactic| repeat (first | walk_at "dv0" | walk_at "dv4" | walk_at "dv1" | walk_at "dv3" | walk_at "dv2" | walk_at "dv5"))
/-! law_made_error in parts -/
def b_law_made_error_1 : Bd := (mRet (mOp mIx (mOp mAdd (mVar 3) (mLst (mCons (mMkE1 "NoYard" "noyard" "name" (mVar 2)) (mCons (mMkE1 "NoPassage" "nopassage" "name" (mVar 2)) (mCons (mMkE1 "NoWalk" "nowalk" "name" (mVar 2)) (mCons (mMkE0 "NothingLeft" "nothingleft") mNil)))))) (mOp mSub (mVar 0) (mC (.int 20)))))
def b_law_made_error_2 : Bd := (mRet (mOp mIx (mOp mAdd (mVar 3) (mLst (mCons (mMkE0 "NoWay" "noway") (mCons (mMkE0 "BadTerm" "badterm") (mCons (mMkE1 "BadText" "badtext" "at" (mVar 1)) mNil))))) (mOp mSub (mVar 0) (mC (.int 10)))))
def b_law_made_error_3 : Bd := (mSeq (mSet 3 (mLst (mCons (mMkE0 "NotMet" "notmet") (mCons (mMkE0 "NotHome" "nothome") (mCons (mMkE1 "BadExchange" "badexchange" "at" (mVar 1)) (mCons (mMkE0 "Strange" "strange") (mCons (mMkE0 "BadPlace" "badplace") (mCons (mMkE0 "Stays" "stays") (mCons (mMkE0 "Moves" "moves") mNil))))))))) b_law_made_error_2)
def b_law_made_error_4 : Bd := (mSeq (mSet 3 (mLst (mCons (mMkE1 "InUse" "inuse" "name" (mVar 2)) (mCons (mMkE0 "Ring" "ring") (mCons (mMkE1 "Breaks" "breaks" "name" (mVar 2)) (mCons (mMkE1 "BadDeed" "baddeed" "at" (mVar 1)) (mCons (mMkE0 "BadNumber" "badnumber") (mCons (mMkE1 "NoName" "noname" "name" (mVar 2)) mNil)))))))) b_law_made_error_1)
def b_law_made_error_5 : Bd := (mRet (mOp mIx (mOp mAdd (mVar 3) (mLst (mCons (mMkE1 "BadRow" "badrow" "at" (mVar 1)) (mCons (mMkE1 "Astray" "astray" "at" (mVar 1)) (mCons (mMkE0 "TooLong" "toolong") (mCons (mMkE0 "TooGreat" "toogreat") mNil)))))) (mVar 0)))
def b_law_made_error_6 : Bd := (mSeq (mSet 3 (mLst (mCons (mMkE1 "BadName" "badname" "name" (mVar 2)) (mCons (mMkE1 "Taken" "taken" "name" (mVar 2)) (mCons (mMkE1 "Full" "full" "many" (mVar 1)) (mCons (mMkE1 "BadTurns" "badturns" "number" (mVar 1)) (mCons (mMkE1 "Tied" "tied" "name" (mVar 2)) (mCons (mMkE0 "BadWay" "badway") mNil)))))))) b_law_made_error_5)
def b_law_made_error_7 : Bd := (mSeq (mIfS (mB (mOp mLt (mVar 0) (mC (.int 20)))) b_law_made_error_3 mNx) b_law_made_error_4)
def b_law_made_error_8 : Bd := (mSeq (mIfS (mB (mOp mLt (mVar 0) (mC (.int 10)))) b_law_made_error_6 mNx) b_law_made_error_7)
theorem b_law_made_error_eq : b_law_made_error = (mSeq (mSet 2 (mSlT (mC (.str "abcdefgh")) mNoPart (mPart (mOp mAdd (mC (.int 1)) (mOp mMod (mVar 1) (mC (.int 8))))))) b_law_made_error_8) := rfl
/-! ### the thirty exceptions -/
def rsv : RS → Option (Dt × Store)
  | .ok (.rt d) _ S => some (d, S)
  | _ => none
theorem rsv_of {r : RS} {d : Dt} {S : Store} (h : rsv r = some (d, S)) : ∃ en, r = .ok (.rt d) en S := by
  cases r with
  | ok f en T =>
    cases f with
    | rt x =>
      obtain ⟨rfl, rfl⟩ := Prod.mk.inj (Option.some.inj h)
      exact ⟨_, rfl⟩
    | _ => cases h
  | _ => cases h
def exA (f : Int) (nm : Str) : Nat → Dt
  | 0 => .exc "BadName" [("name", .str nm), ("word", .str "badname")]
  | 1 => .exc "Taken" [("name", .str nm), ("word", .str "taken")]
  | 2 => .exc "Full" [("many", .int f), ("word", .str "full")]
  | 3 => .exc "BadTurns" [("number", .int f), ("word", .str "badturns")]
  | 4 => .exc "Tied" [("name", .str nm), ("word", .str "tied")]
  | 5 => .exc "BadWay" [("word", .str "badway")]
  | 6 => .exc "BadRow" [("at", .int f), ("word", .str "badrow")]
  | 7 => .exc "Astray" [("at", .int f), ("word", .str "astray")]
  | 8 => .exc "TooLong" [("word", .str "toolong")]
  | 9 => .exc "TooGreat" [("word", .str "toogreat")]
  | 10 => .exc "NotMet" [("word", .str "notmet")]
  | 11 => .exc "NotHome" [("word", .str "nothome")]
  | 12 => .exc "BadExchange" [("at", .int f), ("word", .str "badexchange")]
  | 13 => .exc "Strange" [("word", .str "strange")]
  | 14 => .exc "BadPlace" [("word", .str "badplace")]
  | 15 => .exc "Stays" [("word", .str "stays")]
  | 16 => .exc "Moves" [("word", .str "moves")]
  | 17 => .exc "NoWay" [("word", .str "noway")]
  | 18 => .exc "BadTerm" [("word", .str "badterm")]
  | 19 => .exc "BadText" [("at", .int f), ("word", .str "badtext")]
  | 20 => .exc "InUse" [("name", .str nm), ("word", .str "inuse")]
  | 21 => .exc "Ring" [("word", .str "ring")]
  | 22 => .exc "Breaks" [("name", .str nm), ("word", .str "breaks")]
  | 23 => .exc "BadDeed" [("at", .int f), ("word", .str "baddeed")]
  | 24 => .exc "BadNumber" [("word", .str "badnumber")]
  | 25 => .exc "NoName" [("name", .str nm), ("word", .str "noname")]
  | 26 => .exc "NoYard" [("name", .str nm), ("word", .str "noyard")]
  | 27 => .exc "NoPassage" [("name", .str nm), ("word", .str "nopassage")]
  | 28 => .exc "NoWalk" [("name", .str nm), ("word", .str "nowalk")]
  | 29 => .exc "NothingLeft" [("word", .str "nothingleft")]
  | _ => .non
def wdS : List Str := ["badname", "taken", "full", "badturns", "tied", "badway", "badrow", "astray", "toolong", "toogreat", "notmet", "nothome", "badexchange", "strange", "badplace", "stays", "moves", "noway", "badterm", "badtext", "inuse", "ring", "breaks", "baddeed", "badnumber", "noname", "noyard", "nopassage", "nowalk", "nothingleft"]
abbrev wds : List Dt := wdS.map Dt.str
section
variable {S : Store} {f : Int} {nm : Str}
theorem rest_ok : ∀ k : Nat, k < 30 → rsv (b_law_made_error_8 [some (.int (k : Int)), some (.int f), some (.str nm), none] S) = some (exA f nm k, S)
  | 0, _ => by kernel_rfl
  | 1, _ => by kernel_rfl
  | 2, _ => by kernel_rfl
  | 3, _ => by kernel_rfl
  | 4, _ => by kernel_rfl
  | 5, _ => by kernel_rfl
  | 6, _ => by kernel_rfl
  | 7, _ => by kernel_rfl
  | 8, _ => by kernel_rfl
  | 9, _ => by kernel_rfl
  | 10, _ => by kernel_rfl
  | 11, _ => by kernel_rfl
  | 12, _ => by kernel_rfl
  | 13, _ => by kernel_rfl
  | 14, _ => by kernel_rfl
  | 15, _ => by kernel_rfl
  | 16, _ => by kernel_rfl
  | 17, _ => by kernel_rfl
  | 18, _ => by kernel_rfl
  | 19, _ => by kernel_rfl
  | 20, _ => by kernel_rfl
  | 21, _ => by kernel_rfl
  | 22, _ => by kernel_rfl
  | 23, _ => by kernel_rfl
  | 24, _ => by kernel_rfl
  | 25, _ => by kernel_rfl
  | 26, _ => by kernel_rfl
  | 27, _ => by kernel_rfl
  | 28, _ => by kernel_rfl
  | 29, _ => by kernel_rfl
  | n + 30, h => absurd h (by omega)
theorem made_ok {k : Nat} (hk : k < 30) : ∃ nm, m_law_made_error [.int (k : Int), .int f] S = .ok (exA f nm k) S := by
  refine ⟨cutT "abcdefgh" none (some (1 + f.fmod 8)), Pe.eq (v_fn ?_)⟩
  rw [b_law_made_error_eq]
  refine v_seq (v_set (v_slT (v_c (v_noPart (v_part (v_op (v_c (v_op (v_var rfl (v_c (v_mod (by decide) (v_add ⟨_, rfl, _, rfl, by decide +kernel, ?_⟩))))))))))))
  obtain ⟨en, e⟩ := rsv_of (rest_ok (S := S) (f := f) (nm := cutT "abcdefgh" none (some (1 + f.fmod 8))) k hk)
  show Ps (b_law_made_error_8 [some (.int (k : Int)), some (.int f), some (.str (cutT "abcdefgh" none (some (1 + f.fmod 8)))), none] S) _ _
  rw [e]
  exact v_sok (v_fin (.inr rfl) ⟨rfl, rfl⟩)
theorem flags0 : ∀ k : Nat, k < 30 → rsv (b_law_flags [some (exA f nm k), none] S) = some (.lst ((List.range 30).map fun j : Nat => .bl (decide (0 + (j : Int) = (k : Int)))), S)
  | 0, _ => by kernel_rfl
  | 1, _ => by kernel_rfl
  | 2, _ => by kernel_rfl
  | 3, _ => by kernel_rfl
  | 4, _ => by kernel_rfl
  | 5, _ => by kernel_rfl
  | 6, _ => by kernel_rfl
  | 7, _ => by kernel_rfl
  | 8, _ => by kernel_rfl
  | 9, _ => by kernel_rfl
  | 10, _ => by kernel_rfl
  | 11, _ => by kernel_rfl
  | 12, _ => by kernel_rfl
  | 13, _ => by kernel_rfl
  | 14, _ => by kernel_rfl
  | 15, _ => by kernel_rfl
  | 16, _ => by kernel_rfl
  | 17, _ => by kernel_rfl
  | 18, _ => by kernel_rfl
  | 19, _ => by kernel_rfl
  | 20, _ => by kernel_rfl
  | 21, _ => by kernel_rfl
  | 22, _ => by kernel_rfl
  | 23, _ => by kernel_rfl
  | 24, _ => by kernel_rfl
  | 25, _ => by kernel_rfl
  | 26, _ => by kernel_rfl
  | 27, _ => by kernel_rfl
  | 28, _ => by kernel_rfl
  | 29, _ => by kernel_rfl
  | n + 30, h => absurd h (by omega)
theorem flags_ok (k : Nat) (hk : k < 30) : m_law_flags [exA f nm k] S = .ok (.lst ((List.range 30).map fun j : Nat => .bl (decide (0 + (j : Int) = (k : Int))))) S := by
  refine Pe.eq (v_fn ?_)
  obtain ⟨en, e⟩ := rsv_of (flags0 (S := S) (f := f) (nm := nm) k hk)
  show Ps (b_law_flags [some (exA f nm k), none] S) _ _
  rw [e]
  exact v_sok (v_fin (.inr rfl) ⟨rfl, rfl⟩)
end
end Lw
set_option Elab.async false
set_option linter.all false
set_option maxRecDepth 100000
set_option maxHeartbeats 4000000
set_option autoImplicit false
namespace Lw
open PySem Dv
/-! steps of our own words -/
local macro_rules | `(tactic| walk_at "num") => `(tactic| first | assumption | decide | omega)
local macro_rules | `(tactic| walk_at "dv0") => `(tactic| with_reducible first
  | refine v_seq ?_ | refine v_ifS ?_ | refine v_set ?_ | refine v_ret ?_ | refine v_asg ?_ | refine v_par ?_ | refine v_drop ?_ | refine v_nx ?_ | refine v_bk ?_ | refine v_ct ?_ | refine v_retN ?_ | refine v_for ?_
  | refine v_c ?_ | refine v_nil ?_ | refine v_cons ?_ | refine v_op ?_ | refine v_B ?_ | refine v_truth ?_ | refine v_andT ?_ | refine v_orT ?_ | refine v_notT ?_
  | refine v_andV ?_ | refine v_orV ?_ | refine v_notV ?_ | refine v_if ?_ | refine v_neg ?_ | refine v_chain ?_ | refine v_tup ?_ | refine v_lst ?_ | refine v_lstR ?_ | refine v_noPart ?_ | refine v_part ?_ | refine v_sl ?_
  | refine v_CB ?_ | refine v_call ?_ | refine v_abs ?_ | refine v_lc ?_ | refine v_yes ?_ | refine v_it ?_ | refine v_rng1 ?_ | refine v_rng2 ?_ | refine v_rng3 ?_ | refine v_T ?_ | refine v_F ?_
  | refine v_add ?_ | refine v_sub ?_ | refine v_iadd ?_ | refine v_lt ?_ | refine v_le ?_ | refine v_gt ?_ | refine v_ge ?_ | refine v_eqI ?_ | refine v_neI ?_ | refine v_eqB ?_ | refine v_neB ?_)
local macro_rules | `(tactic| walk_at "dv1") => `(tactic| first
  | (with_reducible refine' v_var ?h ?_); (case h => rfl)
  | (with_reducible refine' v_aug ?h ?_); (case h => rfl)
  | (with_reducible refine' v_div ?h1 ?h2 ?_); (case h1 => walk_at "num"); (case h2 => walk_at "num")
  | (with_reducible refine' v_mod ?h1 ?_); (case h1 => walk_at "num")
  | (with_reducible refine' v_pow ?h1 ?_); (case h1 => walk_at "num")
  | (with_reducible refine' v_mulR ?h1 ?_); (case h1 => walk_at "num")
  | (with_reducible refine' v_mulL ?h1 ?_); (case h1 => walk_at "num")
  | (with_reducible refine' v_fin ?h1 ?_); (case h1 => first | exact Or.inl rfl | exact Or.inr rfl | (refine Or.inr ?_; simp only [List.length_set, *]; done))
  | (with_reducible refine' v_ix ?h1 ?_); (case h1 => first | exact ixD_ref (by assumption) (by rfl) | rfl)
  | (with_reducible refine' v_len ?h1 ?_); (case h1 => first | exact lenD_ref (by assumption) | rfl)
  | (with_reducible refine' v_list ?h1 ?_); (case h1 => rfl)
  | (with_reducible refine' v_listR ?h1 ?_); (case h1 => rfl)
  | (with_reducible refine' v_tuple ?h1 ?_); (case h1 => rfl)
  | (with_reducible refine' v_isd ?h1 ?_); (case h1 => rfl)
  | (with_reducible refine' v_isiTy ?h1 ?h2 ?_); (case h1 => rfl); (case h2 => rfl)
  | (with_reducible refine' v_isiT ?h1 ?_); (case h1 => rfl))
local macro_rules | `(tactic| walk_at "dv2") => `(tactic| first
  | refine v_gsub (by rfl) (by rfl) (by assumption) (by rfl) (fun _ _ _ => ?_) | refine ⟨_, rfl, ?_⟩ | (with_reducible refine' ⟨rng_ok ?h1 ?h2, ?_⟩); (case h1 => omega); (case h2 => omega) | refine ⟨rfl, ?_⟩ | refine ⟨_, _, rfl, ?_⟩ | refine ⟨Nat.le_of_ble_eq_true rfl, ?_⟩)
local macro_rules | `(tactic| walk_at "dv3") => `(tactic| first
  | (with_reducible refine' v_dec (fun _ => ?_) (fun hn => absurd ?h hn)); (case h => first | assumption | omega | decide)
  | (with_reducible refine' v_dec (fun hn => absurd hn ?h) (fun _ => ?_)); (case h => first | assumption | omega | decide)
  | (with_reducible refine' v_ndec (fun _ => ?_) (fun hn => absurd hn ?h)); (case h => first | assumption | omega | decide)
  | (with_reducible refine' v_ndec (fun hn => absurd ?h hn) (fun _ => ?_)); (case h => first | assumption | omega | decide)
  | (with_reducible refine' v_bT ?h ?_); (case h => first | assumption | rfl)
  | (with_reducible refine' v_bF ?h ?_); (case h => first | assumption | rfl))
local macro_rules | `(tactic| walk_at "dv4") => `(tactic| with_reducible first
  | refine v_places ?_ | refine v_roads ?_ | refine v_over ?_ | refine v_line ?_ | refine v_spots ?_ | refine v_myards ?_ | refine v_mroads ?_ | refine v_mW (by decide +kernel) ?_ | refine v_mK (by decide +kernel) ?_
  | refine v_itX ?_ | refine v_ev ?_ | refine v_rev ?_ | refine v_zs ?_ | refine v_enum ?_ | refine v_enum2 ?_ | refine v_makeV ?_ | refine v_tryN ?_ | refine v_lc2 ?_ | refine v_fz ?_ | refine v_make ?_ | refine v_fldS ?_)
local macro_rules | `(tactic| walk_at "dv5") => `(tactic| first
  | refine ⟨_, _, rfl, rfl, ?_⟩ | refine ⟨⟨_, _, rfl⟩, ?_⟩ | refine ⟨⟨_, _, _, rfl⟩, ?_⟩ | refine ⟨_, _, _, rfl, ?_⟩ | refine Or.inl ⟨_, rfl, ?_⟩ | refine Or.inr ⟨_, (fun _ z => by cases z), rfl, ?_⟩)
local macro_rules | `(tactic| walk_at "dv") => `(tactic| repeat (first | walk_at "dv0" | walk_at "dv4" | walk_at "dv1" | walk_at "dv3" | walk_at "dv2" | walk_at "dv5"))
/-! law in parts -/
def b_law_1 : Bd := (mRet (mCall 2 (m_law_same 20) (mCons (mVar 10) (mCons (mLst (mCons (mVar 4) (mCons (mVar 4) (mCons (mC (.str "a")) (mCons (mVar 4) (mCons (mVar 4) (mCons (mVar 4) (mCons (mVar 4) (mCons (mC (.str "b")) (mCons (mC (.str "c")) (mCons (mVar 4) mNil))))))))))) mNil))))
def b_law_2 : Bd := (mSeq (mSet 10 (mOp mAdd (mVar 10) (mLst (mCons (mXFld ["Breaks"] "name" (mMkE1 "Breaks" "breaks" "name" (mC (.str "b")))) (mCons (mXFld ["NoWalk"] "name" (mMkE1 "NoWalk" "nowalk" "name" (mC (.str "c")))) (mCons (mXFld ["Astray"] "at" (mMkE1 "Astray" "astray" "at" (mVar 4))) mNil)))))) b_law_1)
def b_law_3 : Bd := (mSeq (mSet 10 (mOp mAdd (mVar 10) (mLst (mCons (mXFld ["BadText"] "at" (mMkE1 "BadText" "badtext" "at" (mVar 4))) (mCons (mXFld ["BadExchange"] "at" (mMkE1 "BadExchange" "badexchange" "at" (mVar 4))) (mCons (mXFld ["BadDeed"] "at" (mMkE1 "BadDeed" "baddeed" "at" (mVar 4))) mNil)))))) b_law_2)
def b_law_4 : Bd := (mIfS (mNotT (mTruth (mCall 2 (m_law_same 20) (mCons (mVar 9) (mCons (mLst (mCons (mOp mLt (mVar 6) (mC (.int 25))) (mCons (mOp mLt (mVar 6) (mC (.int 25))) (mCons (mChain mLt mLt (mC (.int 24)) (mVar 6) (mC (.int 29))) (mCons (mOp mGt (mVar 6) (mC (.int 24))) (mCons (mOp mEq (mVar 6) (mC (.int 29))) mNil)))))) mNil))))) (mRet (mC (.bl false))) mNx)
def b_law_5 : Bd := (mSeq (mIfS (mNotT (mTruth (mCall 2 (m_law_same 20) (mCons (mXFld ["BadName", "Taken", "Full", "BadTurns", "Tied", "BadWay", "BadRow", "Astray", "TooLong", "TooGreat", "NotMet", "NotHome", "BadExchange", "Strange", "BadPlace", "Stays", "Moves", "NoWay", "BadTerm", "BadText", "InUse", "Ring", "Breaks", "BadDeed", "BadNumber", "Missing", "NoName", "NoYard", "NoPassage", "NoWalk", "NothingLeft"] "word" (mVar 7)) (mCons (mOp mIx (mVar 2) (mVar 6)) mNil))))) (mRet (mC (.bl false))) mNx) b_law_4)
def b_law_6 : Bd := (mSeq (mSet 9 (mOp mAdd (mVar 9) (mLst (mCons (mIsE ["Missing", "NoName", "NoYard", "NoPassage", "NoWalk", "NothingLeft"] (mVar 7)) (mCons (mIsE ["NothingLeft"] (mVar 7)) mNil))))) b_law_5)
def b_law_7 : Bd := (mSeq (mSet 9 (mLst (mCons (mIsE ["BadName", "Taken", "Full", "BadTurns", "Tied", "BadWay", "BadRow", "Astray", "TooLong", "TooGreat", "NotMet", "NotHome", "BadExchange", "Strange", "BadPlace", "Stays", "Moves", "NoWay", "BadTerm", "BadText", "InUse", "Ring", "Breaks", "BadDeed", "BadNumber"] (mVar 7)) (mCons (mIsE ["BadName", "Taken", "Full", "BadTurns", "Tied", "BadWay", "BadRow", "Astray", "TooLong", "TooGreat", "NotMet", "NotHome", "BadExchange", "Strange", "BadPlace", "Stays", "Moves", "NoWay", "BadTerm", "BadText", "InUse", "Ring", "Breaks", "BadDeed", "BadNumber"] (mVar 7)) (mCons (mIsE ["Missing", "NoName", "NoYard", "NoPassage", "NoWalk"] (mVar 7)) mNil))))) b_law_6)
def b_law_8 : Bd := (mSeq (mIfS (mNotT (mTruth (mCall 2 (m_law_same 20) (mCons (mCall 1 m_law_flags (mCons (mVar 7) mNil)) (mCons (mLc [8] (mRng1 (mCons (mC (.int 30)) mNil)) (wNm 8) mYes (mOp mEq (mVar 8) (mVar 6))) mNil))))) (mRet (mC (.bl false))) mNx) b_law_7)
def b_law_9 : Bd := (mSeq (mSet 7 (mCall 2 m_law_made_error (mCons (mVar 6) (mCons (mVar 4) mNil)))) b_law_8)
def b_law_10 : Bd := (mSeq (mSet 6 (mOp mMod (mOp mAdd (mVar 3) (mVar 5)) (mC (.int 30)))) b_law_9)
def b_law_11 : Bd := (mSeq (mSet 10 (mLst (mCons (mXFld ["Full"] "many" (mMkE1 "Full" "full" "many" (mVar 4))) (mCons (mXFld ["BadTurns"] "number" (mMkE1 "BadTurns" "badturns" "number" (mVar 4))) (mCons (mXFld ["Tied"] "name" (mMkE1 "Tied" "tied" "name" (mC (.str "a")))) (mCons (mXFld ["BadRow"] "at" (mMkE1 "BadRow" "badrow" "at" (mVar 4))) mNil)))))) b_law_3)
def b_law_12 : Bd := (mSeq (mFor (mRng1 (mCons (mC (.int 30)) mNil)) (gNm 5) b_law_10) b_law_11)
def b_law_13 : Bd := (mSeq (mSet 4 (mCall 2 m_law_draw (mCons (mVar 1) (mCons (mOp mPow (mC (.int 10)) (mC (.int 20))) mNil)))) b_law_12)
def b_law_14 : Bd := (mSeq (mSet 3 (mCall 2 m_law_draw (mCons (mVar 1) (mCons (mC (.int 30)) mNil)))) b_law_13)
def b_law_15 : Bd := (mSeq (mSet 2 (mSplit (mOp mAdd (mVar 2) (mC (.str "nothingleft"))) (mC (.str " ")))) b_law_14)
def b_law_16 : Bd := (mSeq (mSet 2 (mOp mAdd (mVar 2) (mC (.str "inuse ring breaks baddeed badnumber noname noyard nopassage nowalk ")))) b_law_15)
def b_law_17 : Bd := (mSeq (mSet 2 (mOp mAdd (mVar 2) (mC (.str "nothome badexchange strange badplace stays moves noway badterm badtext ")))) b_law_16)
def b_law_18 : Bd := (mSeq (mSet 2 (mC (.str "badname taken full badturns tied badway badrow astray toolong toogreat notmet "))) b_law_17)
theorem b_law_eq : b_law = (mSeq (mSet 1 (mCall 1 m_law_flow (mCons (mVar 0) mNil))) b_law_18) := rfl
/-! ### the turns -/
section
variable {S : Store} {f : Int} {nm : Str}
def wdD (k : Nat) : Dt := wds.getD k .non
def kinD (k : Nat) : Dt := .lst [.bl (decide ((k : Int) < 25)), .bl (decide ((k : Int) < 25)), .bl (decide (24 < (k : Int)) && decide ((k : Int) < 29)), .bl (decide ((k : Int) > 24)), .bl (decide ((k : Int) = 29))]
theorem kin0 : ∀ (k : Nat), k < 30 → ∀ (x0 x1 x3 x5 x8 x9 x10 : Option Dt), b_law_7 [x0, x1, some (.lst wds), x3, some (.int f), x5, some (.int (k : Int)), some (exA f nm k), x8, x9, x10] S = b_law_5 [x0, x1, some (.lst wds), x3, some (.int f), x5, some (.int (k : Int)), some (exA f nm k), x8, some (kinD k), x10] S
  | 0, _ => fun _ _ _ _ _ _ _ => by kernel_rfl
  | 1, _ => fun _ _ _ _ _ _ _ => by kernel_rfl
  | 2, _ => fun _ _ _ _ _ _ _ => by kernel_rfl
  | 3, _ => fun _ _ _ _ _ _ _ => by kernel_rfl
  | 4, _ => fun _ _ _ _ _ _ _ => by kernel_rfl
  | 5, _ => fun _ _ _ _ _ _ _ => by kernel_rfl
  | 6, _ => fun _ _ _ _ _ _ _ => by kernel_rfl
  | 7, _ => fun _ _ _ _ _ _ _ => by kernel_rfl
  | 8, _ => fun _ _ _ _ _ _ _ => by kernel_rfl
  | 9, _ => fun _ _ _ _ _ _ _ => by kernel_rfl
  | 10, _ => fun _ _ _ _ _ _ _ => by kernel_rfl
  | 11, _ => fun _ _ _ _ _ _ _ => by kernel_rfl
  | 12, _ => fun _ _ _ _ _ _ _ => by kernel_rfl
  | 13, _ => fun _ _ _ _ _ _ _ => by kernel_rfl
  | 14, _ => fun _ _ _ _ _ _ _ => by kernel_rfl
  | 15, _ => fun _ _ _ _ _ _ _ => by kernel_rfl
  | 16, _ => fun _ _ _ _ _ _ _ => by kernel_rfl
  | 17, _ => fun _ _ _ _ _ _ _ => by kernel_rfl
  | 18, _ => fun _ _ _ _ _ _ _ => by kernel_rfl
  | 19, _ => fun _ _ _ _ _ _ _ => by kernel_rfl
  | 20, _ => fun _ _ _ _ _ _ _ => by kernel_rfl
  | 21, _ => fun _ _ _ _ _ _ _ => by kernel_rfl
  | 22, _ => fun _ _ _ _ _ _ _ => by kernel_rfl
  | 23, _ => fun _ _ _ _ _ _ _ => by kernel_rfl
  | 24, _ => fun _ _ _ _ _ _ _ => by kernel_rfl
  | 25, _ => fun _ _ _ _ _ _ _ => by kernel_rfl
  | 26, _ => fun _ _ _ _ _ _ _ => by kernel_rfl
  | 27, _ => fun _ _ _ _ _ _ _ => by kernel_rfl
  | 28, _ => fun _ _ _ _ _ _ _ => by kernel_rfl
  | 29, _ => fun _ _ _ _ _ _ _ => by kernel_rfl
  | n + 30, h => absurd h (by omega)
theorem words0 : ∀ (k : Nat), k < 30 → ∀ (x0 x1 x3 x5 x8 x9 x10 : Option Dt), (mCons (mXFld ["BadName", "Taken", "Full", "BadTurns", "Tied", "BadWay", "BadRow", "Astray", "TooLong", "TooGreat", "NotMet", "NotHome", "BadExchange", "Strange", "BadPlace", "Stays", "Moves", "NoWay", "BadTerm", "BadText", "InUse", "Ring", "Breaks", "BadDeed", "BadNumber", "Missing", "NoName", "NoYard", "NoPassage", "NoWalk", "NothingLeft"] "word" (mVar 7)) (mCons (mOp mIx (mVar 2) (mVar 6)) mNil)) [x0, x1, some (.lst wds), x3, some (.int f), x5, some (.int (k : Int)), some (exA f nm k), x8, x9, x10] S = .ok [wdD k, wdD k] S
  | 0, _ => fun _ _ _ _ _ _ _ => by kernel_rfl
  | 1, _ => fun _ _ _ _ _ _ _ => by kernel_rfl
  | 2, _ => fun _ _ _ _ _ _ _ => by kernel_rfl
  | 3, _ => fun _ _ _ _ _ _ _ => by kernel_rfl
  | 4, _ => fun _ _ _ _ _ _ _ => by kernel_rfl
  | 5, _ => fun _ _ _ _ _ _ _ => by kernel_rfl
  | 6, _ => fun _ _ _ _ _ _ _ => by kernel_rfl
  | 7, _ => fun _ _ _ _ _ _ _ => by kernel_rfl
  | 8, _ => fun _ _ _ _ _ _ _ => by kernel_rfl
  | 9, _ => fun _ _ _ _ _ _ _ => by kernel_rfl
  | 10, _ => fun _ _ _ _ _ _ _ => by kernel_rfl
  | 11, _ => fun _ _ _ _ _ _ _ => by kernel_rfl
  | 12, _ => fun _ _ _ _ _ _ _ => by kernel_rfl
  | 13, _ => fun _ _ _ _ _ _ _ => by kernel_rfl
  | 14, _ => fun _ _ _ _ _ _ _ => by kernel_rfl
  | 15, _ => fun _ _ _ _ _ _ _ => by kernel_rfl
  | 16, _ => fun _ _ _ _ _ _ _ => by kernel_rfl
  | 17, _ => fun _ _ _ _ _ _ _ => by kernel_rfl
  | 18, _ => fun _ _ _ _ _ _ _ => by kernel_rfl
  | 19, _ => fun _ _ _ _ _ _ _ => by kernel_rfl
  | 20, _ => fun _ _ _ _ _ _ _ => by kernel_rfl
  | 21, _ => fun _ _ _ _ _ _ _ => by kernel_rfl
  | 22, _ => fun _ _ _ _ _ _ _ => by kernel_rfl
  | 23, _ => fun _ _ _ _ _ _ _ => by kernel_rfl
  | 24, _ => fun _ _ _ _ _ _ _ => by kernel_rfl
  | 25, _ => fun _ _ _ _ _ _ _ => by kernel_rfl
  | 26, _ => fun _ _ _ _ _ _ _ => by kernel_rfl
  | 27, _ => fun _ _ _ _ _ _ _ => by kernel_rfl
  | 28, _ => fun _ _ _ _ _ _ _ => by kernel_rfl
  | 29, _ => fun _ _ _ _ _ _ _ => by kernel_rfl
  | n + 30, h => absurd h (by omega)
theorem due0 : ∀ (k : Nat), k < 30 → ∀ (x0 x1 x3 x5 x8 x10 : Option Dt), (mCons (mVar 9) (mCons (mLst (mCons (mOp mLt (mVar 6) (mC (.int 25))) (mCons (mOp mLt (mVar 6) (mC (.int 25))) (mCons (mChain mLt mLt (mC (.int 24)) (mVar 6) (mC (.int 29))) (mCons (mOp mGt (mVar 6) (mC (.int 24))) (mCons (mOp mEq (mVar 6) (mC (.int 29))) mNil)))))) mNil)) [x0, x1, some (.lst wds), x3, some (.int f), x5, some (.int (k : Int)), some (exA f nm k), x8, some (kinD k), x10] S = .ok [kinD k, kinD k] S
  | 0, _ => fun _ _ _ _ _ _ => by kernel_rfl
  | 1, _ => fun _ _ _ _ _ _ => by kernel_rfl
  | 2, _ => fun _ _ _ _ _ _ => by kernel_rfl
  | 3, _ => fun _ _ _ _ _ _ => by kernel_rfl
  | 4, _ => fun _ _ _ _ _ _ => by kernel_rfl
  | 5, _ => fun _ _ _ _ _ _ => by kernel_rfl
  | 6, _ => fun _ _ _ _ _ _ => by kernel_rfl
  | 7, _ => fun _ _ _ _ _ _ => by kernel_rfl
  | 8, _ => fun _ _ _ _ _ _ => by kernel_rfl
  | 9, _ => fun _ _ _ _ _ _ => by kernel_rfl
  | 10, _ => fun _ _ _ _ _ _ => by kernel_rfl
  | 11, _ => fun _ _ _ _ _ _ => by kernel_rfl
  | 12, _ => fun _ _ _ _ _ _ => by kernel_rfl
  | 13, _ => fun _ _ _ _ _ _ => by kernel_rfl
  | 14, _ => fun _ _ _ _ _ _ => by kernel_rfl
  | 15, _ => fun _ _ _ _ _ _ => by kernel_rfl
  | 16, _ => fun _ _ _ _ _ _ => by kernel_rfl
  | 17, _ => fun _ _ _ _ _ _ => by kernel_rfl
  | 18, _ => fun _ _ _ _ _ _ => by kernel_rfl
  | 19, _ => fun _ _ _ _ _ _ => by kernel_rfl
  | 20, _ => fun _ _ _ _ _ _ => by kernel_rfl
  | 21, _ => fun _ _ _ _ _ _ => by kernel_rfl
  | 22, _ => fun _ _ _ _ _ _ => by kernel_rfl
  | 23, _ => fun _ _ _ _ _ _ => by kernel_rfl
  | 24, _ => fun _ _ _ _ _ _ => by kernel_rfl
  | 25, _ => fun _ _ _ _ _ _ => by kernel_rfl
  | 26, _ => fun _ _ _ _ _ _ => by kernel_rfl
  | 27, _ => fun _ _ _ _ _ _ => by kernel_rfl
  | 28, _ => fun _ _ _ _ _ _ => by kernel_rfl
  | 29, _ => fun _ _ _ _ _ _ => by kernel_rfl
  | n + 30, h => absurd h (by omega)
theorem wd_sok : ∀ k : Nat, k < 30 → sok 20 (wdD k) = true := by decide +kernel
theorem kin_sok (k : Nat) : sok 20 (kinD k) = true := rfl
theorem tail_ok {QS : Fl → Dv.Env → Store → Prop} {XS : Ex → Dv.Env → Store → Prop} (k : Nat) (hk : k < 30) (x0 x1 x3 x5 x8 x9 x10 : Option Dt) (q : ∀ y9, QS .nx [x0, x1, some (.lst wds), x3, some (.int f), x5, some (.int (k : Int)), some (exA f nm k), x8, y9, x10] S) : Ps (b_law_7 [x0, x1, some (.lst wds), x3, some (.int f), x5, some (.int (k : Int)), some (exA f nm k), x8, x9, x10] S) QS XS := by
  rw [kin0 k hk]
  unfold b_law_5
  refine v_seq (v_ifS (v_notT (v_truth (v_call (Pe.of (words0 k hk x0 x1 x3 x5 x8 _ x10) ⟨rfl, Pe.of (same_all 20 _ (wd_sok k hk)) ⟨true, rfl, v_F (v_nx ?_)⟩⟩)))))
  unfold b_law_4
  refine v_ifS (v_notT (v_truth (v_call (Pe.of (due0 k hk x0 x1 x3 x5 x8 x10) ⟨rfl, Pe.of (same_all 20 _ (kin_sok k)) ⟨true, rfl, v_F (v_nx ?_)⟩⟩))))
  exact q _
theorem same_flags {k : Nat} : m_law_same 20 [.lst ((List.range 30).map fun j : Nat => .bl (decide (0 + (j : Int) = (k : Int)))), .lst ((List.range 30).map fun j : Nat => .bl (decide (0 + (j : Int) = (k : Int))))] S = .ok (.bl true) S := by
  refine Pe.eq (same_seq (k := 19) (.inr rfl) (by rw [List.length_map, List.length_range]; decide) fun d hd => ?_)
  obtain ⟨j, _, rfl⟩ := List.mem_map.mp hd
  exact same_bool
theorem same_last : m_law_same 20 [.lst [.int f, .int f, .str "a", .int f, .int f, .int f, .int f, .str "b", .str "c", .int f], .lst [.int f, .int f, .str "a", .int f, .int f, .int f, .int f, .str "b", .str "c", .int f]] S = .ok (.bl true) S := by
  refine Pe.eq (same_seq (k := 19) (.inr rfl) (Nat.le_of_ble_eq_true rfl) fun d hd => ?_)
  simp only [List.mem_cons, List.not_mem_nil, or_false] at hd
  rcases hd with rfl | rfl | rfl | rfl | rfl | rfl | rfl | rfl | rfl | rfl <;> first | exact same_int | exact same_str (by decide +kernel)
theorem split_ok : (Txt.split (("badname taken full badturns tied badway badrow astray toolong toogreat notmet " : Str) ++ "nothome badexchange strange badplace stays moves noway badterm badtext " ++ "inuse ring breaks baddeed badnumber noname noyard nopassage nowalk " ++ "nothingleft") " ") = wdS := by decide +kernel
theorem cmp_ok (n : Nat) (hn : n ≤ 1000) {R : List Dt} (hR : R = rangeD 0 n) {k : Nat} {x0 x1 x2 x3 x4 x5 x7 x9 x10 : Option Dt} {QA : List Dt → Store → Prop} {X : Ex → Store → Prop} (q : QA ((List.range n).map fun j : Nat => Dt.bl (decide (0 + (j : Int) = (k : Int)))) S) :
    Pe (cLoop (wNm 8) mYes (mOp mEq (mVar 8) (mVar 6)) [x0, x1, x2, x3, x4, x5, some (.int (k : Int)), x7, none, x9, x10] R [] S) QA X := by
  subst hR
  unfold rangeD
  refine v_cmap (f := fun j : Nat => Dt.int (0 + (j : Int))) (g := fun j => .bl (decide (0 + (j : Int) = (k : Int)))) (fun i => [x0, x1, x2, x3, x4, x5, some (.int (k : Int)), x7, some (.int (0 + (i : Int))), x9, x10]) (List.range n) (fun i _ => ⟨rfl, v_yes ⟨rfl, rfl⟩, v_op (v_var rfl (v_var rfl (v_ifok ⟨rfl, rfl⟩ ⟨rfl, rfl⟩)))⟩) (by simp; omega) ?_
  rw [List.nil_append]
  exact q
theorem v_addS {a b : Str} {Q : Dt → Store → Prop} {X : Ex → Store → Prop} (h : a.length + b.length ≤ 100000) (q : Q (.str (a ++ b)) S) : Pe (mAdd (.str a) (.str b) S) Q X := v_ifok h q
theorem v_spl {mo me : Dv.Env → Store → R Dt} {en : Dv.Env} {Q : Dt → Store → Prop} {Z : Ex → Store → Prop} (h : Pe (mo en S) (fun x S1 => ∃ a, x = .str a ∧ Pe (me en S1) (fun y S2 => ∃ b, y = .str b ∧ ((b.length == 0) = false ∧ a.length ≤ 100000) ∧ Q (.lst ((Txt.split a b).map Dt.str)) S2) Z) Z) : Pe (mSplit mo me en S) Q Z := by
  refine Pe.bind (h.imp (fun x S1 ⟨a, e, k⟩ => ?_) fun _ _ z => z)
  subst e
  dsimp only
  refine Pe.bind (k.imp (fun y S2 ⟨b, e, c, q⟩ => ?_) fun _ _ z => z)
  subst e
  dsimp only
  rw [if_pos c]
  exact q
theorem last_ok (x0 x1 x2 x3 x5 x6 x7 x8 x9 x10 : Option Dt) : b_law_11 [x0, x1, x2, x3, some (.int f), x5, x6, x7, x8, x9, x10] S = b_law_1 [x0, x1, x2, x3, some (.int f), x5, x6, x7, x8, x9, some (.lst [.int f, .int f, .str "a", .int f, .int f, .int f, .int f, .str "b", .str "c", .int f])] S := by kernel_rfl
abbrev flD (k : Nat) : Dt := .lst ((List.range 30).map fun j : Nat => .bl (decide (0 + (j : Int) = (k : Int))))
theorem lc_N (N : Nat) (hN : N ≤ 1000) {k : Nat} {x0 x1 x2 x3 x4 x5 x7 x9 x10 : Option Dt} {x8 : Option Dt} : mLc [8] (mRng1 (mCons (mC (.int (N : Int))) mNil)) (wNm 8) mYes (mOp mEq (mVar 8) (mVar 6)) [x0, x1, x2, x3, x4, x5, some (.int (k : Int)), x7, x8, x9, x10] S = .ok (.lst ((List.range N).map fun j : Nat => .bl (decide (0 + (j : Int) = (k : Int))))) S := by
  refine Pe.eq ?_
  refine v_lc ?_
  refine v_rng1 ?_
  refine v_cons (v_c (v_nil ?_))
  refine ⟨(N : Int), rfl, rng_iff.mpr (by omega), ?_⟩
  rw [Int.toNat_natCast]
  exact cmp_ok N hN rfl ⟨rfl, rfl⟩
theorem lc_ok {k : Nat} {x0 x1 x2 x3 x4 x5 x7 x9 x10 : Option Dt} {x8 : Option Dt} : mLc [8] (mRng1 (mCons (mC (.int 30)) mNil)) (wNm 8) mYes (mOp mEq (mVar 8) (mVar 6)) [x0, x1, x2, x3, x4, x5, some (.int (k : Int)), x7, x8, x9, x10] S = .ok (flD k) S := lc_N 30 (by decide)
theorem args0 {k : Nat} (hk : k < 30) (x0 x1 x2 x3 x4 x5 x8 x9 x10 : Option Dt) : (mCons (mCall 1 m_law_flags (mCons (mVar 7) mNil)) (mCons (mLc [8] (mRng1 (mCons (mC (.int 30)) mNil)) (wNm 8) mYes (mOp mEq (mVar 8) (mVar 6))) mNil)) [x0, x1, x2, x3, x4, x5, some (.int (k : Int)), some (exA f nm k), x8, x9, x10] S = .ok [flD k, flD k] S := by
  refine Pe.eq ?_
  refine v_cons (v_call (v_cons (v_var rfl (v_nil ⟨rfl, ?_⟩))))
  refine Pe.of (flags_ok k hk) ?_
  refine v_cons ?_
  refine Pe.of lc_ok ?_
  exact v_nil ⟨rfl, rfl⟩
end
end Lw
set_option Elab.async false
set_option linter.all false
set_option maxRecDepth 100000
set_option maxHeartbeats 4000000
set_option autoImplicit false
namespace Lw
open PySem Dv
/-! steps of our own words -/
local macro_rules | `(tactic| walk_at "num") => `(tactic| first | assumption | decide | omega)
local macro_rules | `(tactic| walk_at "dv0") => `(tactic| with_reducible first
  | refine v_seq ?_ | refine v_ifS ?_ | refine v_set ?_ | refine v_ret ?_ | refine v_asg ?_ | refine v_par ?_ | refine v_drop ?_ | refine v_nx ?_ | refine v_bk ?_ | refine v_ct ?_ | refine v_retN ?_ | refine v_for ?_
  | refine v_c ?_ | refine v_nil ?_ | refine v_cons ?_ | refine v_op ?_ | refine v_B ?_ | refine v_truth ?_ | refine v_andT ?_ | refine v_orT ?_ | refine v_notT ?_
  | refine v_andV ?_ | refine v_orV ?_ | refine v_notV ?_ | refine v_if ?_ | refine v_neg ?_ | refine v_chain ?_ | refine v_tup ?_ | refine v_lst ?_ | refine v_lstR ?_ | refine v_noPart ?_ | refine v_part ?_ | refine v_sl ?_
  | refine v_CB ?_ | refine v_call ?_ | refine v_abs ?_ | refine v_lc ?_ | refine v_yes ?_ | refine v_it ?_ | refine v_rng1 ?_ | refine v_rng2 ?_ | refine v_rng3 ?_ | refine v_T ?_ | refine v_F ?_
  | refine v_add ?_ | refine v_sub ?_ | refine v_iadd ?_ | refine v_lt ?_ | refine v_le ?_ | refine v_gt ?_ | refine v_ge ?_ | refine v_eqI ?_ | refine v_neI ?_ | refine v_eqB ?_ | refine v_neB ?_)
local macro_rules | `(tactic| walk_at "dv1") => `(tactic| first
  | (with_reducible refine' v_var ?h ?_); (case h => rfl)
  | (with_reducible refine' v_aug ?h ?_); (case h => rfl)
  | (with_reducible refine' v_div ?h1 ?h2 ?_); (case h1 => walk_at "num"); (case h2 => walk_at "num")
  | (with_reducible refine' v_mod ?h1 ?_); (case h1 => walk_at "num")
  | (with_reducible refine' v_pow ?h1 ?_); (case h1 => walk_at "num")
  | (with_reducible refine' v_mulR ?h1 ?_); (case h1 => walk_at "num")
  | (with_reducible refine' v_mulL ?h1 ?_); (case h1 => walk_at "num")
  | (with_reducible refine' v_fin ?h1 ?_); (case h1 => first | exact Or.inl rfl | exact Or.inr rfl | (refine Or.inr ?_; simp only [List.length_set, *]; done))
  | (with_reducible refine' v_ix ?h1 ?_); (case h1 => first | exact ixD_ref (by assumption) (by rfl) | rfl)
  | (with_reducible refine' v_len ?h1 ?_); (case h1 => first | exact lenD_ref (by assumption) | rfl)
  | (with_reducible refine' v_list ?h1 ?_); (case h1 => rfl)
  | (with_reducible refine' v_listR ?h1 ?_); (case h1 => rfl)
  | (with_reducible refine' v_tuple ?h1 ?_); (case h1 => rfl)
  | (with_reducible refine' v_isd ?h1 ?_); (case h1 => rfl)
  | (with_reducible refine' v_isiTy ?h1 ?h2 ?_); (case h1 => rfl); (case h2 => rfl)
  | (with_reducible refine' v_isiT ?h1 ?_); (case h1 => rfl))
local macro_rules | `(tactic| walk_at "dv2") => `(tactic| first
  | refine v_gsub (by rfl) (by rfl) (by assumption) (by rfl) (fun _ _ _ => ?_) | refine ⟨_, rfl, ?_⟩ | (with_reducible refine' ⟨rng_ok ?h1 ?h2, ?_⟩); (case h1 => omega); (case h2 => omega) | refine ⟨rfl, ?_⟩ | refine ⟨_, _, rfl, ?_⟩ | refine ⟨Nat.le_of_ble_eq_true rfl, ?_⟩)
local macro_rules | `(tactic| walk_at "dv3") => `(tactic| first
  | (with_reducible refine' v_dec (fun _ => ?_) (fun hn => absurd ?h hn)); (case h => first | assumption | omega | decide)
  | (with_reducible refine' v_dec (fun hn => absurd hn ?h) (fun _ => ?_)); (case h => first | assumption | omega | decide)
  | (with_reducible refine' v_ndec (fun _ => ?_) (fun hn => absurd hn ?h)); (case h => first | assumption | omega | decide)
  | (with_reducible refine' v_ndec (fun hn => absurd ?h hn) (fun _ => ?_)); (case h => first | assumption | omega | decide)
  | (with_reducible refine' v_bT ?h ?_); (case h => first | assumption | rfl)
  | (with_reducible refine' v_bF ?h ?_); (case h => first | assumption | rfl))
local macro_rules | `(tactic| walk_at "dv4") => `(tactic| with_reducible first
  | refine v_places ?_ | refine v_roads ?_ | refine v_over ?_ | refine v_line ?_ | refine v_spots ?_ | refine v_myards ?_ | refine v_mroads ?_ | refine v_mW (by decide +kernel) ?_ | refine v_mK (by decide +kernel) ?_
  | refine v_itX ?_ | refine v_ev ?_ | refine v_rev ?_ | refine v_zs ?_ | refine v_enum ?_ | refine v_enum2 ?_ | refine v_makeV ?_ | refine v_tryN ?_ | refine v_lc2 ?_ | refine v_fz ?_ | refine v_make ?_ | refine v_fldS ?_)
local macro_rules | `(tactic| walk_at "dv5") => `(tactic| first
  | refine ⟨_, _, rfl, rfl, ?_⟩ | refine ⟨⟨_, _, rfl⟩, ?_⟩ | refine ⟨⟨_, _, _, rfl⟩, ?_⟩ | refine ⟨_, _, _, rfl, ?_⟩ | refine Or.inl ⟨_, rfl, ?_⟩ | refine Or.inr ⟨_, (fun _ z => by cases z), rfl, ?_⟩)
local macro_rules | `(tactic| walk_at "dv") => `(tactic| repeat (first | walk_at "dv0" | walk_at "dv4" | walk_at "dv1" | walk_at "dv3" | walk_at "dv2" | walk_at "dv5"))
/-! ### the whole law -/
theorem law_true (ns : List Int) (hn : ns.length ≤ 63) : ∃ S, m_law [.fz (ns.map Dt.int)] [] = .ok (.bl true) S := by
  suffices h : Pe (m_law [.fz (ns.map Dt.int)] []) (fun d _ => d = .bl true) X0 by
    obtain ⟨a, S, e, rfl⟩ := h.ex
    exact ⟨S, e⟩
  refine v_fn ?_
  rw [b_law_eq]
  refine v_seq (v_set (v_call (v_cons (v_var rfl (v_nil ⟨rfl, ?_⟩)))))
  refine flow_new fun S1 hl1 _ hf => ?_
  unfold b_law_18
  refine v_seq (v_set (v_c ?_))
  unfold b_law_17
  refine v_seq (v_set (v_op (v_var rfl (v_c (v_addS (by decide +kernel) ?_)))))
  unfold b_law_16
  refine v_seq (v_set (v_op (v_var rfl (v_c (v_addS (by decide +kernel) ?_)))))
  unfold b_law_15
  refine v_seq (v_set (v_spl (v_op (v_var rfl (v_c (v_addS (by decide +kernel) ⟨_, rfl, v_c ⟨_, rfl, by decide +kernel, ?_⟩⟩))))))
  rw [split_ok]
  obtain ⟨W, hW⟩ : ∃ W, W = List.map Dt.str wdS := ⟨_, rfl⟩
  rw [← hW]
  unfold b_law_14
  refine v_seq (v_set (v_call (v_cons (v_var rfl (v_cons (v_c (v_nil ⟨rfl, ?_⟩)))))))
  refine draw_fz hf (by decide) (by decide) fun a S2 a0 a1 z2 => ?_
  unfold b_law_13
  refine v_seq (v_set (v_call (v_cons (v_var rfl (v_cons (v_op (v_c (v_c ?_))))))))
  refine v_pow (by decide) (v_nil ⟨rfl, ?_⟩)
  refine draw_fz z2.flow (by decide +kernel) (by decide +kernel) fun f S3 f0 f1 z3 => ?_
  unfold b_law_12
  refine v_seq (v_for (v_rng1 (v_cons (v_c (v_nil ⟨_, rfl, rng_iff.mpr (by decide), ?_⟩)))))
  refine v_loop (fun ds en T => T = S3 ∧ (∀ d ∈ ds, ∃ j : Int, d = .int j) ∧ ∃ (x5 x6 x7 x8 x9 x10 : Option Dt), en = [some (.fz (ns.map Dt.int)), some (.ref 0), some (.lst W), some (.int a), some (.int f), x5, x6, x7, x8, x9, x10])
    ⟨rfl, fun d hd => ?_, none, none, none, none, none, none, rfl⟩ ?_ ?_
  · obtain ⟨k, _, e⟩ := range_mem hd
    exact ⟨_, e⟩
  · rintro d ds en T ⟨rfl, hd, x5, x6, x7, x8, x9, x10, rfl⟩
    obtain ⟨j, rfl⟩ := hd d List.mem_cons_self
    refine ⟨_, _, rfl, ?_⟩
    unfold b_law_10
    refine v_seq (v_set (v_op (v_op (v_var rfl (v_var rfl (v_add (v_c (v_mod (by decide) ?_))))))))
    obtain ⟨k, hk, ek⟩ : ∃ k : Nat, k < 30 ∧ (a + j).fmod 30 = (k : Int) := by
      have h0 := Int.fmod_nonneg_of_pos (a + j) (b := 30) (by decide)
      have h1 := Int.fmod_lt_of_pos (a + j) (b := 30) (by decide)
      exact ⟨((a + j).fmod 30).toNat, by omega, by omega⟩
    rw [ek]
    unfold b_law_9
    refine v_seq (v_set (v_call (v_cons (v_var rfl (v_cons (v_var rfl (v_nil ⟨rfl, ?_⟩)))))))
    obtain ⟨nm, e⟩ := made_ok (S := T) (f := f) hk
    refine Pe.of e ?_
    unfold b_law_8
    refine v_seq (v_ifS (v_notT (v_truth (v_call (Pe.of (args0 (S := T) (f := f) (nm := nm) hk (some (.fz (ns.map Dt.int))) (some (.ref 0)) (some (.lst W)) (some (.int a)) (some (.int f)) (some (.int j)) x8 x9 x10) ⟨rfl, Pe.of same_flags ⟨true, rfl, v_F (v_nx ?_)⟩⟩)))))
    rw [hW]
    exact tail_ok k hk _ _ _ _ _ _ _ fun y9 => ⟨rfl, fun d h => hd d (List.mem_cons_of_mem _ h), _, _, _, _, _, _, rfl⟩
  · rintro en T ⟨rfl, _, x5, x6, x7, x8, x9, x10, rfl⟩
    rw [last_ok]
    unfold b_law_1
    walk_at "dv"
    refine Pe.of same_last ?_
    walk_at "dv"
    rfl
end Lw
set_option Elab.async false
set_option linter.all false
set_option maxRecDepth 100000
set_option maxHeartbeats 4000000
set_option autoImplicit false
namespace Lw
open PySem PySem.Spec PyProof.Rows L2 Dv
theorem all_of {l : PySem.W.OpenLaw} {w : World} {K : PySem.W.Frag} {h : Heap} {mg : Str → Option Value} {fa : Addr} (X : K.In h) (G : h.Ns mainGlobals mg) (hfa : mg "law" = some (.ref fa)) (c : SaysL hTests hDefs K) :
    ∃ fd : FuncData, (∀ (s : Shared) (v : Value), BindsTo s fd ⟨[v], []⟩ [("_law_script", v)]) ∧ ∀ base : Heap, K.In base → base.Ns mainGlobals mg → FnOk l.prog w K mg base (L2N.CX l.prog w) 22 fa fd ["_law_script"] (spLaw K []) := by
  have a1 : PySem.W.nsIn K mainGlobals "_law_draw" = some (some (.ref (He.fAd K ("_law_draw", none)))) := He.eqO_ok (c.fact 0 rfl)
  have a2 : PySem.W.nsIn K mainGlobals "_law_flags" = some (some (.ref (He.fAd K ("_law_flags", none)))) := He.eqO_ok (c.fact 1 rfl)
  have a3 : PySem.W.nsIn K mainGlobals "_law_flow" = some (some (.ref (He.fAd K ("_law_flow", none)))) := He.eqO_ok (c.fact 2 rfl)
  have a4 : PySem.W.nsIn K mainGlobals "_law_made_error" = some (some (.ref (He.fAd K ("_law_made_error", none)))) := He.eqO_ok (c.fact 3 rfl)
  have a5 : PySem.W.nsIn K mainGlobals "_law_same" = some (some (.ref (He.fAd K ("_law_same", none)))) := He.eqO_ok (c.fact 4 rfl)
  have a6 : PySem.W.nsIn K mainGlobals "law" = some (some (.ref (He.fAd K ("law", none)))) := He.eqO_ok (c.fact 5 rfl)
  have egMissing : PySem.W.nsIn K mainGlobals "Missing" = some (some (.ref (He.ga K "Missing"))) := He.eqO_ok (c.fact 6 rfl)
  have eoMissing : oexGB K (He.ga K "Missing") = true := c.fact 7 rfl
  have esMissing : PySem.W.findIn K (.ref (He.ga K "Missing")) "__setattr__" = some (some (.builtin "object.__setattr__")) := He.eqO_ok (c.fact 8 rfl)
  have exMissing : PySem.W.subIn K (.ref (He.ga K "Missing")) (.type "BaseException") = some true := of_decide_eq_true (c.fact 9 rfl)
  have etMissing : PySem.W.typeIn K (.ref (He.ga K "Missing")) = some (.type "type") := of_decide_eq_true (c.fact 10 rfl)
  have ekMissing : PySem.W.keepIn K (.ref (He.ga K "Missing")) = true := c.fact 11 rfl
  have eiMissing : PySem.W.findIn K (.ref (He.ga K "Missing")) "__init__" = some (some (.ref (He.ma K (He.ga K "Missing") "__init__"))) := He.eqO_ok (c.fact 12 rfl)
  have ejMissing : PySem.W.typeIn K (.ref (He.ma K (He.ga K "Missing") "__init__")) = some (.type "function") := of_decide_eq_true (c.fact 13 rfl)
  have ewMissing : PySem.W.findIn K (.ref (He.ga K "Missing")) "word" = some none := He.eqO_ok (c.fact 14 rfl)
  have efMissing : PySem.W.findIn K (.ref (He.ga K "Missing")) "name" = some none := He.eqO_ok (c.fact 15 rfl)
  have egBadRow : PySem.W.nsIn K mainGlobals "BadRow" = some (some (.ref (He.ga K "BadRow"))) := He.eqO_ok (c.fact 16 rfl)
  have eoBadRow : oexGB K (He.ga K "BadRow") = true := c.fact 17 rfl
  have esBadRow : PySem.W.findIn K (.ref (He.ga K "BadRow")) "__setattr__" = some (some (.builtin "object.__setattr__")) := He.eqO_ok (c.fact 18 rfl)
  have exBadRow : PySem.W.subIn K (.ref (He.ga K "BadRow")) (.type "BaseException") = some true := of_decide_eq_true (c.fact 19 rfl)
  have etBadRow : PySem.W.typeIn K (.ref (He.ga K "BadRow")) = some (.type "type") := of_decide_eq_true (c.fact 20 rfl)
  have ekBadRow : PySem.W.keepIn K (.ref (He.ga K "BadRow")) = true := c.fact 21 rfl
  have eiBadRow : PySem.W.findIn K (.ref (He.ga K "BadRow")) "__init__" = some (some (.ref (He.ma K (He.ga K "BadRow") "__init__"))) := He.eqO_ok (c.fact 22 rfl)
  have ejBadRow : PySem.W.typeIn K (.ref (He.ma K (He.ga K "BadRow") "__init__")) = some (.type "function") := of_decide_eq_true (c.fact 23 rfl)
  have ewBadRow : PySem.W.findIn K (.ref (He.ga K "BadRow")) "word" = some none := He.eqO_ok (c.fact 24 rfl)
  have efBadRow : PySem.W.findIn K (.ref (He.ga K "BadRow")) "at" = some none := He.eqO_ok (c.fact 25 rfl)
  have egTied : PySem.W.nsIn K mainGlobals "Tied" = some (some (.ref (He.ga K "Tied"))) := He.eqO_ok (c.fact 26 rfl)
  have eoTied : oexGB K (He.ga K "Tied") = true := c.fact 27 rfl
  have esTied : PySem.W.findIn K (.ref (He.ga K "Tied")) "__setattr__" = some (some (.builtin "object.__setattr__")) := He.eqO_ok (c.fact 28 rfl)
  have exTied : PySem.W.subIn K (.ref (He.ga K "Tied")) (.type "BaseException") = some true := of_decide_eq_true (c.fact 29 rfl)
  have etTied : PySem.W.typeIn K (.ref (He.ga K "Tied")) = some (.type "type") := of_decide_eq_true (c.fact 30 rfl)
  have ekTied : PySem.W.keepIn K (.ref (He.ga K "Tied")) = true := c.fact 31 rfl
  have eiTied : PySem.W.findIn K (.ref (He.ga K "Tied")) "__init__" = some (some (.ref (He.ma K (He.ga K "Tied") "__init__"))) := He.eqO_ok (c.fact 32 rfl)
  have ejTied : PySem.W.typeIn K (.ref (He.ma K (He.ga K "Tied") "__init__")) = some (.type "function") := of_decide_eq_true (c.fact 33 rfl)
  have ewTied : PySem.W.findIn K (.ref (He.ga K "Tied")) "word" = some none := He.eqO_ok (c.fact 34 rfl)
  have efTied : PySem.W.findIn K (.ref (He.ga K "Tied")) "name" = some none := He.eqO_ok (c.fact 35 rfl)
  have egBadTurns : PySem.W.nsIn K mainGlobals "BadTurns" = some (some (.ref (He.ga K "BadTurns"))) := He.eqO_ok (c.fact 36 rfl)
  have eoBadTurns : oexGB K (He.ga K "BadTurns") = true := c.fact 37 rfl
  have esBadTurns : PySem.W.findIn K (.ref (He.ga K "BadTurns")) "__setattr__" = some (some (.builtin "object.__setattr__")) := He.eqO_ok (c.fact 38 rfl)
  have exBadTurns : PySem.W.subIn K (.ref (He.ga K "BadTurns")) (.type "BaseException") = some true := of_decide_eq_true (c.fact 39 rfl)
  have etBadTurns : PySem.W.typeIn K (.ref (He.ga K "BadTurns")) = some (.type "type") := of_decide_eq_true (c.fact 40 rfl)
  have ekBadTurns : PySem.W.keepIn K (.ref (He.ga K "BadTurns")) = true := c.fact 41 rfl
  have eiBadTurns : PySem.W.findIn K (.ref (He.ga K "BadTurns")) "__init__" = some (some (.ref (He.ma K (He.ga K "BadTurns") "__init__"))) := He.eqO_ok (c.fact 42 rfl)
  have ejBadTurns : PySem.W.typeIn K (.ref (He.ma K (He.ga K "BadTurns") "__init__")) = some (.type "function") := of_decide_eq_true (c.fact 43 rfl)
  have ewBadTurns : PySem.W.findIn K (.ref (He.ga K "BadTurns")) "word" = some none := He.eqO_ok (c.fact 44 rfl)
  have efBadTurns : PySem.W.findIn K (.ref (He.ga K "BadTurns")) "number" = some none := He.eqO_ok (c.fact 45 rfl)
  have egFull : PySem.W.nsIn K mainGlobals "Full" = some (some (.ref (He.ga K "Full"))) := He.eqO_ok (c.fact 46 rfl)
  have eoFull : oexGB K (He.ga K "Full") = true := c.fact 47 rfl
  have esFull : PySem.W.findIn K (.ref (He.ga K "Full")) "__setattr__" = some (some (.builtin "object.__setattr__")) := He.eqO_ok (c.fact 48 rfl)
  have exFull : PySem.W.subIn K (.ref (He.ga K "Full")) (.type "BaseException") = some true := of_decide_eq_true (c.fact 49 rfl)
  have etFull : PySem.W.typeIn K (.ref (He.ga K "Full")) = some (.type "type") := of_decide_eq_true (c.fact 50 rfl)
  have ekFull : PySem.W.keepIn K (.ref (He.ga K "Full")) = true := c.fact 51 rfl
  have eiFull : PySem.W.findIn K (.ref (He.ga K "Full")) "__init__" = some (some (.ref (He.ma K (He.ga K "Full") "__init__"))) := He.eqO_ok (c.fact 52 rfl)
  have ejFull : PySem.W.typeIn K (.ref (He.ma K (He.ga K "Full") "__init__")) = some (.type "function") := of_decide_eq_true (c.fact 53 rfl)
  have ewFull : PySem.W.findIn K (.ref (He.ga K "Full")) "word" = some none := He.eqO_ok (c.fact 54 rfl)
  have efFull : PySem.W.findIn K (.ref (He.ga K "Full")) "many" = some none := He.eqO_ok (c.fact 55 rfl)
  have egBadDeed : PySem.W.nsIn K mainGlobals "BadDeed" = some (some (.ref (He.ga K "BadDeed"))) := He.eqO_ok (c.fact 56 rfl)
  have eoBadDeed : oexGB K (He.ga K "BadDeed") = true := c.fact 57 rfl
  have esBadDeed : PySem.W.findIn K (.ref (He.ga K "BadDeed")) "__setattr__" = some (some (.builtin "object.__setattr__")) := He.eqO_ok (c.fact 58 rfl)
  have exBadDeed : PySem.W.subIn K (.ref (He.ga K "BadDeed")) (.type "BaseException") = some true := of_decide_eq_true (c.fact 59 rfl)
  have etBadDeed : PySem.W.typeIn K (.ref (He.ga K "BadDeed")) = some (.type "type") := of_decide_eq_true (c.fact 60 rfl)
  have ekBadDeed : PySem.W.keepIn K (.ref (He.ga K "BadDeed")) = true := c.fact 61 rfl
  have eiBadDeed : PySem.W.findIn K (.ref (He.ga K "BadDeed")) "__init__" = some (some (.ref (He.ma K (He.ga K "BadDeed") "__init__"))) := He.eqO_ok (c.fact 62 rfl)
  have ejBadDeed : PySem.W.typeIn K (.ref (He.ma K (He.ga K "BadDeed") "__init__")) = some (.type "function") := of_decide_eq_true (c.fact 63 rfl)
  have ewBadDeed : PySem.W.findIn K (.ref (He.ga K "BadDeed")) "word" = some none := He.eqO_ok (c.fact 64 rfl)
  have efBadDeed : PySem.W.findIn K (.ref (He.ga K "BadDeed")) "at" = some none := He.eqO_ok (c.fact 65 rfl)
  have egBadExchange : PySem.W.nsIn K mainGlobals "BadExchange" = some (some (.ref (He.ga K "BadExchange"))) := He.eqO_ok (c.fact 66 rfl)
  have eoBadExchange : oexGB K (He.ga K "BadExchange") = true := c.fact 67 rfl
  have esBadExchange : PySem.W.findIn K (.ref (He.ga K "BadExchange")) "__setattr__" = some (some (.builtin "object.__setattr__")) := He.eqO_ok (c.fact 68 rfl)
  have exBadExchange : PySem.W.subIn K (.ref (He.ga K "BadExchange")) (.type "BaseException") = some true := of_decide_eq_true (c.fact 69 rfl)
  have etBadExchange : PySem.W.typeIn K (.ref (He.ga K "BadExchange")) = some (.type "type") := of_decide_eq_true (c.fact 70 rfl)
  have ekBadExchange : PySem.W.keepIn K (.ref (He.ga K "BadExchange")) = true := c.fact 71 rfl
  have eiBadExchange : PySem.W.findIn K (.ref (He.ga K "BadExchange")) "__init__" = some (some (.ref (He.ma K (He.ga K "BadExchange") "__init__"))) := He.eqO_ok (c.fact 72 rfl)
  have ejBadExchange : PySem.W.typeIn K (.ref (He.ma K (He.ga K "BadExchange") "__init__")) = some (.type "function") := of_decide_eq_true (c.fact 73 rfl)
  have ewBadExchange : PySem.W.findIn K (.ref (He.ga K "BadExchange")) "word" = some none := He.eqO_ok (c.fact 74 rfl)
  have efBadExchange : PySem.W.findIn K (.ref (He.ga K "BadExchange")) "at" = some none := He.eqO_ok (c.fact 75 rfl)
  have egBadText : PySem.W.nsIn K mainGlobals "BadText" = some (some (.ref (He.ga K "BadText"))) := He.eqO_ok (c.fact 76 rfl)
  have eoBadText : oexGB K (He.ga K "BadText") = true := c.fact 77 rfl
  have esBadText : PySem.W.findIn K (.ref (He.ga K "BadText")) "__setattr__" = some (some (.builtin "object.__setattr__")) := He.eqO_ok (c.fact 78 rfl)
  have exBadText : PySem.W.subIn K (.ref (He.ga K "BadText")) (.type "BaseException") = some true := of_decide_eq_true (c.fact 79 rfl)
  have etBadText : PySem.W.typeIn K (.ref (He.ga K "BadText")) = some (.type "type") := of_decide_eq_true (c.fact 80 rfl)
  have ekBadText : PySem.W.keepIn K (.ref (He.ga K "BadText")) = true := c.fact 81 rfl
  have eiBadText : PySem.W.findIn K (.ref (He.ga K "BadText")) "__init__" = some (some (.ref (He.ma K (He.ga K "BadText") "__init__"))) := He.eqO_ok (c.fact 82 rfl)
  have ejBadText : PySem.W.typeIn K (.ref (He.ma K (He.ga K "BadText") "__init__")) = some (.type "function") := of_decide_eq_true (c.fact 83 rfl)
  have ewBadText : PySem.W.findIn K (.ref (He.ga K "BadText")) "word" = some none := He.eqO_ok (c.fact 84 rfl)
  have efBadText : PySem.W.findIn K (.ref (He.ga K "BadText")) "at" = some none := He.eqO_ok (c.fact 85 rfl)
  have egAstray : PySem.W.nsIn K mainGlobals "Astray" = some (some (.ref (He.ga K "Astray"))) := He.eqO_ok (c.fact 86 rfl)
  have eoAstray : oexGB K (He.ga K "Astray") = true := c.fact 87 rfl
  have esAstray : PySem.W.findIn K (.ref (He.ga K "Astray")) "__setattr__" = some (some (.builtin "object.__setattr__")) := He.eqO_ok (c.fact 88 rfl)
  have exAstray : PySem.W.subIn K (.ref (He.ga K "Astray")) (.type "BaseException") = some true := of_decide_eq_true (c.fact 89 rfl)
  have etAstray : PySem.W.typeIn K (.ref (He.ga K "Astray")) = some (.type "type") := of_decide_eq_true (c.fact 90 rfl)
  have ekAstray : PySem.W.keepIn K (.ref (He.ga K "Astray")) = true := c.fact 91 rfl
  have eiAstray : PySem.W.findIn K (.ref (He.ga K "Astray")) "__init__" = some (some (.ref (He.ma K (He.ga K "Astray") "__init__"))) := He.eqO_ok (c.fact 92 rfl)
  have ejAstray : PySem.W.typeIn K (.ref (He.ma K (He.ga K "Astray") "__init__")) = some (.type "function") := of_decide_eq_true (c.fact 93 rfl)
  have ewAstray : PySem.W.findIn K (.ref (He.ga K "Astray")) "word" = some none := He.eqO_ok (c.fact 94 rfl)
  have efAstray : PySem.W.findIn K (.ref (He.ga K "Astray")) "at" = some none := He.eqO_ok (c.fact 95 rfl)
  have egNoWalk : PySem.W.nsIn K mainGlobals "NoWalk" = some (some (.ref (He.ga K "NoWalk"))) := He.eqO_ok (c.fact 96 rfl)
  have eoNoWalk : oexGB K (He.ga K "NoWalk") = true := c.fact 97 rfl
  have esNoWalk : PySem.W.findIn K (.ref (He.ga K "NoWalk")) "__setattr__" = some (some (.builtin "object.__setattr__")) := He.eqO_ok (c.fact 98 rfl)
  have exNoWalk : PySem.W.subIn K (.ref (He.ga K "NoWalk")) (.type "BaseException") = some true := of_decide_eq_true (c.fact 99 rfl)
  have etNoWalk : PySem.W.typeIn K (.ref (He.ga K "NoWalk")) = some (.type "type") := of_decide_eq_true (c.fact 100 rfl)
  have ekNoWalk : PySem.W.keepIn K (.ref (He.ga K "NoWalk")) = true := c.fact 101 rfl
  have eiNoWalk : PySem.W.findIn K (.ref (He.ga K "NoWalk")) "__init__" = some (some (.ref (He.ma K (He.ga K "NoWalk") "__init__"))) := He.eqO_ok (c.fact 102 rfl)
  have ejNoWalk : PySem.W.typeIn K (.ref (He.ma K (He.ga K "NoWalk") "__init__")) = some (.type "function") := of_decide_eq_true (c.fact 103 rfl)
  have ewNoWalk : PySem.W.findIn K (.ref (He.ga K "NoWalk")) "word" = some none := He.eqO_ok (c.fact 104 rfl)
  have efNoWalk : PySem.W.findIn K (.ref (He.ga K "NoWalk")) "name" = some none := He.eqO_ok (c.fact 105 rfl)
  have egBreaks : PySem.W.nsIn K mainGlobals "Breaks" = some (some (.ref (He.ga K "Breaks"))) := He.eqO_ok (c.fact 106 rfl)
  have eoBreaks : oexGB K (He.ga K "Breaks") = true := c.fact 107 rfl
  have esBreaks : PySem.W.findIn K (.ref (He.ga K "Breaks")) "__setattr__" = some (some (.builtin "object.__setattr__")) := He.eqO_ok (c.fact 108 rfl)
  have exBreaks : PySem.W.subIn K (.ref (He.ga K "Breaks")) (.type "BaseException") = some true := of_decide_eq_true (c.fact 109 rfl)
  have etBreaks : PySem.W.typeIn K (.ref (He.ga K "Breaks")) = some (.type "type") := of_decide_eq_true (c.fact 110 rfl)
  have ekBreaks : PySem.W.keepIn K (.ref (He.ga K "Breaks")) = true := c.fact 111 rfl
  have eiBreaks : PySem.W.findIn K (.ref (He.ga K "Breaks")) "__init__" = some (some (.ref (He.ma K (He.ga K "Breaks") "__init__"))) := He.eqO_ok (c.fact 112 rfl)
  have ejBreaks : PySem.W.typeIn K (.ref (He.ma K (He.ga K "Breaks") "__init__")) = some (.type "function") := of_decide_eq_true (c.fact 113 rfl)
  have ewBreaks : PySem.W.findIn K (.ref (He.ga K "Breaks")) "word" = some none := He.eqO_ok (c.fact 114 rfl)
  have efBreaks : PySem.W.findIn K (.ref (He.ga K "Breaks")) "name" = some none := He.eqO_ok (c.fact 115 rfl)
  have egTaken : PySem.W.nsIn K mainGlobals "Taken" = some (some (.ref (He.ga K "Taken"))) := He.eqO_ok (c.fact 116 rfl)
  have eoTaken : oexGB K (He.ga K "Taken") = true := c.fact 117 rfl
  have esTaken : PySem.W.findIn K (.ref (He.ga K "Taken")) "__setattr__" = some (some (.builtin "object.__setattr__")) := He.eqO_ok (c.fact 118 rfl)
  have exTaken : PySem.W.subIn K (.ref (He.ga K "Taken")) (.type "BaseException") = some true := of_decide_eq_true (c.fact 119 rfl)
  have etTaken : PySem.W.typeIn K (.ref (He.ga K "Taken")) = some (.type "type") := of_decide_eq_true (c.fact 120 rfl)
  have ekTaken : PySem.W.keepIn K (.ref (He.ga K "Taken")) = true := c.fact 121 rfl
  have eiTaken : PySem.W.findIn K (.ref (He.ga K "Taken")) "__init__" = some (some (.ref (He.ma K (He.ga K "Taken") "__init__"))) := He.eqO_ok (c.fact 122 rfl)
  have ejTaken : PySem.W.typeIn K (.ref (He.ma K (He.ga K "Taken") "__init__")) = some (.type "function") := of_decide_eq_true (c.fact 123 rfl)
  have ewTaken : PySem.W.findIn K (.ref (He.ga K "Taken")) "word" = some none := He.eqO_ok (c.fact 124 rfl)
  have efTaken : PySem.W.findIn K (.ref (He.ga K "Taken")) "name" = some none := He.eqO_ok (c.fact 125 rfl)
  have egBadName : PySem.W.nsIn K mainGlobals "BadName" = some (some (.ref (He.ga K "BadName"))) := He.eqO_ok (c.fact 126 rfl)
  have eoBadName : oexGB K (He.ga K "BadName") = true := c.fact 127 rfl
  have esBadName : PySem.W.findIn K (.ref (He.ga K "BadName")) "__setattr__" = some (some (.builtin "object.__setattr__")) := He.eqO_ok (c.fact 128 rfl)
  have exBadName : PySem.W.subIn K (.ref (He.ga K "BadName")) (.type "BaseException") = some true := of_decide_eq_true (c.fact 129 rfl)
  have etBadName : PySem.W.typeIn K (.ref (He.ga K "BadName")) = some (.type "type") := of_decide_eq_true (c.fact 130 rfl)
  have ekBadName : PySem.W.keepIn K (.ref (He.ga K "BadName")) = true := c.fact 131 rfl
  have eiBadName : PySem.W.findIn K (.ref (He.ga K "BadName")) "__init__" = some (some (.ref (He.ma K (He.ga K "BadName") "__init__"))) := He.eqO_ok (c.fact 132 rfl)
  have ejBadName : PySem.W.typeIn K (.ref (He.ma K (He.ga K "BadName") "__init__")) = some (.type "function") := of_decide_eq_true (c.fact 133 rfl)
  have ewBadName : PySem.W.findIn K (.ref (He.ga K "BadName")) "word" = some none := He.eqO_ok (c.fact 134 rfl)
  have efBadName : PySem.W.findIn K (.ref (He.ga K "BadName")) "name" = some none := He.eqO_ok (c.fact 135 rfl)
  have egBadWay : PySem.W.nsIn K mainGlobals "BadWay" = some (some (.ref (He.ga K "BadWay"))) := He.eqO_ok (c.fact 136 rfl)
  have eoBadWay : oexGB K (He.ga K "BadWay") = true := c.fact 137 rfl
  have esBadWay : PySem.W.findIn K (.ref (He.ga K "BadWay")) "__setattr__" = some (some (.builtin "object.__setattr__")) := He.eqO_ok (c.fact 138 rfl)
  have exBadWay : PySem.W.subIn K (.ref (He.ga K "BadWay")) (.type "BaseException") = some true := of_decide_eq_true (c.fact 139 rfl)
  have etBadWay : PySem.W.typeIn K (.ref (He.ga K "BadWay")) = some (.type "type") := of_decide_eq_true (c.fact 140 rfl)
  have ekBadWay : PySem.W.keepIn K (.ref (He.ga K "BadWay")) = true := c.fact 141 rfl
  have eiBadWay : PySem.W.findIn K (.ref (He.ga K "BadWay")) "__init__" = some (some (.ref (He.ma K (He.ga K "BadWay") "__init__"))) := He.eqO_ok (c.fact 142 rfl)
  have ejBadWay : PySem.W.typeIn K (.ref (He.ma K (He.ga K "BadWay") "__init__")) = some (.type "function") := of_decide_eq_true (c.fact 143 rfl)
  have ewBadWay : PySem.W.findIn K (.ref (He.ga K "BadWay")) "word" = some none := He.eqO_ok (c.fact 144 rfl)
  have egTooGreat : PySem.W.nsIn K mainGlobals "TooGreat" = some (some (.ref (He.ga K "TooGreat"))) := He.eqO_ok (c.fact 145 rfl)
  have eoTooGreat : oexGB K (He.ga K "TooGreat") = true := c.fact 146 rfl
  have esTooGreat : PySem.W.findIn K (.ref (He.ga K "TooGreat")) "__setattr__" = some (some (.builtin "object.__setattr__")) := He.eqO_ok (c.fact 147 rfl)
  have exTooGreat : PySem.W.subIn K (.ref (He.ga K "TooGreat")) (.type "BaseException") = some true := of_decide_eq_true (c.fact 148 rfl)
  have etTooGreat : PySem.W.typeIn K (.ref (He.ga K "TooGreat")) = some (.type "type") := of_decide_eq_true (c.fact 149 rfl)
  have ekTooGreat : PySem.W.keepIn K (.ref (He.ga K "TooGreat")) = true := c.fact 150 rfl
  have eiTooGreat : PySem.W.findIn K (.ref (He.ga K "TooGreat")) "__init__" = some (some (.ref (He.ma K (He.ga K "TooGreat") "__init__"))) := He.eqO_ok (c.fact 151 rfl)
  have ejTooGreat : PySem.W.typeIn K (.ref (He.ma K (He.ga K "TooGreat") "__init__")) = some (.type "function") := of_decide_eq_true (c.fact 152 rfl)
  have ewTooGreat : PySem.W.findIn K (.ref (He.ga K "TooGreat")) "word" = some none := He.eqO_ok (c.fact 153 rfl)
  have egTooLong : PySem.W.nsIn K mainGlobals "TooLong" = some (some (.ref (He.ga K "TooLong"))) := He.eqO_ok (c.fact 154 rfl)
  have eoTooLong : oexGB K (He.ga K "TooLong") = true := c.fact 155 rfl
  have esTooLong : PySem.W.findIn K (.ref (He.ga K "TooLong")) "__setattr__" = some (some (.builtin "object.__setattr__")) := He.eqO_ok (c.fact 156 rfl)
  have exTooLong : PySem.W.subIn K (.ref (He.ga K "TooLong")) (.type "BaseException") = some true := of_decide_eq_true (c.fact 157 rfl)
  have etTooLong : PySem.W.typeIn K (.ref (He.ga K "TooLong")) = some (.type "type") := of_decide_eq_true (c.fact 158 rfl)
  have ekTooLong : PySem.W.keepIn K (.ref (He.ga K "TooLong")) = true := c.fact 159 rfl
  have eiTooLong : PySem.W.findIn K (.ref (He.ga K "TooLong")) "__init__" = some (some (.ref (He.ma K (He.ga K "TooLong") "__init__"))) := He.eqO_ok (c.fact 160 rfl)
  have ejTooLong : PySem.W.typeIn K (.ref (He.ma K (He.ga K "TooLong") "__init__")) = some (.type "function") := of_decide_eq_true (c.fact 161 rfl)
  have ewTooLong : PySem.W.findIn K (.ref (He.ga K "TooLong")) "word" = some none := He.eqO_ok (c.fact 162 rfl)
  have egNotHome : PySem.W.nsIn K mainGlobals "NotHome" = some (some (.ref (He.ga K "NotHome"))) := He.eqO_ok (c.fact 163 rfl)
  have eoNotHome : oexGB K (He.ga K "NotHome") = true := c.fact 164 rfl
  have esNotHome : PySem.W.findIn K (.ref (He.ga K "NotHome")) "__setattr__" = some (some (.builtin "object.__setattr__")) := He.eqO_ok (c.fact 165 rfl)
  have exNotHome : PySem.W.subIn K (.ref (He.ga K "NotHome")) (.type "BaseException") = some true := of_decide_eq_true (c.fact 166 rfl)
  have etNotHome : PySem.W.typeIn K (.ref (He.ga K "NotHome")) = some (.type "type") := of_decide_eq_true (c.fact 167 rfl)
  have ekNotHome : PySem.W.keepIn K (.ref (He.ga K "NotHome")) = true := c.fact 168 rfl
  have eiNotHome : PySem.W.findIn K (.ref (He.ga K "NotHome")) "__init__" = some (some (.ref (He.ma K (He.ga K "NotHome") "__init__"))) := He.eqO_ok (c.fact 169 rfl)
  have ejNotHome : PySem.W.typeIn K (.ref (He.ma K (He.ga K "NotHome") "__init__")) = some (.type "function") := of_decide_eq_true (c.fact 170 rfl)
  have ewNotHome : PySem.W.findIn K (.ref (He.ga K "NotHome")) "word" = some none := He.eqO_ok (c.fact 171 rfl)
  have egNotMet : PySem.W.nsIn K mainGlobals "NotMet" = some (some (.ref (He.ga K "NotMet"))) := He.eqO_ok (c.fact 172 rfl)
  have eoNotMet : oexGB K (He.ga K "NotMet") = true := c.fact 173 rfl
  have esNotMet : PySem.W.findIn K (.ref (He.ga K "NotMet")) "__setattr__" = some (some (.builtin "object.__setattr__")) := He.eqO_ok (c.fact 174 rfl)
  have exNotMet : PySem.W.subIn K (.ref (He.ga K "NotMet")) (.type "BaseException") = some true := of_decide_eq_true (c.fact 175 rfl)
  have etNotMet : PySem.W.typeIn K (.ref (He.ga K "NotMet")) = some (.type "type") := of_decide_eq_true (c.fact 176 rfl)
  have ekNotMet : PySem.W.keepIn K (.ref (He.ga K "NotMet")) = true := c.fact 177 rfl
  have eiNotMet : PySem.W.findIn K (.ref (He.ga K "NotMet")) "__init__" = some (some (.ref (He.ma K (He.ga K "NotMet") "__init__"))) := He.eqO_ok (c.fact 178 rfl)
  have ejNotMet : PySem.W.typeIn K (.ref (He.ma K (He.ga K "NotMet") "__init__")) = some (.type "function") := of_decide_eq_true (c.fact 179 rfl)
  have ewNotMet : PySem.W.findIn K (.ref (He.ga K "NotMet")) "word" = some none := He.eqO_ok (c.fact 180 rfl)
  have egStays : PySem.W.nsIn K mainGlobals "Stays" = some (some (.ref (He.ga K "Stays"))) := He.eqO_ok (c.fact 181 rfl)
  have eoStays : oexGB K (He.ga K "Stays") = true := c.fact 182 rfl
  have esStays : PySem.W.findIn K (.ref (He.ga K "Stays")) "__setattr__" = some (some (.builtin "object.__setattr__")) := He.eqO_ok (c.fact 183 rfl)
  have exStays : PySem.W.subIn K (.ref (He.ga K "Stays")) (.type "BaseException") = some true := of_decide_eq_true (c.fact 184 rfl)
  have etStays : PySem.W.typeIn K (.ref (He.ga K "Stays")) = some (.type "type") := of_decide_eq_true (c.fact 185 rfl)
  have ekStays : PySem.W.keepIn K (.ref (He.ga K "Stays")) = true := c.fact 186 rfl
  have eiStays : PySem.W.findIn K (.ref (He.ga K "Stays")) "__init__" = some (some (.ref (He.ma K (He.ga K "Stays") "__init__"))) := He.eqO_ok (c.fact 187 rfl)
  have ejStays : PySem.W.typeIn K (.ref (He.ma K (He.ga K "Stays") "__init__")) = some (.type "function") := of_decide_eq_true (c.fact 188 rfl)
  have ewStays : PySem.W.findIn K (.ref (He.ga K "Stays")) "word" = some none := He.eqO_ok (c.fact 189 rfl)
  have egBadPlace : PySem.W.nsIn K mainGlobals "BadPlace" = some (some (.ref (He.ga K "BadPlace"))) := He.eqO_ok (c.fact 190 rfl)
  have eoBadPlace : oexGB K (He.ga K "BadPlace") = true := c.fact 191 rfl
  have esBadPlace : PySem.W.findIn K (.ref (He.ga K "BadPlace")) "__setattr__" = some (some (.builtin "object.__setattr__")) := He.eqO_ok (c.fact 192 rfl)
  have exBadPlace : PySem.W.subIn K (.ref (He.ga K "BadPlace")) (.type "BaseException") = some true := of_decide_eq_true (c.fact 193 rfl)
  have etBadPlace : PySem.W.typeIn K (.ref (He.ga K "BadPlace")) = some (.type "type") := of_decide_eq_true (c.fact 194 rfl)
  have ekBadPlace : PySem.W.keepIn K (.ref (He.ga K "BadPlace")) = true := c.fact 195 rfl
  have eiBadPlace : PySem.W.findIn K (.ref (He.ga K "BadPlace")) "__init__" = some (some (.ref (He.ma K (He.ga K "BadPlace") "__init__"))) := He.eqO_ok (c.fact 196 rfl)
  have ejBadPlace : PySem.W.typeIn K (.ref (He.ma K (He.ga K "BadPlace") "__init__")) = some (.type "function") := of_decide_eq_true (c.fact 197 rfl)
  have ewBadPlace : PySem.W.findIn K (.ref (He.ga K "BadPlace")) "word" = some none := He.eqO_ok (c.fact 198 rfl)
  have egStrange : PySem.W.nsIn K mainGlobals "Strange" = some (some (.ref (He.ga K "Strange"))) := He.eqO_ok (c.fact 199 rfl)
  have eoStrange : oexGB K (He.ga K "Strange") = true := c.fact 200 rfl
  have esStrange : PySem.W.findIn K (.ref (He.ga K "Strange")) "__setattr__" = some (some (.builtin "object.__setattr__")) := He.eqO_ok (c.fact 201 rfl)
  have exStrange : PySem.W.subIn K (.ref (He.ga K "Strange")) (.type "BaseException") = some true := of_decide_eq_true (c.fact 202 rfl)
  have etStrange : PySem.W.typeIn K (.ref (He.ga K "Strange")) = some (.type "type") := of_decide_eq_true (c.fact 203 rfl)
  have ekStrange : PySem.W.keepIn K (.ref (He.ga K "Strange")) = true := c.fact 204 rfl
  have eiStrange : PySem.W.findIn K (.ref (He.ga K "Strange")) "__init__" = some (some (.ref (He.ma K (He.ga K "Strange") "__init__"))) := He.eqO_ok (c.fact 205 rfl)
  have ejStrange : PySem.W.typeIn K (.ref (He.ma K (He.ga K "Strange") "__init__")) = some (.type "function") := of_decide_eq_true (c.fact 206 rfl)
  have ewStrange : PySem.W.findIn K (.ref (He.ga K "Strange")) "word" = some none := He.eqO_ok (c.fact 207 rfl)
  have egBadTerm : PySem.W.nsIn K mainGlobals "BadTerm" = some (some (.ref (He.ga K "BadTerm"))) := He.eqO_ok (c.fact 208 rfl)
  have eoBadTerm : oexGB K (He.ga K "BadTerm") = true := c.fact 209 rfl
  have esBadTerm : PySem.W.findIn K (.ref (He.ga K "BadTerm")) "__setattr__" = some (some (.builtin "object.__setattr__")) := He.eqO_ok (c.fact 210 rfl)
  have exBadTerm : PySem.W.subIn K (.ref (He.ga K "BadTerm")) (.type "BaseException") = some true := of_decide_eq_true (c.fact 211 rfl)
  have etBadTerm : PySem.W.typeIn K (.ref (He.ga K "BadTerm")) = some (.type "type") := of_decide_eq_true (c.fact 212 rfl)
  have ekBadTerm : PySem.W.keepIn K (.ref (He.ga K "BadTerm")) = true := c.fact 213 rfl
  have eiBadTerm : PySem.W.findIn K (.ref (He.ga K "BadTerm")) "__init__" = some (some (.ref (He.ma K (He.ga K "BadTerm") "__init__"))) := He.eqO_ok (c.fact 214 rfl)
  have ejBadTerm : PySem.W.typeIn K (.ref (He.ma K (He.ga K "BadTerm") "__init__")) = some (.type "function") := of_decide_eq_true (c.fact 215 rfl)
  have ewBadTerm : PySem.W.findIn K (.ref (He.ga K "BadTerm")) "word" = some none := He.eqO_ok (c.fact 216 rfl)
  have egNoWay : PySem.W.nsIn K mainGlobals "NoWay" = some (some (.ref (He.ga K "NoWay"))) := He.eqO_ok (c.fact 217 rfl)
  have eoNoWay : oexGB K (He.ga K "NoWay") = true := c.fact 218 rfl
  have esNoWay : PySem.W.findIn K (.ref (He.ga K "NoWay")) "__setattr__" = some (some (.builtin "object.__setattr__")) := He.eqO_ok (c.fact 219 rfl)
  have exNoWay : PySem.W.subIn K (.ref (He.ga K "NoWay")) (.type "BaseException") = some true := of_decide_eq_true (c.fact 220 rfl)
  have etNoWay : PySem.W.typeIn K (.ref (He.ga K "NoWay")) = some (.type "type") := of_decide_eq_true (c.fact 221 rfl)
  have ekNoWay : PySem.W.keepIn K (.ref (He.ga K "NoWay")) = true := c.fact 222 rfl
  have eiNoWay : PySem.W.findIn K (.ref (He.ga K "NoWay")) "__init__" = some (some (.ref (He.ma K (He.ga K "NoWay") "__init__"))) := He.eqO_ok (c.fact 223 rfl)
  have ejNoWay : PySem.W.typeIn K (.ref (He.ma K (He.ga K "NoWay") "__init__")) = some (.type "function") := of_decide_eq_true (c.fact 224 rfl)
  have ewNoWay : PySem.W.findIn K (.ref (He.ga K "NoWay")) "word" = some none := He.eqO_ok (c.fact 225 rfl)
  have egMoves : PySem.W.nsIn K mainGlobals "Moves" = some (some (.ref (He.ga K "Moves"))) := He.eqO_ok (c.fact 226 rfl)
  have eoMoves : oexGB K (He.ga K "Moves") = true := c.fact 227 rfl
  have esMoves : PySem.W.findIn K (.ref (He.ga K "Moves")) "__setattr__" = some (some (.builtin "object.__setattr__")) := He.eqO_ok (c.fact 228 rfl)
  have exMoves : PySem.W.subIn K (.ref (He.ga K "Moves")) (.type "BaseException") = some true := of_decide_eq_true (c.fact 229 rfl)
  have etMoves : PySem.W.typeIn K (.ref (He.ga K "Moves")) = some (.type "type") := of_decide_eq_true (c.fact 230 rfl)
  have ekMoves : PySem.W.keepIn K (.ref (He.ga K "Moves")) = true := c.fact 231 rfl
  have eiMoves : PySem.W.findIn K (.ref (He.ga K "Moves")) "__init__" = some (some (.ref (He.ma K (He.ga K "Moves") "__init__"))) := He.eqO_ok (c.fact 232 rfl)
  have ejMoves : PySem.W.typeIn K (.ref (He.ma K (He.ga K "Moves") "__init__")) = some (.type "function") := of_decide_eq_true (c.fact 233 rfl)
  have ewMoves : PySem.W.findIn K (.ref (He.ga K "Moves")) "word" = some none := He.eqO_ok (c.fact 234 rfl)
  have egRing : PySem.W.nsIn K mainGlobals "Ring" = some (some (.ref (He.ga K "Ring"))) := He.eqO_ok (c.fact 235 rfl)
  have eoRing : oexGB K (He.ga K "Ring") = true := c.fact 236 rfl
  have esRing : PySem.W.findIn K (.ref (He.ga K "Ring")) "__setattr__" = some (some (.builtin "object.__setattr__")) := He.eqO_ok (c.fact 237 rfl)
  have exRing : PySem.W.subIn K (.ref (He.ga K "Ring")) (.type "BaseException") = some true := of_decide_eq_true (c.fact 238 rfl)
  have etRing : PySem.W.typeIn K (.ref (He.ga K "Ring")) = some (.type "type") := of_decide_eq_true (c.fact 239 rfl)
  have ekRing : PySem.W.keepIn K (.ref (He.ga K "Ring")) = true := c.fact 240 rfl
  have eiRing : PySem.W.findIn K (.ref (He.ga K "Ring")) "__init__" = some (some (.ref (He.ma K (He.ga K "Ring") "__init__"))) := He.eqO_ok (c.fact 241 rfl)
  have ejRing : PySem.W.typeIn K (.ref (He.ma K (He.ga K "Ring") "__init__")) = some (.type "function") := of_decide_eq_true (c.fact 242 rfl)
  have ewRing : PySem.W.findIn K (.ref (He.ga K "Ring")) "word" = some none := He.eqO_ok (c.fact 243 rfl)
  have egInUse : PySem.W.nsIn K mainGlobals "InUse" = some (some (.ref (He.ga K "InUse"))) := He.eqO_ok (c.fact 244 rfl)
  have eoInUse : oexGB K (He.ga K "InUse") = true := c.fact 245 rfl
  have esInUse : PySem.W.findIn K (.ref (He.ga K "InUse")) "__setattr__" = some (some (.builtin "object.__setattr__")) := He.eqO_ok (c.fact 246 rfl)
  have exInUse : PySem.W.subIn K (.ref (He.ga K "InUse")) (.type "BaseException") = some true := of_decide_eq_true (c.fact 247 rfl)
  have etInUse : PySem.W.typeIn K (.ref (He.ga K "InUse")) = some (.type "type") := of_decide_eq_true (c.fact 248 rfl)
  have ekInUse : PySem.W.keepIn K (.ref (He.ga K "InUse")) = true := c.fact 249 rfl
  have eiInUse : PySem.W.findIn K (.ref (He.ga K "InUse")) "__init__" = some (some (.ref (He.ma K (He.ga K "InUse") "__init__"))) := He.eqO_ok (c.fact 250 rfl)
  have ejInUse : PySem.W.typeIn K (.ref (He.ma K (He.ga K "InUse") "__init__")) = some (.type "function") := of_decide_eq_true (c.fact 251 rfl)
  have ewInUse : PySem.W.findIn K (.ref (He.ga K "InUse")) "word" = some none := He.eqO_ok (c.fact 252 rfl)
  have efInUse : PySem.W.findIn K (.ref (He.ga K "InUse")) "name" = some none := He.eqO_ok (c.fact 253 rfl)
  have egBadNumber : PySem.W.nsIn K mainGlobals "BadNumber" = some (some (.ref (He.ga K "BadNumber"))) := He.eqO_ok (c.fact 254 rfl)
  have eoBadNumber : oexGB K (He.ga K "BadNumber") = true := c.fact 255 rfl
  have esBadNumber : PySem.W.findIn K (.ref (He.ga K "BadNumber")) "__setattr__" = some (some (.builtin "object.__setattr__")) := He.eqO_ok (c.fact 256 rfl)
  have exBadNumber : PySem.W.subIn K (.ref (He.ga K "BadNumber")) (.type "BaseException") = some true := of_decide_eq_true (c.fact 257 rfl)
  have etBadNumber : PySem.W.typeIn K (.ref (He.ga K "BadNumber")) = some (.type "type") := of_decide_eq_true (c.fact 258 rfl)
  have ekBadNumber : PySem.W.keepIn K (.ref (He.ga K "BadNumber")) = true := c.fact 259 rfl
  have eiBadNumber : PySem.W.findIn K (.ref (He.ga K "BadNumber")) "__init__" = some (some (.ref (He.ma K (He.ga K "BadNumber") "__init__"))) := He.eqO_ok (c.fact 260 rfl)
  have ejBadNumber : PySem.W.typeIn K (.ref (He.ma K (He.ga K "BadNumber") "__init__")) = some (.type "function") := of_decide_eq_true (c.fact 261 rfl)
  have ewBadNumber : PySem.W.findIn K (.ref (He.ga K "BadNumber")) "word" = some none := He.eqO_ok (c.fact 262 rfl)
  have egNoPassage : PySem.W.nsIn K mainGlobals "NoPassage" = some (some (.ref (He.ga K "NoPassage"))) := He.eqO_ok (c.fact 263 rfl)
  have eoNoPassage : oexGB K (He.ga K "NoPassage") = true := c.fact 264 rfl
  have esNoPassage : PySem.W.findIn K (.ref (He.ga K "NoPassage")) "__setattr__" = some (some (.builtin "object.__setattr__")) := He.eqO_ok (c.fact 265 rfl)
  have exNoPassage : PySem.W.subIn K (.ref (He.ga K "NoPassage")) (.type "BaseException") = some true := of_decide_eq_true (c.fact 266 rfl)
  have etNoPassage : PySem.W.typeIn K (.ref (He.ga K "NoPassage")) = some (.type "type") := of_decide_eq_true (c.fact 267 rfl)
  have ekNoPassage : PySem.W.keepIn K (.ref (He.ga K "NoPassage")) = true := c.fact 268 rfl
  have eiNoPassage : PySem.W.findIn K (.ref (He.ga K "NoPassage")) "__init__" = some (some (.ref (He.ma K (He.ga K "NoPassage") "__init__"))) := He.eqO_ok (c.fact 269 rfl)
  have ejNoPassage : PySem.W.typeIn K (.ref (He.ma K (He.ga K "NoPassage") "__init__")) = some (.type "function") := of_decide_eq_true (c.fact 270 rfl)
  have ewNoPassage : PySem.W.findIn K (.ref (He.ga K "NoPassage")) "word" = some none := He.eqO_ok (c.fact 271 rfl)
  have efNoPassage : PySem.W.findIn K (.ref (He.ga K "NoPassage")) "name" = some none := He.eqO_ok (c.fact 272 rfl)
  have egNoYard : PySem.W.nsIn K mainGlobals "NoYard" = some (some (.ref (He.ga K "NoYard"))) := He.eqO_ok (c.fact 273 rfl)
  have eoNoYard : oexGB K (He.ga K "NoYard") = true := c.fact 274 rfl
  have esNoYard : PySem.W.findIn K (.ref (He.ga K "NoYard")) "__setattr__" = some (some (.builtin "object.__setattr__")) := He.eqO_ok (c.fact 275 rfl)
  have exNoYard : PySem.W.subIn K (.ref (He.ga K "NoYard")) (.type "BaseException") = some true := of_decide_eq_true (c.fact 276 rfl)
  have etNoYard : PySem.W.typeIn K (.ref (He.ga K "NoYard")) = some (.type "type") := of_decide_eq_true (c.fact 277 rfl)
  have ekNoYard : PySem.W.keepIn K (.ref (He.ga K "NoYard")) = true := c.fact 278 rfl
  have eiNoYard : PySem.W.findIn K (.ref (He.ga K "NoYard")) "__init__" = some (some (.ref (He.ma K (He.ga K "NoYard") "__init__"))) := He.eqO_ok (c.fact 279 rfl)
  have ejNoYard : PySem.W.typeIn K (.ref (He.ma K (He.ga K "NoYard") "__init__")) = some (.type "function") := of_decide_eq_true (c.fact 280 rfl)
  have ewNoYard : PySem.W.findIn K (.ref (He.ga K "NoYard")) "word" = some none := He.eqO_ok (c.fact 281 rfl)
  have efNoYard : PySem.W.findIn K (.ref (He.ga K "NoYard")) "name" = some none := He.eqO_ok (c.fact 282 rfl)
  have egNoName : PySem.W.nsIn K mainGlobals "NoName" = some (some (.ref (He.ga K "NoName"))) := He.eqO_ok (c.fact 283 rfl)
  have eoNoName : oexGB K (He.ga K "NoName") = true := c.fact 284 rfl
  have esNoName : PySem.W.findIn K (.ref (He.ga K "NoName")) "__setattr__" = some (some (.builtin "object.__setattr__")) := He.eqO_ok (c.fact 285 rfl)
  have exNoName : PySem.W.subIn K (.ref (He.ga K "NoName")) (.type "BaseException") = some true := of_decide_eq_true (c.fact 286 rfl)
  have etNoName : PySem.W.typeIn K (.ref (He.ga K "NoName")) = some (.type "type") := of_decide_eq_true (c.fact 287 rfl)
  have ekNoName : PySem.W.keepIn K (.ref (He.ga K "NoName")) = true := c.fact 288 rfl
  have eiNoName : PySem.W.findIn K (.ref (He.ga K "NoName")) "__init__" = some (some (.ref (He.ma K (He.ga K "NoName") "__init__"))) := He.eqO_ok (c.fact 289 rfl)
  have ejNoName : PySem.W.typeIn K (.ref (He.ma K (He.ga K "NoName") "__init__")) = some (.type "function") := of_decide_eq_true (c.fact 290 rfl)
  have ewNoName : PySem.W.findIn K (.ref (He.ga K "NoName")) "word" = some none := He.eqO_ok (c.fact 291 rfl)
  have efNoName : PySem.W.findIn K (.ref (He.ga K "NoName")) "name" = some none := He.eqO_ok (c.fact 292 rfl)
  have egNothingLeft : PySem.W.nsIn K mainGlobals "NothingLeft" = some (some (.ref (He.ga K "NothingLeft"))) := He.eqO_ok (c.fact 293 rfl)
  have eoNothingLeft : oexGB K (He.ga K "NothingLeft") = true := c.fact 294 rfl
  have esNothingLeft : PySem.W.findIn K (.ref (He.ga K "NothingLeft")) "__setattr__" = some (some (.builtin "object.__setattr__")) := He.eqO_ok (c.fact 295 rfl)
  have exNothingLeft : PySem.W.subIn K (.ref (He.ga K "NothingLeft")) (.type "BaseException") = some true := of_decide_eq_true (c.fact 296 rfl)
  have etNothingLeft : PySem.W.typeIn K (.ref (He.ga K "NothingLeft")) = some (.type "type") := of_decide_eq_true (c.fact 297 rfl)
  have ekNothingLeft : PySem.W.keepIn K (.ref (He.ga K "NothingLeft")) = true := c.fact 298 rfl
  have eiNothingLeft : PySem.W.findIn K (.ref (He.ga K "NothingLeft")) "__init__" = some (some (.ref (He.ma K (He.ga K "NothingLeft") "__init__"))) := He.eqO_ok (c.fact 299 rfl)
  have ejNothingLeft : PySem.W.typeIn K (.ref (He.ma K (He.ga K "NothingLeft") "__init__")) = some (.type "function") := of_decide_eq_true (c.fact 300 rfl)
  have ewNothingLeft : PySem.W.findIn K (.ref (He.ga K "NothingLeft")) "word" = some none := He.eqO_ok (c.fact 301 rfl)
  have isE : isEB K [("Missing", (He.ga K "Missing")), ("BadRow", (He.ga K "BadRow")), ("Tied", (He.ga K "Tied")), ("BadTurns", (He.ga K "BadTurns")), ("Full", (He.ga K "Full")), ("BadDeed", (He.ga K "BadDeed")), ("BadExchange", (He.ga K "BadExchange")), ("BadText", (He.ga K "BadText")), ("Astray", (He.ga K "Astray")), ("NoWalk", (He.ga K "NoWalk")), ("Breaks", (He.ga K "Breaks")), ("Taken", (He.ga K "Taken")), ("BadName", (He.ga K "BadName")), ("BadWay", (He.ga K "BadWay")), ("TooGreat", (He.ga K "TooGreat")), ("TooLong", (He.ga K "TooLong")), ("NotHome", (He.ga K "NotHome")), ("NotMet", (He.ga K "NotMet")), ("Stays", (He.ga K "Stays")), ("BadPlace", (He.ga K "BadPlace")), ("Strange", (He.ga K "Strange")), ("BadTerm", (He.ga K "BadTerm")), ("NoWay", (He.ga K "NoWay")), ("Moves", (He.ga K "Moves")), ("Ring", (He.ga K "Ring")), ("InUse", (He.ga K "InUse")), ("BadNumber", (He.ga K "BadNumber")), ("NoPassage", (He.ga K "NoPassage")), ("NoYard", (He.ga K "NoYard")), ("NoName", (He.ga K "NoName")), ("NothingLeft", (He.ga K "NothingLeft"))] [(.ref (He.ga K "Missing"), ["Missing", "NoName", "NoYard", "NoPassage", "NoWalk"]), (.type "ValueError", ["BadName", "Taken", "Full", "BadTurns", "Tied", "BadWay", "BadRow", "Astray", "TooLong", "TooGreat", "NotMet", "NotHome", "BadExchange", "Strange", "BadPlace", "Stays", "Moves", "NoWay", "BadTerm", "BadText", "InUse", "Ring", "Breaks", "BadDeed", "BadNumber"]), (.ref (He.ga K "HawserError"), ["BadName", "Taken", "Full", "BadTurns", "Tied", "BadWay", "BadRow", "Astray", "TooLong", "TooGreat", "NotMet", "NotHome", "BadExchange", "Strange", "BadPlace", "Stays", "Moves", "NoWay", "BadTerm", "BadText", "InUse", "Ring", "Breaks", "BadDeed", "BadNumber"]), (.type "IndexError", ["NothingLeft"]), (.type "LookupError", ["Missing", "NoName", "NoYard", "NoPassage", "NoWalk", "NothingLeft"]), (.ref (He.ga K "BadTurns"), ["BadTurns"]), (.ref (He.ga K "Full"), ["Full"]), (.ref (He.ga K "Taken"), ["Taken"]), (.ref (He.ga K "BadName"), ["BadName"]), (.ref (He.ga K "BadRow"), ["BadRow"]), (.ref (He.ga K "BadWay"), ["BadWay"]), (.ref (He.ga K "Tied"), ["Tied"]), (.ref (He.ga K "TooGreat"), ["TooGreat"]), (.ref (He.ga K "TooLong"), ["TooLong"]), (.ref (He.ga K "Astray"), ["Astray"]), (.ref (He.ga K "BadExchange"), ["BadExchange"]), (.ref (He.ga K "NotHome"), ["NotHome"]), (.ref (He.ga K "NotMet"), ["NotMet"]), (.ref (He.ga K "Stays"), ["Stays"]), (.ref (He.ga K "BadPlace"), ["BadPlace"]), (.ref (He.ga K "Strange"), ["Strange"]), (.ref (He.ga K "BadTerm"), ["BadTerm"]), (.ref (He.ga K "NoWay"), ["NoWay"]), (.ref (He.ga K "Moves"), ["Moves"]), (.ref (He.ga K "Ring"), ["Ring"]), (.ref (He.ga K "InUse"), ["InUse"]), (.ref (He.ga K "BadText"), ["BadText"]), (.ref (He.ga K "BadNumber"), ["BadNumber"]), (.ref (He.ga K "BadDeed"), ["BadDeed"]), (.ref (He.ga K "Breaks"), ["Breaks"]), (.ref (He.ga K "NoPassage"), ["NoPassage"]), (.ref (He.ga K "NoYard"), ["NoYard"]), (.ref (He.ga K "NoName"), ["NoName"]), (.ref (He.ga K "NothingLeft"), ["NothingLeft"]), (.ref (He.ga K "NoWalk"), ["NoWalk"])] = true := c.fact 302 rfl
  have hhHawserError : PySem.W.nsIn K mainGlobals "HawserError" = some (some (.ref (He.ga K "HawserError"))) := He.eqO_ok (c.fact 303 rfl)
  have xbMissing : xfB K (He.ga K "Missing") = true := c.fact 304 rfl
  have xbBadRow : xfB K (He.ga K "BadRow") = true := c.fact 305 rfl
  have xbTied : xfB K (He.ga K "Tied") = true := c.fact 306 rfl
  have xbBadTurns : xfB K (He.ga K "BadTurns") = true := c.fact 307 rfl
  have xbFull : xfB K (He.ga K "Full") = true := c.fact 308 rfl
  have xbBadDeed : xfB K (He.ga K "BadDeed") = true := c.fact 309 rfl
  have xbBadExchange : xfB K (He.ga K "BadExchange") = true := c.fact 310 rfl
  have xbBadText : xfB K (He.ga K "BadText") = true := c.fact 311 rfl
  have xbAstray : xfB K (He.ga K "Astray") = true := c.fact 312 rfl
  have xbNoWalk : xfB K (He.ga K "NoWalk") = true := c.fact 313 rfl
  have xbBreaks : xfB K (He.ga K "Breaks") = true := c.fact 314 rfl
  have xbTaken : xfB K (He.ga K "Taken") = true := c.fact 315 rfl
  have xbBadName : xfB K (He.ga K "BadName") = true := c.fact 316 rfl
  have xbBadWay : xfB K (He.ga K "BadWay") = true := c.fact 317 rfl
  have xbTooGreat : xfB K (He.ga K "TooGreat") = true := c.fact 318 rfl
  have xbTooLong : xfB K (He.ga K "TooLong") = true := c.fact 319 rfl
  have xbNotHome : xfB K (He.ga K "NotHome") = true := c.fact 320 rfl
  have xbNotMet : xfB K (He.ga K "NotMet") = true := c.fact 321 rfl
  have xbStays : xfB K (He.ga K "Stays") = true := c.fact 322 rfl
  have xbBadPlace : xfB K (He.ga K "BadPlace") = true := c.fact 323 rfl
  have xbStrange : xfB K (He.ga K "Strange") = true := c.fact 324 rfl
  have xbBadTerm : xfB K (He.ga K "BadTerm") = true := c.fact 325 rfl
  have xbNoWay : xfB K (He.ga K "NoWay") = true := c.fact 326 rfl
  have xbMoves : xfB K (He.ga K "Moves") = true := c.fact 327 rfl
  have xbRing : xfB K (He.ga K "Ring") = true := c.fact 328 rfl
  have xbInUse : xfB K (He.ga K "InUse") = true := c.fact 329 rfl
  have xbBadNumber : xfB K (He.ga K "BadNumber") = true := c.fact 330 rfl
  have xbNoPassage : xfB K (He.ga K "NoPassage") = true := c.fact 331 rfl
  have xbNoYard : xfB K (He.ga K "NoYard") = true := c.fact 332 rfl
  have xbNoName : xfB K (He.ga K "NoName") = true := c.fact 333 rfl
  have xbNothingLeft : xfB K (He.ga K "NothingLeft") = true := c.fact 334 rfl
  have zrange : PySem.W.nsIn K mainGlobals "range" = some none := He.eqO_ok (c.fact 335 rfl)
  have zisinstance : PySem.W.nsIn K mainGlobals "isinstance" = some none := He.eqO_ok (c.fact 336 rfl)
  have zValueError : PySem.W.nsIn K mainGlobals "ValueError" = some none := He.eqO_ok (c.fact 337 rfl)
  have zIndexError : PySem.W.nsIn K mainGlobals "IndexError" = some none := He.eqO_ok (c.fact 338 rfl)
  have zLookupError : PySem.W.nsIn K mainGlobals "LookupError" = some none := He.eqO_ok (c.fact 339 rfl)
  have zlen : PySem.W.nsIn K mainGlobals "len" = some none := He.eqO_ok (c.fact 340 rfl)
  have zabs : PySem.W.nsIn K mainGlobals "abs" = some none := He.eqO_ok (c.fact 341 rfl)
  have zlist : PySem.W.nsIn K mainGlobals "list" = some none := He.eqO_ok (c.fact 342 rfl)
  have zbool : PySem.W.nsIn K mainGlobals "bool" = some none := He.eqO_ok (c.fact 343 rfl)
  have zint : PySem.W.nsIn K mainGlobals "int" = some none := He.eqO_ok (c.fact 344 rfl)
  have zstr : PySem.W.nsIn K mainGlobals "str" = some none := He.eqO_ok (c.fact 345 rfl)
  have ztuple : PySem.W.nsIn K mainGlobals "tuple" = some none := He.eqO_ok (c.fact 346 rfl)
  have zall : PySem.W.nsIn K mainGlobals "all" = some none := He.eqO_ok (c.fact 347 rfl)
  have e := hfa.symm.trans (PySem.W.mg_of X G a6)
  have e2 : (He.fAd K ("law", none)) = fa := by cases e; rfl
  subst e2
  obtain ⟨d1, FD1⟩ := c.def_ 0 rfl
  have F1 : Fun K "_law_draw" "_law_draw" s_law_draw (He.fAd K ("_law_draw", none)) d1 := funOfD FD1
  have b1 := F1.binds (ps := ["_law_flow_here", "_law_size"]) fun _ _ _ _ _ _ us hl => match us, hl with | [_, _], _ => rfl
  obtain ⟨d2, FD2⟩ := c.def_ 1 rfl
  have F2 : Fun K "_law_flags" "_law_flags" s_law_flags (He.fAd K ("_law_flags", none)) d2 := funOfD FD2
  have b2 := F2.binds (ps := ["_law_e"]) fun _ _ _ _ _ _ us hl => match us, hl with | [_], _ => rfl
  obtain ⟨d3, FD3⟩ := c.def_ 2 rfl
  have F3 : Fun K "_law_flow" "_law_flow" s_law_flow (He.fAd K ("_law_flow", none)) d3 := funOfD FD3
  have b3 := F3.binds (ps := ["_law_script"]) fun _ _ _ _ _ _ us hl => match us, hl with | [_], _ => rfl
  obtain ⟨d4, FD4⟩ := c.def_ 3 rfl
  have F4 : Fun K "_law_made_error" "_law_made_error" s_law_made_error (He.fAd K ("_law_made_error", none)) d4 := funOfD FD4
  have b4 := F4.binds (ps := ["_law_at", "_law_field"]) fun _ _ _ _ _ _ us hl => match us, hl with | [_, _], _ => rfl
  obtain ⟨d5, FD5⟩ := c.def_ 4 rfl
  have F5 : Fun K "_law_same" "_law_same" s_law_same (He.fAd K ("_law_same", none)) d5 := funOfD FD5
  have b5 := F5.binds (ps := ["_law_found", "_law_due"]) fun _ _ _ _ _ _ us hl => match us, hl with | [_, _], _ => rfl
  obtain ⟨d6, FD6⟩ := c.def_ 5 rfl
  have F6 : Fun K "law" "law" s_law (He.fAd K ("law", none)) d6 := funOfD FD6
  have b6 := F6.binds (ps := ["_law_script"]) fun _ _ _ _ _ _ us hl => match us, hl with | [_], _ => rfl
  obtain ⟨dXMissing, FDXMissing⟩ := c.def_ 6 rfl
  have FXMissing : Fun K "__init__" "Missing.__init__" s_Missing_init (He.ma K (He.ga K "Missing") "__init__") dXMissing := funOfD FDXMissing
  have bXMissing := FXMissing.binds (ps := ["self", "name"]) fun _ _ _ _ _ _ us hl => match us, hl with | [_, _], _ => rfl
  obtain ⟨dXBadRow, FDXBadRow⟩ := c.def_ 7 rfl
  have FXBadRow : Fun K "__init__" "BadRow.__init__" s_BadRow_init (He.ma K (He.ga K "BadRow") "__init__") dXBadRow := funOfD FDXBadRow
  have bXBadRow := FXBadRow.binds (ps := ["self", "at"]) fun _ _ _ _ _ _ us hl => match us, hl with | [_, _], _ => rfl
  obtain ⟨dXTied, FDXTied⟩ := c.def_ 8 rfl
  have FXTied : Fun K "__init__" "Tied.__init__" s_Tied_init (He.ma K (He.ga K "Tied") "__init__") dXTied := funOfD FDXTied
  have bXTied := FXTied.binds (ps := ["self", "name"]) fun _ _ _ _ _ _ us hl => match us, hl with | [_, _], _ => rfl
  obtain ⟨dXBadTurns, FDXBadTurns⟩ := c.def_ 9 rfl
  have FXBadTurns : Fun K "__init__" "BadTurns.__init__" s_BadTurns_init (He.ma K (He.ga K "BadTurns") "__init__") dXBadTurns := funOfD FDXBadTurns
  have bXBadTurns := FXBadTurns.binds (ps := ["self", "number"]) fun _ _ _ _ _ _ us hl => match us, hl with | [_, _], _ => rfl
  obtain ⟨dXFull, FDXFull⟩ := c.def_ 10 rfl
  have FXFull : Fun K "__init__" "Full.__init__" s_Full_init (He.ma K (He.ga K "Full") "__init__") dXFull := funOfD FDXFull
  have bXFull := FXFull.binds (ps := ["self", "many"]) fun _ _ _ _ _ _ us hl => match us, hl with | [_, _], _ => rfl
  obtain ⟨dXBadDeed, FDXBadDeed⟩ := c.def_ 11 rfl
  have FXBadDeed : Fun K "__init__" "BadDeed.__init__" s_BadDeed_init (He.ma K (He.ga K "BadDeed") "__init__") dXBadDeed := funOfD FDXBadDeed
  have bXBadDeed := FXBadDeed.binds (ps := ["self", "at"]) fun _ _ _ _ _ _ us hl => match us, hl with | [_, _], _ => rfl
  obtain ⟨dXBadExchange, FDXBadExchange⟩ := c.def_ 12 rfl
  have FXBadExchange : Fun K "__init__" "BadExchange.__init__" s_BadExchange_init (He.ma K (He.ga K "BadExchange") "__init__") dXBadExchange := funOfD FDXBadExchange
  have bXBadExchange := FXBadExchange.binds (ps := ["self", "at"]) fun _ _ _ _ _ _ us hl => match us, hl with | [_, _], _ => rfl
  obtain ⟨dXBadText, FDXBadText⟩ := c.def_ 13 rfl
  have FXBadText : Fun K "__init__" "BadText.__init__" s_BadText_init (He.ma K (He.ga K "BadText") "__init__") dXBadText := funOfD FDXBadText
  have bXBadText := FXBadText.binds (ps := ["self", "at"]) fun _ _ _ _ _ _ us hl => match us, hl with | [_, _], _ => rfl
  obtain ⟨dXAstray, FDXAstray⟩ := c.def_ 14 rfl
  have FXAstray : Fun K "__init__" "Astray.__init__" s_Astray_init (He.ma K (He.ga K "Astray") "__init__") dXAstray := funOfD FDXAstray
  have bXAstray := FXAstray.binds (ps := ["self", "at"]) fun _ _ _ _ _ _ us hl => match us, hl with | [_, _], _ => rfl
  obtain ⟨dXNoWalk, FDXNoWalk⟩ := c.def_ 15 rfl
  have FXNoWalk : Fun K "__init__" "NoWalk.__init__" s_NoWalk_init (He.ma K (He.ga K "NoWalk") "__init__") dXNoWalk := funOfD FDXNoWalk
  have bXNoWalk := FXNoWalk.binds (ps := ["self", "name"]) fun _ _ _ _ _ _ us hl => match us, hl with | [_, _], _ => rfl
  obtain ⟨dXBreaks, FDXBreaks⟩ := c.def_ 16 rfl
  have FXBreaks : Fun K "__init__" "Breaks.__init__" s_Breaks_init (He.ma K (He.ga K "Breaks") "__init__") dXBreaks := funOfD FDXBreaks
  have bXBreaks := FXBreaks.binds (ps := ["self", "name"]) fun _ _ _ _ _ _ us hl => match us, hl with | [_, _], _ => rfl
  obtain ⟨dXTaken, FDXTaken⟩ := c.def_ 17 rfl
  have FXTaken : Fun K "__init__" "Taken.__init__" s_Taken_init (He.ma K (He.ga K "Taken") "__init__") dXTaken := funOfD FDXTaken
  have bXTaken := FXTaken.binds (ps := ["self", "name"]) fun _ _ _ _ _ _ us hl => match us, hl with | [_, _], _ => rfl
  obtain ⟨dXBadName, FDXBadName⟩ := c.def_ 18 rfl
  have FXBadName : Fun K "__init__" "BadName.__init__" s_BadName_init (He.ma K (He.ga K "BadName") "__init__") dXBadName := funOfD FDXBadName
  have bXBadName := FXBadName.binds (ps := ["self", "name"]) fun _ _ _ _ _ _ us hl => match us, hl with | [_, _], _ => rfl
  obtain ⟨dXBadWay, FDXBadWay⟩ := c.def_ 19 rfl
  have FXBadWay : Fun K "__init__" "BadWay.__init__" s_BadWay_init (He.ma K (He.ga K "BadWay") "__init__") dXBadWay := funOfD FDXBadWay
  have bXBadWay := FXBadWay.binds (ps := ["self"]) fun _ _ _ _ _ _ us hl => match us, hl with | [_], _ => rfl
  obtain ⟨dXTooGreat, FDXTooGreat⟩ := c.def_ 20 rfl
  have FXTooGreat : Fun K "__init__" "TooGreat.__init__" s_TooGreat_init (He.ma K (He.ga K "TooGreat") "__init__") dXTooGreat := funOfD FDXTooGreat
  have bXTooGreat := FXTooGreat.binds (ps := ["self"]) fun _ _ _ _ _ _ us hl => match us, hl with | [_], _ => rfl
  obtain ⟨dXTooLong, FDXTooLong⟩ := c.def_ 21 rfl
  have FXTooLong : Fun K "__init__" "TooLong.__init__" s_TooLong_init (He.ma K (He.ga K "TooLong") "__init__") dXTooLong := funOfD FDXTooLong
  have bXTooLong := FXTooLong.binds (ps := ["self"]) fun _ _ _ _ _ _ us hl => match us, hl with | [_], _ => rfl
  obtain ⟨dXNotHome, FDXNotHome⟩ := c.def_ 22 rfl
  have FXNotHome : Fun K "__init__" "NotHome.__init__" s_NotHome_init (He.ma K (He.ga K "NotHome") "__init__") dXNotHome := funOfD FDXNotHome
  have bXNotHome := FXNotHome.binds (ps := ["self"]) fun _ _ _ _ _ _ us hl => match us, hl with | [_], _ => rfl
  obtain ⟨dXNotMet, FDXNotMet⟩ := c.def_ 23 rfl
  have FXNotMet : Fun K "__init__" "NotMet.__init__" s_NotMet_init (He.ma K (He.ga K "NotMet") "__init__") dXNotMet := funOfD FDXNotMet
  have bXNotMet := FXNotMet.binds (ps := ["self"]) fun _ _ _ _ _ _ us hl => match us, hl with | [_], _ => rfl
  obtain ⟨dXStays, FDXStays⟩ := c.def_ 24 rfl
  have FXStays : Fun K "__init__" "Stays.__init__" s_Stays_init (He.ma K (He.ga K "Stays") "__init__") dXStays := funOfD FDXStays
  have bXStays := FXStays.binds (ps := ["self"]) fun _ _ _ _ _ _ us hl => match us, hl with | [_], _ => rfl
  obtain ⟨dXBadPlace, FDXBadPlace⟩ := c.def_ 25 rfl
  have FXBadPlace : Fun K "__init__" "BadPlace.__init__" s_BadPlace_init (He.ma K (He.ga K "BadPlace") "__init__") dXBadPlace := funOfD FDXBadPlace
  have bXBadPlace := FXBadPlace.binds (ps := ["self"]) fun _ _ _ _ _ _ us hl => match us, hl with | [_], _ => rfl
  obtain ⟨dXStrange, FDXStrange⟩ := c.def_ 26 rfl
  have FXStrange : Fun K "__init__" "Strange.__init__" s_Strange_init (He.ma K (He.ga K "Strange") "__init__") dXStrange := funOfD FDXStrange
  have bXStrange := FXStrange.binds (ps := ["self"]) fun _ _ _ _ _ _ us hl => match us, hl with | [_], _ => rfl
  obtain ⟨dXBadTerm, FDXBadTerm⟩ := c.def_ 27 rfl
  have FXBadTerm : Fun K "__init__" "BadTerm.__init__" s_BadTerm_init (He.ma K (He.ga K "BadTerm") "__init__") dXBadTerm := funOfD FDXBadTerm
  have bXBadTerm := FXBadTerm.binds (ps := ["self"]) fun _ _ _ _ _ _ us hl => match us, hl with | [_], _ => rfl
  obtain ⟨dXNoWay, FDXNoWay⟩ := c.def_ 28 rfl
  have FXNoWay : Fun K "__init__" "NoWay.__init__" s_NoWay_init (He.ma K (He.ga K "NoWay") "__init__") dXNoWay := funOfD FDXNoWay
  have bXNoWay := FXNoWay.binds (ps := ["self"]) fun _ _ _ _ _ _ us hl => match us, hl with | [_], _ => rfl
  obtain ⟨dXMoves, FDXMoves⟩ := c.def_ 29 rfl
  have FXMoves : Fun K "__init__" "Moves.__init__" s_Moves_init (He.ma K (He.ga K "Moves") "__init__") dXMoves := funOfD FDXMoves
  have bXMoves := FXMoves.binds (ps := ["self"]) fun _ _ _ _ _ _ us hl => match us, hl with | [_], _ => rfl
  obtain ⟨dXRing, FDXRing⟩ := c.def_ 30 rfl
  have FXRing : Fun K "__init__" "Ring.__init__" s_Ring_init (He.ma K (He.ga K "Ring") "__init__") dXRing := funOfD FDXRing
  have bXRing := FXRing.binds (ps := ["self"]) fun _ _ _ _ _ _ us hl => match us, hl with | [_], _ => rfl
  obtain ⟨dXInUse, FDXInUse⟩ := c.def_ 31 rfl
  have FXInUse : Fun K "__init__" "InUse.__init__" s_InUse_init (He.ma K (He.ga K "InUse") "__init__") dXInUse := funOfD FDXInUse
  have bXInUse := FXInUse.binds (ps := ["self", "name"]) fun _ _ _ _ _ _ us hl => match us, hl with | [_, _], _ => rfl
  obtain ⟨dXBadNumber, FDXBadNumber⟩ := c.def_ 32 rfl
  have FXBadNumber : Fun K "__init__" "BadNumber.__init__" s_BadNumber_init (He.ma K (He.ga K "BadNumber") "__init__") dXBadNumber := funOfD FDXBadNumber
  have bXBadNumber := FXBadNumber.binds (ps := ["self"]) fun _ _ _ _ _ _ us hl => match us, hl with | [_], _ => rfl
  obtain ⟨dXNoPassage, FDXNoPassage⟩ := c.def_ 33 rfl
  have FXNoPassage : Fun K "__init__" "NoPassage.__init__" s_NoPassage_init (He.ma K (He.ga K "NoPassage") "__init__") dXNoPassage := funOfD FDXNoPassage
  have bXNoPassage := FXNoPassage.binds (ps := ["self", "name"]) fun _ _ _ _ _ _ us hl => match us, hl with | [_, _], _ => rfl
  obtain ⟨dXNoYard, FDXNoYard⟩ := c.def_ 34 rfl
  have FXNoYard : Fun K "__init__" "NoYard.__init__" s_NoYard_init (He.ma K (He.ga K "NoYard") "__init__") dXNoYard := funOfD FDXNoYard
  have bXNoYard := FXNoYard.binds (ps := ["self", "name"]) fun _ _ _ _ _ _ us hl => match us, hl with | [_, _], _ => rfl
  obtain ⟨dXNoName, FDXNoName⟩ := c.def_ 35 rfl
  have FXNoName : Fun K "__init__" "NoName.__init__" s_NoName_init (He.ma K (He.ga K "NoName") "__init__") dXNoName := funOfD FDXNoName
  have bXNoName := FXNoName.binds (ps := ["self", "name"]) fun _ _ _ _ _ _ us hl => match us, hl with | [_, _], _ => rfl
  obtain ⟨dXNothingLeft, FDXNothingLeft⟩ := c.def_ 36 rfl
  have FXNothingLeft : Fun K "__init__" "NothingLeft.__init__" s_NothingLeft_init (He.ma K (He.ga K "NothingLeft") "__init__") dXNothingLeft := funOfD FDXNothingLeft
  have bXNothingLeft := FXNothingLeft.binds (ps := ["self"]) fun _ _ _ _ _ _ us hl => match us, hl with | [_], _ => rfl
  have T : Tx K mg ⟨(He.fAd K ("_law_draw", none)), d1, (He.fAd K ("_law_flags", none)), d2, (He.fAd K ("_law_flow", none)), d3, (He.fAd K ("_law_made_error", none)), d4, (He.fAd K ("_law_same", none)), d5, (He.fAd K ("law", none)), d6, He.ga K "HawserError", He.ga K "Missing", He.ma K (He.ga K "Missing") "__init__", dXMissing, He.ga K "BadRow", He.ma K (He.ga K "BadRow") "__init__", dXBadRow, He.ga K "Tied", He.ma K (He.ga K "Tied") "__init__", dXTied, He.ga K "BadTurns", He.ma K (He.ga K "BadTurns") "__init__", dXBadTurns, He.ga K "Full", He.ma K (He.ga K "Full") "__init__", dXFull, He.ga K "BadDeed", He.ma K (He.ga K "BadDeed") "__init__", dXBadDeed, He.ga K "BadExchange", He.ma K (He.ga K "BadExchange") "__init__", dXBadExchange, He.ga K "BadText", He.ma K (He.ga K "BadText") "__init__", dXBadText, He.ga K "Astray", He.ma K (He.ga K "Astray") "__init__", dXAstray, He.ga K "NoWalk", He.ma K (He.ga K "NoWalk") "__init__", dXNoWalk, He.ga K "Breaks", He.ma K (He.ga K "Breaks") "__init__", dXBreaks, He.ga K "Taken", He.ma K (He.ga K "Taken") "__init__", dXTaken, He.ga K "BadName", He.ma K (He.ga K "BadName") "__init__", dXBadName, He.ga K "BadWay", He.ma K (He.ga K "BadWay") "__init__", dXBadWay, He.ga K "TooGreat", He.ma K (He.ga K "TooGreat") "__init__", dXTooGreat, He.ga K "TooLong", He.ma K (He.ga K "TooLong") "__init__", dXTooLong, He.ga K "NotHome", He.ma K (He.ga K "NotHome") "__init__", dXNotHome, He.ga K "NotMet", He.ma K (He.ga K "NotMet") "__init__", dXNotMet, He.ga K "Stays", He.ma K (He.ga K "Stays") "__init__", dXStays, He.ga K "BadPlace", He.ma K (He.ga K "BadPlace") "__init__", dXBadPlace, He.ga K "Strange", He.ma K (He.ga K "Strange") "__init__", dXStrange, He.ga K "BadTerm", He.ma K (He.ga K "BadTerm") "__init__", dXBadTerm, He.ga K "NoWay", He.ma K (He.ga K "NoWay") "__init__", dXNoWay, He.ga K "Moves", He.ma K (He.ga K "Moves") "__init__", dXMoves, He.ga K "Ring", He.ma K (He.ga K "Ring") "__init__", dXRing, He.ga K "InUse", He.ma K (He.ga K "InUse") "__init__", dXInUse, He.ga K "BadNumber", He.ma K (He.ga K "BadNumber") "__init__", dXBadNumber, He.ga K "NoPassage", He.ma K (He.ga K "NoPassage") "__init__", dXNoPassage, He.ga K "NoYard", He.ma K (He.ga K "NoYard") "__init__", dXNoYard, He.ga K "NoName", He.ma K (He.ga K "NoName") "__init__", dXNoName, He.ga K "NothingLeft", He.ma K (He.ga K "NothingLeft") "__init__", dXNothingLeft⟩ := {
    F_law_draw := F1, g_law_draw := PySem.W.mg_of X G a1, b_law_draw := b1,
    F_law_flags := F2, g_law_flags := PySem.W.mg_of X G a2, b_law_flags := b2,
    F_law_flow := F3, g_law_flow := PySem.W.mg_of X G a3, b_law_flow := b3,
    F_law_made_error := F4, g_law_made_error := PySem.W.mg_of X G a4, b_law_made_error := b4,
    F_law_same := F5, g_law_same := PySem.W.mg_of X G a5, b_law_same := b5,
    F_law := F6, g_law := PySem.W.mg_of X G a6, b_law := b6,
    isE := isE,
    h_HawserError := PySem.W.mg_of X G hhHawserError,
    xf_Missing := xfB_ok xbMissing,
    xf_BadRow := xfB_ok xbBadRow,
    xf_Tied := xfB_ok xbTied,
    xf_BadTurns := xfB_ok xbBadTurns,
    xf_Full := xfB_ok xbFull,
    xf_BadDeed := xfB_ok xbBadDeed,
    xf_BadExchange := xfB_ok xbBadExchange,
    xf_BadText := xfB_ok xbBadText,
    xf_Astray := xfB_ok xbAstray,
    xf_NoWalk := xfB_ok xbNoWalk,
    xf_Breaks := xfB_ok xbBreaks,
    xf_Taken := xfB_ok xbTaken,
    xf_BadName := xfB_ok xbBadName,
    xf_BadWay := xfB_ok xbBadWay,
    xf_TooGreat := xfB_ok xbTooGreat,
    xf_TooLong := xfB_ok xbTooLong,
    xf_NotHome := xfB_ok xbNotHome,
    xf_NotMet := xfB_ok xbNotMet,
    xf_Stays := xfB_ok xbStays,
    xf_BadPlace := xfB_ok xbBadPlace,
    xf_Strange := xfB_ok xbStrange,
    xf_BadTerm := xfB_ok xbBadTerm,
    xf_NoWay := xfB_ok xbNoWay,
    xf_Moves := xfB_ok xbMoves,
    xf_Ring := xfB_ok xbRing,
    xf_InUse := xfB_ok xbInUse,
    xf_BadNumber := xfB_ok xbBadNumber,
    xf_NoPassage := xfB_ok xbNoPassage,
    xf_NoYard := xfB_ok xbNoYard,
    xf_NoName := xfB_ok xbNoName,
    xf_NothingLeft := xfB_ok xbNothingLeft,
    g_Missing := PySem.W.mg_of X G egMissing, o_Missing := oexG_of eoMissing esMissing exMissing etMissing ekMissing, i_Missing := eiMissing, t_Missing := ejMissing, F_Missing_init := FXMissing, b_Missing_init := bXMissing, nw_Missing := ewMissing, nf_Missing := efMissing,
    g_BadRow := PySem.W.mg_of X G egBadRow, o_BadRow := oexG_of eoBadRow esBadRow exBadRow etBadRow ekBadRow, i_BadRow := eiBadRow, t_BadRow := ejBadRow, F_BadRow_init := FXBadRow, b_BadRow_init := bXBadRow, nw_BadRow := ewBadRow, nf_BadRow := efBadRow,
    g_Tied := PySem.W.mg_of X G egTied, o_Tied := oexG_of eoTied esTied exTied etTied ekTied, i_Tied := eiTied, t_Tied := ejTied, F_Tied_init := FXTied, b_Tied_init := bXTied, nw_Tied := ewTied, nf_Tied := efTied,
    g_BadTurns := PySem.W.mg_of X G egBadTurns, o_BadTurns := oexG_of eoBadTurns esBadTurns exBadTurns etBadTurns ekBadTurns, i_BadTurns := eiBadTurns, t_BadTurns := ejBadTurns, F_BadTurns_init := FXBadTurns, b_BadTurns_init := bXBadTurns, nw_BadTurns := ewBadTurns, nf_BadTurns := efBadTurns,
    g_Full := PySem.W.mg_of X G egFull, o_Full := oexG_of eoFull esFull exFull etFull ekFull, i_Full := eiFull, t_Full := ejFull, F_Full_init := FXFull, b_Full_init := bXFull, nw_Full := ewFull, nf_Full := efFull,
    g_BadDeed := PySem.W.mg_of X G egBadDeed, o_BadDeed := oexG_of eoBadDeed esBadDeed exBadDeed etBadDeed ekBadDeed, i_BadDeed := eiBadDeed, t_BadDeed := ejBadDeed, F_BadDeed_init := FXBadDeed, b_BadDeed_init := bXBadDeed, nw_BadDeed := ewBadDeed, nf_BadDeed := efBadDeed,
    g_BadExchange := PySem.W.mg_of X G egBadExchange, o_BadExchange := oexG_of eoBadExchange esBadExchange exBadExchange etBadExchange ekBadExchange, i_BadExchange := eiBadExchange, t_BadExchange := ejBadExchange, F_BadExchange_init := FXBadExchange, b_BadExchange_init := bXBadExchange, nw_BadExchange := ewBadExchange, nf_BadExchange := efBadExchange,
    g_BadText := PySem.W.mg_of X G egBadText, o_BadText := oexG_of eoBadText esBadText exBadText etBadText ekBadText, i_BadText := eiBadText, t_BadText := ejBadText, F_BadText_init := FXBadText, b_BadText_init := bXBadText, nw_BadText := ewBadText, nf_BadText := efBadText,
    g_Astray := PySem.W.mg_of X G egAstray, o_Astray := oexG_of eoAstray esAstray exAstray etAstray ekAstray, i_Astray := eiAstray, t_Astray := ejAstray, F_Astray_init := FXAstray, b_Astray_init := bXAstray, nw_Astray := ewAstray, nf_Astray := efAstray,
    g_NoWalk := PySem.W.mg_of X G egNoWalk, o_NoWalk := oexG_of eoNoWalk esNoWalk exNoWalk etNoWalk ekNoWalk, i_NoWalk := eiNoWalk, t_NoWalk := ejNoWalk, F_NoWalk_init := FXNoWalk, b_NoWalk_init := bXNoWalk, nw_NoWalk := ewNoWalk, nf_NoWalk := efNoWalk,
    g_Breaks := PySem.W.mg_of X G egBreaks, o_Breaks := oexG_of eoBreaks esBreaks exBreaks etBreaks ekBreaks, i_Breaks := eiBreaks, t_Breaks := ejBreaks, F_Breaks_init := FXBreaks, b_Breaks_init := bXBreaks, nw_Breaks := ewBreaks, nf_Breaks := efBreaks,
    g_Taken := PySem.W.mg_of X G egTaken, o_Taken := oexG_of eoTaken esTaken exTaken etTaken ekTaken, i_Taken := eiTaken, t_Taken := ejTaken, F_Taken_init := FXTaken, b_Taken_init := bXTaken, nw_Taken := ewTaken, nf_Taken := efTaken,
    g_BadName := PySem.W.mg_of X G egBadName, o_BadName := oexG_of eoBadName esBadName exBadName etBadName ekBadName, i_BadName := eiBadName, t_BadName := ejBadName, F_BadName_init := FXBadName, b_BadName_init := bXBadName, nw_BadName := ewBadName, nf_BadName := efBadName,
    g_BadWay := PySem.W.mg_of X G egBadWay, o_BadWay := oexG_of eoBadWay esBadWay exBadWay etBadWay ekBadWay, i_BadWay := eiBadWay, t_BadWay := ejBadWay, F_BadWay_init := FXBadWay, b_BadWay_init := bXBadWay, nw_BadWay := ewBadWay,
    g_TooGreat := PySem.W.mg_of X G egTooGreat, o_TooGreat := oexG_of eoTooGreat esTooGreat exTooGreat etTooGreat ekTooGreat, i_TooGreat := eiTooGreat, t_TooGreat := ejTooGreat, F_TooGreat_init := FXTooGreat, b_TooGreat_init := bXTooGreat, nw_TooGreat := ewTooGreat,
    g_TooLong := PySem.W.mg_of X G egTooLong, o_TooLong := oexG_of eoTooLong esTooLong exTooLong etTooLong ekTooLong, i_TooLong := eiTooLong, t_TooLong := ejTooLong, F_TooLong_init := FXTooLong, b_TooLong_init := bXTooLong, nw_TooLong := ewTooLong,
    g_NotHome := PySem.W.mg_of X G egNotHome, o_NotHome := oexG_of eoNotHome esNotHome exNotHome etNotHome ekNotHome, i_NotHome := eiNotHome, t_NotHome := ejNotHome, F_NotHome_init := FXNotHome, b_NotHome_init := bXNotHome, nw_NotHome := ewNotHome,
    g_NotMet := PySem.W.mg_of X G egNotMet, o_NotMet := oexG_of eoNotMet esNotMet exNotMet etNotMet ekNotMet, i_NotMet := eiNotMet, t_NotMet := ejNotMet, F_NotMet_init := FXNotMet, b_NotMet_init := bXNotMet, nw_NotMet := ewNotMet,
    g_Stays := PySem.W.mg_of X G egStays, o_Stays := oexG_of eoStays esStays exStays etStays ekStays, i_Stays := eiStays, t_Stays := ejStays, F_Stays_init := FXStays, b_Stays_init := bXStays, nw_Stays := ewStays,
    g_BadPlace := PySem.W.mg_of X G egBadPlace, o_BadPlace := oexG_of eoBadPlace esBadPlace exBadPlace etBadPlace ekBadPlace, i_BadPlace := eiBadPlace, t_BadPlace := ejBadPlace, F_BadPlace_init := FXBadPlace, b_BadPlace_init := bXBadPlace, nw_BadPlace := ewBadPlace,
    g_Strange := PySem.W.mg_of X G egStrange, o_Strange := oexG_of eoStrange esStrange exStrange etStrange ekStrange, i_Strange := eiStrange, t_Strange := ejStrange, F_Strange_init := FXStrange, b_Strange_init := bXStrange, nw_Strange := ewStrange,
    g_BadTerm := PySem.W.mg_of X G egBadTerm, o_BadTerm := oexG_of eoBadTerm esBadTerm exBadTerm etBadTerm ekBadTerm, i_BadTerm := eiBadTerm, t_BadTerm := ejBadTerm, F_BadTerm_init := FXBadTerm, b_BadTerm_init := bXBadTerm, nw_BadTerm := ewBadTerm,
    g_NoWay := PySem.W.mg_of X G egNoWay, o_NoWay := oexG_of eoNoWay esNoWay exNoWay etNoWay ekNoWay, i_NoWay := eiNoWay, t_NoWay := ejNoWay, F_NoWay_init := FXNoWay, b_NoWay_init := bXNoWay, nw_NoWay := ewNoWay,
    g_Moves := PySem.W.mg_of X G egMoves, o_Moves := oexG_of eoMoves esMoves exMoves etMoves ekMoves, i_Moves := eiMoves, t_Moves := ejMoves, F_Moves_init := FXMoves, b_Moves_init := bXMoves, nw_Moves := ewMoves,
    g_Ring := PySem.W.mg_of X G egRing, o_Ring := oexG_of eoRing esRing exRing etRing ekRing, i_Ring := eiRing, t_Ring := ejRing, F_Ring_init := FXRing, b_Ring_init := bXRing, nw_Ring := ewRing,
    g_InUse := PySem.W.mg_of X G egInUse, o_InUse := oexG_of eoInUse esInUse exInUse etInUse ekInUse, i_InUse := eiInUse, t_InUse := ejInUse, F_InUse_init := FXInUse, b_InUse_init := bXInUse, nw_InUse := ewInUse, nf_InUse := efInUse,
    g_BadNumber := PySem.W.mg_of X G egBadNumber, o_BadNumber := oexG_of eoBadNumber esBadNumber exBadNumber etBadNumber ekBadNumber, i_BadNumber := eiBadNumber, t_BadNumber := ejBadNumber, F_BadNumber_init := FXBadNumber, b_BadNumber_init := bXBadNumber, nw_BadNumber := ewBadNumber,
    g_NoPassage := PySem.W.mg_of X G egNoPassage, o_NoPassage := oexG_of eoNoPassage esNoPassage exNoPassage etNoPassage ekNoPassage, i_NoPassage := eiNoPassage, t_NoPassage := ejNoPassage, F_NoPassage_init := FXNoPassage, b_NoPassage_init := bXNoPassage, nw_NoPassage := ewNoPassage, nf_NoPassage := efNoPassage,
    g_NoYard := PySem.W.mg_of X G egNoYard, o_NoYard := oexG_of eoNoYard esNoYard exNoYard etNoYard ekNoYard, i_NoYard := eiNoYard, t_NoYard := ejNoYard, F_NoYard_init := FXNoYard, b_NoYard_init := bXNoYard, nw_NoYard := ewNoYard, nf_NoYard := efNoYard,
    g_NoName := PySem.W.mg_of X G egNoName, o_NoName := oexG_of eoNoName esNoName exNoName etNoName ekNoName, i_NoName := eiNoName, t_NoName := ejNoName, F_NoName_init := FXNoName, b_NoName_init := bXNoName, nw_NoName := ewNoName, nf_NoName := efNoName,
    g_NothingLeft := PySem.W.mg_of X G egNothingLeft, o_NothingLeft := oexG_of eoNothingLeft esNothingLeft exNothingLeft etNothingLeft ekNothingLeft, i_NothingLeft := eiNothingLeft, t_NothingLeft := ejNothingLeft, F_NothingLeft_init := FXNothingLeft, b_NothingLeft_init := bXNothingLeft, nw_NothingLeft := ewNothingLeft,
    z_range := PySem.W.mg_none_of X G zrange,
    z_isinstance := PySem.W.mg_none_of X G zisinstance,
    z_ValueError := PySem.W.mg_none_of X G zValueError,
    z_IndexError := PySem.W.mg_none_of X G zIndexError,
    z_LookupError := PySem.W.mg_none_of X G zLookupError,
    z_len := PySem.W.mg_none_of X G zlen,
    z_abs := PySem.W.mg_none_of X G zabs,
    z_list := PySem.W.mg_none_of X G zlist,
    z_bool := PySem.W.mg_none_of X G zbool,
    z_int := PySem.W.mg_none_of X G zint,
    z_str := PySem.W.mg_none_of X G zstr,
    z_tuple := PySem.W.mg_none_of X G ztuple,
    z_all := PySem.W.mg_none_of X G zall }
  have bA := FunD.bindsA (ps := ["_law_script"]) FD6 fun _ _ _ _ _ _ us hl => match us, hl with | [_], _ => rfl
  refine ⟨_, fun s v => ?_, fun base _ _ => law_sp (G := Gx K _) rfl (ok_law T) law_true⟩
  exact bA s [v] rfl
end Lw
open PySem PySem.W PySem.Calls PyProof.Rows in
set_option maxRecDepth 100000 in
set_option maxHeartbeats 0 in
theorem PySem.Challenge.cw_hawserweb_k65_refusals_apart_holds : PySem.Challenge.rw_hawserweb_k65_refusals_apart.Holds := by
  w_on; o_law
  refine HandSHeadRun.head_any (r := Lw.hRow) (q := view Lw.hRow.prog [39]) (H := Lw.hk) (ob := Lw.hOb) (M := 60000) (loose := Lw.hNames) (d := HandSHeadRun.topDef Lw.hRow.prog 39) (kwd := []) Lw.hOb_eq
    (by kernel_rfl) (fun s => by kernel_rfl) Lw.hRun (by kernel_rfl) (by kernel_rfl) (by kernel_rfl) (by rfl) (by first | assumption | decide +kernel) (by decide +kernel) ⟨rfl, rfl, rfl, rfl, rfl, by decide +kernel⟩ ?hw ?hc
  case hw => w_witness2
  case hc =>
    refine Dv.walk_lawE (l := PySem.Challenge.rw_hawserweb_k65_refusals_apart) (k := 22) (x := "_law_script") rfl (by kernel_rfl) ⟨rfl, by decide, by decide⟩ ?F
    intro w mg fa h Y G hmg0
    obtain ⟨K, KX, c⟩ := Y
    have hmg : mg ("law" : PySem.Str) = some (.ref fa) := by
      have e : (HandSHeadRun.topDef Lw.hRow.prog 39).name = ("law" : PySem.Str) := by kernel_rfl
      rw [← e]
      exact hmg0
    obtain ⟨fd, hb, hF⟩ := Lw.all_of (l := PySem.Challenge.rw_hawserweb_k65_refusals_apart) (w := w) KX G hmg c
    exact ⟨K, fd, KX, hb, hF⟩
