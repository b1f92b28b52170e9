import PyProof.Rows.All
import Wide.All
import OpenK.AllK
import Wide.FinOn
import PyProof.ReprReads
import KE.KExcInit
import KE.KExcIs
import HandS.ForMost
import HandS.Exc
import HandS.ExcOwn
import HandS.ExcValue
import HandS.ExcInit
import HandS.IsInst
import HandS.Wide
import HandS.Flow
import HandS.Defaults
import PyProof.ReprRoads
import HandS.EndBits
import HandS.HeadHook1
import HandS.HeadHook2
import HandS.HeadHook3
import HandS.HeadHook4
import HandS.Walk
import HandS.OwnEq
import HandS.Small
import OpenK.KMeth
import OpenK.KOps
import HandS.More
import PyProof.Rows.Range3
import HandS.SortKw
import HandS.Star
import HandS.Conv
import HandS.SortInts
import HandS.ClsMeth
import HandS.Property
import HandS.CallLocal
import HandS.SetFor
import HandS.Strs
import HandS.TryOnly
import HandS.List
import HandS.Style
import HandS.SetKeys
import PyProof.LongRange
import HandS.HeadNt
import KE.KStateDown
import Lean
import HandS.Head0
import HandS.Head1
import HandS.Head2
import HandS.HeadEnd
import PySem.Challenge.RW_everwhen_k72_common_times_of_sets
set_option Elab.async false
set_option linter.all false
set_option maxRecDepth 100000
section
set_option maxHeartbeats 4000000
namespace EW
open PySem PySem.Spec PyProof.Rows L2
/-! ### the head's facts, with one more Bool: what the kernel's run looks at -/
def obsB (n : Nat) (fa : List He.Fa) (fn : List He5.DefA) (ex : W.Frag → Bool) (g : Addr → Option Obj) : He.AlD × Bool := (He5.obsA fa fn (He.frG g (He5.asA g n)), ex (He.frG g (He5.asA g n)))
def hookB (n : Nat) (fa : List He.Fa) (fn : List He5.DefA) (ex : W.Frag → Bool) : W.Hook where
  α := He.AlD × Bool
  obs := fun s => obsB n fa fn ex s.heap.get?
  val := fun _ => (He5.valA fn, true)
  says := fun _ h => ∃ K : W.Frag, K.In h ∧ He5.SaysA fa fn K ∧ ex K = true
  of := fun _ _ e => ⟨_, He.frG_in, congrArg (fun z : He.AlD × Bool => z.1) e, congrArg (fun z : He.AlD × Bool => z.2) e⟩
  keeps := fun _ _ _ ⟨K, hK, c⟩ k => ⟨K, W.Frag.In.keeps hK k, c⟩
theorem obsB_eq {n : Nat} {fa : List He.Fa} {fn : List He5.DefA} {ex : W.Frag → Bool} {g : Addr → Option Obj} {s : Shared} (h : ∀ a, g a = s.heap.get? a) : obsB n fa fn ex g = (hookB n fa fn ex).obs s := by
  have e : g = s.heap.get? := funext h
  rw [e] <;> rfl
def klB (K : W.Frag) (x : Str) : Bool := (He.Fa.glo x).ok K && ((He.Fa.mkr x).ok K && ((He.Fa.cls x).ok K && ((He.Fa.noat x "own_period").ok K && ((He.Fa.noat x "own_runs").ok K &&
  (He.eqO (W.findIn K (.ref (He.ga K x)) "__class__") (some (some (.builtin "object.__class__"))) && (He.eqO (W.specialIn K (.builtin "object.__class__") "__get__") (some (some (.builtin "getset_descriptor.__get__"))) &&
  (decide (W.takesIn K (.builtin "object.__class__") = some true) && (decide (W.mroIn K (He.ga K x) (.type "object") = some true) && W.selfFirst K (He.ga K x)))))))))
def propB (K : W.Frag) (C : Addr) (f : Str) : Bool := He.eqO (W.findIn K (.ref C) f) (some (some (.ref (He.ma K C f)))) && (He.eqO (W.specialIn K (.ref (He.ma K C f)) "__get__") (some (some (.builtin "property.__get__"))) &&
  (decide (W.takesIn K (.ref (He.ma K C f)) = some true) && (match W.recIn K (He.ma K C f) "property" with
    | some (.ref _ :: _) => true
    | _ => false)))
def creadB (K : W.Frag) (C : Addr) : Bool := W.readsIn K C (.type "type") && He.eqO (W.specialIn K (.ref C) "__getattribute__") (some (some (.builtin "type.__getattribute__")))
def cmetB (K : W.Frag) (C : Addr) (m : Str) : Bool := He5.wrapB K C "classmethod" "classmethod.__get__" m && W.fnIn K (He5.wf K C "classmethod" m)
def kitB1 (K : W.Frag) (t u : Value) (b : Bool) : Bool := decide (W.kitOne K t u = some b)
def findB (K : W.Frag) (C : Addr) (m : Str) (id : String) : Bool := He.eqO (W.findIn K (.ref C) m) (some (some (.builtin id)))
end EW
end

namespace TM
open PySem PySem.Spec PyProof.Rows L2 EW
def top (i : Nat) : Stmt := PySem.Challenge.pw_everwhen_k72_common_times_of_sets.main.body.getD i (.Pass ⟨0, 0, 0, 0⟩)
def meth (s : Stmt) (j : Nat) : Stmt := match s with
  | .ClassDef (body := b) .. => b.getD j (.Pass ⟨0, 0, 0, 0⟩)
  | _ => .Pass ⟨0, 0, 0, 0⟩
abbrev CR (K : W.Frag) : Addr := He.ga K "Runs"
abbrev CT (K : W.Frag) : Addr := He.ga K "Times"
abbrev sIsInt : Stmt := top 9
abbrev sBetween : Stmt := top 10
abbrev sIsBound : Stmt := top 11
abbrev sReqP : Stmt := top 12
abbrev sIsSpan : Stmt := top 15
abbrev sGreater : Stmt := top 16
abbrev sLesser : Stmt := top 17
abbrev sRounded : Stmt := top 18
abbrev sEmptyP : Stmt := top 19
abbrev sRunOf : Stmt := top 22
abbrev sRunKey : Stmt := top 23
abbrev sGoesOn : Stmt := top 24
abbrev sUnited : Stmt := top 25
abbrev sGrouped : Stmt := top 26
abbrev sRunsIn : Stmt := top 27
abbrev sOutside : Stmt := top 28
abbrev sMember : Stmt := top 30
abbrev sCommon : Stmt := top 29
abbrev sRInit : Stmt := meth (top 36) 0
abbrev sChecked : Stmt := top 37
abbrev sTimesIn : Stmt := top 38
abbrev sTInit : Stmt := meth (top 39) 0
abbrev sOf : Stmt := meth (top 39) 1
abbrev sAlike : Stmt := top 40
abbrev sCon : Stmt := meth (top 39) 22
abbrev sBol : Stmt := meth (top 39) 23
abbrev sPeriod : Stmt := meth (top 39) 3
abbrev sRunsP : Stmt := meth (top 39) 4
abbrev sOrM : Stmt := meth (top 39) 18
abbrev sAndM : Stmt := meth (top 39) 19
abbrev sInvM : Stmt := meth (top 39) 21
abbrev sSubM : Stmt := meth (top 39) 20
abbrev sEqM : Stmt := meth (top 39) 24
abbrev sNextIn : Stmt := top 31
abbrev sReqI : Stmt := top 13
abbrev sManyIn : Stmt := top 33
abbrev sFarEnd : Stmt := top 34
abbrev sKthIn : Stmt := top 35
abbrev sCdiv : Stmt := top 43
abbrev sCper : Stmt := top 44
abbrev sInvOf : Stmt := top 45
abbrev sMet : Stmt := top 46
abbrev sCom : Stmt := top 47
abbrev sReqS : Stmt := top 48
abbrev sMeetA : Stmt := top 50
abbrev sKthM : Stmt := top 51
abbrev sMeet : Stmt := top 49
abbrev sDice : Stmt := top 53
abbrev sRoll : Stmt := top 54
abbrev sPick : Stmt := top 55
abbrev sNear : Stmt := top 56
abbrev sBound : Stmt := top 57
abbrev sPair : Stmt := top 58
abbrev sResidue : Stmt := top 59
abbrev sSpan : Stmt := top 60
abbrev sPeriodL : Stmt := top 61
abbrev sSpansL : Stmt := top 62
abbrev sBetw : Stmt := top 63
abbrev sIsIn : Stmt := top 64
abbrev sBounds : Stmt := top 65
abbrev sIsCom : Stmt := top 66
abbrev sWhole : Stmt := top 67
abbrev sCorn : Stmt := top 68
abbrev sManyL : Stmt := top 69
abbrev sNoneA : Stmt := top 70
abbrev sIsKthL : Stmt := top 71
abbrev sBegunL : Stmt := top 72
abbrev sRight : Stmt := top 73
abbrev sEvery : Stmt := meth (top 39) 2
abbrev sLaw : Stmt := top 74
end TM

section
set_option maxHeartbeats 0
namespace TM
open PySem PySem.Spec PyProof.Rows L2 EW
def fn : List He5.DefA := [
  ⟨fun K => He.ga K "is_integer", "is_integer", "is_integer", defArgs sIsInt, defBody sIsInt, defScope sIsInt, [], []⟩,
  ⟨fun K => He.ga K "is_between", "is_between", "is_between", defArgs sBetween, defBody sBetween, defScope sBetween, [], []⟩,
  ⟨fun K => He.ga K "is_bound", "is_bound", "is_bound", defArgs sIsBound, defBody sIsBound, defScope sIsBound, [], []⟩,
  ⟨fun K => He.ga K "require_period", "require_period", "require_period", defArgs sReqP, defBody sReqP, defScope sReqP, [], []⟩,
  ⟨fun K => He.ga K "require_integer", "require_integer", "require_integer", defArgs sReqI, defBody sReqI, defScope sReqI, [], []⟩,
  ⟨fun K => He.ga K "is_span", "is_span", "is_span", defArgs sIsSpan, defBody sIsSpan, defScope sIsSpan, [], []⟩,
  ⟨fun K => He.ga K "greater_of", "greater_of", "greater_of", defArgs sGreater, defBody sGreater, defScope sGreater, [], []⟩,
  ⟨fun K => He.ga K "lesser_of", "lesser_of", "lesser_of", defArgs sLesser, defBody sLesser, defScope sLesser, [], []⟩,
  ⟨fun K => He.ga K "rounded", "rounded", "rounded", defArgs sRounded, defBody sRounded, defScope sRounded, [], []⟩,
  ⟨fun K => He.ga K "is_empty_pair", "is_empty_pair", "is_empty_pair", defArgs sEmptyP, defBody sEmptyP, defScope sEmptyP, [], []⟩,
  ⟨fun K => He.ga K "run_of", "run_of", "run_of", defArgs sRunOf, defBody sRunOf, defScope sRunOf, [], []⟩,
  ⟨fun K => He.ga K "run_key", "run_key", "run_key", defArgs sRunKey, defBody sRunKey, defScope sRunKey, [], []⟩,
  ⟨fun K => He.ga K "goes_on", "goes_on", "goes_on", defArgs sGoesOn, defBody sGoesOn, defScope sGoesOn, [], []⟩,
  ⟨fun K => He.ga K "united", "united", "united", defArgs sUnited, defBody sUnited, defScope sUnited, [], []⟩,
  ⟨fun K => He.ga K "grouped", "grouped", "grouped", defArgs sGrouped, defBody sGrouped, defScope sGrouped, [], []⟩,
  ⟨fun K => He.ga K "runs_in", "runs_in", "runs_in", defArgs sRunsIn, defBody sRunsIn, defScope sRunsIn, [], []⟩,
  ⟨fun K => He.ga K "next_in", "next_in", "next_in", defArgs sNextIn, defBody sNextIn, defScope sNextIn, [], []⟩,
  ⟨fun K => He.ga K "many_in", "many_in", "many_in", defArgs sManyIn, defBody sManyIn, defScope sManyIn, [], []⟩,
  ⟨fun K => He.ga K "far_end", "far_end", "far_end", defArgs sFarEnd, defBody sFarEnd, defScope sFarEnd, [], []⟩,
  ⟨fun K => He.ga K "kth_in", "kth_in", "kth_in", defArgs sKthIn, defBody sKthIn, defScope sKthIn, [], []⟩,
  ⟨fun K => He.ma K (He.ga K "Runs") "__init__", "__init__", "Runs.__init__", defArgs sRInit, defBody sRInit, defScope sRInit, [], []⟩,
  ⟨fun K => He.ga K "checked", "checked", "checked", defArgs sChecked, defBody sChecked, defScope sChecked, [], []⟩,
  ⟨fun K => He.ma K (He.ga K "Times") "__init__", "__init__", "Times.__init__", defArgs sTInit, defBody sTInit, defScope sTInit, [], []⟩,
  ⟨fun K => He5.wf K (He.ga K "Times") "classmethod" "of", "of", "Times.of", defArgs sOf, defBody sOf, defScope sOf, [], []⟩,
  ⟨fun K => He5.wf K (He.ga K "Times") "classmethod" "every", "every", "Times.every", defArgs sEvery, defBody sEvery, defScope sEvery, [], [("since", .non), ("until", .non)]⟩,
  ⟨fun K => He.ga K "common_divisor", "common_divisor", "common_divisor", defArgs sCdiv, defBody sCdiv, defScope sCdiv, [], []⟩,
  ⟨fun K => He.ga K "common_period", "common_period", "common_period", defArgs sCper, defBody sCper, defScope sCper, [], []⟩,
  ⟨fun K => He.ga K "inverse_of", "inverse_of", "inverse_of", defArgs sInvOf, defBody sInvOf, defScope sInvOf, [], []⟩,
  ⟨fun K => He.ga K "met_runs", "met_runs", "met_runs", defArgs sMet, defBody sMet, defScope sMet, [], []⟩,
  ⟨fun K => He.ga K "common_in", "common_in", "common_in", defArgs sCom, defBody sCom, defScope sCom, [], []⟩,
  ⟨fun K => He.ga K "require_sets", "require_sets", "require_sets", defArgs sReqS, defBody sReqS, defScope sReqS, [], []⟩,
  ⟨fun K => He.ga K "meet_all", "meet_all", "meet_all", defArgs sMeetA, defBody sMeetA, defScope sMeetA, [], []⟩,
  ⟨fun K => He.ga K "kth_meeting", "kth_meeting", "kth_meeting", defArgs sKthM, defBody sKthM, defScope sKthM, [], []⟩,
  ⟨fun K => He.ga K "meet", "meet", "meet", defArgs sMeet, defBody sMeet, defScope sMeet, [], []⟩,
  ⟨fun K => He.ga K "_law_dice", "_law_dice", "_law_dice", defArgs sDice, defBody sDice, defScope sDice, [], []⟩,
  ⟨fun K => He.ga K "_law_roll", "_law_roll", "_law_roll", defArgs sRoll, defBody sRoll, defScope sRoll, [], []⟩,
  ⟨fun K => He.ga K "_law_pick", "_law_pick", "_law_pick", defArgs sPick, defBody sPick, defScope sPick, [], []⟩,
  ⟨fun K => He.ga K "_law_near", "_law_near", "_law_near", defArgs sNear, defBody sNear, defScope sNear, [], []⟩,
  ⟨fun K => He.ga K "_law_bound", "_law_bound", "_law_bound", defArgs sBound, defBody sBound, defScope sBound, [], []⟩,
  ⟨fun K => He.ga K "_law_pair", "_law_pair", "_law_pair", defArgs sPair, defBody sPair, defScope sPair, [], []⟩,
  ⟨fun K => He.ga K "_law_residue", "_law_residue", "_law_residue", defArgs sResidue, defBody sResidue, defScope sResidue, [], []⟩,
  ⟨fun K => He.ga K "_law_span", "_law_span", "_law_span", defArgs sSpan, defBody sSpan, defScope sSpan, [], []⟩,
  ⟨fun K => He.ga K "_law_spans", "_law_spans", "_law_spans", defArgs sSpansL, defBody sSpansL, defScope sSpansL, [], []⟩,
  ⟨fun K => He.ga K "_law_between", "_law_between", "_law_between", defArgs sBetw, defBody sBetw, defScope sBetw, [], []⟩,
  ⟨fun K => He.ga K "_law_is_in", "_law_is_in", "_law_is_in", defArgs sIsIn, defBody sIsIn, defScope sIsIn, [], []⟩,
  ⟨fun K => He.ga K "_law_bounds", "_law_bounds", "_law_bounds", defArgs sBounds, defBody sBounds, defScope sBounds, [], []⟩,
  ⟨fun K => He.ga K "_law_is_common", "_law_is_common", "_law_is_common", defArgs sIsCom, defBody sIsCom, defScope sIsCom, [], []⟩,
  ⟨fun K => He.ga K "_law_whole", "_law_whole", "_law_whole", defArgs sWhole, defBody sWhole, defScope sWhole, [], []⟩,
  ⟨fun K => He.ga K "_law_corners", "_law_corners", "_law_corners", defArgs sCorn, defBody sCorn, defScope sCorn, [], []⟩,
  ⟨fun K => He.ga K "_law_many_in", "_law_many_in", "_law_many_in", defArgs sManyL, defBody sManyL, defScope sManyL, [], []⟩,
  ⟨fun K => He.ga K "_law_none_ahead", "_law_none_ahead", "_law_none_ahead", defArgs sNoneA, defBody sNoneA, defScope sNoneA, [], []⟩,
  ⟨fun K => He.ga K "_law_is_kth", "_law_is_kth", "_law_is_kth", defArgs sIsKthL, defBody sIsKthL, defScope sIsKthL, [], []⟩,
  ⟨fun K => He.ga K "_law_begun", "_law_begun", "_law_begun", defArgs sBegunL, defBody sBegunL, defScope sBegunL, [], []⟩,
  ⟨fun K => He.ga K "_law_right", "_law_right", "_law_right", defArgs sRight, defBody sRight, defScope sRight, [], []⟩,
  ⟨fun K => He.ga K "law", "law", "law", defArgs sLaw, defBody sLaw, defScope sLaw, [], []⟩]
def fa : List He.Fa := [.glo "is_integer", .glo "is_between", .glo "is_bound", .glo "require_period", .glo "require_integer", .glo "is_span", .glo "greater_of", .glo "lesser_of", .glo "rounded", .glo "is_empty_pair", .glo "run_of", .glo "run_key", .glo "goes_on", .glo "united", .glo "grouped", .glo "runs_in", .glo "next_in", .glo "many_in", .glo "far_end", .glo "kth_in", .glo "checked", .glo "common_divisor", .glo "common_period", .glo "inverse_of", .glo "met_runs", .glo "common_in", .glo "require_sets", .glo "meet_all", .glo "kth_meeting", .glo "meet", .glo "_law_dice", .glo "_law_roll", .glo "_law_pick", .glo "_law_near", .glo "_law_bound", .glo "_law_pair", .glo "_law_residue", .glo "_law_span", .glo "_law_spans", .glo "_law_between", .glo "_law_is_in", .glo "_law_bounds", .glo "_law_is_common", .glo "_law_whole", .glo "_law_corners", .glo "_law_many_in", .glo "_law_none_ahead", .glo "_law_is_kth", .glo "_law_begun", .glo "_law_right", .glo "law", .free "len", .free "int", .free "bool", .free "tuple", .free "list", .free "set", .free "abs", .free "max", .free "min", .free "range", .free "any", .free "all", .free "sorted", .free "isinstance", .free "zip", .int "MAX_PERIOD_shapes" 400, .int "MAX_COMMON" 1000000]
def exB (K : W.Frag) : Bool := klB K "Runs" && (klB K "Times" && (kitB1 K (.ref (CR K)) (.ref (CR K)) true && (kitB1 K (.type "int") (.ref (CR K)) false && (kitB1 K (.ref (CT K)) (.ref (CT K)) true && (kitB1 K (.type "int") (.ref (CT K)) false && (creadB K (CT K) && (cmetB K (CT K) "of" && (cmetB K (CT K) "every"))))))))
abbrev Rw : W.OpenRow := W.OpenLaw.row PySem.Challenge.rw_everwhen_k72_common_times_of_sets
abbrev hk : W.Hook := hookB 5 fa fn exB
def obz (s : W.SharedT) : He.AlD × Bool := obsB 5 fa fn exB (HandSHeadRun.getT s)
theorem ob_eq (s : W.SharedT) : obz s = hk.obs s.abs := obsB_eq (HandSHeadRun.getT_eq s)
def loose : List Str := [("_wall" : Str), ("__name__" : Str), ("EverError" : Str), ("InvalidTimes" : Str), ("InvalidOperation" : Str), ("InvalidNumber" : Str), ("TooMany" : Str), ("MAX_PERIOD_shapes" : Str), ("is_integer" : Str), ("is_between" : Str), ("is_bound" : Str), ("require_period" : Str), ("require_integer" : Str), ("is_span" : Str), ("greater_of" : Str), ("lesser_of" : Str), ("rounded" : Str), ("is_empty_pair" : Str), ("MAX_PERIOD_times" : Str), ("run_of" : Str), ("run_key" : Str), ("goes_on" : Str), ("united" : Str), ("grouped" : Str), ("runs_in" : Str), ("outside_runs" : Str), ("common_runs" : Str), ("is_member" : Str), ("next_in" : Str), ("last_in" : Str), ("many_in" : Str), ("far_end" : Str), ("kth_in" : Str), ("Runs" : Str), ("checked" : Str), ("times_in_spans" : Str), ("Times" : Str), ("require_alike" : Str), ("MAX_COMMON" : Str), ("common_divisor" : Str), ("common_period" : Str), ("inverse_of" : Str), ("met_runs" : Str), ("common_in" : Str), ("require_sets" : Str), ("meet" : Str), ("meet_all" : Str), ("kth_meeting" : Str), ("_law_dice" : Str), ("_law_roll" : Str), ("_law_pick" : Str), ("_law_near" : Str), ("_law_bound" : Str), ("_law_pair" : Str), ("_law_residue" : Str), ("_law_span" : Str), ("_law_period" : Str), ("_law_spans" : Str), ("_law_between" : Str), ("_law_is_in" : Str), ("_law_bounds" : Str), ("_law_is_common" : Str), ("_law_whole" : Str), ("_law_corners" : Str), ("_law_many_in" : Str), ("_law_none_ahead" : Str), ("_law_is_kth" : Str), ("_law_begun" : Str), ("_law_right" : Str)]
theorem run (w : World) : HandSHeadRun.RunEq Rw (W.view Rw.prog [74]) hk obz 20000 loose w := by
  intro os
  kernel_rfl
end TM
end

section
set_option maxHeartbeats 4000000
/-! Own exception classes over any built-in base, also one whose __new__ is its base's (KeyError): made, stored into, asked -/
namespace EW
open PySem PySem.Spec PyProof.Rows L2 PySem.HandSPX
abbrev keBases : List Value := [.type "KeyError", .type "LookupError", .type "Exception", .type "BaseException", .type "object"]
theorem keStore : StoreFacts "KeyError" keBases "object.__setattr__" "object" where
  mro := by kernel_rfl
  slot := .of (owner := "object") (n := "__setattr__")
    (by rw [typeLookup_type, builtinLookup_eq_fast]; kernel_rfl) (by decide +kernel) (by decide +kernel) (by decide +kernel)
    (by first | exact .inl (by decide +kernel) | exact .inr (by decide +kernel)) (by rw [isSubtype_type]; kernel_rfl)
  entry := F.entry_object_sa
  kind := by decide +kernel
  split := by decide +kernel
  hasOwner := by decide +kernel
  args := fun a b c => by
    unfold argsOk
    kernel_rfl
  passes := fun self => by kernel_rfl
/-- what a class of the mro bm must have, so that newId of Bn makes its instances -/
structure NewOk (C : Addr) (bm : List Value) (Bn : String) : Prop where
  has : (Value.ref C :: bm).contains (.type Bn) = true
  noA : (Value.ref C :: bm).contains (.type "AttributeError") = false
  noN : (Value.ref C :: bm).contains (.type "NameError") = false
section
variable {prog : Program} {w : World} {A : Around} {E : Value → Shared → Prop} {R : Result → Shared → Prop} {hp : Heap} {gs : Array GenState} {dr : Drawn} {tk : Nat} {os : OsState}
variable {nm qn : Str} {C nsp : Addr} {bs bm bmN : List Value} {hdc : Bool} {sn : List Str} {sub : List Value} {ab : Bool} {col : Option Bool} {dd : Option Addr} {k0 k1 k2 k3 k5 : Option Value} {Bn newId inN : String}
theorem chk_new {M : Model} (Fn : ExcBaseFacts Bn newId inN bmN) (O : NewOk C bm Bn) {rest : List Value} {Q : Unit → Shared → Prop}
    (hC : hp.get? C = some (excClassObj nm qn C nsp bs bm hdc sn sub ab col dd k0 k1 k2 k3 k5 newId)) (z : Q () ⟨hp, gs, dr, tk, os⟩) :
    wpAny M A (checkBuiltinCall newId ⟨.ref C :: rest, []⟩) Q E ⟨hp, gs, dr, tk, os⟩ := by
  have h1 := O.has
  have h2 := Fn.noStar
  simp only [checkBuiltinCall, Fn.newKind, Fn.newSplit, Fn.newRow]
  repeat (first
    | refine wpAny_loadPart_at hC ?_
    | (refine wpAny_isSubtype_exc hC ?_; rw [h1])
    | refine wpAny_staticBase_exc hC ?_
    | refine wpAny_madeBy_exc hC ?_
    | simp only [bne_self_eq_false, Bool.false_eq_true, if_false]
    | wp_step)
  exact z
theorem run_new (Fn : ExcBaseFacts Bn newId inN bmN) (O : NewOk C bm Bn) {rest : List Value}
    (hC : hp.get? C = some (excClassObj nm qn C nsp bs bm hdc sn sub ab col dd k0 k1 k2 k3 k5 newId))
    (z : R (.ok (.ret (.ref (hp.objs.size + 1)))) ⟨(hp.push (W.kdv_tup rest)).push (excO C hp.objs.size), gs, dr, tk, os⟩) (hz : rest.length ≤ sizeLine) :
    codeAny (model prog w) A (.builtin newId ⟨.ref C :: rest, []⟩) R ⟨hp, gs, dr, tk, os⟩ := by
  have h0 := Fn.ends
  have h1 := O.has
  have h2 := O.noA
  have h3 := O.noN
  refine codeAny_builtinAt Fn.entry ?_
  unfold Builtin.«BaseException.__new__»
  refine PySem.wpAt_bind ?_
  show PySem.wpAt _ _ _ (stack >>= _) _ _ _
  refine PySem.wpAt_bind (PySem.wpAt_stack fun p below => PySem.wpAt_of_wpAny ?_)
  wp_walk
  refine PySem.wpAt_of_wpAny ?_
  rw [Fn.owner]
  repeat (first
    | with_reducible refine wpAny_madeHere_exc Fn.canon hC ?_
    | with_reducible refine wpAny_loadPart_at hC ?_
    | (with_reducible refine wpAny_isSubtype_exc hC ?_; first | rw [h1] | rw [h2] | rw [h3])
    | wp_step)
  show R _ _
  rw [Heap.size_push]
  exact z
theorem run_typeCall (Fn : ExcBaseFacts Bn newId inN bmN) (O : NewOk C bm Bn) {rest : List Value} {fI : Addr} {Q : Fin → Shared → Prop}
    (hC : hp.get? C = some (excClassObj nm qn C nsp bs bm hdc sn sub ab col dd k0 k1 k2 k3 k5 newId))
    (hi : W.Looks (model prog w) hp (typeLookup (.ref C) "__init__") (some (.ref fI))) (hb : ∀ self, W.Looks (model prog w) hp (bindSpecial (.ref fI) self) (.ref fI, [self])) (hz : rest.length ≤ sizeLine)
    (z : codeAny (model prog w) A (.call (.ref fI) ⟨.ref (hp.objs.size + 1) :: rest, []⟩)
      (fun r s' => match r with | .ok (.ret v) => v = .none ∧ Q (.done (.ret (.ref (hp.objs.size + 1)))) s' | .ok _ => False | .error e => E e s')
      ⟨(hp.push (W.kdv_tup rest)).push (excO C hp.objs.size), gs, dr, tk, os⟩) :
    wpAny (model prog w) A (Builtin.«type.__call__» ⟨.ref C :: rest, []⟩) Q E ⟨hp, gs, dr, tk, os⟩ := by
  repeat (first
    | with_reducible refine wpAny_loadPart_at hC ?_
    | with_reducible refine wpAny_madeBy_exc hC ?_
    | wp_step)
  refine codeAny_call_builtin_code (Code.quiet_builtin _ Fn.quiet) (chk_new Fn O hC ?_)
  refine run_new Fn O hC ?_ hz
  show wpAny _ _ _ _ _ _
  have kk : ∀ b o, hp.get? b = some o → ((hp.push (W.kdv_tup rest)).push (excO C hp.objs.size)).get? b = some o :=
    fun b o e => Heap.get?_push_of_some _ (Heap.get?_push_of_some _ e)
  have c1 := kk _ _ hC
  have c2 : ((hp.push (W.kdv_tup rest)).push (excO C hp.objs.size)).get? (hp.objs.size + 1) = some (excO C hp.objs.size) := by
    heap_get
  have c3 : (Value.ref C :: bm).contains (.ref C) = true := by
    simp
  have c4 := hi.keeps kk
  have c5 := (hb (.ref (hp.objs.size + 1))).keeps kk
  unfold isInstance
  repeat (first
    | with_reducible refine wpAny_loadPart_at c2 ?_
    | (with_reducible refine wpAny_isSubtype_exc c1 ?_; rw [c3])
    | wp_step)
  show wpAny _ _ (typeLookup (.ref C) _) _ _ _
  refine c4.at ?_
  refine wpAny_holding (wpAny_bind (c5.at ?_))
  refine wpAny_bind (wpAny_call (codeAny_mono z fun r s' y => ?_))
  rcases r with e | (v | _ | _ | _) <;> first | exact y | exact y.elim | skip
  obtain ⟨rfl, y⟩ := y
  first
    | exact wpAny_pure (wpAny_pure y)
    | (wp_walk; exact y)
theorem run_make (Fn : ExcBaseFacts Bn newId inN bmN) (O : NewOk C bm Bn) {rest : List Value} {fI : Addr}
    (hC : hp.get? C = some (excClassObj nm qn C nsp bs bm hdc sn sub ab col dd k0 k1 k2 k3 k5 newId))
    (hi : W.Looks (model prog w) hp (typeLookup (.ref C) "__init__") (some (.ref fI))) (hb : ∀ self, W.Looks (model prog w) hp (bindSpecial (.ref fI) self) (.ref fI, [self])) (hz : rest.length ≤ sizeLine)
    (z : codeAny (model prog w) (A.under (.builtin "type.__call__" ⟨.ref C :: rest, []⟩)) (.call (.ref fI) ⟨.ref (hp.objs.size + 1) :: rest, []⟩) (W.InitBack (hp.objs.size + 1) R)
      ⟨(hp.push (W.kdv_tup rest)).push (excO C hp.objs.size), gs, dr, tk, os⟩) :
    codeAny (model prog w) A (.call (.ref C) ⟨rest, []⟩) R ⟨hp, gs, dr, tk, os⟩ := by
  have f1 := tc_lookup
  have f2 := tc_bind (.ref C)
  have f3 : (⟨hp, gs, dr, tk, os⟩ : Shared).TypeIs (.ref C) "type" := ⟨_, hC, rfl⟩
  refine codeAny_of_tree ?_
  show wpAny _ _ (callAny (.ref C) _) _ _ _
  repeat (any_goals (first
    | assumption
    | with_reducible refine wpAny_loadPart_at hC ?_
    | wp_step))
  refine ⟨rfl, ?_⟩
  refine codeAny_call_builtin_at (Code.quiet_builtin _ (by decide +kernel)) entry_typeCall
    (wpAny_check_type_call_sub hC (run_typeCall Fn O hC hi hb hz ?_))
  refine codeAny_mono z fun r s' y => ?_
  rcases r with e | (v | _ | _ | _) <;> exact y
/-- B.__init__(e, ..) of an instance of an own class over B -/
theorem run_init {B nid initId : String} (Fi : ExcClass B nid initId) (hB : (Value.ref C :: bm).contains (.type B) = true) {e t0 : Addr} {rest : List Value}
    (hC : hp.get? C = some (excClassObj nm qn C nsp bs bm hdc sn sub ab col dd k0 k1 k2 k3 k5 newId)) (he : hp.get? e = some (excO C t0)) (hz : rest.length ≤ sizeLine)
    (z : ∀ h' t1, (∀ b o, b ≠ e → hp.get? b = some o → h'.get? b = some o) → h'.get? e = some (excO C t1) → R (.ok (.ret .none)) ⟨h', gs, dr, tk, os⟩) :
    codeAny (model prog w) A (.call (.builtin initId) ⟨.ref e :: rest, []⟩) R ⟨hp, gs, dr, tk, os⟩ := by
  have hs := Fi.notStar
  refine codeAny_call_builtin Fi.init.plain Fi.initEntry ?_
  have chk : ∀ {Q : Unit → Shared → Prop} {A' : Around} {E' : Value → Shared → Prop}, Q () ⟨hp, gs, dr, tk, os⟩ → wpAny (model prog w) A' (checkBuiltinCall initId ⟨.ref e :: rest, []⟩) Q E' ⟨hp, gs, dr, tk, os⟩ := by
    intro Q A' E' y
    simp only [checkBuiltinCall, Fi.initKind, Fi.initSplit, Fi.initSig]
    repeat (first
      | with_reducible refine wpAny_loadPart_at he ?_
      | with_reducible refine wpAny_loadPart_at hC ?_
      | (with_reducible refine wpAny_isSubtype_exc hC ?_; rw [hB])
      | wp_step)
    refine wpAny_onRaise ?_
    rw [show ∀ (a b : String) (n : Nat), Bind.check ⟨.positional, "*", B, .self, [⟨"args", .varPos, false⟩]⟩ a b n (List.map (fun x => x.fst) ({ pos := Value.ref e :: rest } : Args).kw) = pure () from
      fun a b n => check_star_args _ _ _ _ _ _]
    exact wpAny_pure y
  refine chk ?_
  wp_walk
  refine z _ hp.objs.size (fun b o hb ho => ?_) ?_
  · rw [Heap.get?_update_other _ _ (Ne.symm hb)]
    exact Heap.get?_push_of_some _ ho
  · rw [Heap.get?_update_self _ (Heap.get?_push_of_some _ he) rfl]
    rfl
end
end EW
end

section
set_option maxHeartbeats 4000000
namespace EW
open PySem PySem.Spec PyProof.Rows L2 PySem.HandSPX
/-! ### stores into an exception, over the heap -/
section
open Builtin Builtin.ObjectAttr
variable {prog : Program} {w : World} {A : Around} {E : Value → Shared → Prop} {R : Result → Shared → Prop} {hp : Heap} {gs : Array GenState} {dr : Drawn} {tk : Nat} {os : OsState} {K : W.Frag} {B : String} {bmB : List Value}
theorem taker_none {C : Addr} {f : Str} (h : W.findIn K (.ref C) f = some none) : W.takerIn K C f = some none := by
  unfold W.takerIn
  rw [h]
  rfl
/-- the first field: the object gets its dict -/
theorem sto_new {f : Str} {ft : Tok} {v : Value} {x C : Addr} {fv : Array Value} {cd : ClassData} (SF : StoreFacts B bmB "object.__setattr__" "object") (X : K.In hp)
    (hx : hp.get? x = some { cls := .ref C, data := .fields fv }) (hov : W.excOver K C bmB = true) (hcd : W.clsIn K C = some cd) (hh : cd.hasDict = true) (ha : W.findIn K (.ref C) f = some none)
    (z : ∀ h' t' dx, (∀ b o, b ≠ x → hp.get? b = some o → h'.get? b = some o) → hp.objs.size ≤ dx → dx ≠ x → h'.get? x = some { cls := .ref C, dict := some dx, data := .fields fv } →
      h'.Ns1 dx (fun y => if y = f then some v else none) → R (.ok (.ret .none)) ⟨h', gs, dr, t', os⟩) :
    codeAny (model prog w) A (.call (.builtin "object.__setattr__") ⟨[.ref x, .str f ft, v], []⟩) R ⟨hp, gs, dr, tk, os⟩ := by
  have nx : x ≠ hp.objs.size := Nat.ne_of_lt (Heap.lt_size hx)
  have lk : W.Looks (model prog w) hp (classData C) cd := W.looks_clsIn X hcd
  refine W.osa_openX (s := ⟨hp, gs, dr, tk, os⟩) (r := none) (od := none) SF X ⟨hx, rfl, rfl, trivial⟩ hov (taker_none ha) (fun bb => ?_)
  show wpAny _ _ (storeInOwnDict (.ref x) (.ref C) (.str f ft) f v bb) _ _ _
  obtain ⟨c1, c2, c3, c4, c5, c6, c7, c8, c9, c10, c11⟩ := cd
  dsimp only at hh
  subst hh
  unfold storeInOwnDict ownDictForStores
  repeat (first
    | with_reducible refine store_in_new ?_ ?_
    | with_reducible refine wpAny_loadPart_at hx ?_
    | with_reducible refine lk.at ?_
    | wp_step)
  · exact ⟨_, #[], _, (Heap.get?_update_ne _ _ _ _ nx.symm).trans (Heap.get?_push_at rfl rfl), rfl,
      fun e he => absurd he (by simp), fun _ => rfl⟩
  · intro h' t' hn hs
    have hx1 : (hp.push { cls := .type "dict", data := .dict #[] }).get? x = some { cls := .ref C, data := .fields fv } :=
      Heap.get?_push_of_some _ hx
    refine z h' t' hp.objs.size (fun b o hb ho => ?_) (Nat.le_refl _) nx.symm ?_ hn
    · exact (hs.2 b (Nat.ne_of_lt (Heap.lt_size ho))).trans
        ((Heap.get?_update_ne _ _ _ _ hb).trans (Heap.get?_push_of_some _ ho))
    · exact (hs.2 x nx).trans (Heap.get?_update_self _ hx1 rfl)
/-- a further field -/
theorem sto_old {f : Str} {ft : Tok} {v : Value} {x C dx : Addr} {fv : Array Value} {cd : ClassData} {m0 : Str → Option Value} {nl : List Str} (SF : StoreFacts B bmB "object.__setattr__" "object") (X : K.In hp)
    (hx : hp.get? x = some { cls := .ref C, dict := some dx, data := .fields fv }) (hns : hp.Ns1 dx m0) (hw : Within m0 nl) (hz : nl.length ≤ 1000) (hov : W.excOver K C bmB = true) (hcd : W.clsIn K C = some cd) (hh : cd.hasDict = true) (ha : W.findIn K (.ref C) f = some none)
    (z : ∀ h' t', (∀ b o, b ≠ dx → hp.get? b = some o → h'.get? b = some o) → h'.Ns1 dx (fun y => if y = f then some v else m0 y) → R (.ok (.ret .none)) ⟨h', gs, dr, t', os⟩) :
    codeAny (model prog w) A (.call (.builtin "object.__setattr__") ⟨[.ref x, .str f ft, v], []⟩) R ⟨hp, gs, dr, tk, os⟩ := by
  obtain ⟨oD, esD, epD, hoD, hdD, _⟩ := hns.count hw
  have lk : W.Looks (model prog w) hp (classData C) cd := W.looks_clsIn X hcd
  refine W.osa_openX (s := ⟨hp, gs, dr, tk, os⟩) (r := none) (od := some oD) SF X ⟨hx, rfl, rfl, hoD⟩ hov (taker_none ha) (fun bb => ?_)
  show wpAny _ _ (storeInOwnDict (.ref x) (.ref C) (.str f ft) f v bb) _ _ _
  obtain ⟨c1, c2, c3, c4, c5, c6, c7, c8, c9, c10, c11⟩ := cd
  dsimp only at hh
  subst hh
  unfold storeInOwnDict ownDictForStores
  repeat (first
    | with_reducible refine PySem.OEX.store_in_old hns hw hz ?_
    | with_reducible refine wpAny_loadPart_at hx ?_
    | with_reducible refine lk.at ?_
    | wp_step)
  intro h' t' hn hs
  exact z h' t' (fun b o hb ho => (hs.2 b hb).trans ho) hn
end
/-! ### what the written part says of such a class -/
/-- as of any own exception class: isinstance, attributes -/
structure XIs (K : W.Frag) (C : Addr) : Prop where
  cl : (W.clsIn K C).isSome = true
  ga : W.findIn K (.ref C) "__getattribute__" = some (some (.builtin "BaseException.__getattribute__"))
  gg : W.findIn K (.ref C) "__getattr__" = some none
  be : W.subIn K (.ref C) (.type "BaseException") = some true
  ca : W.findIn K (.ref C) "__class__" = some (some (.builtin "object.__class__"))
  hn : W.specialIn K (.builtin "object.__class__") "__get__" = some (some (.builtin "getset_descriptor.__get__"))
  ht : W.takesIn K (.builtin "object.__class__") = some true
  mo : W.mroIn K C (.type "object") = some true
def xisB (K : W.Frag) (C : Addr) : Bool := (W.clsIn K C).isSome
  && decide (W.findIn K (.ref C) "__getattribute__" = some (some (.builtin "BaseException.__getattribute__")))
  && decide (W.findIn K (.ref C) "__getattr__" = some none) && decide (W.subIn K (.ref C) (.type "BaseException") = some true)
  && decide (W.findIn K (.ref C) "__class__" = some (some (.builtin "object.__class__")))
  && decide (W.specialIn K (.builtin "object.__class__") "__get__" = some (some (.builtin "getset_descriptor.__get__")))
  && decide (W.takesIn K (.builtin "object.__class__") = some true) && decide (W.mroIn K C (.type "object") = some true)
theorem xisB_ok {K : W.Frag} {C : Addr} (h : xisB K C = true) : XIs K C := by
  unfold xisB at h
  simp only [Bool.and_eq_true, decide_eq_true_eq] at h
  obtain ⟨⟨⟨⟨⟨⟨⟨h1, h2⟩, h3⟩, h4⟩, h5⟩, h6⟩, h7⟩, h8⟩ := h
  exact ⟨h1, h2, h3, h4, h5, h6, h7, h8⟩
/-- of one whose __init__ is its own: over B, made by newId of Bn -/
structure XMk (K : W.Frag) (C fI : Addr) (bmB : List Value) (newId : String) : Prop where
  mkr : W.excInitIn K C bmB newId = true
  ov : W.excOver K C bmB = true
  hd : W.hasDictIn K C = true
  sa : W.findIn K (.ref C) "__setattr__" = some (some (.builtin "object.__setattr__"))
  kp : W.keepIn K (.ref C) = true
  ini : W.findIn K (.ref C) "__init__" = some (some (.ref fI))
  tyI : W.typeIn K (.ref fI) = some (.type "function")
def xmkB (K : W.Frag) (C fI : Addr) (bmB : List Value) (newId : String) : Bool := W.excInitIn K C bmB newId && W.excOver K C bmB && W.hasDictIn K C
  && decide (W.findIn K (.ref C) "__setattr__" = some (some (.builtin "object.__setattr__"))) && W.keepIn K (.ref C)
  && decide (W.findIn K (.ref C) "__init__" = some (some (.ref fI))) && decide (W.typeIn K (.ref fI) = some (.type "function"))
theorem xmkB_ok {K : W.Frag} {C fI : Addr} {bmB : List Value} {newId : String} (h : xmkB K C fI bmB newId = true) : XMk K C fI bmB newId := by
  unfold xmkB at h
  simp only [Bool.and_eq_true, decide_eq_true_eq] at h
  obtain ⟨⟨⟨⟨⟨⟨h1, h2⟩, h3⟩, h4⟩, h5⟩, h6⟩, h7⟩ := h
  exact ⟨h1, h2, h3, h4, h5, h6, h7⟩
theorem ref_contains {C : Addr} {bm bmB : List Value} (h : ∀ X : String, bm.contains (.type X) = bmB.contains (.type X)) (T : String) : (Value.ref C :: bm).contains (.type T) = bmB.contains (.type T) := by
  rw [List.contains_cons, h]
  rfl
section
variable {X : Cx} {pins : List (Addr × Obj)} {σ : L2.St} {H : Hp} {s : Shared} {a C fI dx : Addr} {f : Str} {y : V} {u : Value} {fs : List (Str × V)} {Q : Unit → Shared → Prop} {E : Value → Shared → Prop} {A : Around} {B newId : String} {bmB : List Value}
/-- self.f = y, the first one -/
theorem fld_new (T : XMk X.K C fI bmB newId) (SF : StoreFacts B bmB "object.__setattr__" "object") (I : Inv X pins σ H s) (e : H a = some (exo a C none)) (hno : W.findIn X.K (.ref C) f = some none) (ry : RelV y u)
    (h : ∀ dx s', H dx = none → dx ≠ a → Inv X pins σ (upd (upd H dx (exd dx [(f, y)])) a (exo a C (some dx))) s' → Q () s') : wpAny (model X.prog X.w) A (setAttr (.ref a) f u) Q E s := by
  obtain ⟨cd, hcd, hh⟩ := W.any_some T.hd
  obtain ⟨t1, ho⟩ := exo_at I.hok e
  obtain ⟨hp, g, d, t, os⟩ := s
  refine W.set_plain I.kIn (ox := { cls := .ref C, dict := none, data := .fields #[.ref t1, .none, .none, .none, .bool false, .none] }) (od := none) ⟨ho, rfl, rfl, trivial⟩ T.sa ?_
  refine sto_new SF I.kIn ho T.ov hcd hh hno (fun h' t' dx k dn dne hx hn => ?_)
  have fd : H dx = none := I.hok.fresh dn
  have nd : ∀ {b : Addr} {o : Obj}, hp.get? b = some o → b ≠ dx := fun {b o} q => Nat.ne_of_lt (Nat.lt_of_lt_of_le (Heap.lt_size q) dn)
  have na : ∀ {b : Addr}, H b = none → b ≠ a := fun {b} n z => by
    rw [z, e] at n
    cases n
  refine h dx _ fd dne (I.un (t' := t') (H' := upd (upd H dx (exd dx [(f, y)])) a (exo a C (some dx))) (h' := h') ?_ fun b o q => ?_)
  · constructor
    · exact fun b o q n _ _ => k b o (na n) q
    · exact fun b o q n _ _ => ⟨o.slots, k b o (na n) q⟩
    · exact fun b o q n _ => by
        rw [upd_ne (na n), upd_ne (nd q)]
        exact n
    · exact fun b o q _ => by
        by_cases hb : b = a
        · exact ⟨_, by rw [hb]; exact hx⟩
        · exact ⟨o, k b o hb q⟩
    · exact fun b xs q => by
        rw [upd_ne (at_ne e q exo_tup), upd_ne (ne_of_none q fd)]
        exact q
    · exact fun b o v q => by
        rw [upd_ne (at_ne e q exo_frz), upd_ne (ne_of_none q fd)]
        exact q
    · exact fun b ps q => ⟨#[], by
        rw [upd_ne (at_ne e q exo_tbl), upd_ne (ne_of_none q fd), q]
        simp⟩
  · by_cases hb : b = a
    · subst hb
      rw [upd_same] at q
      cases q
      exact exo_ok hx
    · rw [upd_ne hb] at q
      by_cases hd : b = dx
      · subst hd
        rw [upd_same] at q
        cases q
        exact exd_ok hn (relO_put (fs := []) ry fun g => True.intro)
      · rw [upd_ne hd] at q
        refine (I.hok b o q).stay (fun c v hc z => k c v ?_ z) (fun c hc => ?_) (fun c xs hc => ?_)
        · rcases hc with hc | hc
          · rw [hc]
            exact hb
          · exact at_ne e hc exo_own
        · rw [upd_ne (at_ne e hc exo_own), upd_ne (ne_of_none hc fd)]
          exact hc
        · rw [upd_ne (at_ne e hc exo_tup), upd_ne (ne_of_none hc fd)]
          exact hc
/-- self.f = y, a further one -/
theorem fld_old (T : XMk X.K C fI bmB newId) (SF : StoreFacts B bmB "object.__setattr__" "object") (I : Inv X pins σ H s) (e : H a = some (exo a C (some dx))) (ed : H dx = some (exd dx fs)) (hl : fs.length ≤ 900) (hno : W.findIn X.K (.ref C) f = some none) (ry : RelV y u)
    (h : ∀ s', Inv X pins σ (upd H dx (exd dx ((f, y) :: fs))) s' → Q () s') : wpAny (model X.prog X.w) A (setAttr (.ref a) f u) Q E s := by
  obtain ⟨cd, hcd, hh⟩ := W.any_some T.hd
  obtain ⟨t1, ho⟩ := exo_at I.hok e
  obtain ⟨mA, hns, rel⟩ := exd_at I.hok ed
  have hw := within_of rel
  obtain ⟨hp, g, d, t, os⟩ := s
  obtain ⟨oD, _, _, hoD, _, _⟩ := hns.count hw
  refine W.set_plain I.kIn (ox := { cls := .ref C, dict := some dx, data := .fields #[.ref t1, .none, .none, .none, .bool false, .none] }) (od := some oD) ⟨ho, rfl, rfl, hoD⟩ T.sa ?_
  refine sto_old SF I.kIn ho hns hw (by rw [List.length_map]; omega) T.ov hcd hh hno (fun h' t' k hn => ?_)
  have there : ∃ o, h'.get? dx = some o := by
    obtain ⟨o, _, _, e', _⟩ := hn
    exact ⟨o, e'⟩
  refine h _ (I.write (t' := t') (x := dx) (e := dx) (o := exd dx ((f, y) :: fs)) ?_ (.inl rfl) k there (exd_ok hn (relO_put ry rel)))
  rw [ed]
  exact True.intro
/-- B.__init__(self, ..): nothing of it is told -/
theorem base_init {us : List Value} {Q : Value → Shared → Prop} {nid initId : String} (T : XMk X.K C fI bmB newId) (Fi : ExcClass B nid initId) (hB : bmB.contains (.type B) = true) (I : Inv X pins σ H s) (e : H a = some (exo a C none)) (hl : us.length ≤ sizeLine) (h : ∀ s', Inv X pins σ H s' → Q .none s') :
    wpAny (model X.prog X.w) A (call (.builtin initId) (.ref a :: us)) Q E s := by
  obtain ⟨nm, N, qn, bs, bm, hdc, sn, sub, ab, col, dd, k0, k1, k2, k3, k5, hC, hbm⟩ := W.excInit_of I.kIn T.mkr
  obtain ⟨t1, ho⟩ := exo_at I.hok e
  obtain ⟨hp, g, d, t, os⟩ := s
  refine wpAny_call (run_init Fi ((ref_contains hbm B).trans hB) hC ho hl fun h' t2 k hx => ?_)
  have J := I.write (t' := t) (x := a) (e := a) (o := exo a C none) (by rw [e]; exact True.intro) (.inl rfl) k ⟨_, hx⟩ (exo_ok hx)
  have eu : upd H a (exo a C none) = H := by
    funext b
    by_cases hb : b = a
    · rw [hb, upd_same, e]
    · rw [upd_ne hb]
  rw [eu] at J
  exact h _ J
end
end EW
end

section
set_option maxHeartbeats 4000000
namespace EW
open PySem PySem.Spec PyProof.Rows L2 PySem.HandSPX
/-! ### rules: an exception made by its own __init__, its fields, isinstance -/
/-- B.__init__(self, ..) -/
def tBInit (C : Addr) (ta : TA) : TE := fun σ H Q => ta σ H fun vs H1 => ∃ (a : Addr) (ws : List V), vs = .ref a :: ws ∧ ws.length ≤ 1000 ∧ H1 a = some (exo a C none) ∧ Q .non H1
/-- self.f = e -/
def tXst (C : Addr) (f : Str) (to te : TE) : TS := fun D σ H => te σ H fun y H1 => to σ H1 fun x H2 => ∃ a : Addr, x = .ref a ∧
  ((H2 a = some (exo a C none) ∧ ∀ dx, H2 dx = none → dx ≠ a → D.nx σ (upd (upd H2 dx (exd dx [(f, y)])) a (exo a C (some dx)))) ∨
    ∃ (dx : Addr) (fs : List (Str × V)), H2 a = some (exo a C (some dx)) ∧ H2 dx = some (exd dx fs) ∧ fs.length ≤ 900 ∧ D.nx σ (upd H2 dx (exd dx ((f, y) :: fs))))
/-- C(e, ..) as a value -/
def tMkX (C : Addr) (sp : Sp) (ta : TA) : TE := fun σ H Q => ta σ H fun vs H1 => vs.length ≤ 1000 ∧ ∀ a, H1 a = none →
  sp (.ref a :: vs) (upd H1 a (exo a C none)) (fun v H2 => v = .non ∧ Q (.ref a) H2) (fun _ _ _ => False)
/-- an exception object of the class at C stands at a -/
def ExcAt (H : Hp) (a C : Addr) : Prop := H a = some (ExO (.ref C) a) ∨ ∃ (d : Addr) (fs : List (Str × V)), H a = some (exo a C (some d)) ∧ H d = some (exd d fs)
/-- isinstance(x, c) of such an object -/
def rIsX (K : W.Frag) : List V → Hp → VK → Prop := fun xs H Q => ∃ (a C : Addr) (c : V) (u : Value) (b : Bool), xs = [.ref a, c] ∧ ClsV c u ∧ XIs K C ∧ ExcAt H a C ∧ W.kitOne K (.ref C) u = some b ∧ Q (.bl b) H
/-- x.f of one with fields -/
def tXfl (K : W.Frag) (f : Str) (te : TE) : TE := fun σ H Q => te σ H fun x H1 => ∃ (a C d : Addr) (fs : List (Str × V)) (v : V), x = .ref a ∧ XIs K C ∧ W.hasDictIn K C = true ∧ W.findIn K (.ref C) f = some none ∧
  H1 a = some (exo a C (some d)) ∧ H1 d = some (exd d fs) ∧ fs.lookup f = some v ∧ Q v H1
section
variable {X : Cx} {o e : Expr} {es : List Expr} {to te : TE} {ta : TA} {f : Str} {p p' p1 p2 pos : Pos} {B newId : String} {bmB : List Value} {C fI : Addr}
theorem pe_binit {pl : Sem Bool} {b : Str} {nid initId : String} (T : XMk X.K C fI bmB newId) (Fi : ExcClass B nid initId) (hB : bmB.contains (.type B) = true) (hg : Gl X b) (hm : X.mg b = none) (hv : bootBuiltins b = some (.type B))
    (ty : typeOf (.type B) = pure (.type "type")) (st : Manifest.isStub B = false) (vV : W.findCls X.K (.type B) (.type "type") "__init__" = some (.val (.builtin initId))) (hh : W.handedIn (Value.builtin initId) = true) (ha : PA X (e :: es) ta)
    (hc : eval (.Call (.Attribute (.Name b p1) "__init__" p2) (e :: es) [] pos) X.env = (do
      let ov ← eval (.Name b p1) X.env
      standAt p2.atName
      let (fn, first) ← holding [ov] (getMethod ov "__init__" pl)
      callWith pos fn first (backTo pos (starEach (e :: es) X.env)) (backToKw pos (keywordEach [] X.env))) := by rfl)
    (he : starEach (e :: es) X.env = (false, eval e X.env) :: starEach es X.env := by rfl) (hpl : (backTo pos (starEach es X.env)).any (·.1) = false := by rfl)
    (hn : b ≠ "__name__" := by decide) (hdb : (b == ("__debug__" : Str)) = false := by decide) :
    PE X (.Call (.Attribute (.Name b p1) "__init__" p2) (e :: es) [] pos) (tBInit C ta) := by
  refine ⟨fun pins s σ H Q I h => ?_⟩
  refine W.methodCall_KW (ld_blt I hg hm hv ?_ hn hdb) hc
  obtain ⟨m, fr⟩ := I.fr
  refine W.method_type fr I.ok.mod.kin ty st vV hh ?_
  show wpAny _ _ (callWith pos (Value.builtin initId) [] (backTo pos (starEach (e :: es) X.env)) []) _ _ _
  refine callWith_method1 (thn (ha.run pos pins _ σ H _ (I.tok _) h) fun us s1 hq => ?_) he hpl
  obtain ⟨vs, H1, I1, r1, a, ws, ev, hl, ea, q⟩ := hq
  subst ev
  cases r1 with
  | @cons _ u0 _ ur ra rr =>
    obtain rfl : u0 = Value.ref a := ra
    have hlen : ur.length ≤ sizeLine := by
      rw [← Paired.length rr, sizeLine_eq]
      omega
    exact base_init T Fi hB I1 ea hlen fun s' J => ⟨.non, H1, J, rfl, q⟩
theorem ps_xst (T : XMk X.K C fI bmB newId) (SF : StoreFacts B bmB "object.__setattr__" "object") (hno : W.findIn X.K (.ref C) f = some none) (ho : PE X o to) (he : PE X e te)
    (hs : swapsWith e (some (.Attribute o f p')) pos.line X.env = pure false := by rfl) : PS X (.Assign [.Attribute o f p'] e pos) (tXst C f to te) := by
  refine ⟨fun pins s σ H D I h => ?_⟩
  refine plainObj_wpAny_Assign_Attribute (thn (he.run pins s σ H _ I h) fun v s1 hq => ?_) hs
  obtain ⟨y, H1, I1, r1, q1⟩ := hq
  refine thn (ho.run pins s1 σ H1 _ I1 q1) fun u s2 hq => ?_
  obtain ⟨x, H2, I2, r2, a, ex, q⟩ := hq
  subst ex
  obtain rfl : u = Value.ref a := r2
  rcases q with ⟨ea, q⟩ | ⟨dx, fs, ea, ed, hl, q⟩
  · exact fld_new T SF I2 ea hno r1 fun dx s' n ne J => ⟨σ, _, J, q dx n ne⟩
  · exact fld_old T SF I2 ea ed hl hno r1 fun s' J => ⟨σ, _, J, q⟩
theorem inst_of {pins : List (Addr × Obj)} {σ : L2.St} {H : Hp} {s : Shared} {a : Addr} (I : Inv X pins σ H s) (h : ExcAt H a C) : ∃ (ox : Obj) (od : Option Obj), W.InstAt s.heap a ox C od := by
  rcases h with h | ⟨d, fs, h1, h2⟩
  · obtain ⟨⟨oe, vs, ho, hz, hd, _⟩, _, _⟩ := I.hok a _ h
    obtain ⟨oc, od, oda, osl⟩ := oe
    obtain ⟨z1, z2⟩ := hz
    dsimp only at z1 z2 hd
    subst z1 z2 hd
    exact ⟨_, none, ho, rfl, rfl, trivial⟩
  · obtain ⟨t1, ho⟩ := exo_at I.hok h1
    obtain ⟨mA, ⟨od, es', ep, h3, _⟩, _⟩ := exd_at I.hok h2
    exact ⟨_, some od, ho, rfl, rfl, h3⟩
theorem call_isX : CallR X (.builtin "isinstance") (rIsX X.K) := by
  intro pins s σ H xs us Q I r h
  obtain ⟨a, D, c, u, b, rfl, k, T, ea, e, q⟩ := h
  obtain ⟨u1, u2, rfl, r1, r2⟩ := vals2 r
  have e2 := k.eq r2
  subst e2
  cases (show u1 = Value.ref a from r1)
  obtain ⟨ox, od, J⟩ := inst_of I ea
  exact W.kia_one (W.kitx_exc T.cl T.ga T.gg T.be T.ca T.hn T.ht T.mo) I.kIn J e (fun z => nomatch z) fun tk => ⟨.bl b, H, I.tok tk, rfl, q⟩
theorem pe_xfl (he : PE X e te) (hb : attributeBase e f X.env (eval e X.env) = eval e X.env := by rfl) : PE X (.Attribute e f pos) (tXfl X.K f te) := by
  refine ⟨fun pins s σ H Q I h => ?_⟩
  refine attr_of hb (thn (he.run pins s σ H _ I h) fun u s1 hq => ?_)
  obtain ⟨x, H1, I1, rx, a, D, d, fs, v, ex, T, hd, hno, h1, h2, hl, q⟩ := hq
  subst ex
  obtain rfl : u = Value.ref a := rx
  obtain ⟨t1, ho⟩ := exo_at I1.hok h1
  obtain ⟨mA, hns, rel⟩ := exd_at I1.hok h2
  obtain ⟨od, hod, hlk⟩ := lookIn_ns hns
  have rf := rel f
  rw [hl] at rf
  obtain ⟨z, hz, rz⟩ := RelO.some_of rf
  have J : W.InstAt s1.heap a { cls := .ref D, dict := some d, data := .fields #[.ref t1, .none, .none, .none, .bool false, .none] } D (some od) := ⟨ho, rfl, rfl, hod⟩
  exact exc_get I1.kIn J T.ga T.gg T.be (W.findObj_own hd hno rfl (by rw [hlk, hz])) (handed_of rz) ⟨v, H1, I1.tok _, rz, q⟩
theorem pe_mkX {CX : CXT} {x : Str} {k : Nat} {fd : FuncData} {ps : List Str} {sp : Sp} {Bn inN : String} {bmN : List Value} (T : XMk X.K C fI bmB newId) (Fn : ExcBaseFacts Bn newId inN bmN) (hB : bmB.contains (.type Bn) = true) (hA : bmB.contains (.type "AttributeError") = false) (hN : bmB.contains (.type "NameError") = false)
    (F1 : FnOk X.prog X.w X.K X.mg X.base CX k fI fd ps sp) (hr : Room (k + 1) X.A) (hb : Binds X.K fd ps []) (hx : Passes CX X (fun _ _ _ => False)) (hg : Gl X x) (hm : X.mg x = some (.ref C)) (ha : PA X (e :: es) ta)
    (hdb : (x == ("__debug__" : Str)) = false := by decide) (he : starEach (e :: es) X.env = (false, eval e X.env) :: starEach es X.env := by rfl) (hpl : (backTo pos (starEach es X.env)).any (·.1) = false := by rfl) :
    PE X (.Call (.Name x p) (e :: es) [] pos) (tMkX C sp ta) := by
  refine ⟨fun pins s σ H Q I h => ?_⟩
  refine wpAny_Call_Name_kw (ld_glob I hg hm ?_ hdb)
  refine W.callWith_K (h₀ := X.base) I.ok.mod.kin T.kp (thn (ha.run pos pins s σ H _ I h) fun us s1 hq => ?_) he hpl
  obtain ⟨vs, H1, I1, r1, hz, q1⟩ := hq
  refine ⟨I1.kIn, ?_⟩
  show wpAny _ _ (call (.ref C) us) _ _ _
  obtain ⟨nm, N, qn, bs, bm, hdc, sn, sub, ab, col, dd, k0, k1, k2, k3, k5, hC, hbm⟩ := W.excInit_of I1.kIn T.mkr
  have O : NewOk C bm Bn := ⟨(ref_contains hbm _).trans hB, (ref_contains hbm _).trans hA, (ref_contains hbm _).trans hN⟩
  obtain ⟨hp, g, dr, tk, os⟩ := s1
  have hn : H1 (hp.objs.size + 1) = none := I1.hok.fresh (Nat.le_succ _)
  have sz := q1 (hp.objs.size + 1) hn
  have kk : ∀ b o, hp.get? b = some o → ((hp.push (W.kdv_tup us)).push (excO C hp.objs.size)).get? b = some o :=
    fun b o z => Heap.get?_push_of_some _ (Heap.get?_push_of_some _ z)
  have hget : ((hp.push (W.kdv_tup us)).push (excO C hp.objs.size)).get? (hp.objs.size + 1) = some (excO C hp.objs.size) := by
    heap_get
  have I2 : Inv X pins σ (upd H1 (hp.objs.size + 1) (exo (hp.objs.size + 1) C none)) ⟨(hp.push (W.kdv_tup us)).push (excO C hp.objs.size), g, dr, tk, os⟩ :=
    I1.laid (t' := tk) kk (Nat.le_succ _) (exo_ok hget)
  have r2 : Vals (V.ref (hp.objs.size + 1) :: vs) (Value.ref (hp.objs.size + 1) :: us) := .cons rfl r1
  have hl : (Value.ref (hp.objs.size + 1) :: us ++ []).length = ps.length := by
    have z := r2.length
    rw [F1.len _ _ _ _ sz] at z
    rw [List.append_nil]
    exact z.symm
  have hus : us.length ≤ sizeLine := by
    rw [← Paired.length r1, sizeLine_eq]
    omega
  have bb := hb _ (Value.ref (hp.objs.size + 1) :: us) I2.kIn hl
  rw [List.append_nil] at bb
  refine wpAny_call (run_make Fn O hC (W.looks_findIn I1.kIn T.ini) (fun self => W.bind_fn I1.kIn self T.tyI) hus
    (codeAny_mono (F1.run _ X.stack _ _ ⟨Value.ref (hp.objs.size + 1) :: us, []⟩ (Value.ref (hp.objs.size + 1) :: us) _ _ (fun _ _ _ => False) (hr.make C us []) (I2.env0.make C us []) bb r2 sz) fun r s' z => ?_))
  cases r with
  | error er => exact hx pins σ _ _ er s' I2 z
  | ok fl =>
    cases fl with
    | ret u =>
      obtain ⟨v, H2, os2, bare2, un2, hok2, rv, ev, q2⟩ := z
      subst ev
      have J := I2.after (Q := fun _ H' => Q (V.ref (hp.objs.size + 1)) H') (u := u) (s' := s') ⟨V.non, H2, os2, bare2, un2, hok2, rv, q2⟩
      obtain ⟨v', H3, I3, _, q3⟩ := J
      exact ⟨rv, V.ref (hp.objs.size + 1), H3, I3, rfl, q3⟩
    | next => exact False.elim z
    | brk => exact False.elim z
    | cont => exact False.elim z
end
end EW
end

section
set_option maxHeartbeats 4000000
namespace EW
open PySem PySem.Spec PyProof.Rows L2
/-! ### defs that call repr of data: nothing is being shown around them -/
structure FnG (P : Program) (w : World) (K : W.Frag) (mg : Str → Option Value) (base : Heap) (CX : CXT) (k : Nat) (f : Addr) (fd : FuncData) (ps : List Str) (sp : Sp) : Prop where
  len : ∀ vs H Q E, sp vs H Q E → vs.length = ps.length
  run : ∀ (A : Around) (outer : List Env) (s : Shared) (H : Hp) (args : Args) (us : List Value) (vs : List V) (Q : VK) (E : XK), Room k A → A.guards = some [] → Env0 P w K mg base A outer s H → BindsTo s fd args (ps.zip us) → Vals vs us → sp vs H Q E →
    codeAny (model P w) A (.call (.ref f) args) (CR CX outer P w H s Q E) s
theorem FnG.of {P : Program} {w : World} {K : W.Frag} {mg : Str → Option Value} {base : Heap} {CX : CXT} {k : Nat} {f : Addr} {fd : FuncData} {ps : List Str} {sp : Sp} (F : FnOk P w K mg base CX k f fd ps sp) : FnG P w K mg base CX k f fd ps sp :=
  ⟨F.len, fun A outer s H args us vs Q E hr _ e0 hb r hs => F.run A outer s H args us vs Q E hr e0 hb r hs⟩
/-- THE RULE for such a def -/
theorem okG {P : Program} {w : World} {K : W.Frag} {mg : Str → Option Value} {base : Heap} {CX : CXT} {x qual : Str} {params : Arguments} {body : List Stmt} {scope : Scope} {dvs : List V} {kws : List (Str × V)} {f : Addr} {fd : FuncData} {N ps : List Str} {k : Nat} {sp : Sp}
    (F : FunD K x qual params body scope dvs kws f fd) (S : FnScope N ps scope) (len : ∀ vs H Q E, sp vs H Q E → vs.length = ps.length)
    (hbody : ∀ (cdv : Value) (A : Around) (outer : List Env) (s : Shared) (H : Hp) (vs : List V) (Q : VK) (E : XK), Room k (A.deeper (envOfC qual scope s.heap.objs.size f cdv)) → A.guards = some [] → sp vs H Q E →
      ∃ t, PSs (cxOf CX P w K mg base N qual scope f cdv A outer s H E) body t ∧ t { nx := fun _ H' => Q .non H', rt := Q } (start N vs) H) : FnG P w K mg base CX (k + 1) f fd ps sp := by
  obtain ⟨oc, od, dV, kV, doc, pm, an, cdv, ct, osl, rfl, lk, hcd, _, _⟩ := F.ex
  refine ⟨len, fun A outer s H args us vs Q E hr hg e0 hb r hsp => ?_⟩
  have hl := len _ _ _ _ hsp
  have ke := fun b o e => (e0.bs b o e).1
  have KX : K.In s.heap := e0.mod.kin.keeps ke
  have lim : s.heap.NoLimit := e0.mod.nolimit.keeps ke
  refine codeAny_call_function hr.depth (KX _ _ lk) rfl S.co S.gen rfl (W.codeRec_of KX hcd) (hb _ _ _ _ ?_)
  refine wpAny_newFunctionEnv_cells S.kind (fun y hy => ?_) fun env he s1 xc => ?_
  · obtain ⟨n, v⟩ := y
    rcases S.par n (List.of_mem_zip hy).1 with q | q
    · exact .inl q
    · exact .inr ⟨q, W.cellsFrom_some _ _ _ (.inl q)⟩
  · subst he
    refine ⟨lim.keeps xc.toInCall.keep, codeAny_func ?_⟩
    obtain ⟨t, ht, hq⟩ := hbody cdv A outer s H vs Q E (hr.deeper _) hg hsp
    have I : Inv (cxOf CX P w K mg base N qual scope f cdv A outer s H E) [] (start N vs) H s1 := inv_start S hr.hd e0 hl r xc
    refine wpAny_mono (ht.run [] s1 (start N vs) H _ I hq) (fun fl s' hs => ?_) fun e s' hs => hs
    cases fl with
    | ret u =>
      obtain ⟨v, σ', H', J, rv, q⟩ := hs
      exact ⟨v, H', J.os, J.bare, J.base, J.hok, rv, q⟩
    | next =>
      obtain ⟨σ', H', J, q⟩ := hs
      exact ⟨V.non, H', J.os, J.bare, J.base, J.hok, rfl, q⟩
    | brk =>
      obtain ⟨_, _, _, q⟩ := hs
      exact False.elim q
    | cont =>
      obtain ⟨_, _, _, q⟩ := hs
      exact False.elim q
section
variable {X : Cx} {CX : CXT} {k : Nat} {f : Addr} {fd : FuncData} {ps : List Str} {sp : Sp} {E : XK} {x : Str} {p pos : Pos} {e : Expr} {es : List Expr} {t : TA}
theorem pe_callG (F : FnG X.prog X.w X.K X.mg X.base CX k f fd ps sp) (hr : Room k X.A) (hG : X.A.guards = some []) (hg : Gl X x) (hm : X.mg x = some (.ref f)) (hk : W.keepIn X.K (.ref f) = true) (hb : Binds X.K fd ps []) (hx : Passes CX X E)
    (ha : PA X (e :: es) t) (hdb : (x == ("__debug__" : Str)) = false := by decide) (he : starEach (e :: es) X.env = (false, eval e X.env) :: starEach es X.env := by rfl) (hpl : (backTo pos (starEach es X.env)).any (·.1) = false := by rfl) :
    PE X (.Call (.Name x p) (e :: es) [] pos) (tCall sp [] E t) := by
  refine ⟨fun pins s σ H Q I h => ?_⟩
  refine wpAny_Call_Name_kw (ld_glob I hg hm ?_ hdb)
  refine W.callWith_K (h₀ := X.base) I.ok.mod.kin hk (thn (ha.run pos pins s σ H _ I h) fun us s1 hq => ?_) he hpl
  obtain ⟨vs, H1, I1, r, q⟩ := hq
  refine ⟨I1.kIn, ?_⟩
  rw [List.append_nil] at q
  have hl : us.length = ps.length := by
    rw [← r.length]
    exact F.len _ _ _ _ q
  have bb := hb s1 us I1.kIn (by rw [List.append_nil]; exact hl)
  rw [List.append_nil] at bb
  show wpAny _ _ (call (.ref f) us) _ _ _
  refine wpAny_call (codeAny_mono (F.run X.A X.stack s1 H1 ⟨us, []⟩ us vs Q E hr hG I1.env0 bb r q) fun r s' z => ?_)
  cases r with
  | error er => exact hx pins σ H1 s1 er s' I1 z
  | ok fl =>
    cases fl with
    | ret u => exact I1.after z
    | next => exact False.elim z
    | brk => exact False.elim z
    | cont => exact False.elim z
/-- repr of lists and tuples of data -/
def rRepr (K : W.Frag) : List V → Hp → VK → Prop := fun xs H Q => ∃ (a : Addr) (d : PyData), xs = [.ref a] ∧ Dp K H (.ref a) d ∧ d.showable = true ∧ d.hasDict = false ∧ d.depth ≤ 60 ∧ d.shown.length ≤ sizeLine ∧ Q (.str d.shown) H
theorem call_repr (hG : X.A.guards = some []) (hr : Room k X.A) : CallR X (.builtin "repr") (rRepr X.K) := by
  intro pins s σ H xs us Q I r h
  obtain ⟨a, d, rfl, hd, hs, hn, hp, hz, q⟩ := h
  cases r with
  | cons rx rn =>
    cases rn
    obtain ⟨as, r1⟩ := Dp.reads I d (.ref a) _ hd rx
    obtain rfl := rx
    have hu := hr.un
    exact repr_of_reads' r1 hs (fun z => by rw [hn] at z; cases z) hG (by omega) (fun _ _ z => z)
      (fun h' u tk hk => ⟨.str d.shown, H, I.kept (t' := tk) hk, ⟨u, rfl⟩, q⟩) hz
end
/-- the law's call, by such a promise; the script's bits are told -/
theorem law_callG {P : Program} {w : World} {K : W.Frag} {mg mb : Str → Option Value} {CX : CXT} {k : Nat} {fa a : Addr} {fd : FuncData} {x : Str} {sp : Sp} {s₁ : Shared} {vs : List Value} {ns : List Int}
    (KX : K.In s₁.heap) (hns : s₁.heap.Ns mainGlobals mg) (hb : s₁.heap.Ns builtinsNs mb) (hbb : ∀ x : Str, x ≠ "__name__" → mb x = bootBuiltins x) (hlim : s₁.heap.NoLimit) (hg : s₁.gens = #[])
    (ha : s₁.heap.get? a = some { cls := .type "list", data := .seq vs.toArray }) (hi : IntsAre vs ns) (hl : ns.length ≤ sizeLine) (hr : Room k callerA)
    (F : ∀ base : Heap, K.In base → base.Ns mainGlobals mg → FnG P w K mg base CX k fa fd [x] sp) (hbind : ∀ (s : Shared) (u : Value), BindsTo s fd ⟨[u], []⟩ [(x, u)])
    (hsp : ∀ H : Hp, SqL K H a (ns.map V.int) → sp [.ref a] H (fun v _ => v = .bl true) fun _ _ _ => False)
    (hCX : ∀ H e s', CX [] H s₁ (fun _ _ _ => False) e s' → False) :
    codeAny (model P w) callerA (.call (.ref fa) ⟨[.ref a], []⟩) (fun r s' => r = .ok (.ret (.bool true)) ∧ OldK s₁.heap s'.heap ∧ s'.os = s₁.os ∧ AllBare s'.gens) s₁ := by
  have rv := vals_ints hi
  have lenV := hi.length
  let O : Obj := { cls := .type "list", data := .seq vs.toArray }
  have core : ∀ H : Hp, (∀ b, H b = none ∨ (b = a ∧ H b = some (.frz O (.lst (ns.map V.int))) ∧ K.lookup a = none)) → SqL K H a (ns.map V.int) →
      codeAny (model P w) callerA (.call (.ref fa) ⟨[.ref a], []⟩) (fun r s' => r = .ok (.ret (.bool true)) ∧ OldK s₁.heap s'.heap ∧ s'.os = s₁.os ∧ AllBare s'.gens) s₁ := by
    intro H hO hS
    have hok : HOk P w H s₁.heap := fun b u e => by
      rcases hO b with z | ⟨rfl, z, _⟩
      · rw [z] at e
        cases e
      · rw [z] at e
        cases e
        exact ⟨ha, by rw [List.length_map]; exact hl, vs, _, rv, ha⟩
    have off : ∀ {b : Addr} {o : Obj} {es : Array DictEntry} {ep : Nat}, s₁.heap.get? b = some o → o.data = .dict es ep → H b = none := fun {b o es ep} e d => by
      rcases hO b with z | ⟨rfl, _, _⟩
      · exact z
      · rw [ha] at e
        cases e
        cases (show Data.seq vs.toArray _ = Data.dict es ep from d)
    have nsK : ∀ {b : Addr} {m : Str → Option Value}, s₁.heap.Ns b m → (hidT s₁.heap H).Ns b m := fun {b m} z => by
      obtain ⟨o, es, ep, e, d, r⟩ := z
      exact ⟨o, es, ep, hidT_get e (off e d), d, r⟩
    have kb : K.In (hidT s₁.heap H) := fun b o e => by
      refine hidT_get (KX b o e) ?_
      rcases hO b with z | ⟨rfl, _, z⟩
      · exact z
      · rw [z] at e
        cases e
    have hM : Mod K mg (hidT s₁.heap H) := ⟨kb, nsK hns, ⟨mb, nsK hb, hbb⟩, by obtain ⟨mc, h1, h2⟩ := hlim; exact ⟨mc, nsK h1, h2⟩⟩
    have e0 : Env0 P w K mg (hidT s₁.heap H) callerA [] s₁ H := by
      refine ⟨rfl, hM, fun b o e => of_hidT e, Nat.le_of_eq (hidT_size _ _), trivial, fun b z => ?_, hok, .of_eq hg⟩
      exact absurd (show b ∈ ([] : List Addr) from z) (by simp)
    have body := (F _ kb (nsK hns)).run callerA [] s₁ H ⟨[.ref a], []⟩ [.ref a] [.ref a] _ _ hr rfl e0 (hbind s₁ (.ref a)) (.cons rfl .nil) (hsp H hS)
    refine codeAny_mono body fun r s' h => ?_
    cases r with
    | error e => exact (hCX H e s' h).elim
    | ok fl =>
      cases fl with
      | next => exact False.elim h
      | brk => exact False.elim h
      | cont => exact False.elim h
      | ret u =>
        obtain ⟨v, H', os, bare, un, hok', r', q⟩ := h
        have q' : v = .bl true := q
        subst q'
        obtain rfl : u = Value.bool true := r'
        refine ⟨rfl, OldK.of_keep fun b o e => ?_, os, bare⟩
        rcases hO b with z | ⟨rfl, z, _⟩
        · refine un.keep b o e z (fun y => ?_) (by simp)
          exact absurd (show b ∈ ([] : List Addr) from y) (by simp)
        · obtain ⟨e2, _⟩ := hok' b _ (un.frzs b O _ z)
          rw [ha] at e
          cases e
          exact e2
  cases hk : K.lookup a with
  | some o =>
    have e := KX a o hk
    rw [ha] at e
    cases e
    refine core (fun _ => none) (fun _ => .inl rfl) (.inr ⟨_, vs.toArray, _, hk, rfl, rfl, rfl, ?_, by simpa using rv⟩)
    rw [List.size_toArray, lenV]
    exact hl
  | none =>
    refine core (fun b => if b = a then some (.frz O (.lst (ns.map V.int))) else none) (fun b => ?_) (.inl (.inr ⟨O, if_pos rfl⟩))
    by_cases hb : b = a
    · exact .inr ⟨hb, if_pos hb, hk⟩
    · exact .inl (if_neg hb)
/-- the end of a law row, by such a promise -/
theorem walkG {l : W.OpenLaw} {n k : Nat} {q : Program} {loose : List Str} {XP : (Str → Option Value) → Heap → Prop} {YP : World → Heap → Prop} {d : DefRec} {CX : CXT} {x : Str}
    (hn : l.most = some n) (hn2 : n ≤ sizeLine) (hdf : d.params.defaults = []) (hr : Room k callerA)
    (F : ∀ (w : World) (mg : Str → Option Value) (fa : Addr) (h : Heap), YP w h → h.Ns mainGlobals mg → mg d.name = some (.ref fa) →
      ∃ (K : W.Frag) (fd : FuncData) (sp : Sp), K.In h ∧ (∀ (s : Shared) (u : Value), BindsTo s fd ⟨[u], []⟩ [(x, u)]) ∧
        (∀ (H : Hp) (a : Addr) (ns : List Int), ns.length ≤ n → (∀ k ∈ ns, Builtin.Int.intBits k ≤ 1048576) → SqL K H a (ns.map V.int) → sp [.ref a] H (fun v _ => v = .bl true) fun _ _ _ => False) ∧
        ∀ base : Heap, K.In base → base.Ns mainGlobals mg → FnG l.prog w K mg base CX k fa fd [x] sp)
    (hCX : ∀ (H : Hp) (s : Shared) (e : Value) (s' : Shared), CX [] H s (fun _ _ _ => False) e s' → False) :
    W.WalkO q loose XP YP l.row.toRowW d [] (fun f vs => PySem.call f vs) := by
  refine Att.attach_callB hn hdf fun w s₀ s₁ mg mb fa o pm cd doc a vs ns G Y ho hd hcd hmg hobj hints hlen hbits hg => ?_
  obtain ⟨K, fd, sp, KX, hb, hsp, hF⟩ := F w mg fa _ Y G.T.g hmg
  exact law_callG KX G.T.g G.T.b G.T.builtins G.T.nolimit hg hobj hints (Nat.le_trans hlen hn2) hr hF hb (fun H hS => hsp H a ns hlen hbits hS) fun H e s' => hCX H s₁ e s'
end EW
end

section
set_option maxHeartbeats 4000000
namespace EW
open PySem PySem.Spec PyProof.Rows L2
/-! ### a def of the module that lets nothing out, by its name -/
structure Df (P : Program) (w : World) (K : W.Frag) (mg : Str → Option Value) (base : Heap) (k : Nat) (x : Str) (ps : List Str) (sp : Sp) : Prop where
  ex : ∃ fd, FnOk P w K mg base CX0 k (He.ga K x) fd ps sp ∧ Binds K fd ps []
  kp : W.keepIn K (.ref (He.ga K x)) = true
  gl : mg x = some (.ref (He.ga K x))
section
variable {X : Cx} {k : Nat} {ps : List Str} {sp : Sp} {x : Str} {p pos : Pos} {e : Expr} {es : List Expr} {t : TA}
theorem pe_df (D : Df X.prog X.w X.K X.mg X.base k x ps sp) (hr : Room k X.A) (hg : Gl X x) (ha : PA X (e :: es) t) (hdb : (x == ("__debug__" : Str)) = false := by decide)
    (he : starEach (e :: es) X.env = (false, eval e X.env) :: starEach es X.env := by rfl) (hpl : (backTo pos (starEach es X.env)).any (·.1) = false := by rfl) :
    PE X (.Call (.Name x p) (e :: es) [] pos) (tCall sp [] E0 t) := by
  obtain ⟨fd, F, b⟩ := D.ex
  exact pe_call F hr hg D.gl D.kp b .nil pass0 ha hdb he hpl
theorem pe_df0 (D : Df X.prog X.w X.K X.mg X.base k x ps sp) (hr : Room k X.A) (hg : Gl X x) (hdb : (x == ("__debug__" : Str)) = false := by decide) :
    PE X (.Call (.Name x p) [] [] pos) (tCall sp [] E0 tNil) := by
  obtain ⟨fd, F, b⟩ := D.ex
  exact pe_call0 F hr hg D.gl D.kp b .nil pass0 hdb
/-- powers of greater numbers -/
def CPowW (i j : Int) : Prop := 0 ≤ j ∧ (Builtin.Int.intBits i : Int) * j ≤ 2 ^ 27
theorem op_powW : OpR X (binaryOp .Pow) (rI CPowW fun i j => .int (i ^ j.toNat)) := opI fun _ _ _ _ _ _ _ hc q => pow_int hc.1 hc.2 q
end
/-! ### a list of three numbers that draws are made of -/
/-- all but d stands as it stood -/
def Kept (d : Addr) (H H' : Hp) : Prop := ∀ a o, a ≠ d → H a = some o → H' a = some o
theorem Kept.refl (d : Addr) (H : Hp) : Kept d H H := fun _ _ _ e => e
theorem Kept.trans {d : Addr} {H H1 H2 : Hp} (a : Kept d H H1) (b : Kept d H1 H2) : Kept d H H2 := fun c o n e => b c o n (a c o n e)
theorem Kept.upd {d : Addr} {H : Hp} {o : HO} : Kept d H (upd H d o) := fun a u n e => by
  rw [upd_ne n]
  exact e
theorem Kept.new {d p : Addr} {H : Hp} {o : HO} (h : H p = none) : Kept d H (L2.upd H p o) := fun a u n e => by
  rw [upd_ne (ne_of_none e h)]
  exact e
theorem Kept.same {d : Addr} {H H1 H' : Hp} (k : Kept d H1 H') (s : Same H H1) (h : H d = none) : Same H H' := fun a o e => k a o (ne_of_none e h) (s a o e)
theorem Kept.free {d p : Addr} {H H' : Hp} (k : Kept d H H') (h : H' p = none) (n : p ≠ d) : H p = none := by
  cases e : H p with
  | none => rfl
  | some o =>
    rw [k p o n e] at h
    cases h
/-- the draws at d: at most n of them were mixed -/
def Dc (H : Hp) (d : Addr) (n : Int) : Prop := ∃ g b c : Int, H d = some (.lst [.int g, .int b, .int c]) ∧ 0 ≤ g ∧ g < 2 ^ 2200 ∧ 0 ≤ b ∧ b < 2 ^ 62 ∧ 0 ≤ c ∧ c ≤ n
theorem Dc.mono {H : Hp} {d : Addr} {n m : Int} (h : Dc H d n) (l : n ≤ m) : Dc H d m := by
  obtain ⟨g, b, c, h1, h2, h3, h4, h5, h6, h7⟩ := h
  exact ⟨g, b, c, h1, h2, h3, h4, h5, h6, by omega⟩
theorem Dc.new {H : Hp} {d p : Addr} {n : Int} {o : HO} (h : Dc H d n) (hp : H p = none) : Dc (upd H p o) d n := by
  obtain ⟨g, b, c, h1, r⟩ := h
  exact ⟨g, b, c, by rw [upd_ne (ne_of_none h1 hp)]; exact h1, r⟩
theorem Dc.ne {H : Hp} {d a : Addr} {n : Int} {o : HO} (h : Dc H d n) (e : H a = some o) (hn : ∀ xs, o ≠ .lst xs) : a ≠ d := fun z => by
  obtain ⟨g, b, c, h1, _⟩ := h
  rw [z, h1] at e
  exact hn _ (Option.some.inj e).symm
/-- a new place is another one -/
theorem Dc.nn {H : Hp} {d p : Addr} {n : Int} (h : Dc H d n) (hp : H p = none) : p ≠ d := fun z => by
  obtain ⟨g, b, c, h1, _⟩ := h
  rw [z, h1] at hp
  cases hp
/-- other objects change, d stands -/
theorem Dc.keep {H H' : Hp} {d : Addr} {n : Int} (h : Dc H d n) (k : H' d = H d) : Dc H' d n := by
  obtain ⟨g, b, c, h1, r⟩ := h
  exact ⟨g, b, c, k.trans h1, r⟩
/-! ### small data: what values are shown as -/
inductive Lf : V → PyData → Prop where
  | non : Lf .non .none
  | bl (b : Bool) : Lf (.bl b) (.bool b)
  | int (i : Int) (h : i.natAbs < 2 ^ 200) : Lf (.int i) (.int i)
  | str (z : Str) (h : z.length ≤ 40) (a : ∀ c ∈ z.cps.toList, c < 128) : Lf (.str z) (.str z)
inductive Lfs : List V → List PyData → Prop where
  | nil : Lfs [] []
  | cons {v : V} {vs : List V} {d : PyData} {ds : List PyData} : Lf v d → Lfs vs ds → Lfs (v :: vs) (d :: ds)
/-- a value: a leaf, or a tuple of at most four leaves -/
inductive Nv (K : W.Frag) (H : Hp) : V → PyData → Prop where
  | lf {v : V} {d : PyData} (h : Lf v d) : Nv K H v d
  | tup {a : Addr} {xs : List V} {ds : List PyData} (h : H a = some (.tup xs)) (l : Lfs xs ds) (z : xs.length ≤ 4) : Nv K H (.ref a) (.tuple ds)
  | emp {a : Addr} (h : SqT K H a []) : Nv K H (.ref a) (.tuple [])
theorem Lf.dp {K : W.Frag} {H : Hp} {v : V} {d : PyData} (h : Lf v d) : Dp K H v d := by
  cases h with
  | non => exact .non
  | bl b => exact .bl b
  | int i _ => exact .int i
  | str z _ _ => exact .str z
theorem Lfs.dp {K : W.Frag} {H : Hp} : ∀ {vs : List V} {ds : List PyData}, Lfs vs ds → DpAll K H vs ds
  | _, _, .nil => .nil
  | _, _, .cons h t => .cons h.dp t.dp
theorem Nv.dp {K : W.Frag} {H : Hp} {v : V} {d : PyData} (h : Nv K H v d) : Dp K H v d := by
  cases h with
  | lf h => exact h.dp
  | tup h l _ => exact .tup (SqT.of h) l.dp
  | emp h => exact .tup h .nil
/-- values stand while nothing but lists changes -/
def KeptT (H H' : Hp) : Prop := ∀ a xs, H a = some (.tup xs) → H' a = some (.tup xs)
theorem Nv.keep {K : W.Frag} {H H' : Hp} {v : V} {d : PyData} (h : Nv K H v d) (k : KeptT H H') (kf : ∀ a o u, H a = some (.frz o u) → H' a = some (.frz o u)) : Nv K H' v d := by
  cases h with
  | lf h => exact .lf h
  | tup h l z => exact .tup (k _ _ h) l z
  | emp h =>
    refine .emp ?_
    rcases h with (h | ⟨o, h⟩) | h
    · exact .inl (.inl (k _ _ h))
    · exact .inl (.inr ⟨o, kf _ _ _ h⟩)
    · exact .inr h
end EW
end

section
set_option maxHeartbeats 4000000
namespace EW
open PySem PySem.Spec PyProof.Rows L2
/-! rules with the written part told by its own letter: so that a comprehension's block may use them -/
section
variable {X : Cx}
theorem boot_isinstance : bootBuiltins "isinstance" = some (.builtin "isinstance") := by decide +kernel
theorem boot_repr : bootBuiltins "repr" = some (.builtin "repr") := by decide +kernel
theorem boot_abs : bootBuiltins "abs" = some (.builtin "abs") := by decide +kernel
theorem boot_max : bootBuiltins "max" = some (.builtin "max") := by decide +kernel
theorem boot_min : bootBuiltins "min" = some (.builtin "min") := by decide +kernel
theorem boot_int : bootBuiltins "int" = some (.type "int") := by decide +kernel
theorem call_lenK (K : W.Frag) (h : X.K = K) : CallR X (.builtin "len") (fun xs H Q => ∃ x n, xs = [x] ∧ LenV K x H n ∧ Q (.int n) H) := by
  subst h
  exact call_len
theorem ix_listK (K : W.Frag) (h : X.K = K) : IxR X (rIxL K) := by
  subst h
  exact ix_list
theorem call_isXK (K : W.Frag) (h : X.K = K) : CallR X (.builtin "isinstance") (rIsX K) := by
  subst h
  exact call_isX
theorem call_reprK {k : Nat} (K : W.Frag) (h : X.K = K) (hG : X.A.guards = some []) (hr : Room k X.A) : CallR X (.builtin "repr") (rRepr K) := by
  subst h
  exact call_repr hG hr
theorem pe_xflK {e : Expr} {te : TE} {f : Str} {pos : Pos} (K : W.Frag) (h : X.K = K) (he : PE X e te) (hb : attributeBase e f X.env (eval e X.env) = eval e X.env := by rfl) : PE X (.Attribute e f pos) (tXfl K f te) := by
  subst h
  exact pe_xfl he hb
theorem op_eqDK (K : W.Frag) (h : X.K = K) (hu : X.A.units + 64 < cLine) : OpR X (compareOp .Eq) (rEqD K) := by
  subst h
  exact op_eqD hu
theorem op_neDK (K : W.Frag) (h : X.K = K) (hu : X.A.units + 64 < cLine) : OpR X (compareOp .NotEq) (rNeD K) := by
  subst h
  exact op_neD hu
end
end EW
end

section
set_option maxHeartbeats 4000000
namespace EW
open PySem PySem.Spec PyProof.Rows L2
/-! ### new objects, the heap behind them told by what it holds alone -/
section
variable {X : Cx} {e : Expr} {es : List Expr} {t : TA} {te te' : TE} {pos p : Pos}
theorem PE.imp (h : PE X e te) (i : ∀ σ H Q, te' σ H Q → te σ H Q) : PE X e te' := ⟨fun pins s σ H Q I q => h.run pins s σ H Q I (i _ _ _ q)⟩
theorem PE.cl (h : PE X e te) : PE X e (fun σ H Q => ∃ R : VK, te σ H R ∧ ∀ v H1, R v H1 → Q v H1) := by
  refine ⟨fun pins s σ H Q I q => ?_⟩
  obtain ⟨R, h1, h2⟩ := q
  refine wpAny_mono (h.run pins s σ H R I h1) (fun u s' z => ?_) fun _ _ z => z
  obtain ⟨v, H1, I1, rv, r⟩ := z
  exact ⟨v, H1, I1, rv, h2 v H1 r⟩
theorem PA.cl (h : PA X es t) : PA X es (fun σ H Q => ∃ R : List V → Hp → Prop, t σ H R ∧ ∀ v H1, R v H1 → Q v H1) := by
  refine ⟨fun ps pins s σ H Q I q => ?_⟩
  obtain ⟨R, h1, h2⟩ := q
  refine wpAny_mono (h.run ps pins s σ H R I h1) (fun u s' z => ?_) fun _ _ z => z
  obtain ⟨v, H1, I1, rv, r⟩ := z
  exact ⟨v, H1, I1, rv, h2 v H1 r⟩
theorem sameN {H : Hp} {p : Addr} {o : HO} (h : H p = none) : Same H (upd H p o) := fun a u z => by
  rw [upd_ne (ne_of_none z h)]
  exact z
/-- something new at p -/
def New (H : Hp) (o : Addr → HO) (Q : VK) : Prop := ∀ (p : Addr) (H' : Hp), H p = none → Same H H' → H' p = some (o p) → Q (.ref p) H'
theorem New.at {H : Hp} {o : Addr → HO} {Q : VK} (h : New H o Q) {p : Addr} (hp : H p = none) : Q (.ref p) (upd H p (o p)) := h p _ hp (sameN hp) upd_same
def tLstS (t : TA) : TE := fun σ H Q => t σ H fun xs H1 => xs.length ≤ sizeLine ∧ New H1 (fun _ => .lst xs) Q
def tTupS (t : TA) : TE := fun σ H Q => t σ H fun xs H1 => xs.length ≤ sizeLine ∧ New H1 (fun _ => .tup xs) Q
theorem pe_lstS (h : PA X es t) : PE X (.List es pos) (tLstS t) :=
  PE.imp (pe_lst (PA.cl h)) fun σ H Q q => ⟨_, q, fun _ _ z => ⟨z.1, fun _ hp => z.2.at hp⟩⟩
theorem pe_tupS {n : Nat} (h : PA X es t) : PE X (.Tuple es n pos) (tTupS t) :=
  PE.imp (pe_tup (PA.cl h)) fun σ H Q q => ⟨_, q, fun _ _ z => ⟨z.1, fun _ hp => z.2.at hp⟩⟩
def rCatS : R2 := fun x y H Q => ∃ (a b : Addr) (xs ys : List V), x = .ref a ∧ y = .ref b ∧ H a = some (.lst xs) ∧ H b = some (.lst ys) ∧ xs.length + ys.length ≤ sizeLine ∧ New H (fun _ => .lst (xs ++ ys)) Q
theorem op_catS : OpR X (binaryOp .Add) rCatS := by
  intro pins s σ H x y v u Q I rx ry h
  obtain ⟨a, b, xs, ys, h1, h2, h3, h4, h5, h6⟩ := h
  exact op_cat pins s σ H x y v u Q I rx ry ⟨a, b, xs, ys, h1, h2, h3, h4, h5, fun _ hp => h6.at hp⟩
end
end EW
end

section
set_option maxHeartbeats 4000000
namespace EW
open PySem PySem.Spec PyProof.Rows L2
/-- a cut behind a statement: what follows is shown of every state of which P holds -/
def tCut (a : TS) : TS := fun D σ H => ∃ P : L2.St → Hp → Prop, a { D with nx := P } σ H ∧ ∀ σ' H', P σ' H' → D.nx σ' H'
theorem ps_cut {X : Cx} {st : Stmt} {a : TS} (h : PS X st a) : PS X st (tCut a) := by
  refine ⟨fun pins s σ H D I q => ?_⟩
  obtain ⟨P, h1, h2⟩ := q
  refine wpAny_mono (h.run pins s σ H _ I h1) (fun fl s' z => ?_) fun _ _ z => z
  cases fl with
  | next =>
    obtain ⟨σ', H', I', p⟩ := z
    exact ⟨σ', H', I', h2 σ' H' p⟩
  | ret u => exact z
  | brk => exact z
  | cont => exact z
end EW
end

section
set_option maxHeartbeats 4000000
namespace EW
open PySem PySem.Spec PyProof.Rows L2
/-! ### operators by methods of the text -/
/-- a method of the class at C that lets nothing out -/
structure Mt (P : Program) (w : World) (K : W.Frag) (mg : Str → Option Value) (base : Heap) (k : Nat) (C : Addr) (m : Str) (ps : List Str) (sp : Sp) : Prop where
  ex : ∃ f fd, FnOk P w K mg base CX0 k f fd ps sp ∧ Binds K fd ps [] ∧ W.findIn K (.ref C) m = some (some (.ref f)) ∧ W.isFn K (.ref f) = true
section
variable {X : Cx} {k : Nat} {ps : List Str} {sp : Sp} {f C : Addr} {fd : FuncData} {pins : List (Addr × Obj)} {σ : L2.St} {H : Hp} {s : Shared}
/-- the def runs below the running body -/
theorem run_at {A : Around} {Q : VK} {us : List Value} {vs : List V} (F : FnOk X.prog X.w X.K X.mg X.base CX0 k f fd ps sp) (sb : Sub X k A) (hb : Binds X.K fd ps []) (I : Inv X pins σ H s) (r : Vals vs us) (h : sp vs H Q E0) :
    wpAny (model X.prog X.w) A (call (.ref f) us) (EP X pins σ Q) X.xe s := by
  have z := F.len _ _ _ _ h
  have e0 : Env0 X.prog X.w X.K X.mg X.base A X.stack s H := ⟨sb.fr.trans I.env0.frames, I.env0.mod, I.env0.bs, I.env0.bsz, I.env0.funs, I.env0.frf, I.env0.hok, I.env0.bare⟩
  have hl : (us ++ []).length = ps.length := by rw [List.append_nil, ← r.length]; exact z
  have hb' := hb s us I.kIn hl
  rw [List.append_nil] at hb'
  refine wpAny_call (codeAny_mono (F.run A X.stack s H ⟨us, []⟩ us vs Q E0 sb.room e0 hb' r h) fun q s' hq => ?_)
  match q, hq with
  | .error e, hq => exact (hq : False).elim
  | .ok (.ret u), hq => exact I.after hq
  | .ok .next, hq => exact (hq : False).elim
  | .ok .brk, hq => exact (hq : False).elim
  | .ok .cont, hq => exact (hq : False).elim
/-- an instance of the class at C -/
def IsC (H : Hp) (C : Addr) (x : V) : Prop := ∃ a dx fs, x = .ref a ∧ H a = some (.ins C dx fs)
theorem IsC.at_ {x : V} {v : Value} (h : IsC H C x) (I : Inv X pins σ H s) (r : RelV x v) : ∃ a ox od, v = .ref a ∧ W.InstAt s.heap a ox C od := by
  obtain ⟨a, dx, fs, rfl, e⟩ := h
  cases r
  obtain ⟨mA, J, _⟩ := ins_get I.hok e
  obtain ⟨od, J, _⟩ := J.look
  exact ⟨a, _, _, rfl, J⟩
theorem rel_ni {v : V} {u : Value} (r : RelV v u) : u ≠ .notImplemented := by
  rintro rfl
  cases v <;> (cases r; try contradiction)
theorem back_of {Q : Value → Shared → Prop} {u : Value} {s' : Shared} (n : u ≠ .notImplemented) (h : Q u s') : W.CmpBack Q u s' := by
  cases u <;> first | exact h | exact absurd rfl n
theorem back {Q : VK} {u : Value} {s' : Shared} (h : EP X pins σ Q u s') : W.CmpBack (EP X pins σ Q) u s' := by
  obtain ⟨v, H', I', r, q⟩ := h
  exact back_of (rel_ni r) ⟨v, H', I', r, q⟩
/-- x op y, both of the class at C -/
def rOwn (C : Addr) (sp : Sp) : R2 := fun x y H Q => IsC H C x ∧ IsC H C y ∧ sp [x, y] H Q E0
theorem op_own {op : Operator} (M : Mt X.prog X.w X.K X.mg X.base k C (PySem.dunder op.info.2) ps sp) (hc : W.selfFirst X.K C = true) (hr : Room k X.A) : OpR X (binaryOp op) (rOwn C sp) := by
  intro pins s σ H x y v u Q I rx ry h
  obtain ⟨cx, cy, h⟩ := h
  obtain ⟨f, fd, F, hb, hs, hf⟩ := M.ex
  obtain ⟨a, ox, od, rfl, J⟩ := cx.at_ I rx
  obtain ⟨b, oy, od', rfl, J'⟩ := cy.at_ I ry
  obtain ⟨m, hF⟩ := I.fr
  refine W.binop_K hF I.ok.mod.kin J J'.type hc hs hf ?_
  exact wpAny_mono (run_at F ⟨hr, rfl⟩ hb I (.cons rx (.cons ry .nil)) h) (fun _ _ z => back z) fun _ _ z => z
/-- ~x -/
def uOwn (C : Addr) (sp : Sp) : V → Hp → VK → Prop := fun x H Q => IsC H C x ∧ sp [x] H Q E0
theorem inv_K {M : Model} {A : Around} {E : Value → Shared → Prop} {K : W.Frag} {a : Addr} {ox : Obj} {od : Option Obj} {Q : Value → Shared → Prop} (X' : K.In s.heap) (J : W.InstAt s.heap a ox C od) (hs : W.findIn K (.ref C) "__invert__" = some (some (.ref f))) (hf : W.isFn K (.ref f) = true)
    (h : wpAny M A (call (.ref f) [.ref a]) Q E s) : wpAny M A (unaryOp .Invert (.ref a)) Q E s := by
  unfold unaryOp
  exact wpAny_holding (wpAny_bind (W.special_fn X' J hs (beq_iff_eq.mp hf) (wpAny_mono h (fun _ _ q => wpAny_pure q) fun _ _ q => q)))
theorem un_own (M : Mt X.prog X.w X.K X.mg X.base k C "__invert__" ps sp) (hr : Room k X.A) : UnR X (unaryOp .Invert) (uOwn C sp) := by
  intro pins s σ H x v Q I rx h
  obtain ⟨cx, h⟩ := h
  obtain ⟨f, fd, F, hb, hs, hf⟩ := M.ex
  obtain ⟨a, ox, od, rfl, J⟩ := cx.at_ I rx
  exact inv_K I.kIn J hs hf (run_at F ⟨hr, rfl⟩ hb I (.cons rx .nil) h)
/-- x in y by an own method that tells a bool -/
def Bl (Q : VK) : VK := fun z H => ∃ c, z = .bl c ∧ Q (.bl c) H
def rInO (C : Addr) (sp : Sp) : R2 := fun x y H Q => IsC H C y ∧ sp [y, x] H (Bl Q) E0
theorem op_inO (M : Mt X.prog X.w X.K X.mg X.base k C "__contains__" ps sp) (hr : Room k X.A) : OpR X (compareOp .In) (rInO C sp) := by
  intro pins s σ H x y v u Q I rx ry h
  obtain ⟨cy, h⟩ := h
  obtain ⟨f, fd, F, hb, hs, hf⟩ := M.ex
  obtain ⟨a, ox, od, rfl, J⟩ := cy.at_ I ry
  obtain ⟨m, hF⟩ := I.fr
  refine W.in_K hF I.ok.mod.kin J hs hf ?_
  refine wpAny_mono (run_at F ⟨hr, rfl⟩ hb I (.cons ry (.cons rx .nil)) h) (fun r s' z => ?_) fun _ _ z => z
  obtain ⟨w, H', I', rw', c, rfl, q⟩ := z
  cases rw'
  exact wpAny_truthy_bool ⟨.bl c, H', I', rfl, q⟩
/-- the truth of an instance -/
def rTru (C : Addr) (sp : Sp) : V → Hp → (Bool → Hp → Prop) → Prop := fun x H Q => IsC H C x ∧ sp [x] H (fun z H' => ∃ c, z = .bl c ∧ Q c H') E0
theorem tru_at {A : Around} {x : V} {v : Value} {Q : Bool → Hp → Prop} (M : Mt X.prog X.w X.K X.mg X.base k C "__bool__" ps sp) (sb : Sub X k A) (I : Inv X pins σ H s) (rx : RelV x v) (h : rTru C sp x H Q) : wpAny (model X.prog X.w) A (truthy v) (TP X pins σ Q) X.xe s := by
  obtain ⟨cx, h⟩ := h
  obtain ⟨f, fd, F, hb, hs, hf⟩ := M.ex
  obtain ⟨a, ox, od, rfl, J⟩ := cx.at_ I rx
  obtain ⟨m, hF⟩ := I.fr
  refine W.truthy_K hF I.ok.mod.kin J hs hf ?_
  refine wpAny_mono (run_at F sb hb I (.cons rx .nil) h) (fun r s' z => ?_) fun _ _ z => z
  obtain ⟨w, H', I', rw', c, rfl, q⟩ := z
  cases rw'
  exact ⟨H', I', q⟩
theorem tru_own (M : Mt X.prog X.w X.K X.mg X.base k C "__bool__" ps sp) (hr : Room k X.A) : TruR X (rTru C sp) :=
  fun pins s σ H x v Q I rx h => tru_at M ⟨hr, rfl⟩ I rx h
/-- not x -/
def tNotO (C : Addr) (sp : Sp) (t : TE) : TE := fun σ H Q => t σ H fun x H1 => rTru C sp x H1 fun c H2 => Q (.bl (!c)) H2
theorem pe_notO {a : Expr} {t : TE} {pos : Pos} (M : Mt X.prog X.w X.K X.mg X.base k C "__bool__" ps sp) (hr : Room k X.A) (ha : PE X a t) : PE X (.UnaryOp .Not a pos) (tNotO C sp t) := by
  refine ⟨fun pins s σ H Q I h => ?_⟩
  refine UnaryOp_ (thn (ha.run pins s σ H _ I h) fun v s1 z => ?_)
  obtain ⟨x, H1, I1, r1, q1⟩ := z
  refine not_of (wpAny_mono (tru_at M ⟨hr, rfl⟩ I1 r1 q1) (fun c s' z => ?_) fun _ _ z => z)
  obtain ⟨H2, I2, q2⟩ := z
  exact ⟨.bl (!c), H2, I2, rfl, q2⟩
end
end EW
end

section
set_option maxHeartbeats 4000000
namespace EW
open PySem PySem.Spec PySem.Calls PyProof.Rows L2
section
variable {X : Cx} {k : Nat} {ps : List Str} {sp : Sp} {f C : Addr} {fd : FuncData} {pins : List (Addr × Obj)} {σ : L2.St} {H : Hp} {s : Shared}
/-- what an own == may be asked about: an instance of the class, an int -/
def Askd (H : Hp) (C : Addr) (y : V) : Prop := IsC H C y ∨ ∃ i, y = .int i
theorem Askd.looks {y : V} {u : Value} (h : Askd H C y) (I : Inv X pins σ H s) (r : RelV y u) : ∃ tb, W.Looks (model X.prog X.w) s.heap (typeOf u) tb ∧ W.notFirst X.K C tb = true := by
  rcases h with h | ⟨i, rfl⟩
  · obtain ⟨b, oy, od, rfl, J⟩ := h.at_ I r
    exact ⟨.ref C, J.type, by simp [W.notFirst]⟩
  · obtain ⟨t, rfl⟩ := r
    have e : fastBuiltinMro "int" = some [.type "int", .type "object"] := by decide +kernel
    refine ⟨.type "int", W.Looks.of_pure rfl, ?_⟩
    have z : W.subIn X.K (.type "int") (.ref C) = some false := by
      show (fastBuiltinMro "int").map (·.contains (.ref C)) = some false
      rw [e]
      simp
    simp [W.notFirst, z]
def rEqO (C : Addr) (sp : Sp) : R2 := fun x y H Q => IsC H C x ∧ Askd H C y ∧ sp [x, y] H Q E0
theorem op_eqO (M : Mt X.prog X.w X.K X.mg X.base k C "__eq__" ps sp) (hr : Room k X.A) : OpR X (compareOp .Eq) (rEqO C sp) := by
  intro pins s σ H x y v u Q I rx ry h
  obtain ⟨cx, cy, h⟩ := h
  obtain ⟨f, fd, F, hb, hs, hf⟩ := M.ex
  obtain ⟨a, ox, od, rfl, J⟩ := cx.at_ I rx
  obtain ⟨tb, L, nf⟩ := cy.looks I ry
  obtain ⟨m, hF⟩ := I.fr
  show wpAny _ _ (richCompare .Eq _ _) _ _ _
  refine W.cmp_K (op := .Eq) hr.units0 hF I.ok.mod.kin J L nf hs hf ?_
  exact wpAny_mono (run_at F ⟨hr, rfl⟩ hb I (.cons rx (.cons ry .nil)) h) (fun _ _ z => back z) fun _ _ z => z
/-! ### x != y by an own == -/
theorem ifBound_bt {M : Model} {A : Around} {E : Value → Shared → Prop} {K : W.Frag} {a : Addr} {ox : Obj} {od : Option Obj} {args : List Value} {Q : Option Value → Shared → Prop} (Kn : K.In s.heap) (J : W.InstAt s.heap a ox C od) (hs : W.findIn K (.ref C) "__ne__" = some (some (.builtin "object.__ne__")))
    (h : wpAny M A (call (.builtin "object.__ne__") (.ref a :: args)) (fun v => Q (some v)) E s) : wpAny M A (callSpecialIfBound? (.ref a) "__ne__" args) Q E s := by
  have fin : wpAny M A (call (.builtin "object.__ne__") ([.ref a] ++ args) >>= fun v => pure (some v)) Q E s := wpAny_bind (wpAny_mono h (fun v s' z => wpAny_pure z) fun _ _ z => z)
  have bd := F.cmp_object.ne.bind
  simp only [callSpecialIfBound?, bindSpecialIfBound?]
  refine wpAny_holding (wpAny_bind (wpAny_bind (wpAny_bind (J.type.here ((W.looks_findIn Kn hs).here ?_)))))
  refine wpAny_bind (wpAny_askSetting (wpAny_ite ?_))
  split
  · exact wpAny_bind (wpAny_of_eq (bd _) (wpAny_pure (by exact fin)))
  · exact wpAny_tryCatch (wpAny_bind (wpAny_of_eq (bd _) (wpAny_pure (by exact fin))))
theorem ne_entry {M : Model} {A : Around} {E : Value → Shared → Prop} {K : W.Frag} {a : Addr} {b : Value} {ox : Obj} {od : Option Obj} {Q : Fin → Shared → Prop} (hu : A.units < cLine) (Kn : K.In s.heap) (J : W.InstAt s.heap a ox C od) (hs : W.findIn K (.ref C) "__eq__" = some (some (.ref f))) (hf : W.isFn K (.ref f) = true)
    (h : wpAny M A (call (.ref f) [.ref a, b]) (fun v s' => ∃ c, v = .bool c ∧ Q (.done (.ret (.bool (!c)))) s') E s) : wpAny M A (Builtin.«object.__ne__» ⟨[.ref a, b], []⟩) Q E s := by
  have eqs : wpAny M A (callSpecialIfBound? (.ref a) "__eq__" [b]) (fun r s' => ∃ c, r = some (.bool c) ∧ Q (.done (.ret (.bool (!c)))) s') E s :=
    W.ifBound_K Kn J hs hf (wpAny_mono h (fun v s' z => by obtain ⟨c, rfl, q⟩ := z; exact ⟨c, rfl, q⟩) fun _ _ z => z)
  unfold Builtin.«object.__ne__»
  repeat (first | with_reducible refine wpAny_cRoomFor hu ?_ | (with_reducible refine wpAny_mono eqs (fun r s' z => ?_) fun _ _ z => z) | wp_step)
  obtain ⟨c, rfl, q⟩ := z
  exact wpAny_bind (wpAny_truthy_bool (wpAny_pure q))
theorem call_ne {A : Around} {a : Addr} {b : Value} {ox : Obj} {od : Option Obj} {E : Value → Shared → Prop} {K : W.Frag} {prog : Program} {w : World} {Q : Value → Shared → Prop} (hu : A.units + 1 < cLine) (Kn : K.In s.heap) (J : W.InstAt s.heap a ox C od) (hm : W.mroIn K C (.type "object") = some true)
    (hs : W.findIn K (.ref C) "__eq__" = some (some (.ref f))) (hf : W.isFn K (.ref f) = true)
    (h : wpAny (model prog w) A.in1 (call (.ref f) [.ref a, b]) (fun v s' => ∃ c, v = .bool c ∧ Q (.bool (!c)) s') E s) : wpAny (model prog w) A (call (.builtin "object.__ne__") [.ref a, b]) Q E s :=
  wpAny_call (codeAny_call_builtin F.cmp_object.ne.plain F.cmpEntry_ne (W.check_slot F.cmpKind_ne F.cmpSplit_ne (J.type.andThen (W.looks_mroIn Kn hm)) (F.cmpArgs_ne _ _) (ne_entry (A := A.in1) hu Kn J hs hf h)))
theorem ne_at {A : Around} {a : Addr} {b tb : Value} {ox : Obj} {od : Option Obj} {E : Value → Shared → Prop} {K : W.Frag} {prog : Program} {w : World} {Q : Value → Shared → Prop} (hu : A.units + 1 < cLine) (Kn : K.In s.heap) (J : W.InstAt s.heap a ox C od) (hm : W.mroIn K C (.type "object") = some true)
    (hb : W.Looks (model prog w) s.heap (typeOf b) tb) (hn : W.notFirst K C tb = true) (hne : W.findIn K (.ref C) "__ne__" = some (some (.builtin "object.__ne__"))) (hs : W.findIn K (.ref C) "__eq__" = some (some (.ref f))) (hf : W.isFn K (.ref f) = true)
    (h : wpAny (model prog w) A.in1 (call (.ref f) [.ref a, b]) (fun v s' => ∃ c, v = .bool c ∧ Q (.bool (!c)) s') E s) : wpAny (model prog w) A (richCompare .NotEq (.ref a) b) Q E s := by
  have one : wpAny (model prog w) A (tryCompare (.ref a) (cmpInfo .NotEq).2.1 b) (fun r s' => ∃ v, r = some v ∧ Q v s') E s := by
    unfold tryCompare
    refine wpAny_bind (ifBound_bt Kn J hne (call_ne hu Kn J hm hs hf (wpAny_mono h (fun v s' z => ?_) fun _ _ z => z)))
    obtain ⟨c, e, q⟩ := z
    exact ⟨c, e, wpAny_pure ⟨_, rfl, q⟩⟩
  have hu0 : A.units < cLine := Nat.lt_of_succ_lt hu
  unfold richCompare
  simp only [oneThing_ref]
  refine wpAny_holding (wpAny_bind (wpAny_cRoomFor hu0 ?_))
  refine wpAny_bind (J.type.here (wpAny_bind (hb.here ?_)))
  split
  · rename_i q
    have e : W.subIn K tb (.ref C) = some false := by
      rcases Bool.or_eq_true_iff.mp hn with e | e
      · rw [beq_iff_eq.mp e] at q
        simp at q
      · exact beq_iff_eq.mp e
    refine wpAny_bind ((W.looks_subIn Kn e).here ?_)
    simp only [Bool.false_eq_true, if_false]
    refine wpAny_bind (wpAny_mono one (fun r s' z => ?_) fun _ _ z => z)
    obtain ⟨v, rfl, z⟩ := z
    exact wpAny_pure z
  · refine wpAny_bind (wpAny_pure ?_)
    simp only [Bool.false_eq_true, if_false]
    refine wpAny_bind (wpAny_mono one (fun r s' z => ?_) fun _ _ z => z)
    obtain ⟨v, rfl, z⟩ := z
    exact wpAny_pure z
def rNeO (C : Addr) (sp : Sp) : R2 := fun x y H Q => IsC H C x ∧ Askd H C y ∧ sp [x, y] H (fun z H' => ∃ c, z = .bl c ∧ Q (.bl (!c)) H') E0
theorem op_neO (M : Mt X.prog X.w X.K X.mg X.base k C "__eq__" ps sp) (hm : W.mroIn X.K C (.type "object") = some true) (hne : W.findIn X.K (.ref C) "__ne__" = some (some (.builtin "object.__ne__"))) (hr : Room (k + 1) X.A) : OpR X (compareOp .NotEq) (rNeO C sp) := by
  intro pins s σ H x y v u Q I rx ry h
  obtain ⟨cx, cy, h⟩ := h
  obtain ⟨f, fd, F, hb, hs, hf⟩ := M.ex
  obtain ⟨a, ox, od, rfl, J⟩ := cx.at_ I rx
  obtain ⟨tb, L, nf⟩ := cy.looks I ry
  show wpAny _ _ (richCompare .NotEq _ _) _ _ _
  refine ne_at (by have := hr.un; omega) I.kIn J hm L nf hne hs hf ?_
  refine wpAny_mono (run_at F (Sub.in1 ⟨hr, rfl⟩) hb I (.cons rx (.cons ry .nil)) h) (fun r s' z => ?_) fun _ _ z => z
  obtain ⟨w, H', I', rw', c, rfl, q⟩ := z
  cases rw'
  exact ⟨c, rfl, .bl (!c), H', I', rfl, q⟩
/-! ### bool(x) -/
theorem bool_new {prog : Program} {w : World} {A : Around} {R : Result → Shared → Prop} {v : Value} (h : wpAny (model prog w) A.in1 (truthy v) (fun c s' => R (.ok (.ret (.bool c))) s') (fun e s' => R (.error e) s') s) :
    wpAny (model prog w) A.in1 (Builtin.«bool.__new__» ⟨[.type "bool", v], []⟩) (GQ.FinOf prog w A R) (fun e s' => R (.error e) s') s := by
  have f1 := F.conv_sub_bool
  repeat (any_goals (first | assumption | (with_reducible refine wpAny_mono h (fun c s' z => ?_) fun _ _ z => z) | wp_step))
  all_goals first | exact z | skip
end
end EW
end

section
set_option maxHeartbeats 4000000
namespace EW
open PySem PySem.Spec PyProof.Rows L2
section
variable {X : Cx} {k : Nat} {ps : List Str} {sp : Sp} {f C : Addr} {fd : FuncData} {pins : List (Addr × Obj)} {σ : L2.St} {H : Hp} {s : Shared}
theorem bool_in {prog : Program} {w : World} {v : Value} : MeetsIn prog w (Builtin.«bool.__new__» ⟨[.type "bool", v], []⟩) (fun A R s => wpAny (model prog w) A.in1 (truthy v) (fun c s' => R (.ok (.ret (.bool c))) s') (fun e s' => R (.error e) s') s) :=
  fun A R s h => bool_new h
theorem call_boolV {prog : Program} {w : World} {A : Around} {E : Value → Shared → Prop} {v : Value} {Q : Value → Shared → Prop} (h : wpAny (model prog w) A.in1.in1 (truthy v) (fun c s' => Q (.bool c) s') E s) : wpAny (model prog w) A (call (.type "bool") [v]) Q E s :=
  callType_newIn F.called_bool F.newNe_bool (F.typeCall_bool_1 v) (F.newCall_bool_1 v) (fun o => F.args_object_init_2 o v) F.entry_bool_new bool_in (wpAny_mono h (fun c s' z => ⟨rfl, z⟩) fun _ _ z => z)
theorem call_boolO (M : Mt X.prog X.w X.K X.mg X.base k C "__bool__" ps sp) (hr : Room (k + 2) X.A) : CallR X (.type "bool") (fun xs H Q => ∃ x, xs = [x] ∧ rTru C sp x H (fun c H' => Q (.bl c) H')) := by
  intro pins s σ H xs us Q I r h
  obtain ⟨x, rfl, h⟩ := h
  obtain ⟨u, rfl, ru⟩ := r.one
  refine call_boolV (wpAny_mono (tru_at M (Sub.in1 (Sub.in1 ⟨hr, rfl⟩)) I ru h) (fun c s' z => ?_) fun _ _ z => z)
  obtain ⟨H', I', q⟩ := z
  exact ⟨.bl c, H', I', rfl, q⟩
/-- bool(a tuple) -/
theorem call_boolT : CallR X (.type "bool") (fun xs H Q => ∃ (a : Addr) (zs : List V), xs = [.ref a] ∧ SqT X.K H a zs ∧ Q (.bl (!zs.isEmpty)) H) := by
  intro pins s σ H xs us Q I r h
  obtain ⟨a, zs, rfl, hq, q⟩ := h
  obtain rfl := Vals.ref1 r
  obtain ⟨its, rv, pl, hz⟩ := I.tuple hq
  have hl := line63
  have hlen := rv.length
  refine call_boolV (truthy_tuple pl (by simp only [List.size_toArray]; omega) ?_)
  exact ⟨.bl (!zs.isEmpty), H, I.tok _, by rw [isEmpty_of rv]; rfl, q⟩
end
end EW
end

section
set_option maxHeartbeats 4000000
namespace EW
open PySem PySem.Spec PyProof.Rows L2
/-! ### sorted(l, key=f), f a def of the text that tells two numbers, l a list of references -/
/-- the two numbers at a key -/
def pairAt (h : Heap) (v : Value) : Int × Int := match v with
  | .ref a => match h.get? a with
    | some o => match o.data with
      | .seq xs _ => match xs.toList with
        | [.int x _, .int y _] => (x, y)
        | _ => (0, 0)
      | _ => (0, 0)
    | none => (0, 0)
  | _ => (0, 0)
theorem pairAt_of {h : Heap} {v : Value} {x y : Int} (p : Srt.IsPair h v x y) : pairAt h v = (x, y) := by
  obtain ⟨a, o, t, u, n, rfl, ho, hc, hd⟩ := p
  simp [pairAt, ho, hd]
/-- a list as it stands in the heap, with the number of its changes -/
def LsO (a : Addr) (vs : Array Value) (n : Nat) : HO := .ext fun h => h.get? a = some (seqObj "list" vs n)
theorem lsO_ok {P : Program} {w : World} {H : Hp} {h : Heap} {a : Addr} {vs : Array Value} {n : Nat} (e : h.get? a = some (seqObj "list" vs n)) : ObjOk P w H h a (LsO a vs n) := ⟨e, ⟨_, e⟩, fun _ _ p k => k _ p⟩
/-- a def that tells two numbers of a value -/
structure KeyFn (X : Cx) (k : Nat) (f : Addr) (KeyOf : Hp → V → Int × Int → Prop) : Prop where
  ex : ∃ fd ps sp, FnOk X.prog X.w X.K X.mg X.base CX0 k f fd ps sp ∧ Binds X.K fd ps [] ∧ ∀ v p H Q, KeyOf H v p → New H (fun _ => .tup [.int p.1, .int p.2]) Q → sp [v] H Q E0
  mono : ∀ H H' v p, KeyOf H v p → Same H H' → KeyOf H' v p
section
variable {X : Cx} {k : Nat} {f a kS : Addr} {KeyOf : Hp → V → Int × Int → Prop} {pins : List (Addr × Obj)} {σ : L2.St} {H : Hp} {s : Shared} {A : Around} {E : Value → Shared → Prop}
theorem run_at' {A : Around} {Q : VK} {us : List Value} {vs : List V} {fd : FuncData} {ps : List Str} {sp : Sp} (F : FnOk X.prog X.w X.K X.mg X.base CX0 k f fd ps sp) (sb : Sub X k A) (hb : Binds X.K fd ps []) (I : Inv X pins σ H s) (r : Vals vs us) (h : sp vs H Q E0) :
    wpAny (model X.prog X.w) A (call (.ref f) us) (EP X pins σ Q) E s := by
  have z := F.len _ _ _ _ h
  have e0 : Env0 X.prog X.w X.K X.mg X.base A X.stack s H := ⟨sb.fr.trans I.env0.frames, I.env0.mod, I.env0.bs, I.env0.bsz, I.env0.funs, I.env0.frf, I.env0.hok, I.env0.bare⟩
  have hl : (us ++ []).length = ps.length := by rw [List.append_nil, ← r.length]; exact z
  have hb' := hb s us I.kIn hl
  rw [List.append_nil] at hb'
  refine wpAny_call (codeAny_mono (F.run A X.stack s H ⟨us, []⟩ us vs Q E0 sb.room e0 hb' r h) fun q s' hq => ?_)
  match q, hq with
  | .error e, hq => exact (hq : False).elim
  | .ok (.ret u), hq => exact I.after hq
  | .ok .next, hq => exact (hq : False).elim
  | .ok .brk, hq => exact (hq : False).elim
  | .ok .cont, hq => exact (hq : False).elim
/-- what stands while the keys are told -/
structure Kys (X : Cx) (pins : List (Addr × Obj)) (σ : L2.St) (H : Hp) (a kS : Addr) (e1 : Nat) (kz : List (Int × Int)) (ks : List V) (Hi : Hp) (s' : Shared) : Prop where
  inv : Inv X pins σ Hi s'
  same : Same H Hi
  at_ : Hi a = some (LsO a #[] e1)
  kst : Hi kS = some (.lst ks)
  tell : ∀ (j : Nat) (v : V), ks[j]? = some v → ∃ (q : Addr) (pr : Int × Int), v = .ref q ∧ kz[j]? = some pr ∧ Hi q = some (.tup [.int pr.1, .int pr.2])
theorem vals_snoc {xs : List V} {us : List Value} (r : Vals xs us) {v : V} {u : Value} (q : RelV v u) : Vals (xs ++ [v]) (us ++ [u]) := r.append (.cons q .nil)
theorem keys_turn {e1 : Nat} {kz : List (Int × Int)} {ks : List V} {Hi : Hp} {s' : Shared} {xs : List V} {v : V} {u : Value} {pr : Int × Int} {Q : Shared → Prop} (T : KeyFn X k f KeyOf) (sb : Sub X k A) (hne : a ≠ kS) (h0 : H kS = none)
    (L : Kys X pins σ H a kS e1 kz ks Hi s') (hk : kz[ks.length]? = some pr) (hv : KeyOf H v pr) (r : RelV v u) (hz : ks.length + 1 ≤ sizeLine)
    (q : ∀ (ks' : List V) (Hn : Hp) (s2 : Shared), ks'.length = ks.length + 1 → Kys X pins σ H a kS e1 kz ks' Hn s2 → Q s2) :
    wpAny (model X.prog X.w) A (call (.ref f) [u]) (fun z s2 => wpAny (model X.prog X.w) A (Builtin.List.listUpdate (.ref kS) (·.push z)) (fun _ s3 => Q s3) E s2) (fun _ _ => False) s' := by
  obtain ⟨fd, ps, sp, F, hb, hs⟩ := T.ex
  have hsp : sp [v] Hi (fun z H' => ∃ q, z = .ref q ∧ Same Hi H' ∧ H' q = some (.tup [.int pr.1, .int pr.2])) E0 := hs v pr Hi _ (T.mono _ _ _ _ hv L.same) fun p H' _ sm e => ⟨p, rfl, sm, e⟩
  refine wpAny_mono (run_at' F sb hb L.inv (.cons r .nil) hsp) (fun z s2 hq => ?_) fun _ _ z => z
  obtain ⟨w, H', I', rw', p, rfl, sm, ep⟩ := hq
  cases rw'
  obtain ⟨_, its, n, rv, hl, e⟩ := I'.lstM (sm _ _ L.kst)
  have hsz : its.toArray.size = ks.length := by rw [List.size_toArray]; exact hl.symm
  refine listUpdate_at e rfl ?_ (by rw [hsz]; omega) (by rw [Array.size_push, hsz]; omega)
  have I2 := I'.lset (f := (·.push (.ref p))) (t' := s2.toks) (sm _ _ L.kst) e (its' := its ++ [.ref p]) (by simp) (vals_snoc rv (v := .ref p) (u := .ref p) (show RelV (.ref p) (.ref p) from rfl)) (by rw [List.length_append]; exact hz)
  have pk : ∀ {b : Addr} {ys : List V}, H' b = some (.tup ys) → b ≠ kS := fun {b ys} h z => by
    rw [z, sm _ _ L.kst] at h
    cases h
  refine q (ks ++ [.ref p]) _ _ (by rw [List.length_append]; rfl) ⟨I2, fun b o h => ?_, ?_, upd_same, fun j w hj => ?_⟩
  · rw [upd_ne (fun z => by rw [z, h0] at h; cases h)]
    exact sm _ _ (L.same _ _ h)
  · rw [upd_ne hne]
    exact sm _ _ L.at_
  · rcases Nat.lt_or_ge j ks.length with hlt | hge
    · rw [List.getElem?_append_left hlt] at hj
      obtain ⟨q, pr', h1, h2, h3⟩ := L.tell j w hj
      exact ⟨q, pr', h1, h2, by rw [upd_ne (pk (sm _ _ h3))]; exact sm _ _ h3⟩
    · rw [List.getElem?_append_right hge] at hj
      have ej : j - ks.length = 0 := by
        have := (List.getElem?_eq_some_iff.mp hj).1
        simp at this
        omega
      rw [ej] at hj
      have ej' : j = ks.length := by omega
      subst ej'
      simp at hj
      exact ⟨p, pr, hj.symm, hk, by rw [upd_ne (pk ep)]; exact ep⟩
end
end EW
end

section
set_option maxHeartbeats 4000000
namespace EW
open PySem PySem.Spec PyProof.Rows L2
section
variable {X : Cx} {k : Nat} {f a kS : Addr} {KeyOf : Hp → V → Int × Int → Prop} {pins : List (Addr × Obj)} {σ : L2.St} {H : Hp} {s : Shared} {A : Around} {E : Value → Shared → Prop} {P : PySem.Fin → Shared → Prop}
/-- how the values stand behind the sort -/
def Out (xs : List V) (kz : List (Int × Int)) (ys : List V) : Prop := ∃ ps : List (V × (Int × Int)), ps.Perm (xs.zip kz) ∧ ps.Pairwise (fun x y => SrtO.lexB y.2 x.2 = false) ∧ ys = ps.map (·.1)
theorem keys_pairs {e1 : Nat} {kz : List (Int × Int)} {ks : List V} {Hi : Hp} {s' : Shared} {us : List Value} (L : Kys X pins σ H a kS e1 kz ks Hi s') (rv : Vals ks us) : ∀ (j : Nat) (u : Value), us[j]? = some u → ∃ pr : Int × Int, kz[j]? = some pr ∧ Srt.IsPair s'.heap u pr.1 pr.2 := by
  intro j u hu
  have hj : j < ks.length := by rw [rv.length]; exact (List.getElem?_eq_some_iff.mp hu).1
  obtain ⟨q, pr, h1, h2, h3⟩ := L.tell j _ (List.getElem?_eq_getElem hj)
  obtain ⟨u', hu', ru⟩ := rv.get (List.getElem?_eq_getElem hj)
  rw [hu] at hu'
  obtain rfl := Option.some.inj hu'
  rw [h1] at ru
  cases ru
  obtain ⟨_, its2, r2, o, ho, hc, n, hd⟩ := L.inv.hok _ _ h3
  obtain ⟨u1, u2, rfl, ri, rj⟩ := vals2 r2
  obtain ⟨t1, rfl⟩ := ri
  obtain ⟨t2, rfl⟩ := rj
  exact ⟨pr, h2, q, o, t1, t2, n, rfl, ho, hc, hd⟩
theorem zip_out {h : Heap} : ∀ {us vs : List Value} {kz : List (Int × Int)}, us.length = vs.length → kz.length = vs.length → (∀ (j : Nat) (u : Value), us[j]? = some u → ∃ pr : Int × Int, kz[j]? = some pr ∧ Srt.IsPair h u pr.1 pr.2) →
    (us.zip vs).map (fun p => (backV p.2, pairAt h p.1)) = (vs.map backV).zip kz
  | [], [], [], _, _, _ => rfl
  | u :: us, v :: vs, pr :: kz, h1, h2, hp => by
    obtain ⟨pr', e, hu⟩ := hp 0 u rfl
    cases e
    rw [List.zip_cons_cons, List.map_cons, List.map_cons, List.zip_cons_cons, zip_out (us := us) (vs := vs) (kz := kz) (by simpa using h1) (by simpa using h2) fun j w hw => by simpa using hp (j + 1) w (by simpa using hw)]
    rw [pairAt_of hu]
  | [], _ :: _, _, h1, _, _ => by simp at h1
  | _ :: _, [], _, h1, _, _ => by simp at h1
  | _, [], _ :: _, _, h2, _ => by simp at h2
  | _, _ :: _, [], _, h2, _ => by simp at h2
/-- the end: the keys go, the list is filled again -/
theorem sort_tail {e1 : Nat} {kz : List (Int × Int)} {ks xs : List V} {Hi : Hp} {vs us : List Value} {st : SortSt} (hne : a ≠ kS) (ha : H a = none) (h0 : H kS = none) (L : Kys X pins σ H a kS e1 kz ks Hi s) (rv : Vals ks us) (r : Vals xs vs) (hx : ∀ x ∈ xs, ∃ b, x = V.ref b)
    (hl : us.length = vs.length) (hk : kz.length = vs.length) (hp : (arrOf st).toList.Perm (us.zip vs)) (hs : SrtO.Srtd (SrtO.lt2 fun v u => SrtO.lexB (pairAt s.heap v) (pairAt s.heap u)) (arrOf st).toList) (hf : failedOf st = none) (hz : xs.length ≤ sizeLine)
    (q : ∀ ys Hn s', Out xs kz ys → Inv X pins σ Hn s' → Same H Hn → Hn a = some (.lst ys) → P (.done (.ret .none)) s') : wpAny (model X.prog X.w) A (ksk_tail a false e1 (.ref kS) st) P E s := by
  obtain ⟨ex, hr⟩ := refs_back r hx
  have hlen : (arrOf st).size = vs.length := by
    have h1 := hp.length_eq
    rw [Array.length_toList, List.length_zip, hl, Nat.min_self] at h1
    exact h1
  obtain ⟨zk, its, n, rk, hkl, e⟩ := L.inv.lstM L.kst
  have ea : s.heap.get? a = some (seqObj "list" #[] e1) := (L.inv.hok a _ L.at_).1
  unfold ksk_tail
  try dsimp only
  refine wpAny_bind (listUpdate_at e rfl ?_ (by rw [List.size_toArray, ← hkl]; exact zk) (Nat.zero_le _))
  have I1 := L.inv.lset (f := fun _ => #[]) (ys := []) (t' := s.toks) L.kst e (its' := []) rfl .nil (Nat.zero_le _)
  have ea1 : (s.heap.update kS (Obj.mapSeq fun _ => (#[] : Array Value))).get? a = some (seqObj "list" #[] e1) := (Heap.get?_update_other s.heap _ (Ne.symm hne)).trans ea
  refine wpAny_bind (wpAny_letGo ?_)
  refine wpAny_bind (seqEpoch_at ea1 rfl ?_)
  have hout : ((arrOf st).map (·.2)).size = vs.length := by rw [Array.size_map]; exact hlen
  have hvx : vs.length ≤ sizeLine := by rw [← r.length]; exact hz
  refine wpAny_bind (listUpdate_at ea1 rfl ?_ (Nat.zero_le _) (by simp only [Bool.false_eq_true, if_false]; rw [hout]; omega))
  rw [hf]
  simp only [bne_self_eq_false, Bool.false_eq_true, if_false]
  have en : ((s.heap.update kS (Obj.mapSeq fun _ => (#[] : Array Value))).update a (Obj.mapSeq fun _ => (arrOf st).map (·.2))).get? a = some (seqObj "list" ((arrOf st).map (·.2)) _) := get?_update_seq ea1 fun _ => (arrOf st).map (·.2)
  have hrefs : ∀ u ∈ ((arrOf st).map (·.2)).toList, ∃ b, u = Value.ref b := fun u hu => by
    rw [Array.toList_map, List.mem_map] at hu
    obtain ⟨p, hm, rfl⟩ := hu
    exact hr _ (List.of_mem_zip (hp.mem_iff.mp hm)).2
  have hI : (upd Hi kS (.lst [])) a = some (LsO a #[] e1) := by rw [upd_ne hne]; exact L.at_
  refine wpAny_pure (q (((arrOf st).map (·.2)).toList.map backV) _ _ ?_ (I1.write (o := .lst (((arrOf st).map (·.2)).toList.map backV)) (t' := s.toks) (by rw [hI]; exact True.intro) (.inl rfl) (fun b u hb hu => (Heap.get?_update_other _ _ (Ne.symm hb)).trans hu) ⟨_, en⟩ ⟨?_, _, _, vals_back hrefs, by rw [Array.toArray_toList]; exact en⟩) ?_ upd_same)
  · refine ⟨(arrOf st).toList.map (fun p => (backV p.2, pairAt s.heap p.1)), ?_, ?_, ?_⟩
    · have z := hp.map (fun p : Keyed => (backV p.2, pairAt s.heap p.1))
      rw [zip_out hl hk (keys_pairs L rv), ← ex] at z
      exact z
    · rw [List.pairwise_map]
      exact hs
    · rw [List.map_map, Array.toList_map, List.map_map]
      rfl
  · rw [List.length_map, Array.length_toList, hout]
    exact hvx
  · intro b o h
    rw [upd_ne (fun z => by rw [z, ha] at h; cases h), upd_ne (fun z => by rw [z, h0] at h; cases h)]
    exact L.same _ _ h
end
end EW
end

section
set_option maxHeartbeats 4000000
namespace EW
open PySem PySem.Spec PyProof.Rows L2
section
variable {X : Cx} {k : Nat} {f a kS : Addr} {KeyOf : Hp → V → Int × Int → Prop} {pins : List (Addr × Obj)} {σ : L2.St} {H : Hp} {s : Shared} {A : Around} {E : Value → Shared → Prop} {P : PySem.Fin → Shared → Prop}
theorem sort_end {e1 : Nat} {kz : List (Int × Int)} {ks xs : List V} {Hi : Hp} {vs us : List Value} (hne : a ≠ kS) (ha : H a = none) (h0 : H kS = none) (L : Kys X pins σ H a kS e1 kz ks Hi s) (rv : Vals ks us) (r : Vals xs vs) (hx : ∀ x ∈ xs, ∃ b, x = V.ref b)
    (hl : us.length = vs.length) (hk : kz.length = vs.length) (hz : xs.length ≤ sizeLine)
    (q : ∀ ys Hn s', Out xs kz ys → Inv X pins σ Hn s' → Same H Hn → Hn a = some (.lst ys) → P (.done (.ret .none)) s') : wpAny (model X.prog X.w) A (ksk_end a false vs.toArray e1 (.ref kS) us.toArray) P E s := by
  have ez : (us.toArray.zip vs.toArray).toList = us.zip vs := by simp
  have hsz : vs.toArray.size = vs.length := List.size_toArray
  have hps : ∀ u ∈ us, Srt.IsPair s.heap u (pairAt s.heap u).1 (pairAt s.heap u).2 := fun u hu => by
    obtain ⟨j, hj⟩ := List.getElem?_of_mem hu
    obtain ⟨pr, _, hp⟩ := keys_pairs L rv j u hj
    rw [pairAt_of hp]
    exact hp
  have ea : s.heap.get? a = some (seqObj "list" #[] e1) := (L.inv.hok a _ L.at_).1
  unfold ksk_end
  try dsimp only
  simp only [Bool.false_eq_true, if_false]
  by_cases h2 : vs.toArray.size < 2
  · rw [if_pos h2, if_pos h2]
    refine wpAny_bind (wpAny_pure ?_)
    rw [StateT.run_pure]
    refine wpAny_bind (wpAny_pure ?_)
    try dsimp only
    refine sort_tail (st := SortSt.mk' general' (us.toArray.zip vs.toArray) #[] 7 none) hne ha h0 L rv r hx hl hk (List.Perm.of_eq ez) ?_ rfl hz q
    show SrtO.Srtd _ (us.toArray.zip vs.toArray).toList
    rw [ez]
    match us, vs, hl, h2 with
    | [], [], _, _ => exact List.Pairwise.nil
    | [u], [v], _, _ => exact List.pairwise_singleton _ _
    | _, _ :: _ :: l, _, h2 => exact absurd h2 (by simp)
    | _ :: _ :: _, [], hl, _ => simp at hl
    | _ :: _ :: _, [_], hl, _ => simp at hl
    | [], [_], hl, _ => simp at hl
    | [_], [], hl, _ => simp at hl
  · rw [if_neg h2, if_neg h2]
    have hS := SrtO.pairs_sortableO (prog := X.prog) (w := X.w) (A := A) (s := s) (a := a) (vs := us) (k := pairAt s.heap) (by omega) hps fun o e => by
      rw [ea] at e
      cases e
      intro c
      exact absurd (Value.type.inj c) (by decide)
    obtain ⟨κ, hkind, hT⟩ := hS s.heap fun _ _ _ e => e
    refine wpAny_bind (hkind _ _ ?_)
    have hall : SrtO.AllL (fun p : Keyed => p.1 ∈ us) (us.toArray.zip vs.toArray).toList := fun p hm => by
      rw [ez] at hm
      exact (List.of_mem_zip hm).1
    refine wpAny_bind (wpAny_mono (SrtO.wpS_sortO (st0 := SortSt.mk' κ (us.toArray.zip vs.toArray) #[] 7 none)
      (Q := fun _ st' => SrtO.Srtd (SrtO.lt2 fun v u => SrtO.lexB (pairAt s.heap v) (pairAt s.heap u)) (arrOf st').toList ∧ (arrOf st').toList.Perm (us.zip vs) ∧ failedOf st' = none) (SrtO.swo2 (SrtO.swo_lex (pairAt s.heap))) hT rfl hall rfl rfl fun st' b1 b2 b3 => ⟨b1, by rw [← ez]; exact b2.perm, b3⟩) ?_ fun _ _ z => z)
    rintro ⟨⟨⟩, st'⟩ s' ⟨rfl, b1, b2, b3⟩
    try dsimp only
    exact sort_tail hne ha h0 L rv r hx hl hk b2 b1 b3 hz q
theorem sort_rest {e1 : Nat} {kz : List (Int × Int)} {xs : List V} {Hi : Hp} {vs : List Value} (T : KeyFn X k f KeyOf) (sb : Sub X k A) (hne : a ≠ kS) (ha : H a = none) (h0 : H kS = none) (L : Kys X pins σ H a kS e1 kz [] Hi s) (r : Vals xs vs) (hx : ∀ x ∈ xs, ∃ b, x = V.ref b)
    (hk : kz.length = xs.length) (hz : xs.length ≤ sizeLine) (hK : ∀ (j : Nat) (x : V) (pr : Int × Int), xs[j]? = some x → kz[j]? = some pr → KeyOf H x pr)
    (q : ∀ ys Hn s', Out xs kz ys → Inv X pins σ Hn s' → Same H Hn → Hn a = some (.lst ys) → P (.done (.ret .none)) s') : wpAny (model X.prog X.w) A (ksk_rest a (.ref f) false vs.toArray e1 (.ref kS)) P E s := by
  have hlv := r.length
  unfold ksk_rest
  refine wpAny_bind (wpAny_rule ?_)
  first
    | rw [List.forIn_toArray]
    | (rw [← Array.forIn_toList]; simp only [List.toList_toArray])
    | rw [← Array.forIn_toList]
  refine wpAny_bind (ksk_fold (fun i s' => ∃ ks Hn, ks.length = i ∧ Kys X pins σ H a kS e1 kz ks Hn s') vs 0 s ⟨[], Hi, rfl, L⟩ ?step ?done)
  case step =>
    rintro j x s' hxj ⟨ks, Hn, hj, L'⟩
    simp only [Nat.zero_add] at hj ⊢
    have hjv : j < vs.length := (List.getElem?_eq_some_iff.mp hxj).1
    obtain ⟨v, hv⟩ : ∃ v, xs[j]? = some v := ⟨_, List.getElem?_eq_getElem (by omega)⟩
    obtain ⟨pr, hpr⟩ : ∃ pr, kz[j]? = some pr := ⟨_, List.getElem?_eq_getElem (by omega)⟩
    obtain ⟨u, hu, ru⟩ := r.get hv
    rw [hxj] at hu
    obtain rfl := Option.some.inj hu
    refine wpAny_bind (wpAny_attempt ?_)
    refine wpAny_mono (keys_turn (E := E) (xs := xs) (Q := fun s2 => ∃ ks' Hn', ks'.length = j + 1 ∧ Kys X pins σ H a kS e1 kz ks' Hn' s2) T sb hne h0 L' (by rw [hj]; exact hpr) (hK j v pr hv hpr) ru (by omega) fun ks' Hn' s2 h1 h2 => ⟨ks', Hn', by omega, h2⟩) (fun z s2 hq => ?_) fun _ _ z => z.elim
    try dsimp only
    refine wpAny_bind (wpAny_mono hq (fun _ s3 h3 => ?_) fun _ _ z => z)
    exact wpAny_pure ⟨rfl, h3⟩
  case done =>
    rintro s' ⟨ks, Hn, hj, L'⟩
    simp only [Nat.zero_add] at hj
    obtain ⟨_, us, n, rk, hkl, e⟩ := L'.inv.lstM L'.kst
    try dsimp only
    refine wpAny_bind (listItems_at e rfl ?_)
    exact sort_end hne ha h0 L' rk r hx (by omega) (by omega) hz q
end
end EW
end

section
set_option maxHeartbeats 4000000
namespace EW
open PySem PySem.Spec PyProof.Rows L2
section
variable {X : Cx} {k : Nat} {f a kS : Addr} {KeyOf : Hp → V → Int × Int → Prop} {pins : List (Addr × Obj)} {σ : L2.St} {H : Hp} {s : Shared} {A : Around} {E : Value → Shared → Prop} {P : PySem.Fin → Shared → Prop}
theorem sort_tree {kz : List (Int × Int)} {xs : List V} {vs : List Value} {n : Nat} (T : KeyFn X k f KeyOf) (sb : Sub X k A) (ha : H a = none) (I : Inv X pins σ (upd H a (.lst xs)) s) (ho : s.heap.get? a = some (seqObj "list" vs.toArray n)) (r : Vals xs vs) (hx : ∀ x ∈ xs, ∃ b, x = V.ref b)
    (hk : kz.length = xs.length) (hK : ∀ (j : Nat) (x : V) (pr : Int × Int), xs[j]? = some x → kz[j]? = some pr → KeyOf H x pr)
    (q : ∀ ys Hn s', Out xs kz ys → Inv X pins σ Hn s' → Same H Hn → Hn a = some (.lst ys) → P (.done (.ret .none)) s') : wpAny (model X.prog X.w) A (ksk_tree a (.ref f) false) P E s := by
  have hz : xs.length ≤ sizeLine := (I.lstM upd_same).1
  have hv : vs.length ≤ sizeLine := by rw [← r.length]; exact hz
  obtain ⟨e1, ho1⟩ : ∃ e1, (s.heap.update a (Obj.mapSeq fun _ => (#[] : Array Value))).get? a = some (seqObj "list" #[] e1) := ⟨_, get?_update_seq ho fun _ => #[]⟩
  unfold ksk_tree
  refine wpAny_bind (listItems_at ho rfl ?_)
  refine wpAny_bind (listUpdate_at ho rfl ?_ (by rw [List.size_toArray]; exact hv) (Nat.zero_le _))
  refine wpAny_bind (seqEpoch_at ho1 rfl ?_)
  refine wpAny_bind (wpAny_newTuple ?_ hv)
  refine wpAny_bind (wpAny_newList ?_ (Nat.zero_le _))
  refine wpAny_holding ?_
  have I1 : Inv X pins σ (upd (upd H a (.lst xs)) a (LsO a #[] e1)) { s with heap := s.heap.update a (Obj.mapSeq fun _ => (#[] : Array Value)), toks := s.toks } :=
    I.write (by rw [upd_same]; exact True.intro) (.inl rfl) (fun b u hb hu => (Heap.get?_update_other _ _ (Ne.symm hb)).trans hu) ⟨_, ho1⟩ (lsO_ok ho1)
  have I2 := I1.kept (h' := (s.heap.update a (Obj.mapSeq fun _ => (#[] : Array Value))).push (seqObj "tuple" vs.toArray 0)) (t' := s.toks) fun b u e => Heap.get?_push_of_some _ e
  have I3 := I2.lnew (ys := []) (its := []) (t' := s.toks) .nil (Nat.zero_le _)
  have hf := I2.fresh
  have hne : a ≠ ((s.heap.update a (Obj.mapSeq fun _ => (#[] : Array Value))).push (seqObj "tuple" vs.toArray 0)).objs.size := fun z => by
    rw [← z, upd_same] at hf
    cases hf
  refine sort_rest T sb hne ha ?_ ⟨I3, fun b o h => ?_, ?_, upd_same, fun j v hj => by simp at hj⟩ r hx hk hz hK q
  · rw [upd_ne (Ne.symm hne), upd_ne (Ne.symm hne)] at hf
    exact hf
  · have h1 : b ≠ a := fun z => by rw [z, ha] at h; cases h
    rw [upd_ne (fun z => by rw [← z, upd_ne h1, upd_ne h1, h] at hf; cases hf), upd_ne h1, upd_ne h1]
    exact h
  · rw [upd_ne hne]
    exact upd_same
def rSortBy (K : W.Frag) (f : Addr) (KeyOf : Hp → V → Int × Int → Prop) : List V → List V → Hp → VK → Prop := fun vs zs H Q => ∃ (a : Addr) (xs : List V) (kz : List (Int × Int)), vs = [.ref a] ∧ zs = [.ref f] ∧ SqL K H a xs ∧ (∀ x ∈ xs, ∃ b, x = V.ref b) ∧ kz.length = xs.length ∧
  (∀ (j : Nat) (x : V) (pr : Int × Int), xs[j]? = some x → kz[j]? = some pr → KeyOf H x pr) ∧ ∀ ys, Out xs kz ys → New H (fun _ => .lst ys) Q
/-- sorted(l, key=f) -/
theorem cr_sortedBy (T : KeyFn X k f KeyOf) (hr : Room (k + 2) X.A) : CallRK X (.builtin "sorted") [Str.ofString "key"] (rSortBy X.K f KeyOf) := by
  intro pins s σ H vs zs us ws Q I r rz h
  obtain ⟨l, xs, kz, rfl, rfl, hS, hx, hk, hK, q⟩ := h
  obtain rfl := Vals.ref1 r
  obtain rfl := Vals.ref1 rz
  obtain ⟨its, rv, hl, hz⟩ := I.list hS
  have hz' : its.length ≤ sizeLine := by rw [← rv.length]; exact hz
  show wpAny _ _ (call (.builtin "sorted") [.ref l] [(Str.ofString "key", .ref f)]) _ _ _
  refine call_function_entry_kw kind_sorted plain_sorted entry_sorted (ksk_s1 _ _) ?_
  unfold Builtin.«sorted»
  refine wpAny_bind (m := checkCount "sorted" 1 1 _) (wpAny_pure ?_)
  refine wpAny_bind (collect_list hl.isList ?_ hz')
  refine wpAny_bind (wpAny_newList ?_ hz')
  have hsz : ((s.heap.push (seqObj "list" #[] 0)).update s.heap.objs.size (Obj.mapSeq (· ++ its.toArray))).objs.size = s.heap.objs.size + 1 := by
    rw [Heap.size_update, size_push']
  have hoL : (((s.heap.push (seqObj "list" #[] 0)).update s.heap.objs.size (Obj.mapSeq (· ++ its.toArray))).push (seqObj "list" its.toArray 0)).get? (s.heap.objs.size + 1) = some (seqObj "list" its.toArray 0) := by
    rw [← hsz]; exact Heap.get?_push_size _ rfl
  have keep : ∀ b o, s.heap.get? b = some o → (((s.heap.push (seqObj "list" #[] 0)).update s.heap.objs.size (Obj.mapSeq (· ++ its.toArray))).push (seqObj "list" its.toArray 0)).get? b = some o := fun b o e => by
    refine Heap.get?_push_of_some _ ?_
    rw [Heap.get?_update_ne _ _ _ _ (Nat.ne_of_lt (Heap.lt_size e))]
    exact Heap.get?_push_of_some _ e
  show wpAny _ _ _ _ _ { s with heap := ((s.heap.push (seqObj "list" #[] 0)).update s.heap.objs.size (Obj.mapSeq (· ++ its.toArray))).push (seqObj "list" its.toArray 0) }
  rw [hsz]
  have hfr : H (s.heap.objs.size + 1) = none := I.hok.fresh (Nat.le_succ _)
  have I1 := I.laid (h' := ((s.heap.push (seqObj "list" #[] 0)).update s.heap.objs.size (Obj.mapSeq (· ++ its.toArray))).push (seqObj "list" its.toArray 0)) (a := s.heap.objs.size + 1) (o := .lst xs) (t' := s.toks) keep (Nat.le_succ _) ⟨hz, its, 0, rv, hoL⟩
  refine wpAny_bind (wpAny_holding (wpAny_call_entry_kw slot_list_sort ⟨_, hoL, rfl⟩ entry_list_sort ?_ (ksk_l1 _ _)))
  rw [ksk_t1]
  refine sort_tree T (Sub.in1 (Sub.in1 ⟨hr, rfl⟩)) hfr I1 hoL rv hx hk hK fun ys Hn s' o I' sm ea => ⟨_, rfl, ?_⟩
  exact wpAny_pure ⟨_, rfl, .ref _, Hn, I', rfl, q ys o _ Hn hfr sm ea⟩
end
end EW
end

section

/-! Sets of times by runs: the mathematics, no program in sight -/
namespace Rn
/-- a span: residue or none, least, most -/
structure Sp3 where
  res : Option Int
  lo : Option Int
  hi : Option Int
  deriving DecidableEq
/-- a run -/
structure Run where
  r : Int
  lo : Option Int
  hi : Option Int
  deriving DecidableEq
def Run.span (x : Run) : Sp3 := ⟨some x.r, x.lo, x.hi⟩
def geLo (lo : Option Int) (t : Int) : Prop := ∀ l, lo = some l → l ≤ t
def leHi (hi : Option Int) (t : Int) : Prop := ∀ m, hi = some m → t ≤ m
def inRun (p : Int) (x : Run) (t : Int) : Prop := t % p = x.r ∧ geLo x.lo t ∧ leHi x.hi t
def inRuns (p : Int) (xs : List Run) (t : Int) : Prop := ∃ x ∈ xs, inRun p x t
def inSpan (p : Int) (s : Sp3) (t : Int) : Prop := (∀ r, s.res = some r → t % p = r) ∧ geLo s.lo t ∧ leHi s.hi t
def inSpans (p : Int) (ss : List Sp3) (t : Int) : Prop := ∃ s ∈ ss, inSpan p s t
/-- rounded up to the residue, rounded down -/
def upTo (p r l : Int) : Int := l + (r - l) % p
def downTo (p r m : Int) : Int := m - (m - r) % p
def runOf (p r : Int) (lo hi : Option Int) : Option Run :=
  match lo.map (upTo p r), hi.map (downTo p r) with
  | some l, some m => if l > m then none else some ⟨r, some l, some m⟩
  | l, m => some ⟨r, l, m⟩
/-- what a run must be -/
structure Good (p : Int) (x : Run) : Prop where
  r0 : 0 ≤ x.r
  r1 : x.r < p
  lo : ∀ l, x.lo = some l → l % p = x.r
  hi : ∀ m, x.hi = some m → m % p = x.r
  le : ∀ l m, x.lo = some l → x.hi = some m → l ≤ m
section
variable {p r t : Int}
theorem dvd_of_mods {a b : Int} (h : a % p = b % p) : ∃ k, a - b = p * k := by
  have h1 : (a - b) % p = 0 := by
    rw [Int.sub_emod, h, Int.sub_self]
    exact Int.zero_emod _
  exact ⟨(a - b) / p, by
    have := Int.mul_ediv_add_emod (a - b) p
    omega⟩
/-- two numbers of one remainder: less means less by a period at least -/
theorem step_of {a b : Int} (hp : 0 < p) (h : a % p = b % p) (l : a < b) : a + p ≤ b := by
  obtain ⟨k, hk⟩ := dvd_of_mods (p := p) h.symm
  have k0 : 0 < k := by
    rcases Int.lt_or_le 0 k with z | z
    · exact z
    · have : p * k ≤ p * 0 := Int.mul_le_mul_of_nonneg_left z (Int.le_of_lt hp)
      omega
  have : p * 1 ≤ p * k := Int.mul_le_mul_of_nonneg_left (by omega) (Int.le_of_lt hp)
  omega
theorem upTo_mod (h0 : 0 ≤ r) (h1 : r < p) (l : Int) : upTo p r l % p = r := by
  unfold upTo
  rw [Int.add_emod, Int.emod_emod, ← Int.add_emod]
  have : l + (r - l) = r := by omega
  rw [this]
  exact Int.emod_eq_of_lt h0 h1
theorem downTo_mod (h0 : 0 ≤ r) (h1 : r < p) (m : Int) : downTo p r m % p = r := by
  unfold downTo
  rw [Int.sub_emod, Int.emod_emod, ← Int.sub_emod]
  have : m - (m - r) = r := by omega
  rw [this]
  exact Int.emod_eq_of_lt h0 h1
theorem upTo_le (hp : 0 < p) (l : Int) : l ≤ upTo p r l ∧ upTo p r l < l + p := by
  unfold upTo
  have h1 := Int.emod_nonneg (r - l) (Int.ne_of_gt hp)
  have h2 := Int.emod_lt_of_pos (r - l) hp
  omega
theorem downTo_le (hp : 0 < p) (m : Int) : downTo p r m ≤ m ∧ m - p < downTo p r m := by
  unfold downTo
  have h1 := Int.emod_nonneg (m - r) (Int.ne_of_gt hp)
  have h2 := Int.emod_lt_of_pos (m - r) hp
  omega
theorem upTo_iff (h0 : 0 ≤ r) (h1 : r < p) (ht : t % p = r) (l : Int) : upTo p r l ≤ t ↔ l ≤ t := by
  have hp : 0 < p := by omega
  have a := upTo_le (r := r) hp l
  constructor
  · intro h
    omega
  · intro h
    rcases Int.lt_or_le t (upTo p r l) with z | z
    · have := step_of hp (by rw [ht, upTo_mod h0 h1]) z
      omega
    · exact z
theorem downTo_iff (h0 : 0 ≤ r) (h1 : r < p) (ht : t % p = r) (m : Int) : t ≤ downTo p r m ↔ t ≤ m := by
  have hp : 0 < p := by omega
  have a := downTo_le (r := r) hp m
  constructor
  · intro h
    omega
  · intro h
    rcases Int.lt_or_le (downTo p r m) t with z | z
    · have := step_of hp (by rw [ht, downTo_mod h0 h1]) z
      omega
    · exact z
/-- what the run of a residue between bounds has -/
theorem runOf_some {lo hi : Option Int} {x : Run} (h0 : 0 ≤ r) (h1 : r < p) (h : runOf p r lo hi = some x) : Good p x ∧ x.r = r ∧ ∀ t, inRun p x t ↔ (t % p = r ∧ geLo lo t ∧ leHi hi t) := by
  have key : x.r = r ∧ x.lo = lo.map (upTo p r) ∧ x.hi = hi.map (downTo p r) ∧ (∀ l m, x.lo = some l → x.hi = some m → l ≤ m) := by
    unfold runOf at h
    cases lo with
    | none =>
      cases hi with
      | none => cases h; exact ⟨rfl, rfl, rfl, fun l m z _ => nomatch z⟩
      | some m => cases h; exact ⟨rfl, rfl, rfl, fun l m z _ => nomatch z⟩
    | some l =>
      cases hi with
      | none => cases h; exact ⟨rfl, rfl, rfl, fun l m _ z => nomatch z⟩
      | some m =>
        have h' : (if upTo p r l > downTo p r m then none else some (⟨r, some (upTo p r l), some (downTo p r m)⟩ : Run)) = some x := h
        split at h'
        · cases h'
        · rename_i z
          cases h'
          refine ⟨rfl, rfl, rfl, fun a b ha hb => ?_⟩
          cases ha
          cases hb
          omega
  obtain ⟨e1, e2, e3, e4⟩ := key
  refine ⟨⟨by omega, by omega, fun l z => ?_, fun m z => ?_, e4⟩, e1, fun t => ?_⟩
  · rw [e2] at z
    cases lo with
    | none => cases z
    | some l' =>
      cases z
      rw [e1]
      exact upTo_mod h0 h1 l'
  · rw [e3] at z
    cases hi with
    | none => cases z
    | some m' =>
      cases z
      rw [e1]
      exact downTo_mod h0 h1 m'
  · unfold inRun
    rw [e1, e2, e3]
    constructor
    · rintro ⟨a, b, c⟩
      refine ⟨a, fun l z => ?_, fun m z => ?_⟩
      · subst z
        exact (upTo_iff h0 h1 a l).mp (b _ rfl)
      · subst z
        exact (downTo_iff h0 h1 a m).mp (c _ rfl)
    · rintro ⟨a, b, c⟩
      refine ⟨a, fun l z => ?_, fun m z => ?_⟩
      · cases lo with
        | none => cases z
        | some l' =>
          cases z
          exact (upTo_iff h0 h1 a l').mpr (b _ rfl)
      · cases hi with
        | none => cases z
        | some m' =>
          cases z
          exact (downTo_iff h0 h1 a m').mpr (c _ rfl)
theorem runOf_none {lo hi : Option Int} (h0 : 0 ≤ r) (h1 : r < p) (h : runOf p r lo hi = none) (t : Int) : ¬ (t % p = r ∧ geLo lo t ∧ leHi hi t) := by
  rintro ⟨a, b, c⟩
  unfold runOf at h
  cases lo with
  | none => cases hi <;> cases h
  | some l =>
    cases hi with
    | none => cases h
    | some m =>
      have h' : (if upTo p r l > downTo p r m then none else some (⟨r, some (upTo p r l), some (downTo p r m)⟩ : Run)) = none := h
      split at h'
      · have b1 := (upTo_iff h0 h1 a l).mpr (b _ rfl)
        have c1 := (downTo_iff h0 h1 a m).mpr (c _ rfl)
        omega
      · cases h'
end
end Rn
end

section

namespace Rn
/-! ### the one list of runs of a set -/
/-- x comes ahead of y, and they don't touch -/
def Lt (p : Int) (x y : Run) : Prop := x.r < y.r ∨ (x.r = y.r ∧ ∃ h l, x.hi = some h ∧ y.lo = some l ∧ h + p < l)
structure Canon (p : Int) (xs : List Run) : Prop where
  good : ∀ x ∈ xs, Good p x
  pw : xs.Pairwise (Lt p)
section
variable {p : Int}
theorem Canon.tail {x : Run} {xs : List Run} (h : Canon p (x :: xs)) : Canon p xs := ⟨fun y hy => h.good y (List.mem_cons_of_mem _ hy), (List.pairwise_cons.mp h.pw).2⟩
theorem Canon.head {x : Run} {xs : List Run} (h : Canon p (x :: xs)) : Good p x := h.good x List.mem_cons_self
theorem Canon.lt {x : Run} {xs : List Run} (h : Canon p (x :: xs)) : ∀ y ∈ xs, Lt p x y := (List.pairwise_cons.mp h.pw).1
/-- a run has a member: its least one, its greatest one, or its residue -/
theorem Good.some {x : Run} (g : Good p x) : ∃ t, inRun p x t := by
  have hp : 0 < p := by have := g.r0; have := g.r1; omega
  cases el : x.lo with
  | some l =>
    refine ⟨l, g.lo l el, fun l' z => ?_, fun m z => ?_⟩
    · rw [el] at z
      cases z
      exact Int.le_refl _
    · exact g.le l m el z
  | none =>
    cases eh : x.hi with
    | some m =>
      refine ⟨m, g.hi m eh, fun l' z => ?_, fun m' z => ?_⟩
      · rw [el] at z
        cases z
      · rw [eh] at z
        cases z
        exact Int.le_refl _
    | none =>
      refine ⟨x.r, Int.emod_eq_of_lt g.r0 g.r1, fun l' z => ?_, fun m' z => ?_⟩
      · rw [el] at z
        cases z
      · rw [eh] at z
        cases z
/-- runs one ahead of the other have no common member -/
theorem Lt.apart {x y : Run} {t : Int} (hp : 0 < p) (h : Lt p x y) (hx : inRun p x t) (hy : inRun p y t) : False := by
  rcases h with h | ⟨_, a, b, e1, e2, h⟩
  · have := hx.1
    have := hy.1
    omega
  · have := hx.2.2 a e1
    have := hy.2.1 b e2
    omega
theorem tail_iff {x : Run} {xs : List Run} (hp : 0 < p) (h : Canon p (x :: xs)) (t : Int) : inRuns p xs t ↔ inRuns p (x :: xs) t ∧ ¬ inRun p x t := by
  constructor
  · rintro ⟨y, hy, m⟩
    exact ⟨⟨y, List.mem_cons_of_mem _ hy, m⟩, fun hx => (h.lt y hy).apart hp hx m⟩
  · rintro ⟨⟨y, hy, m⟩, n⟩
    rcases List.mem_cons.mp hy with rfl | hy
    · exact absurd m n
    · exact ⟨y, hy, m⟩
/-- of one residue: members of later runs come behind -/
theorem later {x y : Run} {xs : List Run} {t h : Int} (c : Canon p (x :: xs)) (hy : y ∈ xs) (m : inRun p y t) (er : t % p = x.r) (eh : x.hi = some h) : h + p < t := by
  rcases c.lt y hy with z | ⟨_, a, b, e1, e2, z⟩
  · have := m.1
    omega
  · rw [eh] at e1
    cases e1
    have := m.2.1 b e2
    omega
theorem later_none {x y : Run} {xs : List Run} {t : Int} (c : Canon p (x :: xs)) (hy : y ∈ xs) (m : inRun p y t) (er : t % p = x.r) (eh : x.hi = none) : False := by
  rcases c.lt y hy with z | ⟨_, a, b, e1, e2, z⟩
  · have := m.1
    omega
  · rw [eh] at e1
    cases e1
/-- the first run's least time is the least of its residue -/
theorem first_le {x : Run} {xs : List Run} {t l : Int} (hp : 0 < p) (c : Canon p (x :: xs)) (m : inRuns p (x :: xs) t) (er : t % p = x.r) (el : x.lo = some l) : l ≤ t := by
  obtain ⟨y, hy, m⟩ := m
  rcases List.mem_cons.mp hy with rfl | hy
  · exact m.2.1 l el
  · cases eh : x.hi with
    | none => exact (later_none c hy m er eh).elim
    | some h =>
      have := later c hy m er eh
      have := c.head.le l h el eh
      omega
theorem res_le {x : Run} {xs : List Run} {t : Int} (c : Canon p (x :: xs)) (m : inRuns p (x :: xs) t) : x.r ≤ t % p := by
  obtain ⟨y, hy, m⟩ := m
  rcases List.mem_cons.mp hy with rfl | hy
  · rw [m.1]
    exact Int.le_refl _
  · rcases c.lt y hy with z | ⟨z, _⟩
    · have := m.1
      omega
    · have := m.1
      omega
/-- less than any number, with a remainder -/
theorem below (hp : 0 < p) {r : Int} (h0 : 0 ≤ r) (h1 : r < p) (b : Int) : ∃ t, t % p = r ∧ t < b := by
  have h := downTo_le (p := p) (r := r) hp (b - 1)
  exact ⟨downTo p r (b - 1), downTo_mod h0 h1 _, by omega⟩
theorem above (hp : 0 < p) {r : Int} (h0 : 0 ≤ r) (h1 : r < p) (b : Int) : ∃ t, t % p = r ∧ b < t := by
  have h := upTo_le (p := p) (r := r) hp (b + 1)
  exact ⟨upTo p r (b + 1), upTo_mod h0 h1 _, by omega⟩
theorem in_lo {x : Run} (g : Good p x) {l : Int} (el : x.lo = some l) : inRun p x l := by
  refine ⟨g.lo l el, fun l' z => ?_, fun m z => g.le l m el z⟩
  rw [el] at z
  cases z
  exact Int.le_refl _
theorem in_hi {x : Run} (g : Good p x) {m : Int} (eh : x.hi = some m) : inRun p x m := by
  refine ⟨g.hi m eh, fun l z => g.le l m z eh, fun m' z => ?_⟩
  rw [eh] at z
  cases z
  exact Int.le_refl _
theorem res_eq {x y : Run} {xs ys : List Run} (c : Canon p (x :: xs)) (d : Canon p (y :: ys)) (h : ∀ t, inRuns p (x :: xs) t → inRuns p (y :: ys) t) : y.r ≤ x.r := by
  obtain ⟨t, m⟩ := c.head.some
  have := res_le d (h t ⟨x, List.mem_cons_self, m⟩)
  rw [m.1] at this
  exact this
theorem lo_le {x y : Run} {xs ys : List Run} (hp : 0 < p) (c : Canon p (x :: xs)) (d : Canon p (y :: ys)) (h : ∀ t, inRuns p (x :: xs) t → inRuns p (y :: ys) t) (e : x.r = y.r) {l : Int} (el : y.lo = some l) : ∃ l', x.lo = some l' ∧ l ≤ l' := by
  cases ex : x.lo with
  | some l' =>
    have m := in_lo c.head ex
    exact ⟨l', rfl, first_le hp d (h l' ⟨x, List.mem_cons_self, m⟩) (by rw [m.1, e]) el⟩
  | none =>
    exfalso
    have b : ∃ b : Int, b ≤ l ∧ leHi x.hi b := by
      cases eh : x.hi with
      | none => exact ⟨l, Int.le_refl _, fun m z => nomatch z⟩
      | some m =>
        refine ⟨min l m, by omega, fun m' z => ?_⟩
        cases z
        omega
    obtain ⟨b, b1, b2⟩ := b
    obtain ⟨t, t1, t2⟩ := below hp c.head.r0 c.head.r1 b
    have m : inRun p x t := ⟨t1, (fun l' z => by rw [ex] at z; cases z), (fun m z => by have := b2 m z; omega)⟩
    have := first_le hp d (h t ⟨x, List.mem_cons_self, m⟩) (by rw [t1, e]) el
    omega
theorem hi_le {x y : Run} {xs ys : List Run} (hp : 0 < p) (c : Canon p (x :: xs)) (d : Canon p (y :: ys)) (h : ∀ t, inRuns p (x :: xs) t → inRuns p (y :: ys) t) (e : x.r = y.r) (elo : x.lo = y.lo) {m : Int} (eh : y.hi = some m) : ∃ m', x.hi = some m' ∧ m' ≤ m := by
  have out : ∀ t, inRun p x t → t ≤ m + p → t ≤ m := fun t mt lt => by
    obtain ⟨z, hz, mz⟩ := h t ⟨x, List.mem_cons_self, mt⟩
    rcases List.mem_cons.mp hz with rfl | hz
    · exact mz.2.2 m eh
    · have := later d hz mz (by rw [mt.1, e]) eh
      omega
  have my := in_hi d.head eh
  have key : ∀ t, inRun p x t → t ≤ m := fun t mt => by
    rcases Int.lt_or_le m t with z | z
    · exfalso
      have mp : m + p ≤ t := step_of hp (by rw [my.1, mt.1, e]) z
      have m2 : inRun p x (m + p) := by
        refine ⟨by rw [Int.add_emod_right, my.1, e], fun l el => ?_, fun u eu => ?_⟩
        · have := d.head.le l m (by rw [← elo]; exact el) eh
          omega
        · have := mt.2.2 u eu
          omega
      have := out (m + p) m2 (Int.le_refl _)
      omega
    · exact z
  cases ex : x.hi with
  | some m' => exact ⟨m', rfl, key m' (in_hi c.head ex)⟩
  | none =>
    exfalso
    have b : ∃ b : Int, m ≤ b ∧ geLo x.lo b := by
      cases el : x.lo with
      | none => exact ⟨m, Int.le_refl _, fun l z => nomatch z⟩
      | some l =>
        refine ⟨max l m, by omega, fun l' z => ?_⟩
        cases z
        omega
    obtain ⟨b, b1, b2⟩ := b
    obtain ⟨t, t1, t2⟩ := above hp c.head.r0 c.head.r1 b
    have mt : inRun p x t := ⟨t1, (fun l z => by have := b2 l z; omega), (fun u z => by rw [ex] at z; cases z)⟩
    have := key t mt
    omega
/-- THE UNIQUENESS: equal members, equal runs -/
theorem canon_unique (hp : 0 < p) : ∀ {xs ys : List Run}, Canon p xs → Canon p ys → (∀ t, inRuns p xs t ↔ inRuns p ys t) → xs = ys
  | [], [], _, _, _ => rfl
  | [], y :: ys, _, d, h => by
    obtain ⟨t, m⟩ := d.head.some
    obtain ⟨z, hz, _⟩ := (h t).mpr ⟨y, List.mem_cons_self, m⟩
    cases hz
  | x :: xs, [], c, _, h => by
    obtain ⟨t, m⟩ := c.head.some
    obtain ⟨z, hz, _⟩ := (h t).mp ⟨x, List.mem_cons_self, m⟩
    cases hz
  | x :: xs, y :: ys, c, d, h => by
    have h1 : ∀ t, inRuns p (x :: xs) t → inRuns p (y :: ys) t := fun t => (h t).mp
    have h2 : ∀ t, inRuns p (y :: ys) t → inRuns p (x :: xs) t := fun t => (h t).mpr
    have er : x.r = y.r := by
      have := res_eq c d h1
      have := res_eq d c h2
      omega
    have el : x.lo = y.lo := by
      cases e1 : x.lo with
      | none =>
        cases e2 : y.lo with
        | none => rfl
        | some l =>
          obtain ⟨l', z, _⟩ := lo_le hp c d h1 er e2
          rw [e1] at z
          cases z
      | some a =>
        obtain ⟨b, z, q⟩ := lo_le hp d c h2 er.symm e1
        obtain ⟨a', z', q'⟩ := lo_le hp c d h1 er z
        rw [e1] at z'
        cases z'
        rw [z]
        congr 1
        omega
    have eh : x.hi = y.hi := by
      cases e1 : x.hi with
      | none =>
        cases e2 : y.hi with
        | none => rfl
        | some l =>
          obtain ⟨l', z, _⟩ := hi_le hp c d h1 er el e2
          rw [e1] at z
          cases z
      | some a =>
        obtain ⟨b, z, q⟩ := hi_le hp d c h2 er.symm el.symm e1
        obtain ⟨a', z', q'⟩ := hi_le hp c d h1 er el z
        rw [e1] at z'
        cases z'
        rw [z]
        congr 1
        omega
    have exy : x = y := by
      obtain ⟨a, b, c⟩ := x
      obtain ⟨a', b', c'⟩ := y
      cases er
      cases el
      cases eh
      rfl
    subst exy
    have := canon_unique hp c.tail d.tail fun t => by rw [tail_iff hp c, tail_iff hp d, h t]
    rw [this]
end
end Rn
end

section

namespace Rn
/-! ### runs of one residue, put together -/
def goesOn (p : Int) (x y : Run) : Bool := match x.hi, y.lo with
  | some h, some l => decide (l ≤ h + p)
  | _, _ => true
def hiMax (a b : Option Int) : Option Int := match a, b with
  | some u, some v => some (max u v)
  | _, _ => none
def merge (x y : Run) : Run := ⟨x.r, x.lo, hiMax x.hi y.hi⟩
/-- none comes ahead of all bounds -/
def loLe (a b : Option Int) : Prop := match a, b with
  | none, _ => True
  | some _, none => False
  | some u, some v => u ≤ v
theorem loLe.trans {a b c : Option Int} (h : loLe a b) (g : loLe b c) : loLe a c := by
  cases a with
  | none => trivial
  | some u =>
    cases b with
    | none => exact h.elim
    | some v =>
      cases c with
      | none => exact g.elim
      | some w => exact Int.le_trans (show u ≤ v from h) g
/-- what stands of the runs so far: found, of which the last one may still grow -/
structure Grow (p r : Int) (found done : List Run) : Prop where
  good : ∀ z ∈ found, Good p z ∧ z.r = r
  pw : found.Pairwise (Lt p)
  mem : ∀ t, inRuns p found t ↔ inRuns p done t
section
variable {p r : Int}
theorem Grow.nil : Grow p r [] [] := ⟨(fun _ h => nomatch h), List.Pairwise.nil, fun _ => Iff.rfl⟩
theorem inRuns_append {xs ys : List Run} {t : Int} : inRuns p (xs ++ ys) t ↔ inRuns p xs t ∨ inRuns p ys t := by
  constructor
  · rintro ⟨x, hx, m⟩
    rcases List.mem_append.mp hx with h | h
    · exact .inl ⟨x, h, m⟩
    · exact .inr ⟨x, h, m⟩
  · rintro (⟨x, hx, m⟩ | ⟨x, hx, m⟩)
    · exact ⟨x, List.mem_append_left _ hx, m⟩
    · exact ⟨x, List.mem_append_right _ hx, m⟩
theorem inRuns_one {x : Run} {t : Int} : inRuns p [x] t ↔ inRun p x t := by
  constructor
  · rintro ⟨y, hy, m⟩
    rw [List.mem_singleton] at hy
    subst hy
    exact m
  · exact fun m => ⟨x, List.mem_singleton.mpr rfl, m⟩
theorem merge_good {x y : Run} (gx : Good p x) (gy : Good p y) (e : x.r = y.r) : Good p (merge x y) := by
  refine ⟨gx.r0, gx.r1, gx.lo, fun m z => ?_, fun l m zl z => ?_⟩
  · have z' : hiMax x.hi y.hi = some m := z
    cases ex : x.hi with
    | none =>
      rw [ex] at z'
      cases z'
    | some a =>
      cases ey : y.hi with
      | none =>
        rw [ex, ey] at z'
        cases z'
      | some b =>
        rw [ex, ey] at z'
        have z2 : max a b = m := Option.some.inj z'
        have h1 := gx.hi a ex
        have h2 := gy.hi b ey
        show m % p = x.r
        rcases Int.le_total a b with q | q
        · rw [← z2, Int.max_eq_right q, h2, e]
        · rw [← z2, Int.max_eq_left q, h1]
  · have z' : hiMax x.hi y.hi = some m := z
    cases ex : x.hi with
    | none =>
      rw [ex] at z'
      cases z'
    | some a =>
      cases ey : y.hi with
      | none =>
        rw [ex, ey] at z'
        cases z'
      | some b =>
        rw [ex, ey] at z'
        have z2 : max a b = m := Option.some.inj z'
        have := gx.le l a zl ex
        omega
theorem merge_mem {x y : Run} (gx : Good p x) (gy : Good p y) (e : x.r = y.r) (lo : loLe x.lo y.lo) (g : goesOn p x y = true) (t : Int) : inRun p (merge x y) t ↔ inRun p x t ∨ inRun p y t := by
  have hp : 0 < p := by have := gx.r0; have := gx.r1; omega
  constructor
  · rintro ⟨m1, m2, m3⟩
    have m3' : leHi (hiMax x.hi y.hi) t := m3
    have m2' : geLo x.lo t := m2
    have m1' : t % p = x.r := m1
    cases ex : x.hi with
    | none => exact .inl ⟨m1, m2, fun m z => by rw [ex] at z; cases z⟩
    | some a =>
      rcases Int.lt_or_le a t with q | q
      · right
        have ap : a + p ≤ t := step_of hp (by rw [gx.hi a ex, m1']) q
        refine ⟨by rw [m1', e], fun l z => ?_, fun m z => ?_⟩
        · have g' : decide (l ≤ a + p) = true := by
            unfold goesOn at g
            rw [ex, z] at g
            exact g
          have := of_decide_eq_true g'
          omega
        · have h := m3' (max a m) (by rw [ex, z]; rfl)
          omega
      · exact .inl ⟨m1, m2, fun m z => by rw [ex] at z; cases z; exact q⟩
  · rintro (⟨m1, m2, m3⟩ | ⟨m1, m2, m3⟩)
    · refine ⟨m1, m2, fun m z => ?_⟩
      have z' : hiMax x.hi y.hi = some m := z
      cases ex : x.hi with
      | none =>
        rw [ex] at z'
        cases z'
      | some a =>
        cases ey : y.hi with
        | none =>
          rw [ex, ey] at z'
          cases z'
        | some b =>
          rw [ex, ey] at z'
          have z2 : max a b = m := Option.some.inj z'
          have := m3 a ex
          omega
    · refine ⟨by show t % p = x.r; rw [m1, e], fun l z => ?_, fun m z => ?_⟩
      · have z' : x.lo = some l := z
        rw [z'] at lo
        cases ey : y.lo with
        | none =>
          rw [ey] at lo
          exact lo.elim
        | some b =>
          rw [ey] at lo
          have := m2 b ey
          have q : l ≤ b := lo
          omega
      · have z' : hiMax x.hi y.hi = some m := z
        cases ex : x.hi with
        | none =>
          rw [ex] at z'
          cases z'
        | some a =>
          cases ey : y.hi with
          | none =>
            rw [ex, ey] at z'
            cases z'
          | some b =>
            rw [ex, ey] at z'
            have z2 : max a b = m := Option.some.inj z'
            have := m3 b ey
            omega
/-- the next run meets or touches the last one -/
theorem Grow.merge {pre done : List Run} {x y : Run} (h : Grow p r (pre ++ [x]) done) (gy : Good p y) (ey : y.r = r) (lo : loLe x.lo y.lo) (g : goesOn p x y = true) : Grow p r (pre ++ [Rn.merge x y]) (done ++ [y]) := by
  obtain ⟨gx, ex⟩ := h.good x (List.mem_append_right _ (List.mem_singleton.mpr rfl))
  have e : x.r = y.r := by omega
  refine ⟨fun z hz => ?_, ?_, fun t => ?_⟩
  · rcases List.mem_append.mp hz with hz | hz
    · exact h.good z (List.mem_append_left _ hz)
    · rw [List.mem_singleton] at hz
      subst hz
      exact ⟨merge_good gx gy e, ex⟩
  · have hpw := List.pairwise_append.mp h.pw
    refine List.pairwise_append.mpr ⟨hpw.1, List.pairwise_singleton _ _, fun a ha b hb => ?_⟩
    rw [List.mem_singleton] at hb
    subst hb
    exact hpw.2.2 a ha x (List.mem_singleton.mpr rfl)
  · have m := h.mem t
    rw [inRuns_append, inRuns_one] at m
    rw [inRuns_append, inRuns_one, inRuns_append, inRuns_one, merge_mem gx gy e lo g, ← m]
    constructor
    · rintro (q | q | q)
      · exact .inl (.inl q)
      · exact .inl (.inr q)
      · exact .inr q
    · rintro ((q | q) | q)
      · exact .inl q
      · exact .inr (.inl q)
      · exact .inr (.inr q)
/-- .. or comes behind a gap -/
theorem Grow.next {found done : List Run} {y : Run} (h : Grow p r found done) (gy : Good p y) (ey : y.r = r) (g : ∀ x pre, found = pre ++ [x] → goesOn p x y = false) : Grow p r (found ++ [y]) (done ++ [y]) := by
  refine ⟨fun z hz => ?_, ?_, fun t => ?_⟩
  · rcases List.mem_append.mp hz with hz | hz
    · exact h.good z hz
    · rw [List.mem_singleton] at hz
      subst hz
      exact ⟨gy, ey⟩
  · refine List.pairwise_append.mpr ⟨h.pw, List.pairwise_singleton _ _, fun a ha b hb => ?_⟩
    rw [List.mem_singleton] at hb
    subst hb
    rcases List.eq_nil_or_concat found with e | ⟨pre, x, e⟩
    · rw [e] at ha
      cases ha
    · rw [List.concat_eq_append] at e
      have gf := g x pre e
      subst e
      obtain ⟨gx, ex⟩ := h.good x (List.mem_append_right _ (List.mem_singleton.mpr rfl))
      unfold goesOn at gf
      cases exh : x.hi with
      | none =>
        rw [exh] at gf
        cases gf
      | some hx =>
        cases eyl : b.lo with
        | none =>
          rw [exh, eyl] at gf
          cases gf
        | some l =>
          rw [exh, eyl] at gf
          have q : ¬ l ≤ hx + p := of_decide_eq_false gf
          have xb : Lt p x b := .inr ⟨by omega, hx, l, exh, eyl, by omega⟩
          rcases List.mem_append.mp ha with ha | ha
          · have ax := (List.pairwise_append.mp h.pw).2.2 a ha x (List.mem_singleton.mpr rfl)
            obtain ⟨ga, ea⟩ := h.good a (List.mem_append_left _ ha)
            rcases ax with z | ⟨_, h1, l1, e1, e2, z⟩
            · omega
            · have := gx.le l1 hx e2 exh
              have hp : 0 < p := by have := gx.r0; have := gx.r1; omega
              exact .inr ⟨by omega, h1, l, e1, eyl, by omega⟩
          · rw [List.mem_singleton] at ha
            subst ha
            exact xb
  · rw [inRuns_append, inRuns_append, h.mem t]
/-- lists of runs of ascending residues, one behind the other -/
theorem canon_join : ∀ {ps : List (Int × List Run)}, (ps.map (·.1)).Pairwise (· < ·) → (∀ q ∈ ps, Canon p q.2 ∧ ∀ z ∈ q.2, z.r = q.1) → Canon p (ps.flatMap (·.2))
  | [], _, _ => ⟨(fun _ h => nomatch h), List.Pairwise.nil⟩
  | q :: ps, h, c => by
    rw [List.map_cons, List.pairwise_cons] at h
    have ih := canon_join h.2 fun q' hq => c q' (List.mem_cons_of_mem _ hq)
    obtain ⟨cq, rq⟩ := c q List.mem_cons_self
    rw [List.flatMap_cons]
    refine ⟨fun z hz => ?_, List.pairwise_append.mpr ⟨cq.pw, ih.pw, fun a ha b hb => ?_⟩⟩
    · rcases List.mem_append.mp hz with hz | hz
      · exact cq.good z hz
      · exact ih.good z hz
    · obtain ⟨q', hq', hb⟩ := List.mem_flatMap.mp hb
      have e1 := rq a ha
      have e2 := (c q' (List.mem_cons_of_mem _ hq')).2 b hb
      have := h.1 q'.1 (List.mem_map_of_mem hq')
      exact .inl (by omega)
theorem Grow.canon {found done : List Run} (h : Grow p r found done) : Canon p found := ⟨fun z hz => (h.good z hz).1, h.pw⟩
/-! ### the runs of spans -/
def residues (p : Int) (s : Sp3) : List Int := match s.res with
  | none => (List.range p.toNat).map fun (i : Nat) => (i : Int)
  | some r => [r]
def foundOf (p : Int) (s : Sp3) : List Run := (residues p s).filterMap fun one => runOf p one s.lo s.hi
/-- a span by p -/
def SpOk (p : Int) (s : Sp3) : Prop := ∀ r, s.res = some r → 0 ≤ r ∧ r < p
theorem residues_ok (hp : 0 < p) {s : Sp3} (h : SpOk p s) : ∀ one ∈ residues p s, 0 ≤ one ∧ one < p := by
  intro one h1
  unfold residues at h1
  cases e : s.res with
  | none =>
    rw [e] at h1
    obtain ⟨i, hi, rfl⟩ := List.mem_map.mp h1
    have := List.mem_range.mp hi
    omega
  | some r' =>
    rw [e] at h1
    rw [List.mem_singleton] at h1
    subst h1
    exact h _ e
theorem foundOf_good (hp : 0 < p) {s : Sp3} (h : SpOk p s) : ∀ z ∈ foundOf p s, Good p z := by
  intro z hz
  obtain ⟨one, h1, h2⟩ := List.mem_filterMap.mp hz
  obtain ⟨o0, o1⟩ := residues_ok hp h one h1
  exact (runOf_some o0 o1 h2).1
theorem foundOf_mem (hp : 0 < p) {s : Sp3} (h : SpOk p s) (t : Int) : inRuns p (foundOf p s) t ↔ inSpan p s t := by
  constructor
  · rintro ⟨z, hz, m⟩
    obtain ⟨one, h1, h2⟩ := List.mem_filterMap.mp hz
    obtain ⟨o0, o1⟩ := residues_ok hp h one h1
    have m' := ((runOf_some o0 o1 h2).2.2 t).mp m
    refine ⟨fun r' er => ?_, m'.2.1, m'.2.2⟩
    unfold residues at h1
    rw [er] at h1
    rw [List.mem_singleton] at h1
    rw [m'.1, h1]
  · rintro ⟨m1, m2, m3⟩
    have key : t % p ∈ residues p s := by
      unfold residues
      cases e : s.res with
      | none =>
        have h0 := Int.emod_nonneg t (Int.ne_of_gt hp)
        have h1 := Int.emod_lt_of_pos t hp
        exact List.mem_map.mpr ⟨(t % p).toNat, List.mem_range.mpr (by omega), by omega⟩
      | some r' => exact List.mem_singleton.mpr (m1 r' e)
    obtain ⟨o0, o1⟩ := residues_ok hp h _ key
    cases e : runOf p (t % p) s.lo s.hi with
    | none => exact (runOf_none o0 o1 e t ⟨rfl, m2, m3⟩).elim
    | some x => exact ⟨x, List.mem_filterMap.mpr ⟨_, key, e⟩, ((runOf_some o0 o1 e).2.2 t).mpr ⟨rfl, m2, m3⟩⟩
theorem found_all (hp : 0 < p) {ss : List Sp3} (h : ∀ s ∈ ss, SpOk p s) : (∀ z ∈ ss.flatMap (foundOf p), Good p z) ∧ ∀ t, inRuns p (ss.flatMap (foundOf p)) t ↔ inSpans p ss t := by
  refine ⟨fun z hz => ?_, fun t => ?_⟩
  · obtain ⟨s, hs, hz⟩ := List.mem_flatMap.mp hz
    exact foundOf_good hp (h s hs) z hz
  · constructor
    · rintro ⟨z, hz, m⟩
      obtain ⟨s, hs, hz⟩ := List.mem_flatMap.mp hz
      exact ⟨s, hs, (foundOf_mem hp (h s hs) t).mp ⟨z, hz, m⟩⟩
    · rintro ⟨s, hs, m⟩
      obtain ⟨z, hz, m⟩ := (foundOf_mem hp (h s hs) t).mpr m
      exact ⟨z, List.mem_flatMap.mpr ⟨s, hs, hz⟩, m⟩
end
end Rn
end

section
set_option maxHeartbeats 4000000
namespace EW
open PySem PySem.Spec PyProof.Rows L2
/-! ### spans and runs as values -/
def ob : Option Int → V
  | none => .non
  | some i => .int i
/-- a tuple of these -/
def Tp (K : W.Frag) (H : Hp) (v : V) (xs : List V) : Prop := ∃ a, v = .ref a ∧ SqT K H a xs
abbrev Sn (K : W.Frag) (H : Hp) (v : V) (s : Rn.Sp3) : Prop := Tp K H v [ob s.res, ob s.lo, ob s.hi]
abbrev Sns (K : W.Frag) (H : Hp) (vs : List V) (ss : List Rn.Sp3) : Prop := Paired (Sn K H) vs ss
abbrev Rns (K : W.Frag) (H : Hp) (vs : List V) (zs : List Rn.Run) : Prop := Paired (fun v z => Sn K H v z.span) vs zs
section
variable {K : W.Frag} {H H' : Hp} {v : V} {xs vs : List V} {a l : Addr}
theorem Tp.of (h : H a = some (.tup xs)) : Tp K H (.ref a) xs := ⟨a, rfl, SqT.of h⟩
theorem SqT.stay (h : SqT K H a xs) (t : ∀ b ys, H b = some (.tup ys) → H' b = some (.tup ys)) (f : ∀ b o u, H b = some (.frz o u) → H' b = some (.frz o u)) : SqT K H' a xs := by
  rcases h with (h | ⟨o, h⟩) | h
  · exact .inl (.inl (t _ _ h))
  · exact .inl (.inr ⟨o, f _ _ _ h⟩)
  · exact .inr h
theorem SqT.same (h : SqT K H a xs) (s : Same H H') : SqT K H' a xs := SqT.stay h (fun b ys e => s b _ e) fun b o u e => s b _ e
/-- all but lists stands -/
theorem SqT.kept {ys : List V} (h : SqT K H a xs) (hl : H l = some (.lst ys)) (k : Kept l H H') : SqT K H' a xs :=
  SqT.stay h (fun b zs e => k b _ (fun z => by rw [z, hl] at e; cases e) e) fun b o u e => k b _ (fun z => by rw [z, hl] at e; cases e) e
theorem Tp.same (h : Tp K H v xs) (s : Same H H') : Tp K H' v xs := let ⟨a, e, q⟩ := h; ⟨a, e, SqT.same q s⟩
theorem Tp.kept {ys : List V} (h : Tp K H v xs) (hl : H l = some (.lst ys)) (k : Kept l H H') : Tp K H' v xs := let ⟨a, e, q⟩ := h; ⟨a, e, SqT.kept q hl k⟩
theorem Sns.same {ss : List Rn.Sp3} (h : Sns K H vs ss) (s : Same H H') : Sns K H' vs ss := Paired.mono (fun _ _ q => Tp.same q s) h
theorem Sns.kept {ss : List Rn.Sp3} {ys : List V} (h : Sns K H vs ss) (hl : H l = some (.lst ys)) (k : Kept l H H') : Sns K H' vs ss := Paired.mono (fun _ _ q => Tp.kept q hl k) h
theorem Rns.same {zs : List Rn.Run} (h : Rns K H vs zs) (s : Same H H') : Rns K H' vs zs := Paired.mono (fun _ _ q => Tp.same q s) h
theorem Rns.kept {zs : List Rn.Run} {ys : List V} (h : Rns K H vs zs) (hl : H l = some (.lst ys)) (k : Kept l H H') : Rns K H' vs zs := Paired.mono (fun _ _ q => Tp.kept q hl k) h
theorem Rns.spans : ∀ {vs : List V} {zs : List Rn.Run}, Rns K H vs zs → Sns K H vs (zs.map Rn.Run.span)
  | _, _, .nil => .nil
  | _, _, .cons h t => .cons h (Rns.spans t)
theorem pr_append {α β : Type} {F : α → β → Prop} : ∀ {a c : List α} {b d : List β}, Paired F a b → Paired F c d → Paired F (a ++ c) (b ++ d)
  | _, _, _, _, .nil, r => r
  | _, _, _, _, .cons h t, r => .cons h (pr_append t r)
theorem pr_get {α β : Type} {F : α → β → Prop} : ∀ {a : List α} {b : List β} {i : Nat} {x : α}, Paired F a b → a[i]? = some x → ∃ y, b[i]? = some y ∧ F x y
  | _, _, _, _, .nil, e => by simp at e
  | _, _, 0, _, .cons h t, e => by
    simp at e
    subst e
    exact ⟨_, rfl, h⟩
  | _, _, i + 1, x, .cons h t, e => by
    obtain ⟨y, h1, h2⟩ := pr_get (i := i) (x := x) t (by simpa using e)
    exact ⟨y, by simpa using h1, h2⟩
theorem pr_take {α β : Type} {F : α → β → Prop} : ∀ {a : List α} {b : List β} (i : Nat), Paired F a b → Paired F (a.take i) (b.take i)
  | _, _, 0, _ => by
    rw [List.take_zero, List.take_zero]
    exact .nil
  | _, _, _ + 1, .nil => by
    rw [List.take_nil, List.take_nil]
    exact .nil
  | _, _, i + 1, .cons h t => by
    rw [List.take_succ_cons, List.take_succ_cons]
    exact .cons h (pr_take i t)
/-- a list or a tuple -/
def Sq (K : W.Frag) (H : Hp) (a : Addr) (xs : List V) : Prop := SqL K H a xs ∨ SqT K H a xs
theorem Sq.same (h : Sq K H a xs) (s : Same H H') : Sq K H' a xs := h.elim (fun h => .inl (s.seq h)) fun h => .inr (SqT.same h s)
end
/-! ### readings by either of two rules -/
section
variable {X : Cx} {K : W.Frag}
def iSeq (K : W.Frag) (tl : TE) : TI := fun σ H R => iList K tl σ H R ∨ iTup K tl σ H R
theorem pi_seq {tg l : Expr} {tl : TE} (hl : PE X l tl) : PI X tg l (iSeq X.K tl) := ⟨fun pins s σ H R I h => h.elim ((pi_list hl).run pins s σ H R I) ((pi_tup hl).run pins s σ H R I)⟩
theorem pi_seqK (h : X.K = K) {tg l : Expr} {tl : TE} (hl : PE X l tl) : PI X tg l (iSeq K tl) := by
  subst h
  exact pi_seq hl
theorem pi_listK (h : X.K = K) {tg l : Expr} {tl : TE} (hl : PE X l tl) : PI X tg l (iList K tl) := by
  subst h
  exact pi_list hl
theorem pi_tupK (h : X.K = K) {tg l : Expr} {tl : TE} (hl : PE X l tl) : PI X tg l (iTup K tl) := by
  subst h
  exact pi_tup hl
theorem call_isiE (K : W.Frag) (h : X.K = K) : CallR X (.builtin "isinstance") (rIsi K) := by
  subst h
  exact call_isi
theorem ix_tupK (K : W.Frag) (h : X.K = K) : IxR X (rIxT K) := by
  subst h
  exact ix_tup
theorem cr_anyK (K : W.Frag) (h : X.K = K) (hc : X.calm = true) : CallR X (.builtin "any") (rAny K) := by
  subst h
  exact cr_any hc
theorem cr_allK (K : W.Frag) (h : X.K = K) (hc : X.calm = true) : CallR X (.builtin "all") (rAll K) := by
  subst h
  exact cr_all hc
/-- tuple(l), sealed -/
theorem call_tupS (K : W.Frag) (h : X.K = K) : CallR X (.type "tuple") (fun xs H Q => ∃ p ys, xs = [.ref p] ∧ SqL K H p ys ∧ New H (fun _ => .tup ys) Q) := by
  subst h
  intro pins s σ H xs us Q I r h
  obtain ⟨p, ys, e, hq, q⟩ := h
  exact call_tuple_of pins s σ H xs us Q I r ⟨p, ys, e, .inl ⟨hq, fun l hl => q.at hl⟩⟩
end
theorem boot_any : bootBuiltins "any" = some (.builtin "any") := by decide +kernel
theorem boot_all : bootBuiltins "all" = some (.builtin "all") := by decide +kernel
theorem boot_sorted : bootBuiltins "sorted" = some (.builtin "sorted") := by decide +kernel
theorem boot_bool : bootBuiltins "bool" = some (.type "bool") := by decide +kernel
theorem boot_tuple : bootBuiltins "tuple" = some (.type "tuple") := by decide +kernel
theorem boot_set : bootBuiltins "set" = some (.type "set") := by decide +kernel
end EW
end

section
set_option maxHeartbeats 4000000
namespace TM
open PySem PySem.Spec PyProof.Rows L2 EW
abbrev FnP (K : W.Frag) (x : Str) (st : Stmt) (fd : FuncData) : Prop := FunD K x x (defArgs st) (defBody st) (defScope st) [] [] (He.ga K x) fd
/-- names of the built-ins that the module doesn't bind -/
structure Fre (mg : Str → Option Value) : Prop where
  len : mg "len" = none
  int : mg "int" = none
  bool : mg "bool" = none
  tuple : mg "tuple" = none
  list : mg "list" = none
  set : mg "set" = none
  abs : mg "abs" = none
  max : mg "max" = none
  min : mg "min" = none
  range : mg "range" = none
  any : mg "any" = none
  all : mg "all" = none
  sorted : mg "sorted" = none
  isinstance : mg "isinstance" = none
/-- the greatest period, under its two names -/
structure Per (mg : Str → Option Value) : Prop where
  shapes : ∃ t, mg "MAX_PERIOD_shapes" = some (.int 400 t)
abbrev NIsInt : List Str := ["value"]
theorem IsInt : FnScope NIsInt ["value"] (defScope sIsInt) := ⟨rfl, rfl, rfl, by decide +kernel, rfl, by decide +kernel, by decide +kernel⟩
abbrev NBetween : List Str := ["value", "least", "most"]
theorem Between : FnScope NBetween ["value", "least", "most"] (defScope sBetween) := ⟨rfl, rfl, rfl, by decide +kernel, rfl, by decide +kernel, by decide +kernel⟩
abbrev NIsBound : List Str := ["value"]
theorem IsBound : FnScope NIsBound ["value"] (defScope sIsBound) := ⟨rfl, rfl, rfl, by decide +kernel, rfl, by decide +kernel, by decide +kernel⟩
abbrev NReqP : List Str := ["period"]
theorem ReqP : FnScope NReqP ["period"] (defScope sReqP) := ⟨rfl, rfl, rfl, by decide +kernel, rfl, by decide +kernel, by decide +kernel⟩
abbrev NIsSpan : List Str := ["period", "value"]
theorem IsSpan : FnScope NIsSpan ["period", "value"] (defScope sIsSpan) := ⟨rfl, rfl, rfl, by decide +kernel, rfl, by decide +kernel, by decide +kernel⟩
abbrev NGreater : List Str := ["one", "other"]
theorem Greater : FnScope NGreater ["one", "other"] (defScope sGreater) := ⟨rfl, rfl, rfl, by decide +kernel, rfl, by decide +kernel, by decide +kernel⟩
abbrev NLesser : List Str := ["one", "other"]
theorem Lesser : FnScope NLesser ["one", "other"] (defScope sLesser) := ⟨rfl, rfl, rfl, by decide +kernel, rfl, by decide +kernel, by decide +kernel⟩
abbrev NRounded : List Str := ["period", "residue", "pair", "least", "most"]
theorem Rounded : FnScope NRounded ["period", "residue", "pair"] (defScope sRounded) := ⟨rfl, rfl, rfl, by decide +kernel, rfl, by decide +kernel, by decide +kernel⟩
abbrev NEmptyP : List Str := ["pair"]
theorem EmptyP : FnScope NEmptyP ["pair"] (defScope sEmptyP) := ⟨rfl, rfl, rfl, by decide +kernel, rfl, by decide +kernel, by decide +kernel⟩
abbrev NRunOf : List Str := ["period", "residue", "least", "most", "pair"]
theorem RunOf : FnScope NRunOf ["period", "residue", "least", "most"] (defScope sRunOf) := ⟨rfl, rfl, rfl, by decide +kernel, rfl, by decide +kernel, by decide +kernel⟩
abbrev NRunKey : List Str := ["run"]
theorem RunKey : FnScope NRunKey ["run"] (defScope sRunKey) := ⟨rfl, rfl, rfl, by decide +kernel, rfl, by decide +kernel, by decide +kernel⟩
abbrev NGoesOn : List Str := ["period", "run", "other"]
theorem GoesOn : FnScope NGoesOn ["period", "run", "other"] (defScope sGoesOn) := ⟨rfl, rfl, rfl, by decide +kernel, rfl, by decide +kernel, by decide +kernel⟩
def spIsInt (K : W.Frag) : Sp := fun vs H Q _ => ∃ (v : V) (t : Value) (b c : Bool), vs = [v] ∧ TyX K H v t ∧ W.kitOne K t (.type "int") = some b ∧ (b = true → W.kitOne K t (.type "bool") = some c) ∧ Q (.bl (b && !c)) H
theorem kb1 : kitB "int" "int" = some true := by decide +kernel
theorem kb2 : kitB "int" "bool" = some false := by decide +kernel
theorem kb3 : kitB "NoneType" "int" = some false := by decide +kernel
theorem kb4 : kitB "tuple" "tuple" = some true := by decide +kernel
theorem isInt_int {K : W.Frag} {H : Hp} {Q : VK} (i : Int) (h : Q (.bl true) H) : spIsInt K [.int i] H Q E0 := ⟨_, _, true, false, rfl, .base (.int i), kit_ty kb1, fun _ => kit_ty kb2, h⟩
theorem isInt_non {K : W.Frag} {H : Hp} {Q : VK} (h : Q (.bl false) H) : spIsInt K [.non] H Q E0 := ⟨_, _, false, false, rfl, .base .non, kit_ty kb3, (fun z => nomatch z), h⟩
def spBetween : Sp := fun vs H Q _ => ∃ v l m : Int, vs = [.int v, .int l, .int m] ∧ Q (.bl (decide (l ≤ v) && decide (v ≤ m))) H
def spBound : Sp := fun vs H Q _ => ∃ o : Option Int, vs = [ob o] ∧ Q (.bl true) H
def spReqP : Sp := fun vs H Q _ => ∃ p : Int, vs = [.int p] ∧ 1 ≤ p ∧ p ≤ 400 ∧ Q .non H
section
variable {P : Program} {w : World} {K : W.Frag} {mg : Str → Option Value} {base : Heap}
theorem ok_isInt {fd : FuncData} (F : FnP K "is_integer" sIsInt fd) (T : Fre mg) : FnOk P w K mg base CX0 1 (He.ga K "is_integer") fd ["value"] (spIsInt K) := by
  refine F.ok IsInt (fun vs H Q E h => ?_) (fun cdv A outer s H vs Q E hr h => ?_)
  · obtain ⟨v, t, b, c, rfl, _⟩ := h
    rfl
  · obtain ⟨v, t, b, c, rfl, ty, hb, hc, k⟩ := h
    refine ⟨_, PSs.nox (pss_one (ps_ret (pe_and (pe_callB (call_isiE K rfl) (by rfl) T.isinstance EW.boot_isinstance (pa_cons (pv 0) (pa_cons (pe_bltn (v := .ty "int") rfl T.int EW.boot_int rfl) pa_nil))) (pe_one (pe_not (pe_callB (call_isiE K rfl) (by rfl) T.isinstance EW.boot_isinstance (pa_cons (pv 0) (pa_cons (pe_bltn (v := .ty "bool") rfl T.bool EW.boot_bool rfl) pa_nil)))))))), ?_⟩
    refine ⟨_, rfl, v, _, t, _, b, rfl, .ty "int", ty, hb, b, rfl, ?_⟩
    cases b with
    | false => exact iteF k
    | true => exact iteT ⟨_, rfl, v, _, t, _, c, rfl, .ty "bool", ty, hc rfl, c, rfl, k⟩
theorem ok_between {fd : FuncData} (F : FnP K "is_between" sBetween fd) (Dis_integer : Df P w K mg base 1 "is_integer" ["value"] (spIsInt K)) : FnOk P w K mg base CX0 2 (He.ga K "is_between") fd ["value", "least", "most"] spBetween := by
  refine F.ok Between (fun vs H Q E h => ?_) (fun cdv A outer s H vs Q E hr h => ?_)
  · obtain ⟨v, l, m, rfl, _⟩ := h
    rfl
  · obtain ⟨v, l, m, rfl, k⟩ := h
    refine ⟨_, PSs.nox (pss_one (ps_ret (pe_and (pe_df Dis_integer (hr.mono (by decide)) rfl (pa_cons (pv 0) pa_nil)) (pe_one (pe_chain op_le op_le (pv 1) (pv 0) (pv 2)))))), ?_⟩
    refine ⟨_, rfl, _, _, true, false, rfl, .base (.int v), kit_ty kb1, (fun _ => kit_ty kb2), _, rfl, iteT ?_⟩
    refine ⟨_, rfl, _, rfl, _, _, rfl, rfl, _, rfl, ?_⟩
    by_cases c : l ≤ v
    · rw [decide_eq_true c] at k ⊢
      exact iteT ⟨_, rfl, _, _, rfl, rfl, k⟩
    · rw [decide_eq_false c] at k ⊢
      exact iteF k
theorem ok_bound {fd : FuncData} (F : FnP K "is_bound" sIsBound fd) (Dis_integer : Df P w K mg base 1 "is_integer" ["value"] (spIsInt K)) : FnOk P w K mg base CX0 2 (He.ga K "is_bound") fd ["value"] spBound := by
  refine F.ok IsBound (fun vs H Q E h => ?_) (fun cdv A outer s H vs Q E hr h => ?_)
  · obtain ⟨o, rfl, _⟩ := h
    rfl
  · obtain ⟨o, rfl, k⟩ := h
    refine ⟨_, PSs.nox (pss_one (ps_ret (pe_or (pe_cmp (pc_isN (pv 0))) (pe_one (pe_df Dis_integer (hr.mono (by decide)) rfl (pa_cons (pv 0) pa_nil)))))), ?_⟩
    cases o with
    | none => exact ⟨_, rfl, _, rfl, iteT k⟩
    | some i => exact ⟨_, rfl, _, rfl, iteF ⟨_, rfl, _, _, true, false, rfl, .base (.int i), kit_ty kb1, (fun _ => kit_ty kb2), k⟩⟩
theorem ok_reqP {fd : FuncData} (F : FnP K "require_period" sReqP fd) (GP : Per mg) (Dis_between : Df P w K mg base 2 "is_between" ["value", "least", "most"] spBetween) : FnOk P w K mg base CX0 3 (He.ga K "require_period") fd ["period"] spReqP := by
  refine F.ok ReqP (fun vs H Q E h => ?_) (fun cdv A outer s H vs Q E hr h => ?_)
  · obtain ⟨p, rfl, _⟩ := h
    rfl
  · obtain ⟨p, rfl, p1, p2, k⟩ := h
    obtain ⟨tk, gs⟩ := GP.shapes
    refine ⟨_, PSs.nox (pss_one (ps_if (pt_not (pt_val (pe_df Dis_between (hr.mono (by decide)) rfl (pa_cons (pv 0) (pa_cons pe_int (pa_cons (pe_glob (v := .int 400) rfl gs ⟨tk, rfl⟩) pa_nil)))))) (pss_one ps_never) pss_nil)), ?_⟩
    refine ⟨_, rfl, p, 1, 400, rfl, _, rfl, ?_⟩
    rw [decide_eq_true p1, decide_eq_true p2]
    exact iteF k
def spSpan (K : W.Frag) : Sp := fun vs H Q _ => ∃ (p : Int) (v : V) (s : Rn.Sp3), vs = [.int p, v] ∧ Sn K H v s ∧ Rn.SpOk p s ∧ Q (.bl true) H
theorem tyT {H : Hp} {a : Addr} {xs : List V} (h : SqT K H a xs) : TyX K H (.ref a) (.type "tuple") := by
  rcases h with (h | ⟨o, h⟩) | ⟨o, its, n, e, c, _⟩
  · exact .base (.tup h)
  · exact .fTuple h
  · exact .kTuple e c
theorem ok_span {fd : FuncData} (F : FnP K "is_span" sIsSpan fd) (T : Fre mg) (Dis_bound : Df P w K mg base 2 "is_bound" ["value"] spBound) (Dis_between : Df P w K mg base 2 "is_between" ["value", "least", "most"] spBetween) :
    FnOk P w K mg base CX0 3 (He.ga K "is_span") fd ["period", "value"] (spSpan K) := by
  refine F.ok IsSpan (fun vs H Q E h => ?_) (fun cdv A outer s H vs Q E hr h => ?_)
  · obtain ⟨p, v, s, rfl, _⟩ := h
    rfl
  · obtain ⟨p, v, s, rfl, ⟨a, rfl, hS⟩, ok, k⟩ := h
    refine ⟨_, PSs.nox (pss_cons (ps_if (PW.pt (pw_or (pt_not (pt_val (pe_callB (call_isiE K rfl) (by rfl) T.isinstance EW.boot_isinstance (pa_cons (pv 1) (pa_cons (pe_bltn (v := .ty "tuple") rfl T.tuple EW.boot_tuple rfl) pa_nil))))) (pw_or (pt_cmpR op_ne (pe_callB (call_lenK K rfl) (by rfl) T.len PySem.boot_len (pa_cons (pv 1) pa_nil)) pe_int (nomark _)) (pw_or (pt_not (pt_val (pe_df Dis_bound (hr.mono (by decide)) rfl (pa_cons (pe_ix (ix_tupK K rfl) (pv 1) pe_int (fun _ _ => rfl)) pa_nil)))) (pw_or1 (pt_not (pt_val (pe_df Dis_bound (hr.mono (by decide)) rfl (pa_cons (pe_ix (ix_tupK K rfl) (pv 1) pe_int (fun _ _ => rfl)) pa_nil))))))))) (pss_one (ps_ret pe_bl)) pss_nil)
      (pss_one (ps_ret (pe_or (pe_cmp (pc_isN (pe_ix (ix_tupK K rfl) (pv 1) pe_int (fun _ _ => rfl)))) (pe_one (pe_df Dis_between (hr.mono (by decide)) rfl (pa_cons (pe_ix (ix_tupK K rfl) (pv 1) pe_int (fun _ _ => rfl)) (pa_cons pe_int (pa_cons (pe_op op_sub (pv 0) pe_int) pa_nil))))))))), ?_⟩
    refine ⟨_, rfl, _, _, _, _, true, rfl, .ty "tuple", tyT hS, kit_ty kb4, _, rfl, iteF ?_⟩
    refine ⟨_, rfl, _, 3, rfl, ?_, rfl, _, rfl, iteF ?_⟩
    · exact Or.inr ⟨_, hS, rfl⟩
    refine ⟨_, rfl, a, _, _, _, rfl, rfl, hS, rfl, s.lo, rfl, _, rfl, iteF ?_⟩
    refine ⟨_, rfl, a, _, _, _, rfl, rfl, hS, rfl, s.hi, rfl, _, rfl, iteF ?_⟩
    refine ⟨_, rfl, a, _, _, _, rfl, rfl, hS, rfl, _, rfl, ?_⟩
    obtain ⟨r, lo, hi⟩ := s
    cases r with
    | none => exact iteT k
    | some r =>
      obtain ⟨r0, r1⟩ := ok r rfl
      refine iteF ⟨_, rfl, a, _, _, _, rfl, rfl, hS, rfl, _, rfl, _, _, rfl, rfl, r, 0, p - 1, rfl, ?_⟩
      rw [decide_eq_true r0, decide_eq_true (show r ≤ p - 1 by omega)]
      exact k
/-- the greater of two bounds from below, the lesser of two from above -/
def grt (a b : Option Int) : Option Int := match a, b with
  | none, b => b
  | some u, none => some u
  | some u, some v => some (if v > u then v else u)
def lst (a b : Option Int) : Option Int := match a, b with
  | none, b => b
  | some u, none => some u
  | some u, some v => some (if v < u then v else u)
def spTwo (f : Option Int → Option Int → Option Int) : Sp := fun vs H Q _ => ∃ a b : Option Int, vs = [ob a, ob b] ∧ Q (ob (f a b)) H
theorem ok_greater {fd : FuncData} (F : FnP K "greater_of" sGreater fd) (T : Fre mg) : FnOk P w K mg base CX0 1 (He.ga K "greater_of") fd ["one", "other"] (spTwo grt) := by
  refine F.ok Greater (fun vs H Q E h => ?_) (fun cdv A outer s H vs Q E hr h => ?_)
  · obtain ⟨a, b, rfl, _⟩ := h
    rfl
  · obtain ⟨a, b, rfl, k⟩ := h
    refine ⟨_, PSs.nox (pss_cons (ps_if (PW.pt (pw_or (pt_cmp (pc_isN (pv 0))) (pw_or1 (pt_cmp (pc_isN (pv 1)))))) (pss_one (ps_ret (pe_ifExp (pt_cmp (pc_isN (pv 0))) (pv 1) (pv 0)))) pss_nil)
      (pss_one (ps_ret (pe_callB (call_max2 rfl) (by rfl) T.max EW.boot_max (pa_cons (pv 0) (pa_cons (pv 1) pa_nil)))))), ?_⟩
    cases a with
    | none => exact ⟨_, rfl, _, rfl, iteT (iteT ⟨_, rfl, _, rfl, iteT ⟨_, rfl, k⟩⟩)⟩
    | some u =>
      cases b with
      | none => exact ⟨_, rfl, _, rfl, iteF ⟨_, rfl, _, rfl, iteT ⟨_, rfl, _, rfl, iteF ⟨_, rfl, k⟩⟩⟩⟩
      | some v => exact ⟨_, rfl, _, rfl, iteF ⟨_, rfl, _, rfl, iteF ⟨_, rfl, _, rfl, _, _, rfl, k⟩⟩⟩
theorem ok_lesser {fd : FuncData} (F : FnP K "lesser_of" sLesser fd) (T : Fre mg) : FnOk P w K mg base CX0 1 (He.ga K "lesser_of") fd ["one", "other"] (spTwo lst) := by
  refine F.ok Lesser (fun vs H Q E h => ?_) (fun cdv A outer s H vs Q E hr h => ?_)
  · obtain ⟨a, b, rfl, _⟩ := h
    rfl
  · obtain ⟨a, b, rfl, k⟩ := h
    refine ⟨_, PSs.nox (pss_cons (ps_if (PW.pt (pw_or (pt_cmp (pc_isN (pv 0))) (pw_or1 (pt_cmp (pc_isN (pv 1)))))) (pss_one (ps_ret (pe_ifExp (pt_cmp (pc_isN (pv 0))) (pv 1) (pv 0)))) pss_nil)
      (pss_one (ps_ret (pe_callB (call_min2 rfl) (by rfl) T.min EW.boot_min (pa_cons (pv 0) (pa_cons (pv 1) pa_nil)))))), ?_⟩
    cases a with
    | none => exact ⟨_, rfl, _, rfl, iteT (iteT ⟨_, rfl, _, rfl, iteT ⟨_, rfl, k⟩⟩)⟩
    | some u =>
      cases b with
      | none => exact ⟨_, rfl, _, rfl, iteF ⟨_, rfl, _, rfl, iteT ⟨_, rfl, _, rfl, iteF ⟨_, rfl, k⟩⟩⟩⟩
      | some v => exact ⟨_, rfl, _, rfl, iteF ⟨_, rfl, _, rfl, iteF ⟨_, rfl, _, rfl, _, _, rfl, k⟩⟩⟩
def spRounded (K : W.Frag) : Sp := fun vs H Q _ => ∃ (p r : Int) (v : V) (lo hi : Option Int), vs = [.int p, .int r, v] ∧ 0 < p ∧ Tp K H v [ob lo, ob hi] ∧ New H (fun _ => .tup [ob (lo.map (Rn.upTo p r)), ob (hi.map (Rn.downTo p r))]) Q
theorem ok_rounded {fd : FuncData} (F : FnP K "rounded" sRounded fd) (T : Fre mg) : FnOk P w K mg base CX0 1 (He.ga K "rounded") fd ["period", "residue", "pair"] (spRounded K) := by
  refine F.ok Rounded (fun vs H Q E h => ?_) (fun cdv A outer s H vs Q E hr h => ?_)
  · obtain ⟨p, r, v, lo, hi, rfl, _⟩ := h
    rfl
  · obtain ⟨p, r, v, lo, hi, rfl, hp, ⟨a, rfl, hS⟩, k⟩ := h
    refine ⟨_, PSs.nox (pss_cons (ps_asg (pv 2) (pg_tup rfl (pgs_cons (pg_name (i := 3) Rounded.nd rfl (Or.inl rfl)) (pgs_cons (pg_name (i := 4) Rounded.nd rfl (Or.inl rfl)) pgs_nil))))
      (pss_cons (ps_if (pt_cmp (pc_isN (pv 1))) (pss_one (ps_ret (pv 2))) pss_nil)
      (pss_cons (ps_if (pt_cmp (pc_notN (pv 3))) (pss_one (ps_set (i := 3) Rounded.nd rfl (Or.inl rfl) (pe_op op_add (pv 3) (pe_op op_mod (pe_callTy call_int1 (by rfl) T.int EW.boot_int (pa_cons (pe_op op_sub (pv 1) (pv 3)) pa_nil)) (pv 0))))) pss_nil)
      (pss_cons (ps_if (pt_cmp (pc_notN (pv 4))) (pss_one (ps_set (i := 4) Rounded.nd rfl (Or.inl rfl) (pe_op op_sub (pv 4) (pe_op op_mod (pe_callTy call_int1 (by rfl) T.int EW.boot_int (pa_cons (pe_op op_sub (pv 4) (pv 1)) pa_nil)) (pv 0))))) pss_nil)
      (pss_one (ps_ret (pe_tupS (pa_cons (pv 3) (pa_cons (pv 4) pa_nil))))))))), ?_⟩
    refine ⟨_, rfl, a, _, rfl, hS, rfl, _, _, rfl, _, _, rfl, rfl, _, rfl, _, rfl, iteF ?_⟩
    cases lo with
    | none =>
      refine ⟨_, rfl, _, rfl, iteF ?_⟩
      cases hi with
      | none => exact ⟨_, rfl, _, rfl, iteF ⟨_, rfl, _, rfl, (by show 2 ≤ sizeLine; decide), k⟩⟩
      | some m => exact ⟨_, rfl, _, rfl, iteT ⟨_, rfl, _, rfl, _, rfl, _, _, rfl, rfl, Or.inl ⟨_, rfl, _, rfl, _, _, rfl, rfl, hp, _, _, rfl, rfl, _, rfl, _, rfl, (by show 2 ≤ sizeLine; decide), k⟩⟩⟩
    | some l =>
      refine ⟨_, rfl, _, rfl, iteT ⟨_, rfl, _, rfl, _, rfl, _, _, rfl, rfl, Or.inl ⟨_, rfl, _, rfl, _, _, rfl, rfl, hp, _, _, rfl, rfl, ?_⟩⟩⟩
      cases hi with
      | none => exact ⟨_, rfl, _, rfl, iteF ⟨_, rfl, _, rfl, (by show 2 ≤ sizeLine; decide), k⟩⟩
      | some m => exact ⟨_, rfl, _, rfl, iteT ⟨_, rfl, _, rfl, _, rfl, _, _, rfl, rfl, Or.inl ⟨_, rfl, _, rfl, _, _, rfl, rfl, hp, _, _, rfl, rfl, _, rfl, _, rfl, (by show 2 ≤ sizeLine; decide), k⟩⟩⟩
end
end TM
end

section
set_option maxHeartbeats 4000000
namespace TM
open PySem PySem.Spec PyProof.Rows L2 EW
section
variable {P : Program} {w : World} {K : W.Frag} {mg : Str → Option Value} {base : Heap}
def emptyP (lo hi : Option Int) : Bool := match lo, hi with
  | some l, some m => decide (l > m)
  | _, _ => false
def spEmptyP (K : W.Frag) : Sp := fun vs H Q _ => ∃ (v : V) (lo hi : Option Int), vs = [v] ∧ Tp K H v [ob lo, ob hi] ∧ Q (.bl (emptyP lo hi)) H
theorem ok_emptyP {fd : FuncData} (F : FnP K "is_empty_pair" sEmptyP fd) : FnOk P w K mg base CX0 1 (He.ga K "is_empty_pair") fd ["pair"] (spEmptyP K) := by
  refine F.ok EmptyP (fun vs H Q E h => ?_) (fun cdv A outer s H vs Q E hr h => ?_)
  · obtain ⟨v, lo, hi, rfl, _⟩ := h
    rfl
  · obtain ⟨v, lo, hi, rfl, ⟨a, rfl, hS⟩, k⟩ := h
    refine ⟨_, PSs.nox (pss_one (ps_ret (pe_and (pe_cmp (pc_notN (pe_ix (ix_tupK K rfl) (pv 0) pe_int (fun _ _ => rfl)))) (pe_and (pe_cmp (pc_notN (pe_ix (ix_tupK K rfl) (pv 0) pe_int (fun _ _ => rfl)))) (pe_one (pe_cmpR op_gt (pe_ix (ix_tupK K rfl) (pv 0) pe_int (fun _ _ => rfl)) (pe_ix (ix_tupK K rfl) (pv 0) pe_int (fun _ _ => rfl)) (nomark _))))))), ?_⟩
    refine ⟨_, rfl, a, _, _, _, rfl, rfl, hS, rfl, _, rfl, ?_⟩
    cases lo with
    | none => exact iteF k
    | some l =>
      refine iteT ⟨_, rfl, a, _, _, _, rfl, rfl, hS, rfl, _, rfl, ?_⟩
      cases hi with
      | none => exact iteF k
      | some m => exact iteT ⟨_, rfl, a, _, _, _, rfl, rfl, hS, rfl, _, rfl, a, _, _, _, rfl, rfl, hS, rfl, _, _, rfl, rfl, k⟩
/-- a run, new, or None -/
def NewRun (H : Hp) (z : Option Rn.Run) (Q : VK) : Prop := match z with
  | none => ∀ H', Same H H' → Q .non H'
  | some x => ∀ (q : Addr) (H' : Hp), H q = none → Same H H' → H' q = some (.tup [.int x.r, ob x.lo, ob x.hi]) → Q (.ref q) H'
def spRunOf : Sp := fun vs H Q _ => ∃ (p r : Int) (lo hi : Option Int), vs = [.int p, .int r, ob lo, ob hi] ∧ 0 < p ∧ NewRun H (Rn.runOf p r lo hi) Q
theorem runOf_empty {p r : Int} {lo hi : Option Int} : Rn.runOf p r lo hi = if emptyP (lo.map (Rn.upTo p r)) (hi.map (Rn.downTo p r)) = true then none else some ⟨r, lo.map (Rn.upTo p r), hi.map (Rn.downTo p r)⟩ := by
  unfold Rn.runOf emptyP
  cases lo with
  | none => rfl
  | some l =>
    cases hi with
    | none => rfl
    | some m =>
      show (if _ > _ then _ else _) = (if decide (_ > _) = true then _ else _)
      simp only [decide_eq_true_eq]
      rfl
theorem ok_runOf {fd : FuncData} (F : FnP K "run_of" sRunOf fd) (Drounded : Df P w K mg base 1 "rounded" ["period", "residue", "pair"] (spRounded K)) (Dis_empty_pair : Df P w K mg base 1 "is_empty_pair" ["pair"] (spEmptyP K)) :
    FnOk P w K mg base CX0 2 (He.ga K "run_of") fd ["period", "residue", "least", "most"] spRunOf := by
  refine F.ok RunOf (fun vs H Q E h => ?_) (fun cdv A outer s H vs Q E hr h => ?_)
  · obtain ⟨p, r, lo, hi, rfl, _⟩ := h
    rfl
  · obtain ⟨p, r, lo, hi, rfl, hp, k⟩ := h
    refine ⟨_, PSs.nox (pss_cons (ps_set (i := 4) RunOf.nd rfl (Or.inl rfl) (pe_df Drounded (hr.mono (by decide)) rfl (pa_cons (pv 0) (pa_cons (pv 1) (pa_cons (pe_tupS (pa_cons (pv 2) (pa_cons (pv 3) pa_nil))) pa_nil)))))
      (pss_one (ps_ret (pe_ifExp (pt_val (pe_df Dis_empty_pair (hr.mono (by decide)) rfl (pa_cons (pv 4) pa_nil))) pe_non (pe_tupS (pa_cons (pv 1) (StX.pa_star (pv 4) pa_nil))))))), ?_⟩
    refine ⟨_, rfl, _, rfl, _, rfl, _, rfl, (by show 2 ≤ sizeLine; decide), fun q1 H1 n1 s1 e1 => ?_⟩
    refine ⟨p, r, _, lo, hi, rfl, hp, Tp.of e1, fun q2 H2 n2 s2 e2 => ?_⟩
    refine ⟨_, rfl, _, _, _, rfl, Tp.of e2, _, rfl, ?_⟩
    rw [runOf_empty] at k
    cases c : emptyP (lo.map (Rn.upTo p r)) (hi.map (Rn.downTo p r)) with
    | true =>
      rw [c, if_pos rfl] at k
      exact iteT (k H2 (Same.trans s1 s2))
    | false =>
      rw [c, if_neg (by decide)] at k
      refine iteF ⟨_, rfl, _, rfl, q2, _, rfl, .inl (SqT.of e2), (by show 3 ≤ sizeLine; decide), fun q3 H3 n3 s3 e3 => ?_⟩
      have s4 := Same.trans s1 s2
      exact k q3 H3 (s4.free n3) (Same.trans s4 s3) e3
/-- the key of a run -/
def keyOf (lo : Option Int) : Int × Int := match lo with
  | none => (0, 0)
  | some l => (1, l)
def KeyR (K : W.Frag) (H : Hp) (v : V) (pr : Int × Int) : Prop := ∃ z : Rn.Run, Sn K H v z.span ∧ pr = keyOf z.lo
def spKey (K : W.Frag) : Sp := fun vs H Q _ => ∃ (v : V) (pr : Int × Int), vs = [v] ∧ KeyR K H v pr ∧ New H (fun _ => .tup [.int pr.1, .int pr.2]) Q
theorem ok_key {fd : FuncData} (F : FnP K "run_key" sRunKey fd) : FnOk P w K mg base CX0 1 (He.ga K "run_key") fd ["run"] (spKey K) := by
  refine F.ok RunKey (fun vs H Q E h => ?_) (fun cdv A outer s H vs Q E hr h => ?_)
  · obtain ⟨v, pr, rfl, _⟩ := h
    rfl
  · obtain ⟨v, pr, rfl, ⟨z, ⟨a, rfl, hS⟩, rfl⟩, k⟩ := h
    obtain ⟨r, lo, hi⟩ := z
    refine ⟨_, PSs.nox (pss_one (ps_ret (pe_ifExp (pt_cmp (pc_isN (pe_ix (ix_tupK K rfl) (pv 0) pe_int (fun _ _ => rfl)))) (pe_tupS (pa_cons pe_int (pa_cons pe_int pa_nil))) (pe_tupS (pa_cons pe_int (pa_cons (pe_ix (ix_tupK K rfl) (pv 0) pe_int (fun _ _ => rfl)) pa_nil)))))), ?_⟩
    refine ⟨_, rfl, a, _, _, _, rfl, rfl, hS, rfl, _, rfl, ?_⟩
    cases lo with
    | none => exact iteT ⟨(by show 2 ≤ sizeLine; decide), k⟩
    | some l => exact iteF ⟨_, rfl, a, _, _, _, rfl, rfl, hS, rfl, (by show 2 ≤ sizeLine; decide), k⟩
def spGoesOn (K : W.Frag) : Sp := fun vs H Q _ => ∃ (p : Int) (u v : V) (x y : Rn.Run), vs = [.int p, u, v] ∧ Sn K H u x.span ∧ Sn K H v y.span ∧ Q (.bl (Rn.goesOn p x y)) H
theorem ok_goesOn {fd : FuncData} (F : FnP K "goes_on" sGoesOn fd) : FnOk P w K mg base CX0 1 (He.ga K "goes_on") fd ["period", "run", "other"] (spGoesOn K) := by
  refine F.ok GoesOn (fun vs H Q E h => ?_) (fun cdv A outer s H vs Q E hr h => ?_)
  · obtain ⟨p, u, v, x, y, rfl, _⟩ := h
    rfl
  · obtain ⟨p, u, v, ⟨xr, xl, xh⟩, ⟨yr, yl, yh⟩, rfl, ⟨a, rfl, hA⟩, ⟨b, rfl, hB⟩, k⟩ := h
    refine ⟨_, PSs.nox (pss_one (ps_ret (pe_or (pe_cmp (pc_isN (pe_ix (ix_tupK K rfl) (pv 1) pe_int (fun _ _ => rfl)))) (pe_or (pe_cmp (pc_isN (pe_ix (ix_tupK K rfl) (pv 2) pe_int (fun _ _ => rfl)))) (pe_one (pe_cmpR op_le (pe_ix (ix_tupK K rfl) (pv 2) pe_int (fun _ _ => rfl)) (pe_op op_add (pe_ix (ix_tupK K rfl) (pv 1) pe_int (fun _ _ => rfl)) (pv 0)) (nomark _))))))), ?_⟩
    refine ⟨_, rfl, a, _, _, _, rfl, rfl, hA, rfl, _, rfl, ?_⟩
    cases xh with
    | none => exact iteT k
    | some h =>
      refine iteF ⟨_, rfl, b, _, _, _, rfl, rfl, hB, rfl, _, rfl, ?_⟩
      cases yl with
      | none => exact iteT k
      | some l => exact iteF ⟨_, rfl, b, _, _, _, rfl, rfl, hB, rfl, _, rfl, a, _, _, _, rfl, rfl, hA, rfl, _, rfl, _, _, rfl, rfl, _, _, rfl, rfl, k⟩
end
end TM
end

section
set_option maxHeartbeats 4000000
namespace EW
open PySem PySem.Spec PyProof.Rows L2
/-! ### runs as data -/
def od : Option Int → PyData
  | none => .none
  | some i => .int i
def runD (z : Rn.Run) : PyData := .tuple [.int z.r, od z.lo, od z.hi]
theorem od_dp {K : W.Frag} {H : Hp} (o : Option Int) : Dp K H (ob o) (od o) := by
  cases o with
  | none => exact .non
  | some i => exact .int i
theorem run_dp {K : W.Frag} {H : Hp} {v : V} {z : Rn.Run} (h : Sn K H v z.span) : Dp K H v (runD z) := by
  obtain ⟨a, rfl, q⟩ := h
  exact .tup q (.cons (.int z.r) (.cons (od_dp _) (.cons (od_dp _) .nil)))
theorem runs_dp {K : W.Frag} {H : Hp} : ∀ {vs : List V} {zs : List Rn.Run}, Rns K H vs zs → DpAll K H vs (zs.map runD)
  | _, _, .nil => .nil
  | _, _, .cons h t => .cons (run_dp h) (runs_dp t)
theorem od_lay (o : Option Int) : (od o).canLay0 = true := by cases o <;> rfl
theorem od_depth (o : Option Int) : (od o).depth = 0 := by cases o <;> simp [od, PyData.depth]
theorem run_lay (z : Rn.Run) : (runD z).canLay0 = true := by simp [runD, PyData.canLay0, PyData.canLayAll0, od_lay]
theorem runs_lay : ∀ zs : List Rn.Run, PyData.canLayAll0 (zs.map runD) = true
  | [] => by simp [PyData.canLayAll0]
  | z :: zs => by simp [PyData.canLayAll0, run_lay, runs_lay zs]
theorem run_depth (z : Rn.Run) : (runD z).depth = 1 := by simp [runD, PyData.depth, PyData.depthAll, od_depth]
theorem runs_depth : ∀ zs : List Rn.Run, PyData.depthAll (zs.map runD) ≤ 1
  | [] => by simp [PyData.depthAll]
  | z :: zs => by
    have h := runs_depth zs
    simp [PyData.depthAll, run_depth]
    omega
theorem shaped_list (zs : List Rn.Run) : SeqAt.shaped (.list (zs.map runD)) = true := by
  have h := runs_depth zs
  simp [SeqAt.shaped, PyData.canLay0, PyData.depth, runs_lay]
  omega
theorem shaped_tuple (zs : List Rn.Run) : SeqAt.shaped (.tuple (zs.map runD)) = true := by
  have h := runs_depth zs
  simp [SeqAt.shaped, PyData.canLay0, PyData.depth, runs_lay]
  omega
theorem od_eqv (a b : Option Int) : PyData.eqv (od a) (od b) = decide (a = b) := by
  cases a <;> cases b <;> simp [od, PyData.eqv]
  rfl
theorem run_eqv (x y : Rn.Run) : PyData.eqv (runD x) (runD y) = decide (x = y) := by
  obtain ⟨a, b, c⟩ := x
  obtain ⟨d, e, f⟩ := y
  simp only [runD, PyData.eqv, PyData.eqvAll, od_eqv, Bool.and_true]
  by_cases h : (⟨a, b, c⟩ : Rn.Run) = ⟨d, e, f⟩
  · rw [decide_eq_true h]
    injection h with h1 h2 h3
    simp [h1, h2, h3]
  · rw [decide_eq_false h]
    by_cases h1 : a = d
    · by_cases h2 : b = e
      · have h3 : c ≠ f := fun z => h (by rw [h1, h2, z])
        simp [h1, h2, h3]
      · simp [h2]
    · simp [h1]
theorem runs_eqv : ∀ xs ys : List Rn.Run, PyData.eqvAll (xs.map runD) (ys.map runD) = decide (xs = ys)
  | [], [] => by simp [PyData.eqvAll]
  | [], y :: ys => by simp [PyData.eqvAll]
  | x :: xs, [] => by simp [PyData.eqvAll]
  | x :: xs, y :: ys => by
    rw [List.map_cons, List.map_cons, PyData.eqvAll, run_eqv, runs_eqv xs ys]
    by_cases h1 : x = y
    · by_cases h2 : xs = ys
      · simp [h1, h2]
      · simp [h1, h2]
    · simp [h1]
theorem list_eqv (xs ys : List Rn.Run) : PyData.eqv (.list (xs.map runD)) (.list (ys.map runD)) = decide (xs = ys) := by
  rw [PyData.eqv]
  exact runs_eqv xs ys
theorem tuple_eqv (xs ys : List Rn.Run) : PyData.eqv (.tuple (xs.map runD)) (.tuple (ys.map runD)) = decide (xs = ys) := by
  rw [PyData.eqv]
  exact runs_eqv xs ys
end EW
end

section
set_option maxHeartbeats 4000000
namespace TM
open PySem PySem.Spec PyProof.Rows L2 EW
theorem cr_maxK {X : Cx} (K : W.Frag) (h : X.K = K) (hc : X.calm = true) : CallR X (.builtin "max") (rMax K) := by
  subst h
  exact cr_max hc
theorem keyFn_of {X : Cx} (D : Df X.prog X.w X.K X.mg X.base 1 "run_key" ["run"] (spKey X.K)) : KeyFn X 1 (He.ga X.K "run_key") (KeyR X.K) := by
  obtain ⟨fd, F, b⟩ := D.ex
  refine ⟨⟨fd, _, _, F, b, fun v p H Q h n => ⟨v, p, rfl, h, n⟩⟩, fun H H' v p h s => ?_⟩
  obtain ⟨z, h1, h2⟩ := h
  exact ⟨z, Tp.same h1 s, h2⟩
theorem perm_lift {α β : Type} {f : α → β} {ps qs : List β} (h : ps.Perm qs) : ∀ l : List α, qs = l.map f → ∃ l' : List α, l'.Perm l ∧ ps = l'.map f := by
  induction h with
  | nil => exact fun l e => ⟨l, List.Perm.refl _, e⟩
  | cons x _ ih =>
    intro l e
    cases l with
    | nil => cases e
    | cons y l =>
      injection e with e1 e2
      obtain ⟨l', h1, h2⟩ := ih l e2
      exact ⟨y :: l', h1.cons y, by rw [List.map_cons, e1, h2]⟩
  | swap x y r =>
    intro l e
    match l, e with
    | a :: b :: l, e =>
      injection e with e1 e2
      injection e2 with e2 e3
      exact ⟨b :: a :: l, List.Perm.swap _ _ _, by rw [List.map_cons, List.map_cons, e1, e2, e3]⟩
  | trans _ _ ih1 ih2 =>
    intro l e
    obtain ⟨l2, h1, h2⟩ := ih2 l e
    obtain ⟨l3, h3, h4⟩ := ih1 l2 h2
    exact ⟨l3, h3.trans h1, h4⟩
theorem zip_keys : ∀ (xs : List V) (zs : List Rn.Run), xs.zip (zs.map fun z => keyOf z.lo) = (xs.zip zs).map fun q => (q.1, keyOf q.2.lo)
  | [], _ => by simp
  | _ :: _, [] => by simp
  | x :: xs, z :: zs => by
    rw [List.map_cons, List.zip_cons_cons, List.zip_cons_cons, List.map_cons, zip_keys xs zs]
theorem key_le {x y : Option Int} (h : SrtO.lexB (keyOf y) (keyOf x) = false) : Rn.loLe x y := by
  have h := SrtO.lexB_no.mp h
  cases x with
  | none => trivial
  | some u =>
    cases y with
    | none =>
      refine (h (.inl ?_)).elim
      show (0 : Int) < 1
      omega
    | some v =>
      show u ≤ v
      rcases Int.lt_or_le v u with c | c
      · exact (h (.inr ⟨rfl, c⟩)).elim
      · exact c
theorem rns_zip {K : W.Frag} {H : Hp} : ∀ {xs : List V} {zs : List Rn.Run}, Rns K H xs zs → ∀ q ∈ xs.zip zs, Sn K H q.1 q.2.span
  | _, _, .nil => fun q h => by simp at h
  | _, _, .cons h t => fun q hq => by
    rw [List.zip_cons_cons] at hq
    rcases List.mem_cons.mp hq with rfl | hq
    · exact h
    · exact rns_zip t q hq
theorem rns_of {K : W.Frag} {H : Hp} : ∀ (l : List (V × Rn.Run)), (∀ q ∈ l, Sn K H q.1 q.2.span) → Rns K H (l.map (·.1)) (l.map (·.2))
  | [], _ => .nil
  | q :: l, h => .cons (h q List.mem_cons_self) (rns_of l fun r hr => h r (List.mem_cons_of_mem _ hr))
theorem sorted_runs {K : W.Frag} {H : Hp} {xs ys : List V} {zs : List Rn.Run} (o : Out xs (zs.map fun z => keyOf z.lo) ys) (h : Rns K H xs zs) : ∃ zs0, Rns K H ys zs0 ∧ zs0.Perm zs ∧ zs0.Pairwise fun x y => Rn.loLe x.lo y.lo := by
  obtain ⟨ps, hp, hs, rfl⟩ := o
  rw [zip_keys] at hp
  obtain ⟨l, h1, rfl⟩ := perm_lift hp _ rfl
  have hl : (xs.zip zs).map (·.2) = zs := List.map_snd_zip (Nat.le_of_eq h.length.symm)
  refine ⟨l.map (·.2), ?_, ?_, ?_⟩
  · rw [List.map_map]
    exact rns_of l fun q hq => rns_zip h q (h1.mem_iff.mp hq)
  · have z := h1.map (·.2)
    rw [hl] at z
    exact z
  · rw [List.pairwise_map] at hs ⊢
    exact hs.imp fun h => key_le h
theorem rns_ref {K : W.Frag} {H : Hp} : ∀ {xs : List V} {zs : List Rn.Run}, Rns K H xs zs → ∀ x ∈ xs, ∃ b, x = V.ref b
  | _, _, .nil => fun x h => by simp at h
  | _, _, .cons h t => fun x hx => by
    rcases List.mem_cons.mp hx with rfl | hx
    · obtain ⟨a, e, _⟩ := h
      exact ⟨a, e⟩
    · exact rns_ref t x hx
theorem rns_key {K : W.Frag} {H : Hp} {xs : List V} {zs : List Rn.Run} (h : Rns K H xs zs) : ∀ (j : Nat) (x : V) (pr : Int × Int), xs[j]? = some x → (zs.map fun z => keyOf z.lo)[j]? = some pr → KeyR K H x pr := by
  intro j x pr hx hp
  obtain ⟨z, hz, s⟩ := pr_get h hx
  rw [List.getElem?_map, hz] at hp
  exact ⟨z, s, (Option.some.inj hp).symm⟩
theorem pr_snoc {α β : Type} {F : α → β → Prop} : ∀ {as : List α} {bs : List β} {b : β}, Paired F as (bs ++ [b]) → ∃ as' a, as = as' ++ [a] ∧ Paired F as' bs ∧ F a b
  | [], [], _, h => nomatch h
  | [], _ :: _, _, h => nomatch h
  | a :: as, [], _, .cons h t => by
    cases t
    exact ⟨[], a, rfl, .nil, h⟩
  | a :: as, _ :: bs, b, .cons h t => by
    obtain ⟨as', a', e, p, q⟩ := pr_snoc (bs := bs) t
    exact ⟨a :: as', a', by rw [e]; rfl, .cons h p, q⟩
abbrev NUnited : List Str := ["period", "runs", "found", "run", "residue", "low", "high", "ends"]
theorem United : FnScope NUnited ["period", "runs"] (defScope sUnited) := ⟨rfl, rfl, rfl, by decide +kernel, rfl, by decide +kernel, by decide +kernel⟩
def spUnited (K : W.Frag) : Sp := fun vs H Q _ => ∃ (p r : Int) (a : Addr) (xs : List V) (zs : List Rn.Run), vs = [.int p, .ref a] ∧ 0 < p ∧ H a = some (.lst xs) ∧ Rns K H xs zs ∧ (∀ z ∈ zs, Rn.Good p z ∧ z.r = r) ∧ xs.length ≤ 10000000 ∧
  ∀ (l : Addr) (H' : Hp) (ys : List V) (ws : List Rn.Run), H l = none → Same H H' → H' l = some (.lst ys) → Rns K H' ys ws → Rn.Canon p ws → (∀ w ∈ ws, w.r = r) → (∀ t, Rn.inRuns p ws t ↔ Rn.inRuns p zs t) → ws.length ≤ zs.length → Q (.ref l) H'
section
variable {P : Program} {w : World} {K : W.Frag} {mg : Str → Option Value} {base : Heap}
theorem ok_united {fd : FuncData} (F : FnP K "united" sUnited fd) (T : Fre mg) (Drun_key : Df P w K mg base 1 "run_key" ["run"] (spKey K)) (Dgoes_on : Df P w K mg base 1 "goes_on" ["period", "run", "other"] (spGoesOn K)) :
    FnOk P w K mg base CX0 4 (He.ga K "united") fd ["period", "runs"] (spUnited K) := by
  refine F.ok United (fun vs H Q E h => ?_) (fun cdv A outer s H vs Q E hr h => ?_)
  · obtain ⟨p, r, a, xs, zs, rfl, _⟩ := h
    rfl
  · obtain ⟨p, r, a, xs, zs, rfl, hp, hA, hR, hG, hz, k⟩ := h
    refine ⟨_, PSs.nox (pss_cons (ps_set (i := 2) United.nd rfl (Or.inl rfl) (pe_lstS pa_nil))
      (pss_cons (ps_for PassesOwn.never rfl (pi_listK (K := K) rfl (pe_callBK (cr_sortedBy (keyFn_of Drun_key) (hr.mono (by decide))) (by rfl) T.sorted EW.boot_sorted (pa_cons (pv 1) pa_nil) (pk_cons (pe_glob (v := .ref (He.ga K "run_key")) rfl Drun_key.gl rfl) pk_nil))) (pg_name (i := 3) United.nd rfl (Or.inl rfl)) (pss_one (ps_if (PW.pt (pw_and (pt_cmpR (op_neDK K rfl hr.units) (pv 2) (pe_lstS pa_nil) (nomark _)) (pw_and1 (pt_val (pe_df Dgoes_on (hr.mono (by decide)) rfl (pa_cons (pv 0) (pa_cons (pe_ix (ix_listK K rfl) (pv 2) (pe_un un_neg pe_int) (fun _ _ => rfl)) (pa_cons (pv 3) pa_nil)))))))) (pss_cons (ps_asg (pe_bm0 PySem.F.plainAttrs_list PySem.F.slot_list_pop PySem.F.type_list_pop mt_pop (pv 2)) (pg_tup rfl (pgs_cons (pg_name (i := 4) United.nd rfl (Or.inl rfl)) (pgs_cons (pg_name (i := 5) United.nd rfl (Or.inl rfl)) (pgs_cons (pg_name (i := 6) United.nd rfl (Or.inl rfl)) pgs_nil)))))
      (pss_cons (ps_cut (ps_set (i := 7) United.nd rfl (Or.inl rfl) (pe_ifExp (PW.pt (pw_or (pt_cmp (pc_isN (pv 6))) (pw_or1 (pt_cmp (pc_isN (pe_ix (ix_tupK K rfl) (pv 3) pe_int (fun _ _ => rfl))))))) pe_non (pe_callB (cr_maxK K rfl rfl) (by rfl) T.max EW.boot_max (pa_cons (pe_lstS (pa_cons (pv 6) (pa_cons (pe_ix (ix_tupK K rfl) (pv 3) pe_int (fun _ _ => rfl)) pa_nil))) pa_nil)))))
      (pss_one (ps_expr (pe_bm PySem.F.plainAttrs_list PySem.F.slot_list_append PySem.F.type_list_append mt_append (pv 2) (pa_cons (pe_tupS (pa_cons (pv 4) (pa_cons (pv 5) (pa_cons (pv 7) pa_nil)))) pa_nil)))))) (pss_one (ps_expr (pe_bm PySem.F.plainAttrs_list PySem.F.slot_list_append PySem.F.type_list_append mt_append (pv 2) (pa_cons (pv 3) pa_nil)))))))
      (pss_one (ps_ret (pv 2))))), ?_⟩
    refine ⟨(by show 0 ≤ sizeLine; decide), fun l H1 n1 s1 e1 => ?_⟩
    have hlen := hR.length
    refine ⟨_, rfl, a, xs, _, rfl, rfl, SqL.of (s1 _ _ hA), rns_ref hR, by rw [List.length_map, hlen], rns_key (Rns.same hR s1), fun ys o b H2 n2 s2 e2 => ?_⟩
    have R2 : Rns K H2 xs zs := Rns.same hR (Same.trans s1 s2)
    obtain ⟨zs0, R0, pm, pw⟩ := sorted_runs o R2
    have hG0 : ∀ z ∈ zs0, Rn.Good p z ∧ z.r = r := fun z hz => hG z (pm.mem_iff.mp hz)
    have hl0 := R0.length
    have hl1 := pm.length_eq
    have hbl : b ≠ l := fun z => by rw [z, e1] at n2; cases n2
    have hn2 : H2 l = some (.lst []) := s2 _ _ e1
    have hbig : (10000000 : Nat) < sizeLine := by decide
    refine ⟨b, rfl, ⟨ys, SqL.of e2⟩, ?_⟩
    refine for_list (K := K) (a := b) (xs := ys) (fun i σ' H' => ∃ (u1 u2 u3 u4 u5 : Option V) (vs : List V) (ws : List Rn.Run), σ' = [some (.int p), some (.ref a), some (.ref l), u1, u2, u3, u4, u5] ∧ Same H H' ∧ H' b = some (.lst ys) ∧ H' l = some (.lst vs) ∧ Rns K H' vs ws ∧ Rns K H' ys zs0 ∧
      Rn.Grow p r ws (zs0.take i) ∧ (∀ x ∈ ws, ∀ y ∈ zs0.drop i, Rn.loLe x.lo y.lo) ∧ ws.length ≤ i) ?_ ?_ ?_ ?_
    · refine ⟨_, _, _, _, _, [], [], rfl, Same.trans s1 s2, e2, hn2, .nil, R0, ?_, (fun x hx => nomatch hx), Nat.le_refl _⟩
      rw [List.take_zero]
      exact Rn.Grow.nil
    · rintro i σ' H' _ ⟨u1, u2, u3, u4, u5, vs, ws, rfl, _, hb, _⟩
      exact SqL.of hb
    · rintro i x σ' H3 hx ⟨u1, u2, u3, u4, u5, vs, ws, rfl, s3, hb, hl, Rw, Ry, gr, lo, hwi⟩
      obtain ⟨y, hy, Sx⟩ := pr_get Ry hx
      have hyi : i < zs0.length := (List.getElem?_eq_some_iff.mp hy).1
      have ed : zs0.drop i = y :: zs0.drop (i + 1) := by
        rw [List.drop_eq_getElem_cons hyi]
        congr 1
        exact Option.some.inj ((List.getElem?_eq_getElem hyi).symm.trans hy)
      have et : zs0.take (i + 1) = zs0.take i ++ [y] := by
        rw [List.take_add_one, hy]
        rfl
      obtain ⟨gy, ry⟩ := hG0 y (List.mem_of_getElem? hy)
      have pwd : ∀ z ∈ zs0.drop (i + 1), Rn.loLe y.lo z.lo := by
        have z := List.Pairwise.sublist (List.drop_sublist i zs0) pw
        rw [ed] at z
        exact (List.pairwise_cons.mp z).1
      have hlen2 := Rw.length
      have add : ∀ (H4 : Hp) (u1 u2 u3 u4 u5 : Option V), Same H H4 → H4 b = some (.lst ys) → H4 l = some (.lst vs) → Rns K H4 vs ws → Rns K H4 ys zs0 → (∀ x pre, ws = pre ++ [x] → Rn.goesOn p x y = false) →
          ∃ (v1 v2 v3 v4 v5 : Option V) (vs' : List V) (ws' : List Rn.Run), [some (V.int p), some (.ref a), some (.ref l), u1, u2, u3, u4, u5] = [some (.int p), some (.ref a), some (.ref l), v1, v2, v3, v4, v5] ∧ Same H (upd H4 l (.lst (vs ++ [x]))) ∧ (upd H4 l (.lst (vs ++ [x]))) b = some (.lst ys) ∧ (upd H4 l (.lst (vs ++ [x]))) l = some (.lst vs') ∧ Rns K (upd H4 l (.lst (vs ++ [x]))) vs' ws' ∧ Rns K (upd H4 l (.lst (vs ++ [x]))) ys zs0 ∧
            Rn.Grow p r ws' (zs0.take (i + 1)) ∧ (∀ x ∈ ws', ∀ y ∈ zs0.drop (i + 1), Rn.loLe x.lo y.lo) ∧ ws'.length ≤ i + 1 := by
        intro H4 u1 u2 u3 u4 u5 s4 hb4 hl4 Rw4 Ry4 hno
        have kp : EW.Kept l H4 (upd H4 l (.lst (vs ++ [x]))) := Kept.upd
        obtain ⟨y', hy', Sx4⟩ := pr_get Ry4 hx
        obtain rfl : y = y' := Option.some.inj (hy.symm.trans hy')
        refine ⟨u1, u2, u3, u4, u5, vs ++ [x], ws ++ [y], rfl, (fun c o' h => kp c o' (fun z => by rw [z, n1] at h; cases h) (s4 c o' h)), by rw [upd_ne hbl]; exact hb4, upd_same, Rns.kept (pr_append Rw4 (.cons Sx4 .nil)) hl4 kp, Rns.kept Ry4 hl4 kp, ?_, ?_, ?_⟩
        · rw [et]
          exact gr.next gy ry hno
        · intro x' hx' z hz
          rcases List.mem_append.mp hx' with hx' | hx'
          · exact lo x' hx' z (by rw [ed]; exact List.mem_cons_of_mem _ hz)
          · rw [List.mem_singleton.mp hx']
            exact pwd z hz
        · rw [List.length_append]
          show ws.length + 1 ≤ i + 1
          omega
      have hvs : vs.length < sizeLine := by omega
      refine ⟨_, rfl, (by show 0 ≤ sizeLine; decide), fun q H4 n4 s4 e4 => ?_⟩
      refine ⟨.list (ws.map runD), .list (([] : List Rn.Run).map runD), .lst (SqL.of (s4 _ _ hl)) (runs_dp (Rns.same Rw s4)), .lst (SqL.of e4) .nil, shaped_list ws, shaped_list [], _, rfl, ?_⟩
      rw [list_eqv ws []]
      rcases List.eq_nil_or_concat ws with hw | ⟨pre, x0, hw⟩
      · rw [decide_eq_true hw]
        refine iteF (iteF ?_)
        refine ⟨_, rfl, Or.inl ⟨rfl, _, SqL.of (s4 _ _ hl)⟩, _, rfl, l, vs, x, rfl, rfl, s4 _ _ hl, hvs, ?_⟩
        exact add H4 _ _ _ _ _ (Same.trans s3 s4) (s4 _ _ hb) (s4 _ _ hl) (Rns.same Rw s4) (Rns.same Ry s4) fun x pre e => by rw [hw] at e; simp at e
      · rw [decide_eq_false (by rw [hw]; simp)]
        refine iteT ?_
        rw [List.concat_eq_append] at hw
        obtain ⟨vs0, v0, ev, Rp, S0⟩ := pr_snoc (hw ▸ Rw)
        refine ⟨_, rfl, _, rfl, _, rfl, l, vs, _, v0, rfl, rfl, SqL.of (s4 _ _ hl), by rw [ev]; exact atI_last vs0 v0, _, rfl, p, _, _, x0, y, rfl, Tp.same S0 s4, Tp.same Sx s4, _, rfl, ?_⟩
        cases gs : Rn.goesOn p x0 y with
        | false =>
          refine iteF ?_
          refine ⟨_, rfl, Or.inl ⟨rfl, _, SqL.of (s4 _ _ hl)⟩, _, rfl, l, vs, x, rfl, rfl, s4 _ _ hl, hvs, ?_⟩
          refine add H4 _ _ _ _ _ (Same.trans s3 s4) (s4 _ _ hb) (s4 _ _ hl) (Rns.same Rw s4) (Rns.same Ry s4) fun x1 pre1 e => ?_
          rw [hw] at e
          have e' := List.append_inj' e rfl
          obtain rfl : x0 = x1 := by simpa using e'.2
          exact gs
        | true =>
          refine iteT ?_
          have S4 : Same H H4 := Same.trans s3 s4
          obtain ⟨a0, rfl, T0⟩ := Tp.same S0 s4
          have k5 : EW.Kept l H4 (upd H4 l (.lst vs.dropLast)) := Kept.upd
          have ed0 : vs.dropLast = vs0 := by rw [ev]; exact List.dropLast_concat
          refine ⟨_, rfl, Or.inl ⟨rfl, _, SqL.of (s4 _ _ hl)⟩, l, vs, .ref a0, rfl, rfl, s4 _ _ hl, by rw [ev]; simp, ?_⟩
          rw [ed0] at k5 ⊢
          refine ⟨a0, _, rfl, SqT.kept T0 (s4 _ _ hl) k5, rfl, _, _, rfl, _, _, rfl, _, _, rfl, rfl, ?_⟩
          have Sx5 := Tp.kept (Tp.same Sx s4) (s4 _ _ hl) k5
          have hb5 : (upd H4 l (.lst vs0)) b = some (.lst ys) := by rw [upd_ne hbl]; exact s4 _ _ hb
          have s5 : Same H (upd H4 l (.lst vs0)) := fun c o' h => k5 c o' (fun z => by rw [z, n1] at h; cases h) (S4 c o' h)
          have Rp5 : Rns K (upd H4 l (.lst vs0)) vs0 pre := Rns.kept (Rns.same Rp s4) (s4 _ _ hl) k5
          have Ry5 : Rns K (upd H4 l (.lst vs0)) ys zs0 := Rns.kept (Rns.same Ry s4) (s4 _ _ hl) k5
          refine ⟨fun σ' H' => σ' = [some (.int p), some (.ref a), some (.ref l), some x, some (.int x0.r), some (ob x0.lo), some (ob x0.hi), some (ob (Rn.hiMax x0.hi y.hi))] ∧ Same (upd H4 l (.lst vs0)) H', ?_, ?_⟩
          · obtain ⟨r0, l0, h0⟩ := x0
            obtain ⟨r1, l1, h1⟩ := y
            obtain ⟨ax, rfl, hSx⟩ := Sx5
            cases h0 with
            | none => exact ⟨_, rfl, _, rfl, iteT (iteT ⟨rfl, Same.refl _⟩)⟩
            | some u =>
              refine ⟨_, rfl, _, rfl, iteF ⟨_, rfl, ax, _, _, _, rfl, rfl, hSx, rfl, _, rfl, ?_⟩⟩
              cases h1 with
              | none => exact iteT ⟨rfl, Same.refl _⟩
              | some v =>
                refine iteF ?_
                refine ⟨_, rfl, _, rfl, ax, _, _, _, rfl, rfl, hSx, rfl, (by show 2 ≤ sizeLine; decide), fun q Hq nq sq eq => ?_⟩
                refine ⟨q, [u, v], rfl, SqL.of eq, Nat.succ_pos _, fun m hm hy => ⟨?_, sq⟩⟩
                have h1 := hy u List.mem_cons_self
                have h2 := hy v (List.mem_cons_of_mem _ List.mem_cons_self)
                have em : m = max u v := by
                  rcases List.mem_cons.mp hm with e | e
                  · omega
                  · have := List.mem_singleton.mp e
                    omega
                rw [em]
                rfl
          · rintro σ' H6 ⟨rfl, s6⟩
            have hl6 : H6 l = some (.lst vs0) := s6 _ _ upd_same
            have hlv : vs0.length < sizeLine := by
              have : vs.length = vs0.length + 1 := by rw [ev, List.length_append]; rfl
              omega
            refine ⟨_, rfl, Or.inl ⟨rfl, _, SqL.of hl6⟩, _, rfl, _, rfl, _, rfl, (by show 3 ≤ sizeLine; decide), fun q H7 n7 s7 e7 => ?_⟩
            refine ⟨l, vs0, .ref q, rfl, rfl, s7 _ _ hl6, hlv, ?_⟩
            have s67 := Same.trans s6 s7
            have k8 : EW.Kept l H7 (upd H7 l (.lst (vs0 ++ [.ref q]))) := Kept.upd
            have hl7 := s7 _ _ hl6
            have Sq : Sn K H7 (.ref q) (Rn.merge x0 y).span := Tp.of e7
            have lox : Rn.loLe x0.lo y.lo := lo x0 (by rw [hw]; simp) y (by rw [ed]; exact List.mem_cons_self)
            refine ⟨_, _, _, _, _, vs0 ++ [.ref q], pre ++ [Rn.merge x0 y], rfl, (fun c o' h => k8 c o' (fun z => by rw [z, n1] at h; cases h) (s67 c o' (s5 c o' h))), by rw [upd_ne hbl]; exact s67 _ _ hb5, upd_same, Rns.kept (pr_append (Rns.same Rp5 s67) (.cons Sq .nil)) hl7 k8, Rns.kept (Rns.same Ry5 s67) hl7 k8, ?_, ?_, ?_⟩
            · rw [et]
              exact (hw ▸ gr).merge gy ry lox gs
            · intro x' hx' z hz
              rcases List.mem_append.mp hx' with hx' | hx'
              · exact lo x' (by rw [hw]; exact List.mem_append_left _ hx') z (by rw [ed]; exact List.mem_cons_of_mem _ hz)
              · rw [List.mem_singleton.mp hx']
                exact lo x0 (by rw [hw]; simp) z (by rw [ed]; exact List.mem_cons_of_mem _ hz)
            · have h1 : ws.length = pre.length + 1 := by rw [hw, List.length_append]; rfl
              have h2 : (pre ++ [Rn.merge x0 y]).length = pre.length + 1 := by rw [List.length_append]; rfl
              omega
    · rintro σ' H3 ⟨u1, u2, u3, u4, u5, vs, ws, rfl, s3, hb, hl, Rw, Ry, gr, lo, hwi⟩
      rw [hl0, List.take_length] at gr
      refine ⟨_, rfl, ?_⟩
      refine k l H3 vs ws n1 s3 hl Rw gr.canon (fun z hz => (gr.good z hz).2) (fun t => ?_) (by omega)
      rw [gr.mem t]
      constructor
      · rintro ⟨z, hz, m⟩
        exact ⟨z, pm.mem_iff.mp hz, m⟩
      · rintro ⟨z, hz, m⟩
        exact ⟨z, pm.mem_iff.mpr hz, m⟩
end
end TM
end

section
set_option maxHeartbeats 4000000
namespace EW
open PySem PySem.Spec PyProof.Rows L2
theorem _root_.L2.Room.u1 {k : Nat} {A : Around} (r : Room k A) : A.units + 1 < cLine := by
  have := r.un
  omega
section
variable {X : Cx} {K : W.Frag} {H H' : Hp} {a d : Addr} {o : HO} {xs vs : List V} {v : V}
theorem SqT.keptO (h : SqT K H a xs) (hd : H d = some o) (n1 : ∀ ys, o ≠ .tup ys) (n2 : ∀ b u, o ≠ .frz b u) (k : Kept d H H') : SqT K H' a xs :=
  SqT.stay h (fun b zs e => k b _ (fun z => by rw [z, hd] at e; exact n1 _ (Option.some.inj e)) e) fun b p u e => k b _ (fun z => by rw [z, hd] at e; exact n2 _ _ (Option.some.inj e)) e
theorem SqT.keptD {kvs : List (Key × V)} (h : SqT K H a xs) (hd : H d = some (.dK kvs)) (k : Kept d H H') : SqT K H' a xs := SqT.keptO h hd (fun _ z => nomatch z) (fun _ _ z => nomatch z) k
theorem Rns.keptD {zs : List Rn.Run} {kvs : List (Key × V)} (h : Rns K H vs zs) (hd : H d = some (.dK kvs)) (k : Kept d H H') : Rns K H' vs zs :=
  Paired.mono (fun _ _ q => let ⟨a, e, t⟩ := q; ⟨a, e, SqT.keptD t hd k⟩) h
/-- {} -/
theorem pe_dnewS {pos : Pos} : PE X (.Dict [] [] pos) (fun σ H Q => New H (fun _ => .dK []) Q) :=
  PE.imp pe_dnewK fun σ H Q q p hp => q.at hp
/-- runs by their residues -/
structure Grp (K : W.Frag) (H : Hp) (kvs : List (Key × V)) (zs : List Rn.Run) : Prop where
  itg : ∀ q ∈ kvs, ∃ r : Int, q.1 = Sum.inl r
  nd : (kvs.map (·.1)).Nodup
  len : kvs.length ≤ zs.length
  no : ∀ r : Int, valV kvs (Sum.inl r : Key) = none → ∀ z ∈ zs, z.r ≠ r
  yes : ∀ (r : Int) (v : V), valV kvs (Sum.inl r : Key) = some v → (∃ (l : Addr) (ys : List V), v = .ref l ∧ H l = some (.lst ys) ∧ Rns K H ys (zs.filter fun z => decide (z.r = r))) ∧ ∃ z ∈ zs, z.r = r
theorem Grp.nil : Grp K H [] [] := ⟨(fun _ h => nomatch h), List.nodup_nil, Nat.le_refl _, (fun _ _ _ h => nomatch h), fun r v h => by cases h⟩
theorem Grp.same {kvs : List (Key × V)} {zs : List Rn.Run} (g : Grp K H kvs zs) (s : Same H H') : Grp K H' kvs zs := ⟨g.itg, g.nd, g.len, g.no, fun r v h => by
  obtain ⟨⟨l, ys, e, hl, R⟩, z⟩ := g.yes r v h
  exact ⟨⟨l, ys, e, s _ _ hl, Rns.same R s⟩, z⟩⟩
theorem Grp.keptD {kvs kvs' : List (Key × V)} {zs : List Rn.Run} (g : Grp K H kvs zs) (hd : H d = some (.dK kvs')) (k : Kept d H H') : Grp K H' kvs zs := ⟨g.itg, g.nd, g.len, g.no, fun r v h => by
  obtain ⟨⟨l, ys, e, hl, R⟩, z⟩ := g.yes r v h
  exact ⟨⟨l, ys, e, k _ _ (fun z => by rw [z, hd] at hl; cases hl) hl, Rns.keptD R hd k⟩, z⟩⟩
theorem put_keys {kvs : List (Key × V)} {k : Key} {v : V} (nd : (kvs.map (·.1)).Nodup) : ((putK kvs k v).map (·.1)).Nodup ∧ (putK kvs k v).length ≤ kvs.length + 1 ∧ ∀ q ∈ putK kvs k v, q.1 = k ∨ ∃ q' ∈ kvs, q'.1 = q.1 := by
  cases h : valV kvs k with
  | none =>
    rw [putK_new v h]
    refine ⟨?_, by rw [List.length_append]; exact Nat.le_refl _, fun q hq => ?_⟩
    · rw [List.map_append, List.nodup_append]
      refine ⟨nd, by simp, ?_⟩
      intro x hx y hy e
      have hy' : y = k := by simpa using hy
      rw [hy'] at e
      obtain ⟨q, hq, rfl⟩ := List.mem_map.mp hx
      have z := valV_any k kvs
      rw [h] at z
      have z2 := List.any_eq_false.mp z q hq
      exact z2 (decide_eq_true e)
    · rcases List.mem_append.mp hq with hq | hq
      · exact .inr ⟨q, hq, rfl⟩
      · exact .inl (by rw [List.mem_singleton.mp hq])
  | some u =>
    have z := valV_any k kvs
    rw [h] at z
    have e : putK kvs k v = kvs.map (fun kv => if kv.1 = k then (kv.1, v) else kv) := by
      unfold putK
      exact if_pos z
    have em : (putK kvs k v).map (·.1) = kvs.map (·.1) := by
      rw [e, List.map_map]
      refine List.map_congr_left fun q _ => ?_
      show (if q.1 = k then (q.1, v) else q).1 = q.1
      split <;> rfl
    refine ⟨by rw [em]; exact nd, by rw [e, List.length_map]; exact Nat.le_succ _, fun q hq => ?_⟩
    have hm : q.1 ∈ (putK kvs k v).map (·.1) := List.mem_map.mpr ⟨q, hq, rfl⟩
    rw [em] at hm
    obtain ⟨q', h1, h2⟩ := List.mem_map.mp hm
    exact .inr ⟨q', h1, h2⟩
theorem Grp.put {kvs : List (Key × V)} {zs : List Rn.Run} {y : Rn.Run} {l : Addr} {ys : List V} (g : Grp K H kvs zs) (hl : H l = some (.lst ys)) (R : Rns K H ys ((zs ++ [y]).filter fun z => decide (z.r = y.r))) : Grp K H (putK kvs (Sum.inl y.r) (.ref l)) (zs ++ [y]) := by
  obtain ⟨p1, p2, p3⟩ := put_keys (k := (Sum.inl y.r : Key)) (v := .ref l) g.nd
  have gl := g.len
  refine ⟨fun q hq => ?_, p1, by rw [List.length_append]; exact Nat.le_trans p2 (Nat.succ_le_succ gl), fun r hn z hz => ?_, fun r v hv => ?_⟩
  · rcases p3 q hq with e | ⟨q', h1, h2⟩
    · exact ⟨_, e⟩
    · rw [← h2]
      exact g.itg q' h1
  · rw [valV_put] at hn
    by_cases e : (Sum.inl r : Key) = Sum.inl y.r
    · rw [if_pos e] at hn
      cases hn
    · rw [if_neg e] at hn
      rcases List.mem_append.mp hz with hz | hz
      · exact g.no r hn z hz
      · rw [List.mem_singleton.mp hz]
        exact fun c => e (by rw [c])
  · rw [valV_put] at hv
    by_cases e : (Sum.inl r : Key) = Sum.inl y.r
    · rw [if_pos e] at hv
      cases hv
      obtain rfl : r = y.r := Sum.inl.inj e
      exact ⟨⟨l, ys, rfl, hl, R⟩, y, List.mem_append_right _ List.mem_cons_self, rfl⟩
    · rw [if_neg e] at hv
      obtain ⟨⟨l', ys', e1, e2, R'⟩, z, hz, ez⟩ := g.yes r v hv
      refine ⟨⟨l', ys', e1, e2, ?_⟩, z, List.mem_append_left _ hz, ez⟩
      have e3 : [y].filter (fun z => decide (z.r = r)) = [] := by
        rw [List.filter_cons, if_neg (by simpa using fun c => e (by rw [c]))]
        rfl
      rw [List.filter_append, e3, List.append_nil]
      exact R'
end
end EW
end

section
set_option maxHeartbeats 4000000
namespace TM
open PySem PySem.Spec PyProof.Rows L2 EW
theorem for_seq {K : W.Frag} {tl : TE} {a : Addr} {xs : List V} {g : TG} {tb : TS} {D : Ends} {σ : L2.St} {H H0 Hs : Hp} (ht : ∀ R : VK, R (.ref a) H → tl σ H0 R) (hS : Sq K Hs a xs) (h00 : Same Hs H) (Pv : Nat → L2.St → Hp → Prop) (h0 : Pv 0 σ H) (hl : ∀ i σ' H', i ≤ xs.length → Pv i σ' H' → Same Hs H')
    (hs : ∀ i x σ H, xs[i]? = some x → Pv i σ H → g x σ H fun σ2 H2 => tb { D with nx := Pv (i + 1), ct := Pv (i + 1), bk := D.nx } σ2 H2) (hd : ∀ σ H, Pv xs.length σ H → D.nx σ H) : tFor (iSeq K tl) g tb D σ H0 := by
  rcases hS with h | h
  · exact Or.inl (ht _ ⟨a, rfl, ⟨xs, h00.seq h⟩, for_list Pv h0 (fun i σ' H' hi p => (hl i σ' H' hi p).seq h) hs hd⟩)
  · exact Or.inr (ht _ ⟨a, rfl, ⟨xs, SqT.same h h00⟩, for_tup Pv h0 (fun i σ' H' hi p => SqT.same h (hl i σ' H' hi p)) hs hd⟩)
abbrev NGrouped : List Str := ["runs", "found", "run"]
theorem Grouped : FnScope NGrouped ["runs"] (defScope sGrouped) := ⟨rfl, rfl, rfl, by decide +kernel, rfl, by decide +kernel, by decide +kernel⟩
def spGrouped (K : W.Frag) : Sp := fun vs H Q _ => ∃ (a : Addr) (xs : List V) (zs : List Rn.Run), vs = [.ref a] ∧ Sq K H a xs ∧ Rns K H xs zs ∧ xs.length ≤ 10000000 ∧
  ∀ (d : Addr) (H' : Hp) (kvs : List (Key × V)), H d = none → Same H H' → H' d = some (.dK kvs) → Grp K H' kvs zs → Q (.ref d) H'
section
variable {P : Program} {w : World} {K : W.Frag} {mg : Str → Option Value} {base : Heap}
theorem ok_grouped {fd : FuncData} (F : FnP K "grouped" sGrouped fd) : FnOk P w K mg base CX0 1 (He.ga K "grouped") fd ["runs"] (spGrouped K) := by
  refine F.ok Grouped (fun vs H Q E h => ?_) (fun cdv A outer s H vs Q E hr h => ?_)
  · obtain ⟨a, xs, zs, rfl, _⟩ := h
    rfl
  · obtain ⟨a, xs, zs, rfl, hS, hR, hz, k⟩ := h
    have hlen := hR.length
    have hbig : (10000000 : Nat) < sizeLine := by decide
    refine ⟨_, PSs.nox (pss_cons (ps_set (i := 1) Grouped.nd rfl (Or.inl rfl) pe_dnewS)
      (pss_cons (ps_for PassesOwn.never rfl (pi_seqK (K := K) rfl (pv 0)) (pg_name (i := 2) Grouped.nd rfl (Or.inl rfl)) (pss_one (ps_dput hr.u1 (pv 1) (pe_ix (ix_tupK K rfl) (pv 2) pe_int (fun _ _ => rfl)) (pe_lstS (StX.pa_star (pe_dget2 hr.u1 (pv 1) (pe_ix (ix_tupK K rfl) (pv 2) pe_int (fun _ _ => rfl)) (pe_lstS pa_nil) ⟨rfl, rfl, rfl, rfl⟩) (pa_cons (pv 2) pa_nil))) rfl)))
      (pss_one (ps_ret (pv 1))))), ?_⟩
    refine fun d H1 n1 s1 e1 => ?_
    refine for_seq (xs := xs) (fun R h => ⟨_, rfl, h⟩) hS s1 (fun i σ' H' => ∃ (u : Option V) (kvs : List (Key × V)), σ' = [some (.ref a), some (.ref d), u] ∧ Same H H' ∧ H' d = some (.dK kvs) ∧ Grp K H' kvs (zs.take i)) ⟨_, _, rfl, s1, e1, by rw [List.take_zero]; exact Grp.nil⟩ ?_ ?_ ?_
    · rintro i σ' H' _ ⟨u, kvs, _, s2, _⟩
      exact s2
    · rintro i x σ' H2 hx ⟨u, kvs, rfl, s2, hd, G⟩
      obtain ⟨y, hy, Sx⟩ := pr_get hR hx
      have hyi : i < zs.length := (List.getElem?_eq_some_iff.mp hy).1
      obtain ⟨ax, rfl, hA⟩ := Tp.same Sx s2
      have et : zs.take (i + 1) = zs.take i ++ [y] := by
        rw [List.take_add_one, hy]
        rfl
      have hkl : kvs.length < sizeLine := by
        have := G.len
        rw [List.length_take] at this
        omega
      have fin : ∀ (v : V) (vs : List V) (l0 : Addr) (H4 : Hp), v = .ref l0 → Same H2 H4 → H4 l0 = some (.lst vs) → Rns K H4 vs ((zs.take i).filter fun z => decide (z.r = y.r)) → ∀ (l2 : Addr) (H5 : Hp), Same H4 H5 → H5 l2 = some (.lst (vs ++ [.ref ax])) →
          ∃ (u : Option V) (kvs' : List (Key × V)), [some (V.ref a), some (.ref d), some (.ref ax)] = [some (.ref a), some (.ref d), u] ∧ Same H (upd H5 d (.dK (putK kvs (Sum.inl y.r) (.ref l2)))) ∧ (upd H5 d (.dK (putK kvs (Sum.inl y.r) (.ref l2)))) d = some (.dK kvs') ∧ Grp K (upd H5 d (.dK (putK kvs (Sum.inl y.r) (.ref l2)))) kvs' (zs.take (i + 1)) := by
        intro v vs l0 H4 ev s4 hl0 R4 l2 H5 s5 e5
        have s25 := Same.trans s4 s5
        have k6 : EW.Kept d H5 (upd H5 d (.dK (putK kvs (Sum.inl y.r) (.ref l2)))) := Kept.upd
        have hd5 := s25 _ _ hd
        refine ⟨_, _, rfl, (fun c o h => k6 c o (fun z => by rw [z, n1] at h; cases h) (s25 c o (s2 c o h))), upd_same, ?_⟩
        rw [et]
        refine Grp.keptD (Grp.put (Grp.same G s25) e5 ?_) hd5 k6
        rw [List.filter_append]
        refine pr_append (Rns.same R4 s5) ?_
        rw [List.filter_cons, if_pos (decide_eq_true rfl)]
        exact .cons (Tp.same Sx (Same.trans s2 s25)) .nil
      refine ⟨_, rfl, d, rfl, .inl ⟨kvs, .inl hd⟩, _, rfl, ax, _, _, _, rfl, rfl, hA, rfl, (by show 0 ≤ sizeLine; decide), fun q H4 n4 s4 e4 => ⟨_, DGet.k (k := Sum.inl y.r) (s4 _ _ hd), ?_⟩⟩
      cases hv : valV kvs (Sum.inl y.r) with
      | none =>
        have en : (zs.take i).filter (fun z => decide (z.r = y.r)) = [] := List.filter_eq_nil_iff.mpr fun z hz c => G.no _ hv z hz (of_decide_eq_true c)
        refine ⟨q, [], rfl, .inr (SqL.of e4), _, rfl, (by show 1 ≤ sizeLine; decide), fun l2 H5 n5 s5 e5 => ?_⟩
        refine ⟨_, rfl, _, rfl, ax, _, _, _, rfl, rfl, SqT.same hA (Same.trans s4 s5), rfl, d, _, rfl, DPut.k (k := Sum.inl y.r) (s5 _ _ (s4 _ _ hd)) hkl, ?_⟩
        exact fin (.ref q) [] q H4 rfl s4 e4 (by rw [en]; exact .nil) l2 H5 s5 e5
      | some v =>
        obtain ⟨⟨l0, ys0, rfl, hl0, R0⟩, _⟩ := G.yes _ _ hv
        have hlen0 : ys0.length ≤ i := by
          have h1 := R0.length
          have h2 := List.length_filter_le (fun z : Rn.Run => decide (z.r = y.r)) (zs.take i)
          rw [List.length_take] at h2
          omega
        refine ⟨l0, ys0, rfl, .inr (SqL.of (s4 _ _ hl0)), _, rfl, ?_, fun l2 H5 n5 s5 e5 => ?_⟩
        · rw [List.length_append]
          show ys0.length + 1 ≤ sizeLine
          omega
        refine ⟨_, rfl, _, rfl, ax, _, _, _, rfl, rfl, SqT.same hA (Same.trans s4 s5), rfl, d, _, rfl, DPut.k (k := Sum.inl y.r) (s5 _ _ (s4 _ _ hd)) hkl, ?_⟩
        exact fin (.ref l0) ys0 l0 H4 rfl s4 (s4 _ _ hl0) (Rns.same R0 s4) l2 H5 s5 e5
    · rintro σ' H2 ⟨u, kvs, rfl, s2, hd, G⟩
      rw [hlen, List.take_length] at G
      exact ⟨_, rfl, k d H2 kvs n1 s2 hd G⟩
end
end TM
end

section

namespace Rn
variable {p : Int}
theorem join_mem {all : List Run} {gs : List (Int × List Run)} (hk : ∀ z ∈ all, z.r ∈ gs.map (·.1)) (hg : ∀ q ∈ gs, ∀ t, inRuns p q.2 t ↔ inRuns p (all.filter fun z => decide (z.r = q.1)) t) (t : Int) : inRuns p (gs.flatMap (·.2)) t ↔ inRuns p all t := by
  constructor
  · rintro ⟨z, hz, m⟩
    obtain ⟨q, hq, hz⟩ := List.mem_flatMap.mp hz
    obtain ⟨y, hy, m'⟩ := (hg q hq t).mp ⟨z, hz, m⟩
    exact ⟨y, (List.mem_filter.mp hy).1, m'⟩
  · rintro ⟨z, hz, m⟩
    obtain ⟨q, hq, e⟩ := List.mem_map.mp (hk z hz)
    obtain ⟨y, hy, m'⟩ := (hg q hq t).mpr ⟨z, List.mem_filter.mpr ⟨hz, decide_eq_true e.symm⟩, m⟩
    exact ⟨y, List.mem_flatMap.mpr ⟨q, hq, hy⟩, m'⟩
theorem len_parts (f : Run → Bool) : ∀ all : List Run, (all.filter f).length + (all.filter fun z => !f z).length = all.length
  | [] => rfl
  | z :: all => by
    have ih := len_parts f all
    rw [List.filter_cons, List.filter_cons]
    cases f z with
    | true =>
      simp
      omega
    | false =>
      simp
      omega
theorem join_len : ∀ {gs : List (Int × List Run)} {all : List Run}, (gs.map (·.1)).Nodup → (∀ q ∈ gs, q.2.length ≤ (all.filter fun z => decide (z.r = q.1)).length) → (gs.flatMap (·.2)).length ≤ all.length
  | [], _, _, _ => Nat.zero_le _
  | q :: gs, all, nd, h => by
    rw [List.map_cons, List.nodup_cons] at nd
    have h1 := h q List.mem_cons_self
    have ih := join_len (gs := gs) (all := all.filter fun z => !decide (z.r = q.1)) nd.2 fun q' hq' => by
      have h2 := h q' (List.mem_cons_of_mem _ hq')
      have ne : q'.1 ≠ q.1 := fun e => nd.1 (List.mem_map.mpr ⟨q', hq', e⟩)
      have e : (all.filter fun z => !decide (z.r = q.1)).filter (fun z => decide (z.r = q'.1)) = all.filter fun z => decide (z.r = q'.1) := by
        rw [List.filter_filter]
        refine List.filter_congr fun z _ => ?_
        by_cases c : z.r = q'.1
        · have c2 : z.r ≠ q.1 := fun x => ne (c.symm.trans x)
          simp [c, c2, ne]
        · simp [c]
      rw [e]
      exact h2
    have e2 : (all.filter fun z => decide (z.r = q.1)).length + (all.filter fun z => !decide (z.r = q.1)).length = all.length := by
      exact len_parts _ all
    rw [List.flatMap_cons, List.length_append]
    omega
theorem sorted_lt : ∀ {ns : List Int}, ns.Pairwise (· ≤ ·) → ns.Nodup → ns.Pairwise (· < ·)
  | [], _, _ => List.Pairwise.nil
  | n :: ns, h, nd => by
    rw [List.pairwise_cons] at h ⊢
    rw [List.nodup_cons] at nd
    refine ⟨fun m hm => ?_, sorted_lt h.2 nd.2⟩
    have h1 := h.1 m hm
    have h2 : n ≠ m := fun e => nd.1 (e ▸ hm)
    omega
end Rn
end

section
set_option maxHeartbeats 4000000
namespace EW
open PySem PySem.Spec PyProof.Rows L2
/-- a walk over a list, what is done at an item said as it is -/
theorem loop_list {K : W.Frag} {a : Addr} {xs : List V} {H0 : Hp} {Qd : Hp → Prop} {B : V → Hp → (Hp → Prop) → Prop} (Pv : Nat → Hp → Prop) (h0 : Pv 0 H0) (hl : ∀ i H, i ≤ xs.length → Pv i H → SqL K H a xs)
    (hs : ∀ i x H, xs[i]? = some x → Pv i H → B x H (Pv (i + 1))) (hd : ∀ H, Pv xs.length H → Qd H) :
    ∃ W : Nat → Nat → Hp → Prop, (∃ m, W 0 m H0) ∧ ∀ i m H, W i m H → ((Itl K a).stop i H ∧ Qd H) ∨ ((Itl K a).go i H ∧ ∃ Nx : Hp → Prop, (∀ H', Nx H' → ∃ m', m' < m ∧ W (i + 1) m' H') ∧ ∀ x H', (Itl K a).yld i H x H' → B x H' Nx) := by
  refine ⟨fun i m H => m = xs.length - i ∧ i ≤ xs.length ∧ Pv i H, ⟨xs.length, rfl, Nat.zero_le _, h0⟩, ?_⟩
  rintro i m H ⟨rfl, hi, p⟩
  have q := hl i H hi p
  rcases Nat.lt_or_ge i xs.length with hlt | hge
  · refine .inr ⟨⟨xs, xs[i], q, List.getElem?_eq_getElem hlt⟩, Pv (i + 1), fun H' p' => ⟨xs.length - (i + 1), by omega, rfl, hlt, p'⟩, fun x H' y => ?_⟩
    obtain ⟨rfl, y⟩ := y
    exact hs i x _ (y xs q) p
  · obtain rfl : i = xs.length := by omega
    exact .inl ⟨⟨xs, q, Nat.le_refl _⟩, hd H p⟩
theorem loop_tup {K : W.Frag} {a : Addr} {xs : List V} {H0 : Hp} {Qd : Hp → Prop} {B : V → Hp → (Hp → Prop) → Prop} (Pv : Nat → Hp → Prop) (h0 : Pv 0 H0) (hl : ∀ i H, i ≤ xs.length → Pv i H → SqT K H a xs)
    (hs : ∀ i x H, xs[i]? = some x → Pv i H → B x H (Pv (i + 1))) (hd : ∀ H, Pv xs.length H → Qd H) :
    ∃ W : Nat → Nat → Hp → Prop, (∃ m, W 0 m H0) ∧ ∀ i m H, W i m H → ((Itt K a).stop i H ∧ Qd H) ∨ ((Itt K a).go i H ∧ ∃ Nx : Hp → Prop, (∀ H', Nx H' → ∃ m', m' < m ∧ W (i + 1) m' H') ∧ ∀ x H', (Itt K a).yld i H x H' → B x H' Nx) := by
  refine ⟨fun i m H => m = xs.length - i ∧ i ≤ xs.length ∧ Pv i H, ⟨xs.length, rfl, Nat.zero_le _, h0⟩, ?_⟩
  rintro i m H ⟨rfl, hi, p⟩
  have q := hl i H hi p
  rcases Nat.lt_or_ge i xs.length with hlt | hge
  · refine .inr ⟨⟨xs, xs[i], q, List.getElem?_eq_getElem hlt⟩, Pv (i + 1), fun H' p' => ⟨xs.length - (i + 1), by omega, rfl, hlt, p'⟩, fun x H' y => ?_⟩
    obtain ⟨rfl, y⟩ := y
    exact hs i x _ (y xs q) p
  · obtain rfl : i = xs.length := by omega
    exact .inl ⟨⟨xs, q, Nat.le_refl _⟩, hd H p⟩
theorem loop_rg {lo : Int} {n : Nat} {H0 : Hp} {Qd : Hp → Prop} {B : V → Hp → (Hp → Prop) → Prop} (Pv : Nat → Hp → Prop) (h0 : Pv 0 H0)
    (hs : ∀ i H, i < n → Pv i H → B (.int (lo + i)) H (Pv (i + 1))) (hd : ∀ H, Pv n H → Qd H) :
    ∃ W : Nat → Nat → Hp → Prop, (∃ m, W 0 m H0) ∧ ∀ i m H, W i m H → ((Itr lo n).stop i H ∧ Qd H) ∨ ((Itr lo n).go i H ∧ ∃ Nx : Hp → Prop, (∀ H', Nx H' → ∃ m', m' < m ∧ W (i + 1) m' H') ∧ ∀ x H', (Itr lo n).yld i H x H' → B x H' Nx) := by
  refine ⟨fun i m H => m = n - i ∧ i ≤ n ∧ Pv i H, ⟨n, rfl, Nat.zero_le _, h0⟩, ?_⟩
  rintro i m H ⟨rfl, hi, p⟩
  rcases Nat.lt_or_ge i n with hlt | hge
  · refine .inr ⟨hlt, Pv (i + 1), fun H' p' => ⟨n - (i + 1), by omega, rfl, hlt, p'⟩, fun x H' y => ?_⟩
    obtain ⟨rfl, rfl⟩ := y
    exact hs i _ hlt p
  · obtain rfl : i = n := by omega
    exact .inl ⟨Nat.le_refl _, hd H p⟩
section
variable {X : Cx}
theorem boot_list : bootBuiltins "list" = some (.type "list") := by decide +kernel
/-- list(range(..)), sealed -/
theorem pe_listRg1S {a : Expr} {ta : TE} {p pos p' pos' : Pos} (hc : X.calm = true) (hg : Gl X "list") (hm : X.mg "list" = none) (hg' : Gl X "range") (hm' : X.mg "range" = none) (ha : PE X a ta) (na' : starEach [a] X.env = (false, eval a X.env) :: starEach [] X.env := by rfl)
    (na : starEach [.Call (.Name "range" p') [a] [] pos'] X.env = (false, eval (.Call (.Name "range" p') [a] [] pos') X.env) :: starEach [] X.env := by rfl) :
    PE X (.Call (.Name "list" p) [.Call (.Name "range" p') [a] [] pos'] [] pos) (fun σ H Q => ta σ H fun x H1 => ∃ n, x = .int n ∧ RgOk 0 n ∧ New H1 (fun _ => .lst (rgV 0 n)) Q) := by
  refine PE.imp (pe_listRg hc hg hm (prg_1 hg' hm' (PE.cl ha) na') na) fun σ H Q q => ⟨_, q, fun v H1 z => ?_⟩
  obtain ⟨n, e, ok, nw⟩ := z
  exact ⟨n, e, ok, fun q hq => nw.at hq⟩
theorem pe_listRg2S {a b : Expr} {ta tb : TE} {p pos p' pos' : Pos} (hc : X.calm = true) (hg : Gl X "list") (hm : X.mg "list" = none) (hg' : Gl X "range") (hm' : X.mg "range" = none) (ha : PE X a ta) (hb : PE X b tb) (na1 : starEach [a, b] X.env = (false, eval a X.env) :: starEach [b] X.env := by rfl) (nb : starEach [b] X.env = (false, eval b X.env) :: starEach [] X.env := by rfl) (hp : (backTo pos' (starEach [b] X.env)).any (·.1) = false := by rfl)
    (na : starEach [.Call (.Name "range" p') [a, b] [] pos'] X.env = (false, eval (.Call (.Name "range" p') [a, b] [] pos') X.env) :: starEach [] X.env := by rfl) :
    PE X (.Call (.Name "list" p) [.Call (.Name "range" p') [a, b] [] pos'] [] pos) (fun σ H Q => ta σ H fun x H1 => tb σ H1 fun y H2 => ∃ i j, x = .int i ∧ y = .int j ∧ RgOk i j ∧ New H2 (fun _ => .lst (rgV i j)) Q) := by
  refine PE.imp (pe_listRg hc hg hm (prg_2 hg' hm' (PE.cl ha) (PE.cl hb) na1 nb hp) na) fun σ H Q q => ⟨_, q, fun v H1 z => ⟨_, z, fun y H2 z => ?_⟩⟩
  obtain ⟨i, j, e, e', ok, nw⟩ := z
  exact ⟨i, j, e, e', ok, fun q hq => nw.at hq⟩
theorem cr_sortedIS (K : W.Frag) (h : X.K = K) : CallR X (.builtin "sorted") (fun vs H Q => ∃ (a : Addr) (ns : List Int), vs = [V.ref a] ∧ SqL K H a (ns.map V.int) ∧ ∀ ns' : List Int, ns'.Perm ns → ns'.Pairwise (· ≤ ·) → New H (fun _ => .lst (ns'.map V.int)) Q) := by
  subst h
  intro pins s σ H xs us Q I r h
  obtain ⟨a, ns, e, hS, q⟩ := h
  exact cr_sortedI pins s σ H xs us Q I r ⟨a, ns, e, hS, fun ns' p h1 h2 hp => (q ns' h1 h2).at hp⟩
theorem call_listDS (hc : X.calm = true) : CallR X (.type "list") (fun xs H Q => ∃ (a : Addr) (kvs : List (Key × V)), xs = [.ref a] ∧ H a = some (.dK kvs) ∧ New H (fun _ => .lst (kvs.map fun kv => kV kv.1)) Q) := by
  intro pins s σ H xs us Q I r h
  obtain ⟨a, kvs, e, hd, q⟩ := h
  exact call_listD hc pins s σ H xs us Q I r ⟨a, kvs, e, .inl hd, fun p hp => q.at hp⟩
theorem call_listS (K : W.Frag) (h : X.K = K) : CallR X (.type "list") (fun xs H Q => ∃ (p : Addr) (ys : List V), xs = [.ref p] ∧ Sq K H p ys ∧ New H (fun _ => .lst ys) Q) := by
  subst h
  intro pins s σ H xs us Q I r h
  obtain ⟨p, ys, e, hS, q⟩ := h
  exact call_list_of pins s σ H xs us Q I r ⟨p, ys, e, hS, fun l hl => q.at hl⟩
end
end EW
end

section
set_option maxHeartbeats 4000000
namespace TM
open PySem PySem.Spec PyProof.Rows L2 EW
/-- a run or None -/
def TV (K : W.Frag) (H : Hp) (v : V) (o : Option Rn.Run) : Prop := match o with
  | none => v = .non
  | some z => Sn K H v z.span
section
variable {K : W.Frag} {H H' : Hp} {v : V} {vs : List V} {l : Addr} {o : Option Rn.Run} {os : List (Option Rn.Run)}
theorem TV.same (h : TV K H v o) (s : Same H H') : TV K H' v o := by
  cases o with
  | none => exact h
  | some z => exact Tp.same h s
theorem TV.kept {ys : List V} (h : TV K H v o) (hl : H l = some (.lst ys)) (k : EW.Kept l H H') : TV K H' v o := by
  cases o with
  | none => exact h
  | some z => exact Tp.kept h hl k
theorem tvs_same (h : Paired (TV K H) vs os) (s : Same H H') : Paired (TV K H') vs os := Paired.mono (fun _ _ q => TV.same q s) h
theorem tvs_kept {ys : List V} (h : Paired (TV K H) vs os) (hl : H l = some (.lst ys)) (k : EW.Kept l H H') : Paired (TV K H') vs os := Paired.mono (fun _ _ q => TV.kept q hl k) h
end
/-- a new list at D grows: all that stood before stands -/
theorem same_upd {H H' : Hp} {D : Addr} {o : HO} (s : Same H H') (h : H D = none) : Same H (upd H' D o) := fun c u e => by
  rw [upd_ne (fun z => by rw [z, h] at e; cases e)]
  exact s c u e
theorem upd_new {H : Hp} {D : Addr} {o : HO} (h : H D = none) : Same H (upd H D o) := same_upd (Same.refl H) h
theorem rgV_res {p : Int} {s : Rn.Sp3} (e : s.res = none) : rgV 0 p = (Rn.residues p s).map V.int := by
  unfold rgV Rn.residues
  rw [e, List.map_map]
  have z : (p - 0).toNat = p.toNat := by omega
  rw [z]
  refine List.map_congr_left fun i _ => ?_
  show V.int (0 + (i : Int)) = V.int (i : Int)
  rw [Int.zero_add]
theorem res_len {p : Int} (hp : p ≤ 400) (s : Rn.Sp3) : (Rn.residues p s).length ≤ 400 := by
  unfold Rn.residues
  split
  · rw [List.length_map, List.length_range]
    omega
  · exact Nat.succ_le_succ (Nat.zero_le _)
theorem found_len {p : Int} (hp : p ≤ 400) : ∀ ss : List Rn.Sp3, (ss.flatMap (Rn.foundOf p)).length ≤ 400 * ss.length
  | [] => Nat.zero_le _
  | s :: ss => by
    have h1 := found_len hp ss
    have h2 := res_len hp s
    have h3 : (Rn.foundOf p s).length ≤ (Rn.residues p s).length := List.length_filterMap_le _ _
    rw [List.flatMap_cons, List.length_append, List.length_cons]
    omega
/-- the number of a key -/
def keyI : Key → Int
  | .inl i => i
  | .inr _ => 0
theorem keyI_nodup : ∀ {kvs : List (Key × V)}, (∀ q ∈ kvs, ∃ r : Int, q.1 = Sum.inl r) → (kvs.map (·.1)).Nodup → (kvs.map fun kv => keyI kv.1).Nodup
  | [], _, _ => List.nodup_nil
  | q :: kvs, h, nd => by
    rw [List.map_cons, List.nodup_cons] at nd ⊢
    refine ⟨fun hm => ?_, keyI_nodup (fun q' hq' => h q' (List.mem_cons_of_mem _ hq')) nd.2⟩
    obtain ⟨q', hq', e⟩ := List.mem_map.mp hm
    obtain ⟨r, er⟩ := h q List.mem_cons_self
    obtain ⟨r', er'⟩ := h q' (List.mem_cons_of_mem _ hq')
    have e' : keyI q'.1 = keyI q.1 := e
    rw [er, er'] at e'
    have e2 : r' = r := e'
    exact nd.1 (List.mem_map.mpr ⟨q', hq', by rw [er, er', e2]⟩)
theorem valV_mem {kvs : List (Key × V)} {k : Key} {v : V} (h : valV kvs k = some v) : ∃ q ∈ kvs, q.1 = k := by
  have z := valV_any k kvs
  rw [h] at z
  obtain ⟨q, hq, e⟩ := List.any_eq_true.mp z
  exact ⟨q, hq, of_decide_eq_true e⟩
abbrev NRunsIn : List Str := ["period", "spans", "found", "residue", "least", "most", "some", "told", "one", "run", "groups"]
theorem RunsIn : FnScope NRunsIn ["period", "spans"] (defScope sRunsIn) := ⟨rfl, rfl, rfl, by decide +kernel, rfl, by decide +kernel, by decide +kernel⟩
def spRunsIn (K : W.Frag) : Sp := fun vs H Q _ => ∃ (p : Int) (a : Addr) (xs : List V) (ss : List Rn.Sp3), vs = [.int p, .ref a] ∧ 1 ≤ p ∧ p ≤ 400 ∧ Sq K H a xs ∧ Sns K H xs ss ∧ (∀ s ∈ ss, Rn.SpOk p s) ∧ (ss.flatMap (Rn.foundOf p)).length ≤ 10000000 ∧
  ∀ (l : Addr) (H' : Hp) (ys : List V) (zs : List Rn.Run), H l = none → Same H H' → H' l = some (.tup ys) → Rns K H' ys zs → Rn.Canon p zs → (∀ t, Rn.inRuns p zs t ↔ Rn.inSpans p ss t) → zs.length ≤ (ss.flatMap (Rn.foundOf p)).length → Q (.ref l) H'
section
variable {P : Program} {w : World} {K : W.Frag} {mg : Str → Option Value} {base : Heap}
theorem ok_runsIn {fd : FuncData} (F : FnP K "runs_in" sRunsIn fd) (T : Fre mg) (Drun_of : Df P w K mg base 2 "run_of" ["period", "residue", "least", "most"] spRunOf) (Dgrouped : Df P w K mg base 1 "grouped" ["runs"] (spGrouped K)) (Dunited : Df P w K mg base 4 "united" ["period", "runs"] (spUnited K)) :
    FnOk P w K mg base CX0 5 (He.ga K "runs_in") fd ["period", "spans"] (spRunsIn K) := by
  refine F.ok RunsIn (fun vs H Q E h => ?_) (fun cdv A outer s H vs Q E hr h => ?_)
  · obtain ⟨p, a, xs, ss, rfl, _⟩ := h
    rfl
  · obtain ⟨p, a, xs, ss, rfl, p1, p2, hS, hR, hok, hz, k⟩ := h
    have hlen := hR.length
    have hp : 0 < p := by omega
    have hbig : (10000000 : Nat) < sizeLine := by decide
    obtain ⟨fg, fm⟩ := Rn.found_all hp hok
    refine ⟨_, PSs.nox (pss_cons (ps_set (i := 2) RunsIn.nd rfl (Or.inl rfl) (pe_lstS pa_nil))
      (pss_cons (ps_cut (ps_for PassesOwn.never rfl (pi_seqK (K := K) rfl (pv 1)) (pg_tup rfl (pgs_cons (pg_name (i := 3) RunsIn.nd rfl (Or.inl rfl)) (pgs_cons (pg_name (i := 4) RunsIn.nd rfl (Or.inr rfl)) (pgs_cons (pg_name (i := 5) RunsIn.nd rfl (Or.inr rfl)) pgs_nil)))) (pss_cons (ps_cut (ps_set (i := 6) RunsIn.nd rfl (Or.inl rfl) (pe_ifExp (pt_cmp (pc_isN (pv 3))) (pe_listRg1S rfl rfl T.list rfl T.range (pv 0)) (pe_lstS (pa_cons (pv 3) pa_nil)))))
      (pss_cons (ps_cut (ps_setLc (i := 7) (own := [("one", 8)]) (g := gName 8) (tt := tYes) (by rfl) RunsIn.nd rfl rfl (sw_true rfl rfl rfl (by decide +kernel)) (pi_listK (K := K) rfl (pv 6)) (blkOk_by (own := [("one", 8)]) (N := NRunsIn) (sc := defScope sRunsIn) (by decide +kernel)) (fun _ _ _ _ _ => (pg_name (i := 8) RunsIn.nd rfl (Or.inl rfl))) (fun _ _ _ _ _ => pts_nil) (fun _ _ _ _ _ => (pe_df Drun_of (hr.mono (by decide)) rfl (pa_cons (pv 0) (pa_cons (pv 8) (pa_cons (pv 4) (pa_cons (pv 5) pa_nil))))))))
      (pss_one (ps_expr (pe_bm PySem.F.plainAttrs_list PySem.F.slot_list_extend PySem.F.type_list_extend mt_extend (pv 2) (pa_cons (pe_lc (own := [("run", 9)]) (g := gName 9) (tt := _) (by rfl) RunsIn.nd (pi_listK (K := K) rfl (pv 7)) (blkOk_by (own := [("run", 9)]) (N := NRunsIn) (sc := defScope sRunsIn) (by decide +kernel)) (fun _ _ _ _ _ => (pg_name (i := 9) RunsIn.nd rfl (Or.inl rfl))) (fun _ _ _ _ _ => (pts_one (pt_cmp (pc_notN (pv 9))))) (fun _ _ _ _ _ => (pv 9))) pa_nil))))))))
      (pss_cons (ps_cut (ps_set (i := 10) RunsIn.nd rfl (Or.inr rfl) (pe_df Dgrouped (hr.mono (by decide)) rfl (pa_cons (pv 2) pa_nil))))
      (pss_one (ps_ret (pe_callTy (call_tupS K rfl) (by rfl) T.tuple EW.boot_tuple (pa_cons (pe_lc2 (own := [("residue", 3), ("run", 9)]) (vs1 := [9]) (g := gName 3) (g1 := gName 9) (tt := tYes) (tt1 := tYes) (by rfl) RunsIn.nd (pi_listK (K := K) rfl (pe_callB (cr_sortedIS K rfl) (by rfl) T.sorted EW.boot_sorted (pa_cons (pe_callTy (call_listDS rfl) (by rfl) T.list EW.boot_list (pa_cons (pv 10) pa_nil)) pa_nil))) (blkOk_by (own := [("residue", 3), ("run", 9)]) (N := NRunsIn) (sc := defScope sRunsIn) (by decide +kernel)) (by decide) (fun _ _ _ _ _ => (pg_name (i := 3) RunsIn.nd rfl (Or.inl rfl))) (fun _ _ _ _ _ => pts_nil) (fun _ _ _ _ _ => (pi_listK (K := K) rfl (pe_df Dunited (hr.mono (by decide)) rfl (pa_cons (pv 0) (pa_cons (pe_dget hr.u1 (pv 10) (pv 3) (fun _ _ => rfl)) pa_nil))))) (fun _ _ _ _ _ => (pg_name (i := 9) RunsIn.nd rfl (Or.inl rfl))) (fun _ _ _ _ _ => pts_nil) (fun _ _ _ _ _ => (pv 9))) pa_nil))))))), ?_⟩
    refine ⟨(by show 0 ≤ sizeLine; decide), fun f H1 n1 s1 e1 => ?_⟩
    refine ⟨fun σ' H' => ∃ (u3 u4 u5 u6 u7 u8 u9 u10 : Option V) (vs : List V), σ' = [some (.int p), some (.ref a), some (.ref f), u3, u4, u5, u6, u7, u8, u9, u10] ∧ Same H H' ∧ H' f = some (.lst vs) ∧ Rns K H' vs (ss.flatMap (Rn.foundOf p)), ?_, ?_⟩
    · refine for_seq (xs := xs) (fun R h => ⟨_, rfl, h⟩) hS s1 (fun i σ' H' => ∃ (u3 u4 u5 u6 u7 u8 u9 u10 : Option V) (vs : List V), σ' = [some (.int p), some (.ref a), some (.ref f), u3, u4, u5, u6, u7, u8, u9, u10] ∧ Same H H' ∧ H' f = some (.lst vs) ∧ Rns K H' vs ((ss.take i).flatMap (Rn.foundOf p))) ⟨_, _, _, _, _, _, _, _, _, rfl, s1, e1, by rw [List.take_zero]; exact .nil⟩ ?_ ?_ ?_
      · rintro i σ' H' _ ⟨u3, u4, u5, u6, u7, u8, u9, u10, vs, _, s2, _⟩
        exact s2
      · rintro i x σ' H2 hx ⟨u3, u4, u5, u6, u7, u8, u9, u10, vs, rfl, s2, hf, Rv⟩
        obtain ⟨sp, hy, Sx⟩ := pr_get hR hx
        have et : ss.take (i + 1) = ss.take i ++ [sp] := by
          rw [List.take_add_one, hy]
          rfl
        have hspo : Rn.SpOk p sp := hok sp (List.mem_of_getElem? hy)
        have hbnd : ((ss.take i).flatMap (Rn.foundOf p)).length + (Rn.foundOf p sp).length ≤ 10000000 := by
          have e : ss = ss.take (i + 1) ++ ss.drop (i + 1) := (List.take_append_drop _ _).symm
          rw [e, et, List.flatMap_append, List.flatMap_append, List.length_append, List.length_append] at hz
          have e2 : ([sp].flatMap (Rn.foundOf p)).length = (Rn.foundOf p sp).length := by rw [List.flatMap_cons, List.flatMap_nil, List.append_nil]
          omega
        obtain ⟨ax, rfl, hA⟩ := Tp.same Sx s2
        refine ⟨ax, _, rfl, hA, rfl, _, _, rfl, _, _, rfl, _, _, rfl, rfl, ?_⟩
        refine ⟨fun σ' H' => ∃ L : Addr, σ' = [some (.int p), some (.ref a), some (.ref f), some (ob sp.res), some (ob sp.lo), some (ob sp.hi), some (.ref L), u7, u8, u9, u10] ∧ Same H2 H' ∧ H' L = some (.lst ((Rn.residues p sp).map V.int)), ?_, ?_⟩
        · cases er : sp.res with
          | none =>
            refine ⟨_, rfl, _, rfl, iteT ⟨_, rfl, p, rfl, RgOk.of_le (by omega) (by omega) (by omega) (by omega), fun q H3 n3 s3 e3 => ⟨q, rfl, s3, ?_⟩⟩⟩
            rw [e3, rgV_res er]
          | some r =>
            refine ⟨_, rfl, _, rfl, iteF ⟨_, rfl, (by show 1 ≤ sizeLine; decide), fun q H3 n3 s3 e3 => ⟨q, rfl, s3, ?_⟩⟩⟩
            rw [e3]
            unfold Rn.residues
            rw [er]
            rfl
        · rintro σ' H3 ⟨L, rfl, s3, hL⟩
          refine ⟨fun σ' H' => ∃ (L2 : Addr) (tv : List V), σ' = [some (.int p), some (.ref a), some (.ref f), some (ob sp.res), some (ob sp.lo), some (ob sp.hi), some (.ref L), some (.ref L2), u8, u9, u10] ∧ Same H2 H' ∧ H' L2 = some (.lst tv) ∧ Paired (TV K H') tv ((Rn.residues p sp).map fun one => Rn.runOf p one sp.lo sp.hi), ?_, ?_⟩
          · have hrl := res_len p2 sp
            refine ⟨_, rfl, L, rfl, ⟨_, SqL.of hL⟩, fun D hD => ?_⟩
            refine loop_list (xs := (Rn.residues p sp).map V.int) (fun i H' => ∃ acc : List V, H' D = some (.lst acc) ∧ Same H3 H' ∧ Paired (TV K H') acc (((Rn.residues p sp).take i).map fun one => Rn.runOf p one sp.lo sp.hi)) ⟨[], upd_same, upd_new hD, by rw [List.take_zero]; exact .nil⟩ ?_ ?_ ?_
            · rintro i H' _ ⟨acc, _, s4, _⟩
              exact SqL.of (s4 _ _ hL)
            · rintro i x H4 hx ⟨acc, hDa, s4, R4⟩
              rw [List.getElem?_map] at hx
              obtain ⟨n, hn, rfl⟩ := Option.map_eq_some_iff.mp hx
              have et2 : (Rn.residues p sp).take (i + 1) = (Rn.residues p sp).take i ++ [n] := by
                rw [List.take_add_one, hn]
                rfl
              have hacc : acc.length < sizeLine := by
                have h1 := R4.length
                rw [List.length_map, List.length_take] at h1
                omega
              have fin : ∀ (v : V) (H5 : Hp), Same H4 H5 → TV K H5 v (Rn.runOf p n sp.lo sp.hi) → ∃ acc', H5 D = some (.lst acc') ∧ acc'.length < sizeLine ∧ ∃ acc : List V, (upd H5 D (.lst (acc' ++ [v]))) D = some (.lst acc) ∧ Same H3 (upd H5 D (.lst (acc' ++ [v]))) ∧ Paired (TV K (upd H5 D (.lst (acc' ++ [v])))) acc (((Rn.residues p sp).take (i + 1)).map fun one => Rn.runOf p one sp.lo sp.hi) := by
                intro v H5 s5 tvv
                have hD5 := s5 _ _ hDa
                refine ⟨acc, hD5, hacc, acc ++ [v], upd_same, same_upd (Same.trans s4 s5) hD, ?_⟩
                rw [et2, List.map_append]
                exact tvs_kept (pr_append (tvs_same R4 s5) (.cons tvv .nil)) hD5 Kept.upd
              refine ⟨rfl, ?_⟩
              refine ⟨_, rfl, _, rfl, _, rfl, _, rfl, p, n, sp.lo, sp.hi, rfl, hp, ?_⟩
              cases hro : Rn.runOf p n sp.lo sp.hi with
              | none => exact fun H5 s5 => fin _ H5 s5 (by rw [hro]; rfl)
              | some z => exact fun q H5 n5 s5 e5 => fin _ H5 s5 (by rw [hro]; exact Tp.of e5)
            · rintro H4 ⟨acc, hDa, s4, R4⟩
              rw [List.length_map, List.take_length] at R4
              exact ⟨D, acc, rfl, Same.trans s3 s4, hDa, R4⟩
          · rintro σ' H4 ⟨L2, tv, rfl, s4, hL2, R4⟩
            have hf4 : H4 f = some (.lst vs) := s4 _ _ hf
            refine ⟨_, rfl, Or.inl ⟨rfl, _, SqL.of hf4⟩, _, rfl, L2, rfl, ⟨_, SqL.of hL2⟩, fun D hD => ?_⟩
            refine loop_list (xs := tv) (fun i H' => ∃ acc : List V, H' D = some (.lst acc) ∧ Same H4 H' ∧ Rns K H' acc ((((Rn.residues p sp).map fun one => Rn.runOf p one sp.lo sp.hi).take i).filterMap id)) ⟨[], upd_same, upd_new hD, by rw [List.take_zero]; exact .nil⟩ ?_ ?_ ?_
            · rintro i H' _ ⟨acc, _, s5, _⟩
              exact SqL.of (s5 _ _ hL2)
            · rintro i x H5 hx ⟨acc, hDa, s5, R5⟩
              obtain ⟨o, ho, tvx⟩ := pr_get R4 hx
              have et2 : ((Rn.residues p sp).map fun one => Rn.runOf p one sp.lo sp.hi).take (i + 1) = ((Rn.residues p sp).map fun one => Rn.runOf p one sp.lo sp.hi).take i ++ [o] := by
                rw [List.take_add_one, ho]
                rfl
              refine ⟨rfl, ?_⟩
              cases o with
              | none =>
                have tvx' : x = .non := tvx
                subst tvx'
                refine ⟨_, rfl, _, rfl, iteF ⟨acc, hDa, s5, ?_⟩⟩
                rw [et2, List.filterMap_append]
                show Rns K H5 acc (_ ++ [])
                rw [List.append_nil]
                exact R5
              | some z =>
                obtain ⟨bx, rfl, hB⟩ := tvx
                refine ⟨_, rfl, _, rfl, iteT ⟨_, rfl, acc, hDa, ?_, acc ++ [.ref bx], upd_same, same_upd s5 hD, ?_⟩⟩
                · have h1 := R5.length
                  have h2 := List.length_filterMap_le id (((Rn.residues p sp).map fun one => Rn.runOf p one sp.lo sp.hi).take i)
                  have h3 := res_len p2 sp
                  rw [List.length_take, List.length_map] at h2
                  omega
                · rw [et2, List.filterMap_append]
                  exact Rns.kept (pr_append R5 (.cons ⟨bx, rfl, SqT.same hB s5⟩ .nil)) hDa Kept.upd
            · rintro H5 ⟨acc, hDa, s5, R5⟩
              have e1 : ((Rn.residues p sp).map fun one => Rn.runOf p one sp.lo sp.hi).take tv.length = (Rn.residues p sp).map fun one => Rn.runOf p one sp.lo sp.hi := by
                rw [R4.length, List.take_length]
              have e2 : ((Rn.residues p sp).map fun one => Rn.runOf p one sp.lo sp.hi).filterMap id = Rn.foundOf p sp := by
                rw [List.filterMap_map]
                rfl
              rw [e1, e2] at R5
              have hf5 : H5 f = some (.lst vs) := s5 _ _ hf4
              have l1 := Rv.length
              have l2 := R5.length
              refine ⟨f, D, vs, acc, rfl, rfl, hf5, hDa, by omega, ?_⟩
              have s25 := Same.trans s4 s5
              refine ⟨_, _, _, _, _, _, _, _, vs ++ acc, rfl, same_upd (Same.trans s2 s25) n1, upd_same, ?_⟩
              rw [et, List.flatMap_append]
              refine Rns.kept (pr_append (Rns.same Rv s25) ?_) hf5 Kept.upd
              rw [List.flatMap_cons, List.flatMap_nil, List.append_nil]
              exact R5
      · rintro σ' H2 ⟨u3, u4, u5, u6, u7, u8, u9, u10, vs, rfl, s2, hf, Rv⟩
        rw [hlen, List.take_length] at Rv
        exact ⟨_, _, _, _, _, _, _, _, _, rfl, s2, hf, Rv⟩
    · rintro σ' H2 ⟨u3, u4, u5, u6, u7, u8, u9, u10, vs, rfl, s2, hf, Rv⟩
      have l1 := Rv.length
      refine ⟨fun σ' H' => ∃ (d : Addr) (kvs : List (Key × V)), σ' = [some (.int p), some (.ref a), some (.ref f), u3, u4, u5, u6, u7, u8, u9, some (.ref d)] ∧ Same H H' ∧ H' d = some (.dK kvs) ∧ Grp K H' kvs (ss.flatMap (Rn.foundOf p)), ?_, ?_⟩
      · exact ⟨_, rfl, f, vs, _, rfl, .inl (SqL.of hf), Rv, by omega, fun d H3 kvs n3 s3 e3 G => ⟨d, kvs, rfl, Same.trans s2 s3, e3, G⟩⟩
      · rintro σ' H3 ⟨d, kvs, rfl, s3, hd, G⟩
        have hns : (kvs.map fun kv => kV kv.1) = (kvs.map fun kv => keyI kv.1).map V.int := by
          rw [List.map_map]
          refine List.map_congr_left fun q hq => ?_
          obtain ⟨r, e⟩ := G.itg q hq
          show kV q.1 = V.int (keyI q.1)
          rw [e]
          rfl
        have hnd : (kvs.map fun kv => keyI kv.1).Nodup := keyI_nodup G.itg G.nd
        refine ⟨_, rfl, d, kvs, rfl, hd, fun q1 H4 n4 s4 e4 => ?_⟩
        refine ⟨q1, _, rfl, SqL.of (by rw [e4, hns]), fun ns' pm pw q2 H5 n5 s5 e5 => ?_⟩
        have nd' : ns'.Nodup := pm.nodup_iff.mpr hnd
        have s35 := Same.trans s4 s5
        have G5 := Grp.same G s35
        have hd5 := s35 _ _ hd
        have hin : ∀ r ∈ ns', ∃ v, valV kvs (Sum.inl r : Key) = some v := fun r hr => by
          obtain ⟨q, hq, e⟩ := List.mem_map.mp (pm.mem_iff.mp hr)
          obtain ⟨r', e'⟩ := G.itg q hq
          have er : r' = r := by
            rw [e'] at e
            exact e
          cases hv : valV kvs (Sum.inl r : Key) with
          | some v => exact ⟨v, rfl⟩
          | none =>
            have z := valV_any (Sum.inl r : Key) kvs
            rw [hv] at z
            exact absurd (decide_eq_true (by rw [e', er])) (List.any_eq_false.mp z q hq)
        refine ⟨q2, rfl, ⟨_, SqL.of e5⟩, fun D hD => ?_⟩
        refine loop_list (xs := ns'.map V.int) (fun i H' => ∃ (acc : List V) (gs : List (Int × List Rn.Run)), H' D = some (.lst acc) ∧ Same H5 H' ∧ Rns K H' acc (gs.flatMap (·.2)) ∧ gs.map (·.1) = ns'.take i ∧ ∀ q ∈ gs, Rn.Canon p q.2 ∧ (∀ z ∈ q.2, z.r = q.1) ∧ (∀ t, Rn.inRuns p q.2 t ↔ Rn.inRuns p ((ss.flatMap (Rn.foundOf p)).filter fun z => decide (z.r = q.1)) t) ∧ q.2.length ≤ ((ss.flatMap (Rn.foundOf p)).filter fun z => decide (z.r = q.1)).length) ⟨[], [], upd_same, upd_new hD, .nil, by rw [List.take_zero]; rfl, (fun q hq => nomatch hq)⟩ ?_ ?_ ?_
        · rintro i H' _ ⟨acc, gs, _, s6, _⟩
          exact SqL.of (s6 _ _ e5)
        · rintro i x H6 hx ⟨acc, gs, hDa, s6, R6, hk6, hg6⟩
          rw [List.getElem?_map] at hx
          obtain ⟨r, hr, rfl⟩ := Option.map_eq_some_iff.mp hx
          have et2 : ns'.take (i + 1) = ns'.take i ++ [r] := by
            rw [List.take_add_one, hr]
            rfl
          obtain ⟨v, hv⟩ := hin r (List.mem_of_getElem? hr)
          obtain ⟨⟨l0, ys0, rfl, hl0, R0⟩, _⟩ := G5.yes r v hv
          have hfl := List.length_filter_le (fun z : Rn.Run => decide (z.r = r)) (ss.flatMap (Rn.foundOf p))
          have l0l := R0.length
          refine ⟨rfl, ?_⟩
          refine ⟨_, rfl, _, rfl, _, rfl, d, .ref l0, rfl, ?_, ?_⟩
          · rw [← hv]
            exact DGet.k (k := (Sum.inl r : Key)) (s6 _ _ hd5)
          refine ⟨p, r, l0, ys0, _, rfl, hp, s6 _ _ hl0, Rns.same R0 s6, (fun z hz => ⟨fg z (List.mem_filter.mp hz).1, of_decide_eq_true (List.mem_filter.mp hz).2⟩), by omega, fun l H7 ys ws n7 s7 e7 R7 cn hw hm hle => ?_⟩
          have hD7 := s7 _ _ hDa
          have hndk : ((gs ++ [(r, ws)]).map (·.1)).Nodup := by
            rw [List.map_append, hk6]
            show (ns'.take i ++ [r]).Nodup
            rw [← et2]
            exact List.Sublist.nodup (List.take_sublist _ _) nd'
          have hall : ∀ q ∈ gs ++ [(r, ws)], Rn.Canon p q.2 ∧ (∀ z ∈ q.2, z.r = q.1) ∧ (∀ t, Rn.inRuns p q.2 t ↔ Rn.inRuns p ((ss.flatMap (Rn.foundOf p)).filter fun z => decide (z.r = q.1)) t) ∧ q.2.length ≤ ((ss.flatMap (Rn.foundOf p)).filter fun z => decide (z.r = q.1)).length := fun q hq => by
            rcases List.mem_append.mp hq with hq | hq
            · exact hg6 q hq
            · rw [List.mem_singleton.mp hq]
              exact ⟨cn, hw, hm, hle⟩
          have hlen7 : ((gs ++ [(r, ws)]).flatMap (·.2)).length ≤ (ss.flatMap (Rn.foundOf p)).length := Rn.join_len hndk fun q hq => (hall q hq).2.2.2
          have el : (gs ++ [(r, ws)]).flatMap (·.2) = gs.flatMap (·.2) ++ ws := by
            rw [List.flatMap_append, List.flatMap_cons, List.flatMap_nil, List.append_nil]
          rw [el, List.length_append] at hlen7
          have hlD : l ≠ D := fun z => by rw [z, hDa] at n7; cases n7
          refine ⟨l, rfl, ⟨_, SqL.of e7⟩, ?_⟩
          refine loop_list (xs := ys) (fun j H' => ∃ acc' : List V, H' D = some (.lst acc') ∧ EW.Kept D H7 H' ∧ Rns K H' acc' (gs.flatMap (·.2) ++ ws.take j)) ⟨acc, hD7, EW.Kept.refl _ _, by rw [List.take_zero, List.append_nil]; exact Rns.same R6 s7⟩ ?_ ?_ ?_
          · rintro j H' _ ⟨acc', _, k8, _⟩
            exact SqL.of (k8 _ _ hlD e7)
          · rintro j x H8 hxj ⟨acc', hD8, k8, R8⟩
            obtain ⟨y, hy, Sx⟩ := pr_get R7 hxj
            have et3 : ws.take (j + 1) = ws.take j ++ [y] := by
              rw [List.take_add_one, hy]
              rfl
            refine ⟨rfl, ?_⟩
            refine ⟨_, rfl, acc', hD8, ?_, acc' ++ [x], upd_same, k8.trans Kept.upd, ?_⟩
            · have h1 := R8.length
              rw [List.length_append, List.length_take] at h1
              omega
            · rw [et3, ← List.append_assoc]
              exact Rns.kept (pr_append R8 (.cons (Tp.kept Sx hD7 k8) .nil)) hD8 Kept.upd
          · rintro H8 ⟨acc', hD8, k8, R8⟩
            have e8 : ws.take ys.length = ws := by rw [R7.length, List.take_length]
            rw [e8] at R8
            refine ⟨acc', gs ++ [(r, ws)], hD8, (fun c o h => k8 c o (fun z => by rw [z, hD] at h; cases h) (s7 c o (s6 c o h))), by rw [el]; exact R8, ?_, hall⟩
            rw [List.map_append, hk6, et2]
            rfl
        · rintro H6 ⟨acc, gs, hDa, s6, R6, hk6, hg6⟩
          rw [List.length_map, List.take_length] at hk6
          refine ⟨D, acc, rfl, SqL.of hDa, fun l H7 n7 s7 e7 => ?_⟩
          have s56 := Same.trans s3 (Same.trans s35 s6)
          refine k l H7 acc (gs.flatMap (·.2)) (s56.free n7) (Same.trans s56 s7) e7 (Rns.same R6 s7) ?_ (fun t => ?_) ?_
          · exact Rn.canon_join (by rw [hk6]; exact Rn.sorted_lt pw nd') fun q hq => ⟨(hg6 q hq).1, (hg6 q hq).2.1⟩
          · rw [Rn.join_mem (all := ss.flatMap (Rn.foundOf p)) (fun z hz => ?_) fun q hq => (hg6 q hq).2.2.1]
            · exact fm t
            · rw [hk6]
              refine pm.mem_iff.mpr ?_
              cases hv : valV kvs (Sum.inl z.r : Key) with
              | none => exact absurd rfl (G.no _ hv z hz)
              | some v =>
                obtain ⟨q, hq, e⟩ := valV_mem hv
                exact List.mem_map.mpr ⟨q, hq, by rw [e]; rfl⟩
          · exact Rn.join_len (by rw [hk6]; exact nd') fun q hq => (hg6 q hq).2.2.2
end
end TM
end

section

namespace Rn
variable {p r : Int}
/-- what lies between begin and a run's least time -/
def ahead (p r : Int) (b lo : Option Int) : List Sp3 := match lo with
  | none => []
  | some l => match b with
    | none => [⟨some r, none, some (l - p)⟩]
    | some c => if c < l then [⟨some r, some c, some (l - p)⟩] else []
/-- what lies between runs of one residue and behind them, from begin on -/
def outs (p r : Int) : Option Int → List Run → List Sp3
  | b, [] => [⟨some r, b, none⟩]
  | b, x :: xs => ahead p r b x.lo ++ match x.hi with
    | none => []
    | some h => outs p r (some (h + p)) xs
theorem ahead_res {b lo : Option Int} : ∀ s ∈ ahead p r b lo, s.res = some r := by
  intro s hs
  unfold ahead at hs
  cases lo with
  | none => cases hs
  | some l =>
    cases b with
    | none => exact (List.mem_singleton.mp hs) ▸ rfl
    | some c =>
      simp only at hs
      split at hs
      · exact (List.mem_singleton.mp hs) ▸ rfl
      · cases hs
theorem ahead_len {b lo : Option Int} : (ahead p r b lo).length ≤ 1 := by
  unfold ahead
  split
  · exact Nat.zero_le _
  · split
    · exact Nat.le_refl _
    · split
      · exact Nat.le_refl _
      · exact Nat.zero_le _
theorem outs_res : ∀ {xs : List Run} {b : Option Int}, ∀ s ∈ outs p r b xs, s.res = some r
  | [], b => fun s hs => by rw [outs, List.mem_singleton] at hs; rw [hs]
  | x :: xs, b => fun s hs => by
    rw [outs] at hs
    rcases List.mem_append.mp hs with hs | hs
    · exact ahead_res s hs
    · cases hh : x.hi with
      | none => rw [hh] at hs; cases hs
      | some h =>
        rw [hh] at hs
        exact outs_res s hs
theorem outs_len : ∀ {xs : List Run} {b : Option Int}, (outs p r b xs).length ≤ xs.length + 1
  | [], b => by rw [outs]; exact Nat.le_refl _
  | x :: xs, b => by
    rw [outs, List.length_append, List.length_cons]
    have h1 := ahead_len (p := p) (r := r) (b := b) (lo := x.lo)
    have h2 : (match x.hi with
      | none => ([] : List Sp3)
      | some h => outs p r (some (h + p)) xs).length ≤ xs.length + 1 := by
      split
      · exact Nat.zero_le _
      · exact outs_len
    omega
/-- begin fits the runs that follow -/
def Fits (p r : Int) (b : Option Int) (xs : List Run) : Prop := ∀ c, b = some c → c % p = r ∧ ∀ x ∈ xs, ∃ l, x.lo = some l ∧ c < l
theorem outs_mem (hp : 0 < p) (r0 : 0 ≤ r) (r1 : r < p) : ∀ {xs : List Run} {b : Option Int}, Canon p xs → (∀ x ∈ xs, x.r = r) → Fits p r b xs → ∀ t, t % p = r → (inSpans p (outs p r b xs) t ↔ geLo b t ∧ ¬ inRuns p xs t)
  | [], b, c, hr, hf, t, ht => by
    rw [outs]
    constructor
    · rintro ⟨s, hs, h1, h2, h3⟩
      rw [List.mem_singleton] at hs
      subst hs
      exact ⟨h2, fun ⟨x, hx, _⟩ => nomatch hx⟩
    · rintro ⟨h1, _⟩
      exact ⟨_, List.mem_singleton.mpr rfl, fun q e => by cases e; exact ht, h1, fun m e => nomatch e⟩
  | x :: xs, b, c, hr, hf, t, ht => by
    have gx := c.head
    have xr : x.r = r := hr x List.mem_cons_self
    have inx : inRun p x t ↔ geLo x.lo t ∧ leHi x.hi t := ⟨fun h => h.2, fun h => ⟨ht.trans xr.symm, h⟩⟩
    have tl : inRuns p (x :: xs) t ↔ inRun p x t ∨ inRuns p xs t := by
      constructor
      · rintro ⟨y, hy, m⟩
        rcases List.mem_cons.mp hy with rfl | hy
        · exact .inl m
        · exact .inr ⟨y, hy, m⟩
      · rintro (m | ⟨y, hy, m⟩)
        · exact ⟨x, List.mem_cons_self, m⟩
        · exact ⟨y, List.mem_cons_of_mem _ hy, m⟩
    rw [outs]
    -- the part ahead of x
    have hA : inSpans p (ahead p r b x.lo) t ↔ geLo b t ∧ ∃ l, x.lo = some l ∧ t < l := by
      unfold ahead
      cases hl : x.lo with
      | none =>
        constructor
        · rintro ⟨s, hs, _⟩
          cases hs
        · rintro ⟨_, l, e, _⟩
          cases e
      | some l =>
        have lm : l % p = t % p := (gx.lo l hl).trans (xr.trans ht.symm)
        have key : t ≤ l - p ↔ t < l := by
          constructor
          · intro h
            omega
          · intro h
            have := step_of hp lm.symm h
            omega
        cases b with
        | none =>
          constructor
          · rintro ⟨s, hs, h1, h2, h3⟩
            rw [List.mem_singleton] at hs
            subst hs
            exact ⟨h2, l, rfl, key.mp (h3 _ rfl)⟩
          · rintro ⟨h1, l', e, h2⟩
            cases e
            exact ⟨_, List.mem_singleton.mpr rfl, fun q e => by cases e; exact ht, h1, fun m e => by cases e; exact key.mpr h2⟩
        | some d =>
          obtain ⟨l', e, hlt⟩ := (hf d rfl).2 x List.mem_cons_self
          rw [hl] at e
          cases e
          simp only
          rw [if_pos hlt]
          constructor
          · rintro ⟨s, hs, h1, h2, h3⟩
            rw [List.mem_singleton] at hs
            subst hs
            exact ⟨h2, l, rfl, key.mp (h3 _ rfl)⟩
          · rintro ⟨h1, l', e, h2⟩
            cases e
            exact ⟨_, List.mem_singleton.mpr rfl, fun q e => by cases e; exact ht, h1, fun m e => by cases e; exact key.mpr h2⟩
    have app : ∀ {as bs : List Sp3}, inSpans p (as ++ bs) t ↔ inSpans p as t ∨ inSpans p bs t := by
      intro as bs
      constructor
      · rintro ⟨s, hs, m⟩
        rcases List.mem_append.mp hs with hs | hs
        · exact .inl ⟨s, hs, m⟩
        · exact .inr ⟨s, hs, m⟩
      · rintro (⟨s, hs, m⟩ | ⟨s, hs, m⟩)
        · exact ⟨s, List.mem_append_left _ hs, m⟩
        · exact ⟨s, List.mem_append_right _ hs, m⟩
    rw [app, hA, tl, inx]
    -- begin lies at or ahead of x
    have bx : ∀ l, x.lo = some l → l ≤ t → geLo b t := fun l hl h d e => by
      obtain ⟨l', e', hlt⟩ := (hf d e).2 x List.mem_cons_self
      rw [hl] at e'
      cases e'
      omega
    have bn : x.lo = none → b = none := fun hl => by
      cases b with
      | none => rfl
      | some d =>
        obtain ⟨l', e', _⟩ := (hf d rfl).2 x List.mem_cons_self
        rw [hl] at e'
        cases e'
    have notx : ¬ geLo x.lo t ↔ ∃ l, x.lo = some l ∧ t < l := by
      constructor
      · intro h
        cases hl : x.lo with
        | none => exact absurd (fun l e => by rw [hl] at e; cases e) h
        | some l =>
          rcases Int.lt_or_le t l with z | z
          · exact ⟨l, rfl, z⟩
          · exact absurd (fun l' e => by rw [hl] at e; cases e; exact z) h
      · rintro ⟨l, hl, h⟩ g
        have := g l hl
        omega
    cases hh : x.hi with
    | none =>
      have e0 : inSpans p ([] : List Sp3) t ↔ False := ⟨(fun ⟨s, hs, _⟩ => nomatch hs), False.elim⟩
      have nxs : inRuns p xs t → False := fun ⟨y, hy, m⟩ => later_none c hy m (ht.trans xr.symm) hh
      simp only
      rw [e0]
      constructor
      · rintro (⟨h1, l, hl, h2⟩ | h)
        · refine ⟨h1, ?_⟩
          rintro (⟨g, _⟩ | h)
          · have := g l hl
            omega
          · exact nxs h
        · exact h.elim
      · rintro ⟨h1, h2⟩
        refine .inl ⟨h1, notx.mp fun g => h2 (.inl ⟨g, fun m e => nomatch e⟩)⟩
    | some h =>
      have hm : h % p = r := (gx.hi h hh).trans xr
      have hf' : Fits p r (some (h + p)) xs := fun d e => by
        cases e
        refine ⟨by rw [Int.add_emod_right]; exact hm, fun y hy => ?_⟩
        rcases c.lt y hy with z | ⟨_, h', l, e1, e2, e3⟩
        · have := hr y (List.mem_cons_of_mem _ hy)
          omega
        · rw [hh] at e1
          cases e1
          exact ⟨l, e2, e3⟩
      have ih := outs_mem hp r0 r1 c.tail (fun y hy => hr y (List.mem_cons_of_mem _ hy)) hf' t ht
      simp only
      rw [ih]
      have key : h + p ≤ t ↔ h < t := by
        constructor
        · intro z
          omega
        · intro z
          exact step_of hp (hm.trans ht.symm) z
      have gl : geLo (some (h + p)) t ↔ h < t := by
        constructor
        · intro g
          exact key.mp (g _ rfl)
        · intro z d e
          cases e
          exact key.mpr z
      rw [gl]
      have le : leHi (some h) t ↔ t ≤ h := ⟨fun g => g _ rfl, fun z d e => by cases e; exact z⟩
      rw [le]
      have late : inRuns p xs t → h < t := fun ⟨y, hy, m⟩ => by
        have := later c hy m (ht.trans xr.symm) hh
        omega
      have lolh : ∀ l, x.lo = some l → l ≤ h := fun l hl => gx.le l h hl hh
      constructor
      · rintro (⟨h1, l, hl, h2⟩ | ⟨h1, h2⟩)
        · refine ⟨h1, ?_⟩
          rintro (⟨g, _⟩ | z)
          · have := g l hl
            omega
          · have := late z
            have := lolh l hl
            omega
        · refine ⟨?_, ?_⟩
          · cases hl : x.lo with
            | none =>
              rw [bn hl]
              exact fun _ e => nomatch e
            | some l =>
              have := lolh l hl
              exact bx l hl (by omega)
          · rintro (⟨_, z⟩ | z)
            · omega
            · exact h2 z
      · rintro ⟨h1, h2⟩
        rcases Int.lt_or_le h t with z | z
        · exact .inr ⟨z, fun q => h2 (.inr q)⟩
        · exact .inl ⟨h1, notx.mp fun g => h2 (.inl ⟨g, z⟩)⟩
end Rn
end

section
set_option maxHeartbeats 4000000
namespace TM
open PySem PySem.Spec PyProof.Rows L2 EW
theorem iteB {b : Bool} {A B : Prop} (e : b = true) (h : A) : if b = true then A else B := by
  rw [e]
  exact iteT h
theorem iteC {b : Bool} {A B : Prop} (e : b = false) (h : B) : if b = true then A else B := by
  rw [e]
  exact iteF h
abbrev NOutside : List Str := ["period", "residue", "runs", "found", "begin", "same", "low", "high"]
theorem Outside : FnScope NOutside ["period", "residue", "runs"] (defScope sOutside) := ⟨rfl, rfl, rfl, by decide +kernel, rfl, by decide +kernel, by decide +kernel⟩
abbrev NMember : List Str := ["period", "runs", "time", "residue", "some", "run"]
theorem Member : FnScope NMember ["period", "runs", "time"] (defScope sMember) := ⟨rfl, rfl, rfl, by decide +kernel, rfl, by decide +kernel, by decide +kernel⟩
def spOutside (K : W.Frag) : Sp := fun vs H Q _ => ∃ (p r : Int) (a : Addr) (xs : List V) (zs : List Rn.Run), vs = [.int p, .int r, .ref a] ∧ H a = some (.lst xs) ∧ Rns K H xs zs ∧ xs.length ≤ 10000000 ∧
  ∀ (l : Addr) (H' : Hp) (ys : List V), H l = none → Same H H' → H' l = some (.lst ys) → Sns K H' ys (Rn.outs p r none zs) → Q (.ref l) H'
def spMember (K : W.Frag) : Sp := fun vs H Q _ => ∃ (p t : Int) (a : Addr) (xs : List V) (zs : List Rn.Run), vs = [.int p, .ref a, .int t] ∧ 0 < p ∧ SqT K H a xs ∧ Rns K H xs zs ∧ xs.length ≤ 10000000 ∧
  ∀ (b : Bool) (H' : Hp), (b = true ↔ Rn.inRuns p zs t) → Same H H' → Q (.bl b) H'
section
variable {P : Program} {w : World} {K : W.Frag} {mg : Str → Option Value} {base : Heap}
theorem ok_outside {fd : FuncData} (F : FnP K "outside_runs" sOutside fd) : FnOk P w K mg base CX0 1 (He.ga K "outside_runs") fd ["period", "residue", "runs"] (spOutside K) := by
  refine F.ok Outside (fun vs H Q E h => ?_) (fun cdv A outer s H vs Q E hr h => ?_)
  · obtain ⟨p, r, a, xs, zs, rfl, _⟩ := h
    rfl
  · obtain ⟨p, r, a, xs, zs, rfl, hA, hR, hz, k⟩ := h
    have hlen := hR.length
    have hbig : (10000000 : Nat) + 1 < sizeLine := by decide
    refine ⟨_, PSs.nox (pss_cons (ps_set (i := 3) Outside.nd rfl (Or.inl rfl) (pe_lstS pa_nil))
      (pss_cons (ps_set (i := 4) Outside.nd rfl (Or.inl rfl) pe_non)
      (pss_cons (ps_for PassesOwn.never rfl (pi_listK (K := K) rfl (pv 2)) (pg_tup rfl (pgs_cons (pg_name (i := 5) Outside.nd rfl (Or.inl rfl)) (pgs_cons (pg_name (i := 6) Outside.nd rfl (Or.inl rfl)) (pgs_cons (pg_name (i := 7) Outside.nd rfl (Or.inl rfl)) pgs_nil)))) (pss_cons (ps_cut (ps_if (PW.pt (pw_and (pt_cmp (pc_notN (pv 6))) (pw_and1 (PW.pt (pw_or (pt_cmp (pc_isN (pv 4))) (pw_or1 (pt_cmpR op_lt (pv 4) (pv 6) (nomark _)))))))) (pss_one (ps_expr (pe_bm PySem.F.plainAttrs_list PySem.F.slot_list_append PySem.F.type_list_append mt_append (pv 3) (pa_cons (pe_tupS (pa_cons (pv 1) (pa_cons (pv 4) (pa_cons (pe_op op_sub (pv 6) (pv 0)) pa_nil)))) pa_nil)))) pss_nil))
      (pss_cons (ps_if (pt_cmp (pc_isN (pv 7))) (pss_one (ps_ret (pv 3))) pss_nil)
      (pss_one (ps_set (i := 4) Outside.nd rfl (Or.inl rfl) (pe_op op_add (pv 7) (pv 0)))))))
      (pss_one (ps_ret (pe_lstS (StX.pa_star (pv 3) (pa_cons (pe_tupS (pa_cons (pv 1) (pa_cons (pv 4) (pa_cons pe_non pa_nil)))) pa_nil)))))))), ?_⟩
    refine ⟨(by show 0 ≤ sizeLine; decide), fun f H1 n1 s1 e1 => ?_⟩
    refine ⟨_, rfl, a, rfl, ⟨_, SqL.of (s1 _ _ hA)⟩, ?_⟩
    refine for_list (K := K) (a := a) (xs := xs) (fun i σ' H' => ∃ (u5 u6 u7 : Option V) (b : Option Int) (vs : List V) (fs : List Rn.Sp3), σ' = [some (.int p), some (.int r), some (.ref a), some (.ref f), some (ob b), u5, u6, u7] ∧ Same H H' ∧ H' f = some (.lst vs) ∧ Sns K H' vs fs ∧ fs ++ Rn.outs p r b (zs.drop i) = Rn.outs p r none zs ∧ vs.length ≤ i) ⟨_, _, _, none, [], [], rfl, s1, e1, .nil, rfl, Nat.le_refl _⟩ ?_ ?_ ?_
    · rintro i σ' H' _ ⟨u5, u6, u7, b, vs, fs, _, s2, _⟩
      exact SqL.of (s2 _ _ hA)
    · rintro i x σ' H2 hx ⟨u5, u6, u7, b, vs, fs, rfl, s2, hf, Rf, ef, hvi⟩
      obtain ⟨y, hy, Sx⟩ := pr_get hR hx
      have hyi : i < zs.length := (List.getElem?_eq_some_iff.mp hy).1
      have ed : zs.drop i = y :: zs.drop (i + 1) := by
        rw [List.drop_eq_getElem_cons hyi]
        congr 1
        exact Option.some.inj ((List.getElem?_eq_getElem hyi).symm.trans hy)
      rw [ed, Rn.outs] at ef
      obtain ⟨ax, rfl, hX⟩ := Tp.same Sx s2
      refine ⟨ax, _, rfl, hX, rfl, _, _, rfl, _, _, rfl, _, _, rfl, rfl, ?_⟩
      refine ⟨fun σ' H' => ∃ vs' : List V, σ' = [some (.int p), some (.int r), some (.ref a), some (.ref f), some (ob b), some (.int y.r), some (ob y.lo), some (ob y.hi)] ∧ Same H H' ∧ H' f = some (.lst vs') ∧ Sns K H' vs' (fs ++ Rn.ahead p r b y.lo) ∧ vs'.length ≤ i + 1, ?_, ?_⟩
      · obtain ⟨ry, ly, hy'⟩ := y
        cases ly with
        | none =>
          refine ⟨_, rfl, _, rfl, iteF (iteF ?_)⟩
          exact ⟨vs, rfl, s2, hf, by show Sns K H2 vs (fs ++ []); rw [List.append_nil]; exact Rf, by omega⟩
        | some l =>
          refine ⟨_, rfl, _, rfl, iteT ⟨_, rfl, _, rfl, ?_⟩⟩
          cases b with
          | none =>
            refine iteT (iteT ?_)
            refine ⟨_, rfl, Or.inl ⟨rfl, _, SqL.of hf⟩, _, rfl, _, rfl, _, rfl, _, rfl, _, _, rfl, rfl, (by show 3 ≤ sizeLine; decide), fun q H3 n3 s3 e3 => ⟨f, vs, _, rfl, rfl, s3 _ _ hf, by omega, ?_⟩⟩
            refine ⟨vs ++ [.ref q], rfl, same_upd (Same.trans s2 s3) n1, upd_same, ?_, by rw [List.length_append]; exact Nat.succ_le_succ hvi⟩
            exact Sns.kept (pr_append (Sns.same Rf s3) (.cons (Tp.of e3) .nil)) (s3 _ _ hf) Kept.upd
          | some c =>
            refine iteF ⟨_, rfl, _, rfl, _, _, rfl, rfl, _, rfl, ?_⟩
            have ea : Rn.ahead p r (some c) (some l) = if c < l then [⟨some r, some c, some (l - p)⟩] else [] := rfl
            by_cases hcl : c < l
            · rw [decide_eq_true hcl]
              refine iteT ?_
              refine ⟨_, rfl, Or.inl ⟨rfl, _, SqL.of hf⟩, _, rfl, _, rfl, _, rfl, _, rfl, _, _, rfl, rfl, (by show 3 ≤ sizeLine; decide), fun q H3 n3 s3 e3 => ⟨f, vs, _, rfl, rfl, s3 _ _ hf, by omega, ?_⟩⟩
              refine ⟨vs ++ [.ref q], rfl, same_upd (Same.trans s2 s3) n1, upd_same, ?_, by rw [List.length_append]; exact Nat.succ_le_succ hvi⟩
              show Sns K _ _ (fs ++ Rn.ahead p r (some c) (some l))
              rw [ea, if_pos hcl]
              exact Sns.kept (pr_append (Sns.same Rf s3) (.cons (Tp.of e3) .nil)) (s3 _ _ hf) Kept.upd
            · rw [decide_eq_false hcl]
              refine iteF ?_
              refine ⟨vs, rfl, s2, hf, ?_, by omega⟩
              show Sns K _ _ (fs ++ Rn.ahead p r (some c) (some l))
              rw [ea, if_neg hcl, List.append_nil]
              exact Rf
      · rintro σ' H3 ⟨vs', rfl, s3, hf3, R3, hv3⟩
        obtain ⟨ry, ly, hy'⟩ := y
        cases hy' with
        | none =>
          refine ⟨_, rfl, _, rfl, iteT ⟨_, rfl, ?_⟩⟩
          refine k f H3 vs' n1 s3 hf3 ?_
          have ef' : fs ++ (Rn.ahead p r b ly ++ []) = Rn.outs p r none zs := ef
          rw [List.append_nil] at ef'
          rw [← ef']
          exact R3
        | some h =>
          refine ⟨_, rfl, _, rfl, iteF ⟨_, rfl, _, rfl, _, _, rfl, rfl, ?_⟩⟩
          refine ⟨_, _, _, some (h + p), vs', fs ++ Rn.ahead p r b ly, rfl, s3, hf3, R3, ?_, hv3⟩
          rw [List.append_assoc]
          exact ef
    · rintro σ' H2 ⟨u5, u6, u7, b, vs, fs, rfl, s2, hf, Rf, ef, hvi⟩
      rw [hlen, List.drop_length, Rn.outs] at ef
      refine ⟨_, rfl, f, vs, rfl, .inr (SqL.of hf), _, rfl, _, rfl, (by show 3 ≤ sizeLine; decide), fun q H3 n3 s3 e3 => ⟨?_, fun l H4 n4 s4 e4 => ?_⟩⟩
      · rw [List.length_append]
        show vs.length + 1 ≤ sizeLine
        omega
      have s24 := Same.trans s2 s3
      refine k l H4 _ (s24.free n4) (Same.trans s24 s4) e4 ?_
      rw [← ef]
      exact Sns.same (pr_append (Sns.same Rf s3) (.cons (Tp.of e3) .nil)) s4
end
end TM
end

section
set_option maxHeartbeats 4000000
namespace TM
open PySem PySem.Spec PyProof.Rows L2 EW
section
variable {P : Program} {w : World} {K : W.Frag} {mg : Str → Option Value} {base : Heap}
/-- is t between the bounds of a run -/
def within (z : Rn.Run) (t : Int) : Bool := (match z.lo with
  | none => true
  | some l => decide (l ≤ t)) && match z.hi with
  | none => true
  | some h => decide (t ≤ h)
theorem within_iff {p t : Int} {zs : List Rn.Run} : ((zs.filter fun z => decide (z.r = t % p)).any fun z => within z t) = true ↔ Rn.inRuns p zs t := by
  rw [List.any_eq_true]
  have one : ∀ z : Rn.Run, within z t = true ↔ Rn.geLo z.lo t ∧ Rn.leHi z.hi t := fun z => by
    obtain ⟨r, lo, hi⟩ := z
    unfold within Rn.geLo Rn.leHi
    cases lo <;> cases hi <;> simp
  constructor
  · rintro ⟨z, hz, m⟩
    obtain ⟨h1, h2⟩ := List.mem_filter.mp hz
    exact ⟨z, h1, (of_decide_eq_true h2).symm, (one z).mp m⟩
  · rintro ⟨z, hz, m, g⟩
    exact ⟨z, List.mem_filter.mpr ⟨hz, decide_eq_true m.symm⟩, (one z).mpr g⟩
theorem ok_member {fd : FuncData} (F : FnP K "is_member" sMember fd) (T : Fre mg) : FnOk P w K mg base CX0 1 (He.ga K "is_member") fd ["period", "runs", "time"] (spMember K) := by
  refine F.ok Member (fun vs H Q E h => ?_) (fun cdv A outer s H vs Q E hr h => ?_)
  · obtain ⟨p, t, a, xs, zs, rfl, _⟩ := h
    rfl
  · obtain ⟨p, t, a, xs, zs, rfl, hp, hS, hR, hz, k⟩ := h
    have hlen := hR.length
    have hbig : (10000000 : Nat) + 1 < sizeLine := by decide
    refine ⟨_, PSs.nox (pss_cons (ps_set (i := 3) Member.nd rfl (Or.inr rfl) (pe_op op_mod (pe_callTy call_int1 (by rfl) T.int EW.boot_int (pa_cons (pv 2) pa_nil)) (pv 0)))
      (pss_cons (ps_cut (ps_setLc (i := 4) (own := [("run", 5)]) (g := gName 5) (tt := _) (by rfl) Member.nd rfl rfl (sw_true rfl rfl rfl (by decide +kernel)) (pi_tupK (K := K) rfl (pv 1)) (blkOk_by (own := [("run", 5)]) (N := NMember) (sc := defScope sMember) (by decide +kernel)) (fun _ _ _ _ _ => (pg_name (i := 5) Member.nd rfl (Or.inl rfl))) (fun _ _ _ _ _ => (pts_one (pt_cmpR op_eq (pe_ix (ix_tupK K rfl) (pv 5) pe_int (fun _ _ => rfl)) (pv 3) (nomark _)))) (fun _ _ _ _ _ => (pv 5))))
      (pss_one (ps_ret (pe_callB (cr_anyK K rfl rfl) (by rfl) T.any EW.boot_any (pa_cons (pe_lc (own := [("run", 5)]) (g := gName 5) (tt := tYes) (by rfl) Member.nd (pi_listK (K := K) rfl (pv 4)) (blkOk_by (own := [("run", 5)]) (N := NMember) (sc := defScope sMember) (by decide +kernel)) (fun _ _ _ _ _ => (pg_name (i := 5) Member.nd rfl (Or.inl rfl))) (fun _ _ _ _ _ => pts_nil) (fun _ _ _ _ _ => (pe_and (pe_or (pe_cmp (pc_isN (pe_ix (ix_tupK K rfl) (pv 5) pe_int (fun _ _ => rfl)))) (pe_one (pe_cmpR op_le (pe_ix (ix_tupK K rfl) (pv 5) pe_int (fun _ _ => rfl)) (pv 2) (nomark _)))) (pe_one (pe_or (pe_cmp (pc_isN (pe_ix (ix_tupK K rfl) (pv 5) pe_int (fun _ _ => rfl)))) (pe_one (pe_cmpR op_le (pv 2) (pe_ix (ix_tupK K rfl) (pv 5) pe_int (fun _ _ => rfl)) (nomark _)))))))) pa_nil)))))), ?_⟩
    refine ⟨_, rfl, Or.inl ⟨_, rfl, _, rfl, _, _, rfl, rfl, hp, ?_⟩⟩
    refine ⟨fun σ' H' => ∃ (L : Addr) (vs : List V), σ' = [some (.int p), some (.ref a), some (.int t), some (.int (t % p)), some (.ref L), none] ∧ Same H H' ∧ H' L = some (.lst vs) ∧ Rns K H' vs (zs.filter fun z => decide (z.r = t % p)), ?_, ?_⟩
    · refine ⟨_, rfl, a, rfl, ⟨_, hS⟩, fun D hD => ?_⟩
      refine loop_tup (xs := xs) (fun i H' => ∃ acc : List V, H' D = some (.lst acc) ∧ Same H H' ∧ Rns K H' acc ((zs.take i).filter fun z => decide (z.r = t % p))) ⟨[], upd_same, upd_new hD, by rw [List.take_zero]; exact .nil⟩ ?_ ?_ ?_
      · rintro i H' _ ⟨acc, _, s1, _⟩
        exact SqT.same hS s1
      · rintro i x H1 hx ⟨acc, hDa, s1, R1⟩
        obtain ⟨y, hy, Sx⟩ := pr_get hR hx
        have et : zs.take (i + 1) = zs.take i ++ [y] := by
          rw [List.take_add_one, hy]
          rfl
        obtain ⟨ax, rfl, hX⟩ := Tp.same Sx s1
        refine ⟨rfl, ?_⟩
        refine ⟨_, rfl, ax, _, _, _, rfl, rfl, hX, rfl, _, rfl, rfl, _, rfl, ?_⟩
        rw [et, List.filter_append, List.filter_cons]
        by_cases c : y.r = t % p
        · rw [if_pos (decide_eq_true c)]
          refine iteB (decide_eq_true (by rw [show ob y.span.res = V.int y.r from rfl, c])) ?_
          refine ⟨_, rfl, acc, hDa, ?_, acc ++ [.ref ax], upd_same, same_upd s1 hD, ?_⟩
          · have h1 := R1.length
            have h2 := List.length_filter_le (fun z : Rn.Run => decide (z.r = t % p)) (zs.take i)
            rw [List.length_take] at h2
            omega
          · exact Rns.kept (pr_append R1 (.cons ⟨ax, rfl, hX⟩ .nil)) hDa Kept.upd
        · rw [if_neg (by simpa using c)]
          refine iteC (decide_eq_false (fun z => c (V.int.inj z))) ?_
          refine ⟨acc, hDa, s1, ?_⟩
          show Rns K H1 acc (_ ++ [])
          rw [List.append_nil]
          exact R1
      · rintro H1 ⟨acc, hDa, s1, R1⟩
        rw [hlen, List.take_length] at R1
        exact ⟨D, acc, rfl, s1, hDa, R1⟩
    · rintro σ' H1 ⟨L, vs, rfl, s1, hL, R1⟩
      have l1 := R1.length
      have l2 := List.length_filter_le (fun z : Rn.Run => decide (z.r = t % p)) zs
      refine ⟨_, rfl, L, rfl, ⟨_, SqL.of hL⟩, fun D hD => ?_⟩
      refine loop_list (xs := vs) (fun i H' => ∃ bs : List Bool, H' D = some (.lst (bs.map V.bl)) ∧ Same H1 H' ∧ bs = ((zs.filter fun z => decide (z.r = t % p)).take i).map fun z => within z t) ⟨[], upd_same, upd_new hD, by rw [List.take_zero]; rfl⟩ ?_ ?_ ?_
      · rintro i H' _ ⟨bs, _, s2, _⟩
        exact SqL.of (s2 _ _ hL)
      · rintro i x H2 hx ⟨bs, hDa, s2, eb⟩
        obtain ⟨y, hy, Sx⟩ := pr_get R1 hx
        have et : (zs.filter fun z => decide (z.r = t % p)).take (i + 1) = (zs.filter fun z => decide (z.r = t % p)).take i ++ [y] := by
          rw [List.take_add_one, hy]
          rfl
        obtain ⟨ax, rfl, hX⟩ := Tp.same Sx s2
        have hb : (bs.map V.bl).length < sizeLine := by
          rw [List.length_map, eb, List.length_map, List.length_take]
          omega
        have fin : ∀ b : Bool, b = within y t → ∃ acc, H2 D = some (.lst acc) ∧ acc.length < sizeLine ∧ ∃ bs' : List Bool, (upd H2 D (.lst (acc ++ [.bl b]))) D = some (.lst (bs'.map V.bl)) ∧ Same H1 (upd H2 D (.lst (acc ++ [.bl b]))) ∧ bs' = ((zs.filter fun z => decide (z.r = t % p)).take (i + 1)).map fun z => within z t := by
          intro b e
          refine ⟨_, hDa, hb, bs ++ [b], ?_, same_upd s2 hD, ?_⟩
          · rw [upd_same, List.map_append]
            rfl
          · rw [et, List.map_append, ← eb, e]
            rfl
        refine ⟨rfl, ?_⟩
        obtain ⟨ry, ly, hy'⟩ := y
        refine ⟨_, rfl, ax, _, _, _, rfl, rfl, hX, rfl, _, rfl, ?_⟩
        have second : ∀ b : Bool, (b && match hy' with
            | none => true
            | some h => decide (t ≤ h)) = within ⟨ry, ly, hy'⟩ t → b = true → True := fun _ _ _ => trivial
        cases ly with
        | none =>
          refine iteT ⟨_, rfl, iteT ⟨_, rfl, ax, _, _, _, rfl, rfl, hX, rfl, _, rfl, ?_⟩⟩
          cases hy' with
          | none => exact iteT (fin true rfl)
          | some h => exact iteF ⟨_, rfl, _, rfl, ax, _, _, _, rfl, rfl, hX, rfl, _, _, rfl, rfl, fin _ rfl⟩
        | some l =>
          refine iteF ⟨_, rfl, ax, _, _, _, rfl, rfl, hX, rfl, _, rfl, _, _, rfl, rfl, _, rfl, ?_⟩
          by_cases c : l ≤ t
          · rw [decide_eq_true c]
            refine iteT ⟨_, rfl, ax, _, _, _, rfl, rfl, hX, rfl, _, rfl, ?_⟩
            cases hy' with
            | none => exact iteT (fin true (by simp [within, c]))
            | some h => exact iteF ⟨_, rfl, _, rfl, ax, _, _, _, rfl, rfl, hX, rfl, _, _, rfl, rfl, fin _ (by simp [within, c])⟩
          · rw [decide_eq_false c]
            exact iteF (fin false (by simp [within, c]))
      · rintro H2 ⟨bs, hDa, s2, eb⟩
        rw [l1, List.take_length] at eb
        refine ⟨D, bs, rfl, SqL.of hDa, ?_⟩
        refine k _ H2 ?_ (Same.trans s1 s2)
        rw [← within_iff, eb, List.any_map]
        exact Iff.rfl
end
end TM
end

section
set_option maxHeartbeats 4000000
namespace TM
open PySem PySem.Spec PyProof.Rows L2 EW
theorem grt_iff {a b : Option Int} {t : Int} : Rn.geLo (grt a b) t ↔ Rn.geLo a t ∧ Rn.geLo b t := by
  unfold Rn.geLo grt
  cases a with
  | none => simp
  | some u =>
    cases b with
    | none => simp
    | some v =>
      simp only [Option.some.injEq]
      constructor
      · intro h
        have h := h _ rfl
        refine ⟨fun l e => ?_, fun l e => ?_⟩
        · subst e
          split at h <;> omega
        · subst e
          split at h <;> omega
      · rintro ⟨h1, h2⟩ l rfl
        have h1 := h1 _ rfl
        have h2 := h2 _ rfl
        split <;> omega
theorem lst_iff {a b : Option Int} {t : Int} : Rn.leHi (lst a b) t ↔ Rn.leHi a t ∧ Rn.leHi b t := by
  unfold Rn.leHi lst
  cases a with
  | none => simp
  | some u =>
    cases b with
    | none => simp
    | some v =>
      simp only [Option.some.injEq]
      constructor
      · intro h
        have h := h _ rfl
        refine ⟨fun l e => ?_, fun l e => ?_⟩
        · subst e
          split at h <;> omega
        · subst e
          split at h <;> omega
      · rintro ⟨h1, h2⟩ l rfl
        have h1 := h1 _ rfl
        have h2 := h2 _ rfl
        split <;> omega
/-- the runs that two runs of one residue have in common -/
def meet (p : Int) (x y : Rn.Run) : Option Rn.Run := Rn.runOf p x.r (grt x.lo y.lo) (lst x.hi y.hi)
def meets (p : Int) (x : Rn.Run) (ws : List Rn.Run) : List Rn.Run := (ws.filter fun y => decide (y.r = x.r)).filterMap (meet p x)
def common (p : Int) (zs ws : List Rn.Run) : List Rn.Run := zs.flatMap fun x => meets p x ws
theorem meets_len {p : Int} {x : Rn.Run} {ws : List Rn.Run} : (meets p x ws).length ≤ ws.length := Nat.le_trans (List.length_filterMap_le _ _) (List.length_filter_le _ _)
theorem common_len {p : Int} {ws : List Rn.Run} : ∀ zs : List Rn.Run, (common p zs ws).length ≤ zs.length * ws.length
  | [] => Nat.zero_le _
  | x :: zs => by
    have h1 := common_len (p := p) (ws := ws) zs
    have h2 := meets_len (p := p) (x := x) (ws := ws)
    have e : common p (x :: zs) ws = meets p x ws ++ common p zs ws := rfl
    rw [e, List.length_append, List.length_cons, Nat.succ_mul]
    omega
theorem common_ok {p : Int} {zs ws : List Rn.Run} (hz : ∀ z ∈ zs, Rn.Good p z) : (∀ c ∈ common p zs ws, Rn.Good p c) ∧ ∀ t, Rn.inRuns p (common p zs ws) t ↔ Rn.inRuns p zs t ∧ Rn.inRuns p ws t := by
  refine ⟨fun c hc => ?_, fun t => ⟨?_, ?_⟩⟩
  · obtain ⟨x, hx, hc⟩ := List.mem_flatMap.mp hc
    obtain ⟨y, hy, e⟩ := List.mem_filterMap.mp hc
    exact (Rn.runOf_some (hz x hx).r0 (hz x hx).r1 e).1
  · rintro ⟨c, hc, m⟩
    obtain ⟨x, hx, hc⟩ := List.mem_flatMap.mp hc
    obtain ⟨y, hy, e⟩ := List.mem_filterMap.mp hc
    obtain ⟨hy, er⟩ := List.mem_filter.mp hy
    obtain ⟨h1, h2, h3⟩ := ((Rn.runOf_some (hz x hx).r0 (hz x hx).r1 e).2.2 t).mp m
    obtain ⟨g1, g2⟩ := grt_iff.mp h2
    obtain ⟨l1, l2⟩ := lst_iff.mp h3
    exact ⟨⟨x, hx, h1, g1, l1⟩, y, hy, h1.trans (of_decide_eq_true er).symm, g2, l2⟩
  · rintro ⟨⟨x, hx, x1, x2, x3⟩, y, hy, y1, y2, y3⟩
    have er : y.r = x.r := y1.symm.trans x1
    have all : t % p = x.r ∧ Rn.geLo (grt x.lo y.lo) t ∧ Rn.leHi (lst x.hi y.hi) t := ⟨x1, grt_iff.mpr ⟨x2, y2⟩, lst_iff.mpr ⟨x3, y3⟩⟩
    cases e : Rn.runOf p x.r (grt x.lo y.lo) (lst x.hi y.hi) with
    | none => exact absurd all (Rn.runOf_none (hz x hx).r0 (hz x hx).r1 e t)
    | some c => exact ⟨c, List.mem_flatMap.mpr ⟨x, hx, List.mem_filterMap.mpr ⟨y, List.mem_filter.mpr ⟨hy, decide_eq_true er⟩, e⟩⟩, ((Rn.runOf_some (hz x hx).r0 (hz x hx).r1 e).2.2 t).mpr all⟩
abbrev NCommon : List Str := ["period", "one", "other", "found", "groups", "residue", "least", "most", "same", "low", "high", "run"]
theorem Common : FnScope NCommon ["period", "one", "other"] (defScope sCommon) := ⟨rfl, rfl, rfl, by decide +kernel, rfl, by decide +kernel, by decide +kernel⟩
def spCommon (K : W.Frag) : Sp := fun vs H Q _ => ∃ (p : Int) (a b : Addr) (xs ys : List V) (zs ws : List Rn.Run), vs = [.int p, .ref a, .ref b] ∧ 0 < p ∧ SqT K H a xs ∧ Rns K H xs zs ∧ SqT K H b ys ∧ Rns K H ys ws ∧ ys.length ≤ 10000000 ∧ zs.length * ws.length ≤ 10000000 ∧
  ∀ (l : Addr) (H' : Hp) (vs : List V), H l = none → Same H H' → H' l = some (.lst vs) → Rns K H' vs (common p zs ws) → Q (.ref l) H'
section
variable {P : Program} {w : World} {K : W.Frag} {mg : Str → Option Value} {base : Heap}
theorem ok_common {fd : FuncData} (F : FnP K "common_runs" sCommon fd) (Dgrouped : Df P w K mg base 1 "grouped" ["runs"] (spGrouped K)) (Drun_of : Df P w K mg base 2 "run_of" ["period", "residue", "least", "most"] spRunOf) (Dgreater_of : Df P w K mg base 1 "greater_of" ["one", "other"] (spTwo grt)) (Dlesser_of : Df P w K mg base 1 "lesser_of" ["one", "other"] (spTwo lst)) :
    FnOk P w K mg base CX0 3 (He.ga K "common_runs") fd ["period", "one", "other"] (spCommon K) := by
  refine F.ok Common (fun vs H Q E h => ?_) (fun cdv A outer s H vs Q E hr h => ?_)
  · obtain ⟨p, a, b, xs, ys, zs, ws, rfl, _⟩ := h
    rfl
  · obtain ⟨p, a, b, xs, ys, zs, ws, rfl, hp, hA, hR, hB, hR', hy, hz, k⟩ := h
    have hlen := hR.length
    have hlen' := hR'.length
    have hbig : (10000000 : Nat) + 1 < sizeLine := by decide
    refine ⟨_, PSs.nox (pss_cons (ps_set (i := 3) Common.nd rfl (Or.inl rfl) (pe_lstS pa_nil))
      (pss_cons (ps_set (i := 4) Common.nd rfl (Or.inl rfl) (pe_df Dgrouped (hr.mono (by decide)) rfl (pa_cons (pv 2) pa_nil)))
      (pss_cons (ps_for PassesOwn.never rfl (pi_tupK (K := K) rfl (pv 1)) (pg_tup rfl (pgs_cons (pg_name (i := 5) Common.nd rfl (Or.inl rfl)) (pgs_cons (pg_name (i := 6) Common.nd rfl (Or.inl rfl)) (pgs_cons (pg_name (i := 7) Common.nd rfl (Or.inl rfl)) pgs_nil)))) (pss_one (ps_for PassesOwn.never rfl (pi_listK (K := K) rfl (pe_dget2 hr.u1 (pv 4) (pv 5) (pe_lstS pa_nil) ⟨rfl, rfl, rfl, rfl⟩)) (pg_tup rfl (pgs_cons (pg_name (i := 8) Common.nd rfl (Or.inl rfl)) (pgs_cons (pg_name (i := 9) Common.nd rfl (Or.inl rfl)) (pgs_cons (pg_name (i := 10) Common.nd rfl (Or.inl rfl)) pgs_nil)))) (pss_cons (ps_cut (ps_set (i := 11) Common.nd rfl (Or.inl rfl) (pe_df Drun_of (hr.mono (by decide)) rfl (pa_cons (pv 0) (pa_cons (pv 5) (pa_cons (pe_df Dgreater_of (hr.mono (by decide)) rfl (pa_cons (pv 6) (pa_cons (pv 9) pa_nil))) (pa_cons (pe_df Dlesser_of (hr.mono (by decide)) rfl (pa_cons (pv 7) (pa_cons (pv 10) pa_nil))) pa_nil)))))))
      (pss_one (ps_if (pt_cmp (pc_notN (pv 11))) (pss_one (ps_expr (pe_bm PySem.F.plainAttrs_list PySem.F.slot_list_append PySem.F.type_list_append mt_append (pv 3) (pa_cons (pv 11) pa_nil)))) pss_nil))))))
      (pss_one (ps_ret (pv 3)))))), ?_⟩
    refine ⟨(by show 0 ≤ sizeLine; decide), fun f H1 n1 s1 e1 => ?_⟩
    refine ⟨_, rfl, b, ys, ws, rfl, .inr (SqT.same hB s1), Rns.same hR' s1, by omega, fun d H2 kvs n2 s2 e2 G => ?_⟩
    have s12 := Same.trans s1 s2
    refine ⟨_, rfl, a, rfl, ⟨_, SqT.same hA s12⟩, ?_⟩
    refine for_tup (K := K) (a := a) (xs := xs) (fun i σ' H' => ∃ (u5 u6 u7 u8 u9 u10 u11 : Option V) (vs : List V), σ' = [some (.int p), some (.ref a), some (.ref b), some (.ref f), some (.ref d), u5, u6, u7, u8, u9, u10, u11] ∧ EW.Kept f H2 H' ∧ H' f = some (.lst vs) ∧ Rns K H' vs (common p (zs.take i) ws)) ⟨_, _, _, _, _, _, _, [], rfl, EW.Kept.refl _ _, s2 _ _ e1, by rw [List.take_zero]; exact .nil⟩ ?_ ?_ ?_
    · rintro i σ' H' _ ⟨u5, u6, u7, u8, u9, u10, u11, vs, _, k3, _⟩
      exact SqT.kept (SqT.same hA s12) (s2 _ _ e1) k3
    · rintro i x σ' H3 hx ⟨u5, u6, u7, u8, u9, u10, u11, vs, rfl, k3, hf, Rv⟩
      obtain ⟨y, hy1, Sx⟩ := pr_get hR hx
      have hyi : i < zs.length := (List.getElem?_eq_some_iff.mp hy1).1
      have hmul : (i + 1) * ws.length ≤ zs.length * ws.length := Nat.mul_le_mul_right _ hyi
      have hcl := common_len (p := p) (ws := ws) (zs.take i)
      have hti : (zs.take i).length * ws.length ≤ i * ws.length := Nat.mul_le_mul_right _ (by rw [List.length_take]; omega)
      rw [Nat.succ_mul] at hmul
      have et : common p (zs.take (i + 1)) ws = common p (zs.take i) ws ++ meets p y ws := by
        rw [List.take_add_one, hy1]
        show List.flatMap _ (_ ++ [y]) = _
        rw [List.flatMap_append, List.flatMap_cons, List.flatMap_nil, List.append_nil]
        rfl
      have hf2 : H2 f = some (.lst []) := s2 _ _ e1
      have hd3 : H3 d = some (.dK kvs) := k3 _ _ (fun z => by rw [z, hf2] at e2; cases e2) e2
      obtain ⟨ax, rfl, hX⟩ := Tp.kept (Tp.same Sx s12) hf2 k3
      refine ⟨ax, _, rfl, hX, rfl, _, _, rfl, _, _, rfl, _, _, rfl, rfl, ?_⟩
      refine ⟨_, rfl, d, rfl, .inl ⟨kvs, .inl hd3⟩, _, rfl, (by show 0 ≤ sizeLine; decide), fun q H4 n4 s4 e4 => ⟨_, DGet.k (k := (Sum.inl y.r : Key)) (s4 _ _ hd3), ?_⟩⟩
      have k4 : EW.Kept f H2 H4 := fun c o n e => s4 _ _ (k3 c o n e)
      have hL : ∃ (L : Addr) (ys0 : List V), (valV kvs (Sum.inl y.r : Key)).getD (.ref q) = .ref L ∧ L ≠ f ∧ H4 L = some (.lst ys0) ∧ Rns K H4 ys0 (ws.filter fun z => decide (z.r = y.r)) := by
        cases hv : valV kvs (Sum.inl y.r : Key) with
        | none =>
          have en : ws.filter (fun z => decide (z.r = y.r)) = [] := List.filter_eq_nil_iff.mpr fun z hz c => G.no _ hv z hz (of_decide_eq_true c)
          exact ⟨q, [], rfl, (fun z => by rw [z, hf] at n4; cases n4), e4, by rw [en]; exact .nil⟩
        | some v =>
          obtain ⟨⟨l0, ys0, rfl, hl0, R0⟩, z, hz, ez⟩ := G.yes _ _ hv
          have hne : l0 ≠ f := fun e => by
            rw [e, hf2] at hl0
            have e' : ys0 = [] := by
              injection hl0 with h
              injection h with h
              exact h.symm
            have h1 := R0.length
            rw [e'] at h1
            have h2 : z ∈ ws.filter (fun z => decide (z.r = y.r)) := List.mem_filter.mpr ⟨hz, decide_eq_true ez⟩
            have h3 := List.length_pos_of_mem h2
            simp at h1
            omega
          exact ⟨l0, ys0, rfl, hne, k4 _ _ hne hl0, Rns.kept R0 hf2 k4⟩
      obtain ⟨L, ys0, eL, hLf, hL, R0⟩ := hL
      have hl0 := R0.length
      have hfl := List.length_filter_le (fun z : Rn.Run => decide (z.r = y.r)) ws
      have hf4 : H4 f = some (.lst vs) := s4 _ _ hf
      refine ⟨L, eL, ⟨_, SqL.of hL⟩, ?_⟩
      refine for_list (K := K) (a := L) (xs := ys0) (fun j σ' H' => ∃ (u8 u9 u10 u11 : Option V) (vs' : List V), σ' = [some (.int p), some (.ref a), some (.ref b), some (.ref f), some (.ref d), some (.int y.r), some (ob y.lo), some (ob y.hi), u8, u9, u10, u11] ∧ EW.Kept f H4 H' ∧ H' f = some (.lst vs') ∧ Rns K H' vs' (common p (zs.take i) ws ++ ((ws.filter fun z => decide (z.r = y.r)).take j).filterMap (meet p y))) ⟨_, _, _, _, vs, rfl, EW.Kept.refl _ _, hf4, by rw [List.take_zero]; show Rns K H4 vs (_ ++ []); rw [List.append_nil]; exact Rns.same Rv s4⟩ ?_ ?_ ?_
      · rintro j σ' H' _ ⟨u8, u9, u10, u11, vs', _, k5, _⟩
        exact SqL.of (k5 _ _ hLf hL)
      · rintro j x2 σ' H5 hx2 ⟨u8, u9, u10, u11, vs', rfl, k5, hf5, R5⟩
        obtain ⟨y2, hy2, Sx2⟩ := pr_get R0 hx2
        obtain ⟨ax2, rfl, hX2⟩ := Tp.kept Sx2 hf4 k5
        have et2 : (ws.filter fun z => decide (z.r = y.r)).take (j + 1) = (ws.filter fun z => decide (z.r = y.r)).take j ++ [y2] := by
          rw [List.take_add_one, hy2]
          rfl
        refine ⟨ax2, _, rfl, hX2, rfl, _, _, rfl, _, _, rfl, _, _, rfl, rfl, ?_⟩
        refine ⟨fun σ' H' => ∃ v : V, σ' = [some (.int p), some (.ref a), some (.ref b), some (.ref f), some (.ref d), some (.int y.r), some (ob y.lo), some (ob y.hi), some (.int y2.r), some (ob y2.lo), some (ob y2.hi), some v] ∧ Same H5 H' ∧ TV K H' v (meet p y y2), ?_, ?_⟩
        · refine ⟨_, rfl, _, rfl, _, rfl, _, rfl, y.lo, y2.lo, rfl, _, rfl, _, rfl, y.hi, y2.hi, rfl, p, y.r, _, _, rfl, hp, ?_⟩
          show NewRun H5 (meet p y y2) _
          cases hm : meet p y y2 with
          | none => exact fun H6 s6 => ⟨.non, rfl, s6, rfl⟩
          | some z => exact fun q H6 n6 s6 e6 => ⟨.ref q, rfl, s6, Tp.of e6⟩
        · rintro σ' H6 ⟨v, rfl, s6, tv⟩
          have hf6 := s6 _ _ hf5
          have k6 : EW.Kept f H4 H6 := fun c o n e => s6 _ _ (k5 c o n e)
          cases hm : meet p y y2 with
          | none =>
            rw [hm] at tv
            have tv' : v = .non := tv
            subst tv'
            refine ⟨_, rfl, _, rfl, iteF ?_⟩
            refine ⟨_, _, _, _, vs', rfl, k6, hf6, ?_⟩
            rw [et2, List.filterMap_append, List.filterMap_cons, hm]
            show Rns K H6 vs' (_ ++ (_ ++ []))
            rw [List.append_nil]
            exact Rns.same R5 s6
          | some z =>
            rw [hm] at tv
            obtain ⟨bz, rfl, hZ⟩ := tv
            refine ⟨_, rfl, _, rfl, iteT ?_⟩
            refine ⟨_, rfl, Or.inl ⟨rfl, _, SqL.of hf6⟩, _, rfl, f, vs', _, rfl, rfl, hf6, ?_, ?_⟩
            · have h1 := R5.length
              have h2 := List.length_filterMap_le (meet p y) ((ws.filter fun z => decide (z.r = y.r)).take j)
              rw [List.length_append] at h1
              rw [List.length_take] at h2
              omega
            · refine ⟨_, _, _, _, vs' ++ [.ref bz], rfl, k6.trans Kept.upd, upd_same, ?_⟩
              rw [et2, List.filterMap_append, List.filterMap_cons, hm, ← List.append_assoc]
              exact Rns.kept (pr_append (Rns.same R5 s6) (.cons ⟨bz, rfl, hZ⟩ .nil)) hf6 Kept.upd
      · rintro σ' H5 ⟨u8, u9, u10, u11, vs', rfl, k5, hf5, R5⟩
        refine ⟨_, _, _, _, _, _, _, vs', rfl, k4.trans k5, hf5, ?_⟩
        rw [hl0, List.take_length] at R5
        rw [et]
        exact R5
    · rintro σ' H3 ⟨u5, u6, u7, u8, u9, u10, u11, vs, rfl, k3, hf, Rv⟩
      rw [hlen, List.take_length] at Rv
      exact ⟨_, rfl, k f H3 vs n1 (fun c o h => k3 c o (fun z => by rw [z, n1] at h; cases h) (s12 c o h)) hf Rv⟩
end
end TM
end

section
set_option maxHeartbeats 4000000
namespace EW
open PySem PySem.Spec PyProof.Rows L2
/-! ### instances with a period and runs -/
abbrev FS (p : Int) (l : Addr) : List (Str × V) := [("own_period", .int p), ("own_runs", .ref l)]
/-- the runs at l -/
def RunsAt (K : W.Frag) (H : Hp) (l : Addr) (p : Int) (zs : List Rn.Run) : Prop := ∃ ys, SqT K H l ys ∧ Rns K H ys zs ∧ Rn.Canon p zs ∧ zs.length ≤ 10000000
/-- an instance of the class at C with these runs -/
def Ob (K : W.Frag) (C : Addr) (H : Hp) (v : V) (p : Int) (zs : List Rn.Run) : Prop := ∃ a dx l, v = .ref a ∧ H a = some (.ins C dx (FS p l)) ∧ RunsAt K H l p zs ∧ 1 ≤ p ∧ p ≤ 400
section
variable {K : W.Frag} {C a l d : Addr} {H H' : Hp} {v : V} {p : Int} {zs : List Rn.Run}
theorem RunsAt.same (h : RunsAt K H l p zs) (s : Same H H') : RunsAt K H' l p zs := by
  obtain ⟨ys, h1, h2, h3⟩ := h
  exact ⟨ys, SqT.same h1 s, Rns.same h2 s, h3⟩
theorem RunsAt.kept {ys : List V} (h : RunsAt K H l p zs) (hd : H d = some (.lst ys)) (k : Kept d H H') : RunsAt K H' l p zs := by
  obtain ⟨ys, h1, h2, h3⟩ := h
  exact ⟨ys, SqT.kept h1 hd k, Rns.kept h2 hd k, h3⟩
theorem Rns.keptO {o : HO} {vs : List V} (h : Rns K H vs zs) (hd : H d = some o) (n1 : ∀ ys, o ≠ .tup ys) (n2 : ∀ b u, o ≠ .frz b u) (k : Kept d H H') : Rns K H' vs zs := Paired.mono (fun _ _ q => let ⟨a, e, t⟩ := q; ⟨a, e, SqT.keptO t hd n1 n2 k⟩) h
theorem RunsAt.keptI {x dx : Addr} {fs : List (Str × V)} (h : RunsAt K H l p zs) (hd : H x = some (.ins C dx fs)) (k : Kept x H H') : RunsAt K H' l p zs := by
  obtain ⟨ys, h1, h2, h3⟩ := h
  exact ⟨ys, SqT.keptO h1 hd (fun _ z => nomatch z) (fun _ _ z => nomatch z) k, Rns.keptO h2 hd (fun _ z => nomatch z) (fun _ _ z => nomatch z) k, h3⟩
theorem Ob.same (h : Ob K C H v p zs) (s : Same H H') : Ob K C H' v p zs := by
  obtain ⟨a, dx, l, e, h1, h2, h3⟩ := h
  exact ⟨a, dx, l, e, s _ _ h1, h2.same s, h3⟩
theorem Ob.kept {ys : List V} (h : Ob K C H v p zs) (hd : H d = some (.lst ys)) (k : Kept d H H') : Ob K C H' v p zs := by
  obtain ⟨a, dx, l, e, h1, h2, h3⟩ := h
  exact ⟨a, dx, l, e, k _ _ (fun z => by rw [z, hd] at h1; cases h1) h1, h2.kept hd k, h3⟩
theorem Ob.isC (h : Ob K C H v p zs) : IsC H C v := by
  obtain ⟨a, dx, l, e, h1, _⟩ := h
  exact ⟨a, dx, _, e, h1⟩
end
/-! ### what of the text a class must have -/
structure Kl (K : W.Frag) (mg : Str → Option Value) (x : Str) : Prop where
  g : mg x = some (.ref (He.ga K x))
  mkr : Mk K (He.ga K x) (He.ma K (He.ga K x) "__init__")
  cl : Cls K (He.ga K x)
  np : NoAttr K (He.ga K x) "own_period"
  nr : NoAttr K (He.ga K x) "own_runs"
  cls : W.findIn K (.ref (He.ga K x)) "__class__" = some (some (.builtin "object.__class__"))
  cg : W.specialIn K (.builtin "object.__class__") "__get__" = some (some (.builtin "getset_descriptor.__get__"))
  ct : W.takesIn K (.builtin "object.__class__") = some true
  ob : W.mroIn K (He.ga K x) (.type "object") = some true
  sf : W.selfFirst K (He.ga K x) = true
theorem Kl.ty {K : W.Frag} {mg : Str → Option Value} {x : Str} {H : Hp} {a dx : Addr} {fs : List (Str × V)} (k : Kl K mg x) (e : H a = some (.ins (He.ga K x) dx fs)) : TyX K H (.ref a) (.ref (He.ga K x)) := .base (.ins e k.cl k.cls k.cg k.ct k.ob)
section
variable {X : Cx} {K : W.Frag} {k : Nat} {f C : Addr} {fd : FuncData} {ps : List Str} {sp : Sp} {x : Str} {p pos : Pos} {e o : Expr} {es : List Expr} {t : TA} {ta : TE}
theorem fnR_of {P : Program} {w : World} {mg : Str → Option Value} {base : Heap} {CX : CXT} {dvs : List V} {ds : List Value} (F : FnOk P w K mg base CX k f fd ps sp) (hb : Binds K fd ps ds) (hd : Vals dvs ds) : FnR P w K mg base CX k f (fun vs H Q E => sp (vs ++ dvs) H Q E) := by
  intro A outer s H us vs Q E hr e0 r h
  have r2 := r.append hd
  have KX : K.In s.heap := e0.mod.kin.keeps fun b o e => (e0.bs b o e).1
  have hl : (us ++ ds).length = ps.length := by rw [← r2.length]; exact F.len _ _ _ _ h
  exact F.run A outer s H ⟨us, []⟩ (us ++ ds) (vs ++ dvs) Q E hr e0 (hb s us KX hl) r2 h
theorem pe_fldK (K : W.Frag) (h : X.K = K) {f : Str} (he : PE X e ta) (hb : attributeBase e f X.env (eval e X.env) = eval e X.env := by rfl) : PE X (.Attribute e f pos) (tFld K ta f) := by
  subst h
  exact pe_fld he hb
/-- cls(e, ..), cls a local name that holds the class at C -/
theorem pe_makeL {i : Nat} {E : XK} {CX : CXT} (M : Mk X.K C f) (F : FnR X.prog X.w X.K X.mg X.base CX k f sp) (hr : Room (k + 1) X.A) (hN : X.N[i]? = some x) (hv : Vis X.env.scope x) (hx : Passes CX X E) (ha : PA X (e :: es) t)
    (hdb : (x == ("__debug__" : Str)) = false := by decide) (hcd : (x == ("__classdict__" : Str)) = false := by decide)
    (he : starEach (e :: es) X.env = (false, eval e X.env) :: starEach es X.env := by rfl) (hpl : (backTo pos (starEach es X.env)).any (·.1) = false := by rfl) : PE X (.Call (.Name x p) (e :: es) [] pos) (fun σ H Q => σ[i]? = some (some (.ref C)) ∧ StX.tMakeR C sp E t σ H Q) := by
  refine ⟨fun pins s σ H Q I h => ?_⟩
  obtain ⟨hs, ht⟩ := h
  refine wpAny_Call_Name_kw (thn ((pe_var (pos := p) hN hv hdb hcd).run pins s σ H (fun v H1 => v = .ref C ∧ H1 = H) I ⟨.ref C, hs, rfl, rfl⟩) fun u s1 z => ?_)
  obtain ⟨v, H1, I1, r1, rfl, rfl⟩ := z
  cases r1
  refine W.callWith_K (h₀ := X.base) I.ok.mod.kin M.kp (thn (ha.run pos pins s1 σ _ _ I1 ht) fun us s2 z => ?_) he hpl
  obtain ⟨vs, H2, I2, r, q⟩ := z
  exact ⟨I2.kIn, StX.run_makeR M F hr hx I2 r q⟩
end
/-- the promise of an __init__ that keeps its two values -/
def spRInit (C : Addr) : Sp := fun vs H Q _ => ∃ (x dx : Addr) (u v : V), vs = [.ref x, u, v] ∧ H x = some (.ins C dx []) ∧ ∀ H', Kept x H H' → H' x = some (.ins C dx [("own_period", u), ("own_runs", v)]) → Q .non H'
section
variable {X : Cx} {k : Nat} {C f : Addr} {fd : FuncData} {ps : List Str} {x : Str} {p pos : Pos} {e : Expr} {es : List Expr} {t : TA}
theorem pe_mk2 (M : Mk X.K C f) (F : FnOk X.prog X.w X.K X.mg X.base CX0 k f fd ps (spRInit C)) (hb : Binds X.K fd ps []) (hr : Room (k + 1) X.A) (hg : Gl X x) (hm : X.mg x = some (.ref C)) (ha : PA X (e :: es) t)
    (hdb : (x == ("__debug__" : Str)) = false := by decide) (he : starEach (e :: es) X.env = (false, eval e X.env) :: starEach es X.env := by rfl) (hpl : (backTo pos (starEach es X.env)).any (·.1) = false := by rfl) :
    PE X (.Call (.Name x p) (e :: es) [] pos) (fun σ H Q => t σ H fun vs H1 => ∃ u v, vs = [u, v] ∧ ∀ (a dx : Addr) (H' : Hp), H1 a = none → Same H1 H' → H' a = some (.ins C dx [("own_period", u), ("own_runs", v)]) → Q (.ref a) H') := by
  refine PE.imp (pe_make M F hr hg hm hb .nil pass0 (PA.cl ha) hdb he hpl) fun σ H Q q => ⟨_, q, fun vs H1 z => ?_⟩
  obtain ⟨u, v, rfl, z⟩ := z
  intro a dx n1 n2 ne
  refine ⟨a, dx, u, v, rfl, upd_same, fun H' kp e => ⟨rfl, z a dx H' n1 (fun b o h => ?_) e⟩⟩
  have h1 : b ≠ a := fun z => by rw [z, n1] at h; cases h
  have h2 : b ≠ dx := fun z => by rw [z, n2] at h; cases h
  exact kp b o h1 (by rw [upd_ne h1, upd_ne h2]; exact h)
end
end EW
end

section
set_option maxHeartbeats 4000000
namespace TM
open PySem PySem.Spec PyProof.Rows L2 EW
abbrev NRInit : List Str := ["self", "period", "runs"]
theorem RInit : FnScope NRInit ["self", "period", "runs"] (defScope sRInit) := ⟨rfl, rfl, rfl, by decide +kernel, rfl, by decide +kernel, by decide +kernel⟩
abbrev NChecked : List Str := ["period", "spans", "span"]
theorem Checked : FnScope NChecked ["period", "spans"] (defScope sChecked) := ⟨rfl, rfl, rfl, by decide +kernel, rfl, by decide +kernel, by decide +kernel⟩
abbrev NTimesIn : List Str := ["period", "spans"]
theorem TimesIn : FnScope NTimesIn ["period", "spans"] (defScope sTimesIn) := ⟨rfl, rfl, rfl, by decide +kernel, rfl, by decide +kernel, by decide +kernel⟩
abbrev NTInit : List Str := ["self", "period", "spans", "parts"]
theorem TInit : FnScope NTInit ["self", "period", "spans"] (defScope sTInit) := ⟨rfl, rfl, rfl, by decide +kernel, rfl, by decide +kernel, by decide +kernel⟩
/-- isinstance of the two classes -/
structure Isi (K : W.Frag) : Prop where
  rr : W.kitOne K (.ref (CR K)) (.ref (CR K)) = some true
  ir : W.kitOne K (.type "int") (.ref (CR K)) = some false
  tt : W.kitOne K (.ref (CT K)) (.ref (CT K)) = some true
  it : W.kitOne K (.type "int") (.ref (CT K)) = some false
/-- spans by p that make few runs -/
def Few (p : Int) (ss : List Rn.Sp3) : Prop := (∀ s ∈ ss, Rn.SpOk p s) ∧ (ss.flatMap (Rn.foundOf p)).length ≤ 10000000
/-- told of an object of C: its members are those of the spans -/
def Told (K : W.Frag) (C : Addr) (H : Hp) (p : Int) (ss : List Rn.Sp3) (Q : VK) : Prop := ∀ (a dx l : Addr) (H' : Hp) (zs : List Rn.Run), H a = none → Same H H' → H' a = some (.ins C dx (FS p l)) → RunsAt K H' l p zs → (∀ t, Rn.inRuns p zs t ↔ Rn.inSpans p ss t) → zs.length ≤ (ss.flatMap (Rn.foundOf p)).length → Q (.ref a) H'
def spChecked (K : W.Frag) : Sp := fun vs H Q _ => ∃ (p : Int) (q : Addr) (xs : List V) (ss : List Rn.Sp3), vs = [.int p, .ref q] ∧ 1 ≤ p ∧ p ≤ 400 ∧ SqT K H q xs ∧ Sns K H xs ss ∧ Few p ss ∧ xs.length ≤ 10000000 ∧ Told K (CR K) H p ss Q
def spTimesIn (K : W.Frag) : Sp := fun vs H Q _ => ∃ (p : Int) (q : Addr) (xs : List V) (ss : List Rn.Sp3), vs = [.int p, .ref q] ∧ 1 ≤ p ∧ p ≤ 400 ∧ SqL K H q xs ∧ Sns K H xs ss ∧ Few p ss ∧ Told K (CT K) H p ss Q
/-- the body of Times.__init__ -/
def spTBody (K : W.Frag) : Sp := fun vs H Q _ => ∃ (x dx q : Addr) (u : V), vs = [.ref x, u, .ref q] ∧ H x = some (.ins (CT K) dx []) ∧
  ((∃ (r dr l : Addr) (p : Int), u = .ref r ∧ H r = some (.ins (CR K) dr (FS p l)) ∧ ∀ H', EW.Kept x H H' → H' x = some (.ins (CT K) dx (FS p l)) → Q .non H') ∨
   (∃ (p : Int) (xs : List V) (ss : List Rn.Sp3), u = .int p ∧ 1 ≤ p ∧ p ≤ 400 ∧ SqT K H q xs ∧ Sns K H xs ss ∧ Few p ss ∧ xs.length ≤ 10000000 ∧
     ∀ (l : Addr) (H' : Hp) (zs : List Rn.Run), EW.Kept x H H' → H' x = some (.ins (CT K) dx (FS p l)) → RunsAt K H' l p zs → (∀ t, Rn.inRuns p zs t ↔ Rn.inSpans p ss t) → zs.length ≤ (ss.flatMap (Rn.foundOf p)).length → Q .non H'))
def spTInit (K : W.Frag) : Sp := fun vs H Q E => ∃ ws rest, vs = ws ++ rest ∧ ws.length = 2 ∧ rest.length ≤ sizeLine ∧ ∀ p, H p = Option.none → spTBody K (ws ++ [V.ref p]) (upd H p (.tup rest)) Q E
section
variable {P : Program} {w : World} {K : W.Frag} {mg : Str → Option Value} {base : Heap}
theorem ok_rInit {fd : FuncData} (F : FunD K "__init__" "Runs.__init__" (defArgs sRInit) (defBody sRInit) (defScope sRInit) [] [] (He.ma K (CR K) "__init__") fd) (KR : Kl K mg "Runs") :
    FnOk P w K mg base CX0 1 (He.ma K (CR K) "__init__") fd ["self", "period", "runs"] (spRInit (CR K)) := by
  refine F.ok RInit (fun vs H Q E h => ?_) (fun cdv A outer s H vs Q E hr h => ?_)
  · obtain ⟨x, dx, u, v, rfl, _⟩ := h
    rfl
  · obtain ⟨x, dx, u, v, rfl, hx, k⟩ := h
    refine ⟨_, PSs.nox (pss_cons (ps_fld (pv 0) (pv 1) rfl)
      (pss_one (ps_fld (pv 0) (pv 2) rfl))), ?_⟩
    refine ⟨_, rfl, _, rfl, x, _, dx, _, rfl, hx, KR.cl, KR.np, by decide, ?_⟩
    refine ⟨_, rfl, _, rfl, x, _, dx, _, rfl, upd_same, KR.cl, KR.nr, (by show 1 < 1000; decide), ?_⟩
    exact k _ (Kept.upd.trans Kept.upd) (by rw [upd_same]; rfl)
theorem ok_checked {fd fR : FuncData} (F : FnP K "checked" sChecked fd) (T : Fre mg) (KR : Kl K mg "Runs") (FR : FnOk P w K mg base CX0 1 (He.ma K (CR K) "__init__") fR ["self", "period", "runs"] (spRInit (CR K))) (bR : L2.Binds K fR ["self", "period", "runs"] [])
    (Drequire_period : Df P w K mg base 3 "require_period" ["period"] spReqP) (Dis_span : Df P w K mg base 3 "is_span" ["period", "value"] (spSpan K)) (Druns_in : Df P w K mg base 5 "runs_in" ["period", "spans"] (spRunsIn K)) :
    FnOk P w K mg base CX0 6 (He.ga K "checked") fd ["period", "spans"] (spChecked K) := by
  refine F.ok Checked (fun vs H Q E h => ?_) (fun cdv A outer s H vs Q E hr h => ?_)
  · obtain ⟨p, q, xs, ss, rfl, _⟩ := h
    rfl
  · obtain ⟨p, q, xs, ss, rfl, p1, p2, hS, hR, hF, hz, k⟩ := h
    have hlen := hR.length
    have hbig : (10000000 : Nat) < sizeLine := by decide
    refine ⟨_, PSs.nox (pss_cons (ps_expr (pe_df Drequire_period (hr.mono (by decide)) rfl (pa_cons (pv 0) pa_nil)))
      (pss_cons (ps_if (PW.pt (pw_or (pt_not (pt_val (pe_callB (call_isiE K rfl) (by rfl) T.isinstance EW.boot_isinstance (pa_cons (pv 1) (pa_cons (pe_bltn (v := .ty "tuple") rfl T.tuple EW.boot_tuple rfl) pa_nil))))) (pw_or1 (pt_not (pt_val (pe_callB (cr_allK K rfl rfl) (by rfl) T.all EW.boot_all (pa_cons (pe_lc (own := [("span", 2)]) (g := gName 2) (tt := tYes) (by rfl) Checked.nd (pi_tupK (K := K) rfl (pv 1)) (blkOk_by (own := [("span", 2)]) (N := NChecked) (sc := defScope sChecked) (by decide +kernel)) (fun _ _ _ _ _ => (pg_name (i := 2) Checked.nd rfl (Or.inl rfl))) (fun _ _ _ _ _ => pts_nil) (fun _ _ _ _ _ => (pe_df Dis_span (hr.mono (by decide)) rfl (pa_cons (pv 0) (pa_cons (pv 2) pa_nil))))) pa_nil))))))) (pss_one ps_never) pss_nil)
      (pss_one (ps_ret (pe_mk2 KR.mkr FR bR (hr.mono (by decide)) rfl KR.g (pa_cons (pv 0) (pa_cons (pe_df Druns_in (hr.mono (by decide)) rfl (pa_cons (pv 0) (pa_cons (pv 1) pa_nil))) pa_nil))))))), ?_⟩
    refine ⟨_, rfl, p, rfl, p1, p2, ?_⟩
    refine ⟨_, rfl, _, _, _, _, true, rfl, .ty "tuple", tyT hS, kit_ty kb4, _, rfl, iteF ?_⟩
    refine ⟨_, rfl, q, rfl, ⟨_, hS⟩, fun D hD => ?_⟩
    refine loop_tup (xs := xs) (fun i H' => H' D = some (.lst ((List.replicate i true).map V.bl)) ∧ Same H H') ⟨upd_same, upd_new hD⟩ ?_ ?_ ?_
    · rintro i H' _ ⟨_, s1⟩
      exact SqT.same hS s1
    · rintro i x H1 hx ⟨hDa, s1⟩
      obtain ⟨y, hy, Sx⟩ := pr_get hR hx
      have hi : i < xs.length := (List.getElem?_eq_some_iff.mp hx).1
      refine ⟨rfl, ?_⟩
      refine ⟨_, rfl, _, rfl, p, x, y, rfl, Tp.same Sx s1, hF.1 y (List.mem_of_getElem? hy), _, hDa, ?_, ?_, same_upd s1 hD⟩
      · rw [List.length_map, List.length_replicate]
        omega
      · rw [upd_same, List.replicate_succ', List.map_append]
        rfl
    · rintro H1 ⟨hDa, s1⟩
      refine ⟨D, _, rfl, SqL.of hDa, _, rfl, ?_⟩
      have e : (List.replicate xs.length true).all id = true := List.all_eq_true.mpr fun b hb => (List.mem_replicate.mp hb).2
      rw [e]
      refine iteF ?_
      refine ⟨_, rfl, _, rfl, _, rfl, p, q, xs, ss, rfl, p1, p2, .inr (SqT.same hS s1), Sns.same hR s1, hF.1, hF.2, fun l H2 ys zs n2 s2 e2 R2 cn hm hl => ?_⟩
      refine ⟨_, _, rfl, fun a dx H3 n3 s3 e3 => ?_⟩
      have s12 := Same.trans s1 s2
      exact k a dx l H3 zs (s12.free n3) (Same.trans s12 s3) e3 ⟨ys, SqT.same (SqT.of e2) s3, Rns.same R2 s3, cn, Nat.le_trans hl hF.2⟩ hm hl
theorem tInit_binds (kV doc pm : Value) (an : Option Addr) (cdv ct : Value) : ∀ us rest : List Value, us.length = (["self", "period"] : List Str).length → bindArgs (W.fnOf "__init__" "Times.__init__" (defArgs sTInit) (defBody sTInit) (defScope sTInit) .none kV doc pm an cdv ct) ⟨us ++ rest, []⟩ = (newTuple rest >>= fun t => pure ((["self", "period"] : List Str).zip us ++ [(("spans" : Str), t)])) :=
  StX.bind_star2 (B := fun l => bindArgs (W.fnOf "__init__" "Times.__init__" (defArgs sTInit) (defBody sTInit) (defScope sTInit) .none kV doc pm an cdv ct) ⟨l, []⟩) (fun _ _ => rfl) (fun _ _ _ _ => rfl)
theorem ok_tBody {fd : FuncData} (F : FunD K "__init__" "Times.__init__" (defArgs sTInit) (defBody sTInit) (defScope sTInit) [] [] (He.ma K (CT K) "__init__") fd) (T : Fre mg) (KR : Kl K mg "Runs") (KT : Kl K mg "Times") (I : Isi K) (Dchecked : Df P w K mg base 6 "checked" ["period", "spans"] (spChecked K)) :
    FnR P w K mg base CX0 7 (He.ma K (CT K) "__init__") (spTInit K) := by
  obtain ⟨oc, od, dV, kV, doc, pm, an, cdv, ct, osl, rfl, lk, hcd, hD, _⟩ := F.ex
  have hdV : dV = .none := by
    rcases hD with ⟨_, e⟩ | ⟨e, _⟩
    · exact e
    · exact absurd rfl e
  subst hdV
  refine StX.fn_star (ps := ["self", "period"]) (pv := "spans") lk hcd TInit StX.cxUp_none (tInit_binds kV doc pm an cdv ct) fun A outer s H vs Q E hr h => ?_
  obtain ⟨x, dx, q, u, rfl, hx, h⟩ := h
  refine ⟨_, PSs.nox (pss_cons (ps_set (i := 3) TInit.nd rfl (Or.inl rfl) (pe_ifExp (pt_val (pe_callB (call_isiE K rfl) (by rfl) T.isinstance EW.boot_isinstance (pa_cons (pv 1) (pa_cons (pe_glob (v := .ref (He.ga K "Runs")) rfl KR.g rfl) pa_nil)))) (pv 1) (pe_df Dchecked (hr.mono (by decide)) rfl (pa_cons (pv 1) (pa_cons (pv 2) pa_nil)))))
      (pss_cons (ps_fld (pv 0) (pe_fldK K rfl (pv 3)) rfl)
      (pss_one (ps_fld (pv 0) (pe_fldK K rfl (pv 3)) rfl)))), ?_⟩
  have hne : ∀ {H1 : Hp} {r dr : Addr} {fs gs : List (Str × V)}, H1 x = some (.ins (CT K) dx fs) → H1 r = some (.ins (CR K) dr gs) → gs ≠ fs → r ≠ x := fun {H1 r dr fs gs} h1 h2 n z => by
    rw [z, h1] at h2
    injection h2 with h2
    injection h2 with _ _ h2
    exact n h2.symm
  rcases h with ⟨r, dr, l, p, rfl, hr', k⟩ | ⟨p, xs, ss, rfl, p1, p2, hS, hR, hF, hz, k⟩
  · have nx : r ≠ x := hne hx hr' (by simp)
    refine ⟨_, rfl, _, _, _, _, true, rfl, .own _, KR.ty hr', I.rr, _, rfl, iteT ⟨_, rfl, ?_⟩⟩
    refine ⟨_, rfl, r, _, dr, _, _, rfl, hr', KR.cl, KR.np, rfl, _, rfl, x, _, dx, _, rfl, hx, KT.cl, KT.np, by decide, ?_⟩
    refine ⟨_, rfl, r, _, dr, _, _, rfl, (by rw [upd_ne nx]; exact hr'), KR.cl, KR.nr, rfl, _, rfl, x, _, dx, _, rfl, upd_same, KT.cl, KT.nr, (by show 1 < 1000; decide), ?_⟩
    exact k _ (Kept.upd.trans Kept.upd) (by rw [upd_same]; rfl)
  · refine ⟨_, rfl, _, _, _, _, false, rfl, .own _, .base (.int p), I.ir, _, rfl, iteF ?_⟩
    refine ⟨_, rfl, _, rfl, p, q, xs, ss, rfl, p1, p2, hS, hR, hF, hz, fun r dr l H1 zs n1 s1 e1 R1 hm hl => ?_⟩
    have hx1 := s1 _ _ hx
    have nx : r ≠ x := hne hx1 e1 (by simp)
    refine ⟨_, rfl, r, _, dr, _, _, rfl, e1, KR.cl, KR.np, rfl, _, rfl, x, _, dx, _, rfl, hx1, KT.cl, KT.np, by decide, ?_⟩
    refine ⟨_, rfl, r, _, dr, _, _, rfl, (by rw [upd_ne nx]; exact e1), KR.cl, KR.nr, rfl, _, rfl, x, _, dx, _, rfl, upd_same, KT.cl, KT.nr, (by show 1 < 1000; decide), ?_⟩
    have kk := (Kept.upd (d := x) (H := H1) (o := .ins (CT K) dx (putF "own_period" (.int p) []))).trans (Kept.upd (o := .ins (CT K) dx (putF "own_runs" (.ref l) (putF "own_period" (.int p) []))))
    exact k l _ zs (fun c o n h => kk c o n (s1 c o h)) (by rw [upd_same]; rfl) (R1.keptI hx1 kk) hm hl
end
end TM
end

section
set_option maxHeartbeats 4000000
namespace TM
open PySem PySem.Spec PyProof.Rows L2 EW
abbrev NOf : List Str := ["cls", "period", "spans"]
theorem Of : FnScope NOf ["cls", "period", "spans"] (defScope sOf) := ⟨rfl, rfl, rfl, by decide +kernel, rfl, by decide +kernel, by decide +kernel⟩
abbrev NAlike : List Str := ["one", "other"]
theorem Alike : FnScope NAlike ["one", "other"] (defScope sAlike) := ⟨rfl, rfl, rfl, by decide +kernel, rfl, by decide +kernel, by decide +kernel⟩
abbrev NCon : List Str := ["self", "value"]
theorem Con : FnScope NCon ["self", "value"] (defScope sCon) := ⟨rfl, rfl, rfl, by decide +kernel, rfl, by decide +kernel, by decide +kernel⟩
abbrev NBol : List Str := ["self"]
theorem Bol : FnScope NBol ["self"] (defScope sBol) := ⟨rfl, rfl, rfl, by decide +kernel, rfl, by decide +kernel, by decide +kernel⟩
abbrev NPeriod : List Str := ["self"]
theorem Period : FnScope NPeriod ["self"] (defScope sPeriod) := ⟨rfl, rfl, rfl, by decide +kernel, rfl, by decide +kernel, by decide +kernel⟩
abbrev NRunsP : List Str := ["self"]
theorem RunsP : FnScope NRunsP ["self"] (defScope sRunsP) := ⟨rfl, rfl, rfl, by decide +kernel, rfl, by decide +kernel, by decide +kernel⟩
section
variable {P : Program} {w : World} {K : W.Frag} {mg : Str → Option Value} {base : Heap}
/-- a set of times of runs that were reckoned -/
theorem tInit_runs {H1 : Hp} {x dx r dr l : Addr} {p : Int} {Q : VK} (hr : H1 r = some (.ins (CR K) dr (FS p l))) (nx : H1 x = none) (ndx : H1 dx = none) (ne : dx ≠ x) (k : ∀ H', Same H1 H' → H' x = some (.ins (CT K) dx (FS p l)) → Q (.ref x) H') :
    spTInit K [.ref x, .ref r] (upd (upd H1 dx (.own x)) x (.ins (CT K) dx [])) (fun v H2 => v = .non ∧ Q (.ref x) H2) E0 := by
  refine ⟨[.ref x, .ref r], [], rfl, rfl, Nat.zero_le _, fun q hq => ?_⟩
  have nqx : x ≠ q := fun z => by rw [← z, upd_same] at hq; cases hq
  have nq : ∀ {c : Addr} {o : HO}, H1 c = some o → c ≠ q ∧ c ≠ x ∧ c ≠ dx := fun {c o} h => by
    have h1 : c ≠ x := fun z => by rw [z, nx] at h; cases h
    have h2 : c ≠ dx := fun z => by rw [z, ndx] at h; cases h
    refine ⟨fun z => ?_, h1, h2⟩
    rw [← z, upd_ne h1, upd_ne h2, h] at hq
    cases hq
  have at_ : ∀ {c : Addr} {o : HO}, H1 c = some o → (upd (upd (upd H1 dx (.own x)) x (.ins (CT K) dx [])) q (.tup [])) c = some o := fun {c o} h => by
    obtain ⟨h0, h1, h2⟩ := nq h
    rw [upd_ne h0, upd_ne h1, upd_ne h2]
    exact h
  refine ⟨x, dx, q, .ref r, rfl, by rw [upd_ne nqx, upd_same], .inl ⟨r, dr, l, p, rfl, at_ hr, fun H' kp e => ⟨rfl, k H' (fun c o h => kp c o (nq h).2.1 (at_ h)) e⟩⟩⟩
/-- .. of spans -/
theorem tInit_spans {H1 : Hp} {x dx : Addr} {p : Int} {xs : List V} {ss : List Rn.Sp3} {Q : VK} (p1 : 1 ≤ p) (p2 : p ≤ 400) (hR : Sns K H1 xs ss) (hF : Few p ss) (hz : xs.length ≤ 10000000) (nx : H1 x = none) (ndx : H1 dx = none) (ne : dx ≠ x)
    (k : ∀ (l : Addr) (H' : Hp) (zs : List Rn.Run), Same H1 H' → H' x = some (.ins (CT K) dx (FS p l)) → RunsAt K H' l p zs → (∀ t, Rn.inRuns p zs t ↔ Rn.inSpans p ss t) → zs.length ≤ (ss.flatMap (Rn.foundOf p)).length → Q (.ref x) H') :
    spTInit K (.ref x :: .int p :: xs) (upd (upd H1 dx (.own x)) x (.ins (CT K) dx [])) (fun v H2 => v = .non ∧ Q (.ref x) H2) E0 := by
  have hbig : (10000000 : Nat) < sizeLine := by decide
  refine ⟨[.ref x, .int p], xs, rfl, rfl, by omega, fun q hq => ?_⟩
  have nqx : x ≠ q := fun z => by rw [← z, upd_same] at hq; cases hq
  have nq : ∀ {c : Addr} {o : HO}, H1 c = some o → c ≠ q ∧ c ≠ x ∧ c ≠ dx := fun {c o} h => by
    have h1 : c ≠ x := fun z => by rw [z, nx] at h; cases h
    have h2 : c ≠ dx := fun z => by rw [z, ndx] at h; cases h
    refine ⟨fun z => ?_, h1, h2⟩
    rw [← z, upd_ne h1, upd_ne h2, h] at hq
    cases hq
  have at_ : Same H1 (upd (upd (upd H1 dx (.own x)) x (.ins (CT K) dx [])) q (.tup xs)) := fun c o h => by
    obtain ⟨h0, h1, h2⟩ := nq h
    rw [upd_ne h0, upd_ne h1, upd_ne h2]
    exact h
  refine ⟨x, dx, q, .int p, rfl, by rw [upd_ne nqx, upd_same], .inr ⟨p, xs, ss, rfl, p1, p2, SqT.of upd_same, Sns.same hR at_, hF, hz, fun l H' zs kp e R hm hl => ⟨rfl, k l H' zs (fun c o h => kp c o (nq h).2.1 (at_ c o h)) e R hm hl⟩⟩⟩
theorem ok_timesIn {fd fR : FuncData} (F : FnP K "times_in_spans" sTimesIn fd) (KR : Kl K mg "Runs") (KT : Kl K mg "Times") (FR : FnOk P w K mg base CX0 1 (He.ma K (CR K) "__init__") fR ["self", "period", "runs"] (spRInit (CR K))) (bR : L2.Binds K fR ["self", "period", "runs"] [])
    (FT : FnR P w K mg base CX0 7 (He.ma K (CT K) "__init__") (spTInit K)) (Druns_in : Df P w K mg base 5 "runs_in" ["period", "spans"] (spRunsIn K)) : FnOk P w K mg base CX0 9 (He.ga K "times_in_spans") fd ["period", "spans"] (spTimesIn K) := by
  refine F.ok TimesIn (fun vs H Q E h => ?_) (fun cdv A outer s H vs Q E hr h => ?_)
  · obtain ⟨p, q, xs, ss, rfl, _⟩ := h
    rfl
  · obtain ⟨p, q, xs, ss, rfl, p1, p2, hS, hR, hF, k⟩ := h
    refine ⟨_, PSs.nox (pss_one (ps_ret (StX.pe_makeR KT.mkr FT (hr.mono (by decide)) rfl KT.g pass0 (pa_cons (pe_mk2 KR.mkr FR bR (hr.mono (by decide)) rfl KR.g (pa_cons (pv 0) (pa_cons (pe_df Druns_in (hr.mono (by decide)) rfl (pa_cons (pv 0) (pa_cons (pv 1) pa_nil))) pa_nil))) pa_nil)))), ?_⟩
    refine ⟨_, rfl, _, rfl, _, rfl, p, q, xs, ss, rfl, p1, p2, .inl hS, hR, hF.1, hF.2, fun l H2 ys zs n2 s2 e2 R2 cn hm hl => ?_⟩
    refine ⟨_, _, rfl, fun r dr H3 n3 s3 e3 => ?_⟩
    intro x dx nx ndx ne
    have s23 := Same.trans s2 s3
    refine tInit_runs e3 nx ndx ne fun H4 s4 e4 => ?_
    have s34 := Same.trans s3 s4
    exact k x dx l H4 zs (s23.free nx) (Same.trans s23 s4) e4 ⟨ys, SqT.same (SqT.of e2) s34, Rns.same R2 s34, cn, Nat.le_trans hl hF.2⟩ hm hl
/-- Times.of(period, spans) -/
def spOf (K : W.Frag) : Sp := fun vs H Q _ => ∃ (p : Int) (q : Addr) (xs : List V) (ss : List Rn.Sp3), vs = [.ref (CT K), .int p, .ref q] ∧ 1 ≤ p ∧ p ≤ 400 ∧ SqT K H q xs ∧ Sns K H xs ss ∧ Few p ss ∧ xs.length ≤ 10000000 ∧ Told K (CT K) H p ss Q
theorem ok_of {f : Addr} {fd : FuncData} (F : FunD K "of" "Times.of" (defArgs sOf) (defBody sOf) (defScope sOf) [] [] f fd) (KT : Kl K mg "Times") (FT : FnR P w K mg base CX0 7 (He.ma K (CT K) "__init__") (spTInit K)) (Dchecked : Df P w K mg base 6 "checked" ["period", "spans"] (spChecked K)) :
    FnOk P w K mg base CX0 9 f fd ["cls", "period", "spans"] (spOf K) := by
  refine F.ok Of (fun vs H Q E h => ?_) (fun cdv A outer s H vs Q E hr h => ?_)
  · obtain ⟨p, q, xs, ss, rfl, _⟩ := h
    rfl
  · obtain ⟨p, q, xs, ss, rfl, p1, p2, hS, hR, hF, hz, k⟩ := h
    refine ⟨_, PSs.nox (pss_one (ps_ret (pe_makeL (i := 0) KT.mkr FT (hr.mono (by decide)) rfl (Or.inl rfl) pass0 (pa_cons (pe_df Dchecked (hr.mono (by decide)) rfl (pa_cons (pv 1) (pa_cons (pv 2) pa_nil))) pa_nil)))), ?_⟩
    refine ⟨rfl, _, rfl, _, rfl, p, q, xs, ss, rfl, p1, p2, hS, hR, hF, hz, fun r dr l H1 zs n1 s1 e1 R1 hm hl => ?_⟩
    intro x dx nx ndx ne
    refine tInit_runs e1 nx ndx ne fun H4 s4 e4 => ?_
    exact k x dx l H4 zs (s1.free nx) (Same.trans s1 s4) e4 (R1.same s4) hm hl
/-- Times.every(period, residue, since=.., until=..) -/
def spEvery (K : W.Frag) : Sp := fun vs H Q _ => ∃ (p : Int) (r lo hi : Option Int), vs = [.ref (CT K), .int p, ob r, ob lo, ob hi] ∧ 1 ≤ p ∧ p ≤ 400 ∧ Rn.SpOk p ⟨r, lo, hi⟩ ∧ Told K (CT K) H p [⟨r, lo, hi⟩] Q
theorem few_one {p : Int} {s : Rn.Sp3} (p1 : 1 ≤ p) (p2 : p ≤ 400) (ok : Rn.SpOk p s) : Few p [s] := by
  refine ⟨fun z hz => ?_, ?_⟩
  · rw [List.mem_singleton] at hz
    rw [hz]
    exact ok
  · rw [List.flatMap_cons, List.flatMap_nil, List.append_nil]
    refine Nat.le_trans (List.length_filterMap_le _ _) ?_
    unfold Rn.residues
    split
    · simp
      omega
    · simp
def spAlike (K : W.Frag) : Sp := fun vs H Q _ => ∃ (u v : V) (p : Int) (zs ws : List Rn.Run), vs = [u, v] ∧ Ob K (CT K) H u p zs ∧ Ob K (CT K) H v p ws ∧ Q .non H
theorem ok_alike {fd : FuncData} (F : FnP K "require_alike" sAlike fd) (T : Fre mg) (KT : Kl K mg "Times") (I : Isi K) : FnOk P w K mg base CX0 1 (He.ga K "require_alike") fd ["one", "other"] (spAlike K) := by
  refine F.ok Alike (fun vs H Q E h => ?_) (fun cdv A outer s H vs Q E hr h => ?_)
  · obtain ⟨u, v, p, zs, ws, rfl, _⟩ := h
    rfl
  · obtain ⟨u, v, p, zs, ws, rfl, ⟨a, da, la, rfl, ha, _⟩, ⟨b, db, lb, rfl, hb, _⟩, k⟩ := h
    refine ⟨_, PSs.nox (pss_one (ps_if (PW.pt (pw_or (pt_not (pt_val (pe_callB (call_isiE K rfl) (by rfl) T.isinstance EW.boot_isinstance (pa_cons (pv 1) (pa_cons (pe_glob (v := .ref (He.ga K "Times")) rfl KT.g rfl) pa_nil))))) (pw_or1 (pt_cmpR op_ne (pe_fldK K rfl (pv 0)) (pe_fldK K rfl (pv 1)) (nomark _))))) (pss_one ps_never) pss_nil)), ?_⟩
    refine ⟨_, rfl, _, _, _, _, true, rfl, .own _, KT.ty hb, I.tt, _, rfl, iteF ?_⟩
    refine ⟨_, rfl, a, _, da, _, _, rfl, ha, KT.cl, KT.np, rfl, _, rfl, b, _, db, _, _, rfl, hb, KT.cl, KT.np, rfl, rfl, _, rfl, ?_⟩
    exact iteC (by simp) k
def spCon (K : W.Frag) : Sp := fun vs H Q _ => ∃ (u : V) (p t : Int) (zs : List Rn.Run), vs = [u, .int t] ∧ Ob K (CT K) H u p zs ∧ ∀ (b : Bool) (H' : Hp), (b = true ↔ Rn.inRuns p zs t) → Same H H' → Q (.bl b) H'
theorem ok_con {fd : FuncData} (F : FunD K "__contains__" "Times.__contains__" (defArgs sCon) (defBody sCon) (defScope sCon) [] [] (He.ma K (CT K) "__contains__") fd) (KT : Kl K mg "Times") (Dis_integer : Df P w K mg base 1 "is_integer" ["value"] (spIsInt K)) (Dis_member : Df P w K mg base 1 "is_member" ["period", "runs", "time"] (spMember K)) :
    FnOk P w K mg base CX0 2 (He.ma K (CT K) "__contains__") fd ["self", "value"] (spCon K) := by
  refine F.ok Con (fun vs H Q E h => ?_) (fun cdv A outer s H vs Q E hr h => ?_)
  · obtain ⟨u, p, t, zs, rfl, _⟩ := h
    rfl
  · obtain ⟨u, p, t, zs, rfl, ⟨a, da, la, rfl, ha, ⟨ys, hy, Ry, cn, hl⟩, p1, p2⟩, k⟩ := h
    refine ⟨_, PSs.nox (pss_one (ps_ret (pe_and (pe_df Dis_integer (hr.mono (by decide)) rfl (pa_cons (pv 1) pa_nil)) (pe_one (pe_df Dis_member (hr.mono (by decide)) rfl (pa_cons (pe_fldK K rfl (pv 0)) (pa_cons (pe_fldK K rfl (pv 0)) (pa_cons (pv 1) pa_nil)))))))), ?_⟩
    refine ⟨_, rfl, _, _, true, false, rfl, .base (.int t), kit_ty kb1, (fun _ => kit_ty kb2), _, rfl, iteT ?_⟩
    refine ⟨_, rfl, a, _, da, _, _, rfl, ha, KT.cl, KT.np, rfl, _, rfl, a, _, da, _, _, rfl, ha, KT.cl, KT.nr, rfl, _, rfl, p, t, la, ys, zs, rfl, by omega, hy, Ry, by rw [Ry.length]; exact hl, k⟩
def spBool (K : W.Frag) : Sp := fun vs H Q _ => ∃ (u : V) (p : Int) (zs : List Rn.Run), vs = [u] ∧ Ob K (CT K) H u p zs ∧ Q (.bl (!zs.isEmpty)) H
theorem ok_bool {fd : FuncData} (F : FunD K "__bool__" "Times.__bool__" (defArgs sBol) (defBody sBol) (defScope sBol) [] [] (He.ma K (CT K) "__bool__") fd) (T : Fre mg) (KT : Kl K mg "Times") :
    FnOk P w K mg base CX0 1 (He.ma K (CT K) "__bool__") fd ["self"] (spBool K) := by
  refine F.ok Bol (fun vs H Q E h => ?_) (fun cdv A outer s H vs Q E hr h => ?_)
  · obtain ⟨u, p, zs, rfl, _⟩ := h
    rfl
  · obtain ⟨u, p, zs, rfl, ⟨a, da, la, rfl, ha, ⟨ys, hy, Ry, cn, hl⟩, p1, p2⟩, k⟩ := h
    refine ⟨_, PSs.nox (pss_one (ps_ret (pe_callTy call_boolT (by rfl) T.bool EW.boot_bool (pa_cons (pe_fldK K rfl (pv 0)) pa_nil)))), ?_⟩
    refine ⟨_, rfl, a, _, da, _, _, rfl, ha, KT.cl, KT.nr, rfl, la, ys, rfl, hy, ?_⟩
    have e : ys.isEmpty = zs.isEmpty := by
      cases Ry with
      | nil => rfl
      | cons _ _ => rfl
    rw [e]
    exact k
def spPeriod (K : W.Frag) : Sp := fun vs H Q _ => ∃ (u : V) (p : Int) (zs : List Rn.Run), vs = [u] ∧ Ob K (CT K) H u p zs ∧ Q (.int p) H
theorem ok_period {f : Addr} {fd : FuncData} (F : FunD K "period" "Times.period" (defArgs sPeriod) (defBody sPeriod) (defScope sPeriod) [] [] f fd) (KT : Kl K mg "Times") : FnOk P w K mg base CX0 1 f fd ["self"] (spPeriod K) := by
  refine F.ok Period (fun vs H Q E h => ?_) (fun cdv A outer s H vs Q E hr h => ?_)
  · obtain ⟨u, p, zs, rfl, _⟩ := h
    rfl
  · obtain ⟨u, p, zs, rfl, ⟨a, da, la, rfl, ha, _⟩, k⟩ := h
    exact ⟨_, PSs.nox (pss_one (ps_ret (pe_fldK K rfl (pv 0)))), _, rfl, a, _, da, _, _, rfl, ha, KT.cl, KT.np, rfl, k⟩
def spRunsP (K : W.Frag) : Sp := fun vs H Q _ => ∃ (u : V) (p : Int) (zs : List Rn.Run), vs = [u] ∧ Ob K (CT K) H u p zs ∧ ∀ l, RunsAt K H l p zs → Q (.ref l) H
theorem ok_runsP {f : Addr} {fd : FuncData} (F : FunD K "runs" "Times.runs" (defArgs sRunsP) (defBody sRunsP) (defScope sRunsP) [] [] f fd) (KT : Kl K mg "Times") : FnOk P w K mg base CX0 1 f fd ["self"] (spRunsP K) := by
  refine F.ok RunsP (fun vs H Q E h => ?_) (fun cdv A outer s H vs Q E hr h => ?_)
  · obtain ⟨u, p, zs, rfl, _⟩ := h
    rfl
  · obtain ⟨u, p, zs, rfl, ⟨a, da, la, rfl, ha, hR, _⟩, k⟩ := h
    exact ⟨_, PSs.nox (pss_one (ps_ret (pe_fldK K rfl (pv 0)))), _, rfl, a, _, da, _, _, rfl, ha, KT.cl, KT.nr, rfl, k la hR⟩
end
end TM
end

section

namespace Rn
variable {p : Int}
theorem spans_runs {zs : List Run} {t : Int} : inSpans p (zs.map Run.span) t ↔ inRuns p zs t := by
  constructor
  · rintro ⟨s, hs, h1, h2, h3⟩
    obtain ⟨z, hz, rfl⟩ := List.mem_map.mp hs
    exact ⟨z, hz, h1 _ rfl, h2, h3⟩
  · rintro ⟨z, hz, h1, h2, h3⟩
    exact ⟨z.span, List.mem_map.mpr ⟨z, hz, rfl⟩, fun r e => by cases e; exact h1, h2, h3⟩
theorem spans_append {as bs : List Sp3} {t : Int} : inSpans p (as ++ bs) t ↔ inSpans p as t ∨ inSpans p bs t := by
  constructor
  · rintro ⟨s, hs, m⟩
    rcases List.mem_append.mp hs with hs | hs
    · exact .inl ⟨s, hs, m⟩
    · exact .inr ⟨s, hs, m⟩
  · rintro (⟨s, hs, m⟩ | ⟨s, hs, m⟩)
    · exact ⟨s, List.mem_append_left _ hs, m⟩
    · exact ⟨s, List.mem_append_right _ hs, m⟩
/-- spans with a residue make at most one run each -/
theorem found_le : ∀ {ss : List Sp3}, (∀ s ∈ ss, ∃ r, s.res = some r) → (ss.flatMap (foundOf p)).length ≤ ss.length
  | [], _ => Nat.zero_le _
  | s :: ss, h => by
    have h1 := found_le (ss := ss) fun s' hs' => h s' (List.mem_cons_of_mem _ hs')
    obtain ⟨r, hr⟩ := h s List.mem_cons_self
    have h2 : (foundOf p s).length ≤ 1 := by
      refine Nat.le_trans (List.length_filterMap_le _ _) ?_
      unfold residues
      rw [hr]
      exact Nat.le_refl _
    rw [List.flatMap_cons, List.length_append, List.length_cons]
    omega
theorem runs_res {zs : List Run} : ∀ s ∈ zs.map Run.span, ∃ r, s.res = some r := fun s hs => by
  obtain ⟨z, _, rfl⟩ := List.mem_map.mp hs
  exact ⟨z.r, rfl⟩
theorem runs_spok {zs : List Run} (h : ∀ z ∈ zs, Good p z) : ∀ s ∈ zs.map Run.span, SpOk p s := fun s hs => by
  obtain ⟨z, hz, rfl⟩ := List.mem_map.mp hs
  intro r e
  cases e
  exact ⟨(h z hz).r0, (h z hz).r1⟩
/-- the spans outside, residue by residue -/
def outAll (p : Int) (n : Nat) (zs : List Run) : List Sp3 := (List.range n).flatMap fun (k : Nat) => outs p (k : Int) none (zs.filter fun z => decide (z.r = (k : Int)))
theorem outAll_res {n : Nat} {zs : List Run} : ∀ s ∈ outAll p n zs, ∃ k : Nat, k < n ∧ s.res = some (k : Int) := fun s hs => by
  obtain ⟨k, hk, hs⟩ := List.mem_flatMap.mp hs
  exact ⟨k, List.mem_range.mp hk, outs_res s hs⟩
theorem outAll_succ {n : Nat} {zs : List Run} : outAll p (n + 1) zs = outAll p n zs ++ outs p (n : Int) none (zs.filter fun z => decide (z.r = (n : Int))) := by
  unfold outAll
  rw [List.range_succ, List.flatMap_append, List.flatMap_cons, List.flatMap_nil, List.append_nil]
theorem canon_filter {zs : List Run} (c : Canon p zs) (f : Run → Bool) : Canon p (zs.filter f) := ⟨fun z hz => c.good z (List.mem_filter.mp hz).1, List.Pairwise.sublist List.filter_sublist c.pw⟩
theorem outAll_len : ∀ {n : Nat} {zs : List Run}, (outAll p n zs).length ≤ (zs.filter fun z => decide (z.r < (n : Int) ∧ 0 ≤ z.r)).length + n
  | 0, zs => Nat.zero_le _
  | n + 1, zs => by
    have ih := outAll_len (n := n) (zs := zs)
    have h1 := outs_len (p := p) (r := (n : Int)) (xs := zs.filter fun z => decide (z.r = (n : Int))) (b := none)
    have h2 : (zs.filter fun z => decide (z.r < (n : Int) ∧ 0 ≤ z.r)).length + (zs.filter fun z => decide (z.r = (n : Int))).length ≤ (zs.filter fun z => decide (z.r < ((n + 1 : Nat) : Int) ∧ 0 ≤ z.r)).length := by
      clear ih h1
      induction zs with
      | nil => exact Nat.le_refl _
      | cons z zs ih =>
        simp only [List.filter_cons]
        by_cases c1 : z.r < (n : Int) ∧ 0 ≤ z.r
        · have c2 : ¬ z.r = (n : Int) := by omega
          have c3 : z.r < ((n + 1 : Nat) : Int) ∧ 0 ≤ z.r := by omega
          rw [if_pos (decide_eq_true c1), if_neg (by simpa using c2), if_pos (decide_eq_true c3)]
          simp only [List.length_cons]
          omega
        · by_cases c2 : z.r = (n : Int)
          · have c3 : z.r < ((n + 1 : Nat) : Int) ∧ 0 ≤ z.r := by omega
            rw [if_neg (by simpa using c1), if_pos (decide_eq_true c2), if_pos (decide_eq_true c3)]
            simp only [List.length_cons]
            omega
          · have c3 : ¬ (z.r < ((n + 1 : Nat) : Int) ∧ 0 ≤ z.r) := by omega
            rw [if_neg (by simpa using c1), if_neg (by simpa using c2), if_neg (by simpa using c3)]
            exact ih
    rw [outAll_succ, List.length_append]
    omega
theorem outAll_len' {n : Nat} {zs : List Run} : (outAll p n zs).length ≤ zs.length + n := Nat.le_trans outAll_len (Nat.add_le_add_right (List.length_filter_le _ _) _)
theorem outAll_mem (hp : 0 < p) {zs : List Run} (c : Canon p zs) (t : Int) : inSpans p (outAll p p.toNat zs) t ↔ ¬ inRuns p zs t := by
  have m0 := Int.emod_nonneg t (Int.ne_of_gt hp)
  have m1 := Int.emod_lt_of_pos t hp
  obtain ⟨k, hk⟩ : ∃ k : Nat, t % p = (k : Int) := ⟨(t % p).toNat, by omega⟩
  have hkn : k < p.toNat := by omega
  have key := outs_mem (p := p) (r := (k : Int)) hp (by omega) (by omega) (b := none) (canon_filter c fun z => decide (z.r = (k : Int))) (fun x hx => of_decide_eq_true (List.mem_filter.mp hx).2) (fun d e => by cases e) t hk
  have g0 : geLo none t := fun _ e => nomatch e
  have fl : inRuns p (zs.filter fun z => decide (z.r = (k : Int))) t ↔ inRuns p zs t := by
    constructor
    · rintro ⟨z, hz, m⟩
      exact ⟨z, (List.mem_filter.mp hz).1, m⟩
    · rintro ⟨z, hz, m⟩
      exact ⟨z, List.mem_filter.mpr ⟨hz, decide_eq_true (m.1.symm.trans hk)⟩, m⟩
  rw [fl] at key
  constructor
  · rintro ⟨s, hs, m⟩
    obtain ⟨j, hj, hs⟩ := List.mem_flatMap.mp hs
    have e := outs_res s hs
    have e2 := m.1 _ e
    have ejk : j = k := by omega
    subst ejk
    exact (key.mp ⟨s, hs, m⟩).2
  · intro h
    obtain ⟨s, hs, m⟩ := key.mpr ⟨g0, h⟩
    exact ⟨s, List.mem_flatMap.mpr ⟨k, List.mem_range.mpr hkn, hs⟩, m⟩
end Rn
end

section
set_option maxHeartbeats 4000000
namespace TM
open PySem PySem.Spec PyProof.Rows L2 EW
abbrev NOrM : List Str := ["self", "other"]
theorem OrM : FnScope NOrM ["self", "other"] (defScope sOrM) := ⟨rfl, rfl, rfl, by decide +kernel, rfl, by decide +kernel, by decide +kernel⟩
abbrev NAndM : List Str := ["self", "other"]
theorem AndM : FnScope NAndM ["self", "other"] (defScope sAndM) := ⟨rfl, rfl, rfl, by decide +kernel, rfl, by decide +kernel, by decide +kernel⟩
abbrev NInvM : List Str := ["self", "spans", "groups", "residue"]
theorem InvM : FnScope NInvM ["self"] (defScope sInvM) := ⟨rfl, rfl, rfl, by decide +kernel, rfl, by decide +kernel, by decide +kernel⟩
abbrev NSubM : List Str := ["self", "other"]
theorem SubM : FnScope NSubM ["self", "other"] (defScope sSubM) := ⟨rfl, rfl, rfl, by decide +kernel, rfl, by decide +kernel, by decide +kernel⟩
abbrev NEqM : List Str := ["self", "other"]
theorem EqM : FnScope NEqM ["self", "other"] (defScope sEqM) := ⟨rfl, rfl, rfl, by decide +kernel, rfl, by decide +kernel, by decide +kernel⟩
/-- a new set of times: members M, at most n runs -/
def Made (K : W.Frag) (H : Hp) (p : Int) (M : Int → Prop) (n : Nat) (Q : VK) : Prop := ∀ (v : V) (H' : Hp) (zs : List Rn.Run), Same H H' → Ob K (CT K) H' v p zs → (∀ t, Rn.inRuns p zs t ↔ M t) → zs.length ≤ n → Q v H'
theorem Made.told {K : W.Frag} {H H1 : Hp} {p : Int} {M : Int → Prop} {n : Nat} {Q : VK} {ss : List Rn.Sp3} (h : Made K H p M n Q) (s : Same H H1) (p1 : 1 ≤ p) (p2 : p ≤ 400) (hm : ∀ t, Rn.inSpans p ss t ↔ M t) (hn : (ss.flatMap (Rn.foundOf p)).length ≤ n) : Told K (CT K) H1 p ss Q :=
  fun a dx l H' zs _ s' e R m hl => h _ H' zs (Same.trans s s') ⟨a, dx, l, rfl, e, R, p1, p2⟩ (fun t => (m t).trans (hm t)) (Nat.le_trans hl hn)
def spOr (K : W.Frag) : Sp := fun vs H Q _ => ∃ (u v : V) (p : Int) (zs ws : List Rn.Run), vs = [u, v] ∧ Ob K (CT K) H u p zs ∧ Ob K (CT K) H v p ws ∧ zs.length + ws.length ≤ 10000000 ∧ Made K H p (fun t => Rn.inRuns p zs t ∨ Rn.inRuns p ws t) (zs.length + ws.length) Q
def spAnd (K : W.Frag) : Sp := fun vs H Q _ => ∃ (u v : V) (p : Int) (zs ws : List Rn.Run), vs = [u, v] ∧ Ob K (CT K) H u p zs ∧ Ob K (CT K) H v p ws ∧ zs.length * ws.length ≤ 10000000 ∧ Made K H p (fun t => Rn.inRuns p zs t ∧ Rn.inRuns p ws t) (zs.length * ws.length) Q
def spInv (K : W.Frag) : Sp := fun vs H Q _ => ∃ (u : V) (p : Int) (zs : List Rn.Run), vs = [u] ∧ Ob K (CT K) H u p zs ∧ zs.length + 400 ≤ 10000000 ∧ Made K H p (fun t => ¬ Rn.inRuns p zs t) (zs.length + p.toNat) Q
def spSub (K : W.Frag) : Sp := fun vs H Q _ => ∃ (u v : V) (p : Int) (zs ws : List Rn.Run), vs = [u, v] ∧ Ob K (CT K) H u p zs ∧ Ob K (CT K) H v p ws ∧ ws.length + 400 ≤ 10000000 ∧ zs.length * (ws.length + p.toNat) ≤ 10000000 ∧ Made K H p (fun t => Rn.inRuns p zs t ∧ ¬ Rn.inRuns p ws t) (zs.length * (ws.length + p.toNat)) Q
section
variable {P : Program} {w : World} {K : W.Frag} {mg : Str → Option Value} {base : Heap}
theorem ok_or {fd : FuncData} (F : FunD K "__or__" "Times.__or__" (defArgs sOrM) (defBody sOrM) (defScope sOrM) [] [] (He.ma K (CT K) "__or__") fd) (KT : Kl K mg "Times") (Drequire_alike : Df P w K mg base 1 "require_alike" ["one", "other"] (spAlike K)) (Dtimes_in_spans : Df P w K mg base 9 "times_in_spans" ["period", "spans"] (spTimesIn K)) :
    FnOk P w K mg base CX0 10 (He.ma K (CT K) "__or__") fd ["self", "other"] (spOr K) := by
  refine F.ok OrM (fun vs H Q E h => ?_) (fun cdv A outer s H vs Q E hr h => ?_)
  · obtain ⟨u, v, p, zs, ws, rfl, _⟩ := h
    rfl
  · obtain ⟨u, v, p, zs, ws, rfl, Ou, Ov, hz, k⟩ := h
    refine ⟨_, PSs.nox (pss_cons (ps_expr (pe_df Drequire_alike (hr.mono (by decide)) rfl (pa_cons (pv 0) (pa_cons (pv 1) pa_nil))))
      (pss_one (ps_ret (pe_df Dtimes_in_spans (hr.mono (by decide)) rfl (pa_cons (pe_fldK K rfl (pv 0)) (pa_cons (pe_lstS (StX.pa_star (pe_fldK K rfl (pv 0)) (StX.pa_star (pe_fldK K rfl (pv 1)) pa_nil))) pa_nil)))))), ?_⟩
    refine ⟨_, rfl, _, rfl, _, _, p, zs, ws, rfl, Ou, Ov, ?_⟩
    obtain ⟨a, da, la, rfl, ha, ⟨ya, hya, Ra, ca, na⟩, p1, p2⟩ := Ou
    obtain ⟨b, db, lb, rfl, hb, ⟨yb, hyb, Rb, cb, nb⟩, _, _⟩ := Ov
    have hbig : (10000000 : Nat) < sizeLine := by decide
    have l1 := Ra.length
    have l2 := Rb.length
    refine ⟨_, rfl, a, _, da, _, _, rfl, ha, KT.cl, KT.np, rfl, _, rfl, a, _, da, _, _, rfl, ha, KT.cl, KT.nr, rfl, la, ya, rfl, .inl hya, _, rfl, b, _, db, _, _, rfl, hb, KT.cl, KT.nr, rfl, lb, yb, rfl, .inl hyb, ?_, fun q H1 n1 s1 e1 => ?_⟩
    · rw [List.append_nil, List.length_append]
      omega
    rw [List.append_nil] at e1
    have hle : ((zs.map Rn.Run.span ++ ws.map Rn.Run.span).flatMap (Rn.foundOf p)).length ≤ zs.length + ws.length := by
      refine Nat.le_trans (Rn.found_le fun s hs => ?_) (by rw [List.length_append, List.length_map, List.length_map]; exact Nat.le_refl _)
      rcases List.mem_append.mp hs with hs | hs
      · exact Rn.runs_res s hs
      · exact Rn.runs_res s hs
    refine ⟨p, q, _, _, rfl, p1, p2, SqL.of e1, Sns.same (pr_append (Rns.spans Ra) (Rns.spans Rb)) s1, ⟨fun s hs => ?_, by omega⟩, k.told s1 p1 p2 (fun t => ?_) hle⟩
    · rcases List.mem_append.mp hs with hs | hs
      · exact Rn.runs_spok ca.good s hs
      · exact Rn.runs_spok cb.good s hs
    · rw [Rn.spans_append, Rn.spans_runs, Rn.spans_runs]
theorem ok_and {fd : FuncData} (F : FunD K "__and__" "Times.__and__" (defArgs sAndM) (defBody sAndM) (defScope sAndM) [] [] (He.ma K (CT K) "__and__") fd) (KT : Kl K mg "Times") (Drequire_alike : Df P w K mg base 1 "require_alike" ["one", "other"] (spAlike K)) (Dtimes_in_spans : Df P w K mg base 9 "times_in_spans" ["period", "spans"] (spTimesIn K)) (Dcommon_runs : Df P w K mg base 3 "common_runs" ["period", "one", "other"] (spCommon K)) :
    FnOk P w K mg base CX0 10 (He.ma K (CT K) "__and__") fd ["self", "other"] (spAnd K) := by
  refine F.ok AndM (fun vs H Q E h => ?_) (fun cdv A outer s H vs Q E hr h => ?_)
  · obtain ⟨u, v, p, zs, ws, rfl, _⟩ := h
    rfl
  · obtain ⟨u, v, p, zs, ws, rfl, Ou, Ov, hz, k⟩ := h
    refine ⟨_, PSs.nox (pss_cons (ps_expr (pe_df Drequire_alike (hr.mono (by decide)) rfl (pa_cons (pv 0) (pa_cons (pv 1) pa_nil))))
      (pss_one (ps_ret (pe_df Dtimes_in_spans (hr.mono (by decide)) rfl (pa_cons (pe_fldK K rfl (pv 0)) (pa_cons (pe_df Dcommon_runs (hr.mono (by decide)) rfl (pa_cons (pe_fldK K rfl (pv 0)) (pa_cons (pe_fldK K rfl (pv 0)) (pa_cons (pe_fldK K rfl (pv 1)) pa_nil)))) pa_nil)))))), ?_⟩
    refine ⟨_, rfl, _, rfl, _, _, p, zs, ws, rfl, Ou, Ov, ?_⟩
    obtain ⟨a, da, la, rfl, ha, ⟨ya, hya, Ra, ca, na⟩, p1, p2⟩ := Ou
    obtain ⟨b, db, lb, rfl, hb, ⟨yb, hyb, Rb, cb, nb⟩, _, _⟩ := Ov
    have l2 := Rb.length
    obtain ⟨cg, cm⟩ := common_ok (p := p) (zs := zs) (ws := ws) ca.good
    have cl := common_len (p := p) (ws := ws) zs
    refine ⟨_, rfl, a, _, da, _, _, rfl, ha, KT.cl, KT.np, rfl, _, rfl, a, _, da, _, _, rfl, ha, KT.cl, KT.np, rfl, _, rfl, a, _, da, _, _, rfl, ha, KT.cl, KT.nr, rfl, _, rfl, b, _, db, _, _, rfl, hb, KT.cl, KT.nr, rfl, p, la, lb, ya, yb, zs, ws, rfl, by omega, hya, Ra, hyb, Rb, by omega, hz, fun l H1 vs n1 s1 e1 R1 => ?_⟩
    have hle : (((common p zs ws).map Rn.Run.span).flatMap (Rn.foundOf p)).length ≤ zs.length * ws.length := by
      refine Nat.le_trans (Rn.found_le Rn.runs_res) ?_
      rw [List.length_map]
      exact cl
    refine ⟨p, l, _, _, rfl, p1, p2, SqL.of e1, Rns.spans R1, ⟨Rn.runs_spok cg, by omega⟩, k.told s1 p1 p2 (fun t => ?_) hle⟩
    rw [Rn.spans_runs]
    exact cm t
theorem ok_inv {fd : FuncData} (F : FunD K "__invert__" "Times.__invert__" (defArgs sInvM) (defBody sInvM) (defScope sInvM) [] [] (He.ma K (CT K) "__invert__") fd) (T : Fre mg) (KT : Kl K mg "Times") (Dgrouped : Df P w K mg base 1 "grouped" ["runs"] (spGrouped K)) (Dtimes_in_spans : Df P w K mg base 9 "times_in_spans" ["period", "spans"] (spTimesIn K)) (Doutside_runs : Df P w K mg base 1 "outside_runs" ["period", "residue", "runs"] (spOutside K)) :
    FnOk P w K mg base CX0 10 (He.ma K (CT K) "__invert__") fd ["self"] (spInv K) := by
  refine F.ok InvM (fun vs H Q E h => ?_) (fun cdv A outer s H vs Q E hr h => ?_)
  · obtain ⟨u, p, zs, rfl, _⟩ := h
    rfl
  · obtain ⟨u, p, zs, rfl, ⟨a, da, la, rfl, ha, ⟨ya, hya, Ra, ca, na⟩, p1, p2⟩, hz, k⟩ := h
    have hbig : (10000000 : Nat) < sizeLine := by decide
    have l1 := Ra.length
    refine ⟨_, PSs.nox (pss_cons (ps_set (i := 1) InvM.nd rfl (Or.inl rfl) (pe_lstS pa_nil))
      (pss_cons (ps_set (i := 2) InvM.nd rfl (Or.inl rfl) (pe_df Dgrouped (hr.mono (by decide)) rfl (pa_cons (pe_fldK K rfl (pv 0)) pa_nil)))
      (pss_cons (ps_cut (ps_for PassesOwn.never rfl (pi_range1 rfl T.range (pa_cons (pe_fldK K rfl (pv 0)) pa_nil)) (pg_name (i := 3) InvM.nd rfl (Or.inl rfl)) (pss_one (ps_expr (pe_bm PySem.F.plainAttrs_list PySem.F.slot_list_extend PySem.F.type_list_extend mt_extend (pv 1) (pa_cons (pe_df Doutside_runs (hr.mono (by decide)) rfl (pa_cons (pe_fldK K rfl (pv 0)) (pa_cons (pv 3) (pa_cons (pe_dget2 hr.u1 (pv 2) (pv 3) (pe_lstS pa_nil) ⟨rfl, rfl, rfl, rfl⟩) pa_nil)))) pa_nil))))))
      (pss_one (ps_ret (pe_df Dtimes_in_spans (hr.mono (by decide)) rfl (pa_cons (pe_fldK K rfl (pv 0)) (pa_cons (pv 1) pa_nil)))))))), ?_⟩
    refine ⟨(by show 0 ≤ sizeLine; decide), fun f H1 n1 s1 e1 => ?_⟩
    refine ⟨_, rfl, a, _, da, _, _, rfl, s1 _ _ ha, KT.cl, KT.nr, rfl, la, ya, zs, rfl, .inr (SqT.same hya s1), Rns.same Ra s1, by omega, fun d H2 kvs n2 s2 e2 G => ?_⟩
    have s12 := Same.trans s1 s2
    have hf2 : H2 f = some (.lst []) := s2 _ _ e1
    refine ⟨fun σ' H' => ∃ (u3 : Option V) (vs : List V), σ' = [some (.ref a), some (.ref f), some (.ref d), u3] ∧ EW.Kept f H2 H' ∧ H' f = some (.lst vs) ∧ Sns K H' vs (Rn.outAll p p.toNat zs), ?_, ?_⟩
    · refine ⟨_, rfl, a, _, da, _, _, rfl, s12 _ _ ha, KT.cl, KT.np, rfl, p, rfl, by omega, by omega, ?_⟩
      refine for_range (lo := 0) (n := p.toNat) (fun i σ' H' => ∃ (u3 : Option V) (vs : List V), σ' = [some (.ref a), some (.ref f), some (.ref d), u3] ∧ EW.Kept f H2 H' ∧ H' f = some (.lst vs) ∧ Sns K H' vs (Rn.outAll p i zs)) ⟨_, [], rfl, EW.Kept.refl _ _, hf2, .nil⟩ ?_ ?_
      · rintro i σ' H3 hi ⟨u3, vs, rfl, k3, hf3, R3⟩
        have hne : ∀ {c : Addr} {o : HO}, H2 c = some o → o ≠ .lst [] → c ≠ f := fun {c o} h n z => by
          rw [z, hf2] at h
          exact n (Option.some.inj h).symm
        have hd3 : H3 d = some (.dK kvs) := k3 _ _ (hne e2 (fun z => nomatch z)) e2
        have ha3 : H3 a = some (.ins (CT K) da (FS p la)) := k3 _ _ (hne (s12 _ _ ha) (fun z => nomatch z)) (s12 _ _ ha)
        have ei : (0 : Int) + (i : Int) = (i : Int) := Int.zero_add _
        refine ⟨_, rfl, Or.inl ⟨rfl, _, SqL.of hf3⟩, ?_⟩
        refine ⟨_, rfl, a, _, da, _, _, rfl, ha3, KT.cl, KT.np, rfl, _, rfl, _, rfl, d, rfl, .inl ⟨kvs, .inl hd3⟩, _, rfl, (by show 0 ≤ sizeLine; decide), fun q H4 n4 s4 e4 => ⟨_, DGet.k (k := (Sum.inl (0 + (i : Int)) : Key)) (s4 _ _ hd3), ?_⟩⟩
        have k4 : EW.Kept f H2 H4 := fun c o n e => s4 _ _ (k3 c o n e)
        rw [ei]
        have hL : ∃ (L : Addr) (ys0 : List V), (valV kvs (Sum.inl (i : Int) : Key)).getD (.ref q) = .ref L ∧ H4 L = some (.lst ys0) ∧ Rns K H4 ys0 (zs.filter fun z => decide (z.r = (i : Int))) := by
          cases hv : valV kvs (Sum.inl (i : Int) : Key) with
          | none =>
            have en : zs.filter (fun z => decide (z.r = (i : Int))) = [] := List.filter_eq_nil_iff.mpr fun z hz c => G.no _ hv z hz (of_decide_eq_true c)
            exact ⟨q, [], rfl, e4, by rw [en]; exact .nil⟩
          | some v =>
            obtain ⟨⟨l0, ys0, rfl, hl0, R0⟩, z, hz', ez⟩ := G.yes _ _ hv
            have hn0 : l0 ≠ f := hne hl0 (fun e => by
              have e' : ys0 = [] := by injection e
              have h1 := R0.length
              rw [e'] at h1
              have h3 := List.length_pos_of_mem (List.mem_filter.mpr ⟨hz', decide_eq_true ez⟩ : z ∈ zs.filter fun z => decide (z.r = (i : Int)))
              simp at h1
              omega)
            exact ⟨l0, ys0, rfl, k4 _ _ hn0 hl0, Rns.kept R0 hf2 k4⟩
        obtain ⟨L, ys0, eL, hL, R0⟩ := hL
        have hl0 := R0.length
        have hfl := List.length_filter_le (fun z : Rn.Run => decide (z.r = (i : Int))) zs
        rw [eL]
        refine ⟨p, (i : Int), L, ys0, _, rfl, hL, R0, by omega, fun l H5 ys n5 s5 e5 R5 => ?_⟩
        have hf5 : H5 f = some (.lst vs) := s5 _ _ (s4 _ _ hf3)
        have s35 := Same.trans s4 s5
        have g1 := R3.length
        have g2 := R5.length
        have g3 := Rn.outAll_len' (p := p) (n := i) (zs := zs)
        have g4 := Rn.outAll_len' (p := p) (n := i + 1) (zs := zs)
        rw [Rn.outAll_succ, List.length_append] at g4
        refine ⟨f, l, vs, ys, rfl, rfl, hf5, e5, by omega, ?_⟩
        refine ⟨_, vs ++ ys, rfl, (fun c o n e => Kept.upd c o n (s5 _ _ (k4 c o n e))), upd_same, ?_⟩
        rw [Rn.outAll_succ]
        exact Sns.kept (pr_append (Sns.same R3 s35) R5) hf5 Kept.upd
      · rintro σ' H3 ⟨u3, vs, rfl, k3, hf3, R3⟩
        exact ⟨u3, vs, rfl, k3, hf3, R3⟩
    · rintro σ' H3 ⟨u3, vs, rfl, k3, hf3, R3⟩
      have s3 : Same H H3 := fun c o h => k3 c o (fun z => by rw [z, n1] at h; cases h) (s12 c o h)
      have hp : 0 < p := by omega
      have hle : ((Rn.outAll p p.toNat zs).flatMap (Rn.foundOf p)).length ≤ zs.length + p.toNat := by
        refine Nat.le_trans (Rn.found_le fun s hs => ?_) Rn.outAll_len'
        obtain ⟨j, _, e⟩ := Rn.outAll_res s hs
        exact ⟨_, e⟩
      refine ⟨_, rfl, a, _, da, _, _, rfl, s3 _ _ ha, KT.cl, KT.np, rfl, _, rfl, p, f, vs, _, rfl, p1, p2, SqL.of hf3, R3, ⟨fun s hs => ?_, by omega⟩, k.told s3 p1 p2 (fun t => Rn.outAll_mem hp ca t) hle⟩
      obtain ⟨j, hj, e⟩ := Rn.outAll_res s hs
      intro r er
      rw [e] at er
      cases er
      omega
theorem ok_sub {fd : FuncData} (F : FunD K "__sub__" "Times.__sub__" (defArgs sSubM) (defBody sSubM) (defScope sSubM) [] [] (He.ma K (CT K) "__sub__") fd) (KT : Kl K mg "Times") (Drequire_alike : Df P w K mg base 1 "require_alike" ["one", "other"] (spAlike K))
    (Mand : Mt P w K mg base 10 (CT K) "__and__" ["self", "other"] (spAnd K)) (Minv : Mt P w K mg base 10 (CT K) "__invert__" ["self"] (spInv K)) :
    FnOk P w K mg base CX0 11 (He.ma K (CT K) "__sub__") fd ["self", "other"] (spSub K) := by
  refine F.ok SubM (fun vs H Q E h => ?_) (fun cdv A outer s H vs Q E hr h => ?_)
  · obtain ⟨u, v, p, zs, ws, rfl, _⟩ := h
    rfl
  · obtain ⟨u, v, p, zs, ws, rfl, Ou, Ov, hw, hz, k⟩ := h
    refine ⟨_, PSs.nox (pss_cons (ps_expr (pe_df Drequire_alike (hr.mono (by decide)) rfl (pa_cons (pv 0) (pa_cons (pv 1) pa_nil))))
      (pss_one (ps_ret (pe_op (op_own Mand KT.sf (hr.mono (by decide))) (pv 0) (pe_un (un_own Minv (hr.mono (by decide))) (pv 1)))))), ?_⟩
    refine ⟨_, rfl, _, rfl, _, _, p, zs, ws, rfl, Ou, Ov, ?_⟩
    refine ⟨_, rfl, _, rfl, Ov.isC, v, p, ws, rfl, Ov, hw, fun v1 H1 ws1 s1 O1 m1 l1 => ?_⟩
    have Ou1 := Ou.same s1
    have hmul : zs.length * ws1.length ≤ zs.length * (ws.length + p.toNat) := Nat.mul_le_mul_left _ l1
    refine ⟨Ou1.isC, O1.isC, u, v1, p, zs, ws1, rfl, Ou1, O1, by omega, fun v2 H2 zs2 s2 O2 m2 l2 => ?_⟩
    exact k v2 H2 zs2 (Same.trans s1 s2) O2 (fun t => (m2 t).trans ⟨fun h => ⟨h.1, (m1 t).mp h.2⟩, fun h => ⟨h.1, (m1 t).mpr h.2⟩⟩) (by omega)
/-- the own ==: against a set of times or an int -/
def spEq (K : W.Frag) : Sp := fun vs H Q _ => ∃ (u v : V) (p : Int) (zs : List Rn.Run), vs = [u, v] ∧ Ob K (CT K) H u p zs ∧
  ((∃ (q : Int) (ws : List Rn.Run), Ob K (CT K) H v q ws ∧ Q (.bl (decide (p = q ∧ zs = ws))) H) ∨ ((∃ i, v = .int i) ∧ Q (.bl false) H))
theorem ok_eq {fd : FuncData} (F : FunD K "__eq__" "Times.__eq__" (defArgs sEqM) (defBody sEqM) (defScope sEqM) [] [] (He.ma K (CT K) "__eq__") fd) (T : Fre mg) (KT : Kl K mg "Times") (I : Isi K) :
    FnOk P w K mg base CX0 1 (He.ma K (CT K) "__eq__") fd ["self", "other"] (spEq K) := by
  refine F.ok EqM (fun vs H Q E h => ?_) (fun cdv A outer s H vs Q E hr h => ?_)
  · obtain ⟨u, v, p, zs, rfl, _⟩ := h
    rfl
  · obtain ⟨u, v, p, zs, rfl, ⟨a, da, la, rfl, ha, ⟨ya, hya, Ra, ca, na⟩, p1, p2⟩, h⟩ := h
    refine ⟨_, PSs.nox (pss_one (ps_ret (pe_and (pe_callB (call_isiE K rfl) (by rfl) T.isinstance EW.boot_isinstance (pa_cons (pv 1) (pa_cons (pe_glob (v := .ref (He.ga K "Times")) rfl KT.g rfl) pa_nil))) (pe_and (pe_cmpR op_eq (pe_fldK K rfl (pv 0)) (pe_fldK K rfl (pv 1)) (nomark _)) (pe_one (pe_cmpR (op_eqDK K rfl hr.units) (pe_fldK K rfl (pv 0)) (pe_fldK K rfl (pv 1)) (nomark _))))))), ?_⟩
    rcases h with ⟨q, ws, ⟨b, db, lb, rfl, hb, ⟨yb, hyb, Rb, cb, nb⟩, _, _⟩, k⟩ | ⟨⟨i, rfl⟩, k⟩
    · refine ⟨_, rfl, _, _, _, _, true, rfl, .own _, KT.ty hb, I.tt, _, rfl, iteT ?_⟩
      refine ⟨_, rfl, a, _, da, _, _, rfl, ha, KT.cl, KT.np, rfl, _, rfl, b, _, db, _, _, rfl, hb, KT.cl, KT.np, rfl, rfl, _, rfl, ?_⟩
      by_cases c : p = q
      · refine iteB (decide_eq_true (by rw [c])) ?_
        refine ⟨_, rfl, a, _, da, _, _, rfl, ha, KT.cl, KT.nr, rfl, _, rfl, b, _, db, _, _, rfl, hb, KT.cl, KT.nr, rfl, .tuple (zs.map runD), .tuple (ws.map runD), .tup hya (runs_dp Ra), .tup hyb (runs_dp Rb), shaped_tuple zs, shaped_tuple ws, ?_⟩
        rw [tuple_eqv]
        have e : decide (p = q ∧ zs = ws) = decide (zs = ws) := by simp [c]
        rw [e] at k
        exact k
      · refine iteC (decide_eq_false (fun z => c (V.int.inj z))) ?_
        have e : decide (p = q ∧ zs = ws) = false := by simp [c]
        rw [e] at k
        exact k
    · exact ⟨_, rfl, _, _, _, _, false, rfl, .own _, .base (.int i), I.it, _, rfl, iteF k⟩
def spWithin (K : W.Frag) : Sp := fun vs H Q _ => ∃ (u v : V) (p : Int) (zs ws : List Rn.Run), vs = [u, v] ∧ Ob K (CT K) H u p zs ∧ Ob K (CT K) H v p ws ∧ ws.length + 400 ≤ 10000000 ∧ zs.length * (ws.length + p.toNat) ≤ 10000000 ∧
  ∀ (b : Bool) (H' : Hp), Same H H' → (b = true ↔ ∀ t, Rn.inRuns p zs t → Rn.inRuns p ws t) → Q (.bl b) H'
theorem empty_iff {p : Int} {zs : List Rn.Run} (c : Rn.Canon p zs) : zs.isEmpty = true ↔ ∀ t, ¬ Rn.inRuns p zs t := by
  cases zs with
  | nil => exact ⟨(fun _ t ⟨z, hz, _⟩ => nomatch hz), fun _ => rfl⟩
  | cons z zs =>
    constructor
    · intro h
      cases h
    · intro h
      obtain ⟨t, m⟩ := (c.good z List.mem_cons_self).some
      exact absurd ⟨z, List.mem_cons_self, m⟩ (h t)
end
end TM
end

section
set_option maxHeartbeats 4000000
namespace EW
open PySem PySem.Spec PyProof.Rows L2
/-! ### set(l), sorted(s): ints, some thousands of them -/
section
variable {P : Program} {w : World} {A : Around} {E : Value → Shared → Prop} {s : Shared}
/-- an empty set as it is made -/
abbrev eset (w : World) : Obj := { cls := .type "set", dict := none, data := .set #[] 0 (.fresh 0 0 (!w.params.followText "set-order")) }
/-- what set.__init__ leaves behind -/
def Full (w : World) (s : Shared) (ns : List Int) (r : Value) (s₂ : Shared) : Prop := r = .none ∧ ∃ h' tk c, s₂ = { s with heap := h', toks := tk } ∧ SetR w h' s.heap.objs.size (fun j => decide (j ∈ ns)) c ∧ c ≤ ns.length ∧ ∀ b o, s.heap.get? b = some o → h'.get? b = some o
theorem ints_get {items : Array Value} {ns : List Int} (hit : IntsAre items.toList ns) (i : Nat) (v : Value) (hv : items[i]? = some v) : ∃ k t, ns[i]? = some k ∧ v = .int k t := by
  have hl := IntsAre.length hit
  rw [Array.length_toList] at hl
  have hi : i < ns.length := by rw [← hl]; exact (Array.getElem?_eq_some_iff.mp hv).1
  obtain ⟨t, e⟩ := IntsAre.int_at hit i v (by rw [Array.getElem?_toList]; exact hv)
  rw [List.getD_eq_getElem?_getD, List.getElem?_eq_getElem hi] at e
  exact ⟨ns[i], t, List.getElem?_eq_getElem hi, e⟩
theorem init_list {l : Addr} {items : Array Value} {ns : List Int} (hh : A.handled = none) (hl : s.heap.IsList l items) (hit : IntsAre items.toList ns) (hb : ns.length + 1 < scanBound) :
    codeAny (model P w) A (.call (.builtin "set.__init__") ⟨[.ref s.heap.objs.size, .ref l], []⟩) (wants (Full w s ns) E) { s with heap := s.heap.push (eset w) } := by
  have hsz : items.size = ns.length := by
    have q := IntsAre.length hit
    rw [Array.length_toList] at q
    exact q
  have hS : (s.heap.push (eset w)).get? s.heap.objs.size = some (eset w) := Heap.get?_push_size _ rfl
  refine codeAny_call_builtin F.called_set.init.plain F.entry_set_init (check_set_init_1 ⟨_, hS, rfl⟩ ?_)
  obtain ⟨o, ho, hc, n, hd⟩ := id hl
  obtain ⟨oc, od, dt, osl⟩ := o
  simp only at hc hd
  subst hc hd
  have ho' : (s.heap.push (eset w)).get? l = some { cls := .type "list", dict := od, data := .seq items n, slots := osl } := Heap.get?_push_of_some _ ho
  have hl' : (s.heap.push (eset w)).IsList l items := ⟨_, ho', rfl, n, rfl⟩
  have f1 := F.sub_list_set
  have f2 := F.sub_list_frozenset
  have f3 : (Value.type "list" == Value.type "dict") = false := by decide
  unfold Builtin.«set.__init__» noKeywords Builtin.Frozenset.updateFrom
  generalize hPI : pyIter = PI
  wp_walk
  subst hPI
  refine wpAny_pyIter_list hl' ?_
  refine wpAny_bind (wpAny_runValue ?_)
  have hlt : l < s.heap.objs.size := Heap.lt_size ho
  have h3 : A.in1.in1.handled = none := by simp [hh]
  have hz : (s.heap.push (eset w)).objs.size = s.heap.objs.size + 1 := Heap.size_push ..
  have ne1 : l ≠ (s.heap.push (eset w)).objs.size := by rw [hz]; exact Nat.ne_of_lt (Nat.lt_succ_of_lt hlt)
  have ne2 : s.heap.objs.size ∉ [(s.heap.push (eset w)).objs.size, l] := by
    rw [hz]
    simp only [List.mem_cons, List.not_mem_nil, or_false, not_or]
    exact ⟨Nat.ne_of_lt (Nat.lt_succ_self _), Nat.ne_of_gt hlt⟩
  refine set_update_ints ((Walks.list h3 _ l ne1 items).toS) s.heap.objs.size ne2 ns hsz hb (ints_get hit) (items.size - 0) 0 _ (by omega) (Nat.zero_le _) ?_ ?_ ?_
  · exact ⟨⟨_, Heap.get?_push_size _ rfl, rfl, rfl⟩, (hl'.push _)⟩
  · exact ⟨0, Nat.le_refl 0, setR_new_at (w := w) (Heap.get?_push_of_some _ hS)⟩
  intro s' c' hm hc' hS'
  obtain ⟨h', g2, d', tk', os'⟩ := s'
  obtain rfl : g2 = s.gens := hm.gens
  obtain rfl : d' = s.drawn := hm.drawn
  obtain rfl : os' = s.os := hm.os
  rw [hsz] at hc'
  refine wpAny_pure (wpAny_pure ⟨rfl, h', tk', c', rfl, hS', hc', fun b o e => ?_⟩)
  have hb0 : b < s.heap.objs.size := Heap.lt_size e
  refine hm.heap b o ?_ (Heap.get?_push_of_some _ (Heap.get?_push_of_some _ e))
  simp only [List.mem_cons, List.not_mem_nil, or_false, not_or]
  rw [hz]
  exact ⟨Nat.ne_of_lt hb0, Nat.ne_of_lt (Nat.lt_succ_of_lt hb0)⟩
theorem call_setL {l : Addr} {items : Array Value} {ns : List Int} {Q : Value → Shared → Prop} (hh : A.handled = none) (hl : s.heap.IsList l items) (hit : IntsAre items.toList ns) (hb : ns.length + 1 < scanBound)
    (h : ∀ (h' : Heap) (tk c : Nat), SetR w h' s.heap.objs.size (fun j => decide (j ∈ ns)) c → c ≤ ns.length → (∀ b o, s.heap.get? b = some o → h'.get? b = some o) → Q (.ref s.heap.objs.size) { s with heap := h', toks := tk }) :
    wpAny (model P w) A (call (.type "set") [.ref l]) Q E s := by
  have hct := F.typeCall_set_1 (.ref l)
  have h1 := F.called_set.notType
  have h2 := F.called_set.canCreate
  have h3 := F.called_set.made
  have h4 := F.called_set.sub
  obtain ⟨c0, tl, h5⟩ := F.called_set.mro
  refine wpAny_call (codeAny_of_tree ?_)
  show wpAny _ _ (callAny (.type "set") _) _ _ _
  refine wpAny_pure ⟨Code.quiet_builtin _ (by decide +kernel), codeAny_builtin F.entry_type_call ?_⟩
  rw [Around.under_plain (weight_type_call_type "set" [.ref l] []) rfl]
  repeat (any_goals (first | assumption | wp_step))
  refine codeAny_mono (code_set_led1 (.ref l) (E := E) (Q₁ := fun obj s₁ => obj = .ref s.heap.objs.size ∧ s₁ = { s with heap := s.heap.push (eset w) }) ⟨rfl, rfl⟩) fun r s₁ hr => ?_
  match r, hr with
  | .error e, hr => exact hr
  | .ok (.ret obj), hr =>
    obtain ⟨rfl, rfl⟩ := hr
    have hT : Shared.TypeIs { s with heap := s.heap.push (eset w) } (.ref s.heap.objs.size) "set" := ⟨_, Heap.get?_push_size _ rfl, rfl⟩
    have h6 := F.called_set.init.lookup
    have h7 := F.called_set.init.bind (.ref s.heap.objs.size)
    repeat (any_goals (first | assumption | wp_step))
    refine codeAny_mono (init_list (E := E) (by simp [hh]) hl hit hb) fun r₂ s₂ hr₂ => ?_
    match r₂, hr₂ with
    | .error e, hr₂ => exact hr₂
    | .ok (.ret r), hr₂ =>
      obtain ⟨rfl, h', tk, c', rfl, k1, k2, k3⟩ := hr₂
      repeat (any_goals (first | assumption | wp_step))
      exact h _ _ _ k1 k2 k3
    | .ok .next, hr₂ => exact hr₂.elim
    | .ok .brk, hr₂ => exact hr₂.elim
    | .ok .cont, hr₂ => exact hr₂.elim
  | .ok .next, hr => exact hr.elim
  | .ok .brk, hr => exact hr.elim
  | .ok .cont, hr => exact hr.elim
end
end EW
end

section
set_option maxHeartbeats 4000000
namespace EW
open PySem PySem.Spec PyProof.Rows L2
section
variable {P : Program} {w : World} {A : Around} {E : Value → Shared → Prop} {s : Shared} {a : Addr}
/-- sorted(s), any number of members: a new list of ints -/
theorem sorted_setA {S : Int → Bool} {n : Nat} {Q : Value → Shared → Prop} (R : SetR w s.heap a S n) (hh : A.handled = none)
    (hQ : ∀ (s' : Shared) (p : Addr) (out : List Value) (c : Nat) (ns : List Int), (∀ b o, s.heap.get? b = some o → s'.heap.get? b = some o) → s'.gens = s.gens → s'.os = s.os → s.heap.objs.size ≤ p → s'.heap.get? p = some (seqObj "list" out.toArray c) → IntsAre out ns → ns.length = n → Q (.ref p) s') :
    wpAny (model P w) A (call (.builtin "sorted") [.ref a]) Q E s := by
  obtain ⟨o, es, ep, t, ho, hex, hd, g, nd, hm, hb, hf, hn, hr, hl⟩ := R
  refine Calls.call_function_entry kind_sorted plain_sorted entry_sorted (args_sorted1 _) ?_
  unfold Builtin.«sorted»
  refine wpAny_bind (m := checkCount "sorted" 1 1 _) (wpAny_pure ?_)
  refine wpAny_bind (collect_set (A := A.in1) hh ⟨o, ho, hex.1, hd⟩ hf hb hr hl fun s1 vs k1 hz g1 o1 pm => ?_)
  have hvl : vs.length = n := by rw [pm.length_eq, List.length_map, Array.length_toList]; exact hn
  have hsc : scanBound ≤ sizeLine := by decide
  have hvz : vs.length ≤ sizeLine := by omega
  have hI : IntsAre vs (vs.map Builtin.Re.reRawOf) := ints_of vs fun v hv => by
    obtain ⟨e, he, q⟩ := List.mem_map.mp (pm.mem_iff.mp hv)
    obtain ⟨k, tk, z, _⟩ := g e he
    exact ⟨k, tk, q ▸ z⟩
  refine wpAny_bind (wpAny_newList ?_ hvz)
  have hoL : (s1.heap.push (seqObj "list" vs.toArray 0)).get? s1.heap.objs.size = some (seqObj "list" vs.toArray 0) := Heap.get?_push_size _ rfl
  refine wpAny_bind (wpAny_holding (wpAny_call_entry slot_list_sort ⟨_, hoL, rfl⟩ entry_list_sort (SrtO.list_sort_ord SrtO.swo_int hoL hvz (fun h2 => SrtO.ints_sortable hI h2) fun out b1 b2 => ⟨_, rfl, ?_⟩) (args_list_sort _)))
  obtain ⟨c, hc⟩ := sortedHeap_at (vs := vs) (out := out.toArray) hoL
  obtain ⟨i1, i2, _⟩ := SrtO.ints_out hI b1 b2
  refine wpAny_pure ⟨_, rfl, hQ _ s1.heap.objs.size out c _ (fun b u e => ?_) g1 o1 hz hc i1 ?_⟩
  · have q := k1 b u e
    have hlt := Heap.lt_size q
    show (sortedHeap (s1.heap.push (seqObj "list" vs.toArray 0)) s1.heap.objs.size vs out.toArray).get? b = some u
    rw [sortedHeap_old (Nat.ne_of_lt hlt) (by rw [size_push']; exact Nat.lt_succ_of_lt hlt)]
    exact Heap.get?_push_of_some _ q
  · rw [i2.length_eq, List.length_map]
    exact hvl
end
section
variable {X : Cx}
/-- set(l) -/
theorem cr_setL (hc : X.calm = true) : CallR X (.type "set") (fun vs H Q => ∃ (a : Addr) (ns : List Int), vs = [V.ref a] ∧ SqL X.K H a (ns.map V.int) ∧ ns.length + 1 < scanBound ∧ ∀ (p : Addr) (S : Int → Bool) (c : Nat) (H' : Hp), H p = none → Same H H' → H' p = some (SetO X.w p S c) → c ≤ ns.length → Q (.ref p) H') := by
  intro pins s σ H vs us Q I r h
  obtain ⟨a, ns, rfl, hS, hb, q⟩ := h
  obtain rfl := Vals.ref1 r
  obtain ⟨its, rv, hl, hz⟩ := I.list hS
  refine call_setL (I.ok.hd hc) hl.isList (show IntsAre its.toArray.toList ns from rv.ints) hb fun h' tk c R hcn kp => ?_
  have hf := I.hok.fresh (Nat.le_refl s.heap.objs.size)
  exact ⟨.ref _, upd H s.heap.objs.size (SetO X.w s.heap.objs.size (fun j => decide (j ∈ ns)) c), I.laid (t' := tk) kp (Nat.le_refl _) (setO_new R), rfl, q _ _ c _ hf (sameN hf) upd_same hcn⟩
/-- sorted(s) -/
theorem cr_sortedSetA (hc : X.calm = true) : CallR X (.builtin "sorted") (fun vs H Q => ∃ (a : Addr) (S : Int → Bool) (n : Nat), vs = [V.ref a] ∧ H a = some (SetO X.w a S n) ∧ ∀ ns : List Int, ns.length = n → New H (fun _ => .lst (ns.map V.int)) Q) := by
  intro pins s σ H vs us Q I r h
  obtain ⟨a, S, n, rfl, ha, q⟩ := h
  have R := setO_get I ha
  have hn := R
  obtain rfl := Vals.ref1 r
  refine sorted_setA R (I.ok.hd hc) fun s' p out c ns k g o hp hg hi hl => ?_
  have hlen : (ns.map V.int).length ≤ sizeLine := by
    obtain ⟨_, es, _, _, _, _, _, _, _, _, hb, _, hen, _⟩ := hn
    have hsc : scanBound ≤ sizeLine := by decide
    rw [List.length_map, hl]
    omega
  have hf : H p = none := I.hok.fresh hp
  have J : Inv X pins σ (upd H p (.lst (ns.map V.int))) { s with heap := s'.heap, gens := s'.gens, drawn := s'.drawn, toks := s'.toks } :=
    I.call (ch := []) (Un.laid k hp hf) (I.hok.laid k hp ⟨hlen, out, c, vals_of_ints hi, hg⟩) (by rw [g]; exact I.bare) (fun _ z => nomatch z)
  have e : s' = { s with heap := s'.heap, gens := s'.gens, drawn := s'.drawn, toks := s'.toks } := by
    cases s'
    cases s
    cases o
    rfl
  rw [e]
  exact ⟨.ref p, _, J, rfl, (q ns hl).at hf⟩
end
end EW
end

section
set_option maxHeartbeats 4000000
namespace EW
open PySem PySem.Spec PyProof.Rows L2
/-! ### slices, sealed -/
section
variable {X : Cx}
theorem sl_tupS (K : W.Frag) (h : X.K = K) : SlR X (fun x lo hi H Q => ∃ a xs, x = .ref a ∧ SqT K H a xs ∧ ¬ (HT.sIx xs.length 0 lo = 0 ∧ HT.sIx xs.length xs.length hi = xs.length) ∧ New H (fun _ => .tup (cutV xs lo hi)) Q) := by
  subst h
  intro pins s σ H x v vl vu lo hi sl Q I rx hs pl pu h
  obtain ⟨a, xs, e, hS, n, q⟩ := h
  exact sl_tup pins s σ H x v vl vu lo hi sl Q I rx hs pl pu ⟨a, xs, e, hS, n, fun p hp => q.at hp⟩
theorem sl_listS (K : W.Frag) (h : X.K = K) : SlR X (fun x lo hi H Q => ∃ a xs, x = .ref a ∧ SqL K H a xs ∧ New H (fun _ => .lst (cutV xs lo hi)) Q) := by
  subst h
  intro pins s σ H x v vl vu lo hi sl Q I rx hs pl pu h
  obtain ⟨a, xs, e, hS, q⟩ := h
  exact sl_list pins s σ H x v vl vu lo hi sl Q I rx hs pl pu ⟨a, xs, e, hS, fun p hp => q.at hp⟩
end
end EW
end

section
set_option maxHeartbeats 4000000
namespace EW
open PySem PySem.Spec PyProof.Rows L2
/-! ### methods, properties, classmethods by what of them is known -/
structure Mtk (P : Program) (w : World) (K : W.Frag) (mg : Str → Option Value) (base : Heap) (k : Nat) (C : Addr) (m : Str) (ps : List Str) (ds : List Value) (dvs : List V) (sp : Sp) : Prop where
  ex : ∃ f fd, FnOk P w K mg base CX0 k f fd ps sp ∧ Binds K fd ps ds ∧ Vals dvs ds ∧ Meth K C m f
structure Prp (P : Program) (w : World) (K : W.Frag) (mg : Str → Option Value) (base : Heap) (k : Nat) (C : Addr) (f : Str) (sp : Sp) : Prop where
  ex : ∃ p g fd, PropOf K C f p g ∧ FnOk P w K mg base CX0 k g fd ["self"] sp ∧ Binds K fd ["self"] []
structure CMt (P : Program) (w : World) (K : W.Frag) (mg : Str → Option Value) (base : Heap) (k : Nat) (C : Addr) (m : Str) (sp : Sp) : Prop where
  ex : ∃ mc p g, ClX.CRead K C mc ∧ ClX.CMet K C mc m p g ∧ FnR P w K mg base CX0 k g sp
section
variable {X : Cx} {k : Nat} {C : Addr} {m f : Str} {ps : List Str} {ds : List Value} {dvs : List V} {sp : Sp} {o e : Expr} {es : List Expr} {ta : TE} {t : TA} {pos apos : Pos}
theorem pe_mtk {pl : Sem Bool} (he : PE X o ta) (c : Cls X.K C) (M : Mtk X.prog X.w X.K X.mg X.base k C m ps ds dvs sp) (hr : Room k X.A) (ha : PA X (e :: es) t)
    (hst : starEach (e :: es) X.env = (false, eval e X.env) :: starEach es X.env := by rfl) (hpl : (backTo pos (starEach es X.env)).any (·.1) = false := by rfl)
    (ht : eval (.Call (.Attribute o m apos) (e :: es) [] pos) X.env = (do
      let ov ← eval o X.env
      standAt apos.atName
      let (f, first) ← holding [ov] (getMethod ov m pl)
      callWith pos f first (backTo pos (starEach (e :: es) X.env)) (backToKw pos (keywordEach [] X.env))) := by rfl) :
    PE X (.Call (.Attribute o m apos) (e :: es) [] pos) (tMeth C m sp dvs E0 ta t) := by
  obtain ⟨f, fd, F, b, hd, hm⟩ := M.ex
  exact pe_meth he c hm F hr b hd pass0 ha hst hpl ht
theorem pe_mtk0 {pl : Sem Bool} (he : PE X o ta) (c : Cls X.K C) (M : Mtk X.prog X.w X.K X.mg X.base k C m ps ds dvs sp) (hr : Room k X.A)
    (ht : eval (.Call (.Attribute o m apos) [] [] pos) X.env = (do
      let ov ← eval o X.env
      standAt apos.atName
      let (f, first) ← holding [ov] (getMethod ov m pl)
      callWith pos f first (backTo pos (starEach [] X.env)) (backToKw pos (keywordEach [] X.env))) := by rfl) :
    PE X (.Call (.Attribute o m apos) [] [] pos) (tMeth C m sp dvs E0 ta tNil) := by
  obtain ⟨f, fd, F, b, hd, hm⟩ := M.ex
  exact pe_meth0 he c hm F hr b hd pass0 ht
theorem pe_prp (he : PE X e ta) (c : Cls X.K C) (R : Prp X.prog X.w X.K X.mg X.base k C f sp) (hr : Room (k + 1) X.A) (hab : attributeBase e f X.env (eval e X.env) = eval e X.env := by rfl) : PE X (.Attribute e f pos) (tProp C sp [] E0 ta) := by
  obtain ⟨p, g, fd, h1, F, b⟩ := R.ex
  exact pe_prop he c h1 F hr b .nil pass0 hab
theorem pe_cmt {pl : Sem Bool} (he : PE X o ta) (M : CMt X.prog X.w X.K X.mg X.base k C m sp) (hr : Room k X.A) (ha : PA X (e :: es) t)
    (hst : starEach (e :: es) X.env = (false, eval e X.env) :: starEach es X.env := by rfl) (hpl : (backTo pos (starEach es X.env)).any (·.1) = false := by rfl)
    (ht : eval (.Call (.Attribute o m apos) (e :: es) [] pos) X.env = (do
      let ov ← eval o X.env
      standAt apos.atName
      let (f, first) ← holding [ov] (getMethod ov m pl)
      callWith pos f first (backTo pos (starEach (e :: es) X.env)) (backToKw pos (keywordEach [] X.env))) := by rfl) :
    PE X (.Call (.Attribute o m apos) (e :: es) [] pos) (ClX.tCMeth C sp E0 ta t) := by
  obtain ⟨mc, p, g, h1, h2, F⟩ := M.ex
  exact ClX.pe_cmeth he h1 h2 F hr pass0 ha hst hpl ht
/-- a list some times, sealed -/
def rRepS : R2 := fun x y H Q => ∃ l k xs, x = .ref l ∧ y = .int k ∧ H l = some (.lst xs) ∧ -(2 ^ 63) ≤ k ∧ k < 2 ^ 63 ∧ xs.length * k.toNat ≤ sizeLine ∧ New H (fun _ => .lst (List.replicate k.toNat xs).flatten) Q
theorem op_repS : OpR X (binaryOp .Mult) rRepS := by
  intro pins s σ H x y v u Q I rx ry h
  obtain ⟨l, k, xs, h1, h2, h3, h4, h5, h6, h7⟩ := h
  exact op_rep pins s σ H x y v u Q I rx ry ⟨l, k, xs, h1, h2, h3, h4, h5, h6, fun _ hp => h7.at hp⟩
/-- is True, is False -/
def tIsB (ta : TE) (b : Bool) : TE := fun σ H Q => ta σ H fun x H1 => ∃ c, x = .bl c ∧ Q (.bl (decide (c = b))) H1
theorem is_bool {M : Model} {A : Around} {E : Value → Shared → Prop} {Q : Value → Shared → Prop} {s : Shared} {c b : Bool} (h : Q (.bool (decide (c = b))) s) : wpAny M A (compareOp .Is (.bool c) (.bool b)) Q E s := by
  cases c <;> cases b <;> exact wpAny_pure h
theorem pc_isB {a : Expr} {b : Bool} {j pos'} (ha : PE X a ta) : PC X .Is a (.Constant (.bool b) j pos') (tIsB ta b) := by
  refine ⟨fun pins s σ H Q I h => ?_⟩
  refine thn (ha.run pins s σ H _ I h) fun v s1 ⟨x, H1, I1, r1, c, ex, q1⟩ => ?_
  subst ex
  cases r1
  exact Constant_bool (is_bool ⟨.bl _, H1, I1, rfl, q1⟩)
end
end EW
end

section
set_option maxHeartbeats 4000000
namespace TM
open PySem PySem.Spec PyProof.Rows L2 EW
/-! ### a set of times by its members -/
def Has (K : W.Frag) (H : Hp) (v : V) (p : Int) (M : Int → Prop) (n : Nat) : Prop := ∃ zs, Ob K (CT K) H v p zs ∧ (∀ t, Rn.inRuns p zs t ↔ M t) ∧ zs.length ≤ n
/-- a new one, what follows -/
def Hn (K : W.Frag) (H : Hp) (p : Int) (M : Int → Prop) (n : Nat) (Q : VK) : Prop := ∀ (v : V) (H' : Hp), Same H H' → Has K H' v p M n → Q v H'
section
variable {K : W.Frag} {H H' : Hp} {u v : V} {p : Int} {A B : Int → Prop} {n m : Nat} {Q : VK}
theorem Has.same (h : Has K H v p A n) (s : Same H H') : Has K H' v p A n := let ⟨zs, o, r⟩ := h; ⟨zs, o.same s, r⟩
theorem Has.kept {d : Addr} {ys : List V} (h : Has K H v p A n) (hd : H d = some (.lst ys)) (k : EW.Kept d H H') : Has K H' v p A n := let ⟨zs, o, r⟩ := h; ⟨zs, o.kept hd k, r⟩
theorem Has.isC (h : Has K H v p A n) : IsC H (CT K) v := let ⟨_, o, _⟩ := h; o.isC
theorem Has.mem (h : Has K H v p A n) (e : ∀ t, A t ↔ B t) : Has K H v p B n := let ⟨zs, o, m, l⟩ := h; ⟨zs, o, fun t => (m t).trans (e t), l⟩
theorem Has.le (h : Has K H v p A n) (l : n ≤ m) : Has K H v p A m := let ⟨zs, o, h1, h2⟩ := h; ⟨zs, o, h1, Nat.le_trans h2 l⟩
theorem Has.per (h : Has K H v p A n) : 1 ≤ p ∧ p ≤ 400 := let ⟨_, ⟨_, _, _, _, _, _, h1, h2⟩, _⟩ := h; ⟨h1, h2⟩
theorem Hn.made (k : Hn K H p A n Q) {M : Int → Prop} {m : Nat} (e : ∀ t, M t ↔ A t) (l : m ≤ n) : Made K H p M m Q := fun v H' zs s o hm hl => k v H' s ⟨zs, o, fun t => (hm t).trans (e t), Nat.le_trans hl l⟩
theorem hOr (hu : Has K H u p A n) (hv : Has K H v p B m) (hl : n + m ≤ 10000000) (k : Hn K H p (fun t => A t ∨ B t) (n + m) Q) : IsC H (CT K) u ∧ IsC H (CT K) v ∧ spOr K [u, v] H Q E0 := by
  refine ⟨hu.isC, hv.isC, ?_⟩
  obtain ⟨zs, ou, mu, lu⟩ := hu
  obtain ⟨ws, ov, mv, lv⟩ := hv
  exact ⟨u, v, p, zs, ws, rfl, ou, ov, by omega, k.made (fun t => by rw [mu, mv]) (by omega)⟩
theorem hAnd (hu : Has K H u p A n) (hv : Has K H v p B m) (hl : n * m ≤ 10000000) (k : Hn K H p (fun t => A t ∧ B t) (n * m) Q) : IsC H (CT K) u ∧ IsC H (CT K) v ∧ spAnd K [u, v] H Q E0 := by
  refine ⟨hu.isC, hv.isC, ?_⟩
  obtain ⟨zs, ou, mu, lu⟩ := hu
  obtain ⟨ws, ov, mv, lv⟩ := hv
  have h : zs.length * ws.length ≤ n * m := Nat.mul_le_mul lu lv
  exact ⟨u, v, p, zs, ws, rfl, ou, ov, by omega, k.made (fun t => by rw [mu, mv]) h⟩
theorem hSub (hu : Has K H u p A n) (hv : Has K H v p B m) (hl : n * (m + p.toNat) ≤ 10000000) (hl2 : m ≤ 9000000) (k : Hn K H p (fun t => A t ∧ ¬ B t) (n * (m + p.toNat)) Q) : IsC H (CT K) u ∧ IsC H (CT K) v ∧ spSub K [u, v] H Q E0 := by
  refine ⟨hu.isC, hv.isC, ?_⟩
  obtain ⟨zs, ou, mu, lu⟩ := hu
  obtain ⟨ws, ov, mv, lv⟩ := hv
  have h : zs.length * (ws.length + p.toNat) ≤ n * (m + p.toNat) := Nat.mul_le_mul lu (Nat.add_le_add_right lv _)
  exact ⟨u, v, p, zs, ws, rfl, ou, ov, by omega, by omega, k.made (fun t => by rw [mu, mv]) h⟩
theorem hInv (hu : Has K H u p A n) (hl : n ≤ 9000000) (k : Hn K H p (fun t => ¬ A t) (n + p.toNat) Q) : IsC H (CT K) u ∧ spInv K [u] H Q E0 := by
  refine ⟨hu.isC, ?_⟩
  obtain ⟨zs, ou, mu, lu⟩ := hu
  exact ⟨u, p, zs, rfl, ou, by omega, k.made (fun t => by rw [mu]) (by omega)⟩
theorem same_iff {zs ws : List Rn.Run} (hp : 0 < p) (c1 : Rn.Canon p zs) (c2 : Rn.Canon p ws) (m1 : ∀ t, Rn.inRuns p zs t ↔ A t) (m2 : ∀ t, Rn.inRuns p ws t ↔ B t) : zs = ws ↔ ∀ t, A t ↔ B t := by
  constructor
  · intro e t
    rw [← m1, ← m2, e]
  · intro e
    exact Rn.canon_unique hp c1 c2 fun t => by rw [m1, m2]; exact e t
theorem Has.ins (h : Has K H v p A n) : ∃ a dx fs, v = .ref a ∧ H a = some (.ins (CT K) dx fs) ∧ fs.lookup ("is_within" : Str) = none := by
  obtain ⟨zs, ⟨a, dx, l, e, h1, _⟩, _⟩ := h
  exact ⟨a, dx, _, e, h1, rfl⟩
theorem hWithin (hu : Has K H u p A n) (hv : Has K H v p B m) (hl : n * (m + p.toNat) ≤ 10000000) (hl2 : m ≤ 9000000) (k : ∀ (b : Bool) (H' : Hp), Same H H' → (b = true ↔ ∀ t, A t → B t) → Q (.bl b) H') : spWithin K [u, v] H Q E0 := by
  obtain ⟨zs, ou, mu, lu⟩ := hu
  obtain ⟨ws, ov, mv, lv⟩ := hv
  have h : zs.length * (ws.length + p.toNat) ≤ n * (m + p.toNat) := Nat.mul_le_mul lu (Nat.add_le_add_right lv _)
  refine ⟨u, v, p, zs, ws, rfl, ou, ov, by omega, by omega, fun b H' s e => k b H' s (e.trans ?_)⟩
  constructor
  · intro z t ht
    exact (mv t).mp (z t ((mu t).mpr ht))
  · intro z t ht
    exact (mv t).mpr (z t ((mu t).mp ht))
theorem hEq (hu : Has K H u p A n) (hv : Has K H v p B m) (k : ∀ b : Bool, (b = true ↔ ∀ t, A t ↔ B t) → Q (.bl b) H) : IsC H (CT K) u ∧ Askd H (CT K) v ∧ spEq K [u, v] H Q E0 := by
  refine ⟨hu.isC, .inl hv.isC, ?_⟩
  have hp := hu.per.1
  obtain ⟨zs, ou, mu, lu⟩ := hu
  obtain ⟨ws, ov, mv, lv⟩ := hv
  refine ⟨u, v, p, zs, rfl, ou, .inl ⟨p, ws, ov, k _ ?_⟩⟩
  obtain ⟨_, _, _, _, _, ⟨_, _, _, c1, _⟩, _⟩ := ou
  obtain ⟨_, _, _, _, _, ⟨_, _, _, c2, _⟩, _⟩ := ov
  rw [decide_eq_true_iff, ← same_iff (by omega) c1 c2 mu mv]
  exact ⟨fun z => z.2, fun z => ⟨rfl, z⟩⟩
theorem hEqP {q : Int} (hu : Has K H u p A n) (hv : Has K H v q B m) (hne : p ≠ q) (k : Q (.bl false) H) : IsC H (CT K) u ∧ Askd H (CT K) v ∧ spEq K [u, v] H Q E0 := by
  refine ⟨hu.isC, .inl hv.isC, ?_⟩
  obtain ⟨zs, ou, mu, lu⟩ := hu
  obtain ⟨ws, ov, mv, lv⟩ := hv
  refine ⟨u, v, p, zs, rfl, ou, .inl ⟨q, ws, ov, ?_⟩⟩
  have e : decide (p = q ∧ zs = ws) = false := decide_eq_false fun z => hne z.1
  rw [e]
  exact k
theorem hEqI {i : Int} (hu : Has K H u p A n) (k : Q (.bl false) H) : IsC H (CT K) u ∧ Askd H (CT K) (.int i) ∧ spEq K [u, .int i] H Q E0 := by
  refine ⟨hu.isC, .inr ⟨i, rfl⟩, ?_⟩
  obtain ⟨zs, ou, mu, lu⟩ := hu
  exact ⟨u, .int i, p, zs, rfl, ou, .inr ⟨⟨i, rfl⟩, k⟩⟩
theorem hBool (hu : Has K H u p A n) (k : ∀ b : Bool, (b = true ↔ ∃ t, A t) → Q (.bl b) H) : IsC H (CT K) u ∧ spBool K [u] H Q E0 := by
  refine ⟨hu.isC, ?_⟩
  obtain ⟨zs, ou, mu, lu⟩ := hu
  refine ⟨u, p, zs, rfl, ou, k _ ?_⟩
  obtain ⟨_, _, _, _, _, ⟨_, _, _, c1, _⟩, _⟩ := ou
  have e := empty_iff c1
  cases q : zs.isEmpty with
  | true =>
    have z := e.mp q
    constructor
    · intro y
      cases y
    · rintro ⟨t, ht⟩
      exact absurd ((mu t).mpr ht) (z t)
  | false =>
    refine ⟨fun _ => ?_, fun _ => rfl⟩
    rcases Classical.em (∃ t, A t) with y | y
    · exact y
    · have z := e.mpr fun t ht => y ⟨t, (mu t).mp ht⟩
      rw [q] at z
      cases z
/-- v.runs, v.period -/
theorem hRuns (hu : Has K H u p A n) (k : ∀ (l : Addr) (zs : List Rn.Run), RunsAt K H l p zs → (∀ t, Rn.inRuns p zs t ↔ A t) → Q (.ref l) H) : ∃ a dx fs, u = .ref a ∧ H a = some (.ins (CT K) dx fs) ∧ spRunsP K [.ref a] H Q E0 := by
  obtain ⟨zs, ⟨a, dx, l, e, h1, h2⟩, mu, lu⟩ := hu
  subst e
  exact ⟨a, dx, _, rfl, h1, .ref a, p, zs, rfl, ⟨a, dx, l, rfl, h1, h2⟩, fun l h => k l zs h mu⟩
theorem hPer (hu : Has K H u p A n) (k : Q (.int p) H) : ∃ a dx fs, u = .ref a ∧ H a = some (.ins (CT K) dx fs) ∧ spPeriod K [.ref a] H Q E0 := by
  obtain ⟨zs, ⟨a, dx, l, e, h1, h2⟩, mu, lu⟩ := hu
  subst e
  exact ⟨a, dx, _, rfl, h1, .ref a, p, zs, rfl, ⟨a, dx, l, rfl, h1, h2⟩, k⟩
theorem ne_runs {l m : Addr} {zs ws : List Rn.Run} (hp : 0 < p) (h1 : RunsAt K H l p zs) (h2 : RunsAt K H m p ws) (e : ∀ t, Rn.inRuns p zs t ↔ Rn.inRuns p ws t) (k : Q (.bl false) H) : rNeD K (.ref l) (.ref m) H Q := by
  obtain ⟨ya, hya, Ra, ca, na⟩ := h1
  obtain ⟨yb, hyb, Rb, cb, nb⟩ := h2
  refine ⟨.tuple (zs.map runD), .tuple (ws.map runD), .tup hya (runs_dp Ra), .tup hyb (runs_dp Rb), shaped_tuple zs, shaped_tuple ws, ?_⟩
  rw [tuple_eqv, decide_eq_true (Rn.canon_unique hp ca cb e)]
  exact k
theorem res_lenP (hp : 0 < p) (s : Rn.Sp3) : (Rn.residues p s).length ≤ p.toNat := by
  unfold Rn.residues
  split <;> simp <;> omega
theorem found_lenP (hp : 0 < p) (ss : List Rn.Sp3) : (ss.flatMap (Rn.foundOf p)).length ≤ p.toNat * ss.length := by
  induction ss with
  | nil => simp
  | cons s ss ih =>
    rw [List.flatMap_cons, List.length_append, List.length_cons, Nat.mul_add]
    have h : (Rn.foundOf p s).length ≤ p.toNat := Nat.le_trans (List.length_filterMap_le _ _) (res_lenP hp s)
    omega
theorem few_of {ss : List Rn.Sp3} (p1 : 1 ≤ p) (p2 : p ≤ 400) (ok : ∀ s ∈ ss, Rn.SpOk p s) (hl : ss.length ≤ 20000) : Few p ss := by
  refine ⟨ok, Nat.le_trans (found_lenP (by omega) ss) ?_⟩
  have h : p.toNat * ss.length ≤ 400 * 20000 := Nat.mul_le_mul (by omega) hl
  omega
theorem hTold {ss : List Rn.Sp3} (p1 : 1 ≤ p) (p2 : p ≤ 400) (k : Hn K H p (Rn.inSpans p ss) (p.toNat * ss.length) Q) : Told K (CT K) H p ss Q :=
  fun a dx l H' zs _ s e R m hl => k _ H' s ⟨zs, ⟨a, dx, l, rfl, e, R, p1, p2⟩, m, Nat.le_trans hl (found_lenP (by omega) ss)⟩
theorem hOf {q : Addr} {xs : List V} {ss : List Rn.Sp3} (p1 : 1 ≤ p) (p2 : p ≤ 400) (hS : SqT K H q xs) (hR : Sns K H xs ss) (ok : ∀ s ∈ ss, Rn.SpOk p s) (hl : ss.length ≤ 20000) (k : Hn K H p (Rn.inSpans p ss) (p.toNat * ss.length) Q) : spOf K [.ref (CT K), .int p, .ref q] H Q E0 := by
  have hlen := hR.length
  exact ⟨p, q, xs, ss, rfl, p1, p2, hS, hR, few_of p1 p2 ok hl, by omega, hTold p1 p2 k⟩
end
end TM
end

section
set_option maxHeartbeats 4000000
namespace EW
open PySem PySem.Spec PyProof.Rows L2
/-! ### data that stand while the heap grows; written data -/
mutual
theorem dp_same {K : W.Frag} {H H' : Hp} (s : Same H H') : ∀ (d : PyData) (v : V), Dp K H v d → Dp K H' v d
  | .none, _, h => by
    cases h
    exact .non
  | .bool b, _, h => by
    cases h
    exact .bl b
  | .int i, _, h => by
    cases h
    exact .int i
  | .str x, _, h => by
    cases h
    exact .str x
  | .list ds, _, h => by
    cases h with
    | lst hs ha => exact .lst (s.seq hs) (dpAll_same s ds _ ha)
  | .tuple ds, _, h => by
    cases h with
    | tup hs ha =>
      refine .tup ?_ (dpAll_same s ds _ ha)
      rcases hs with (h | ⟨o, h⟩) | h
      · exact .inl (.inl (s _ _ h))
      · exact .inl (.inr ⟨o, s _ _ h⟩)
      · exact .inr h
  | .dict _, _, h => by cases h
theorem dpAll_same {K : W.Frag} {H H' : Hp} (s : Same H H') : ∀ (ds : List PyData) (vs : List V), DpAll K H vs ds → DpAll K H' vs ds
  | [], _, h => by
    cases h
    exact .nil
  | d :: ds, _, h => by
    cases h with
    | cons h1 h2 => exact .cons (dp_same s d _ h1) (dpAll_same s ds _ h2)
end
theorem dpAll_len {K : W.Frag} {H : Hp} : ∀ (ds : List PyData) (vs : List V), DpAll K H vs ds → vs.length = ds.length
  | [], _, h => by
    cases h
    rfl
  | d :: ds, _, h => by
    cases h with
    | cons h1 h2 => rw [List.length_cons, List.length_cons, dpAll_len ds _ h2]
section
variable {X : Cx} {K : W.Frag} {e : Expr} {es : List Expr} {d : PyData} {ds : List PyData} {pos : Pos}
def tLit (K : W.Frag) (d : PyData) : TE := fun _ H Q => ∀ v H', Same H H' → Dp K H' v d → Q v H'
def tLits (K : W.Frag) (ds : List PyData) : TA := fun _ H Q => ∀ vs H', Same H H' → DpAll K H' vs ds → Q vs H'
theorem PA.imp {t t' : TA} (h : PA X es t) (i : ∀ σ H Q, t' σ H Q → t σ H Q) : PA X es t' := ⟨fun ps pins s σ H Q I q => h.run ps pins s σ H Q I (i _ _ _ q)⟩
theorem pl_int {i : Int} {k} : PE X (.Constant (.int i) k pos) (tLit K (.int i)) := PE.imp pe_int fun σ H Q q => q _ H (Same.refl H) (.int i)
theorem pl_non {k} : PE X (.Constant .none k pos) (tLit K .none) := PE.imp pe_non fun σ H Q q => q _ H (Same.refl H) .non
theorem pl_bl {b : Bool} {k} : PE X (.Constant (.bool b) k pos) (tLit K (.bool b)) := PE.imp pe_bl fun σ H Q q => q _ H (Same.refl H) (.bl b)
theorem pl_str {z : Str} {k} : PE X (.Constant (.str z) k pos) (tLit K (.str z)) := PE.imp pe_str fun σ H Q q => q _ H (Same.refl H) (.str z)
theorem pl_neg {i : Int} (h : PE X e (tLit K (.int i))) : PE X (.UnaryOp .USub e pos) (tLit K (.int (-i))) := PE.imp (pe_un un_neg h) fun σ H Q q v H' s dv => by
  cases dv
  exact ⟨_, rfl, q _ H' s (.int (-i))⟩
theorem pls_nil : PA X [] (tLits K []) := PA.imp pa_nil fun σ H Q q => q [] H (Same.refl H) .nil
theorem pls_cons (h : PE X e (tLit K d)) (t : PA X es (tLits K ds)) (hs : starEach (e :: es) X.env = (false, eval e X.env) :: starEach es X.env := by rfl) : PA X (e :: es) (tLits K (d :: ds)) := PA.imp (pa_cons h t hs) fun σ H Q q v H1 s1 d1 vs H2 s2 d2 => q (v :: vs) H2 (Same.trans s1 s2) (.cons (dp_same s2 _ _ d1) d2)
theorem pl_tup {n : Nat} (hl : ds.length ≤ sizeLine) (t : PA X es (tLits K ds)) : PE X (.Tuple es n pos) (tLit K (.tuple ds)) := PE.imp (pe_tupS t) fun σ H Q q vs H1 s1 d1 => ⟨by rw [dpAll_len _ _ d1]; exact hl, fun p H2 n2 s2 e2 => q _ H2 (Same.trans s1 s2) (.tup (SqT.of e2) (dpAll_same s2 _ _ d1))⟩
theorem pl_lst (hl : ds.length ≤ sizeLine) (t : PA X es (tLits K ds)) : PE X (.List es pos) (tLit K (.list ds)) := PE.imp (pe_lstS t) fun σ H Q q vs H1 s1 d1 => ⟨by rw [dpAll_len _ _ d1]; exact hl, fun p H2 n2 s2 e2 => q _ H2 (Same.trans s1 s2) (.lst (SqL.of e2) (dpAll_same s2 _ _ d1))⟩
end
end EW
end

section
set_option maxHeartbeats 4000000
namespace EW
open PySem PySem.Spec PyProof.Rows L2
/-! ### spans as data -/
def spanD (s : Rn.Sp3) : PyData := .tuple [od s.res, od s.lo, od s.hi]
section
variable {K : W.Frag} {H H' : Hp} {v : V} {Q : VK} {X : Cx}
theorem span_dp {s : Rn.Sp3} (h : Sn K H v s) : Dp K H v (spanD s) := by
  obtain ⟨a, rfl, q⟩ := h
  exact .tup q (.cons (od_dp _) (.cons (od_dp _) (.cons (od_dp _) .nil)))
theorem spans_dp : ∀ {vs : List V} {ss : List Rn.Sp3}, Sns K H vs ss → DpAll K H vs (ss.map spanD)
  | _, _, .nil => .nil
  | _, _, .cons h t => .cons (span_dp h) (spans_dp t)
theorem span_lay (s : Rn.Sp3) : (spanD s).canLay0 = true := by simp [spanD, PyData.canLay0, PyData.canLayAll0, od_lay]
theorem spans_lay : ∀ ss : List Rn.Sp3, PyData.canLayAll0 (ss.map spanD) = true
  | [] => by simp [PyData.canLayAll0]
  | z :: zs => by simp [PyData.canLayAll0, span_lay, spans_lay zs]
theorem span_depth (z : Rn.Sp3) : (spanD z).depth = 1 := by simp [spanD, PyData.depth, PyData.depthAll, od_depth]
theorem spans_depth : ∀ zs : List Rn.Sp3, PyData.depthAll (zs.map spanD) ≤ 1
  | [] => by simp [PyData.depthAll]
  | z :: zs => by
    have h := spans_depth zs
    simp [PyData.depthAll, span_depth]
    omega
theorem spans_shaped (zs : List Rn.Sp3) : SeqAt.shaped (.list (zs.map spanD)) = true := by
  have h := spans_depth zs
  simp [SeqAt.shaped, PyData.canLay0, PyData.depth, spans_lay]
  omega
theorem sn_of_dp (s : Rn.Sp3) (h : Dp K H v (.tuple [od s.res, od s.lo, od s.hi])) : Sn K H v s := by
  have ob_of : ∀ {w : V} {o : Option Int}, Dp K H w (od o) → w = ob o := fun {w o} h => by
    cases o with
    | none => cases h; rfl
    | some i => cases h; rfl
  cases h with
  | tup hs ha =>
    cases ha with
    | cons h1 ha =>
      cases ha with
      | cons h2 ha =>
        cases ha with
        | cons h3 ha =>
          cases ha
          rw [ob_of h1, ob_of h2, ob_of h3] at hs
          exact ⟨_, rfl, hs⟩
theorem ints_dp : ∀ ns : List Int, DpAll K H (ns.map V.int) (ns.map PyData.int)
  | [] => .nil
  | b :: bs => .cons (.int b) (ints_dp bs)
theorem ints_lay : ∀ bs : List Int, PyData.canLayAll0 (bs.map PyData.int) = true
  | [] => by simp [PyData.canLayAll0]
  | b :: bs => by simp [PyData.canLayAll0, PyData.canLay0, ints_lay bs]
theorem ints_depth : ∀ bs : List Int, PyData.depthAll (bs.map PyData.int) = 0
  | [] => by simp [PyData.depthAll]
  | b :: bs => by simp [PyData.depthAll, PyData.depth, ints_depth bs]
theorem shaped_ints (bs : List Int) : SeqAt.shaped (.list (bs.map PyData.int)) = true := by
  simp [SeqAt.shaped, PyData.canLay0, PyData.depth, ints_lay, ints_depth]
theorem cr_minK {X : Cx} (K : W.Frag) (h : X.K = K) (hc : X.calm = true) : CallR X (.builtin "min") (rMin K) := by
  subst h
  exact cr_min hc
theorem nil_shaped : SeqAt.shaped (.list []) = true := by simp [SeqAt.shaped, PyData.canLay0, PyData.canLayAll0, PyData.depth, PyData.depthAll]
theorem list_nil_eqv (ds : List PyData) : PyData.eqv (.list ds) (.list []) = ds.isEmpty := by
  rw [PyData.eqv]
  cases ds <;> simp [PyData.eqvAll]
/-- a list against [] -/
theorem neNil {x y : V} {ds : List PyData} (hx : Dp K H x (.list ds)) (hs : SeqAt.shaped (.list ds) = true) (hy : Dp K H y (.list [])) (k : Q (.bl (!ds.isEmpty)) H) : rNeD K x y H Q :=
  ⟨_, _, hx, hy, hs, nil_shaped, by rw [list_nil_eqv]; exact k⟩
theorem eqNil {x y : V} {ds : List PyData} (hx : Dp K H x (.list ds)) (hs : SeqAt.shaped (.list ds) = true) (hy : Dp K H y (.list [])) (k : Q (.bl ds.isEmpty) H) : rEqD K x y H Q :=
  ⟨_, _, hx, hy, hs, nil_shaped, by rw [list_nil_eqv]; exact k⟩
theorem seqIx {j n : Nat} (h : j < n) : seqIndex? (j : Int) n = some j := by
  unfold seqIndex?
  have h1 : ¬ ((j : Int) < 0) := by omega
  have h2 : ¬ ((j : Int) ≥ (n : Int)) := by omega
  simp [h1, h]
end
end EW
end

section

namespace Rn
/-! ### written runs -/
def loB (p : Int) (x : Run) : Bool := match x.lo with
  | none => true
  | some l => decide (l % p = x.r)
def hiB (p : Int) (x : Run) : Bool := match x.hi with
  | none => true
  | some l => decide (l % p = x.r)
def lhB (x : Run) : Bool := match x.lo, x.hi with
  | some l, some m => decide (l ≤ m)
  | _, _ => true
def goodB (p : Int) (x : Run) : Bool := decide (0 ≤ x.r) && (decide (x.r < p) && (loB p x && (hiB p x && lhB x)))
theorem goodB_ok {p : Int} {x : Run} (h : goodB p x = true) : Good p x := by
  unfold goodB at h
  simp only [Bool.and_eq_true, decide_eq_true_eq] at h
  obtain ⟨h1, h2, h3, h4, h5⟩ := h
  refine ⟨h1, h2, fun l e => ?_, fun l e => ?_, fun l m e f => ?_⟩
  · unfold loB at h3
    rw [e] at h3
    exact of_decide_eq_true h3
  · unfold hiB at h4
    rw [e] at h4
    exact of_decide_eq_true h4
  · unfold lhB at h5
    rw [e, f] at h5
    exact of_decide_eq_true h5
def ltB (p : Int) (x y : Run) : Bool := decide (x.r < y.r) || (decide (x.r = y.r) && (match x.hi, y.lo with
  | some h, some l => decide (h + p < l)
  | _, _ => false))
theorem ltB_ok {p : Int} {x y : Run} (h : ltB p x y = true) : Lt p x y := by
  unfold ltB at h
  rw [Bool.or_eq_true, Bool.and_eq_true] at h
  rcases h with h | ⟨h1, h2⟩
  · exact .inl (of_decide_eq_true h)
  · refine .inr ⟨of_decide_eq_true h1, ?_⟩
    split at h2
    · rename_i a b e f
      exact ⟨a, b, e, f, of_decide_eq_true h2⟩
    · cases h2
def canonB (p : Int) : List Run → Bool
  | [] => true
  | x :: xs => goodB p x && (xs.all (ltB p x) && canonB p xs)
theorem canonB_ok {p : Int} : ∀ {xs : List Run}, canonB p xs = true → Canon p xs
  | [], _ => ⟨(fun _ h => nomatch h), .nil⟩
  | x :: xs, h => by
    unfold canonB at h
    rw [Bool.and_eq_true, Bool.and_eq_true] at h
    obtain ⟨h1, h2, h3⟩ := h
    have c := canonB_ok h3
    refine ⟨fun y hy => ?_, List.pairwise_cons.mpr ⟨fun y hy => ltB_ok (List.all_eq_true.mp h2 y hy), c.pw⟩⟩
    rcases List.mem_cons.mp hy with rfl | hy
    · exact goodB_ok h1
    · exact c.good y hy
section
variable {p t : Int}
theorem geN : geLo none t ↔ True := ⟨fun _ => trivial, fun _ _ h => nomatch h⟩
theorem geS {l : Int} : geLo (some l) t ↔ l ≤ t := ⟨fun h => h l rfl, fun h m e => by cases e; exact h⟩
theorem leN : leHi none t ↔ True := ⟨fun _ => trivial, fun _ _ h => nomatch h⟩
theorem leS {l : Int} : leHi (some l) t ↔ t ≤ l := ⟨fun h => h l rfl, fun h m e => by cases e; exact h⟩
theorem runs_nil : inRuns p [] t ↔ False := ⟨(fun ⟨_, h, _⟩ => nomatch h), False.elim⟩
theorem runs_cons {x : Run} {xs : List Run} : inRuns p (x :: xs) t ↔ inRun p x t ∨ inRuns p xs t := by
  constructor
  · rintro ⟨y, hy, h⟩
    rcases List.mem_cons.mp hy with rfl | hy
    · exact .inl h
    · exact .inr ⟨y, hy, h⟩
  · rintro (h | ⟨y, hy, h⟩)
    · exact ⟨x, List.mem_cons_self, h⟩
    · exact ⟨y, List.mem_cons_of_mem _ hy, h⟩
theorem spans_nil : inSpans p [] t ↔ False := ⟨(fun ⟨_, h, _⟩ => nomatch h), False.elim⟩
theorem spans_cons {x : Sp3} {xs : List Sp3} : inSpans p (x :: xs) t ↔ inSpan p x t ∨ inSpans p xs t := by
  constructor
  · rintro ⟨y, hy, h⟩
    rcases List.mem_cons.mp hy with rfl | hy
    · exact .inl h
    · exact .inr ⟨y, hy, h⟩
  · rintro (h | ⟨y, hy, h⟩)
    · exact ⟨x, List.mem_cons_self, h⟩
    · exact ⟨y, List.mem_cons_of_mem _ hy, h⟩
theorem run_mk {r : Int} {lo hi : Option Int} : inRun p ⟨r, lo, hi⟩ t ↔ t % p = r ∧ geLo lo t ∧ leHi hi t := Iff.rfl
theorem span_N {lo hi : Option Int} : inSpan p ⟨none, lo, hi⟩ t ↔ geLo lo t ∧ leHi hi t := ⟨fun h => h.2, fun h => ⟨(fun _ e => nomatch e), h⟩⟩
theorem span_S {r : Int} {lo hi : Option Int} : inSpan p ⟨some r, lo, hi⟩ t ↔ t % p = r ∧ geLo lo t ∧ leHi hi t := ⟨fun h => ⟨h.1 r rfl, h.2⟩, fun h => ⟨fun s e => by cases e; exact h.1, h.2⟩⟩
end
end Rn
end

section
set_option maxHeartbeats 4000000
namespace TM
open PySem PySem.Spec PyProof.Rows L2 EW
section
variable {K : W.Frag} {H H' : Hp} {u v : V} {p : Int} {A B : Int → Prop} {n m : Nat} {Q : VK}
theorem hEvery {r : Int} (p1 : 1 ≤ p) (p2 : p ≤ 400) (r0 : 0 ≤ r) (r1 : r < p) (k : Hn K H p (Rn.inSpans p [⟨some r, none, none⟩]) (p.toNat * 1) Q) : spEvery K [.ref (CT K), .int p, .int r, .non, .non] H Q E0 :=
  ⟨p, some r, none, none, rfl, p1, p2, (fun q e => by cases e; exact ⟨r0, r1⟩), hTold p1 p2 k⟩
theorem hMake {xs : List V} {ss : List Rn.Sp3} (x dx : Addr) (nx : H x = none) (ndx : H dx = none) (ne : dx ≠ x) (p1 : 1 ≤ p) (p2 : p ≤ 400) (hR : Sns K H xs ss) (ok : ∀ s ∈ ss, Rn.SpOk p s) (hl : ss.length ≤ 20000) (k : ∀ H', Same H H' → Has K H' (.ref x) p (Rn.inSpans p ss) (p.toNat * ss.length) → Q .non H') :
    spTInit K (.ref x :: .int p :: xs) (upd (upd H dx (.own x)) x (.ins (CT K) dx [])) Q E0 := by
  have hlen := hR.length
  have q := tInit_spans (Q := fun v H2 => Q .non H2) p1 p2 hR (few_of p1 p2 ok hl) (by omega) nx ndx ne fun l H' zs s e R hm hz => k H' s ⟨zs, ⟨x, dx, l, rfl, e, R, p1, p2⟩, hm, Nat.le_trans hz (found_lenP (by omega) ss)⟩
  obtain ⟨ws, rest, h1, h2, h3, h4⟩ := q
  refine ⟨ws, rest, h1, h2, h3, fun q hq => ?_⟩
  obtain ⟨x', dx', q', u, g1, g2, g3⟩ := h4 q hq
  refine ⟨x', dx', q', u, g1, g2, ?_⟩
  rcases g3 with ⟨r, dr, l, p, y1, y2, y3⟩ | ⟨p, xs, ss, y1, y2, y3, y4, y5, y6, y7, y8⟩
  · exact .inl ⟨r, dr, l, p, y1, y2, fun H' a b => (y3 H' a b).2⟩
  · exact .inr ⟨p, xs, ss, y1, y2, y3, y4, y5, y6, y7, fun l H' zs a b c d e => (y8 l H' zs a b c d e).2⟩
/-- v.runs against written runs -/
theorem hRunsW (ws : List Rn.Run) (hu : Has K H u p A n) (c : Rn.canonB p ws = true) (e : ∀ t, A t ↔ Rn.inRuns p ws t) (k : ∀ l, (∀ H', Same H H' → Dp K H' (.ref l) (.tuple (ws.map runD))) → Q (.ref l) H) : ∃ a dx fs, u = .ref a ∧ H a = some (.ins (CT K) dx fs) ∧ spRunsP K [.ref a] H Q E0 := by
  have hp := hu.per.1
  refine hRuns hu fun l zs R hm => k l fun H' s => ?_
  obtain ⟨ys, hS, hR, cz, _⟩ := R
  have e2 : zs = ws := Rn.canon_unique (by omega) cz (Rn.canonB_ok c) fun t => (hm t).trans (e t)
  subst e2
  exact .tup (SqT.same hS s) (runs_dp (Rns.same hR s))
theorem hEveryO {r lo hi : Option Int} (p1 : 1 ≤ p) (p2 : p ≤ 400) (ok : Rn.SpOk p ⟨r, lo, hi⟩) (k : Hn K H p (Rn.inSpans p [⟨r, lo, hi⟩]) (p.toNat * 1) Q) : spEvery K [.ref (CT K), .int p, ob r, ob lo, ob hi] H Q E0 :=
  ⟨p, r, lo, hi, rfl, p1, p2, ok, hTold p1 p2 k⟩
theorem hRunsN (hu : Has K H u p A n) (k : ∀ (l : Addr) (zs : List Rn.Run), RunsAt K H l p zs → (∀ t, Rn.inRuns p zs t ↔ A t) → zs.length ≤ n → Q (.ref l) H) : ∃ a dx fs, u = .ref a ∧ H a = some (.ins (CT K) dx fs) ∧ spRunsP K [.ref a] H Q E0 := by
  obtain ⟨zs, ⟨a, dx, l, e, h1, h2⟩, mu, lu⟩ := hu
  subst e
  exact ⟨a, dx, _, rfl, h1, .ref a, p, zs, rfl, ⟨a, dx, l, rfl, h1, h2⟩, fun l h => k l zs h mu lu⟩
theorem eqv_self {d : PyData} (h : SeqAt.shaped d = true) : PyData.eqv d d = true := SeqAt.eqv_refl _ (SeqAt.canLay_of_shaped h)
theorem neD_self {x y : V} (d : PyData) (hs : SeqAt.shaped d = true) (hx : Dp K H x d) (hy : Dp K H y d) (k : Q (.bl false) H) : rNeD K x y H Q :=
  ⟨d, d, hx, hy, hs, hs, by rw [eqv_self hs]; exact k⟩
theorem eqD_self {x y : V} (d : PyData) (hs : SeqAt.shaped d = true) (hx : Dp K H x d) (hy : Dp K H y d) (k : Q (.bl true) H) : rEqD K x y H Q :=
  ⟨d, d, hx, hy, hs, hs, by rw [eqv_self hs]; exact k⟩
end
end TM
end

section

namespace Rn
section
variable {p : Int}
/-- of two runs one comes ahead -/
theorem pw_cmp {α : Type} {R : α → α → Prop} : ∀ {xs : List α}, xs.Pairwise R → ∀ x ∈ xs, ∀ y ∈ xs, x = y ∨ R x y ∨ R y x
  | [], _, x, hx, _, _ => nomatch hx
  | z :: zs, h, x, hx, y, hy => by
    obtain ⟨h1, h2⟩ := List.pairwise_cons.mp h
    rcases List.mem_cons.mp hx with ex | hx'
    · rcases List.mem_cons.mp hy with ey | hy'
      · exact .inl (ex.trans ey.symm)
      · exact .inr (.inl (ex ▸ h1 y hy'))
    · rcases List.mem_cons.mp hy with ey | hy'
      · exact .inr (.inr (ey ▸ h1 x hx'))
      · exact pw_cmp h2 x hx' y hy'
theorem Canon.cmp {zs : List Run} (c : Canon p zs) {x y : Run} (hx : x ∈ zs) (hy : y ∈ zs) : x = y ∨ Lt p x y ∨ Lt p y x := pw_cmp c.pw x hx y hy
/-- a time is in one run at most -/
theorem Canon.one {zs : List Run} (hp : 0 < p) (c : Canon p zs) {x y : Run} {t : Int} (hx : x ∈ zs) (hy : y ∈ zs) (mx : inRun p x t) (my : inRun p y t) : x = y := by
  rcases c.cmp hx hy with h | h | h
  · exact h
  · exact (h.apart hp mx my).elim
  · exact (h.apart hp my mx).elim
/-- just ahead of a run there is no member -/
theorem Canon.below {zs : List Run} (hp : 0 < p) (c : Canon p zs) {z : Run} (hz : z ∈ zs) {l : Int} (e : z.lo = some l) : ¬ inRuns p zs (l - p) := by
  rintro ⟨y, hy, m⟩
  have gz := c.good z hz
  have er : (l - p) % p = z.r := by
    rw [Int.sub_emod_right]
    exact gz.lo l e
  have ey : y.r = z.r := by rw [← m.1]; exact er
  rcases c.cmp hz hy with h | h | h
  · subst h
    have := m.2.1 l e
    omega
  · rcases h with h | ⟨_, u, w, h1, h2, h3⟩
    · omega
    · have q1 := m.2.1 w h2
      have q2 := gz.le l u e h1
      omega
  · rcases h with h | ⟨_, u, w, h1, h2, h3⟩
    · omega
    · have q1 := m.2.2 u h1
      rw [e] at h2
      cases h2
      omega
theorem Canon.beyond {zs : List Run} (hp : 0 < p) (c : Canon p zs) {z : Run} (hz : z ∈ zs) {l : Int} (e : z.hi = some l) : ¬ inRuns p zs (l + p) := by
  rintro ⟨y, hy, m⟩
  have gz := c.good z hz
  have er : (l + p) % p = z.r := by
    rw [Int.add_emod_right]
    exact gz.hi l e
  have ey : y.r = z.r := by rw [← m.1]; exact er
  rcases c.cmp hz hy with h | h | h
  · subst h
    have := m.2.2 l e
    omega
  · rcases h with h | ⟨_, u, w, h1, h2, h3⟩
    · omega
    · have q1 := m.2.1 w h2
      rw [e] at h1
      cases h1
      omega
  · rcases h with h | ⟨_, u, w, h1, h2, h3⟩
    · omega
    · have q1 := m.2.2 u h1
      have q2 := gz.le w l h2 e
      omega
/-- how many runs have this time -/
theorem Canon.count {zs : List Run} (hp : 0 < p) (c : Canon p zs) {t : Int} (f : Run → Bool) (hf : ∀ z, f z = true ↔ inRun p z t) : (inRuns p zs t → (zs.filter f).length = 1) ∧ (¬ inRuns p zs t → (zs.filter f).length = 0) := by
  constructor
  · rintro ⟨z, hz, m⟩
    cases e : zs.filter f with
    | nil =>
      have : z ∈ zs.filter f := List.mem_filter.mpr ⟨hz, (hf z).mpr m⟩
      rw [e] at this
      cases this
    | cons x r =>
      cases r with
      | nil => rfl
      | cons y r =>
        have pw : (zs.filter f).Pairwise (Lt p) := List.Pairwise.sublist List.filter_sublist c.pw
        rw [e] at pw
        have h := (List.pairwise_cons.mp pw).1 y List.mem_cons_self
        have mx : x ∈ zs.filter f := by rw [e]; exact List.mem_cons_self
        have my : y ∈ zs.filter f := by rw [e]; exact List.mem_cons_of_mem _ List.mem_cons_self
        exact (h.apart hp ((hf x).mp (List.mem_filter.mp mx).2) ((hf y).mp (List.mem_filter.mp my).2)).elim
  · intro h
    rw [List.length_eq_zero_iff, List.filter_eq_nil_iff]
    exact fun z hz m => h ⟨z, hz, (hf z).mp m⟩
end
end Rn
end

section

namespace Rn
/-! ### next and last members -/
def IsNext (A : Int → Prop) (t : Int) : Option Int → Prop
  | none => ∀ s, t ≤ s → ¬ A s
  | some m => A m ∧ t ≤ m ∧ ∀ s, t ≤ s → A s → m ≤ s
def IsLast (A : Int → Prop) (t : Int) : Option Int → Prop
  | none => ∀ s, s ≤ t → ¬ A s
  | some m => A m ∧ m ≤ t ∧ ∀ s, s ≤ t → A s → s ≤ m
section
variable {A B : Int → Prop} {t m p r : Int} {o o' lo hi : Option Int} {ms : List Int}
theorem IsNext.uniq (h : IsNext A t o) (h' : IsNext A t o') : o = o' := by
  cases o with
  | none =>
    cases o' with
    | none => rfl
    | some m => exact absurd h'.1 (h m h'.2.1)
  | some m =>
    cases o' with
    | none => exact absurd h.1 (h' m h.2.1)
    | some m' =>
      have h1 := h.2.2 m' h'.2.1 h'.1
      have h2 := h'.2.2 m h.2.1 h.1
      have : m = m' := by omega
      rw [this]
theorem IsLast.uniq (h : IsLast A t o) (h' : IsLast A t o') : o = o' := by
  cases o with
  | none =>
    cases o' with
    | none => rfl
    | some m => exact absurd h'.1 (h m h'.2.1)
  | some m =>
    cases o' with
    | none => exact absurd h.1 (h' m h.2.1)
    | some m' =>
      have h1 := h.2.2 m' h'.2.1 h'.1
      have h2 := h'.2.2 m h.2.1 h.1
      have : m = m' := by omega
      rw [this]
theorem IsNext.congr (e : ∀ t, A t ↔ B t) (h : IsNext A t o) : IsNext B t o := by
  have : A = B := funext fun t => propext (e t)
  rw [← this]
  exact h
theorem IsLast.congr (e : ∀ t, A t ↔ B t) (h : IsLast A t o) : IsLast B t o := by
  have : A = B := funext fun t => propext (e t)
  rw [← this]
  exact h
/-- some members at or behind t, among them the least -/
structure Nxs (A : Int → Prop) (t : Int) (ms : List Int) : Prop where
  mem : ∀ m ∈ ms, A m ∧ t ≤ m
  all : ∀ s, t ≤ s → A s → ∃ m ∈ ms, m ≤ s
theorem Nxs.congr (e : ∀ t, A t ↔ B t) (h : Nxs A t ms) : Nxs B t ms := ⟨fun m hm => ⟨(e m).mp (h.mem m hm).1, (h.mem m hm).2⟩, fun s hs hB => h.all s hs ((e s).mpr hB)⟩
theorem Nxs.skip (h : Nxs A t ms) (n : IsNext B t none) : Nxs (fun s => A s ∨ B s) t ms :=
  ⟨fun m hm => ⟨.inl (h.mem m hm).1, (h.mem m hm).2⟩, fun s hs q => q.elim (h.all s hs) fun q => absurd q (n s hs)⟩
theorem Nxs.add (h : Nxs A t ms) (n : IsNext B t (some m)) : Nxs (fun s => A s ∨ B s) t (ms ++ [m]) := by
  refine ⟨fun x hx => ?_, fun s hs q => ?_⟩
  · rcases List.mem_append.mp hx with hx | hx
    · exact ⟨.inl (h.mem x hx).1, (h.mem x hx).2⟩
    · rw [List.mem_singleton.mp hx]
      exact ⟨.inr n.1, n.2.1⟩
  · rcases q with q | q
    · obtain ⟨x, hx, hl⟩ := h.all s hs q
      exact ⟨x, List.mem_append_left _ hx, hl⟩
    · exact ⟨m, List.mem_append_right _ List.mem_cons_self, n.2.2 s hs q⟩
theorem Nxs.least (h : Nxs A t ms) (hm : m ∈ ms) (hl : ∀ y ∈ ms, m ≤ y) : IsNext A t (some m) :=
  ⟨(h.mem m hm).1, (h.mem m hm).2, fun s hs q => let ⟨x, hx, l⟩ := h.all s hs q; Int.le_trans (hl x hx) l⟩
theorem Nxs.empty (h : Nxs A t []) : IsNext A t none := fun s hs q => by
  obtain ⟨_, hx, _⟩ := h.all s hs q
  cases hx
structure Lss (A : Int → Prop) (t : Int) (ms : List Int) : Prop where
  mem : ∀ m ∈ ms, A m ∧ m ≤ t
  all : ∀ s, s ≤ t → A s → ∃ m ∈ ms, s ≤ m
theorem Lss.congr (e : ∀ t, A t ↔ B t) (h : Lss A t ms) : Lss B t ms := ⟨fun m hm => ⟨(e m).mp (h.mem m hm).1, (h.mem m hm).2⟩, fun s hs hB => h.all s hs ((e s).mpr hB)⟩
theorem Lss.skip (h : Lss A t ms) (n : IsLast B t none) : Lss (fun s => A s ∨ B s) t ms :=
  ⟨fun m hm => ⟨.inl (h.mem m hm).1, (h.mem m hm).2⟩, fun s hs q => q.elim (h.all s hs) fun q => absurd q (n s hs)⟩
theorem Lss.add (h : Lss A t ms) (n : IsLast B t (some m)) : Lss (fun s => A s ∨ B s) t (ms ++ [m]) := by
  refine ⟨fun x hx => ?_, fun s hs q => ?_⟩
  · rcases List.mem_append.mp hx with hx | hx
    · exact ⟨.inl (h.mem x hx).1, (h.mem x hx).2⟩
    · rw [List.mem_singleton.mp hx]
      exact ⟨.inr n.1, n.2.1⟩
  · rcases q with q | q
    · obtain ⟨x, hx, hl⟩ := h.all s hs q
      exact ⟨x, List.mem_append_left _ hx, hl⟩
    · exact ⟨m, List.mem_append_right _ List.mem_cons_self, n.2.2 s hs q⟩
theorem Lss.greatest (h : Lss A t ms) (hm : m ∈ ms) (hl : ∀ y ∈ ms, y ≤ m) : IsLast A t (some m) :=
  ⟨(h.mem m hm).1, (h.mem m hm).2, fun s hs q => let ⟨x, hx, l⟩ := h.all s hs q; Int.le_trans l (hl x hx)⟩
theorem Lss.empty (h : Lss A t []) : IsLast A t none := fun s hs q => by
  obtain ⟨_, hx, _⟩ := h.all s hs q
  cases hx
/-! ### of one span -/
/-- the later one -/
def from_ (lo : Option Int) (t : Int) : Int := match lo with
  | none => t
  | some l => if l < t then t else l
theorem from_iff {s : Int} : from_ lo t ≤ s ↔ geLo lo s ∧ t ≤ s := by
  cases lo with
  | none =>
    show t ≤ s ↔ _
    rw [geN]
    simp
  | some l =>
    show (if l < t then t else l) ≤ s ↔ _
    rw [geS]
    split <;> omega
theorem next_res (r0 : 0 ≤ r) (r1 : r < p) (c : leHi hi (upTo p r (from_ lo t))) : IsNext (inSpan p ⟨some r, lo, hi⟩) t (some (upTo p r (from_ lo t))) := by
  have hp : 0 < p := by omega
  have h1 := (upTo_le (r := r) hp (from_ lo t)).1
  obtain ⟨h2, h3⟩ := from_iff.mp h1
  refine ⟨span_S.mpr ⟨upTo_mod r0 r1 _, h2, c⟩, h3, fun s hs q => ?_⟩
  obtain ⟨q1, q2, _⟩ := span_S.mp q
  exact (upTo_iff r0 r1 q1 _).mpr (from_iff.mpr ⟨q2, hs⟩)
theorem next_res_no (r0 : 0 ≤ r) (r1 : r < p) (c : ¬ leHi hi (upTo p r (from_ lo t))) : IsNext (inSpan p ⟨some r, lo, hi⟩) t none := by
  intro s hs q
  obtain ⟨q1, q2, q3⟩ := span_S.mp q
  refine c fun h e => ?_
  have := (upTo_iff r0 r1 q1 (from_ lo t)).mpr (from_iff.mpr ⟨q2, hs⟩)
  have := q3 h e
  omega
theorem next_any (c : leHi hi (from_ lo t)) : IsNext (inSpan p ⟨none, lo, hi⟩) t (some (from_ lo t)) := by
  obtain ⟨h2, h3⟩ := from_iff.mp (Int.le_refl (from_ lo t))
  refine ⟨span_N.mpr ⟨h2, c⟩, h3, fun s hs q => from_iff.mpr ⟨(span_N.mp q).1, hs⟩⟩
theorem next_any_no (c : ¬ leHi hi (from_ lo t)) : IsNext (inSpan p ⟨none, lo, hi⟩) t none := by
  intro s hs q
  obtain ⟨q2, q3⟩ := span_N.mp q
  refine c fun h e => ?_
  have := from_iff.mpr ⟨q2, hs⟩
  have := q3 h e
  omega
/-- by runOf -/
theorem next_run {x : Run} {g : Option Int} (r0 : 0 ≤ r) (r1 : r < p) (hg : ∀ s, geLo g s ↔ geLo lo s ∧ t ≤ s) (e : runOf p r g hi = some x) {l : Int} (el : x.lo = some l) : IsNext (inSpan p ⟨some r, lo, hi⟩) t (some l) := by
  obtain ⟨gx, _, hm⟩ := runOf_some r0 r1 e
  obtain ⟨h1, h2, h3⟩ := (hm l).mp (in_lo gx el)
  obtain ⟨h4, h5⟩ := (hg l).mp h2
  refine ⟨span_S.mpr ⟨h1, h4, h3⟩, h5, fun s hs q => ?_⟩
  obtain ⟨q1, q2, q3⟩ := span_S.mp q
  exact ((hm s).mpr ⟨q1, (hg s).mpr ⟨q2, hs⟩, q3⟩).2.1 l el
theorem next_run_no {g : Option Int} (r0 : 0 ≤ r) (r1 : r < p) (hg : ∀ s, geLo g s ↔ geLo lo s ∧ t ≤ s) (e : runOf p r g hi = none) : IsNext (inSpan p ⟨some r, lo, hi⟩) t none := by
  intro s hs q
  obtain ⟨q1, q2, q3⟩ := span_S.mp q
  exact runOf_none r0 r1 e s ⟨q1, (hg s).mpr ⟨q2, hs⟩, q3⟩
theorem last_run {x : Run} {g : Option Int} (r0 : 0 ≤ r) (r1 : r < p) (hg : ∀ s, leHi g s ↔ leHi hi s ∧ s ≤ t) (e : runOf p r lo g = some x) {l : Int} (el : x.hi = some l) : IsLast (inSpan p ⟨some r, lo, hi⟩) t (some l) := by
  obtain ⟨gx, _, hm⟩ := runOf_some r0 r1 e
  obtain ⟨h1, h2, h3⟩ := (hm l).mp (in_hi gx el)
  obtain ⟨h4, h5⟩ := (hg l).mp h3
  refine ⟨span_S.mpr ⟨h1, h2, h4⟩, h5, fun s hs q => ?_⟩
  obtain ⟨q1, q2, q3⟩ := span_S.mp q
  exact ((hm s).mpr ⟨q1, q2, (hg s).mpr ⟨q3, hs⟩⟩).2.2 l el
theorem last_run_no {g : Option Int} (r0 : 0 ≤ r) (r1 : r < p) (hg : ∀ s, leHi g s ↔ leHi hi s ∧ s ≤ t) (e : runOf p r lo g = none) : IsLast (inSpan p ⟨some r, lo, hi⟩) t none := by
  intro s hs q
  obtain ⟨q1, q2, q3⟩ := span_S.mp q
  exact runOf_none r0 r1 e s ⟨q1, q2, (hg s).mpr ⟨q3, hs⟩⟩
theorem runOf_lo {x : Run} {l : Int} (e : runOf p r (some l) hi = some x) : ∃ m, x.lo = some m := by
  unfold runOf at e
  cases hi with
  | none =>
    simp at e
    rw [← e]
    exact ⟨_, rfl⟩
  | some h =>
    simp only [Option.map_some] at e
    split at e
    · cases e
    · rw [← Option.some.inj e]
      exact ⟨_, rfl⟩
theorem runOf_hi {x : Run} {l : Int} (e : runOf p r lo (some l) = some x) : ∃ m, x.hi = some m := by
  unfold runOf at e
  cases lo with
  | none =>
    simp at e
    rw [← e]
    exact ⟨_, rfl⟩
  | some h =>
    simp only [Option.map_some] at e
    split at e
    · cases e
    · rw [← Option.some.inj e]
      exact ⟨_, rfl⟩
/-! ### turned about -/
theorem IsNext.turn (h : IsNext (fun s => A (-s)) (-t) o) : IsLast A t (o.map fun m => -m) := by
  cases o with
  | none => exact fun s hs q => h (-s) (by omega) (by show A (- -s); rw [Int.neg_neg]; exact q)
  | some m =>
    refine ⟨h.1, ?_, fun s hs q => ?_⟩
    · have := h.2.1
      show -m ≤ t
      omega
    · have := h.2.2 (-s) (by omega) (by show A (- -s); rw [Int.neg_neg]; exact q)
      show s ≤ -m
      omega
/-- a span turned about -/
def turn (p : Int) (s : Sp3) : Sp3 := ⟨s.res.map fun r => (-r) % p, s.hi.map fun m => -m, s.lo.map fun m => -m⟩
theorem turn_mem {s : Sp3} (hp : 0 < p) (ok : SpOk p s) : inSpan p (turn p s) t ↔ inSpan p s (-t) := by
  obtain ⟨res, lo, hi⟩ := s
  unfold inSpan turn
  have h1 : (∀ r, (res.map fun r => (-r) % p) = some r → t % p = r) ↔ ∀ r, res = some r → (-t) % p = r := by
    cases res with
    | none => simp
    | some r =>
      obtain ⟨r0, r1⟩ := ok r rfl
      simp only [Option.map_some, Option.some.injEq, forall_eq']
      constructor
      · intro h
        have e : (-t) % p = r % p := by
          have : (-t - r) % p = 0 := by
            have h2 : (t + r) % p = 0 := by
              have := Int.emod_emod_of_dvd (-r) (Int.dvd_refl p)
              have h3 : t % p = (-r) % p := h
              have h4 := Int.emod_emod_of_dvd t (Int.dvd_refl p)
              rw [Int.add_emod, h3, ← Int.add_emod]
              have : -r + r = 0 := by omega
              rw [this]
              exact Int.zero_emod p
            have e1 : -t - r = -(t + r) := by omega
            rw [e1]
            exact Int.emod_eq_zero_of_dvd (Int.dvd_neg.mpr (Int.dvd_of_emod_eq_zero h2))
          exact Int.emod_eq_emod_iff_emod_sub_eq_zero.mpr this
        rw [e, Int.emod_eq_of_lt r0 r1]
      · intro h
        have e : t % p = (-r) % p := by
          have : (t - -r) % p = 0 := by
            have e1 : t - -r = -(-t - r) := by omega
            rw [e1]
            refine Int.emod_eq_zero_of_dvd (Int.dvd_neg.mpr (Int.dvd_of_emod_eq_zero ?_))
            refine Int.emod_eq_emod_iff_emod_sub_eq_zero.mp ?_
            rw [h, Int.emod_eq_of_lt r0 r1]
          exact Int.emod_eq_emod_iff_emod_sub_eq_zero.mpr this
        exact e
  have h2 : geLo (hi.map fun m => -m) t ↔ leHi hi (-t) := by
    cases hi with
    | none => rw [Option.map_none, geN, leN]
    | some m =>
      rw [Option.map_some, geS, leS]
      omega
  have h3 : leHi (lo.map fun m => -m) t ↔ geLo lo (-t) := by
    cases lo with
    | none => rw [Option.map_none, geN, leN]
    | some m =>
      rw [Option.map_some, geS, leS]
      omega
  rw [h1, h2, h3]
  exact ⟨fun ⟨a, b, c⟩ => ⟨a, c, b⟩, fun ⟨a, b, c⟩ => ⟨a, c, b⟩⟩
theorem turns_mem (hp : 0 < p) {ss : List Sp3} (ok : ∀ s ∈ ss, SpOk p s) : inSpans p (ss.map (turn p)) t ↔ inSpans p ss (-t) := by
  constructor
  · rintro ⟨s, hs, m⟩
    obtain ⟨z, hz, rfl⟩ := List.mem_map.mp hs
    exact ⟨z, hz, (turn_mem hp (ok z hz)).mp m⟩
  · rintro ⟨z, hz, m⟩
    exact ⟨_, List.mem_map.mpr ⟨z, hz, rfl⟩, (turn_mem hp (ok z hz)).mpr m⟩
theorem turn_ok (hp : 0 < p) {s : Sp3} : SpOk p (turn p s) := fun r e => by
  unfold turn at e
  cases h : s.res with
  | none => rw [h] at e; cases e
  | some q =>
    rw [h] at e
    have e := Option.some.inj e
    rw [← e]
    exact ⟨Int.emod_nonneg _ (by omega), Int.emod_lt_of_pos _ hp⟩
/-! ### the first member -/
def Before (m s : Int) : Prop := m.natAbs < s.natAbs ∨ (m.natAbs = s.natAbs ∧ m ≤ s)
def IsFirst (A : Int → Prop) : Option Int → Prop
  | none => ∀ s, ¬ A s
  | some m => A m ∧ ∀ s, A s → Before m s
theorem IsFirst.uniq (h : IsFirst A o) (h' : IsFirst A o') : o = o' := by
  cases o with
  | none =>
    cases o' with
    | none => rfl
    | some m => exact absurd h'.1 (h m)
  | some m =>
    cases o' with
    | none => exact absurd h.1 (h' m)
    | some m' =>
      have h1 := h.2 m' h'.1
      have h2 := h'.2 m h.1
      unfold Before at h1 h2
      have : m = m' := by omega
      rw [this]
theorem IsFirst.congr (e : ∀ t, A t ↔ B t) (h : IsFirst A o) : IsFirst B o := by
  have : A = B := funext fun t => propext (e t)
  rw [← this]
  exact h
theorem first_none (h1 : IsNext A 0 none) (h2 : IsLast A 0 none) : IsFirst A none := fun s q => by
  rcases Int.le_total 0 s with h | h
  · exact h1 s h q
  · exact h2 s h q
theorem first_next {m : Int} (h1 : IsNext A 0 (some m)) (h2 : IsLast A 0 o) (h : ∀ l, o = some l → Before m l) : IsFirst A (some m) := by
  refine ⟨h1.1, fun s q => ?_⟩
  rcases Int.le_total 0 s with c | c
  · have := h1.2.2 s c q
    have := h1.2.1
    unfold Before
    omega
  · cases o with
    | none => exact absurd q (h2 s c)
    | some l =>
      have a := h l rfl
      have b := h2.2.2 s c q
      have d := h2.2.1
      unfold Before at a ⊢
      omega
theorem first_last {m : Int} (h1 : IsNext A 0 o) (h2 : IsLast A 0 (some m)) (h : ∀ l, o = some l → Before m l) : IsFirst A (some m) := by
  refine ⟨h2.1, fun s q => ?_⟩
  rcases Int.le_total 0 s with c | c
  · cases o with
    | none => exact absurd q (h1 s c)
    | some l =>
      have a := h l rfl
      have b := h1.2.2 s c q
      have d := h1.2.1
      unfold Before at a ⊢
      omega
  · have := h2.2.2 s c q
    have := h2.2.1
    unfold Before
    omega
end
end Rn
end

section

namespace Rn
/-! ### without end -/
def Unb (A : Int → Prop) : Prop := (∀ b, ∃ t, t < b ∧ A t) ∨ (∀ b, ∃ t, b < t ∧ A t)
section
variable {A B : Int → Prop} {t m p r : Int}
theorem Unb.congr (e : ∀ t, A t ↔ B t) : Unb A ↔ Unb B := by
  have : A = B := funext fun t => propext (e t)
  rw [this]
theorem bounded {ss : List Sp3} (h : ∀ s ∈ ss, s.lo ≠ none ∧ s.hi ≠ none) : ∃ L M, ∀ t, inSpans p ss t → L ≤ t ∧ t ≤ M := by
  induction ss with
  | nil => exact ⟨0, 0, fun t ⟨_, hx, _⟩ => nomatch hx⟩
  | cons s ss ih =>
    obtain ⟨L, M, hb⟩ := ih fun z hz => h z (List.mem_cons_of_mem _ hz)
    obtain ⟨h1, h2⟩ := h s List.mem_cons_self
    obtain ⟨l, el⟩ := Option.ne_none_iff_exists'.mp h1
    obtain ⟨u, eu⟩ := Option.ne_none_iff_exists'.mp h2
    refine ⟨min l L, max u M, fun t q => ?_⟩
    rcases spans_cons.mp q with q | q
    · have a := q.2.1 l el
      have b := q.2.2 u eu
      omega
    · have a := hb t q
      omega
theorem unb_iff (hp : 0 < p) {ss : List Sp3} (ok : ∀ s ∈ ss, SpOk p s) : Unb (inSpans p ss) ↔ ∃ s ∈ ss, s.lo = none ∨ s.hi = none := by
  constructor
  · intro h
    rcases Classical.em (∃ s ∈ ss, s.lo = none ∨ s.hi = none) with c | c
    · exact c
    · obtain ⟨L, M, hb⟩ := bounded (p := p) (ss := ss) fun s hs => ⟨fun e => c ⟨s, hs, .inl e⟩, fun e => c ⟨s, hs, .inr e⟩⟩
      rcases h with h | h
      · obtain ⟨t, ht, q⟩ := h L
        have := hb t q
        omega
      · obtain ⟨t, ht, q⟩ := h M
        have := hb t q
        omega
  · rintro ⟨s, hs, h⟩
    have res : ∃ r, 0 ≤ r ∧ r < p ∧ ∀ t, t % p = r → ∀ q, s.res = some q → t % p = q := by
      cases e : s.res with
      | none => exact ⟨0, by omega, by omega, fun t _ q e => nomatch e⟩
      | some r =>
        obtain ⟨r0, r1⟩ := ok s hs r e
        exact ⟨r, r0, r1, fun t h q e => by cases e; exact h⟩
    obtain ⟨r, r0, r1, hr⟩ := res
    rcases h with h | h
    · refine .inl fun b => ?_
      obtain ⟨t, h1, h2⟩ := below hp r0 r1 (min b (s.hi.getD b))
      refine ⟨t, by omega, s, hs, hr t h1, (fun l e => by rw [h] at e; cases e), fun u e => ?_⟩
      rw [e] at h2
      have : (some u).getD b = u := rfl
      omega
    · refine .inr fun b => ?_
      obtain ⟨t, h1, h2⟩ := above hp r0 r1 (max b (s.lo.getD b))
      refine ⟨t, by omega, s, hs, hr t h1, fun u e => ?_, fun l e => by rw [h] at e; cases e⟩
      rw [e] at h2
      have : (some u).getD b = u := rfl
      omega
/-! ### rhythm -/
def EvPer (A : Int → Prop) (m : Int) : Prop := (∃ b, ∀ t, b ≤ t → (A t ↔ A (t + m))) ∧ (∃ b, ∀ t, t ≤ b → (A t ↔ A (t + m)))
structure IsRhythm (A : Int → Prop) (m : Int) : Prop where
  pos : 1 ≤ m
  per : EvPer A m
  least : ∀ k, 1 ≤ k → k < m → ¬ EvPer A k
theorem IsRhythm.uniq {n : Int} (h : IsRhythm A m) (h' : IsRhythm A n) : m = n := by
  rcases Int.lt_trichotomy m n with c | c | c
  · exact absurd h.per (h'.least m h.pos c)
  · exact c
  · exact absurd h'.per (h.least n h'.pos c)
theorem IsRhythm.congr (e : ∀ t, A t ↔ B t) (h : IsRhythm A m) : IsRhythm B m := by
  have : A = B := funext fun t => propext (e t)
  rw [← this]
  exact h
/-- residues that go on -/
def Alike (p : Int) (S : Int → Prop) (m : Int) : Prop := ∀ r, 0 ≤ r → r < p → S r → S ((r + m) % p)
theorem alike_iter (hp : 0 < p) {S : Int → Prop} (h : Alike p S m) : ∀ (k : Nat) (r : Int), 0 ≤ r → r < p → S r → S ((r + k * m) % p)
  | 0, r, r0, r1, hs => by
    have e : r + ((0 : Nat) : Int) * m = r := by simp
    rw [e, Int.emod_eq_of_lt r0 r1]
    exact hs
  | k + 1, r, r0, r1, hs => by
    have ih := alike_iter hp h k r r0 r1 hs
    have := h _ (Int.emod_nonneg _ (by omega)) (Int.emod_lt_of_pos _ hp) ih
    rw [Int.emod_add_emod] at this
    have e : r + ((k + 1 : Nat) : Int) * m = r + (k : Int) * m + m := by
      rw [Int.natCast_add, Int.add_mul]
      simp
      omega
    rw [e]
    exact this
theorem alike_iff (hp : 0 < p) {S : Int → Prop} (h : Alike p S m) (r0 : 0 ≤ r) (r1 : r < p) : S r ↔ S ((r + m) % p) := by
  refine ⟨h r r0 r1, fun q => ?_⟩
  have := alike_iter hp h (p.toNat - 1) _ (Int.emod_nonneg _ (by omega)) (Int.emod_lt_of_pos _ hp) q
  rw [Int.emod_add_emod] at this
  have e : r + m + ((p.toNat - 1 : Nat) : Int) * m = r + p * m := by
    have : ((p.toNat - 1 : Nat) : Int) = p - 1 := by omega
    rw [this, Int.sub_mul]
    omega
  rw [e, Int.add_mul_emod_self_left, Int.emod_eq_of_lt r0 r1] at this
  exact this
theorem per_up (hp : 0 < p) {S : Int → Prop} (m0 : 0 ≤ m) (tail : ∃ b, ∀ t, b ≤ t → (A t ↔ S (t % p))) : (∃ b, ∀ t, b ≤ t → (A t ↔ A (t + m))) ↔ Alike p S m := by
  obtain ⟨b, hb⟩ := tail
  constructor
  · rintro ⟨c, hc⟩ r r0 r1 hs
    obtain ⟨t, h1, h2⟩ := above hp r0 r1 (max b c)
    have q := (hc t (by omega)).mp ((hb t (by omega)).mpr (by rw [h1]; exact hs))
    have := (hb (t + m) (by omega)).mp q
    rw [← Int.emod_add_emod, h1] at this
    exact this
  · intro h
    refine ⟨b, fun t ht => ?_⟩
    rw [hb t ht, hb (t + m) (by omega), ← Int.emod_add_emod]
    exact alike_iff hp h (Int.emod_nonneg _ (by omega)) (Int.emod_lt_of_pos _ hp)
theorem per_down (hp : 0 < p) {S : Int → Prop} (m0 : 0 ≤ m) (tail : ∃ b, ∀ t, t ≤ b → (A t ↔ S (t % p))) : (∃ b, ∀ t, t ≤ b → (A t ↔ A (t + m))) ↔ Alike p S m := by
  obtain ⟨b, hb⟩ := tail
  constructor
  · rintro ⟨c, hc⟩ r r0 r1 hs
    obtain ⟨t, h1, h2⟩ := below hp r0 r1 (min (b - m) c)
    have q := (hc t (by omega)).mp ((hb t (by omega)).mpr (by rw [h1]; exact hs))
    have := (hb (t + m) (by omega)).mp q
    rw [← Int.emod_add_emod, h1] at this
    exact this
  · intro h
    refine ⟨b - m, fun t ht => ?_⟩
    rw [hb t (by omega), hb (t + m) (by omega), ← Int.emod_add_emod]
    exact alike_iff hp h (Int.emod_nonneg _ (by omega)) (Int.emod_lt_of_pos _ hp)
/-- residues of spans without an end, without a beginning -/
def ahd (ss : List Sp3) (r : Int) : Prop := ∃ s ∈ ss, s.hi = none ∧ ∀ q, s.res = some q → r = q
def bkd (ss : List Sp3) (r : Int) : Prop := ∃ s ∈ ss, s.lo = none ∧ ∀ q, s.res = some q → r = q
def Within (b : Int) (ss : List Sp3) : Prop := ∀ s ∈ ss, ∀ l, s.lo = some l ∨ s.hi = some l → -b ≤ l ∧ l ≤ b
theorem within_ex (ss : List Sp3) : ∃ b, 0 ≤ b ∧ Within b ss := by
  induction ss with
  | nil => exact ⟨0, by omega, fun s hs => nomatch hs⟩
  | cons s ss ih =>
    obtain ⟨b, b0, hb⟩ := ih
    have one : ∀ o : Option Int, ∃ c, 0 ≤ c ∧ ∀ l, o = some l → -c ≤ l ∧ l ≤ c := fun o => by
      cases o with
      | none => exact ⟨0, by omega, fun l e => nomatch e⟩
      | some x => exact ⟨x.natAbs, by omega, fun l e => by cases e; omega⟩
    obtain ⟨c, c0, hc⟩ := one s.lo
    obtain ⟨d, d0, hd⟩ := one s.hi
    refine ⟨max b (max c d), by omega, fun z hz l e => ?_⟩
    rcases List.mem_cons.mp hz with rfl | hz
    · rcases e with e | e
      · have := hc l e
        omega
      · have := hd l e
        omega
    · have := hb z hz l e
      omega
theorem tail_up {ss : List Sp3} {b : Int} (h : Within b ss) (ht : b < t) : inSpans p ss t ↔ ahd ss (t % p) := by
  constructor
  · rintro ⟨s, hs, h1, h2, h3⟩
    refine ⟨s, hs, ?_, h1⟩
    cases e : s.hi with
    | none => rfl
    | some u =>
      have := h3 u e
      have := h s hs u (.inr e)
      omega
  · rintro ⟨s, hs, h1, h2⟩
    refine ⟨s, hs, h2, fun l e => ?_, fun u e => by rw [h1] at e; cases e⟩
    have := h s hs l (.inl e)
    omega
theorem tail_down {ss : List Sp3} {b : Int} (h : Within b ss) (ht : t < -b) : inSpans p ss t ↔ bkd ss (t % p) := by
  constructor
  · rintro ⟨s, hs, h1, h2, h3⟩
    refine ⟨s, hs, ?_, h1⟩
    cases e : s.lo with
    | none => rfl
    | some u =>
      have := h2 u e
      have := h s hs u (.inl e)
      omega
  · rintro ⟨s, hs, h1, h2⟩
    refine ⟨s, hs, h2, fun u e => (by rw [h1] at e; cases e), fun l e => ?_⟩
    have := h s hs l (.inr e)
    omega
theorem evper_iff (hp : 0 < p) {ss : List Sp3} (m0 : 0 ≤ m) : EvPer (inSpans p ss) m ↔ Alike p (ahd ss) m ∧ Alike p (bkd ss) m := by
  obtain ⟨b, b0, hb⟩ := within_ex ss
  unfold EvPer
  rw [per_up hp (S := ahd ss) m0 ⟨b + 1, fun t ht => tail_up hb (by omega)⟩, per_down hp (S := bkd ss) m0 ⟨-b - 1, fun t ht => tail_down hb (by omega)⟩]
theorem alike_p (S : Int → Prop) : Alike p S p := fun r r0 r1 hs => by
  rw [Int.add_emod_right, Int.emod_eq_of_lt r0 r1]
  exact hs
/-- what a search from 1 on finds -/
theorem rhythm_of (hp : 0 < p) {ss : List Sp3} (h1 : 1 ≤ m) (h2 : m ≤ p) (h3 : m < p → Alike p (ahd ss) m ∧ Alike p (bkd ss) m) (h4 : ∀ k, 1 ≤ k → k < m → ¬ (Alike p (ahd ss) k ∧ Alike p (bkd ss) k)) : IsRhythm (inSpans p ss) m := by
  refine ⟨h1, ?_, fun k k1 k2 q => h4 k k1 k2 ((evper_iff hp (by omega)).mp q)⟩
  rw [evper_iff hp (by omega)]
  rcases Int.lt_or_le m p with c | c
  · exact h3 c
  · have e : m = p := by omega
    rw [e]
    exact ⟨alike_p _, alike_p _⟩
/-- a window of all residues far away -/
theorem window_up {ss : List Sp3} {b c : Int} (hp : 0 < p) (h : Within b ss) (hc : b < c) (m0 : 0 ≤ m) : (∀ t, c ≤ t → t < c + p → (inSpans p ss t ↔ inSpans p ss (t + m))) ↔ Alike p (ahd ss) m := by
  constructor
  · intro q r r0 r1 hs
    have e : (c + (r - c) % p) % p = r := upTo_mod r0 r1 c
    have g0 := Int.emod_nonneg (r - c) (show p ≠ 0 by omega)
    have g1 := Int.emod_lt_of_pos (r - c) hp
    have := (q (c + (r - c) % p) (by omega) (by omega)).mp ((tail_up h (by omega)).mpr (by rw [e]; exact hs))
    have := (tail_up (p := p) h (t := c + (r - c) % p + m) (by omega)).mp this
    rw [← Int.emod_add_emod, e] at this
    exact this
  · intro q t t0 t1
    rw [tail_up h (by omega), tail_up h (t := t + m) (by omega), ← Int.emod_add_emod]
    exact alike_iff hp q (Int.emod_nonneg _ (by omega)) (Int.emod_lt_of_pos _ hp)
theorem window_down {ss : List Sp3} {b c : Int} (hp : 0 < p) (h : Within b ss) (hc : c + p + m < -b) (m0 : 0 ≤ m) : (∀ t, c ≤ t → t < c + p → (inSpans p ss t ↔ inSpans p ss (t + m))) ↔ Alike p (bkd ss) m := by
  constructor
  · intro q r r0 r1 hs
    have e : (c + (r - c) % p) % p = r := upTo_mod r0 r1 c
    have g0 := Int.emod_nonneg (r - c) (show p ≠ 0 by omega)
    have g1 := Int.emod_lt_of_pos (r - c) hp
    have := (q (c + (r - c) % p) (by omega) (by omega)).mp ((tail_down h (by omega)).mpr (by rw [e]; exact hs))
    have := (tail_down (p := p) h (t := c + (r - c) % p + m) (by omega)).mp this
    rw [← Int.emod_add_emod, e] at this
    exact this
  · intro q t t0 t1
    rw [tail_down h (by omega), tail_down h (t := t + m) (by omega), ← Int.emod_add_emod]
    exact alike_iff hp q (Int.emod_nonneg _ (by omega)) (Int.emod_lt_of_pos _ hp)
/-- .. of runs -/
theorem ahd_runs {zs : List Run} : ahd (zs.map Run.span) r ↔ ∃ z ∈ zs, z.hi = none ∧ z.r = r := by
  constructor
  · rintro ⟨s, hs, h1, h2⟩
    obtain ⟨z, hz, rfl⟩ := List.mem_map.mp hs
    exact ⟨z, hz, h1, (h2 z.r rfl).symm⟩
  · rintro ⟨z, hz, h1, h2⟩
    exact ⟨z.span, List.mem_map.mpr ⟨z, hz, rfl⟩, h1, fun q e => by cases e; exact h2.symm⟩
theorem bkd_runs {zs : List Run} : bkd (zs.map Run.span) r ↔ ∃ z ∈ zs, z.lo = none ∧ z.r = r := by
  constructor
  · rintro ⟨s, hs, h1, h2⟩
    obtain ⟨z, hz, rfl⟩ := List.mem_map.mp hs
    exact ⟨z, hz, h1, (h2 z.r rfl).symm⟩
  · rintro ⟨z, hz, h1, h2⟩
    exact ⟨z.span, List.mem_map.mpr ⟨z, hz, rfl⟩, h1, fun q e => by cases e; exact h2.symm⟩
end
end Rn
end

section

namespace Rn
/-! ### numbers of members in windows -/
open Classical in
noncomputable def cntN (A : Int → Prop) (lo : Int) : Nat → Nat
  | 0 => 0
  | n + 1 => cntN A lo n + (if A (lo + (n : Int)) then 1 else 0)
noncomputable def cnt (A : Int → Prop) (lo hi : Int) : Nat := cntN A lo (hi + 1 - lo).toNat
section
variable {A B : Int → Prop} {lo hi : Int}
theorem cntN_congr : ∀ {n : Nat}, (∀ t, lo ≤ t → t < lo + (n : Int) → (A t ↔ B t)) → cntN A lo n = cntN B lo n
  | 0, _ => rfl
  | n + 1, h => by
    unfold cntN
    rw [cntN_congr (n := n) fun t h1 h2 => h t h1 (by omega)]
    have e := h (lo + (n : Int)) (by omega) (by omega)
    by_cases c : A (lo + (n : Int))
    · rw [if_pos c, if_pos (e.mp c)]
    · rw [if_neg c, if_neg fun z => c (e.mpr z)]
theorem cnt_congr (h : ∀ t, lo ≤ t → t ≤ hi → (A t ↔ B t)) : cnt A lo hi = cnt B lo hi := cntN_congr fun t h1 h2 => h t h1 (by omega)
theorem cntN_or : ∀ {n : Nat}, (∀ t, A t → B t → False) → cntN (fun t => A t ∨ B t) lo n = cntN A lo n + cntN B lo n
  | 0, _ => rfl
  | n + 1, h => by
    unfold cntN
    rw [cntN_or (n := n) h]
    by_cases c : A (lo + (n : Int))
    · rw [if_pos c, if_neg fun z => h _ c z, if_pos (.inl c)]
      omega
    · by_cases d : B (lo + (n : Int))
      · rw [if_neg c, if_pos d, if_pos (.inr d)]
        omega
      · rw [if_neg c, if_neg d, if_neg fun z => z.elim c d]
        omega
theorem cnt_or (h : ∀ t, A t → B t → False) : cnt (fun t => A t ∨ B t) lo hi = cnt A lo hi + cnt B lo hi := cntN_or h
theorem cntN_none : ∀ {n : Nat}, (∀ t, lo ≤ t → t < lo + (n : Int) → ¬ A t) → cntN A lo n = 0
  | 0, _ => rfl
  | n + 1, h => by
    unfold cntN
    rw [cntN_none (n := n) fun t h1 h2 => h t h1 (by omega), if_neg (h _ (by omega) (by omega))]
theorem cnt_none (h : ∀ t, lo ≤ t → t ≤ hi → ¬ A t) : cnt A lo hi = 0 := cntN_none fun t h1 h2 => h t h1 (by omega)
theorem cntN_sub : ∀ {n : Nat}, (∀ t, lo ≤ t → t < lo + (n : Int) → A t → B t) → cntN A lo n ≤ cntN B lo n
  | 0, _ => Nat.le_refl _
  | n + 1, h => by
    unfold cntN
    have i := cntN_sub (n := n) fun t h1 h2 => h t h1 (by omega)
    have e := h (lo + (n : Int)) (by omega) (by omega)
    by_cases c : A (lo + (n : Int))
    · rw [if_pos c, if_pos (e c)]
      omega
    · rw [if_neg c]
      omega
theorem cnt_sub (h : ∀ t, lo ≤ t → t ≤ hi → A t → B t) : cnt A lo hi ≤ cnt B lo hi := cntN_sub fun t h1 h2 => h t h1 (by omega)
theorem cntN_mono {n m : Nat} (h : n ≤ m) : cntN A lo n ≤ cntN A lo m := by
  induction h with
  | refl => exact Nat.le_refl _
  | step h ih =>
    refine Nat.le_trans ih ?_
    show _ ≤ cntN A lo _ + _
    omega
theorem cnt_mono {hi' : Int} (h : hi ≤ hi') : cnt A lo hi ≤ cnt A lo hi' := cntN_mono (by omega)
theorem cntN_le {n : Nat} : cntN A lo n ≤ n := by
  induction n with
  | zero => exact Nat.le_refl _
  | succ n this =>
    unfold cntN
    split <;> omega
theorem cnt_le : cnt A lo hi ≤ (hi + 1 - lo).toNat := cntN_le
theorem cnt_nil (h : hi < lo) : cnt A lo hi = 0 := by
  unfold cnt
  rw [show (hi + 1 - lo).toNat = 0 by omega]
  rfl
theorem cnt_yes (h : lo ≤ hi) (c : A hi) : cnt A lo hi = cnt A lo (hi - 1) + 1 := by
  unfold cnt
  rw [show (hi + 1 - lo).toNat = (hi - 1 + 1 - lo).toNat + 1 by omega]
  show cntN A lo _ + _ = _
  rw [if_pos (by rw [show lo + (((hi - 1 + 1 - lo).toNat : Nat) : Int) = hi by omega]; exact c)]
theorem cnt_no (c : ¬ A hi) : cnt A lo hi = cnt A lo (hi - 1) := by
  by_cases h : lo ≤ hi
  · unfold cnt
    rw [show (hi + 1 - lo).toNat = (hi - 1 + 1 - lo).toNat + 1 by omega]
    show cntN A lo _ + _ = _
    rw [if_neg (by rw [show lo + (((hi - 1 + 1 - lo).toNat : Nat) : Int) = hi by omega]; exact c)]
    rfl
  · rw [cnt_nil (by omega), cnt_nil (by omega)]
theorem cntN_add : ∀ {n m : Nat}, cntN A lo (n + m) = cntN A lo n + cntN A (lo + (n : Int)) m
  | n, 0 => rfl
  | n, m + 1 => by
    show cntN A lo (n + m) + _ = _ + (cntN A (lo + (n : Int)) m + _)
    rw [cntN_add (n := n) (m := m), show lo + ((Nat.add n m : Nat) : Int) = lo + (n : Int) + (m : Int) by show lo + ((n + m : Nat) : Int) = _; omega]
    omega
/-- a window cut in two -/
theorem cnt_cut {c : Int} (h1 : lo ≤ c + 1) (h2 : c ≤ hi) : cnt A lo hi = cnt A lo c + cnt A (c + 1) hi := by
  unfold cnt
  rw [show (hi + 1 - lo).toNat = (c + 1 - lo).toNat + (hi + 1 - (c + 1)).toNat by omega, cntN_add, show lo + (((c + 1 - lo).toNat : Nat) : Int) = c + 1 by omega]
theorem cnt_point {x : Int} (h1 : lo ≤ x) (h2 : x ≤ hi) : cnt (fun t => t = x) lo hi = 1 := by
  rw [cnt_cut (c := x) (by omega) h2, cnt_yes (A := fun t => t = x) h1 rfl, cnt_none (lo := lo) (hi := x - 1) fun t _ h => by omega, cnt_none (lo := x + 1) (hi := hi) fun t h _ => by omega]
/-- every p-th -/
theorem cnt_steps {p r a : Int} (hp : 0 < p) (ea : a % p = r) (h1 : lo ≤ a) {k : Nat} (h : a + p * (k : Int) ≤ hi) : cnt (fun t => t % p = r ∧ a ≤ t ∧ t ≤ a + p * (k : Int)) lo hi = k + 1 := by
  induction k with
  | zero =>
    have e : cnt (fun t => t % p = r ∧ a ≤ t ∧ t ≤ a + p * ((0 : Nat) : Int)) lo hi = cnt (fun t => t = a) lo hi := cnt_congr fun t _ _ => ⟨fun z => by omega, fun z => by subst z; exact ⟨ea, by omega, by omega⟩⟩
    rw [e, cnt_point h1 (by omega)]
  | succ k ih =>
    have eS : p * ((k + 1 : Nat) : Int) = p * (k : Int) + p := by
      rw [Int.natCast_add, Int.mul_add]
      omega
    have k0 : 0 ≤ p * (k : Int) := Int.mul_nonneg (by omega) (by omega)
    have ih := ih (by omega)
    have em : (a + p * (k : Int) + p) % p = r := by
      rw [Int.add_emod_right, Int.add_mul_emod_self_left]
      exact ea
    have e : cnt (fun t => t % p = r ∧ a ≤ t ∧ t ≤ a + p * ((k + 1 : Nat) : Int)) lo hi = cnt (fun t => (t % p = r ∧ a ≤ t ∧ t ≤ a + p * (k : Int)) ∨ t = a + p * (k : Int) + p) lo hi := by
      refine cnt_congr fun t _ _ => ⟨fun ⟨z1, z2, z3⟩ => ?_, fun z => ?_⟩
      · by_cases c : t ≤ a + p * (k : Int)
        · exact .inl ⟨z1, z2, c⟩
        · right
          have q := step_of hp (a := a + p * (k : Int)) (b := t) (by rw [Int.add_mul_emod_self_left, ea, z1]) (by omega)
          have q2 : ¬ (a + p * (k : Int) + p < t) := fun z => by
            have := step_of hp (a := a + p * (k : Int) + p) (b := t) (by rw [em, z1]) z
            omega
          omega
      · rcases z with ⟨z1, z2, z3⟩ | z
        · exact ⟨z1, z2, by omega⟩
        · subst z
          exact ⟨em, by omega, by omega⟩
    rw [e, cnt_or fun t h1 h2 => by omega, ih, cnt_point (by omega) (by omega)]
end
/-! ### the members of runs, run by run -/
section
variable {p : Int} {lo hi : Int}
theorem cnt_run {x : Run} {a b : Int} (hp : 0 < p) (g : Good p x) (ea : x.lo = some a) (eb : x.hi = some b) (h1 : lo ≤ a) (h2 : b ≤ hi) : (cnt (inRun p x) lo hi : Int) = (b - a) / p + 1 := by
  have ma := (in_lo g ea).1
  have mb := (in_hi g eb).1
  have hab := (in_lo g ea).2.2 b eb
  obtain ⟨k, hk⟩ := dvd_of_mods (p := p) (a := b) (b := a) (by rw [ma, mb])
  have k0 : 0 ≤ k := by
    by_cases c : 0 ≤ k
    · exact c
    · have := Int.mul_neg_of_pos_of_neg hp (show k < 0 by omega)
      omega
  have ek : ((k.toNat : Nat) : Int) = k := by omega
  have q := cnt_steps (lo := lo) (hi := hi) (k := k.toNat) hp ma h1 (by rw [ek]; omega)
  rw [ek] at q
  have e : cnt (inRun p x) lo hi = cnt (fun t => t % p = x.r ∧ a ≤ t ∧ t ≤ a + p * k) lo hi := cnt_congr fun t _ _ => by
    unfold inRun
    rw [ea, eb, geS, leS, show a + p * k = b by omega]
  rw [e, q, hk, Int.mul_ediv_cancel_left _ (by omega)]
  omega
theorem cnt_runs {z : Run} {zs : List Run} (hp : 0 < p) (c : Canon p (zs ++ [z])) : cnt (inRuns p (zs ++ [z])) lo hi = cnt (inRuns p zs) lo hi + cnt (inRun p z) lo hi := by
  rw [← cnt_or fun t h1 h2 => ?_]
  · exact cnt_congr fun t _ _ => by rw [inRuns_append, inRuns_one]
  · obtain ⟨x, hx, mx⟩ := h1
    have q := (List.pairwise_append.mp c.pw).2.2 x hx z List.mem_cons_self
    exact q.apart hp mx h2
end
/-! ### the member with an index -/
def IsKth (A : Int → Prop) (s : Int) (k : Nat) : Option Int → Prop
  | none => ∀ h, cnt A s h ≤ k
  | some m => A m ∧ s ≤ m ∧ cnt A s m = k + 1
section
variable {A B : Int → Prop} {s : Int} {k : Nat} {o o' : Option Int}
theorem cnt_lt {m m' : Int} (h : m < m') (hs : s ≤ m') (c : A m') : cnt A s m < cnt A s m' := by
  rw [cnt_yes hs c]
  exact Nat.lt_succ_of_le (cnt_mono (by omega))
theorem IsKth.uniq (h : IsKth A s k o) (h' : IsKth A s k o') : o = o' := by
  cases o with
  | none =>
    cases o' with
    | none => rfl
    | some m =>
      have := h m
      have := h'.2.2
      omega
  | some m =>
    cases o' with
    | none =>
      have := h' m
      have := h.2.2
      omega
    | some n =>
      rcases Int.lt_trichotomy m n with c | c | c
      · have := cnt_lt c h'.2.1 h'.1
        have := h.2.2
        have := h'.2.2
        omega
      · rw [c]
      · have := cnt_lt c h.2.1 h.1
        have := h.2.2
        have := h'.2.2
        omega
theorem IsKth.congr (e : ∀ t, A t ↔ B t) (h : IsKth A s k o) : IsKth B s k o := by
  cases o with
  | none => exact fun hi => by rw [← cnt_congr fun t _ _ => e t]; exact h hi
  | some m => exact ⟨(e m).mp h.1, h.2.1, by rw [← cnt_congr fun t _ _ => e t]; exact h.2.2⟩
/-- where the halving ends -/
theorem kth_at {m : Int} (h1 : s ≤ m) (h2 : cnt A s (m - 1) ≤ k) (h3 : k < cnt A s m) : IsKth A s k (some m) := by
  by_cases c : A m
  · refine ⟨c, h1, ?_⟩
    have := cnt_yes h1 c
    omega
  · have := cnt_no (lo := s) c
    omega
/-- no more members than k: none with the index k -/
theorem kth_no {p b : Int} {ss : List Sp3} (hp : 0 < p) (hb : ∀ x ∈ ss, ∀ l, x.lo = some l ∨ x.hi = some l → l ≤ b) (hs : s ≤ b) (h : cnt (inSpans p ss) s (b + p * ((k : Int) + 1)) ≤ k) : IsKth (inSpans p ss) s k none := by
  have no : ∀ t, b < t → ¬ inSpans p ss t := by
    rintro t ht ⟨x, hx, m1, m2, m3⟩
    have hN : x.hi = none := by
      cases e : x.hi with
      | none => rfl
      | some l =>
        have := m3 l e
        have := hb x hx l (.inr e)
        omega
    have r0 := Int.emod_nonneg t (show p ≠ 0 by omega)
    have r1 := Int.emod_lt_of_pos t hp
    have ul := upTo_le (p := p) (r := t % p) hp (b + 1)
    have um := upTo_mod r0 r1 (b + 1)
    have q := cnt_steps (lo := s) (hi := b + p * ((k : Int) + 1)) (k := k) hp um (by omega) (by rw [Int.mul_add]; omega)
    have q2 : cnt (fun u => u % p = t % p ∧ upTo p (t % p) (b + 1) ≤ u ∧ u ≤ upTo p (t % p) (b + 1) + p * (k : Int)) s (b + p * ((k : Int) + 1)) ≤ cnt (inSpans p ss) s (b + p * ((k : Int) + 1)) := by
      refine cnt_sub fun u _ _ hu => ⟨x, hx, fun r e => by rw [hu.1]; exact m1 r e, fun l e => ?_, fun l e => ?_⟩
      · have := hb x hx l (.inl e)
        omega
      · rw [hN] at e
        cases e
    omega
  intro h'
  rcases Int.lt_or_le h' (b + p * ((k : Int) + 1)) with c | c
  · exact Nat.le_trans (cnt_mono (by omega)) h
  · have pk : 0 ≤ p * ((k : Int) + 1) := Int.mul_nonneg (by omega) (by omega)
    rw [cnt_cut (c := b + p * ((k : Int) + 1)) (by omega) c, cnt_none (lo := b + p * ((k : Int) + 1) + 1) fun t h1 _ => no t (by omega)]
    exact h
theorem kth_noR {p b : Int} {zs : List Run} (hp : 0 < p) (hb : ∀ z ∈ zs, ∀ l, z.lo = some l ∨ z.hi = some l → l ≤ b) (hs : s ≤ b) (h : cnt (inRuns p zs) s (b + p * ((k : Int) + 1)) ≤ k) : IsKth (inRuns p zs) s k none :=
  (kth_no (ss := zs.map Run.span) hp (fun x hx l e => by obtain ⟨z, hz, rfl⟩ := List.mem_map.mp hx; exact hb z hz l e) hs (by rw [cnt_congr fun t _ _ => spans_runs]; exact h)).congr fun t => spans_runs
/-- fit for a product -/
def Fit (n : Nat) : Prop := n < 2 ^ 1000
end
end Rn
end

section

/-! EwDj: runs of which no two meet, in any order. -/
namespace Rn
structure Gds (p : Int) (zs : List Run) : Prop where
  good : ∀ z ∈ zs, Good p z
  pw : zs.Pairwise fun x y => ∀ t, inRun p x t → inRun p y t → False
theorem Canon.gds {p : Int} {zs : List Run} (hp : 0 < p) (c : Canon p zs) : Gds p zs := ⟨c.good, c.pw.imp fun h t h1 h2 => h.apart hp h1 h2⟩
section
variable {p lo hi : Int}
theorem cnt_runs_dj {z : Run} {zs : List Run} (c : Gds p (zs ++ [z])) : cnt (inRuns p (zs ++ [z])) lo hi = cnt (inRuns p zs) lo hi + cnt (inRun p z) lo hi := by
  rw [← cnt_or fun t h1 h2 => ?_]
  · exact cnt_congr fun t _ _ => by rw [inRuns_append, inRuns_one]
  · obtain ⟨x, hx, mx⟩ := h1
    exact (List.pairwise_append.mp c.pw).2.2 x hx z List.mem_cons_self t mx h2
theorem Gds.take {zs : List Run} (c : Gds p zs) (i : Nat) : Gds p (zs.take i) := ⟨fun y hy => c.good y (List.mem_of_mem_take hy), List.Pairwise.sublist (List.take_sublist _ _) c.pw⟩
end
end Rn
end

section
set_option maxHeartbeats 4000000
namespace TM
open PySem PySem.Spec PyProof.Rows L2 EW
abbrev NNextIn : List Str := ["period", "runs", "time", "found", "residue", "least", "most", "run"]
theorem NextIn : FnScope NNextIn ["period", "runs", "time"] (defScope sNextIn) := ⟨rfl, rfl, rfl, by decide +kernel, rfl, by decide +kernel, by decide +kernel⟩
abbrev NReqI : List Str := ["value"]
theorem ReqI : FnScope NReqI ["value"] (defScope sReqI) := ⟨rfl, rfl, rfl, by decide +kernel, rfl, by decide +kernel, by decide +kernel⟩
theorem grt_at {lo : Option Int} {t s : Int} : Rn.geLo (grt lo (some t)) s ↔ Rn.geLo lo s ∧ t ≤ s := by
  rw [grt_iff, Rn.geS]
theorem lst_at {hi : Option Int} {t s : Int} : Rn.leHi (lst hi (some t)) s ↔ Rn.leHi hi s ∧ s ≤ t := by
  rw [lst_iff, Rn.leS]
theorem grt_some (lo : Option Int) (t : Int) : ∃ u, grt lo (some t) = some u := by
  cases lo with
  | none => exact ⟨t, rfl⟩
  | some l => exact ⟨_, rfl⟩
theorem lst_some (lo : Option Int) (t : Int) : ∃ u, lst lo (some t) = some u := by
  cases lo with
  | none => exact ⟨t, rfl⟩
  | some l => exact ⟨_, rfl⟩
/-- runs in a list, no two of which meet -/
def RunsL (K : W.Frag) (H : Hp) (l : Addr) (p : Int) (zs : List Rn.Run) : Prop := ∃ ys, H l = some (.lst ys) ∧ Rns K H ys zs ∧ Rn.Gds p zs ∧ zs.length ≤ 10000000
theorem RunsL.same {K : W.Frag} {H H' : Hp} {l : Addr} {p : Int} {zs : List Rn.Run} (h : RunsL K H l p zs) (s : Same H H') : RunsL K H' l p zs := let ⟨ys, e, r, q⟩ := h; ⟨ys, s _ _ e, Rns.same r s, q⟩
def spNext (K : W.Frag) : Sp := fun vs H Q _ => ∃ (p t : Int) (l : Addr) (zs : List Rn.Run), vs = [.int p, .ref l, .int t] ∧ 0 < p ∧ RunsL K H l p zs ∧ ∀ (o : Option Int) (H' : Hp), Same H H' → Rn.IsNext (Rn.inRuns p zs) t o → Q (ob o) H'
theorem runs_snoc {p t : Int} {zs : List Rn.Run} {z : Rn.Run} : Rn.inRuns p zs t ∨ Rn.inSpan p ⟨some z.r, z.lo, z.hi⟩ t ↔ Rn.inRuns p (zs ++ [z]) t := by
  rw [Rn.inRuns_append, Rn.inRuns_one, Rn.span_S]
  rfl
section
variable {P : Program} {w : World} {K : W.Frag} {mg : Str → Option Value} {base : Heap}
theorem ok_nextIn {fd : FuncData} (F : FnP K "next_in" sNextIn fd) (T : Fre mg) (Drun_of : Df P w K mg base 2 "run_of" ["period", "residue", "least", "most"] spRunOf) (Dgreater_of : Df P w K mg base 1 "greater_of" ["one", "other"] (spTwo grt)) :
    FnOk P w K mg base CX0 3 (He.ga K "next_in") fd ["period", "runs", "time"] (spNext K) := by
  refine F.ok NextIn (fun vs H Q E h => ?_) (fun cdv A outer s H vs Q E hr h => ?_)
  · obtain ⟨p, t, l, zs, rfl, _⟩ := h
    rfl
  · obtain ⟨p, t, l, zs, rfl, hp, ⟨ys, hY, Ry, cz, hzl⟩, k⟩ := h
    have hyl := Ry.length
    have hbig : (10000000 : Nat) < sizeLine := by decide
    refine ⟨_, PSs.nox (pss_cons (ps_set (i := 3) NextIn.nd rfl (Or.inl rfl) (pe_lstS pa_nil))
      (pss_cons (ps_for PassesOwn.never rfl (pi_listK (K := K) rfl (pv 1)) (pg_tup rfl (pgs_cons (pg_name (i := 4) NextIn.nd rfl (Or.inl rfl)) (pgs_cons (pg_name (i := 5) NextIn.nd rfl (Or.inl rfl)) (pgs_cons (pg_name (i := 6) NextIn.nd rfl (Or.inl rfl)) pgs_nil)))) (pss_cons (ps_cut (ps_set (i := 7) NextIn.nd rfl (Or.inl rfl) (pe_df Drun_of (hr.mono (by decide)) rfl (pa_cons (pv 0) (pa_cons (pv 4) (pa_cons (pe_df Dgreater_of (hr.mono (by decide)) rfl (pa_cons (pv 5) (pa_cons (pv 2) pa_nil))) (pa_cons (pv 6) pa_nil)))))))
      (pss_one (ps_if (pt_cmp (pc_notN (pv 7))) (pss_one (ps_expr (pe_bm PySem.F.plainAttrs_list PySem.F.slot_list_append PySem.F.type_list_append mt_append (pv 3) (pa_cons (pe_ix (ix_tupK K rfl) (pv 7) pe_int (fun _ _ => rfl)) pa_nil)))) pss_nil))))
      (pss_one (ps_ret (pe_ifExp (pt_cmpR (op_neDK K rfl hr.units) (pv 3) (pl_lst (K := K) (by show 0 ≤ sizeLine; decide) pls_nil) (nomark _)) (pe_callB (cr_minK K rfl rfl) (by rfl) T.min EW.boot_min (pa_cons (pv 3) pa_nil)) pe_non))))), ?_⟩
    refine ⟨Nat.zero_le _, fun G H1 n1 s1 e1 => ?_⟩
    refine ⟨_, rfl, l, rfl, ⟨_, SqL.of (s1 _ _ hY)⟩, ?_⟩
    refine for_list (K := K) (a := l) (xs := ys) (fun i σ' H' => ∃ (u4 u5 u6 u7 : Option V) (ms : List Int), σ' = [some (.int p), some (.ref l), some (.int t), some (.ref G), u4, u5, u6, u7] ∧ Same H H' ∧ H' G = some (.lst (ms.map V.int)) ∧ Rn.Nxs (Rn.inRuns p (zs.take i)) t ms ∧ ms.length ≤ i) ⟨_, _, _, _, [], rfl, s1, e1, ⟨(fun m hm => nomatch hm), fun s _ q => by obtain ⟨_, hx, _⟩ := q; rw [List.take_zero] at hx; cases hx⟩, Nat.le_refl _⟩ ?_ ?_ ?_
    · rintro i σ' H' _ ⟨u4, u5, u6, u7, ms, _, s2, _⟩
      exact SqL.of (s2 _ _ hY)
    · rintro i x σ' H2 hx ⟨u4, u5, u6, u7, ms, rfl, s2, eG, hN, hml⟩
      obtain ⟨z, hz, Sx⟩ := pr_get Ry hx
      have mz := List.mem_of_getElem? hz
      have gz := cz.good z mz
      have hi : i < ys.length := (List.getElem?_eq_some_iff.mp hx).1
      have et : zs.take (i + 1) = zs.take i ++ [z] := by
        rw [List.take_add_one, hz]
        rfl
      obtain ⟨ax, rfl, hX⟩ := Tp.same Sx s2
      refine ⟨ax, _, rfl, hX, rfl, _, _, rfl, _, _, rfl, _, _, rfl, rfl, ?_⟩
      refine ⟨fun σ' H' => ∃ v, σ' = [some (.int p), some (.ref l), some (.int t), some (.ref G), some (.int z.r), some (ob z.lo), some (ob z.hi), some v] ∧ Same H2 H' ∧ ((v = .non ∧ Rn.IsNext (Rn.inSpan p ⟨some z.r, z.lo, z.hi⟩) t none) ∨ ∃ (q : Addr) (m : Int) (w1 w3 : V), v = .ref q ∧ H' q = some (.tup [w1, .int m, w3]) ∧ Rn.IsNext (Rn.inSpan p ⟨some z.r, z.lo, z.hi⟩) t (some m)), ?_, ?_⟩
      · refine ⟨_, rfl, _, rfl, _, rfl, _, rfl, z.lo, some t, rfl, _, rfl, p, z.r, grt z.lo (some t), z.hi, rfl, hp, ?_⟩
        cases e : Rn.runOf p z.r (grt z.lo (some t)) z.hi with
        | none => exact fun H3 s3 => ⟨_, rfl, s3, .inl ⟨rfl, Rn.next_run_no gz.r0 gz.r1 (fun s => grt_at) e⟩⟩
        | some y =>
          refine fun q H3 n3 s3 e3 => ?_
          obtain ⟨u, eu⟩ := grt_some z.lo t
          obtain ⟨m, em⟩ : ∃ m, y.lo = some m := by
            rw [eu] at e
            exact Rn.runOf_lo e
          rw [em] at e3
          exact ⟨_, rfl, s3, .inr ⟨q, m, _, _, rfl, e3, Rn.next_run gz.r0 gz.r1 (fun s => grt_at) e em⟩⟩
      rintro σ' H3 ⟨v, rfl, s3, h⟩
      have s23 := Same.trans s2 s3
      refine ⟨_, rfl, _, rfl, ?_⟩
      rcases h with ⟨rfl, hn⟩ | ⟨q, m, w1, w3, rfl, eq, hn⟩
      · refine iteF ⟨_, _, _, _, ms, rfl, s23, s3 _ _ eG, ?_, by omega⟩
        rw [et]
        exact (hN.skip hn).congr fun s => runs_snoc
      · refine iteT ⟨_, rfl, Or.inl ⟨rfl, _, SqL.of (s3 _ _ eG)⟩, _, rfl, q, _, _, _, rfl, rfl, SqT.of eq, rfl, G, _, _, rfl, rfl, s3 _ _ eG, by rw [List.length_map]; omega, ?_⟩
        refine ⟨_, _, _, _, ms ++ [m], rfl, same_upd s23 n1, by rw [upd_same, List.map_append]; rfl, ?_, by rw [List.length_append]; exact Nat.succ_le_succ hml⟩
        rw [et]
        exact (hN.add hn).congr fun s => runs_snoc
    · rintro σ' H2 ⟨u4, u5, u6, u7, ms, rfl, s2, eG, hN, hml⟩
      rw [hyl, List.take_length] at hN
      refine ⟨_, rfl, fun q H3 s3 d3 => neNil (.lst (SqL.of (s3 _ _ eG)) (ints_dp ms)) (shaped_ints ms) d3 ⟨_, rfl, ?_⟩⟩
      have s23 := Same.trans s2 s3
      cases ms with
      | nil => exact iteF (k none H3 s23 hN.empty)
      | cons m0 mr => exact iteT ⟨_, rfl, G, _, rfl, SqL.of (s3 _ _ eG), Nat.succ_pos _, fun m hm hl => k (some m) H3 s23 (hN.least hm hl)⟩
def spReqI : Sp := fun vs H Q _ => ∃ t : Int, vs = [.int t] ∧ Q .non H
theorem ok_reqI {fd : FuncData} (F : FnP K "require_integer" sReqI fd) (Dis_integer : Df P w K mg base 1 "is_integer" ["value"] (spIsInt K)) : FnOk P w K mg base CX0 2 (He.ga K "require_integer") fd ["value"] spReqI := by
  refine F.ok ReqI (fun vs H Q E h => ?_) (fun cdv A outer s H vs Q E hr h => ?_)
  · obtain ⟨t, rfl, _⟩ := h
    rfl
  · obtain ⟨t, rfl, k⟩ := h
    refine ⟨_, PSs.nox (pss_one (ps_if (pt_not (pt_val (pe_df Dis_integer (hr.mono (by decide)) rfl (pa_cons (pv 0) pa_nil)))) (pss_one ps_never) pss_nil)), ?_⟩
    exact ⟨_, rfl, _, _, true, false, rfl, .base (.int t), kit_ty kb1, (fun _ => kit_ty kb2), _, rfl, iteF k⟩
end
end TM
end

section
set_option maxHeartbeats 4000000
namespace TM
open PySem PySem.Spec PyProof.Rows L2 EW
abbrev NManyIn : List Str := ["period", "runs", "low", "high", "total", "residue", "least", "most", "run"]
theorem ManyIn : FnScope NManyIn ["period", "runs", "low", "high"] (defScope sManyIn) := ⟨rfl, rfl, rfl, by decide +kernel, rfl, by decide +kernel, by decide +kernel⟩
abbrev NFarEnd : List Str := ["period", "runs", "start", "many", "told", "residue", "least", "most", "bound"]
theorem FarEnd : FnScope NFarEnd ["period", "runs", "start", "many"] (defScope sFarEnd) := ⟨rfl, rfl, rfl, by decide +kernel, rfl, by decide +kernel, by decide +kernel⟩
abbrev NKthIn : List Str := ["period", "runs", "index", "start", "low", "high", "middle"]
theorem KthIn : FnScope NKthIn ["period", "runs", "index", "start"] (defScope sKthIn) := ⟨rfl, rfl, rfl, by decide +kernel, rfl, by decide +kernel, by decide +kernel⟩
def spMany (K : W.Frag) : Sp := fun vs H Q _ => ∃ (p a b : Int) (l : Addr) (zs : List Rn.Run), vs = [.int p, .ref l, .int a, .int b] ∧ 0 < p ∧ p ≤ 1000000 ∧ RunsL K H l p zs ∧ ∀ (n : Int) (H' : Hp), Same H H' → n = (Rn.cnt (Rn.inRuns p zs) a b : Int) → Q (.int n) H'
def spFar (K : W.Frag) : Sp := fun vs H Q _ => ∃ (p a m : Int) (l : Addr) (zs : List Rn.Run), vs = [.int p, .ref l, .int a, .int m] ∧ 0 < p ∧ p ≤ 1000000 ∧ Rn.Fit m.natAbs ∧ RunsL K H l p zs ∧ zs.length ≤ 1000000 ∧ ∀ (b : Int) (H' : Hp), Same H H' → a ≤ b → (∀ z ∈ zs, ∀ x, z.lo = some x ∨ z.hi = some x → x ≤ b) → Q (.int (b + p * m)) H'
def spKthIn (K : W.Frag) : Sp := fun vs H Q _ => ∃ (p a : Int) (i : Nat) (l : Addr) (zs : List Rn.Run), vs = [.int p, .ref l, .int i, .int a] ∧ 0 < p ∧ p ≤ 1000000 ∧ Rn.Fit (i + 1) ∧ RunsL K H l p zs ∧ zs.length ≤ 1000000 ∧ ∀ (o : Option Int) (H' : Hp), Same H H' → Rn.IsKth (Rn.inRuns p zs) a i o → Q (ob o) H'
theorem not_of {P : Prop} [Decidable P] (h : ¬ decide P = true) : ¬ P := fun z => h (decide_eq_true z)
theorem p_small {p : Int} (h0 : 0 < p) (h : p ≤ 1000000) : p.natAbs < 2 ^ 20 := by
  have : (2 : Nat) ^ 20 = 1048576 := by decide
  omega
section
variable {P : Program} {w : World} {K : W.Frag} {mg : Str → Option Value} {base : Heap}
theorem ok_manyIn {fd : FuncData} (F : FnP K "many_in" sManyIn fd) (T : Fre mg) (Drun_of : Df P w K mg base 2 "run_of" ["period", "residue", "least", "most"] spRunOf) (Dgreater_of : Df P w K mg base 1 "greater_of" ["one", "other"] (spTwo grt)) (Dlesser_of : Df P w K mg base 1 "lesser_of" ["one", "other"] (spTwo lst)) :
    FnOk P w K mg base CX0 3 (He.ga K "many_in") fd ["period", "runs", "low", "high"] (spMany K) := by
  refine F.ok ManyIn (fun vs H Q E h => ?_) (fun cdv A outer s H vs Q E hr h => ?_)
  · obtain ⟨p, a, b, l, zs, rfl, _⟩ := h
    rfl
  · obtain ⟨p, a, b, l, zs, rfl, hp, p2, ⟨ys, hY, Ry, cz, hzl⟩, k⟩ := h
    have hyl := Ry.length
    refine ⟨_, PSs.nox (pss_cons (ps_set (i := 4) ManyIn.nd rfl (Or.inl rfl) pe_int)
      (pss_cons (ps_for PassesOwn.never rfl (pi_listK (K := K) rfl (pv 1)) (pg_tup rfl (pgs_cons (pg_name (i := 5) ManyIn.nd rfl (Or.inl rfl)) (pgs_cons (pg_name (i := 6) ManyIn.nd rfl (Or.inl rfl)) (pgs_cons (pg_name (i := 7) ManyIn.nd rfl (Or.inl rfl)) pgs_nil)))) (pss_cons (ps_cut (ps_set (i := 8) ManyIn.nd rfl (Or.inl rfl) (pe_df Drun_of (hr.mono (by decide)) rfl (pa_cons (pv 0) (pa_cons (pv 5) (pa_cons (pe_df Dgreater_of (hr.mono (by decide)) rfl (pa_cons (pv 6) (pa_cons (pv 2) pa_nil))) (pa_cons (pe_df Dlesser_of (hr.mono (by decide)) rfl (pa_cons (pv 7) (pa_cons (pv 3) pa_nil))) pa_nil)))))))
      (pss_one (ps_if (pt_cmp (pc_notN (pv 8))) (pss_one (ps_aug (i := 4) ManyIn.nd rfl (Or.inl rfl) (pe_op op_add (pe_op op_fdivW (pe_op op_sub (pe_ix (ix_tupK K rfl) (pv 8) pe_int (fun _ _ => rfl)) (pe_ix (ix_tupK K rfl) (pv 8) pe_int (fun _ _ => rfl))) (pv 0)) pe_int) ip_add)) pss_nil))))
      (pss_one (ps_ret (pv 4))))), ?_⟩
    refine ⟨_, rfl, l, rfl, ⟨_, SqL.of hY⟩, ?_⟩
    refine for_list (K := K) (a := l) (xs := ys) (fun i σ' H' => ∃ (n : Int) (u5 u6 u7 u8 : Option V), σ' = [some (.int p), some (.ref l), some (.int a), some (.int b), some (.int n), u5, u6, u7, u8] ∧ Same H H' ∧ n = (Rn.cnt (Rn.inRuns p (zs.take i)) a b : Int)) ⟨0, _, _, _, _, rfl, Same.refl H, ?_⟩ ?_ ?_ ?_
    · rw [Rn.cnt_none fun t _ _ q => by obtain ⟨_, hx, _⟩ := q; rw [List.take_zero] at hx; cases hx]
      rfl
    · rintro i σ' H' _ ⟨n, u5, u6, u7, u8, _, s2, _⟩
      exact SqL.of (s2 _ _ hY)
    · rintro i x σ' H2 hx ⟨n, u5, u6, u7, u8, rfl, s2, hn⟩
      obtain ⟨z, hz, Sx⟩ := pr_get Ry hx
      have mz := List.mem_of_getElem? hz
      have gz := cz.good z mz
      have et : zs.take (i + 1) = zs.take i ++ [z] := by
        rw [List.take_add_one, hz]
        rfl
      have ct : Rn.Gds p (zs.take i ++ [z]) := by
        rw [← et]
        exact cz.take _
      have step : ∀ c : Int, c = (Rn.cnt (Rn.inRun p z) a b : Int) → n + c = (Rn.cnt (Rn.inRuns p (zs.take (i + 1))) a b : Int) := fun c hc => by
        rw [et, Rn.cnt_runs_dj ct]
        omega
      obtain ⟨ax, rfl, hX⟩ := Tp.same Sx s2
      refine ⟨ax, _, rfl, hX, rfl, _, _, rfl, _, _, rfl, _, _, rfl, rfl, ?_⟩
      refine ⟨fun σ' H' => ∃ v, σ' = [some (.int p), some (.ref l), some (.int a), some (.int b), some (.int n), some (.int z.r), some (ob z.lo), some (ob z.hi), some v] ∧ Same H2 H' ∧ ((v = .non ∧ Rn.cnt (Rn.inRun p z) a b = 0) ∨ ∃ (q : Addr) (c d : Int) (w1 : V), v = .ref q ∧ H' q = some (.tup [w1, .int c, .int d]) ∧ (Rn.cnt (Rn.inRun p z) a b : Int) = (d - c) / p + 1), ?_, ?_⟩
      · refine ⟨_, rfl, _, rfl, _, rfl, _, rfl, z.lo, some a, rfl, _, rfl, _, rfl, z.hi, some b, rfl, p, z.r, grt z.lo (some a), lst z.hi (some b), rfl, hp, ?_⟩
        cases e : Rn.runOf p z.r (grt z.lo (some a)) (lst z.hi (some b)) with
        | none => exact fun H3 s3 => ⟨_, rfl, s3, .inl ⟨rfl, Rn.cnt_none fun t h1 h2 hz => Rn.runOf_none gz.r0 gz.r1 e t ⟨hz.1, grt_at.mpr ⟨hz.2.1, h1⟩, lst_at.mpr ⟨hz.2.2, h2⟩⟩⟩⟩
        | some y =>
          refine fun q H3 n3 s3 e3 => ?_
          obtain ⟨g, er, m⟩ := Rn.runOf_some gz.r0 gz.r1 e
          obtain ⟨u, eu⟩ := grt_some z.lo a
          obtain ⟨v, ev⟩ := lst_some z.hi b
          obtain ⟨c, ec⟩ : ∃ m, y.lo = some m := by
            rw [eu] at e
            exact Rn.runOf_lo e
          obtain ⟨d, ed⟩ : ∃ m, y.hi = some m := by
            rw [ev] at e
            exact Rn.runOf_hi e
          rw [ec, ed] at e3
          refine ⟨_, rfl, s3, .inr ⟨q, c, d, _, rfl, e3, ?_⟩⟩
          have hc := (m c).mp (Rn.in_lo g ec)
          have hd := (m d).mp (Rn.in_hi g ed)
          have eq : Rn.cnt (Rn.inRun p z) a b = Rn.cnt (Rn.inRun p y) a b := Rn.cnt_congr fun t h1 h2 => by
            rw [m, grt_at, lst_at]
            exact ⟨fun z => ⟨z.1, ⟨z.2.1, h1⟩, z.2.2, h2⟩, fun z => ⟨z.1, z.2.1.1, z.2.2.1⟩⟩
          rw [eq]
          exact Rn.cnt_run hp g ec ed (grt_at.mp hc.2.1).2 (lst_at.mp hd.2.2).2
      rintro σ' H3 ⟨v, rfl, s3, h⟩
      have s23 := Same.trans s2 s3
      refine ⟨_, rfl, _, rfl, ?_⟩
      rcases h with ⟨rfl, hn0⟩ | ⟨q, c, d, w1, rfl, eq, hc⟩
      · refine iteF ⟨n, _, _, _, _, rfl, s23, ?_⟩
        have := step 0 (by rw [hn0]; rfl)
        omega
      · refine iteT ⟨_, rfl, _, rfl, q, _, _, _, rfl, rfl, SqT.of eq, rfl, _, rfl, q, _, _, _, rfl, rfl, SqT.of eq, rfl, _, _, rfl, rfl, _, rfl, _, _, rfl, rfl, wide_div hp (p_small hp p2) (by decide) (by decide), _, _, rfl, rfl, _, _, rfl, rfl, ?_⟩
        exact ⟨_, _, _, _, _, rfl, s23, step _ hc.symm⟩
    · rintro σ' H2 ⟨n, u5, u6, u7, u8, rfl, s2, hn⟩
      rw [hyl, List.take_length] at hn
      exact ⟨_, rfl, k n H2 s2 hn⟩
theorem ok_farEnd {fd : FuncData} (F : FnP K "far_end" sFarEnd fd) (T : Fre mg) : FnOk P w K mg base CX0 1 (He.ga K "far_end") fd ["period", "runs", "start", "many"] (spFar K) := by
  refine F.ok FarEnd (fun vs H Q E h => ?_) (fun cdv A outer s H vs Q E hr h => ?_)
  · obtain ⟨p, a, m, l, zs, rfl, _⟩ := h
    rfl
  · obtain ⟨p, a, m, l, zs, rfl, hp, p2, hm', ⟨ys, hY, Ry, cz, hzl⟩, hzz, k⟩ := h
    have hyl := Ry.length
    have hbig : (16000000 : Nat) < sizeLine := by decide
    refine ⟨_, PSs.nox (pss_cons (ps_cut (ps_setLc2 (i := 4) (own := [("residue", 5), ("least", 6), ("most", 7), ("bound", 8)]) (vs1 := [8]) (g := gTup K 3 (gCons (gName 5) (gCons (gName 6) (gCons (gName 7) gNil)))) (g1 := gName 8) (tt := tYes) (tt1 := _) (by rfl) FarEnd.nd rfl rfl (sw_true rfl rfl rfl (by decide +kernel)) (pi_listK (K := K) rfl (pv 1)) (blkOk_by (own := [("residue", 5), ("least", 6), ("most", 7), ("bound", 8)]) (N := NFarEnd) (sc := defScope sFarEnd) (by decide +kernel)) (by decide) (fun _ _ _ _ _ => (pg_tup rfl (pgs_cons (pg_name (i := 5) FarEnd.nd rfl (Or.inl rfl)) (pgs_cons (pg_name (i := 6) FarEnd.nd rfl (Or.inl rfl)) (pgs_cons (pg_name (i := 7) FarEnd.nd rfl (Or.inl rfl)) pgs_nil))))) (fun _ _ _ _ _ => pts_nil) (fun _ _ _ _ _ => (pi_tupK (K := K) rfl (pe_tupS (pa_cons (pv 6) (pa_cons (pv 7) pa_nil))))) (fun _ _ _ _ _ => (pg_name (i := 8) FarEnd.nd rfl (Or.inl rfl))) (fun _ _ _ _ _ => (pts_one (pt_cmp (pc_notN (pv 8))))) (fun _ _ _ _ _ => (pv 8))))
      (pss_one (ps_ret (pe_op op_add (pe_callB (cr_maxK K rfl rfl) (by rfl) T.max EW.boot_max (pa_cons (pe_lstS (pa_cons (pv 2) (StX.pa_star (pv 4) pa_nil))) pa_nil)) (pe_op op_mulW (pv 0) (pv 3)))))), ?_⟩
    refine ⟨fun σ' H' => ∃ (D : Addr) (ns : List Int), σ' = [some (.int p), some (.ref l), some (.int a), some (.int m), some (.ref D), none, none, none, none] ∧ Same H H' ∧ H' D = some (.lst (ns.map V.int)) ∧ (∀ z ∈ zs, ∀ x, z.lo = some x ∨ z.hi = some x → x ∈ ns) ∧ ns.length ≤ 2 * ys.length, ?_, ?_⟩
    · refine ⟨_, rfl, l, rfl, ⟨_, SqL.of hY⟩, fun D hD => ?_⟩
      refine loop_list (xs := ys) (fun i H' => ∃ ns : List Int, H' D = some (.lst (ns.map V.int)) ∧ Same H H' ∧ (∀ z ∈ zs.take i, ∀ x, z.lo = some x ∨ z.hi = some x → x ∈ ns) ∧ ns.length ≤ 2 * i) ⟨[], upd_same, upd_new hD, (fun z hz => by rw [List.take_zero] at hz; cases hz), Nat.le_refl _⟩ ?_ ?_ ?_
      · rintro i H' _ ⟨ns, _, s1, _⟩
        exact SqL.of (s1 _ _ hY)
      · rintro i v H1 hv ⟨ns, eD, s1, ha, hl⟩
        obtain ⟨z, hz, Sx⟩ := pr_get Ry hv
        have hi : i < ys.length := (List.getElem?_eq_some_iff.mp hv).1
        have et : zs.take (i + 1) = zs.take i ++ [z] := by
          rw [List.take_add_one, hz]
          rfl
        obtain ⟨ax, rfl, hX⟩ := Tp.same Sx s1
        obtain ⟨zr, zl, zh⟩ := z
        refine ⟨ax, _, rfl, hX, rfl, _, _, rfl, _, _, rfl, _, _, rfl, rfl, rfl, _, rfl, _, rfl, (by show 2 ≤ sizeLine; decide), fun q H3 n3 s3 e3 => ?_⟩
        have nq : q ≠ D := fun z => by
          rw [z, eD] at n3
          cases n3
        refine ⟨q, rfl, ⟨_, SqT.of e3⟩, ?_⟩
        refine loop_tup (xs := [ob zl, ob zh]) (fun j H' => ∃ ms : List Int, H' D = some (.lst (ms.map V.int)) ∧ Same H H' ∧ H' q = some (.tup [ob zl, ob zh]) ∧ (∀ x ∈ ns, x ∈ ms) ∧ (∀ o ∈ [zl, zh].take j, ∀ x, o = some x → x ∈ ms) ∧ ms.length ≤ ns.length + j) ⟨ns, s3 _ _ eD, Same.trans s1 s3, e3, (fun x h => h), (fun o ho => by rw [List.take_zero] at ho; cases ho), Nat.le_refl _⟩ ?_ ?_ ?_
        · rintro j H' _ ⟨ms, _, s4, eq, _⟩
          exact SqT.of eq
        · rintro j x H4 hxj ⟨ms, eM, s4, eq, hk, ho, hml⟩
          obtain ⟨o, hoj, rfl⟩ : ∃ o, [zl, zh][j]? = some o ∧ x = ob o := by
            match j, hxj with
            | 0, h => exact ⟨zl, rfl, (Option.some.inj h).symm⟩
            | 1, h => exact ⟨zh, rfl, (Option.some.inj h).symm⟩
          have ej : [zl, zh].take (j + 1) = [zl, zh].take j ++ [o] := by
            rw [List.take_add_one, hoj]
            rfl
          have hj : j < 2 := (List.getElem?_eq_some_iff.mp hxj).1
          refine ⟨rfl, ?_⟩
          cases o with
          | none =>
            refine ⟨_, rfl, _, rfl, iteF ⟨ms, eM, s4, eq, hk, fun o ho' x e => ?_, by omega⟩⟩
            rw [ej] at ho'
            rcases List.mem_append.mp ho' with ho' | ho'
            · exact ho o ho' x e
            · rw [List.mem_singleton.mp ho'] at e
              cases e
          | some b =>
            refine ⟨_, rfl, _, rfl, iteT ⟨_, rfl, _, eM, by rw [List.length_map]; omega, ms ++ [b], ?_, same_upd s4 hD, Kept.upd _ _ nq eq, fun x hx => List.mem_append_left _ (hk x hx), fun o ho' x e => ?_, by rw [List.length_append]; exact Nat.succ_le_succ hml⟩⟩
            · rw [upd_same, List.map_append]
              rfl
            · rw [ej] at ho'
              rcases List.mem_append.mp ho' with ho' | ho'
              · exact List.mem_append_left _ (ho o ho' x e)
              · rw [List.mem_singleton.mp ho'] at e
                cases e
                exact List.mem_append_right _ List.mem_cons_self
        · rintro H4 ⟨ms, eM, s4, eq, hk, ho, hml⟩
          refine ⟨ms, eM, s4, fun z hz x e => ?_, by have : ms.length ≤ ns.length + 2 := hml; omega⟩
          rw [et] at hz
          rcases List.mem_append.mp hz with hz | hz
          · exact hk x (ha z hz x e)
          · rw [List.mem_singleton.mp hz] at e
            rcases e with e | e
            · exact ho zl List.mem_cons_self x e
            · exact ho zh (List.mem_cons_of_mem _ List.mem_cons_self) x e
      · rintro H2 ⟨ns, eD, s1, ha, hl⟩
        rw [hyl, List.take_length] at ha
        exact ⟨D, ns, rfl, s1, eD, ha, hl⟩
    rintro σ' H1 ⟨D, ns, rfl, s1, eD, ha, hl⟩
    refine ⟨_, rfl, _, rfl, D, _, rfl, .inr (SqL.of eD), ?_⟩
    have sz : ([V.int a] ++ (ns.map V.int ++ [])).length ≤ sizeLine := by
      rw [List.append_nil, List.length_append, List.length_map]
      show 1 + ns.length ≤ _
      omega
    refine ⟨sz, fun q H2 n2 s2 e2 => ?_⟩
    have e2' : H2 q = some (.lst ((a :: ns).map V.int)) := by
      rw [e2]
      show some (HO.lst (V.int a :: (ns.map V.int ++ []))) = _
      rw [List.append_nil]
      rfl
    refine ⟨q, a :: ns, rfl, SqL.of e2', Nat.succ_pos _, fun mx hm hl => ?_⟩
    refine ⟨_, rfl, _, rfl, _, _, rfl, rfl, wide_mul (p_small hp p2) hm' (by decide) (by decide) (by decide), _, _, rfl, rfl, ?_⟩
    exact k mx H2 (Same.trans s1 s2) (hl a List.mem_cons_self) fun z hz x e => hl x (List.mem_cons_of_mem _ (ha z hz x e))
theorem ok_kthIn {fd : FuncData} (F : FnP K "kth_in" sKthIn fd) (Dfar_end : Df P w K mg base 1 "far_end" ["period", "runs", "start", "many"] (spFar K)) (Dmany_in : Df P w K mg base 3 "many_in" ["period", "runs", "low", "high"] (spMany K)) : FnOk P w K mg base CX0 4 (He.ga K "kth_in") fd ["period", "runs", "index", "start"] (spKthIn K) := by
  refine F.ok KthIn (fun vs H Q E h => ?_) (fun cdv A outer s H vs Q E hr h => ?_)
  · obtain ⟨p, a, i, l, zs, rfl, _⟩ := h
    rfl
  · obtain ⟨p, a, i, l, zs, rfl, hp, p2, hi, R, hzz, k⟩ := h
    refine ⟨_, PSs.nox (pss_cons (ps_cut (ps_par (i := 4) (j := 5) (by rfl) KthIn.nd rfl rfl (by decide) rfl rfl (pa_cons (pv 3) (pa_cons (pe_df Dfar_end (hr.mono (by decide)) rfl (pa_cons (pv 0) (pa_cons (pv 1) (pa_cons (pv 3) (pa_cons (pe_op op_add (pv 2) pe_int) pa_nil))))) pa_nil)) (by rfl)))
      (pss_cons (ps_cut (ps_if (pt_cmpR op_le (pe_df Dmany_in (hr.mono (by decide)) rfl (pa_cons (pv 0) (pa_cons (pv 1) (pa_cons (pv 3) (pa_cons (pv 5) pa_nil))))) (pv 2) (nomark _)) (pss_one (ps_ret pe_non)) pss_nil))
      (pss_cons (ps_cut (ps_while PassesOwn.never (pt_cmpR op_lt (pv 4) (pv 5) (nomark _)) (pss_cons (ps_set (i := 6) KthIn.nd rfl (Or.inl rfl) (pe_op op_fdivW (pe_op op_add (pv 4) (pv 5)) pe_int))
      (pss_one (ps_if (pt_cmpR op_le (pe_df Dmany_in (hr.mono (by decide)) rfl (pa_cons (pv 0) (pa_cons (pv 1) (pa_cons (pv 3) (pa_cons (pv 6) pa_nil))))) (pv 2) (nomark _)) (pss_one (ps_set (i := 4) KthIn.nd rfl (Or.inl rfl) (pe_op op_add (pv 6) pe_int))) (pss_one (ps_set (i := 5) KthIn.nd rfl (Or.inl rfl) (pv 6))))))))
      (pss_one (ps_ret (pv 4)))))), ?_⟩
    have bi : Rn.Fit ((i : Int) + 1).natAbs := by
      rw [show ((i : Int) + 1).natAbs = i + 1 by omega]
      exact hi
    refine ⟨fun σ' H' => ∃ b : Int, σ' = [some (.int p), some (.ref l), some (.int i), some (.int a), some (.int a), some (.int (b + p * ((i : Int) + 1))), none] ∧ Same H H' ∧ a ≤ b ∧ ∀ z ∈ zs, ∀ x, z.lo = some x ∨ z.hi = some x → x ≤ b, ?_, ?_⟩
    · refine ⟨_, rfl, _, rfl, _, rfl, _, rfl, _, rfl, _, _, rfl, rfl, p, a, _, l, zs, rfl, hp, p2, bi, R, hzz, fun b H1 s1 h1 h2 => ?_⟩
      exact ⟨_, _, rfl, b, rfl, s1, h1, h2⟩
    rintro σ' H1 ⟨b, rfl, s1, hab, hb⟩
    have pk : 0 ≤ p * ((i : Int) + 1) := Int.mul_nonneg (by omega) (by omega)
    refine ⟨fun σ' H' => σ' = [some (.int p), some (.ref l), some (.int i), some (.int a), some (.int a), some (.int (b + p * ((i : Int) + 1))), none] ∧ Same H H' ∧ i < Rn.cnt (Rn.inRuns p zs) a (b + p * ((i : Int) + 1)), ?_, ?_⟩
    · refine ⟨_, rfl, _, rfl, _, rfl, _, rfl, p, a, _, l, zs, rfl, hp, p2, R.same s1, fun n H2 s2 hn => ?_⟩
      refine ⟨_, rfl, _, _, rfl, rfl, _, rfl, ite2 (fun c => ?_) fun c => ?_⟩
      · have c := of_decide_eq_true c
        exact k none H2 (Same.trans s1 s2) (Rn.kth_noR hp hb hab (by omega))
      · have c := not_of c
        exact ⟨rfl, Same.trans s1 s2, by omega⟩
    rintro σ' H2 ⟨rfl, s2, hc⟩
    refine ⟨fun σ' H' => ∃ (m : Int) (u6 : Option V), σ' = [some (.int p), some (.ref l), some (.int i), some (.int a), some (.int m), some (.int m), u6] ∧ Same H H' ∧ Rn.IsKth (Rn.inRuns p zs) a i (some m), ?_, ?_⟩
    · refine ⟨fun n σ' H' => ∃ (lo hi : Int) (u6 : Option V), n = (hi - lo).toNat ∧ σ' = [some (.int p), some (.ref l), some (.int i), some (.int a), some (.int lo), some (.int hi), u6] ∧ Same H H' ∧ a ≤ lo ∧ lo ≤ hi ∧ Rn.cnt (Rn.inRuns p zs) a (lo - 1) ≤ i ∧ i < Rn.cnt (Rn.inRuns p zs) a hi, ⟨_, a, _, none, rfl, rfl, s2, Int.le_refl _, by omega, by rw [Rn.cnt_nil (by omega)]; exact Nat.zero_le _, hc⟩, ?_⟩
      rintro n σ' H3 ⟨lo, hi', u6, rfl, rfl, s3, h1, h2, h3, h4⟩
      refine ⟨_, rfl, _, rfl, _, _, rfl, rfl, _, rfl, ite2 (fun c => ?_) fun c => ?_⟩
      · have c := of_decide_eq_true c
        refine ⟨_, fun σ' H' h => h, ?_⟩
        refine ⟨_, rfl, _, rfl, _, _, rfl, rfl, _, _, rfl, rfl, wide_div (b := 2) (by decide) (by decide) (by decide) (by decide), ?_⟩
        refine ⟨_, rfl, _, rfl, _, rfl, _, rfl, p, a, _, l, zs, rfl, hp, p2, R.same s3, fun n H4 s4 hn => ?_⟩
        refine ⟨_, rfl, _, _, rfl, rfl, _, rfl, ite2 (fun d => ?_) fun d => ?_⟩
        · have d := of_decide_eq_true d
          refine ⟨_, rfl, _, _, rfl, rfl, ?_⟩
          refine ⟨((hi' - ((lo + hi') / 2 + 1)).toNat), by omega, (lo + hi') / 2 + 1, hi', _, rfl, rfl, Same.trans s3 s4, by omega, by omega, ?_, h4⟩
          rw [show (lo + hi') / 2 + 1 - 1 = (lo + hi') / 2 by omega]
          omega
        · have d := not_of d
          refine ⟨_, rfl, ?_⟩
          exact ⟨(((lo + hi') / 2) - lo).toNat, by omega, lo, (lo + hi') / 2, _, rfl, rfl, Same.trans s3 s4, h1, by omega, h3, by omega⟩
      · have c := not_of c
        obtain rfl : lo = hi' := by omega
        exact ⟨lo, u6, rfl, s3, Rn.kth_at h1 h3 h4⟩
    rintro σ' H3 ⟨m, u6, rfl, s3, hm⟩
    exact ⟨_, rfl, k (some m) H3 s3 hm⟩
end
end TM
end

section

/-! EwCrt: common residues by two periods. -/
namespace Rn
theorem bezout : ∀ m n : Nat, ∃ x y : Int, (m : Int) * x + (n : Int) * y = (Nat.gcd m n : Int) := fun m n => by
  induction m, n using Nat.gcd.induction with
  | H0 n => exact ⟨0, 1, by rw [Nat.gcd_zero_left]; omega⟩
  | H1 m n hm ih =>
    obtain ⟨x, y, e⟩ := ih
    have h : ((n % m : Nat) : Int) = (n : Int) - (m : Int) * ((n : Int) / (m : Int)) := by
      rw [Int.natCast_emod]
      exact Int.emod_def _ _
    refine ⟨y - (n : Int) / (m : Int) * x, x, ?_⟩
    rw [Nat.gcd_rec m n, ← e, h, Int.mul_sub, Int.sub_mul, ← Int.mul_assoc]
    omega
/-- what is reckoned of two periods -/
structure Two (P q g A T f : Int) : Prop where
  hg : 0 < g
  hA : 0 < A
  hT : 0 < T
  eP : P = g * A
  eq : q = g * T
  hf : ∃ k, A * f = 1 + T * k
theorem Two.inv {m n : Nat} (hm : 0 < m) (hn : 0 < n) : ∃ x : Nat, x < n / Nat.gcd m n ∧ ((((m / Nat.gcd m n : Nat) : Int)) * (x : Int) - 1) % ((n / Nat.gcd m n : Nat) : Int) = 0 := by
  have hg : 0 < Nat.gcd m n := Nat.gcd_pos_of_pos_left _ hm
  obtain ⟨x, y, e⟩ := bezout m n
  have hT : 0 < n / Nat.gcd m n := Nat.div_pos (Nat.le_of_dvd hn (Nat.gcd_dvd_right m n)) hg
  have em : (m : Int) = (Nat.gcd m n : Int) * ((m / Nat.gcd m n : Nat) : Int) := by
    rw [← Int.natCast_mul, Nat.mul_div_cancel' (Nat.gcd_dvd_left m n)]
  have en : (n : Int) = (Nat.gcd m n : Int) * ((n / Nat.gcd m n : Nat) : Int) := by
    rw [← Int.natCast_mul, Nat.mul_div_cancel' (Nat.gcd_dvd_right m n)]
  generalize hGg : Nat.gcd m n = G at *
  generalize hAa : m / G = A at *
  generalize hTt : n / G = T at *
  have e1 : (A : Int) * x + (T : Int) * y = 1 := by
    have hG : (0 : Int) < (G : Int) := by omega
    refine Int.eq_of_mul_eq_mul_left (Int.ne_of_gt hG) ?_
    rw [Int.mul_add, ← Int.mul_assoc, ← Int.mul_assoc, ← em, ← en, e, Int.mul_one]
  have x0 := Int.emod_nonneg x (show (T : Int) ≠ 0 by omega)
  have x1 := Int.emod_lt_of_pos x (show (0 : Int) < (T : Int) by omega)
  refine ⟨(x % (T : Int)).toNat, by omega, ?_⟩
  rw [Int.toNat_of_nonneg x0]
  have h : x % (T : Int) = x - (T : Int) * (x / (T : Int)) := Int.emod_def _ _
  refine Int.emod_eq_zero_of_dvd ⟨-y - (A : Int) * (x / (T : Int)), ?_⟩
  rw [h, Int.mul_sub, Int.mul_sub, ← Int.mul_assoc (A : Int), Int.mul_comm (A : Int) (T : Int), Int.mul_assoc, Int.mul_neg]
  omega
section
variable {P q g A T f a b : Int}
/-- the residue by both -/
def both (P g T f a b : Int) : Int := a + P * (((b - a) / g * f) % T)
theorem Two.bound (h : Two P q g A T f) (a0 : 0 ≤ a) (a1 : a < P) : 0 ≤ both P g T f a b ∧ both P g T f a b < P * T := by
  have hP : 0 < P := by rw [h.eP]; exact Int.mul_pos h.hg h.hA
  have s0 := Int.emod_nonneg ((b - a) / g * f) (Int.ne_of_gt h.hT)
  have s1 := Int.emod_lt_of_pos ((b - a) / g * f) h.hT
  unfold both
  generalize ((b - a) / g * f) % T = s at *
  have h1 : P * s ≤ P * (T - 1) := Int.mul_le_mul_of_nonneg_left (by omega) (by omega)
  have h2 : 0 ≤ P * s := Int.mul_nonneg (by omega) s0
  rw [Int.mul_sub, Int.mul_one] at h1
  omega
theorem dvd_sub_of_mod {t p r : Int} (h : t % p = r) : p ∣ t - r := ⟨t / p, by have := Int.emod_def t p; omega⟩
theorem mod_of_dvd_sub {t p r : Int} (h : p ∣ t - r) (r0 : 0 ≤ r) (r1 : r < p) : t % p = r := by
  obtain ⟨k, e⟩ := h
  have : t = r + p * k := by omega
  rw [this, Int.add_mul_emod_self_left]
  exact Int.emod_eq_of_lt r0 r1
theorem Two.iff (h : Two P q g A T f) (a0 : 0 ≤ a) (a1 : a < P) (b0 : 0 ≤ b) (b1 : b < q) (hd : g ∣ b - a) (t : Int) : t % (P * T) = both P g T f a b ↔ t % P = a ∧ t % q = b := by
  obtain ⟨r0, r1⟩ := h.bound (b := b) a0 a1
  obtain ⟨k, hk⟩ := h.hf
  obtain ⟨d, hd⟩ := hd
  have ed : (b - a) / g = d := by rw [hd]; exact Int.mul_ediv_cancel_left d (Int.ne_of_gt h.hg)
  have es : ((b - a) / g * f) % T = d * f - T * (d * f / T) := by rw [ed]; exact Int.emod_def _ _
  -- the residue by q
  have key : q ∣ both P g T f a b - b := by
    refine ⟨d * k - A * (d * f / T), ?_⟩
    unfold both
    rw [es, h.eP, h.eq]
    have e1 : g * A * (d * f - T * (d * f / T)) = g * d * (A * f) - g * T * (A * (d * f / T)) := by
      rw [Int.mul_sub]
      congr 1
      · rw [Int.mul_assoc, Int.mul_assoc, ← Int.mul_assoc A, Int.mul_comm A d, Int.mul_assoc]
      · rw [Int.mul_assoc, Int.mul_assoc, ← Int.mul_assoc A, Int.mul_comm A T, Int.mul_assoc]
    have e2 : g * d * (1 + T * k) = g * d + g * T * (d * k) := by
      rw [Int.mul_add, Int.mul_one]
      congr 1
      rw [Int.mul_assoc, Int.mul_assoc, ← Int.mul_assoc d, Int.mul_comm d T, Int.mul_assoc]
    rw [e1, hk, e2, Int.mul_sub]
    omega
  have keyP : P ∣ both P g T f a b - a := ⟨((b - a) / g * f) % T, by unfold both; omega⟩
  constructor
  · intro e
    obtain ⟨m, em⟩ := dvd_sub_of_mod e
    refine ⟨mod_of_dvd_sub ?_ a0 a1, mod_of_dvd_sub ?_ b0 b1⟩
    · obtain ⟨c, ec⟩ := keyP
      refine ⟨T * m + c, ?_⟩
      rw [Int.mul_add, ← Int.mul_assoc]
      omega
    · obtain ⟨c, ec⟩ := key
      refine ⟨A * m + c, ?_⟩
      have : P * T * m = q * (A * m) := by rw [h.eP, h.eq, Int.mul_assoc, Int.mul_assoc, Int.mul_assoc, ← Int.mul_assoc A, Int.mul_comm A T, Int.mul_assoc]
      rw [Int.mul_add]
      omega
  · rintro ⟨e1, e2⟩
    refine mod_of_dvd_sub ?_ r0 r1
    obtain ⟨c1, x1⟩ := dvd_sub_of_mod e1
    obtain ⟨c2, x2⟩ := keyP
    obtain ⟨c3, x3⟩ := dvd_sub_of_mod e2
    obtain ⟨c4, x4⟩ := key
    -- t - both = P * u = q * v
    have hu : t - both P g T f a b = P * (c1 - c2) := by
      rw [Int.mul_sub]
      omega
    have hv : t - both P g T f a b = q * (c3 - c4) := by
      rw [Int.mul_sub]
      omega
    generalize c1 - c2 = u at *
    generalize c3 - c4 = v at *
    have e3 : A * u = T * v := by
      refine Int.eq_of_mul_eq_mul_left (Int.ne_of_gt h.hg) ?_
      rw [← Int.mul_assoc, ← Int.mul_assoc, ← h.eP, ← h.eq, ← hu, hv]
    -- T divides u
    have e4 : u = T * (v * f - k * u) := by
      have : u * (A * f) = u + T * (k * u) := by
        rw [hk, Int.mul_add, Int.mul_one]
        congr 1
        rw [Int.mul_comm u, Int.mul_assoc]
      have e5 : u * (A * f) = T * (v * f) := by
        rw [← Int.mul_assoc, Int.mul_comm u A, e3, Int.mul_assoc]
      rw [Int.mul_sub]
      omega
    refine ⟨v * f - k * u, ?_⟩
    rw [hu, Int.mul_assoc, ← e4]
/-- without a common residue there is no time -/
theorem Two.no (h : Two P q g A T f) {t : Int} (e1 : t % P = a) (e2 : t % q = b) : a % g = b % g := by
  rw [← e1, ← e2, h.eP, h.eq, Int.emod_emod_of_dvd _ ⟨A, rfl⟩, Int.emod_emod_of_dvd _ ⟨T, rfl⟩]
end
end Rn
end

section
set_option maxHeartbeats 4000000
namespace TM
open PySem PySem.Spec PyProof.Rows L2 EW
/-- the run of the times that are in two -/
def metOf (P g T f : Int) (z w : Rn.Run) : Option Rn.Run := Rn.runOf (P * T) (Rn.both P g T f z.r w.r) (grt z.lo w.lo) (lst z.hi w.hi)
def metRow (P g T f : Int) (z : Rn.Run) (ws : List Rn.Run) : List Rn.Run := (ws.filter fun w => decide (w.r % g = z.r % g)).filterMap (metOf P g T f z)
def met (P g T f : Int) (zs ws : List Rn.Run) : List Rn.Run := zs.flatMap fun z => metRow P g T f z ws
section
variable {P q g A T f : Int} {z w : Rn.Run} {zs ws : List Rn.Run}
theorem sub_dvd {a b g : Int} (h : b % g = a % g) : g ∣ b - a := Int.dvd_of_emod_eq_zero (Int.emod_eq_emod_iff_emod_sub_eq_zero.mp h)
theorem metOf_some (h : Rn.Two P q g A T f) (hz : Rn.Good P z) (hw : Rn.Good q w) (e : w.r % g = z.r % g) {y : Rn.Run} (hy : metOf P g T f z w = some y) : Rn.Good (P * T) y ∧ ∀ t, Rn.inRun (P * T) y t ↔ Rn.inRun P z t ∧ Rn.inRun q w t := by
  obtain ⟨r0, r1⟩ := h.bound (b := w.r) hz.r0 hz.r1
  obtain ⟨g', er, m⟩ := Rn.runOf_some r0 r1 hy
  refine ⟨g', fun t => ?_⟩
  rw [m, h.iff hz.r0 hz.r1 hw.r0 hw.r1 (sub_dvd e), grt_iff, lst_iff]
  exact ⟨fun ⟨⟨a, b⟩, ⟨c, d⟩, i, j⟩ => ⟨⟨a, c, i⟩, b, d, j⟩, fun ⟨⟨a, c, i⟩, b, d, j⟩ => ⟨⟨a, b⟩, ⟨c, d⟩, i, j⟩⟩
theorem metOf_none (h : Rn.Two P q g A T f) (hz : Rn.Good P z) (hw : Rn.Good q w) (e : w.r % g = z.r % g) (hy : metOf P g T f z w = none) (t : Int) (h1 : Rn.inRun P z t) (h2 : Rn.inRun q w t) : False := by
  obtain ⟨r0, r1⟩ := h.bound (b := w.r) hz.r0 hz.r1
  refine Rn.runOf_none r0 r1 hy t ⟨(h.iff hz.r0 hz.r1 hw.r0 hw.r1 (sub_dvd e) t).mpr ⟨h1.1, h2.1⟩, grt_iff.mpr ⟨h1.2.1, h2.2.1⟩, lst_iff.mpr ⟨h1.2.2, h2.2.2⟩⟩
theorem metRow_mem (h : Rn.Two P q g A T f) (hz : Rn.Good P z) (hw : Rn.Gds q ws) (t : Int) : Rn.inRuns (P * T) (metRow P g T f z ws) t ↔ Rn.inRun P z t ∧ Rn.inRuns q ws t := by
  constructor
  · rintro ⟨y, hy, m⟩
    obtain ⟨w, hw', e⟩ := List.mem_filterMap.mp hy
    obtain ⟨hw1, hw2⟩ := List.mem_filter.mp hw'
    have q := ((metOf_some h hz (hw.good w hw1) (of_decide_eq_true hw2) e).2 t).mp m
    exact ⟨q.1, w, hw1, q.2⟩
  · rintro ⟨m, w, hw1, m2⟩
    have e := h.no m.1 m2.1
    cases ey : metOf P g T f z w with
    | none => exact (metOf_none h hz (hw.good w hw1) e.symm ey t m m2).elim
    | some y => exact ⟨y, List.mem_filterMap.mpr ⟨w, List.mem_filter.mpr ⟨hw1, decide_eq_true e.symm⟩, ey⟩, ((metOf_some h hz (hw.good w hw1) e.symm ey).2 t).mpr ⟨m, m2⟩⟩
theorem met_mem (h : Rn.Two P q g A T f) (hz : Rn.Gds P zs) (hw : Rn.Gds q ws) (t : Int) : Rn.inRuns (P * T) (met P g T f zs ws) t ↔ Rn.inRuns P zs t ∧ Rn.inRuns q ws t := by
  constructor
  · rintro ⟨y, hy, m⟩
    obtain ⟨z, hz1, hy⟩ := List.mem_flatMap.mp hy
    have q := (metRow_mem h (hz.good z hz1) hw t).mp ⟨y, hy, m⟩
    exact ⟨⟨z, hz1, q.1⟩, q.2⟩
  · rintro ⟨⟨z, hz1, m⟩, m2⟩
    obtain ⟨y, hy, q⟩ := (metRow_mem h (hz.good z hz1) hw t).mpr ⟨m, m2⟩
    exact ⟨y, List.mem_flatMap.mpr ⟨z, hz1, hy⟩, q⟩
theorem met_gds (h : Rn.Two P q g A T f) (hz : Rn.Gds P zs) (hw : Rn.Gds q ws) : Rn.Gds (P * T) (met P g T f zs ws) := by
  refine ⟨fun y hy => ?_, ?_⟩
  · obtain ⟨z, hz1, hy⟩ := List.mem_flatMap.mp hy
    obtain ⟨w, hw', e⟩ := List.mem_filterMap.mp hy
    obtain ⟨hw1, hw2⟩ := List.mem_filter.mp hw'
    exact (metOf_some h (hz.good z hz1) (hw.good w hw1) (of_decide_eq_true hw2) e).1
  · unfold met
    rw [List.pairwise_flatMap]
    refine ⟨fun z hz1 => ?_, hz.pw.imp_of_mem fun {a b} ha hb hab x hx y hy t m1 m2 => ?_⟩
    · unfold metRow
      rw [List.pairwise_filterMap]
      refine (List.Pairwise.sublist List.filter_sublist hw.pw).imp_of_mem fun {a b} ha hb hab x hx y hy t m1 m2 => ?_
      obtain ⟨ha1, ha2⟩ := List.mem_filter.mp ha
      obtain ⟨hb1, hb2⟩ := List.mem_filter.mp hb
      exact hab t (((metOf_some h (hz.good z hz1) (hw.good a ha1) (of_decide_eq_true ha2) hx).2 t).mp m1).2 (((metOf_some h (hz.good z hz1) (hw.good b hb1) (of_decide_eq_true hb2) hy).2 t).mp m2).2
    · exact hab t ((metRow_mem h (hz.good a ha) hw t).mp ⟨x, hx, m1⟩).1 ((metRow_mem h (hz.good b hb) hw t).mp ⟨y, hy, m2⟩).1
theorem metRow_len : (metRow P g T f z ws).length ≤ ws.length := Nat.le_trans (List.length_filterMap_le _ _) (List.length_filter_le _ _)
theorem met_len : ∀ zs : List Rn.Run, (met P g T f zs ws).length ≤ zs.length * ws.length
  | [] => Nat.zero_le _
  | z :: zs => by
    have h1 := met_len zs
    have h2 := metRow_len (P := P) (g := g) (T := T) (f := f) (z := z) (ws := ws)
    show (metRow P g T f z ws ++ met P g T f zs ws).length ≤ _
    rw [List.length_append, List.length_cons, Nat.succ_mul]
    omega
end
end TM
end

section
set_option maxHeartbeats 4000000
namespace TM
open PySem PySem.Spec PyProof.Rows L2 EW
abbrev NCdiv : List Str := ["one", "other"]
theorem Cdiv : FnScope NCdiv ["one", "other"] (defScope sCdiv) := ⟨rfl, rfl, rfl, by decide +kernel, rfl, by decide +kernel, by decide +kernel⟩
abbrev NCper : List Str := ["sets", "found", "times"]
theorem Cper : FnScope NCper ["sets"] (defScope sCper) := ⟨rfl, rfl, rfl, by decide +kernel, rfl, by decide +kernel, by decide +kernel⟩
abbrev NInvOf : List Str := ["number", "modulus", "found"]
theorem InvOf : FnScope NInvOf ["number", "modulus"] (defScope sInvOf) := ⟨rfl, rfl, rfl, by decide +kernel, rfl, by decide +kernel, by decide +kernel⟩
theorem ne_no {x y : V} (h : x = y) : (!decide (x = y)) = false := by rw [decide_eq_true h]; rfl
theorem ne_yes {x y : V} (h : ¬ x = y) : (!decide (x = y)) = true := by rw [decide_eq_false h]; rfl
def spCdiv : Sp := fun vs H Q _ => ∃ m n : Nat, vs = [.int m, .int n] ∧ Q (.int (Nat.gcd m n : Int)) H
def spInvOf : Sp := fun vs H Q _ => ∃ (a m : Int) (x : Nat), vs = [.int a, .int m] ∧ 0 < a ∧ a ≤ 1000000 ∧ 0 < m ∧ m ≤ 1000000 ∧ (x : Int) < m ∧ (a * x - 1) % m = 0 ∧ ∀ f : Int, 0 ≤ f → f < m → (a * f - 1) % m = 0 → Q (.int f) H
/-- sets with these periods -/
def Pers (K : W.Frag) (H : Hp) (us : List V) (ps : List Nat) : Prop := Paired (fun u p => ∃ zs, Ob K (CT K) H u (p : Nat) zs) us ps
def spCper (K : W.Frag) : Sp := fun vs H Q _ => ∃ (l : Addr) (us : List V) (ps : List Nat), vs = [.ref l] ∧ SqT K H l us ∧ Pers K H us ps ∧ (∀ i, (ps.take i).foldl Nat.lcm 1 ≤ 1000000) ∧ Q (.int (ps.foldl Nat.lcm 1 : Nat)) H
section
variable {P : Program} {w : World} {K : W.Frag} {mg : Str → Option Value} {base : Heap}
theorem ok_cdiv {fd : FuncData} (F : FnP K "common_divisor" sCdiv fd) (T : Fre mg) : FnOk P w K mg base CX0 1 (He.ga K "common_divisor") fd ["one", "other"] spCdiv := by
  refine F.ok Cdiv (fun vs H Q E h => ?_) (fun cdv A outer s H vs Q E hr h => ?_)
  · obtain ⟨m, n, rfl, _⟩ := h
    rfl
  · obtain ⟨m, n, rfl, k⟩ := h
    refine ⟨_, PSs.nox (pss_cons (ps_while PassesOwn.never (pt_cmpR op_ne (pv 1) pe_int (nomark _)) (pss_one (ps_par (i := 0) (j := 1) (by rfl) Cdiv.nd rfl rfl (by decide) rfl rfl (pa_cons (pv 1) (pa_cons (pe_op op_mod (pe_callTy call_int1 (by rfl) T.int EW.boot_int (pa_cons (pv 0) pa_nil)) (pv 1)) pa_nil)) (by rfl))))
      (pss_one (ps_ret (pv 0)))), ?_⟩
    refine ⟨fun i σ' H' => ∃ a b : Nat, i = b ∧ σ' = [some (.int a), some (.int b)] ∧ H' = H ∧ Nat.gcd a b = Nat.gcd m n, ⟨_, m, n, rfl, rfl, rfl, rfl⟩, ?_⟩
    rintro i σ' H' ⟨a, b, rfl, rfl, rfl, e⟩
    refine ⟨_, rfl, rfl, _, rfl, ?_⟩
    by_cases hb : i = 0
    · refine iteC (ne_no (by rw [hb]; rfl)) ?_
      rw [hb, Nat.gcd_zero_right] at e
      rw [← e] at k
      exact ⟨_, rfl, k⟩
    · refine iteB (ne_yes fun z => hb (by have := V.int.inj z; omega)) ⟨_, fun σ' H' h => h, ?_⟩
      refine ⟨_, rfl, _, rfl, Or.inl ⟨_, rfl, _, rfl, _, _, rfl, rfl, (by omega : (0 : Int) < (i : Int)), _, _, rfl, ?_⟩⟩
      refine ⟨a % i, Nat.mod_lt _ (by omega), i, a % i, rfl, ?_, rfl, ?_⟩
      · rw [Int.natCast_emod]
        rfl
      · rw [Nat.gcd_comm i, ← Nat.gcd_rec, Nat.gcd_comm i]
        exact e
theorem ok_cper {fd : FuncData} (F : FnP K "common_period" sCper fd) (T : Fre mg) (KT : Kl K mg "Times") (Dcommon_divisor : Df P w K mg base 1 "common_divisor" ["one", "other"] spCdiv) : FnOk P w K mg base CX0 2 (He.ga K "common_period") fd ["sets"] (spCper K) := by
  refine F.ok Cper (fun vs H Q E h => ?_) (fun cdv A outer s H vs Q E hr h => ?_)
  · obtain ⟨l, us, ps, rfl, _⟩ := h
    rfl
  · obtain ⟨l, us, ps, rfl, hS, hP, hb, k⟩ := h
    have hlen := hP.length
    refine ⟨_, PSs.nox (pss_cons (ps_set (i := 1) Cper.nd rfl (Or.inl rfl) pe_int)
      (pss_cons (ps_for PassesOwn.never rfl (pi_tupK (K := K) rfl (pv 0)) (pg_name (i := 2) Cper.nd rfl (Or.inl rfl)) (pss_one (ps_set (i := 1) Cper.nd rfl (Or.inl rfl) (pe_op op_fdivW (pe_op op_mul (pv 1) (pe_fldK K rfl (pv 2))) (pe_df Dcommon_divisor (hr.mono (by decide)) rfl (pa_cons (pv 1) (pa_cons (pe_fldK K rfl (pv 2)) pa_nil)))))))
      (pss_one (ps_ret (pv 1))))), ?_⟩
    refine ⟨_, rfl, l, rfl, ⟨_, hS⟩, ?_⟩
    refine for_tup (K := K) (a := l) (xs := us) (fun i σ' H' => ∃ u2 : Option V, σ' = [some (.ref l), some (.int ((ps.take i).foldl Nat.lcm 1 : Nat)), u2] ∧ H' = H) ⟨_, rfl, rfl⟩ ?_ ?_ ?_
    · rintro i σ' H' _ ⟨u2, _, rfl⟩
      exact hS
    · rintro i x σ' H' hx ⟨u2, rfl, rfl⟩
      obtain ⟨p, hp, zs, a, da, la, rfl, ha, R, p1, p2⟩ := pr_get hP hx
      have hi := hb i
      have hi1 := hb (i + 1)
      have et : ps.take (i + 1) = ps.take i ++ [p] := by
        rw [List.take_add_one, hp]
        rfl
      rw [et, List.foldl_append] at hi1
      have hi1 : Nat.lcm ((ps.take i).foldl Nat.lcm 1) p ≤ 1000000 := hi1
      refine ⟨_, rfl, _, rfl, a, _, da, _, _, rfl, ha, KT.cl, KT.np, rfl, ?_⟩
      generalize hL : (ps.take i).foldl Nat.lcm 1 = L at *
      refine ⟨_, _, rfl, rfl, .inl ⟨by omega, by omega⟩, _, rfl, _, rfl, a, _, da, _, _, rfl, ha, KT.cl, KT.np, rfl, L, p, rfl, ?_⟩
      have hp1 : 1 ≤ p := by omega
      have hg : 0 < Nat.gcd L p := Nat.gcd_pos_of_pos_right _ hp1
      have hgl : Nat.gcd L p ≤ p := Nat.le_of_dvd hp1 (Nat.gcd_dvd_right L p)
      have h1024 : (2 : Nat) ^ 10 = 1024 := by decide
      have hw : ((Nat.gcd L p : Nat) : Int).natAbs < 2 ^ 10 := by omega
      refine ⟨_, _, rfl, rfl, wide_div (b := 10) (by omega) hw (by decide) (by decide), some (.ref a), ?_, rfl⟩
      rw [et, List.foldl_append, hL]
      rfl
    · rintro σ' H' ⟨u2, rfl, rfl⟩
      rw [hlen, List.take_length]
      exact ⟨_, rfl, k⟩
theorem ok_invOf {fd : FuncData} (F : FnP K "inverse_of" sInvOf fd) (T : Fre mg) : FnOk P w K mg base CX0 1 (He.ga K "inverse_of") fd ["number", "modulus"] spInvOf := by
  refine F.ok InvOf (fun vs H Q E h => ?_) (fun cdv A outer s H vs Q E hr h => ?_)
  · obtain ⟨a, m, x, rfl, _⟩ := h
    rfl
  · obtain ⟨a, m, x, rfl, a0, a1, m0, m1, hx, hxm, k⟩ := h
    refine ⟨_, PSs.nox (pss_cons (ps_set (i := 2) InvOf.nd rfl (Or.inl rfl) pe_int)
      (pss_cons (ps_while PassesOwn.never (pt_cmpR op_ne (pe_op op_mod (pe_callTy call_int1 (by rfl) T.int EW.boot_int (pa_cons (pe_op op_sub (pe_op op_mul (pv 0) (pv 2)) pe_int) pa_nil)) (pv 1)) pe_int (nomark _)) (pss_one (ps_aug (i := 2) InvOf.nd rfl (Or.inl rfl) pe_int ip_add)))
      (pss_one (ps_ret (pv 2))))), ?_⟩
    refine ⟨fun i σ' H' => ∃ f : Nat, f ≤ x ∧ i = x - f ∧ σ' = [some (.int a), some (.int m), some (.int f)] ∧ H' = H, ⟨_, 0, Nat.zero_le _, rfl, rfl, rfl⟩, ?_⟩
    rintro i σ' H' ⟨f, hf, rfl, rfl, rfl⟩
    refine ⟨_, rfl, _, rfl, _, _, rfl, rfl, .inl ⟨by omega, by omega⟩, _, _, rfl, rfl, Or.inl ⟨_, rfl, _, rfl, _, _, rfl, rfl, m0, rfl, _, rfl, ?_⟩⟩
    by_cases hb : (a * (f : Int) - 1) % m = 0
    · refine iteC (ne_no (congrArg V.int hb)) ?_
      exact ⟨_, rfl, k f (by omega) (by omega) hb⟩
    · refine iteB (ne_yes fun z => hb (V.int.inj z)) ⟨_, fun σ' H' h => h, ?_⟩
      have hne : f ≠ x := fun z => hb (z ▸ hxm)
      exact ⟨_, rfl, _, _, rfl, rfl, x - (f + 1), by omega, f + 1, by omega, rfl, rfl, rfl⟩
end
end TM
end

section
set_option maxHeartbeats 4000000
namespace TM
open PySem PySem.Spec PyProof.Rows L2 EW
abbrev NMet : List Str := ["period", "runs", "times", "shared", "turns", "groups", "found", "run", "factor", "residue", "least", "most", "other", "low", "high", "steps"]
theorem Met : FnScope NMet ["period", "runs", "times"] (defScope sMet) := ⟨rfl, rfl, rfl, by decide +kernel, rfl, by decide +kernel, by decide +kernel⟩
/-- runs by their residues by g, in lists of their own -/
structure GrpM (K : W.Frag) (H0 H : Hp) (F : Addr) (g : Int) (kvs : List (Key × V)) (ws : List Rn.Run) : Prop where
  nd : (kvs.map (·.1)).Nodup
  len : kvs.length ≤ ws.length
  no : ∀ r : Int, valV kvs (Sum.inl r : Key) = none → ∀ w ∈ ws, w.r % g ≠ r
  yes : ∀ (r : Int) (v : V), valV kvs (Sum.inl r : Key) = some v → ∃ (l : Addr) (ys : List V), v = .ref l ∧ H0 l = none ∧ l ≠ F ∧ H l = some (.lst ys) ∧ Rns K H ys (ws.filter fun w => decide (w.r % g = r))
  inj : ∀ (r r' : Int) (v : V), valV kvs (Sum.inl r : Key) = some v → valV kvs (Sum.inl r' : Key) = some v → r = r'
section
variable {K : W.Frag} {H0 H H' : Hp} {F d : Addr} {g : Int} {kvs : List (Key × V)} {ws : List Rn.Run}
theorem GrpM.nil : GrpM K H0 H F g [] [] := ⟨List.nodup_nil, Nat.le_refl _, (fun _ _ _ h => nomatch h), (fun r v h => nomatch h), fun r r' v h => nomatch h⟩
theorem GrpM.same (h : GrpM K H0 H F g kvs ws) (s : Same H H') : GrpM K H0 H' F g kvs ws :=
  ⟨h.nd, h.len, h.no, fun r v e => let ⟨l, ys, e1, e2, e3, e4, e5⟩ := h.yes r v e; ⟨l, ys, e1, e2, e3, s _ _ e4, Rns.same e5 s⟩, h.inj⟩
/-- F changes, a list -/
theorem GrpM.keptF {ys : List V} (h : GrpM K H0 H F g kvs ws) (hF : H F = some (.lst ys)) (k : EW.Kept F H H') : GrpM K H0 H' F g kvs ws :=
  ⟨h.nd, h.len, h.no, fun r v e => let ⟨l, ys, e1, e2, e3, e4, e5⟩ := h.yes r v e; ⟨l, ys, e1, e2, e3, k _ _ e3 e4, Rns.kept e5 hF k⟩, h.inj⟩
theorem filt_snoc {w : Rn.Run} {r : Int} : (ws ++ [w]).filter (fun w => decide (w.r % g = r)) = ws.filter (fun w => decide (w.r % g = r)) ++ if w.r % g = r then [w] else [] := by
  rw [List.filter_append]
  congr 1
  by_cases c : w.r % g = r
  · rw [if_pos c, List.filter_cons, if_pos (decide_eq_true c)]
    rfl
  · rw [if_neg c, List.filter_cons, if_neg (by simpa using c)]
    rfl
/-- a run by a new residue: its list q is new -/
theorem GrpM.new {w : Rn.Run} {ax q : Addr} (h : GrpM K H0 H F g kvs ws) (hd : H d = some (.dK kvs)) (hd0 : H0 d = none) (hq : H q = some (.lst [])) (hq0 : H0 q = none) (hqF : q ≠ F) (hfresh : ∀ r v, valV kvs (Sum.inl r : Key) = some v → v ≠ .ref q) (hv : valV kvs (Sum.inl (w.r % g) : Key) = none) (Sw : Sn K H (.ref ax) w.span) :
    GrpM K H0 (upd (upd H d (.dK (putK kvs (Sum.inl (w.r % g)) (.ref q)))) q (.lst ([] ++ [.ref ax]))) F g (putK kvs (Sum.inl (w.r % g)) (.ref q)) (ws ++ [w]) := by
  obtain ⟨p1, p2, p3⟩ := put_keys (k := (Sum.inl (w.r % g) : Key)) (v := .ref q) h.nd
  have ndq : d ≠ q := fun z => by
    rw [z, hq] at hd
    cases hd
  have gl := h.len
  have k1 : EW.Kept d H (upd H d (.dK (putK kvs (Sum.inl (w.r % g)) (.ref q)))) := Kept.upd
  have hq1 : (upd H d (.dK (putK kvs (Sum.inl (w.r % g)) (.ref q)))) q = some (.lst []) := by rw [upd_ne (Ne.symm ndq)]; exact hq
  have k2 : EW.Kept q (upd H d (.dK (putK kvs (Sum.inl (w.r % g)) (.ref q)))) (upd (upd H d (.dK (putK kvs (Sum.inl (w.r % g)) (.ref q)))) q (.lst ([] ++ [.ref ax]))) := Kept.upd
  have both : ∀ {vs : List V} {zs : List Rn.Run}, Rns K H vs zs → Rns K (upd (upd H d (.dK (putK kvs (Sum.inl (w.r % g)) (.ref q)))) q (.lst ([] ++ [.ref ax]))) vs zs := fun R => Rns.kept (Rns.keptD R hd k1) hq1 k2
  refine ⟨p1, by rw [List.length_append]; exact Nat.le_trans p2 (Nat.succ_le_succ gl), fun r hn x hx => ?_, fun r v hr => ?_, fun r r' v h1 h2 => ?_⟩
  · rw [valV_put] at hn
    by_cases e : (Sum.inl r : Key) = Sum.inl (w.r % g)
    · rw [if_pos e] at hn
      cases hn
    · rw [if_neg e] at hn
      rcases List.mem_append.mp hx with hx | hx
      · exact h.no r hn x hx
      · rw [List.mem_singleton.mp hx]
        exact fun c => e (by rw [c])
  · rw [valV_put] at hr
    rw [filt_snoc]
    by_cases e : (Sum.inl r : Key) = Sum.inl (w.r % g)
    · rw [if_pos e] at hr
      cases hr
      obtain rfl : r = w.r % g := Sum.inl.inj e
      refine ⟨q, [] ++ [.ref ax], rfl, hq0, hqF, upd_same, ?_⟩
      rw [if_pos rfl, List.filter_eq_nil_iff.mpr fun x hx c => h.no _ hv x hx (of_decide_eq_true c)]
      exact both (.cons Sw .nil)
    · rw [if_neg e] at hr
      obtain ⟨l, ys, e1, e2, e3, e4, e5⟩ := h.yes r v hr
      have nlq : l ≠ q := fun z => hfresh r v hr (by rw [e1, z])
      have nld : l ≠ d := fun z => by
        rw [z, hd] at e4
        cases e4
      refine ⟨l, ys, e1, e2, e3, by rw [upd_ne nlq, upd_ne nld]; exact e4, ?_⟩
      rw [if_neg fun c => e (by rw [c]), List.append_nil]
      exact both e5
  · rw [valV_put] at h1 h2
    by_cases e : (Sum.inl r : Key) = Sum.inl (w.r % g)
    · rw [if_pos e] at h1
      by_cases e' : (Sum.inl r' : Key) = Sum.inl (w.r % g)
      · exact (Sum.inl.inj e).trans (Sum.inl.inj e').symm
      · rw [if_neg e'] at h2
        exact absurd (Option.some.inj h1).symm (hfresh r' v h2)
    · rw [if_neg e] at h1
      by_cases e' : (Sum.inl r' : Key) = Sum.inl (w.r % g)
      · rw [if_pos e'] at h2
        exact absurd (Option.some.inj h2).symm (hfresh r v h1)
      · rw [if_neg e'] at h2
        exact h.inj r r' v h1 h2
/-- .. by one that is there: its list grows -/
theorem GrpM.more {w : Rn.Run} {ax l : Addr} {ys : List V} (h : GrpM K H0 H F g kvs ws) (hv : valV kvs (Sum.inl (w.r % g) : Key) = some (.ref l)) (hl : H l = some (.lst ys)) (R : Rns K H ys (ws.filter fun x => decide (x.r % g = w.r % g))) (Sw : Sn K H (.ref ax) w.span) :
    GrpM K H0 (upd H l (.lst (ys ++ [.ref ax]))) F g kvs (ws ++ [w]) := by
  refine ⟨h.nd, Nat.le_trans h.len (by rw [List.length_append]; exact Nat.le_succ _), fun r hn x hx => ?_, fun r v hr => ?_, h.inj⟩
  · rcases List.mem_append.mp hx with hx | hx
    · exact h.no r hn x hx
    · rw [List.mem_singleton.mp hx]
      rintro rfl
      rw [hv] at hn
      cases hn
  · rw [filt_snoc]
    obtain ⟨l', ys', e1, e2, e3, e4, e5⟩ := h.yes r v hr
    by_cases e : w.r % g = r
    · subst e
      rw [hv] at hr
      cases hr
      obtain rfl := V.ref.inj e1
      rw [if_pos rfl]
      exact ⟨l, ys ++ [.ref ax], rfl, e2, e3, upd_same, Rns.kept (pr_append R (.cons Sw .nil)) hl Kept.upd⟩
    · rw [if_neg e, List.append_nil]
      have nl : l' ≠ l := fun z => e (h.inj _ _ _ (by rw [hv, ← z, ← e1]) hr)
      exact ⟨l', ys', e1, e2, e3, by rw [upd_ne nl]; exact e4, Rns.kept e5 hl Kept.upd⟩
end
end TM
end

section
set_option maxHeartbeats 4000000
namespace TM
open PySem PySem.Spec PyProof.Rows L2 EW
theorem kpo {d : Addr} {H H' : Hp} (s : Same H H') : EW.Kept d H H' := fun a o _ e => s a o e
theorem two_of {P q : Nat} {f : Int} (hP : 0 < P) (hq : 0 < q) (e : (((P / Nat.gcd P q : Nat) : Int) * f - 1) % ((q / Nat.gcd P q : Nat) : Int) = 0) : Rn.Two (P : Int) (q : Int) (Nat.gcd P q : Nat) (P / Nat.gcd P q : Nat) (q / Nat.gcd P q : Nat) f := by
  have hg : 0 < Nat.gcd P q := Nat.gcd_pos_of_pos_left _ hP
  refine ⟨by omega, ?_, ?_, ?_, ?_, ?_⟩
  · have := Nat.div_pos (Nat.le_of_dvd hP (Nat.gcd_dvd_left P q)) hg
    omega
  · have := Nat.div_pos (Nat.le_of_dvd hq (Nat.gcd_dvd_right P q)) hg
    omega
  · rw [← Int.natCast_mul, Nat.mul_div_cancel' (Nat.gcd_dvd_left P q)]
  · rw [← Int.natCast_mul, Nat.mul_div_cancel' (Nat.gcd_dvd_right P q)]
  · obtain ⟨k, hk⟩ := Int.dvd_of_emod_eq_zero e
    exact ⟨k, by omega⟩
theorem lcm_eq (P q : Nat) : ((Nat.lcm P q : Nat) : Int) = (P : Int) * ((q / Nat.gcd P q : Nat) : Int) := by
  rw [← Int.natCast_mul, Nat.lcm, Nat.mul_div_assoc _ (Nat.gcd_dvd_right P q)]
def spMet (K : W.Frag) : Sp := fun vs H Q _ => ∃ (P q : Nat) (la : Addr) (zs : List Rn.Run) (u : V) (ws : List Rn.Run), vs = [.int P, .ref la, u] ∧ 0 < P ∧ P ≤ 1000000 ∧ RunsL K H la P zs ∧ Ob K (CT K) H u (q : Int) ws ∧ zs.length * ws.length ≤ 1000000 ∧
  ∀ (lt l : Addr) (rs : List Rn.Run) (H' : Hp), Same H H' → H' lt = some (.tup [.int (Nat.lcm P q : Nat), .ref l]) → RunsL K H' l (Nat.lcm P q : Nat) rs → (∀ t, Rn.inRuns (Nat.lcm P q : Nat) rs t ↔ Rn.inRuns P zs t ∧ Rn.inRuns q ws t) → rs.length ≤ zs.length * ws.length → Q (.ref lt) H'
section
variable {P : Program} {w : World} {K : W.Frag} {mg : Str → Option Value} {base : Heap}
theorem ok_met {fd : FuncData} (F : FnP K "met_runs" sMet fd) (T : Fre mg) (KT : Kl K mg "Times") (Dcommon_divisor : Df P w K mg base 1 "common_divisor" ["one", "other"] spCdiv) (Dinverse_of : Df P w K mg base 1 "inverse_of" ["number", "modulus"] spInvOf) (Drun_of : Df P w K mg base 2 "run_of" ["period", "residue", "least", "most"] spRunOf) (Dgreater_of : Df P w K mg base 1 "greater_of" ["one", "other"] (spTwo grt)) (Dlesser_of : Df P w K mg base 1 "lesser_of" ["one", "other"] (spTwo lst)) :
    FnOk P w K mg base CX0 3 (He.ga K "met_runs") fd ["period", "runs", "times"] (spMet K) := by
  refine F.ok Met (fun vs H Q E h => ?_) (fun cdv A outer s H vs Q E hr h => ?_)
  · obtain ⟨P, q, la, zs, u, ws, rfl, _⟩ := h
    rfl
  · obtain ⟨N, q, la, zs, u, ws, rfl, hN, hN6, ⟨ys, hY, Ry, cz, hzl⟩, ⟨a, da, lw, rfl, ha, ⟨yw, hW, Rw, cw, hwl⟩, q1, q2⟩, hzw, k⟩ := h
    have hq : 0 < q := by omega
    have hg : 0 < Nat.gcd N q := Nat.gcd_pos_of_pos_left _ hN
    have hgq : Nat.gcd N q ≤ q := Nat.le_of_dvd hq (Nat.gcd_dvd_right N q)
    have hT : 0 < q / Nat.gcd N q := Nat.div_pos hgq hg
    have hTq : q / Nat.gcd N q ≤ q := Nat.div_le_self _ _
    have hA : 0 < N / Nat.gcd N q := Nat.div_pos (Nat.le_of_dvd hN (Nat.gcd_dvd_left N q)) hg
    have hAN : N / Nat.gcd N q ≤ N := Nat.div_le_self _ _
    have h1024 : (2 : Nat) ^ 10 = 1024 := by decide
    have wd : ∀ i : Int, CDivW i ((Nat.gcd N q : Nat) : Int) := fun i => wide_div (b := 10) (by omega) (by omega) (by decide) (by decide)
    obtain ⟨x0, hx0, hx1⟩ := Rn.Two.inv hN hq
    have el := lcm_eq N q
    refine ⟨_, PSs.nox (pss_cons (ps_cut (ps_set (i := 3) Met.nd rfl (Or.inl rfl) (pe_df Dcommon_divisor (hr.mono (by decide)) rfl (pa_cons (pv 0) (pa_cons (pe_fldK K rfl (pv 2)) pa_nil)))))
      (pss_cons (ps_cut (ps_par3 (i := 4) (j := 5) (l := 6) (by rfl) Met.nd rfl rfl rfl (by decide) (by decide) (by decide) rfl rfl rfl (pa_cons (pe_op op_fdivW (pe_fldK K rfl (pv 2)) (pv 3)) (pa_cons pe_dnewS (pa_cons (pe_lstS pa_nil) pa_nil))) (by rfl)))
      (pss_cons (ps_cut (ps_for PassesOwn.never rfl (pi_tupK (K := K) rfl (pe_fldK K rfl (pv 2))) (pg_name (i := 7) Met.nd rfl (Or.inl rfl)) (pss_one (ps_expr (pe_bm PySem.F.plainAttrs_list PySem.F.slot_list_append PySem.F.type_list_append mt_append (pe_dsetd (pv 5) (pe_op op_mod (pe_callTy call_int1 (by rfl) T.int EW.boot_int (pa_cons (pe_ix (ix_tupK K rfl) (pv 7) pe_int (fun _ _ => rfl)) pa_nil)) (pv 3)) (pe_lstS pa_nil) ⟨rfl, rfl, rfl, rfl⟩) (pa_cons (pv 7) pa_nil))))))
      (pss_cons (ps_cut (ps_set (i := 8) Met.nd rfl (Or.inl rfl) (pe_df Dinverse_of (hr.mono (by decide)) rfl (pa_cons (pe_op op_fdivW (pv 0) (pv 3)) (pa_cons (pv 4) pa_nil)))))
      (pss_cons (ps_cut (ps_for PassesOwn.never rfl (pi_listK (K := K) rfl (pv 1)) (pg_tup rfl (pgs_cons (pg_name (i := 9) Met.nd rfl (Or.inl rfl)) (pgs_cons (pg_name (i := 10) Met.nd rfl (Or.inl rfl)) (pgs_cons (pg_name (i := 11) Met.nd rfl (Or.inl rfl)) pgs_nil)))) (pss_one (ps_for PassesOwn.never rfl (pi_listK (K := K) rfl (pe_dget2 hr.u1 (pv 5) (pe_op op_mod (pe_callTy call_int1 (by rfl) T.int EW.boot_int (pa_cons (pv 9) pa_nil)) (pv 3)) (pe_lstS pa_nil) ⟨rfl, rfl, rfl, rfl⟩)) (pg_tup rfl (pgs_cons (pg_name (i := 12) Met.nd rfl (Or.inl rfl)) (pgs_cons (pg_name (i := 13) Met.nd rfl (Or.inl rfl)) (pgs_cons (pg_name (i := 14) Met.nd rfl (Or.inl rfl)) pgs_nil)))) (pss_cons (ps_cut (ps_set (i := 15) Met.nd rfl (Or.inl rfl) (pe_op op_mod (pe_callTy call_int1 (by rfl) T.int EW.boot_int (pa_cons (pe_op op_mul (pe_op op_fdivW (pe_op op_sub (pv 12) (pv 9)) (pv 3)) (pv 8)) pa_nil)) (pv 4))))
      (pss_cons (ps_cut (ps_set (i := 7) Met.nd rfl (Or.inl rfl) (pe_df Drun_of (hr.mono (by decide)) rfl (pa_cons (pe_op op_mul (pv 0) (pv 4)) (pa_cons (pe_op op_add (pv 9) (pe_op op_mul (pv 0) (pv 15))) (pa_cons (pe_df Dgreater_of (hr.mono (by decide)) rfl (pa_cons (pv 10) (pa_cons (pv 13) pa_nil))) (pa_cons (pe_df Dlesser_of (hr.mono (by decide)) rfl (pa_cons (pv 11) (pa_cons (pv 14) pa_nil))) pa_nil)))))))
      (pss_one (ps_if (pt_cmp (pc_notN (pv 7))) (pss_one (ps_expr (pe_bm PySem.F.plainAttrs_list PySem.F.slot_list_append PySem.F.type_list_append mt_append (pv 6) (pa_cons (pv 7) pa_nil)))) pss_nil))))))))
      (pss_one (ps_ret (pe_tupS (pa_cons (pe_op op_mul (pv 0) (pv 4)) (pa_cons (pv 6) pa_nil)))))))))), ?_⟩
    refine ⟨fun σ' H' => σ' = [some (.int N), some (.ref la), some (.ref a), some (.int (Nat.gcd N q : Nat)), none, none, none, none, none, none, none, none, none, none, none, none] ∧ H' = H, ?_, ?_⟩
    · exact ⟨_, rfl, _, rfl, a, _, da, _, _, rfl, ha, KT.cl, KT.np, rfl, N, q, rfl, rfl, rfl⟩
    rintro σ' H' ⟨rfl, rfl⟩
    generalize hgg : Nat.gcd N q = g at *
    generalize hTT : q / g = Tn at *
    refine ⟨fun σ' H1 => ∃ d F, σ' = [some (.int N), some (.ref la), some (.ref a), some (.int g), some (.int Tn), some (.ref d), some (.ref F), none, none, none, none, none, none, none, none, none] ∧ Same H' H1 ∧ H1 d = some (.dK []) ∧ H1 F = some (.lst []) ∧ H' d = none ∧ H' F = none ∧ d ≠ F, ?_, ?_⟩
    · refine ⟨_, rfl, a, _, da, _, _, rfl, ha, KT.cl, KT.np, rfl, _, rfl, _, _, rfl, rfl, wd _, fun d H2 n2 s2 e2 => ⟨(by show 0 ≤ sizeLine; decide), fun F H3 n3 s3 e3 => ?_⟩⟩
      refine ⟨_, _, _, rfl, d, F, ?_, Same.trans s2 s3, s3 _ _ e2, e3, n2, ?_, ne_of_none e2 n3⟩
      · rw [← hTT]
        rfl
      · cases e : H' F with
        | none => rfl
        | some o => rw [s2 _ _ e] at n3; cases n3
    rintro σ' H1 ⟨d, F, rfl, s1, ed, eF, nd, nF, hdF⟩
    refine ⟨fun σ' H2 => ∃ (u7 : Option V) (kvs : List (Key × V)), σ' = [some (.int N), some (.ref la), some (.ref a), some (.int g), some (.int Tn), some (.ref d), some (.ref F), u7, none, none, none, none, none, none, none, none] ∧ Same H' H2 ∧ H2 d = some (.dK kvs) ∧ H2 F = some (.lst []) ∧ GrpM K H' H2 F g kvs ws, ?_, ?_⟩
    · have hlw := Rw.length
      refine ⟨_, rfl, a, _, da, _, _, rfl, s1 _ _ ha, KT.cl, KT.nr, rfl, lw, rfl, ⟨_, SqT.same hW s1⟩, ?_⟩
      refine for_tup (K := K) (a := lw) (xs := yw) (fun i σ' H2 => ∃ (u7 : Option V) (kvs : List (Key × V)), σ' = [some (.int N), some (.ref la), some (.ref a), some (.int g), some (.int Tn), some (.ref d), some (.ref F), u7, none, none, none, none, none, none, none, none] ∧ Same H' H2 ∧ H2 d = some (.dK kvs) ∧ H2 F = some (.lst []) ∧ GrpM K H' H2 F g kvs (ws.take i)) ⟨_, _, rfl, s1, ed, eF, by rw [List.take_zero]; exact GrpM.nil⟩ ?_ ?_ ?_
      · rintro i σ' H2 _ ⟨u7, kvs, _, s2, _⟩
        exact SqT.same hW s2
      · rintro i x σ' H2 hx ⟨u7, kvs, rfl, s2, ed2, eF2, G⟩
        obtain ⟨w, hw, Sx⟩ := pr_get Rw hx
        have Sx2 := Tp.same Sx s2
        obtain ⟨ax, rfl, hX⟩ := id Sx2
        have hi : i < ws.length := (List.getElem?_eq_some_iff.mp hw).1
        have et : ws.take (i + 1) = ws.take i ++ [w] := by
          rw [List.take_add_one, hw]
          rfl
        have hkl : kvs.length < sizeLine := by
          have := G.len
          rw [List.length_take] at this
          have hbig : (10000000 : Nat) < sizeLine := by decide
          omega
        have hfl := List.length_filter_le (fun x : Rn.Run => decide (x.r % (g : Int) = w.r % (g : Int))) (ws.take i)
        rw [List.length_take] at hfl
        have hbig : (10000000 : Nat) < sizeLine := by decide
        refine ⟨_, rfl, d, rfl, .inl ⟨kvs, .inl ed2⟩, _, rfl, ax, _, _, _, rfl, rfl, hX, rfl, Or.inl ⟨_, rfl, _, rfl, _, _, rfl, rfl, (by omega : (0 : Int) < (g : Int)), (by show 0 ≤ sizeLine; decide), fun qn H3 n3 s3 e3 => ⟨kvs, (Sum.inl (w.r % (g : Int)) : Key), s3 _ _ ed2, rfl, hkl, fun v hv => ?_, fun hv => ?_⟩⟩⟩
        · obtain ⟨l, ys', rfl, g1, g2, g3, g4⟩ := G.yes _ _ hv
          have G3 := G.same s3
          have hl3 := g4.length
          refine ⟨Or.inl ⟨rfl, _, SqL.of (s3 _ _ g3)⟩, _, rfl, l, ys', _, rfl, rfl, s3 _ _ g3, by omega, ?_⟩
          have nld : d ≠ l := fun z => by
            rw [z, g3] at ed2
            cases ed2
          refine ⟨_, kvs, rfl, fun c o hc => ?_, by rw [upd_ne nld]; exact s3 _ _ ed2, by rw [upd_ne (Ne.symm g2)]; exact s3 _ _ eF2, ?_⟩
          · rw [upd_ne (ne_of_none hc g1)]
            exact s3 _ _ (s2 _ _ hc)
          · rw [et]
            exact G3.more hv (s3 _ _ g3) (Rns.same g4 s3) (Tp.same Sx2 s3)
        · have n3' : H' qn = none := by
            cases e : H' qn with
            | none => rfl
            | some o => rw [s2 _ _ e] at n3; cases n3
          have nqd : qn ≠ d := (ne_of_none ed2 n3).symm
          have nqF : qn ≠ F := (ne_of_none eF2 n3).symm
          refine ⟨Or.inl ⟨rfl, _, SqL.of (xs := []) (by rw [upd_ne nqd]; exact e3)⟩, _, rfl, qn, [], _, rfl, rfl, by rw [upd_ne nqd]; exact e3, (by show 0 < sizeLine; decide), ?_⟩
          refine ⟨_, _, rfl, fun c o hc => ?_, by rw [upd_ne (Ne.symm nqd), upd_same], by rw [upd_ne (Ne.symm nqF), upd_ne (Ne.symm hdF)]; exact s3 _ _ eF2, ?_⟩
          · rw [upd_ne (ne_of_none hc n3'), upd_ne (ne_of_none hc nd)]
            exact s3 _ _ (s2 _ _ hc)
          · rw [et]
            refine (G.same s3).new (s3 _ _ ed2) nd e3 n3' nqF (fun r v hr z => ?_) hv (Tp.same Sx2 s3)
            obtain ⟨l, ys', e1, _, _, g3, _⟩ := G.yes r v hr
            rw [z] at e1
            cases e1
            rw [n3] at g3
            cases g3
      · rintro σ' H2 ⟨u7, kvs, rfl, s2, ed2, eF2, G⟩
        rw [hlw, List.take_length] at G
        exact ⟨u7, kvs, rfl, s2, ed2, eF2, G⟩
    rintro σ' H2 ⟨u7, kvs, rfl, s2, ed2, eF2, G⟩
    -- factor
    refine ⟨fun σ' H3 => ∃ f : Int, σ' = [some (.int N), some (.ref la), some (.ref a), some (.int g), some (.int Tn), some (.ref d), some (.ref F), u7, some (.int f), none, none, none, none, none, none, none] ∧ H3 = H2 ∧ 0 ≤ f ∧ f < Tn ∧ Rn.Two (N : Int) (q : Int) g (N / g : Nat) Tn f, ?_, ?_⟩
    · refine ⟨_, rfl, _, rfl, _, _, rfl, rfl, wd _, _, rfl, ((N / g : Nat) : Int), Tn, x0, ?_, by omega, by omega, by omega, by omega, by omega, hx1, fun f f0 f1 fe => ⟨f, rfl, rfl, f0, f1, ?_⟩⟩
      · rw [Int.natCast_ediv]
        rfl
      · have q := two_of hN hq (by rw [hgg, hTT]; exact fe)
        rw [hgg, hTT] at q
        exact q
    rintro σ' H3 ⟨f, rfl, rfl, f0, f1, two⟩
    have hbig : (10000000 : Nat) < sizeLine := by decide
    have hyl := Ry.length
    have hl2 := (met_len (P := N) (g := g) (T := Tn) (f := f) (ws := ws) zs)
    refine ⟨fun σ' H2 => ∃ (u7 u9 u10 u11 u12 u13 u14 u15 : Option V) (acc : List V), σ' = [some (.int N), some (.ref la), some (.ref a), some (.int g), some (.int Tn), some (.ref d), some (.ref F), u7, some (.int f), u9, u10, u11, u12, u13, u14, u15] ∧ EW.Kept F H3 H2 ∧ H2 F = some (.lst acc) ∧ Rns K H2 acc (met N g Tn f zs ws), ?_, ?_⟩
    · have hY3 := s2 _ _ hY
      have nlF : la ≠ F := fun z => by
        rw [z, nF] at hY
        cases hY
      refine ⟨_, rfl, la, rfl, ⟨_, SqL.of hY3⟩, ?_⟩
      refine for_list (K := K) (a := la) (xs := ys) (fun i σ' H2 => ∃ (u7 u9 u10 u11 u12 u13 u14 u15 : Option V) (acc : List V), σ' = [some (.int N), some (.ref la), some (.ref a), some (.int g), some (.int Tn), some (.ref d), some (.ref F), u7, some (.int f), u9, u10, u11, u12, u13, u14, u15] ∧ EW.Kept F H3 H2 ∧ H2 F = some (.lst acc) ∧ Rns K H2 acc (met N g Tn f (zs.take i) ws)) ⟨_, _, _, _, _, _, _, _, [], rfl, EW.Kept.refl _ _, eF2, by rw [List.take_zero]; exact .nil⟩ ?_ ?_ ?_
      · rintro i σ' H2 _ ⟨_, _, _, _, _, _, _, _, _, _, k2, _⟩
        exact SqL.of (k2 _ _ nlF hY3)
      · rintro i x σ' H2 hx ⟨u7, u9, u10, u11, u12, u13, u14, u15, acc, rfl, k2, eF2', R2⟩
        obtain ⟨z, hz, Sx⟩ := pr_get Ry hx
        have mz := List.mem_of_getElem? hz
        have gz := cz.good z mz
        have hi : i < zs.length := (List.getElem?_eq_some_iff.mp hz).1
        have et : zs.take (i + 1) = zs.take i ++ [z] := by
          rw [List.take_add_one, hz]
          rfl
        have em : met N g Tn f (zs.take (i + 1)) ws = met N g Tn f (zs.take i) ws ++ metRow N g Tn f z ws := by
          rw [et]
          unfold met
          rw [List.flatMap_append, List.flatMap_cons, List.flatMap_nil, List.append_nil]
        obtain ⟨ax, rfl, hX⟩ := Tp.kept (Tp.same Sx s2) eF2 k2
        have ed2' := k2 _ _ hdF ed2
        have G2 := G.keptF eF2 k2
        refine ⟨ax, _, rfl, hX, rfl, _, _, rfl, _, _, rfl, _, _, rfl, rfl, ?_⟩
        refine ⟨_, rfl, d, rfl, .inl ⟨kvs, .inl ed2'⟩, _, rfl, Or.inl ⟨_, rfl, _, rfl, _, _, rfl, rfl, (by omega : (0 : Int) < (g : Int)), (by show 0 ≤ sizeLine; decide), fun qn H5 n5 s5 e5 => ⟨_, DGet.k (k := (Sum.inl (z.r % (g : Int)) : Key)) (s5 _ _ ed2'), ?_⟩⟩⟩
        have k5 : EW.Kept F H3 H5 := k2.trans (kpo s5)
        have nqF : qn ≠ F := (ne_of_none eF2' n5).symm
        obtain ⟨L, ws0, eL, hL, nLF, RL⟩ : ∃ (L : Addr) (ws0 : List V), (valV kvs (Sum.inl (z.r % (g : Int)) : Key)).getD (.ref qn) = .ref L ∧ H5 L = some (.lst ws0) ∧ L ≠ F ∧ Rns K H5 ws0 (ws.filter fun w => decide (w.r % (g : Int) = z.r % (g : Int))) := by
          cases hv : valV kvs (Sum.inl (z.r % (g : Int)) : Key) with
          | none =>
            refine ⟨qn, [], rfl, e5, nqF, ?_⟩
            rw [List.filter_eq_nil_iff.mpr fun x hx c => G2.no _ hv x hx (of_decide_eq_true c)]
            exact .nil
          | some v =>
            obtain ⟨l, ys', rfl, g1, g2, g3, g4⟩ := G2.yes _ _ hv
            exact ⟨l, ys', rfl, s5 _ _ g3, g2, Rns.same g4 s5⟩
        rw [eL]
        have hwl := RL.length
        have hfl := List.length_filter_le (fun w : Rn.Run => decide (w.r % (g : Int) = z.r % (g : Int))) ws
        refine ⟨L, rfl, ⟨_, SqL.of hL⟩, ?_⟩
        have eF5 := s5 _ _ eF2'
        have R5 := Rns.same R2 s5
        have hacc := R2.length
        refine for_list (K := K) (a := L) (xs := ws0) (fun j σ' H6 => ∃ (u7 u12 u13 u14 u15 : Option V) (more : List V), σ' = [some (.int N), some (.ref la), some (.ref a), some (.int g), some (.int Tn), some (.ref d), some (.ref F), u7, some (.int f), some (.int z.r), some (ob z.lo), some (ob z.hi), u12, u13, u14, u15] ∧ EW.Kept F H5 H6 ∧ H6 F = some (.lst (acc ++ more)) ∧ Rns K H6 more (((ws.filter fun w => decide (w.r % (g : Int) = z.r % (g : Int))).take j).filterMap (metOf N g Tn f z)) ∧ more.length ≤ j) ⟨_, _, _, _, _, [], rfl, EW.Kept.refl _ _, by rw [List.append_nil]; exact eF5, by rw [List.take_zero]; exact .nil, Nat.le_refl _⟩ ?_ ?_ ?_
        · rintro j σ' H6 _ ⟨_, _, _, _, _, _, _, k6, _⟩
          exact SqL.of (k6 _ _ nLF hL)
        · rintro j x σ' H6 hx' ⟨u7, u12, u13, u14, u15, more, rfl, k6, eF6, R6, hml⟩
          obtain ⟨w, hw, Sw⟩ := pr_get RL hx'
          have mw := List.mem_filter.mp (List.mem_of_getElem? hw)
          have gw := cw.good w mw.1
          have ew := of_decide_eq_true mw.2
          have hj : j < ws0.length := (List.getElem?_eq_some_iff.mp hx').1
          have ej : (ws.filter fun w => decide (w.r % (g : Int) = z.r % (g : Int))).take (j + 1) = (ws.filter fun w => decide (w.r % (g : Int) = z.r % (g : Int))).take j ++ [w] := by
            rw [List.take_add_one, hw]
            rfl
          obtain ⟨aw, rfl, hXw⟩ := Tp.kept Sw eF5 k6
          obtain ⟨b0, b1⟩ := two.bound (b := w.r) gz.r0 gz.r1
          have g10 : (g : Int).natAbs < 2 ^ 10 := by omega
          refine ⟨aw, _, rfl, hXw, rfl, _, _, rfl, _, _, rfl, _, _, rfl, rfl, ?_⟩
          -- steps
          refine ⟨fun σ' H7 => σ' = [some (.int N), some (.ref la), some (.ref a), some (.int g), some (.int Tn), some (.ref d), some (.ref F), u7, some (.int f), some (.int z.r), some (ob z.lo), some (ob z.hi), some (.int w.r), some (ob w.lo), some (ob w.hi), some (.int (((w.r - z.r) / g * f) % Tn))] ∧ H7 = H6, ?_, ?_⟩
          · exact ⟨_, rfl, _, rfl, _, _, rfl, rfl, _, rfl, _, _, rfl, rfl, wd _, _, rfl, _, _, rfl, rfl, .inr ⟨by omega, by omega⟩, Or.inl ⟨_, rfl, _, rfl, _, _, rfl, rfl, (by omega : (0 : Int) < (Tn : Int)), rfl, rfl⟩⟩
          rintro σ' H7 ⟨rfl, rfl⟩
          -- run
          refine ⟨fun σ' H8 => ∃ v, σ' = [some (.int N), some (.ref la), some (.ref a), some (.int g), some (.int Tn), some (.ref d), some (.ref F), some v, some (.int f), some (.int z.r), some (ob z.lo), some (ob z.hi), some (.int w.r), some (ob w.lo), some (ob w.hi), some (.int (((w.r - z.r) / g * f) % Tn))] ∧ Same H7 H8 ∧ ((v = .non ∧ metOf N g Tn f z w = none) ∨ ∃ (q : Addr) (y : Rn.Run), v = .ref q ∧ Sn K H8 v y.span ∧ metOf N g Tn f z w = some y), ?_, ?_⟩
          · refine ⟨_, rfl, _, rfl, _, _, rfl, rfl, .inl ⟨by omega, by omega⟩, _, rfl, _, rfl, _, rfl, _, _, rfl, rfl, .inl ⟨by omega, by omega⟩, _, _, rfl, rfl, _, rfl, _, rfl, z.lo, w.lo, rfl, _, rfl, _, rfl, z.hi, w.hi, rfl, (N : Int) * Tn, Rn.both N g Tn f z.r w.r, grt z.lo w.lo, lst z.hi w.hi, rfl, Int.mul_pos (by omega) (by omega), ?_⟩
            show NewRun _ (metOf N g Tn f z w) _
            cases e : metOf N g Tn f z w with
            | none => exact fun H8 s8 => ⟨_, rfl, s8, .inl ⟨rfl, rfl⟩⟩
            | some y => exact fun q' H8 n8 s8 e8 => ⟨_, rfl, s8, .inr ⟨q', y, rfl, Tp.of e8, rfl⟩⟩
          rintro σ' H8 ⟨v, rfl, s8, h⟩
          have eF8 := s8 _ _ eF6
          have R8 := Rns.same R6 s8
          have hm := R6.length
          have hlen8 : (acc ++ more).length < sizeLine := by
            have h1 : (met N g Tn f (zs.take i) ws).length ≤ _ := met_len (zs.take i)
            have h2 : ((zs.take i).length + 1) * ws.length ≤ zs.length * ws.length := Nat.mul_le_mul_right _ (by rw [List.length_take]; omega)
            rw [Nat.succ_mul] at h2
            rw [List.length_append]
            omega
          refine ⟨_, rfl, _, rfl, ?_⟩
          rcases h with ⟨rfl, e⟩ | ⟨q', y, rfl, Sy, e⟩
          · refine iteF ⟨_, _, _, _, _, more, rfl, k6.trans (kpo s8), eF8, ?_, by omega⟩
            rw [ej, List.filterMap_append, List.filterMap_cons, e, List.filterMap_nil, List.append_nil]
            exact R8
          · refine iteT ⟨_, rfl, Or.inl ⟨rfl, _, SqL.of eF8⟩, _, rfl, F, _, _, rfl, rfl, eF8, hlen8, ?_⟩
            refine ⟨_, _, _, _, _, more ++ [.ref q'], rfl, k6.trans ((kpo s8).trans Kept.upd), by rw [upd_same, List.append_assoc], ?_, by rw [List.length_append]; exact Nat.succ_le_succ hml⟩
            rw [ej, List.filterMap_append, List.filterMap_cons, e, List.filterMap_nil]
            exact Rns.kept (pr_append R8 (.cons Sy .nil)) eF8 Kept.upd
        · rintro σ' H6 ⟨u7, u12, u13, u14, u15, more, rfl, k6, eF6, R6, hml⟩
          rw [hwl, List.take_length] at R6
          refine ⟨_, _, _, _, _, _, _, _, acc ++ more, rfl, k5.trans k6, eF6, ?_⟩
          rw [em]
          exact pr_append (Rns.kept R5 eF5 k6) R6
      · rintro σ' H2 ⟨u7, u9, u10, u11, u12, u13, u14, u15, acc, rfl, k2, eF2', R2⟩
        rw [hyl, List.take_length] at R2
        exact ⟨_, _, _, _, _, _, _, _, acc, rfl, k2, eF2', R2⟩
    rintro σ' H4 ⟨u7, u9, u10, u11, u12, u13, u14, u15, acc, rfl, k4, eF4, R4⟩
    have hal := R4.length
    have sH : Same H' H4 := fun c o hc => k4 _ _ (ne_of_none hc nF) (s2 _ _ hc)
    refine ⟨_, rfl, _, rfl, _, _, rfl, rfl, .inl ⟨by omega, by omega⟩, _, rfl, (by show 2 ≤ sizeLine; decide), fun lt H5 n5 s5 e5 => ?_⟩
    refine k lt F (met N g Tn f zs ws) H5 (Same.trans sH s5) (by rw [el]; exact e5) ⟨acc, s5 _ _ eF4, Rns.same R4 s5, ?_, by omega⟩ (fun t => ?_) hl2
    · rw [el]
      exact met_gds two cz (cw.gds (by omega))
    · rw [el]
      exact met_mem two cz (cw.gds (by omega)) t
end
end TM
end

section
set_option maxHeartbeats 4000000
namespace TM
open PySem PySem.Spec PyProof.Rows L2 EW
abbrev NCom : List Str := ["sets", "period", "runs", "times"]
theorem Com : FnScope NCom ["sets"] (defScope sCom) := ⟨rfl, rfl, rfl, by decide +kernel, rfl, by decide +kernel, by decide +kernel⟩
abbrev NReqS : List Str := ["sets", "times"]
theorem ReqS : FnScope NReqS ["sets"] (defScope sReqS) := ⟨rfl, rfl, rfl, by decide +kernel, rfl, by decide +kernel, by decide +kernel⟩
abbrev NMeetA : List Str := ["start", "sets", "period", "runs"]
theorem MeetA : FnScope NMeetA ["start", "sets"] (defScope sMeetA) := ⟨rfl, rfl, rfl, by decide +kernel, rfl, by decide +kernel, by decide +kernel⟩
abbrev NKthM : List Str := ["start", "index", "sets", "period", "runs"]
theorem KthM : FnScope NKthM ["start", "index", "sets"] (defScope sKthM) := ⟨rfl, rfl, rfl, by decide +kernel, rfl, by decide +kernel, by decide +kernel⟩
/-- a set: its period, a bound of its runs, its members -/
structure St where
  q : Nat
  n : Nat
  M : Int → Prop
abbrev Sts (K : W.Frag) (H : Hp) (us : List V) (ss : List St) : Prop := Paired (fun u s => Has K H u (s.q : Int) s.M s.n) us ss
def lcms (ss : List St) : Nat := ss.foldl (fun a s => Nat.lcm a s.q) 1
def prods (ss : List St) : Nat := ss.foldl (fun a s => a * s.n) 1
def Comm (ss : List St) (t : Int) : Prop := ∀ s ∈ ss, s.M t
/-- small enough, whatever was taken -/
def Small (ss : List St) : Prop := ∀ i, lcms (ss.take i) ≤ 1000000 ∧ prods (ss.take i) ≤ 1000000
theorem Sts.same {K : W.Frag} {H H' : Hp} {us : List V} {ss : List St} (h : Sts K H us ss) (s : Same H H') : Sts K H' us ss := Paired.mono (fun _ _ q => Has.same q s) h
theorem lcms_snoc {ss : List St} {s : St} : lcms (ss ++ [s]) = Nat.lcm (lcms ss) s.q := by
  unfold lcms
  rw [List.foldl_append]
  rfl
theorem prods_snoc {ss : List St} {s : St} : prods (ss ++ [s]) = prods ss * s.n := by
  unfold prods
  rw [List.foldl_append]
  rfl
theorem comm_snoc {ss : List St} {s : St} {t : Int} : Comm (ss ++ [s]) t ↔ Comm ss t ∧ s.M t := by
  constructor
  · intro h
    exact ⟨fun x hx => h x (List.mem_append_left _ hx), h s (List.mem_append_right _ List.mem_cons_self)⟩
  · rintro ⟨h1, h2⟩ x hx
    rcases List.mem_append.mp hx with hx | hx
    · exact h1 x hx
    · rw [List.mem_singleton.mp hx]
      exact h2
def spCom (K : W.Frag) : Sp := fun vs H Q _ => ∃ (l : Addr) (us : List V) (ss : List St), vs = [.ref l] ∧ SqT K H l us ∧ Sts K H us ss ∧ Small ss ∧
  ∀ (lt lr : Addr) (rs : List Rn.Run) (H' : Hp), Same H H' → H' lt = some (.tup [.int (lcms ss : Nat), .ref lr]) → RunsL K H' lr (lcms ss : Nat) rs → (∀ t, Rn.inRuns (lcms ss : Nat) rs t ↔ Comm ss t) → rs.length ≤ 1000000 → Q (.ref lt) H'
def spReqS (K : W.Frag) : Sp := fun vs H Q _ => ∃ (l : Addr) (us : List V) (ss : List St), vs = [.ref l] ∧ SqT K H l us ∧ Sts K H us ss ∧ Small ss ∧ us.length ≤ 1000 ∧ ∀ H', Same H H' → Q .non H'
def spMeetA (K : W.Frag) : Sp := fun vs H Q _ => ∃ (t : Int) (l : Addr) (us : List V) (ss : List St), vs = [.int t, .ref l] ∧ SqT K H l us ∧ Sts K H us ss ∧ Small ss ∧ us.length ≤ 1000 ∧ ∀ (o : Option Int) (H' : Hp), Same H H' → Rn.IsNext (Comm ss) t o → Q (ob o) H'
def spKthM (K : W.Frag) : Sp := fun vs H Q _ => ∃ (t : Int) (i : Nat) (l : Addr) (us : List V) (ss : List St), vs = [.int t, .int i, .ref l] ∧ Rn.Fit (i + 1) ∧ SqT K H l us ∧ Sts K H us ss ∧ Small ss ∧ us.length ≤ 1000 ∧ ∀ (o : Option Int) (H' : Hp), Same H H' → Rn.IsKth (Comm ss) t i o → Q (ob o) H'
theorem lcms_pos : ∀ {ss : List St}, (∀ s ∈ ss, 1 ≤ s.q) → 1 ≤ lcms ss := fun {ss} h => by
  unfold lcms
  have : ∀ (l : List St) (a : Nat), 1 ≤ a → (∀ s ∈ l, 1 ≤ s.q) → 1 ≤ l.foldl (fun a s => Nat.lcm a s.q) a := fun l => by
    induction l with
    | nil => exact fun a ha _ => ha
    | cons s l ih => exact fun a ha hl => ih _ (Nat.lcm_pos ha (hl s List.mem_cons_self)) fun x hx => hl x (List.mem_cons_of_mem _ hx)
  exact this ss 1 (Nat.le_refl _) h
section
variable {P : Program} {w : World} {K : W.Frag} {mg : Str → Option Value} {base : Heap}
theorem ok_com {fd : FuncData} (F : FnP K "common_in" sCom fd) (Dmet_runs : Df P w K mg base 3 "met_runs" ["period", "runs", "times"] (spMet K)) : FnOk P w K mg base CX0 4 (He.ga K "common_in") fd ["sets"] (spCom K) := by
  refine F.ok Com (fun vs H Q E h => ?_) (fun cdv A outer s H vs Q E hr h => ?_)
  · obtain ⟨l, us, ss, rfl, _⟩ := h
    rfl
  · obtain ⟨l, us, ss, rfl, hS, hU, hB, k⟩ := h
    have hlen := hU.length
    have hper : ∀ s ∈ ss, 1 ≤ s.q := fun s hs => by
      obtain ⟨j, hj⟩ := List.getElem?_of_mem hs
      have hj2 := (List.getElem?_eq_some_iff.mp hj).1
      obtain ⟨y, hy, q⟩ := pr_get hU (List.getElem?_eq_getElem (show j < us.length by omega))
      rw [hj] at hy
      obtain rfl := Option.some.inj hy
      have := q.per.1
      omega
    refine ⟨_, PSs.nox (pss_cons (ps_par (i := 1) (j := 2) (by rfl) Com.nd rfl rfl (by decide) rfl rfl (pa_cons pe_int (pa_cons (pe_lstS (pa_cons (pe_tupS (pa_cons pe_int (pa_cons pe_non (pa_cons pe_non pa_nil)))) pa_nil)) pa_nil)) (by rfl))
      (pss_cons (ps_for PassesOwn.never rfl (pi_tupK (K := K) rfl (pv 0)) (pg_name (i := 3) Com.nd rfl (Or.inl rfl)) (pss_one (ps_asg (pe_df Dmet_runs (hr.mono (by decide)) rfl (pa_cons (pv 1) (pa_cons (pv 2) (pa_cons (pv 3) pa_nil)))) (pg_tup rfl (pgs_cons (pg_name (i := 1) Com.nd rfl (Or.inl rfl)) (pgs_cons (pg_name (i := 2) Com.nd rfl (Or.inl rfl)) pgs_nil))))))
      (pss_one (ps_ret (pe_tupS (pa_cons (pv 1) (pa_cons (pv 2) pa_nil))))))), ?_⟩
    refine ⟨(by show 3 ≤ sizeLine; decide), fun q1 H1 n1 s1 e1 => ⟨(by show 1 ≤ sizeLine; decide), fun q2 H2 n2 s2 e2 => ⟨_, _, rfl, ?_⟩⟩⟩
    have s12 := Same.trans s1 s2
    refine ⟨_, rfl, l, rfl, ⟨_, SqT.same hS s12⟩, ?_⟩
    refine for_tup (K := K) (a := l) (xs := us) (fun i σ' H' => ∃ (lr : Addr) (rs : List Rn.Run) (u3 : Option V), σ' = [some (.ref l), some (.int (lcms (ss.take i) : Nat)), some (.ref lr), u3] ∧ Same H H' ∧ RunsL K H' lr (lcms (ss.take i) : Nat) rs ∧ (∀ t, Rn.inRuns (lcms (ss.take i) : Nat) rs t ↔ Comm (ss.take i) t) ∧ rs.length ≤ prods (ss.take i)) ⟨q2, [⟨0, none, none⟩], _, rfl, s12, ⟨_, e2, .cons (Tp.same (Tp.of e1) s2) .nil, ⟨fun z hz => ?_, List.pairwise_singleton ..⟩, (by show 1 ≤ _; omega)⟩, fun t => ?_, by rw [List.take_zero]; exact Nat.le_refl _⟩ ?_ ?_ ?_
    · rw [List.mem_singleton.mp hz]
      exact ⟨Int.le_refl _, by rw [List.take_zero]; decide, (fun l e => nomatch e), (fun l e => nomatch e), fun l m e => nomatch e⟩
    · rw [List.take_zero]
      refine ⟨(fun _ s hs => nomatch hs), fun _ => ⟨_, List.mem_cons_self, ?_, (fun l e => nomatch e), fun l e => nomatch e⟩⟩
      show t % ((1 : Nat) : Int) = 0
      omega
    · rintro i σ' H' _ ⟨lr, rs, u3, _, s3, _⟩
      exact SqT.same hS s3
    · rintro i x σ' H3 hx ⟨lr, rs, u3, rfl, s3, R, hm, hl⟩
      obtain ⟨s, hs, hx⟩ := pr_get hU hx
      have et : ss.take (i + 1) = ss.take i ++ [s] := by
        rw [List.take_add_one, hs]
        rfl
      obtain ⟨b1, b2⟩ := hB i
      obtain ⟨c1, c2⟩ := hB (i + 1)
      obtain ⟨ws, ox, mx, lx⟩ := hx.same s3
      have hmul : rs.length * ws.length ≤ prods (ss.take i) * s.n := Nat.mul_le_mul hl lx
      rw [et, prods_snoc] at c2
      have hpos : 1 ≤ lcms (ss.take i) := lcms_pos fun y hy => by
        have := hper y (List.mem_of_mem_take hy)
        omega
      refine ⟨_, rfl, _, rfl, _, rfl, lcms (ss.take i), s.q, lr, rs, x, ws, rfl, by omega, b1, R, ox, by omega, fun lt l' rs' H4 s4 e4 R4 m4 l4 => ?_⟩
      refine ⟨lt, _, rfl, SqT.of e4, rfl, _, _, rfl, _, _, rfl, rfl, ?_⟩
      refine ⟨l', rs', _, by rw [et, lcms_snoc]; rfl, Same.trans s3 s4, by rw [et, lcms_snoc]; exact R4, fun t => ?_, by rw [et, prods_snoc]; omega⟩
      rw [et, lcms_snoc, comm_snoc, m4, hm, mx]
    · rintro σ' H3 ⟨lr, rs, u3, rfl, s3, R, hm, hl⟩
      have b2 := (hB us.length).2
      rw [hlen, List.take_length] at R hm hl b2
      rw [hlen, List.take_length]
      exact ⟨_, rfl, _, rfl, (by show 2 ≤ sizeLine; decide), fun lt H4 n4 s4 e4 => k lt lr rs H4 (Same.trans s3 s4) e4 (R.same s4) hm (by omega)⟩
theorem ok_reqS {fd : FuncData} (F : FnP K "require_sets" sReqS fd) (T : Fre mg) (gM : ∃ t, mg "MAX_COMMON" = some (.int 1000000 t)) (KT : Kl K mg "Times") (I : Isi K) (Dcommon_period : Df P w K mg base 2 "common_period" ["sets"] (spCper K)) : FnOk P w K mg base CX0 3 (He.ga K "require_sets") fd ["sets"] (spReqS K) := by
  refine F.ok ReqS (fun vs H Q E h => ?_) (fun cdv A outer s H vs Q E hr h => ?_)
  · obtain ⟨l, us, ss, rfl, _⟩ := h
    rfl
  · obtain ⟨l, us, ss, rfl, hS, hU, hB, hz, k⟩ := h
    have hlen := hU.length
    obtain ⟨tk, gM⟩ := gM
    refine ⟨_, PSs.nox (pss_cons (ps_if (PW.pt (pw_or (pt_not (pt_val (pe_callB (call_isiE K rfl) (by rfl) T.isinstance EW.boot_isinstance (pa_cons (pv 0) (pa_cons (pe_bltn (v := .ty "tuple") rfl T.tuple EW.boot_tuple rfl) pa_nil))))) (pw_or1 (pt_not (pt_val (pe_callB (cr_allK K rfl rfl) (by rfl) T.all EW.boot_all (pa_cons (pe_lc (own := [("times", 1)]) (g := gName 1) (tt := tYes) (by rfl) ReqS.nd (pi_tupK (K := K) rfl (pv 0)) (blkOk_by (own := [("times", 1)]) (N := NReqS) (sc := defScope sReqS) (by decide +kernel)) (fun _ _ _ _ _ => (pg_name (i := 1) ReqS.nd rfl (Or.inl rfl))) (fun _ _ _ _ _ => pts_nil) (fun _ _ _ _ _ => (pe_callB (call_isiE K rfl) (by rfl) T.isinstance EW.boot_isinstance (pa_cons (pv 1) (pa_cons (pe_glob (v := .ref (He.ga K "Times")) rfl KT.g rfl) pa_nil))))) pa_nil))))))) (pss_one ps_never) pss_nil)
      (pss_one (ps_if (pt_cmpR op_gt (pe_df Dcommon_period (hr.mono (by decide)) rfl (pa_cons (pv 0) pa_nil)) (pe_glob (v := .int 1000000) rfl gM ⟨tk, rfl⟩) (nomark _)) (pss_one ps_never) pss_nil))), ?_⟩
    refine ⟨_, rfl, _, _, _, _, true, rfl, .ty "tuple", tyT hS, kit_ty kb4, _, rfl, iteF ?_⟩
    refine ⟨_, rfl, l, rfl, ⟨_, hS⟩, fun D hD => ?_⟩
    have hbig : (1000 : Nat) < sizeLine := by decide
    refine loop_tup (xs := us) (fun i H' => H' D = some (.lst ((List.replicate i true).map V.bl)) ∧ Same H H') ⟨upd_same, upd_new hD⟩ ?_ ?_ ?_
    · rintro i H' _ ⟨_, s1⟩
      exact SqT.same hS s1
    · rintro i x H1 hx ⟨hDa, s1⟩
      obtain ⟨y, hy, zs, ⟨a, da, la, rfl, ha, _⟩, _⟩ := pr_get hU hx
      have hi : i < us.length := (List.getElem?_eq_some_iff.mp hx).1
      refine ⟨rfl, _, rfl, _, _, _, _, true, rfl, .own _, KT.ty (s1 _ _ ha), I.tt, _, hDa, ?_, ?_, same_upd s1 hD⟩
      · rw [List.length_map, List.length_replicate]
        omega
      · rw [upd_same, List.replicate_succ', List.map_append]
        rfl
    · rintro H1 ⟨hDa, s1⟩
      refine ⟨D, _, rfl, SqL.of hDa, _, rfl, ?_⟩
      have e : (List.replicate us.length true).all id = true := List.all_eq_true.mpr fun b hb => (List.mem_replicate.mp hb).2
      rw [e]
      refine iteF ?_
      have em : ∀ l : List St, (l.map St.q).foldl Nat.lcm 1 = lcms l := fun l => by
        unfold lcms
        rw [List.foldl_map]
      refine ⟨_, rfl, l, us, ss.map St.q, rfl, SqT.same hS s1, ?_, fun i => ?_, _, _, rfl, rfl, _, rfl, ?_⟩
      · have : ∀ {us : List V} {ss : List St}, Sts K H us ss → Pers K H1 us (ss.map St.q) := fun {us ss} h => by
          induction h with
          | nil => exact .nil
          | cons h _ ih => exact .cons (let ⟨zs, o, _⟩ := h; ⟨zs, o.same s1⟩) ih
        exact this hU
      · rw [← List.map_take, em]
        exact (hB i).1
      · have b := (hB us.length).1
        rw [hlen, List.take_length] at b
        rw [em]
        exact iteC (decide_eq_false (by omega)) (k H1 s1)
theorem ok_meetA {fd : FuncData} (F : FnP K "meet_all" sMeetA fd) (Drequire_integer : Df P w K mg base 2 "require_integer" ["value"] spReqI) (Drequire_sets : Df P w K mg base 3 "require_sets" ["sets"] (spReqS K)) (Dcommon_in : Df P w K mg base 4 "common_in" ["sets"] (spCom K)) (Dnext_in : Df P w K mg base 3 "next_in" ["period", "runs", "time"] (spNext K)) :
    FnOk P w K mg base CX0 5 (He.ga K "meet_all") fd ["start", "sets"] (spMeetA K) := by
  refine F.ok MeetA (fun vs H Q E h => ?_) (fun cdv A outer s H vs Q E hr h => ?_)
  · obtain ⟨t, l, us, ss, rfl, _⟩ := h
    rfl
  · obtain ⟨t, l, us, ss, rfl, hS, hU, hB, hz, k⟩ := h
    refine ⟨_, PSs.nox (pss_cons (ps_expr (pe_df Drequire_integer (hr.mono (by decide)) rfl (pa_cons (pv 0) pa_nil)))
      (pss_cons (ps_expr (pe_df Drequire_sets (hr.mono (by decide)) rfl (pa_cons (pv 1) pa_nil)))
      (pss_cons (ps_asg (pe_df Dcommon_in (hr.mono (by decide)) rfl (pa_cons (pv 1) pa_nil)) (pg_tup rfl (pgs_cons (pg_name (i := 2) MeetA.nd rfl (Or.inl rfl)) (pgs_cons (pg_name (i := 3) MeetA.nd rfl (Or.inl rfl)) pgs_nil))))
      (pss_one (ps_ret (pe_df Dnext_in (hr.mono (by decide)) rfl (pa_cons (pv 2) (pa_cons (pv 3) (pa_cons (pv 0) pa_nil))))))))), ?_⟩
    refine ⟨_, rfl, t, rfl, ?_⟩
    refine ⟨_, rfl, l, us, ss, rfl, hS, hU, hB, hz, fun H1 s1 => ?_⟩
    refine ⟨_, rfl, l, us, ss, rfl, SqT.same hS s1, hU.same s1, hB, fun lt lr rs H2 s2 e2 R2 m2 l2 => ?_⟩
    refine ⟨lt, _, rfl, SqT.of e2, rfl, _, _, rfl, _, _, rfl, rfl, ?_⟩
    have hpos : 0 < lcms ss := lcms_pos fun s hs => by
      obtain ⟨j, hj⟩ := List.getElem?_of_mem hs
      have hj2 := (List.getElem?_eq_some_iff.mp hj).1
      have hlen := hU.length
      obtain ⟨y, hy, q⟩ := pr_get hU (List.getElem?_eq_getElem (show j < us.length by omega))
      rw [hj] at hy
      obtain rfl := Option.some.inj hy
      have := q.per.1
      omega
    exact ⟨_, rfl, _, rfl, _, rfl, (lcms ss : Nat), t, lr, rs, rfl, by omega, R2, fun o H3 s3 ho => k o H3 (Same.trans s1 (Same.trans s2 s3)) (ho.congr m2)⟩
theorem ok_kthM {fd : FuncData} (F : FnP K "kth_meeting" sKthM fd) (Dis_integer : Df P w K mg base 1 "is_integer" ["value"] (spIsInt K)) (Drequire_integer : Df P w K mg base 2 "require_integer" ["value"] spReqI) (Drequire_sets : Df P w K mg base 3 "require_sets" ["sets"] (spReqS K)) (Dcommon_in : Df P w K mg base 4 "common_in" ["sets"] (spCom K)) (Dkth_in : Df P w K mg base 4 "kth_in" ["period", "runs", "index", "start"] (spKthIn K)) :
    FnOk P w K mg base CX0 5 (He.ga K "kth_meeting") fd ["start", "index", "sets"] (spKthM K) := by
  refine F.ok KthM (fun vs H Q E h => ?_) (fun cdv A outer s H vs Q E hr h => ?_)
  · obtain ⟨t, i, l, us, ss, rfl, _⟩ := h
    rfl
  · obtain ⟨t, i, l, us, ss, rfl, hi, hS, hU, hB, hz, k⟩ := h
    refine ⟨_, PSs.nox (pss_cons (ps_expr (pe_df Drequire_integer (hr.mono (by decide)) rfl (pa_cons (pv 0) pa_nil)))
      (pss_cons (ps_if (PW.pt (pw_or (pt_not (pt_val (pe_df Dis_integer (hr.mono (by decide)) rfl (pa_cons (pv 1) pa_nil)))) (pw_or1 (pt_cmpR op_lt (pv 1) pe_int (nomark _))))) (pss_one ps_never) pss_nil)
      (pss_cons (ps_expr (pe_df Drequire_sets (hr.mono (by decide)) rfl (pa_cons (pv 2) pa_nil)))
      (pss_cons (ps_asg (pe_df Dcommon_in (hr.mono (by decide)) rfl (pa_cons (pv 2) pa_nil)) (pg_tup rfl (pgs_cons (pg_name (i := 3) KthM.nd rfl (Or.inl rfl)) (pgs_cons (pg_name (i := 4) KthM.nd rfl (Or.inl rfl)) pgs_nil))))
      (pss_one (ps_ret (pe_df Dkth_in (hr.mono (by decide)) rfl (pa_cons (pv 3) (pa_cons (pv 4) (pa_cons (pv 1) (pa_cons (pv 0) pa_nil))))))))))), ?_⟩
    refine ⟨_, rfl, t, rfl, ?_⟩
    refine ⟨_, rfl, .int i, _, true, false, rfl, .base (.int _), rfl, (fun _ => rfl), _, rfl, iteF ?_⟩
    refine ⟨_, rfl, _, _, rfl, rfl, _, rfl, iteC (decide_eq_false (by omega)) ?_⟩
    refine ⟨_, rfl, l, us, ss, rfl, hS, hU, hB, hz, fun H1 s1 => ?_⟩
    refine ⟨_, rfl, l, us, ss, rfl, SqT.same hS s1, hU.same s1, hB, fun lt lr rs H2 s2 e2 R2 m2 l2 => ?_⟩
    refine ⟨lt, _, rfl, SqT.of e2, rfl, _, _, rfl, _, _, rfl, rfl, ?_⟩
    have hpos : 0 < lcms ss := lcms_pos fun s hs => by
      obtain ⟨j, hj⟩ := List.getElem?_of_mem hs
      have hj2 := (List.getElem?_eq_some_iff.mp hj).1
      have hlen := hU.length
      obtain ⟨y, hy, q⟩ := pr_get hU (List.getElem?_eq_getElem (show j < us.length by omega))
      rw [hj] at hy
      obtain rfl := Option.some.inj hy
      have := q.per.1
      omega
    have hle := (hB us.length).1
    rw [hU.length, List.take_length] at hle
    exact ⟨_, rfl, _, rfl, _, rfl, _, rfl, (lcms ss : Nat), t, i, lr, rs, rfl, by omega, by omega, hi, R2, by omega, fun o H3 s3 ho => k o H3 (Same.trans s1 (Same.trans s2 s3)) (ho.congr m2)⟩
end
end TM
end

section
set_option maxHeartbeats 4000000
namespace TM
open PySem PySem.Spec PyProof.Rows L2 EW
abbrev NMeet : List Str := ["start", "sets"]
theorem Meet : FnScope NMeet ["start", "sets"] (defScope sMeet) := ⟨rfl, rfl, rfl, by decide +kernel, rfl, by decide +kernel, by decide +kernel⟩
def spMeet (K : W.Frag) : Sp := fun vs H Q E => ∃ ws rest, vs = ws ++ rest ∧ ws.length = (["start"] : List Str).length ∧ rest.length ≤ sizeLine ∧ ∀ p, H p = Option.none → spMeetA K (ws ++ [V.ref p]) (upd H p (.tup rest)) Q E
theorem meet_binds (kV doc pm : Value) (an : Option Addr) (cdv ct : Value) : ∀ us rest : List Value, us.length = (["start"] : List Str).length → bindArgs (W.fnOf "meet" "meet" (defArgs sMeet) (defBody sMeet) (defScope sMeet) .none kV doc pm an cdv ct) ⟨us ++ rest, []⟩ = (newTuple rest >>= fun t => pure ((["start"] : List Str).zip us ++ [(("sets" : Str), t)])) :=
  StX.bind_star1 (B := fun l => bindArgs (W.fnOf "meet" "meet" (defArgs sMeet) (defBody sMeet) (defScope sMeet) .none kV doc pm an cdv ct) ⟨l, []⟩) (fun _ => rfl) (fun _ _ _ => rfl)
section
variable {P : Program} {w : World} {K : W.Frag} {mg : Str → Option Value} {base : Heap}
theorem ok_meet {fd : FuncData} (F : FnP K "meet" sMeet fd) (Dmeet_all : Df P w K mg base 5 "meet_all" ["start", "sets"] (spMeetA K)) : FnR P w K mg base CX0 6 (He.ga K "meet") (spMeet K) := by
  obtain ⟨oc, od, dV, kV, doc, pm, an, cdv, ct, osl, rfl, lk, hcd, hD, _⟩ := F.ex
  have hdV : dV = .none := by
    rcases hD with ⟨_, e⟩ | ⟨e, _⟩
    · exact e
    · exact absurd rfl e
  subst hdV
  refine StX.fn_star (ps := ["start"]) (pv := "sets") lk hcd Meet StX.cxUp_none (meet_binds kV doc pm an cdv ct) fun A outer s H vs Q E hr h => ?_
  refine ⟨_, PSs.nox (pss_one (ps_ret (pe_df Dmeet_all (hr.mono (by decide)) rfl (pa_cons (pv 0) (pa_cons (pv 1) pa_nil))))), ?_⟩
  obtain ⟨t, l, us, ss, rfl, r⟩ := h
  exact ⟨_, rfl, _, rfl, t, l, us, ss, rfl, r⟩
end
theorem hMeet {K : W.Frag} {H : Hp} {Q : VK} {t : Int} {us : List V} {ss : List St} (hU : Sts K H us ss) (hB : Small ss) (hz : us.length ≤ 1000) (k : ∀ (o : Option Int) (H' : Hp), Same H H' → Rn.IsNext (Comm ss) t o → Q (ob o) H') : spMeet K (.int t :: us) H Q E0 := by
  refine ⟨[.int t], us, rfl, rfl, Nat.le_trans hz (by decide), fun p hp => ?_⟩
  have s1 : Same H (upd H p (.tup us)) := upd_new hp
  exact ⟨t, p, us, ss, rfl, SqT.of upd_same, hU.same s1, hB, hz, fun o H' s h => k o H' (Same.trans s1 s) h⟩
end TM
end

section
set_option maxHeartbeats 4000000
namespace TM
open PySem PySem.Spec PyProof.Rows L2 EW
/-! ### the draws -/
theorem bits58 : (Builtin.Int.intBits ((10 : Int) ^ (58 : Int).toNat) : Int) * 11 ≤ 2 ^ 27 := by decide +kernel
abbrev MOD : Int := ((10 : Int) ^ (58 : Int).toNat) ^ (11 : Int).toNat
theorem mod_pos : 0 < MOD := by decide +kernel
theorem mod_lt : MOD < 2 ^ 2200 := by decide +kernel
theorem great_ok (n : Int) : 0 ≤ n % MOD ∧ n % MOD < 2 ^ 2200 := ⟨Int.emod_nonneg _ (Int.ne_of_gt mod_pos), Int.lt_trans (Int.emod_lt_of_pos _ mod_pos) mod_lt⟩
theorem two_ok {q one c : Int} (p0 : 0 ≤ q) (p1 : q < 36028797018963913) (o0 : 0 ≤ one) (o1 : one < 72057594037927931) (h0 : 0 ≤ c) (h1 : c ≤ 2000000) : (q * one + 15485863 * c).natAbs < 2 ^ 130 := by
  have t1 : q * one ≤ 36028797018963913 * 72057594037927931 := Int.mul_le_mul (by omega) (by omega) o0 (by decide)
  have t0 : 0 ≤ q * one := Int.mul_nonneg p0 o0
  omega
def spDice (K : W.Frag) : Sp := fun vs H Q _ => ∃ (a : Addr) (ns : List Int) (s : Int), vs = [.ref a, .int s] ∧ SqL K H a (ns.map V.int) ∧ 0 ≤ s ∧
  ∀ (d : Addr) (H' : Hp), H d = none → Same H H' → Dc H' d 0 → Q (.ref d) H'
def spRoll : Sp := fun vs H Q _ => ∃ (d : Addr) (m n : Int), vs = [.ref d, .int m] ∧ Dc H d n ∧ n ≤ 1000000 ∧ 0 < m ∧ m < 2 ^ 200 ∧
  ∀ (r : Int) (H' : Hp), 0 ≤ r → r < m → Kept d H H' → Dc H' d (n + 1) → Q (.int r) H'
abbrev NDice : List Str := ["_law_script", "_law_spot", "_law_cell", "_law_great", "_law_blend"]
theorem Dice : FnScope NDice ["_law_script", "_law_spot"] (defScope sDice) := ⟨rfl, rfl, rfl, by decide +kernel, rfl, by decide +kernel, by decide +kernel⟩
abbrev NRoll : List Str := ["_law_dice_here", "_law_many", "_law_found", "_law_one", "_law_two"]
theorem Roll : FnScope NRoll ["_law_dice_here", "_law_many"] (defScope sRoll) := ⟨rfl, rfl, rfl, by decide +kernel, rfl, by decide +kernel, by decide +kernel⟩
abbrev NPick : List Str := ["_law_dice_here", "_law_items"]
theorem Pick : FnScope NPick ["_law_dice_here", "_law_items"] (defScope sPick) := ⟨rfl, rfl, rfl, by decide +kernel, rfl, by decide +kernel, by decide +kernel⟩
theorem sqL_kept {K : W.Frag} {H H' : Hp} {l d : Addr} {xs : List V} (h : SqL K H l xs) (n : l ≠ d) (k : EW.Kept d H H') : SqL K H' l xs := by
  rcases h with (h | ⟨o, h⟩) | h
  · exact .inl (.inl (k _ _ n h))
  · exact .inl (.inr ⟨o, k _ _ n h⟩)
  · exact .inr h
def spPick (K : W.Frag) : Sp := fun vs H Q _ => ∃ (d l : Addr) (xs : List V) (n : Int), vs = [.ref d, .ref l] ∧ Dc H d n ∧ n ≤ 1000000 ∧ SqL K H l xs ∧ l ≠ d ∧ 0 < xs.length ∧ xs.length < 1000 ∧
  ∀ (v : V) (H' : Hp), v ∈ xs → EW.Kept d H H' → Dc H' d (n + 1) → Q v H'
section
variable {P : Program} {w : World} {K : W.Frag} {mg : Str → Option Value} {base : Heap}
/-- what stands behind the drawn cell -/
theorem dice_end {H : Hp} {Q : VK} {great bl : Int} (k : ∀ (d : Addr) (H' : Hp), H d = none → Same H H' → Dc H' d 0 → Q (.ref d) H') (hg : 0 ≤ great ∧ great < 2 ^ 2200) (d : Addr) (hd : H d = none) (m : Int) (hm : m = if great - 10 ^ (18 : Int).toNat > 0 then great - 10 ^ (18 : Int).toNat else 0) :
    Q (.ref d) (upd H d (.lst [.int m, .int (bl % 2305843009213693907), .int 0])) := by
  refine k d _ hd (fun b o e => by rw [upd_ne (ne_of_none e hd)]; exact e) ⟨m, bl % 2305843009213693907, 0, upd_same, ?_, ?_, Int.emod_nonneg _ (by decide), ?_, Int.le_refl _, Int.le_refl _⟩
  · rw [hm]
    split <;> omega
  · have z : (0 : Int) ≤ 10 ^ (18 : Int).toNat := by decide +kernel
    have z2 : (0 : Int) < 2 ^ 2200 := by decide +kernel
    rw [hm]
    split <;> omega
  · have z := Int.emod_lt_of_pos bl (show (0 : Int) < 2305843009213693907 by decide)
    omega
theorem ok_dice {fd : FuncData} (F : FnP K "_law_dice" sDice fd) (T : Fre mg) : FnOk P w K mg base CX0 1 (He.ga K "_law_dice") fd ["_law_script", "_law_spot"] (spDice K) := by
  refine F.ok Dice (fun vs H Q E h => ?_) (fun cdv A outer s H vs Q E hr h => ?_)
  · obtain ⟨a, ns, s, rfl, _⟩ := h
    rfl
  · obtain ⟨a, ns, sp, rfl, hS, h0, k⟩ := h
    refine ⟨_, PSs.nox (pss_cons (ps_set (i := 2) Dice.nd rfl (Or.inl rfl) (pe_op op_add (pe_op op_mul pe_int (pv 1)) pe_int))
      (pss_cons (ps_if (pt_cmpR op_lt (pv 1) (pe_callB (call_lenK K rfl) (by rfl) T.len PySem.boot_len (pa_cons (pv 0) pa_nil)) (nomark _)) (pss_one (ps_set (i := 2) Dice.nd rfl (Or.inl rfl) (pe_ix (ix_listK K rfl) (pv 0) (pv 1) (fun _ _ => rfl)))) pss_nil)
      (pss_cons (ps_set (i := 3) Dice.nd rfl (Or.inl rfl) (pe_op op_mod (pe_callTy call_int1 (by rfl) T.int EW.boot_int (pa_cons (pe_callB call_abs (by rfl) T.abs EW.boot_abs (pa_cons (pv 2) pa_nil)) pa_nil)) (pe_op op_powW (pe_op op_pow pe_int pe_int) pe_int)))
      (pss_cons (ps_set (i := 4) Dice.nd rfl (Or.inl rfl) (pe_op op_mul (pe_op op_mod (pe_callTy call_int1 (by rfl) T.int EW.boot_int (pa_cons (pv 3) pa_nil)) pe_int) pe_int))
      (pss_cons (ps_set (i := 4) Dice.nd rfl (Or.inl rfl) (pe_op op_add (pe_op op_add (pe_op op_add (pv 4) (pe_op op_mul pe_int (pv 1))) (pe_op op_mul pe_int (pe_callTy call_int1 (by rfl) T.int EW.boot_int (pa_cons (pe_cmpR op_lt (pv 2) pe_int (nomark _)) pa_nil)))) pe_int))
      (pss_one (ps_ret (pe_lst (pa_cons (pe_callB (call_max2 rfl) (by rfl) T.max EW.boot_max (pa_cons pe_int (pa_cons (pe_op op_sub (pv 3) (pe_op op_pow pe_int pe_int)) pa_nil))) (pa_cons (pe_op op_mod (pe_callTy call_int1 (by rfl) T.int EW.boot_int (pa_cons (pv 4) pa_nil)) pe_int) (pa_cons pe_int pa_nil))))))))))), ?_⟩
    refine ⟨_, rfl, _, _, rfl, rfl, .inl ⟨by decide, by decide⟩, _, _, rfl, rfl, ?_⟩
    refine ⟨_, rfl, _, rfl, _, (ns.map V.int).length, rfl, Or.inl ⟨_, hS, rfl⟩, _, _, rfl, rfl, _, rfl, ?_⟩
    refine ite2 (fun c => ?_) (fun c => ?_)
    · have c' : sp < ((ns.map V.int).length : Int) := of_decide_eq_true c
      rw [List.length_map] at c'
      obtain ⟨j, rfl⟩ : ∃ j : Nat, sp = (j : Int) := ⟨sp.toNat, by omega⟩
      have hj : j < ns.length := by omega
      have ej : (ns.map V.int)[j]? = some (V.int ns[j]) := by
        rw [List.getElem?_map, List.getElem?_eq_getElem hj]
        rfl
      refine ⟨_, rfl, _, rfl, a, _, _, _, rfl, rfl, hS, atI_nat ej, ?_⟩
      refine ⟨_, rfl, _, rfl, Or.inl ⟨_, rfl, _, _, rfl, rfl, ⟨by decide, by decide, by decide⟩, _, _, rfl, rfl, ⟨by decide, bits58⟩, _, _, rfl, rfl, mod_pos, ?_⟩⟩
      refine ⟨_, rfl, Or.inl ⟨_, rfl, _, _, rfl, rfl, (by show (0 : Int) < 2305843009213693921; decide), _, _, rfl, rfl, .inr ⟨by decide, by decide⟩, ?_⟩⟩
      refine ⟨_, rfl, _, rfl, _, _, rfl, rfl, .inl ⟨by decide, by decide⟩, _, _, rfl, rfl, _, rfl, _, _, rfl, rfl, Or.inr ⟨_, rfl, _, _, rfl, rfl, .inl ⟨by decide, by decide⟩, _, _, rfl, rfl, _, _, rfl, rfl, ?_⟩⟩
      refine ⟨_, rfl, _, _, rfl, rfl, ⟨by decide, by decide, by decide⟩, _, _, rfl, rfl, _, _, rfl, ?_⟩
      refine ⟨_, rfl, Or.inl ⟨_, rfl, _, _, rfl, rfl, (by show (0 : Int) < 2305843009213693907; decide), (by show 3 ≤ sizeLine; decide), fun d hd => ?_⟩⟩
      exact dice_end k (great_ok _) d hd _ rfl
    · refine ⟨_, rfl, _, rfl, Or.inl ⟨_, rfl, _, _, rfl, rfl, ⟨by decide, by decide, by decide⟩, _, _, rfl, rfl, ⟨by decide, bits58⟩, _, _, rfl, rfl, mod_pos, ?_⟩⟩
      refine ⟨_, rfl, Or.inl ⟨_, rfl, _, _, rfl, rfl, (by show (0 : Int) < 2305843009213693921; decide), _, _, rfl, rfl, .inr ⟨by decide, by decide⟩, ?_⟩⟩
      refine ⟨_, rfl, _, rfl, _, _, rfl, rfl, .inl ⟨by decide, by decide⟩, _, _, rfl, rfl, _, rfl, _, _, rfl, rfl, Or.inr ⟨_, rfl, _, _, rfl, rfl, .inl ⟨by decide, by decide⟩, _, _, rfl, rfl, _, _, rfl, rfl, ?_⟩⟩
      refine ⟨_, rfl, _, _, rfl, rfl, ⟨by decide, by decide, by decide⟩, _, _, rfl, rfl, _, _, rfl, ?_⟩
      refine ⟨_, rfl, Or.inl ⟨_, rfl, _, _, rfl, rfl, (by show (0 : Int) < 2305843009213693907; decide), (by show 3 ≤ sizeLine; decide), fun d hd => ?_⟩⟩
      exact dice_end k (great_ok _) d hd _ rfl
theorem ok_roll {fd : FuncData} (F : FnP K "_law_roll" sRoll fd) (T : Fre mg) : FnOk P w K mg base CX0 1 (He.ga K "_law_roll") fd ["_law_dice_here", "_law_many"] spRoll := by
  refine F.ok Roll (fun vs H Q E h => ?_) (fun cdv A outer s H vs Q E hr h => ?_)
  · obtain ⟨d, m, n, rfl, _⟩ := h
    rfl
  · obtain ⟨d, m, n, rfl, D, hn, h0, h1, k⟩ := h
    refine ⟨_, PSs.nox (pss_cons (ps_if (pt_cmpR op_gt (pe_ix (ix_listK K rfl) (pv 0) pe_int (fun _ _ => rfl)) pe_int (nomark _)) (pss_cons (ps_set (i := 2) Roll.nd rfl (Or.inl rfl) (pe_op op_mod (pe_callTy call_int1 (by rfl) T.int EW.boot_int (pa_cons (pe_ix (ix_listK K rfl) (pv 0) pe_int (fun _ _ => rfl)) pa_nil)) (pv 1)))
      (pss_cons (ps_asg (pe_op op_fdivW (pe_ix (ix_listK K rfl) (pv 0) pe_int (fun _ _ => rfl)) (pv 1)) (pg_sub (pv 0) pe_int set_list))
      (pss_one (ps_ret (pv 2))))) pss_nil)
      (pss_cons (ps_asg (pe_op op_add (pe_ix (ix_listK K rfl) (pv 0) pe_int (fun _ _ => rfl)) pe_int) (pg_sub (pv 0) pe_int set_list))
      (pss_cons (ps_set (i := 3) Roll.nd rfl (Or.inl rfl) (pe_op op_mod (pe_callTy call_int1 (by rfl) T.int EW.boot_int (pa_cons (pe_op op_add (pe_ix (ix_listK K rfl) (pv 0) pe_int (fun _ _ => rfl)) (pe_op op_mul pe_int (pe_ix (ix_listK K rfl) (pv 0) pe_int (fun _ _ => rfl)))) pa_nil)) pe_int))
      (pss_cons (ps_set (i := 4) Roll.nd rfl (Or.inl rfl) (pe_op op_add (pe_op op_mul (pe_op op_mod (pe_callTy call_int1 (by rfl) T.int EW.boot_int (pa_cons (pe_op op_mul (pv 3) (pv 3)) pa_nil)) pe_int) (pv 3)) (pe_op op_mul pe_int (pe_ix (ix_listK K rfl) (pv 0) pe_int (fun _ _ => rfl)))))
      (pss_one (ps_ret (pe_op op_mod (pe_callTy call_int1 (by rfl) T.int EW.boot_int (pa_cons (pe_op op_fdivW (pe_op op_mod (pe_callTy call_int1 (by rfl) T.int EW.boot_int (pa_cons (pe_op op_add (pe_op op_mulW (pv 4) (pv 4)) (pe_ix (ix_listK K rfl) (pv 0) pe_int (fun _ _ => rfl))) pa_nil)) pe_int) pe_int) pa_nil)) (pv 1)))))))), ?_⟩
    obtain ⟨g, b, c, hd, hg0, hg1, hb0, hb1, hc0, hc1⟩ := D
    have sq : ∀ {g b c : Int} {H : Hp}, H d = some (.lst [.int g, .int b, .int c]) → SqL K H d [.int g, .int b, .int c] := fun h => SqL.of h
    refine ⟨_, rfl, d, _, _, _, rfl, rfl, sq hd, rfl, _, _, rfl, rfl, _, rfl, ?_⟩
    refine ite2 (fun q => ?_) (fun q => ?_)
    · refine ⟨_, rfl, d, _, _, _, rfl, rfl, sq hd, rfl, Or.inl ⟨_, rfl, ?_⟩⟩
      refine ⟨_, rfl, _, _, rfl, rfl, h0, ?_⟩
      refine ⟨_, rfl, d, _, _, _, rfl, rfl, sq hd, rfl, _, rfl, _, _, rfl, rfl, wide_div h0 (b := 200) (by omega) (by decide) (by decide), ?_⟩
      refine ⟨_, rfl, d, _, _, 0, rfl, rfl, hd, rfl, ?_⟩
      refine ⟨_, rfl, ?_⟩
      refine k _ _ (Int.emod_nonneg _ (by omega)) (Int.emod_lt_of_pos _ h0) Kept.upd ⟨g / m, b, c, upd_same, Int.ediv_nonneg hg0 (by omega), ?_, hb0, hb1, hc0, by omega⟩
      exact Int.lt_of_le_of_lt (Int.ediv_le_self _ hg0) hg1
    · have hc2 : H d = some (.lst [.int g, .int b, .int c]) := hd
      refine ⟨_, rfl, d, _, _, _, rfl, rfl, sq hd, rfl, _, _, rfl, rfl, _, rfl, d, _, _, 2, rfl, rfl, hd, rfl, ?_⟩
      have e1 : (upd H d (.lst ([V.int g, V.int b, V.int c].set 2 (.int (c + 1))))) d = some (.lst [.int g, .int b, .int (c + 1)]) := upd_same
      refine ⟨_, rfl, d, _, _, _, rfl, rfl, sq e1, rfl, _, rfl, d, _, _, _, rfl, rfl, sq e1, rfl, _, _, rfl, rfl, .inl ⟨by decide, by decide⟩, _, _, rfl, rfl, Or.inl ⟨_, rfl, _, _, rfl, rfl, (by show (0 : Int) < 72057594037927931; decide), ?_⟩⟩
      have o0 := Int.emod_nonneg (b + 1000000403 * (c + 1)) (show (72057594037927931 : Int) ≠ 0 by decide)
      have o1 := Int.emod_lt_of_pos (b + 1000000403 * (c + 1)) (show (0 : Int) < 72057594037927931 by decide)
      refine ⟨_, rfl, _, rfl, _, _, rfl, rfl, .inl ⟨by omega, by omega⟩, Or.inl ⟨_, rfl, _, _, rfl, rfl, (by show (0 : Int) < 36028797018963913; decide), ?_⟩⟩
      have p0 := Int.emod_nonneg ((b + 1000000403 * (c + 1)) % 72057594037927931 * ((b + 1000000403 * (c + 1)) % 72057594037927931)) (show (36028797018963913 : Int) ≠ 0 by decide)
      have p1 := Int.emod_lt_of_pos ((b + 1000000403 * (c + 1)) % 72057594037927931 * ((b + 1000000403 * (c + 1)) % 72057594037927931)) (show (0 : Int) < 36028797018963913 by decide)
      refine ⟨_, rfl, _, _, rfl, rfl, .inl ⟨by omega, by omega⟩, _, rfl, d, _, _, _, rfl, rfl, sq e1, rfl, _, _, rfl, rfl, .inl ⟨by decide, by decide⟩, _, _, rfl, rfl, ?_⟩
      have two_lt := two_ok p0 p1 o0 o1 (c := c + 1) (by omega) (by omega)
      refine ⟨_, rfl, _, rfl, _, _, rfl, rfl, wide_mul (a := 130) (b := 130) two_lt two_lt (by decide) (by decide) (by decide), ?_⟩
      refine ⟨_, rfl, d, _, _, _, rfl, rfl, sq e1, rfl, _, _, rfl, rfl, Or.inl ⟨_, rfl, _, _, rfl, rfl, (by show (0 : Int) < 1152921504606846883; decide), _, _, rfl, rfl, ⟨by decide, by decide⟩, Or.inl ⟨_, rfl, ?_⟩⟩⟩
      refine ⟨_, rfl, _, _, rfl, rfl, h0, ?_⟩
      exact k _ _ (Int.emod_nonneg _ (by omega)) (Int.emod_lt_of_pos _ h0) Kept.upd ⟨g, b, c + 1, e1, hg0, hg1, hb0, hb1, by omega, by omega⟩
theorem ok_pick {fd : FuncData} (F : FnP K "_law_pick" sPick fd) (T : Fre mg) (D_law_roll : Df P w K mg base 1 "_law_roll" ["_law_dice_here", "_law_many"] spRoll) : FnOk P w K mg base CX0 2 (He.ga K "_law_pick") fd ["_law_dice_here", "_law_items"] (spPick K) := by
  refine F.ok Pick (fun vs H Q E h => ?_) (fun cdv A outer s H vs Q E hr h => ?_)
  · obtain ⟨d, l, xs, n, rfl, _⟩ := h
    rfl
  · obtain ⟨d, l, xs, n, rfl, D, hn, hS, ne, h0, h1, k⟩ := h
    refine ⟨_, PSs.nox (pss_one (ps_ret (pe_ix (ix_listK K rfl) (pv 1) (pe_df D_law_roll (hr.mono (by decide)) rfl (pa_cons (pv 0) (pa_cons (pe_callB (call_lenK K rfl) (by rfl) T.len PySem.boot_len (pa_cons (pv 1) pa_nil)) pa_nil))) (fun _ _ => rfl)))), ?_⟩
    refine ⟨_, rfl, _, rfl, _, rfl, _, xs.length, rfl, Or.inl ⟨_, hS, rfl⟩, ?_⟩
    refine ⟨d, _, n, rfl, D, hn, by omega, by omega, fun r H' r0 r1 kp D' => ?_⟩
    obtain ⟨j, rfl⟩ : ∃ j : Nat, r = (j : Int) := ⟨r.toNat, by omega⟩
    have hj : j < xs.length := by omega
    exact ⟨l, xs, _, _, rfl, rfl, sqL_kept hS ne kp, atI_nat (List.getElem?_eq_getElem hj), k _ _ (List.getElem_mem hj) kp D'⟩
end
end TM
end

section
set_option maxHeartbeats 4000000
namespace EW
open PySem PySem.Spec PyProof.Rows L2
theorem Dc.same {H H' : Hp} {d : Addr} {n : Int} (h : Dc H d n) (s : Same H H') : Dc H' d n := by
  obtain ⟨g, b, c, h1, r⟩ := h
  exact ⟨g, b, c, s _ _ h1, r⟩
theorem Dc.lst {H : Hp} {d : Addr} {n : Int} (h : Dc H d n) : ∃ xs, H d = some (.lst xs) := by
  obtain ⟨g, b, c, h1, _⟩ := h
  exact ⟨_, h1⟩
theorem kept_of {d : Addr} {H H' : Hp} (s : Same H H') : Kept d H H' := fun a o _ e => s a o e
/-- tuples put together, sealed -/
theorem op_catTS {X : Cx} (K : W.Frag) (h : X.K = K) : OpR X (binaryOp .Add) (fun x y H Q => ∃ (a b : Addr) (xs ys : List V), x = .ref a ∧ y = .ref b ∧ SqT K H a xs ∧ SqT K H b ys ∧ xs ≠ [] ∧ ys ≠ [] ∧ xs.length + ys.length ≤ sizeLine ∧ New H (fun _ => .tup (xs ++ ys)) Q) := by
  subst h
  intro pins s σ H x y v u Q I rx ry h
  obtain ⟨a, b, xs, ys, h1, h2, h3, h4, h5, h6, h7, h8⟩ := h
  exact op_catT pins s σ H x y v u Q I rx ry ⟨a, b, xs, ys, h1, h2, h3, h4, h5, h7, fun z => absurd z h6, fun _ p hp => h8.at hp⟩
end EW
namespace TM
open PySem PySem.Spec PyProof.Rows L2 EW
abbrev NNear : List Str := ["_law_dice_here", "_law_far"]
theorem Near : FnScope NNear ["_law_dice_here", "_law_far"] (defScope sNear) := ⟨rfl, rfl, rfl, by decide +kernel, rfl, by decide +kernel, by decide +kernel⟩
abbrev NBound : List Str := ["_law_dice_here", "_law_far", "_law_way"]
theorem Bound : FnScope NBound ["_law_dice_here", "_law_far"] (defScope sBound) := ⟨rfl, rfl, rfl, by decide +kernel, rfl, by decide +kernel, by decide +kernel⟩
abbrev NPair : List Str := ["_law_dice_here", "_law_far", "_law_one", "_law_two"]
theorem Pair : FnScope NPair ["_law_dice_here", "_law_far"] (defScope sPair) := ⟨rfl, rfl, rfl, by decide +kernel, rfl, by decide +kernel, by decide +kernel⟩
abbrev NResidue : List Str := ["_law_dice_here", "_law_period_here"]
theorem Residue : FnScope NResidue ["_law_dice_here", "_law_period_here"] (defScope sResidue) := ⟨rfl, rfl, rfl, by decide +kernel, rfl, by decide +kernel, by decide +kernel⟩
abbrev NSpan : List Str := ["_law_dice_here", "_law_period_here", "_law_far", "_law_residue_here"]
theorem Span : FnScope NSpan ["_law_dice_here", "_law_period_here", "_law_far"] (defScope sSpan) := ⟨rfl, rfl, rfl, by decide +kernel, rfl, by decide +kernel, by decide +kernel⟩
abbrev NPeriodL : List Str := ["_law_dice_here"]
theorem PeriodL : FnScope NPeriodL ["_law_dice_here"] (defScope sPeriodL) := ⟨rfl, rfl, rfl, by decide +kernel, rfl, by decide +kernel, by decide +kernel⟩
abbrev NSpansL : List Str := ["_law_dice_here", "_law_period_here", "_law_most", "_law_turn"]
theorem SpansL : FnScope NSpansL ["_law_dice_here", "_law_period_here", "_law_most"] (defScope sSpansL) := ⟨rfl, rfl, rfl, by decide +kernel, rfl, by decide +kernel, by decide +kernel⟩
/-- a bound that is not too far -/
def Nr (o : Option Int) : Prop := ∀ i, o = some i → -1000000000000 ≤ i ∧ i ≤ 1000000000000
def spNear : Sp := fun vs H Q _ => ∃ (d : Addr) (f n : Int), vs = [.ref d, .int f] ∧ Dc H d n ∧ n ≤ 1000000 ∧ 0 ≤ f ∧ f ≤ 1000 ∧ ∀ (i : Int) (H' : Hp), -f ≤ i → i ≤ f → EW.Kept d H H' → Dc H' d (n + 1) → Q (.int i) H'
def spBoundL : Sp := fun vs H Q _ => ∃ (d : Addr) (f n : Int), vs = [.ref d, .int f] ∧ Dc H d n ∧ n + 3 ≤ 1000000 ∧ 0 ≤ f ∧ f ≤ 1000 ∧ ∀ (o : Option Int) (H' : Hp), Nr o → EW.Kept d H H' → Dc H' d (n + 3) → Q (ob o) H'
def spPair : Sp := fun vs H Q _ => ∃ (d : Addr) (f n : Int), vs = [.ref d, .int f] ∧ Dc H d n ∧ n + 7 ≤ 1000000 ∧ 0 ≤ f ∧ f ≤ 1000 ∧ ∀ (q : Addr) (lo hi : Option Int) (H' : Hp), Nr lo → Nr hi → EW.Kept d H H' → Dc H' d (n + 7) → H' q = some (.tup [ob lo, ob hi]) → Q (.ref q) H'
def spResidue : Sp := fun vs H Q _ => ∃ (d : Addr) (p n : Int), vs = [.ref d, .int p] ∧ Dc H d n ∧ n + 2 ≤ 1000000 ∧ 1 ≤ p ∧ p ≤ 400 ∧ ∀ (o : Option Int) (H' : Hp), (∀ r, o = some r → 0 ≤ r ∧ r < p) → EW.Kept d H H' → Dc H' d (n + 2) → Q (ob o) H'
/-- a drawn span -/
def Sok (p : Int) (s : Rn.Sp3) : Prop := Rn.SpOk p s ∧ Nr s.lo ∧ Nr s.hi
def spSpanL : Sp := fun vs H Q _ => ∃ (d : Addr) (p f n : Int), vs = [.ref d, .int p, .int f] ∧ Dc H d n ∧ n + 9 ≤ 1000000 ∧ 1 ≤ p ∧ p ≤ 400 ∧ 0 ≤ f ∧ f ≤ 1000 ∧ ∀ (q : Addr) (s : Rn.Sp3) (H' : Hp), Sok p s → EW.Kept d H H' → Dc H' d (n + 9) → H' q = some (.tup [ob s.res, ob s.lo, ob s.hi]) → Q (.ref q) H'
def spPeriodL : Sp := fun vs H Q _ => ∃ (d : Addr) (n : Int), vs = [.ref d] ∧ Dc H d n ∧ n + 1 ≤ 1000000 ∧ ∀ (p : Int) (H' : Hp), 1 ≤ p → p ≤ 12 → EW.Kept d H H' → Dc H' d (n + 1) → Q (.int p) H'
def spSpansL (K : W.Frag) : Sp := fun vs H Q _ => ∃ (d : Addr) (p m n : Int), vs = [.ref d, .int p, .int m] ∧ Dc H d n ∧ n + 100 ≤ 1000000 ∧ 1 ≤ p ∧ p ≤ 400 ∧ 0 ≤ m ∧ m ≤ 10 ∧
  ∀ (l : Addr) (xs : List V) (ss : List Rn.Sp3) (H' : Hp), H l = none → (∀ s ∈ ss, Sok p s) → (ss.length : Int) ≤ m → EW.Kept d H H' → Dc H' d (n + 100) → H' l = some (.lst xs) → Sns K H' xs ss → Q (.ref l) H'
section
variable {P : Program} {w : World} {K : W.Frag} {mg : Str → Option Value} {base : Heap}
theorem ok_near {fd : FuncData} (F : FnP K "_law_near" sNear fd) (D_law_roll : Df P w K mg base 1 "_law_roll" ["_law_dice_here", "_law_many"] spRoll) : FnOk P w K mg base CX0 2 (He.ga K "_law_near") fd ["_law_dice_here", "_law_far"] spNear := by
  refine F.ok Near (fun vs H Q E h => ?_) (fun cdv A outer s H vs Q E hr h => ?_)
  · obtain ⟨d, f, n, rfl, _⟩ := h
    rfl
  · obtain ⟨d, f, n, rfl, D, hn, f0, f1, k⟩ := h
    refine ⟨_, PSs.nox (pss_one (ps_ret (pe_op op_sub (pe_df D_law_roll (hr.mono (by decide)) rfl (pa_cons (pv 0) (pa_cons (pe_op op_add (pe_op op_mul pe_int (pv 1)) pe_int) pa_nil))) (pv 1)))), ?_⟩
    refine ⟨_, rfl, _, rfl, _, _, rfl, rfl, .inl ⟨by decide, by decide⟩, _, _, rfl, rfl, d, _, n, rfl, D, hn, by omega, by omega, fun r H1 r0 r1 k1 D1 => ?_⟩
    exact ⟨_, rfl, _, _, rfl, rfl, k _ H1 (by omega) (by omega) k1 D1⟩
theorem ok_boundL {fd : FuncData} (F : FnP K "_law_bound" sBound fd) (D_law_roll : Df P w K mg base 1 "_law_roll" ["_law_dice_here", "_law_many"] spRoll) (D_law_near : Df P w K mg base 2 "_law_near" ["_law_dice_here", "_law_far"] spNear) (D_law_pick : Df P w K mg base 2 "_law_pick" ["_law_dice_here", "_law_items"] (spPick K)) :
    FnOk P w K mg base CX0 3 (He.ga K "_law_bound") fd ["_law_dice_here", "_law_far"] spBoundL := by
  refine F.ok Bound (fun vs H Q E h => ?_) (fun cdv A outer s H vs Q E hr h => ?_)
  · obtain ⟨d, f, n, rfl, _⟩ := h
    rfl
  · obtain ⟨d, f, n, rfl, D, hn, f0, f1, k⟩ := h
    refine ⟨_, PSs.nox (pss_cons (ps_set (i := 2) Bound.nd rfl (Or.inl rfl) (pe_df D_law_roll (hr.mono (by decide)) rfl (pa_cons (pv 0) (pa_cons pe_int pa_nil))))
      (pss_cons (ps_if (pt_cmpR op_lt (pv 2) pe_int (nomark _)) (pss_one (ps_ret pe_non)) pss_nil)
      (pss_cons (ps_if (pt_cmpR op_lt (pv 2) pe_int (nomark _)) (pss_one (ps_ret (pe_df D_law_near (hr.mono (by decide)) rfl (pa_cons (pv 0) (pa_cons (pv 1) pa_nil))))) pss_nil)
      (pss_one (ps_ret (pe_op op_mul (pe_df D_law_pick (hr.mono (by decide)) rfl (pa_cons (pv 0) (pa_cons (pe_lstS (pa_cons pe_int (pa_cons (pe_un un_neg pe_int) pa_nil))) pa_nil))) (pe_op op_add (pe_op op_pow pe_int pe_int) (pe_df D_law_roll (hr.mono (by decide)) rfl (pa_cons (pv 0) (pa_cons pe_int pa_nil)))))))))), ?_⟩
    refine ⟨_, rfl, d, 12, n, rfl, D, by omega, by decide, by decide, fun r H1 r0 r1 k1 D1 => ?_⟩
    refine ⟨_, rfl, _, _, rfl, rfl, _, rfl, ite2 (fun _ => ?_) fun _ => ?_⟩
    · exact k none H1 (fun i e => by cases e) k1 (D1.mono (by omega))
    · refine ⟨_, rfl, _, _, rfl, rfl, _, rfl, ite2 (fun _ => ?_) fun _ => ?_⟩
      · refine ⟨_, rfl, _, rfl, d, f, _, rfl, D1, by omega, f0, f1, fun i H2 i0 i1 k2 D2 => ?_⟩
        exact k (some i) H2 (fun j e => by cases e; omega) (k1.trans k2) (D2.mono (by omega))
      · refine ⟨_, rfl, _, rfl, (by show 2 ≤ sizeLine; decide), fun q H2 n2 s2 e2 => ?_⟩
        refine ⟨d, q, _, _, rfl, D1.same s2, by omega, SqL.of e2, D1.nn n2, by decide, by decide, fun v H3 hv k3 D3 => ?_⟩
        refine ⟨_, _, rfl, rfl, ⟨by decide, by decide, by decide⟩, _, rfl, d, 1000, _, rfl, D3, by omega, by decide, by decide, fun r2 H4 r20 r21 k4 D4 => ?_⟩
        refine ⟨_, _, rfl, rfl, ?_⟩
        have e11 : (10 : Int) ^ (11 : Int).toNat = 100000000000 := by decide +kernel
        have kk := k1.trans ((kept_of s2).trans (k3.trans k4))
        simp only [List.mem_cons, List.not_mem_nil, or_false] at hv
        rcases hv with rfl | rfl
        · refine ⟨_, _, rfl, rfl, .inl ⟨by decide, by decide⟩, k (some _) H4 (fun j e => ?_) kk (D4.mono (by omega))⟩
          injection e with e
          omega
        · refine ⟨_, _, rfl, rfl, .inl ⟨by decide, by decide⟩, k (some _) H4 (fun j e => ?_) kk (D4.mono (by omega))⟩
          injection e with e
          omega
end
end TM
end

section
set_option maxHeartbeats 4000000
namespace TM
open PySem PySem.Spec PyProof.Rows L2 EW
section
variable {P : Program} {w : World} {K : W.Frag} {mg : Str → Option Value} {base : Heap}
theorem ok_pair {fd : FuncData} (F : FnP K "_law_pair" sPair fd) (D_law_roll : Df P w K mg base 1 "_law_roll" ["_law_dice_here", "_law_many"] spRoll) (D_law_bound : Df P w K mg base 3 "_law_bound" ["_law_dice_here", "_law_far"] spBoundL) :
    FnOk P w K mg base CX0 4 (He.ga K "_law_pair") fd ["_law_dice_here", "_law_far"] spPair := by
  refine F.ok Pair (fun vs H Q E h => ?_) (fun cdv A outer s H vs Q E hr h => ?_)
  · obtain ⟨d, f, n, rfl, _⟩ := h
    rfl
  · obtain ⟨d, f, n, rfl, D, hn, f0, f1, k⟩ := h
    refine ⟨_, PSs.nox (pss_cons (ps_par (i := 2) (j := 3) (by rfl) Pair.nd rfl rfl (by decide) rfl rfl (pa_cons (pe_df D_law_bound (hr.mono (by decide)) rfl (pa_cons (pv 0) (pa_cons (pv 1) pa_nil))) (pa_cons (pe_df D_law_bound (hr.mono (by decide)) rfl (pa_cons (pv 0) (pa_cons (pv 1) pa_nil))) pa_nil)) (by rfl))
      (pss_cons (ps_if (PW.pt (pw_and (pt_cmp (pc_notN (pv 2))) (pw_and (pt_cmp (pc_notN (pv 3))) (pw_and (pt_cmpR op_gt (pv 2) (pv 3) (nomark _)) (pw_and1 (pt_cmpR op_gt (pe_df D_law_roll (hr.mono (by decide)) rfl (pa_cons (pv 0) (pa_cons pe_int pa_nil))) pe_int (nomark _))))))) (pss_one (ps_ret (pe_tupS (pa_cons (pv 3) (pa_cons (pv 2) pa_nil))))) pss_nil)
      (pss_one (ps_ret (pe_tupS (pa_cons (pv 2) (pa_cons (pv 3) pa_nil))))))), ?_⟩
    refine ⟨_, rfl, _, rfl, d, f, n, rfl, D, by omega, f0, f1, fun a H1 ra k1 D1 => ?_⟩
    refine ⟨_, rfl, _, rfl, d, f, _, rfl, D1, by omega, f0, f1, fun b H2 rb k2 D2 => ?_⟩
    refine ⟨_, _, rfl, ?_⟩
    have fin : ∀ (lo hi : Option Int) (H3 : Hp), Nr lo → Nr hi → EW.Kept d H2 H3 → Dc H3 d (n + 7) → New H3 (fun _ => .tup [ob lo, ob hi]) Q := fun lo hi H3 rl rh k3 D3 q H4 n4 s4 e4 =>
      k q lo hi H4 rl rh (k1.trans (k2.trans (k3.trans (kept_of s4)))) (D3.same s4) e4
    cases a with
    | none => exact ⟨_, rfl, _, rfl, iteF (iteF ⟨_, rfl, _, rfl, (by show 2 ≤ sizeLine; decide), fin none b H2 ra rb (EW.Kept.refl _ _) (D2.mono (by omega))⟩)⟩
    | some u =>
      cases b with
      | none => exact ⟨_, rfl, _, rfl, iteT ⟨_, rfl, _, rfl, iteF (iteF ⟨_, rfl, _, rfl, (by show 2 ≤ sizeLine; decide), fin (some u) none H2 ra rb (EW.Kept.refl _ _) (D2.mono (by omega))⟩)⟩⟩
      | some v =>
        refine ⟨_, rfl, _, rfl, iteT ⟨_, rfl, _, rfl, iteT ⟨_, rfl, _, rfl, _, _, rfl, rfl, _, rfl, ?_⟩⟩⟩
        by_cases c : u > v
        · refine iteB (decide_eq_true c) ?_
          refine ⟨_, rfl, d, 5, _, rfl, D2, by omega, by decide, by decide, fun r H3 r0 r1 k3 D3 => ?_⟩
          refine ⟨_, _, rfl, rfl, _, rfl, ite2 (fun _ => ?_) fun _ => ?_⟩
          · exact ⟨_, rfl, _, rfl, (by show 2 ≤ sizeLine; decide), fin (some v) (some u) H3 rb ra k3 (D3.mono (by omega))⟩
          · exact ⟨_, rfl, _, rfl, (by show 2 ≤ sizeLine; decide), fin (some u) (some v) H3 ra rb k3 (D3.mono (by omega))⟩
        · refine iteC (decide_eq_false c) (iteF ?_)
          exact ⟨_, rfl, _, rfl, (by show 2 ≤ sizeLine; decide), fin (some u) (some v) H2 ra rb (EW.Kept.refl _ _) (D2.mono (by omega))⟩
theorem ok_residue {fd : FuncData} (F : FnP K "_law_residue" sResidue fd) (D_law_roll : Df P w K mg base 1 "_law_roll" ["_law_dice_here", "_law_many"] spRoll) : FnOk P w K mg base CX0 2 (He.ga K "_law_residue") fd ["_law_dice_here", "_law_period_here"] spResidue := by
  refine F.ok Residue (fun vs H Q E h => ?_) (fun cdv A outer s H vs Q E hr h => ?_)
  · obtain ⟨d, p, n, rfl, _⟩ := h
    rfl
  · obtain ⟨d, p, n, rfl, D, hn, p1, p2, k⟩ := h
    refine ⟨_, PSs.nox (pss_one (ps_ret (pe_ifExp (pt_cmpR op_eq (pe_df D_law_roll (hr.mono (by decide)) rfl (pa_cons (pv 0) (pa_cons pe_int pa_nil))) pe_int (nomark _)) (pe_df D_law_roll (hr.mono (by decide)) rfl (pa_cons (pv 0) (pa_cons (pv 1) pa_nil))) pe_non))), ?_⟩
    refine ⟨_, rfl, d, 2, n, rfl, D, by omega, by decide, by decide, fun r H1 r0 r1 k1 D1 => ?_⟩
    refine ⟨rfl, _, rfl, ite2 (fun _ => ?_) fun _ => ?_⟩
    · refine ⟨_, rfl, _, rfl, d, p, _, rfl, D1, by omega, by omega, by omega, fun r2 H2 r20 r21 k2 D2 => ?_⟩
      exact k (some r2) H2 (fun q e => by cases e; exact ⟨r20, r21⟩) (k1.trans k2) (D2.mono (by omega))
    · exact k none H1 (fun q e => by cases e) k1 (D1.mono (by omega))
theorem ok_spanL {fd : FuncData} (F : FnP K "_law_span" sSpan fd) (D_law_residue : Df P w K mg base 2 "_law_residue" ["_law_dice_here", "_law_period_here"] spResidue) (D_law_pair : Df P w K mg base 4 "_law_pair" ["_law_dice_here", "_law_far"] spPair) :
    FnOk P w K mg base CX0 5 (He.ga K "_law_span") fd ["_law_dice_here", "_law_period_here", "_law_far"] spSpanL := by
  refine F.ok Span (fun vs H Q E h => ?_) (fun cdv A outer s H vs Q E hr h => ?_)
  · obtain ⟨d, p, f, n, rfl, _⟩ := h
    rfl
  · obtain ⟨d, p, f, n, rfl, D, hn, p1, p2, f0, f1, k⟩ := h
    refine ⟨_, PSs.nox (pss_cons (ps_set (i := 3) Span.nd rfl (Or.inl rfl) (pe_df D_law_residue (hr.mono (by decide)) rfl (pa_cons (pv 0) (pa_cons (pv 1) pa_nil))))
      (pss_one (ps_ret (pe_op (op_catTS K rfl) (pe_tupS (pa_cons (pv 3) pa_nil)) (pe_df D_law_pair (hr.mono (by decide)) rfl (pa_cons (pv 0) (pa_cons (pv 2) pa_nil))))))), ?_⟩
    refine ⟨_, rfl, _, rfl, d, p, n, rfl, D, by omega, p1, p2, fun o H1 ho k1 D1 => ?_⟩
    refine ⟨_, rfl, (by show 1 ≤ sizeLine; decide), fun q1 H2 n2 s2 e2 => ?_⟩
    refine ⟨_, rfl, _, rfl, d, f, _, rfl, D1.same s2, by omega, f0, f1, fun q3 lo hi H3 rl rh k3 D3 e3 => ?_⟩
    have nq : q1 ≠ d := D1.nn n2
    refine ⟨q1, q3, _, _, rfl, rfl, SqT.of (k3 _ _ nq e2), SqT.of e3, List.cons_ne_nil _ _, List.cons_ne_nil _ _, (by show 3 ≤ sizeLine; decide), fun q4 H4 n4 s4 e4 => ?_⟩
    exact k q4 ⟨o, lo, hi⟩ H4 ⟨ho, rl, rh⟩ (k1.trans ((kept_of s2).trans (k3.trans (kept_of s4)))) ((D3.same s4).mono (by omega)) e4
theorem ok_periodL {fd : FuncData} (F : FnP K "_law_period" sPeriodL fd) (D_law_pick : Df P w K mg base 2 "_law_pick" ["_law_dice_here", "_law_items"] (spPick K)) : FnOk P w K mg base CX0 3 (He.ga K "_law_period") fd ["_law_dice_here"] spPeriodL := by
  refine F.ok PeriodL (fun vs H Q E h => ?_) (fun cdv A outer s H vs Q E hr h => ?_)
  · obtain ⟨d, n, rfl, _⟩ := h
    rfl
  · obtain ⟨d, n, rfl, D, hn, k⟩ := h
    refine ⟨_, PSs.nox (pss_one (ps_ret (pe_df D_law_pick (hr.mono (by decide)) rfl (pa_cons (pv 0) (pa_cons (pe_lstS (pa_cons pe_int (pa_cons pe_int (pa_cons pe_int (pa_cons pe_int (pa_cons pe_int (pa_cons pe_int (pa_cons pe_int (pa_cons pe_int (pa_cons pe_int pa_nil)))))))))) pa_nil))))), ?_⟩
    refine ⟨_, rfl, (by show 9 ≤ sizeLine; decide), fun q H1 n1 s1 e1 => ?_⟩
    refine ⟨d, q, _, n, rfl, D.same s1, by omega, SqL.of e1, D.nn n1, by decide, by decide, fun v H2 hv k2 D2 => ?_⟩
    have kk := (kept_of s1).trans k2
    simp only [List.mem_cons, List.not_mem_nil, or_false] at hv
    rcases hv with rfl | rfl | rfl | rfl | rfl | rfl | rfl | rfl | rfl <;> exact k _ H2 (by decide) (by decide) kk D2
theorem ok_spansL {fd : FuncData} (F : FnP K "_law_spans" sSpansL fd) (T : Fre mg) (D_law_roll : Df P w K mg base 1 "_law_roll" ["_law_dice_here", "_law_many"] spRoll) (D_law_span : Df P w K mg base 5 "_law_span" ["_law_dice_here", "_law_period_here", "_law_far"] spSpanL) :
    FnOk P w K mg base CX0 6 (He.ga K "_law_spans") fd ["_law_dice_here", "_law_period_here", "_law_most"] (spSpansL K) := by
  refine F.ok SpansL (fun vs H Q E h => ?_) (fun cdv A outer s H vs Q E hr h => ?_)
  · obtain ⟨d, p, m, n, rfl, _⟩ := h
    rfl
  · obtain ⟨d, p, m, n, rfl, D, hn, p1, p2, m0, m1, k⟩ := h
    have hbig : (100 : Nat) < sizeLine := by decide
    refine ⟨_, PSs.nox (pss_one (ps_ret (pe_lc (own := [("_law_turn", 3)]) (g := gName 3) (tt := tYes) (by rfl) SpansL.nd (pi_range1 rfl T.range (pa_cons (pe_df D_law_roll (hr.mono (by decide)) rfl (pa_cons (pv 0) (pa_cons (pe_op op_add (pv 2) pe_int) pa_nil))) pa_nil)) (blkOk_by (own := [("_law_turn", 3)]) (N := NSpansL) (sc := defScope sSpansL) (by decide +kernel)) (fun _ _ _ _ _ => (pg_name (i := 3) SpansL.nd rfl (Or.inl rfl))) (fun _ _ _ _ _ => pts_nil) (fun _ _ _ _ _ => (pe_df D_law_span (hr.mono (by decide)) rfl (pa_cons (pv 0) (pa_cons (pv 1) (pa_cons pe_int pa_nil)))))))), ?_⟩
    refine ⟨_, rfl, _, rfl, _, _, rfl, rfl, d, _, n, rfl, D, by omega, by omega, by omega, fun r H1 r0 r1 k1 D1 => ?_⟩
    refine ⟨r, rfl, by omega, by omega, fun L hL => ?_⟩
    have hLd : L ≠ d := D1.nn hL
    refine loop_rg (lo := 0) (n := r.toNat) (fun i H' => ∃ (acc : List V) (ss : List Rn.Sp3), H' L = some (.lst acc) ∧ (∀ b o, b ≠ d → H1 b = some o → H' b = some o) ∧ Dc H' d (n + 1 + 9 * (i : Int)) ∧ Sns K H' acc ss ∧ ss.length = i ∧ ∀ s ∈ ss, Sok p s) ?_ ?_ ?_
    · exact ⟨[], [], upd_same, kept_of (upd_new hL), (D1.same (upd_new hL)).mono (by omega), .nil, rfl, (fun s hs => nomatch hs)⟩
    · rintro i H2 hi ⟨acc, ss, hLa, k2, D2, R2, hs2, hok⟩
      refine ⟨rfl, ?_⟩
      refine ⟨_, rfl, _, rfl, d, p, 9, _, rfl, D2, by omega, p1, p2, by decide, by decide, fun q sp H3 hsp k3 D3 e3 => ?_⟩
      have hl2 := R2.length
      have hL3 := k3 _ _ hLd hLa
      obtain ⟨ds, hds⟩ := D2.lst
      have k4 : EW.Kept L H3 (upd H3 L (.lst (acc ++ [.ref q]))) := Kept.upd
      refine ⟨acc, hL3, by omega, acc ++ [.ref q], ss ++ [sp], upd_same, (fun b o nb h => ?_), ?_, ?_, by rw [List.length_append, hs2]; rfl, fun s hs => ?_⟩
      · rw [upd_ne (fun z => by rw [z, hL] at h; cases h)]
        exact k3 _ _ nb (k2 b o nb h)
      · refine Dc.mono (D3.keep ?_) (by omega)
        rw [upd_ne (Ne.symm hLd)]
      · exact Sns.kept (pr_append (Sns.kept R2 hds k3) (.cons (Tp.of e3) .nil)) hL3 k4
      · rcases List.mem_append.mp hs with hs | hs
        · exact hok s hs
        · rw [List.mem_singleton.mp hs]
          exact hsp
    · rintro H2 ⟨acc, ss, hLa, k2, D2, R2, hs2, hok⟩
      have hn0 : H L = none := by
        cases e : H L with
        | none => rfl
        | some o =>
          rw [k1 L o hLd e] at hL
          cases hL
      exact k L acc ss H2 hn0 hok (by omega) (k1.trans k2) (D2.mono (by omega)) hLa R2
end
end TM
end

section
set_option maxHeartbeats 4000000
namespace TM
open PySem PySem.Spec PyProof.Rows L2 EW
abbrev NBetw : List Str := ["_law_one", "_law_pair_here"]
theorem Betw : FnScope NBetw ["_law_one", "_law_pair_here"] (defScope sBetw) := ⟨rfl, rfl, rfl, by decide +kernel, rfl, by decide +kernel, by decide +kernel⟩
abbrev NIsIn : List Str := ["_law_period_here", "_law_spans_here", "_law_time", "_law_some", "_law_span_here"]
theorem IsIn : FnScope NIsIn ["_law_period_here", "_law_spans_here", "_law_time"] (defScope sIsIn) := ⟨rfl, rfl, rfl, by decide +kernel, rfl, by decide +kernel, by decide +kernel⟩
abbrev NBounds : List Str := ["_law_spans_here", "_law_found", "_law_span_here", "_law_bound_here"]
theorem Bounds : FnScope NBounds ["_law_spans_here"] (defScope sBounds) := ⟨rfl, rfl, rfl, by decide +kernel, rfl, by decide +kernel, by decide +kernel⟩
/-- a span as data -/
def spD (s : Rn.Sp3) : PyData := .tuple [od s.res, od s.lo, od s.hi]
theorem sp_dp {K : W.Frag} {H : Hp} {v : V} {s : Rn.Sp3} (h : Sn K H v s) : Dp K H v (spD s) := by
  obtain ⟨a, rfl, q⟩ := h
  exact .tup q (.cons (od_dp _) (.cons (od_dp _) (.cons (od_dp _) .nil)))
theorem sps_dp {K : W.Frag} {H : Hp} : ∀ {vs : List V} {ss : List Rn.Sp3}, Sns K H vs ss → DpAll K H vs (ss.map spD)
  | _, _, .nil => .nil
  | _, _, .cons h t => .cons (sp_dp h) (sps_dp t)
theorem sp_lay (s : Rn.Sp3) : (spD s).canLay0 = true := by simp [spD, PyData.canLay0, PyData.canLayAll0, od_lay]
theorem sps_lay : ∀ ss : List Rn.Sp3, PyData.canLayAll0 (ss.map spD) = true
  | [] => by simp [PyData.canLayAll0]
  | s :: ss => by simp [PyData.canLayAll0, sp_lay, sps_lay ss]
theorem sp_depth (s : Rn.Sp3) : (spD s).depth = 1 := by simp [spD, PyData.depth, PyData.depthAll, od_depth]
theorem sps_depth : ∀ ss : List Rn.Sp3, PyData.depthAll (ss.map spD) ≤ 1
  | [] => by simp [PyData.depthAll]
  | s :: ss => by
    have h := sps_depth ss
    simp [PyData.depthAll, sp_depth]
    omega
theorem shaped_sps (ss : List Rn.Sp3) : SeqAt.shaped (.list (ss.map spD)) = true := by
  have h := sps_depth ss
  simp [SeqAt.shaped, PyData.canLay0, PyData.depth, sps_lay]
  omega
theorem sps_nil (ss : List Rn.Sp3) : PyData.eqv (.list (ss.map spD)) (.list (([] : List Rn.Sp3).map spD)) = ss.isEmpty := by
  rw [PyData.eqv]
  cases ss <;> simp [PyData.eqvAll]
/-- between the bounds -/
def betw (lo hi : Option Int) (t : Int) : Bool := (match lo with
  | none => true
  | some l => decide (l ≤ t)) && match hi with
  | none => true
  | some h => decide (t ≤ h)
theorem betw_iff {lo hi : Option Int} {t : Int} : betw lo hi t = true ↔ Rn.geLo lo t ∧ Rn.leHi hi t := by
  unfold betw Rn.geLo Rn.leHi
  cases lo <;> cases hi <;> simp
def spBetw (K : W.Frag) : Sp := fun vs H Q _ => ∃ (t : Int) (v : V) (lo hi : Option Int), vs = [.int t, v] ∧ Tp K H v [ob lo, ob hi] ∧ Q (.bl (betw lo hi t)) H
section
variable {P : Program} {w : World} {K : W.Frag} {mg : Str → Option Value} {base : Heap}
theorem ok_betw {fd : FuncData} (F : FnP K "_law_between" sBetw fd) : FnOk P w K mg base CX0 1 (He.ga K "_law_between") fd ["_law_one", "_law_pair_here"] (spBetw K) := by
  refine F.ok Betw (fun vs H Q E h => ?_) (fun cdv A outer s H vs Q E hr h => ?_)
  · obtain ⟨t, v, lo, hi, rfl, _⟩ := h
    rfl
  · obtain ⟨t, v, lo, hi, rfl, ⟨a, rfl, hX⟩, k⟩ := h
    refine ⟨_, PSs.nox (pss_one (ps_ret (pe_and (pe_or (pe_cmp (pc_isN (pe_ix (ix_tupK K rfl) (pv 1) pe_int (fun _ _ => rfl)))) (pe_one (pe_cmpR op_le (pe_ix (ix_tupK K rfl) (pv 1) pe_int (fun _ _ => rfl)) (pv 0) (nomark _)))) (pe_one (pe_or (pe_cmp (pc_isN (pe_ix (ix_tupK K rfl) (pv 1) pe_int (fun _ _ => rfl)))) (pe_one (pe_cmpR op_le (pv 0) (pe_ix (ix_tupK K rfl) (pv 1) pe_int (fun _ _ => rfl)) (nomark _)))))))), ?_⟩
    refine ⟨_, rfl, a, _, _, _, rfl, rfl, hX, rfl, _, rfl, ?_⟩
    cases lo with
    | none =>
      refine iteT ⟨_, rfl, iteT ⟨_, rfl, a, _, _, _, rfl, rfl, hX, rfl, _, rfl, ?_⟩⟩
      cases hi with
      | none => exact iteT k
      | some h => exact iteF ⟨_, rfl, _, rfl, a, _, _, _, rfl, rfl, hX, rfl, _, _, rfl, rfl, k⟩
    | some l =>
      refine iteF ⟨_, rfl, a, _, _, _, rfl, rfl, hX, rfl, _, rfl, _, _, rfl, rfl, _, rfl, ?_⟩
      by_cases c : l ≤ t
      · have e : ∀ hi, betw (some l) hi t = match hi with
          | none => true
          | some h => decide (t ≤ h) := fun hi => by simp [betw, c]
        rw [e] at k
        rw [decide_eq_true c]
        refine iteT ⟨_, rfl, a, _, _, _, rfl, rfl, hX, rfl, _, rfl, ?_⟩
        cases hi with
        | none => exact iteT k
        | some h => exact iteF ⟨_, rfl, _, rfl, a, _, _, _, rfl, rfl, hX, rfl, _, _, rfl, rfl, k⟩
      · have e : betw (some l) hi t = false := by simp [betw, c]
        rw [e] at k
        rw [decide_eq_false c]
        exact iteF k
end
end TM
end

section
set_option maxHeartbeats 4000000
namespace TM
open PySem PySem.Spec PyProof.Rows L2 EW
/-- of this residue -/
def resB (p t : Int) (s : Rn.Sp3) : Bool := match s.res with
  | none => true
  | some r => decide (t % p = r)
theorem in_iff {p t : Int} {ss : List Rn.Sp3} : (!((ss.filter (resB p t)).filter fun s => betw s.lo s.hi t).isEmpty) = true ↔ Rn.inSpans p ss t := by
  have one : ∀ s : Rn.Sp3, resB p t s = true ↔ ∀ r, s.res = some r → t % p = r := fun s => by
    unfold resB
    cases s.res <;> simp
  constructor
  · intro h
    cases e : (ss.filter (resB p t)).filter fun s => betw s.lo s.hi t with
    | nil =>
      rw [e] at h
      cases h
    | cons s r =>
      have hs : s ∈ (ss.filter (resB p t)).filter fun s => betw s.lo s.hi t := by rw [e]; exact List.mem_cons_self
      obtain ⟨h1, h2⟩ := List.mem_filter.mp hs
      obtain ⟨h3, h4⟩ := List.mem_filter.mp h1
      exact ⟨s, h3, (one s).mp h4, betw_iff.mp h2⟩
  · rintro ⟨s, hs, h1, h2⟩
    have hm : s ∈ (ss.filter (resB p t)).filter fun s => betw s.lo s.hi t := List.mem_filter.mpr ⟨List.mem_filter.mpr ⟨hs, (one s).mpr h1⟩, betw_iff.mpr h2⟩
    cases e : (ss.filter (resB p t)).filter fun s => betw s.lo s.hi t with
    | nil =>
      rw [e] at hm
      cases hm
    | cons _ _ => rfl
def spIsIn (K : W.Frag) : Sp := fun vs H Q _ => ∃ (p t : Int) (l : Addr) (xs : List V) (ss : List Rn.Sp3), vs = [.int p, .ref l, .int t] ∧ 0 < p ∧ SqL K H l xs ∧ Sns K H xs ss ∧ xs.length ≤ 1000 ∧ ∀ (b : Bool) (H' : Hp), (b = true ↔ Rn.inSpans p ss t) → Same H H' → Q (.bl b) H'
section
variable {P : Program} {w : World} {K : W.Frag} {mg : Str → Option Value} {base : Heap}
theorem ok_isIn {fd : FuncData} (F : FnP K "_law_is_in" sIsIn fd) (T : Fre mg) (D_law_between : Df P w K mg base 1 "_law_between" ["_law_one", "_law_pair_here"] (spBetw K)) : FnOk P w K mg base CX0 2 (He.ga K "_law_is_in") fd ["_law_period_here", "_law_spans_here", "_law_time"] (spIsIn K) := by
  refine F.ok IsIn (fun vs H Q E h => ?_) (fun cdv A outer s H vs Q E hr h => ?_)
  · obtain ⟨p, t, l, xs, ss, rfl, _⟩ := h
    rfl
  · obtain ⟨p, t, l, xs, ss, rfl, hp, hS, hR, hz, k⟩ := h
    have hlen := hR.length
    have hbig : (1000 : Nat) < sizeLine := by decide
    refine ⟨_, PSs.nox (pss_cons (ps_cut (ps_setLc (i := 3) (own := [("_law_span_here", 4)]) (g := gName 4) (tt := _) (by rfl) IsIn.nd rfl rfl (sw_true rfl rfl rfl (by decide +kernel)) (pi_listK (K := K) rfl (pv 1)) (blkOk_by (own := [("_law_span_here", 4)]) (N := NIsIn) (sc := defScope sIsIn) (by decide +kernel)) (fun _ _ _ _ _ => (pg_name (i := 4) IsIn.nd rfl (Or.inl rfl))) (fun _ _ _ _ _ => (pts_one (PW.pt (pw_or (pt_cmp (pc_isN (pe_ix (ix_tupK K rfl) (pv 4) pe_int (fun _ _ => rfl)))) (pw_or1 (pt_cmpR op_eq (pe_op op_mod (pe_callTy call_int1 (by rfl) T.int EW.boot_int (pa_cons (pv 2) pa_nil)) (pv 0)) (pe_ix (ix_tupK K rfl) (pv 4) pe_int (fun _ _ => rfl)) (nomark _))))))) (fun _ _ _ _ _ => (pv 4))))
      (pss_one (ps_ret (pe_cmpR (op_neDK K rfl hr.units) (pe_lc (own := [("_law_span_here", 4)]) (g := gName 4) (tt := _) (by rfl) IsIn.nd (pi_listK (K := K) rfl (pv 3)) (blkOk_by (own := [("_law_span_here", 4)]) (N := NIsIn) (sc := defScope sIsIn) (by decide +kernel)) (fun _ _ _ _ _ => (pg_name (i := 4) IsIn.nd rfl (Or.inl rfl))) (fun _ _ _ _ _ => (pts_one (pt_val (pe_df D_law_between (hr.mono (by decide)) rfl (pa_cons (pv 2) (pa_cons (pe_slice (sl_tupS K rfl) (pv 4) (po_some pe_int) po_none) pa_nil)))))) (fun _ _ _ _ _ => (pv 4))) (pe_lstS pa_nil) (nomark _))))), ?_⟩
    refine ⟨fun σ' H' => ∃ (L : Addr) (vs : List V), σ' = [some (.int p), some (.ref l), some (.int t), some (.ref L), none] ∧ Same H H' ∧ H' L = some (.lst vs) ∧ Sns K H' vs (ss.filter (resB p t)), ?_, ?_⟩
    · refine ⟨_, rfl, l, rfl, ⟨_, hS⟩, fun D hD => ?_⟩
      refine loop_list (xs := xs) (fun i H' => ∃ acc : List V, H' D = some (.lst acc) ∧ Same H H' ∧ Sns K H' acc ((ss.take i).filter (resB p t))) ⟨[], upd_same, upd_new hD, by rw [List.take_zero]; exact .nil⟩ ?_ ?_ ?_
      · rintro i H' _ ⟨acc, _, s1, _⟩
        exact s1.seq hS
      · rintro i x H1 hx ⟨acc, hDa, s1, R1⟩
        obtain ⟨y, hy, Sx⟩ := pr_get hR hx
        have et : ss.take (i + 1) = ss.take i ++ [y] := by
          rw [List.take_add_one, hy]
          rfl
        obtain ⟨ax, rfl, hX⟩ := Tp.same Sx s1
        have hacc : acc.length < sizeLine := by
          have h1 := R1.length
          have h2 := List.length_filter_le (resB p t) (ss.take i)
          rw [List.length_take] at h2
          omega
        have yes : resB p t y = true → ∃ acc', H1 D = some (.lst acc') ∧ acc'.length < sizeLine ∧ ∃ acc : List V, (upd H1 D (.lst (acc' ++ [.ref ax]))) D = some (.lst acc) ∧ Same H (upd H1 D (.lst (acc' ++ [.ref ax]))) ∧ Sns K (upd H1 D (.lst (acc' ++ [.ref ax]))) acc ((ss.take (i + 1)).filter (resB p t)) := fun e => by
          refine ⟨acc, hDa, hacc, acc ++ [.ref ax], upd_same, same_upd s1 hD, ?_⟩
          rw [et, List.filter_append, List.filter_cons, if_pos e]
          exact Sns.kept (pr_append R1 (.cons ⟨ax, rfl, hX⟩ .nil)) hDa Kept.upd
        have no : resB p t y = false → ∃ acc : List V, H1 D = some (.lst acc) ∧ Same H H1 ∧ Sns K H1 acc ((ss.take (i + 1)).filter (resB p t)) := fun e => by
          refine ⟨acc, hDa, s1, ?_⟩
          rw [et, List.filter_append, List.filter_cons, if_neg (by rw [e]; decide)]
          show Sns K H1 acc (_ ++ [])
          rw [List.append_nil]
          exact R1
        refine ⟨rfl, ?_⟩
        refine ⟨_, rfl, ax, _, _, _, rfl, rfl, hX, rfl, _, rfl, ?_⟩
        obtain ⟨ry, ly, hy'⟩ := y
        cases ry with
        | none => exact iteT (iteT ⟨_, rfl, yes rfl⟩)
        | some r =>
          refine iteF ⟨_, rfl, Or.inl ⟨_, rfl, _, rfl, _, _, rfl, rfl, hp, _, rfl, ax, _, _, _, rfl, rfl, hX, rfl, rfl, _, rfl, ?_⟩⟩
          by_cases c : t % p = r
          · exact iteB (decide_eq_true (congrArg V.int c)) ⟨_, rfl, yes (decide_eq_true c)⟩
          · exact iteC (decide_eq_false (fun z => c (V.int.inj z))) (no (decide_eq_false c))
      · rintro H1 ⟨acc, hDa, s1, R1⟩
        rw [hlen, List.take_length] at R1
        exact ⟨D, acc, rfl, s1, hDa, R1⟩
    · rintro σ' H1 ⟨L, vs, rfl, s1, hL, R1⟩
      have l1 := R1.length
      have l2 := List.length_filter_le (resB p t) ss
      refine ⟨_, rfl, L, rfl, ⟨_, SqL.of hL⟩, fun D hD => ?_⟩
      refine loop_list (xs := vs) (fun i H' => ∃ acc : List V, H' D = some (.lst acc) ∧ Same H1 H' ∧ Sns K H' acc (((ss.filter (resB p t)).take i).filter fun s => betw s.lo s.hi t)) ⟨[], upd_same, upd_new hD, by rw [List.take_zero]; exact .nil⟩ ?_ ?_ ?_
      · rintro i H' _ ⟨acc, _, s2, _⟩
        exact SqL.of (s2 _ _ hL)
      · rintro i x H2 hx ⟨acc, hDa, s2, R2⟩
        obtain ⟨y, hy, Sx⟩ := pr_get R1 hx
        have et : (ss.filter (resB p t)).take (i + 1) = (ss.filter (resB p t)).take i ++ [y] := by
          rw [List.take_add_one, hy]
          rfl
        obtain ⟨ax, rfl, hX⟩ := Tp.same Sx s2
        refine ⟨rfl, ?_⟩
        refine ⟨_, rfl, _, rfl, _, rfl, ax, _, rfl, hX, (by show ¬ (HT.sIx 3 0 (some 1) = 0 ∧ HT.sIx 3 3 none = 3); decide), fun q H3 n3 s3 e3 => ?_⟩
        refine ⟨t, _, y.lo, y.hi, rfl, Tp.of e3, _, rfl, ?_⟩
        cases c : betw y.lo y.hi t with
        | true =>
          have hD3 := s3 _ _ hDa
          refine iteT ⟨_, rfl, acc, hD3, ?_, acc ++ [.ref ax], upd_same, same_upd (Same.trans s2 s3) hD, ?_⟩
          · have h1 := R2.length
            have h2 := List.length_filter_le (fun s : Rn.Sp3 => betw s.lo s.hi t) ((ss.filter (resB p t)).take i)
            rw [List.length_take] at h2
            omega
          · rw [et, List.filter_append, List.filter_cons, if_pos c]
            exact Sns.kept (pr_append (Sns.same R2 s3) (.cons ⟨ax, rfl, SqT.same hX s3⟩ .nil)) hD3 Kept.upd
        | false =>
          refine iteF ⟨acc, s3 _ _ hDa, Same.trans s2 s3, ?_⟩
          rw [et, List.filter_append, List.filter_cons, if_neg (by rw [c]; decide)]
          show Sns K H3 acc (_ ++ [])
          rw [List.append_nil]
          exact Sns.same R2 s3
      · rintro H2 ⟨acc, hDa, s2, R2⟩
        rw [l1, List.take_length] at R2
        refine ⟨(by show 0 ≤ sizeLine; decide), fun q H3 n3 s3 e3 => ?_⟩
        refine ⟨_, .list (([] : List Rn.Sp3).map spD), .lst (SqL.of (s3 _ _ hDa)) (sps_dp (Sns.same R2 s3)), .lst (SqL.of e3) .nil, shaped_sps _, shaped_sps [], ?_⟩
        rw [sps_nil]
        exact k _ H3 in_iff (Same.trans s1 (Same.trans s2 s3))
end
end TM
end

section
set_option maxHeartbeats 4000000
namespace TM
open PySem PySem.Spec PyProof.Rows L2 EW
def Far (n : Int) : Prop := -1000000000000 ≤ n ∧ n ≤ 1000000000000
def spBounds (K : W.Frag) : Sp := fun vs H Q _ => ∃ (l : Addr) (xs : List V) (ss : List Rn.Sp3), vs = [.ref l] ∧ SqL K H l xs ∧ Sns K H xs ss ∧ (∀ s ∈ ss, Nr s.lo ∧ Nr s.hi) ∧ xs.length ≤ 100 ∧
  ∀ (q : Addr) (H' : Hp) (ns : List Int), H q = none → Same H H' → H' q = some (.lst (ns.map V.int)) → (∀ n ∈ ns, Far n) → ns.length ≤ 2 * ss.length → (∀ s ∈ ss, ∀ x, s.lo = some x ∨ s.hi = some x → x ∈ ns) → Q (.ref q) H'
section
variable {P : Program} {w : World} {K : W.Frag} {mg : Str → Option Value} {base : Heap}
theorem ok_bounds {fd : FuncData} (F : FnP K "_law_bounds" sBounds fd) : FnOk P w K mg base CX0 1 (He.ga K "_law_bounds") fd ["_law_spans_here"] (spBounds K) := by
  refine F.ok Bounds (fun vs H Q E h => ?_) (fun cdv A outer s H vs Q E hr h => ?_)
  · obtain ⟨l, xs, ss, rfl, _⟩ := h
    rfl
  · obtain ⟨l, xs, ss, rfl, hS, hR, hN, hz, k⟩ := h
    have hlen := hR.length
    have hbig : (1000 : Nat) < sizeLine := by decide
    refine ⟨_, PSs.nox (pss_cons (ps_set (i := 1) Bounds.nd rfl (Or.inl rfl) (pe_lstS pa_nil))
      (pss_cons (ps_for PassesOwn.never rfl (pi_listK (K := K) rfl (pv 0)) (pg_name (i := 2) Bounds.nd rfl (Or.inl rfl)) (pss_one (ps_expr (pe_bm PySem.F.plainAttrs_list PySem.F.slot_list_extend PySem.F.type_list_extend mt_extend (pv 1) (pa_cons (pe_lc (own := [("_law_bound_here", 3)]) (g := gName 3) (tt := _) (by rfl) Bounds.nd (pi_tupK (K := K) rfl (pe_slice (sl_tupS K rfl) (pv 2) (po_some pe_int) po_none)) (blkOk_by (own := [("_law_bound_here", 3)]) (N := NBounds) (sc := defScope sBounds) (by decide +kernel)) (fun _ _ _ _ _ => (pg_name (i := 3) Bounds.nd rfl (Or.inl rfl))) (fun _ _ _ _ _ => (pts_one (pt_cmp (pc_notN (pv 3))))) (fun _ _ _ _ _ => (pv 3))) pa_nil)))))
      (pss_one (ps_ret (pv 1))))), ?_⟩
    refine ⟨(by show 0 ≤ sizeLine; decide), fun f H1 n1 s1 e1 => ?_⟩
    refine ⟨_, rfl, l, rfl, ⟨_, s1.seq hS⟩, ?_⟩
    refine for_list (K := K) (a := l) (xs := xs) (fun i σ' H' => ∃ (u2 u3 : Option V) (ns : List Int), σ' = [some (.ref l), some (.ref f), u2, u3] ∧ Same H H' ∧ H' f = some (.lst (ns.map V.int)) ∧ (∀ n ∈ ns, Far n) ∧ ns.length ≤ 2 * i ∧ ∀ s ∈ ss.take i, ∀ x, s.lo = some x ∨ s.hi = some x → x ∈ ns) ⟨_, _, [], rfl, s1, e1, (fun n hn => nomatch hn), Nat.le_refl _, fun s hs => by rw [List.take_zero] at hs; cases hs⟩ ?_ ?_ ?_
    · rintro i σ' H' _ ⟨u2, u3, ns, _, s2, _⟩
      exact s2.seq hS
    · rintro i x σ' H2 hx ⟨u2, u3, ns, rfl, s2, hf, hfar, hnl, hall⟩
      obtain ⟨y, hy, Sx⟩ := pr_get hR hx
      have hi : i < xs.length := (List.getElem?_eq_some_iff.mp hx).1
      obtain ⟨N1, N2⟩ := hN y (List.mem_of_getElem? hy)
      obtain ⟨ax, rfl, hX⟩ := Tp.same Sx s2
      refine ⟨_, rfl, Or.inl ⟨rfl, _, SqL.of hf⟩, _, rfl, _, rfl, ax, _, rfl, hX, (by show ¬ (HT.sIx 3 0 (some 1) = 0 ∧ HT.sIx 3 3 none = 3); decide), fun q H3 n3 s3 e3 => ?_⟩
      have e3' : H3 q = some (.tup [ob y.lo, ob y.hi]) := e3
      refine ⟨q, rfl, ⟨_, SqT.of e3'⟩, fun D hD => ?_⟩
      refine loop_tup (xs := [ob y.lo, ob y.hi]) (fun j H' => ∃ ms : List Int, H' D = some (.lst (ms.map V.int)) ∧ Same H3 H' ∧ (∀ n ∈ ms, Far n) ∧ ms.length ≤ j ∧ ∀ o ∈ [y.lo, y.hi].take j, ∀ x, o = some x → x ∈ ms) ⟨[], upd_same, upd_new hD, (fun n hn => nomatch hn), Nat.le_refl _, fun o ho => by rw [List.take_zero] at ho; cases ho⟩ ?_ ?_ ?_
      · rintro j H' _ ⟨ms, _, s4, _⟩
        exact SqT.same (SqT.of e3') s4
      · rintro j x H4 hxj ⟨ms, hDa, s4, hm, hml, hmall⟩
        obtain ⟨o, rfl, ho, hoj⟩ : ∃ o, x = ob o ∧ Nr o ∧ [y.lo, y.hi][j]? = some o := by
          match j, hxj with
          | 0, h => exact ⟨y.lo, (Option.some.inj h).symm, N1, rfl⟩
          | 1, h => exact ⟨y.hi, (Option.some.inj h).symm, N2, rfl⟩
        have ej : [y.lo, y.hi].take (j + 1) = [y.lo, y.hi].take j ++ [o] := by
          rw [List.take_add_one, hoj]
          rfl
        have hj : j < 2 := (List.getElem?_eq_some_iff.mp hxj).1
        refine ⟨rfl, ?_⟩
        cases o with
        | none => exact ⟨_, rfl, _, rfl, iteF ⟨ms, hDa, s4, hm, by omega, fun o ho' x e => by
            rw [ej] at ho'
            rcases List.mem_append.mp ho' with ho' | ho'
            · exact hmall o ho' x e
            · rw [List.mem_singleton.mp ho'] at e
              cases e⟩⟩
        | some b =>
          refine ⟨_, rfl, _, rfl, iteT ⟨_, rfl, _, hDa, by rw [List.length_map]; omega, ms ++ [b], ?_, same_upd s4 hD, fun n hn => ?_, by rw [List.length_append]; exact Nat.succ_le_succ hml, fun o ho' x e => ?_⟩⟩
          · rw [upd_same, List.map_append]
            rfl
          · rcases List.mem_append.mp hn with hn | hn
            · exact hm n hn
            · rw [List.mem_singleton.mp hn]
              exact ho b rfl
          · rw [ej] at ho'
            rcases List.mem_append.mp ho' with ho' | ho'
            · exact List.mem_append_left _ (hmall o ho' x e)
            · rw [List.mem_singleton.mp ho'] at e
              cases e
              exact List.mem_append_right _ List.mem_cons_self
      · rintro H4 ⟨ms, hDa, s4, hm, hml, hmall⟩
        have hml2 : ms.length ≤ 2 := hml
        have s34 := Same.trans s3 s4
        have hf4 := s34 _ _ hf
        refine ⟨f, D, _, _, rfl, rfl, hf4, hDa, by rw [List.length_map, List.length_map]; omega, ?_⟩
        refine ⟨_, _, ns ++ ms, rfl, same_upd (Same.trans s2 s34) n1, by rw [upd_same, List.map_append], fun n hn => ?_, by rw [List.length_append]; omega, fun s hs x e => ?_⟩
        rcases List.mem_append.mp hn with hn | hn
        · exact hfar n hn
        · exact hm n hn
        rw [show ss.take (i + 1) = ss.take i ++ [y] by rw [List.take_add_one, hy]; rfl] at hs
        rcases List.mem_append.mp hs with hs | hs
        · exact List.mem_append_left _ (hall s hs x e)
        · rw [List.mem_singleton.mp hs] at e
          refine List.mem_append_right _ ?_
          rcases e with e | e
          · exact hmall y.lo List.mem_cons_self x e
          · exact hmall y.hi (List.mem_cons_of_mem _ List.mem_cons_self) x e
    · rintro σ' H2 ⟨u2, u3, ns, rfl, s2, hf, hfar, hnl, hall⟩
      rw [hlen, List.take_length] at hall
      exact ⟨_, rfl, k f H2 ns n1 s2 hf hfar (by omega) hall⟩
end
end TM
end

section
set_option maxHeartbeats 4000000
namespace TM
open PySem PySem.Spec PyProof.Rows L2 EW
/-- the drawn spans, one list of them -/
structure Dr1 (K : W.Frag) (H0 H : Hp) (d : Addr) (n : Int) (p : Int) (a : Addr) (ss : List Rn.Sp3) : Prop where
  p1 : 1 ≤ p
  p2 : p ≤ 12
  x : ∃ xs, H a = some (.lst xs) ∧ Sns K H xs ss
  ok : ∀ s ∈ ss, Sok p s
  z : ss.length ≤ 5
  na : a ≠ d
  k : EW.Kept d H0 H
  D : Dc H d n
section
variable {K : W.Frag} {H0 H H' : Hp} {d a : Addr} {n n' p : Int} {ss : List Rn.Sp3} {u : V} {A : Int → Prop} {m : Nat}
theorem Dr1.same (h : Dr1 K H0 H d n p a ss) (s : Same H H') : Dr1 K H0 H' d n p a ss :=
  ⟨h.p1, h.p2, let ⟨xs, e, r⟩ := h.x; ⟨xs, s _ _ e, Sns.same r s⟩, h.ok, h.z, h.na, h.k.trans (kept_of s), h.D.same s⟩
theorem Dr1.roll (h : Dr1 K H0 H d n p a ss) (k : EW.Kept d H H') (D : Dc H' d n') : Dr1 K H0 H' d n' p a ss := by
  obtain ⟨ds, hds⟩ := h.D.lst
  exact ⟨h.p1, h.p2, let ⟨xs, e, r⟩ := h.x; ⟨xs, k _ _ h.na e, Sns.kept r hds k⟩, h.ok, h.z, h.na, h.k.trans k, D⟩
theorem Dr1.mono (h : Dr1 K H0 H d n p a ss) (l : n ≤ n') : Dr1 K H0 H d n' p a ss := ⟨h.p1, h.p2, h.x, h.ok, h.z, h.na, h.k, h.D.mono l⟩
theorem Has.roll (h : Has K H u p A m) (D : Dc H d n) (k : EW.Kept d H H') : Has K H' u p A m := let ⟨_, hds⟩ := D.lst; h.kept hds k
theorem Dr1.nr (h : Dr1 K H0 H d n p a ss) : ∀ s ∈ ss, Nr s.lo ∧ Nr s.hi := fun s hs => (h.ok s hs).2
theorem Dr1.spok (h : Dr1 K H0 H d n p a ss) : ∀ s ∈ ss, Rn.SpOk p s := fun s hs => (h.ok s hs).1
end
end TM
end

section
set_option maxHeartbeats 4000000
/-! EwSet3: set(l) with its members told, sorted(s) of fewer than 64. -/
namespace EW
open PySem PySem.Spec PyProof.Rows L2
section
variable {X : Cx}
theorem cr_setLm (K : W.Frag) (w : World) (h : X.K = K) (hw : X.w = w) (hc : X.calm = true) : CallR X (.type "set") (fun vs H Q => ∃ (a : Addr) (ns : List Int), vs = [V.ref a] ∧ SqL K H a (ns.map V.int) ∧ ns.length + 1 < scanBound ∧ ∀ (p : Addr) (c : Nat) (H' : Hp), H p = none → Same H H' → H' p = some (SetO w p (fun j => decide (j ∈ ns)) c) → c ≤ ns.length → Q (.ref p) H') := by
  subst h
  subst hw
  intro pins s σ H vs us Q I r h
  obtain ⟨a, ns, rfl, hS, hb, q⟩ := h
  obtain rfl := Vals.ref1 r
  obtain ⟨its, rv, hl, hz⟩ := I.list hS
  refine call_setL (I.ok.hd hc) hl.isList (show IntsAre its.toArray.toList ns from rv.ints) hb fun h' tk c R hcn kp => ?_
  have hf := I.hok.fresh (Nat.le_refl s.heap.objs.size)
  exact ⟨.ref _, upd H s.heap.objs.size (SetO X.w s.heap.objs.size (fun j => decide (j ∈ ns)) c), I.laid (t' := tk) kp (Nat.le_refl _) (setO_new R), rfl, q _ c _ hf (sameN hf) upd_same hcn⟩
theorem cr_sortedSetm (w : World) (hw : X.w = w) (hc : X.calm = true) : CallR X (.builtin "sorted") (fun vs H Q => ∃ (a : Addr) (S : Int → Bool) (n : Nat), vs = [V.ref a] ∧ H a = some (SetO w a S n) ∧ n < 64 ∧ ∀ ns : List Int, ns.Pairwise (· < ·) → (∀ k : Int, k ∈ ns ↔ S k = true) → ns.length = n → New H (fun _ => .lst (ns.map V.int)) Q) := by
  subst hw
  intro pins s σ H vs us Q I r h
  obtain ⟨a, S, n, e, h1, h2, q⟩ := h
  exact cr_sortedSet hc pins s σ H vs us Q I r ⟨a, S, n, e, h1, h2, fun ns p g1 g2 g3 hp => (q ns g1 g2 g3).at hp⟩
end
end EW
end

section
set_option maxHeartbeats 4000000
namespace TM
open PySem PySem.Spec PyProof.Rows L2 EW
abbrev NIsCom : List Str := ["_law_sets", "_law_time", "_law_period_here", "_law_spans_here"]
theorem IsCom : FnScope NIsCom ["_law_sets", "_law_time"] (defScope sIsCom) := ⟨rfl, rfl, rfl, by decide +kernel, rfl, by decide +kernel, by decide +kernel⟩
abbrev NWhole : List Str := ["_law_sets", "_law_period_here", "_law_spans_here"]
theorem Whole : FnScope NWhole ["_law_sets"] (defScope sWhole) := ⟨rfl, rfl, rfl, by decide +kernel, rfl, by decide +kernel, by decide +kernel⟩
abbrev NCorn : List Str := ["_law_sets", "_law_begun_here", "_law_found", "_law_period_here", "_law_spans_here", "_law_bound_here", "_law_one"]
theorem Corn : FnScope NCorn ["_law_sets", "_law_begun_here"] (defScope sCorn) := ⟨rfl, rfl, rfl, by decide +kernel, rfl, by decide +kernel, by decide +kernel⟩
/-- a plain set: a period and spans -/
structure Pn where
  p : Int
  ss : List Rn.Sp3
structure Pn.Ok (x : Pn) : Prop where
  p1 : 1 ≤ x.p
  p2 : x.p ≤ 12
  d : 60 % x.p = 0
  ok : ∀ s ∈ x.ss, Sok x.p s
  few : x.ss.length ≤ 3
def PnV (K : W.Frag) (H : Hp) (v : V) (x : Pn) : Prop := ∃ l xs, Tp K H v [.int x.p, .ref l] ∧ H l = some (.lst xs) ∧ Sns K H xs x.ss
abbrev Pns (K : W.Frag) (H : Hp) (vs : List V) (xs : List Pn) : Prop := Paired (PnV K H) vs xs
def ComP (xs : List Pn) (t : Int) : Prop := ∀ x ∈ xs, Rn.inSpans x.p x.ss t
theorem PnV.same {K : W.Frag} {H H' : Hp} {v : V} {x : Pn} (h : PnV K H v x) (s : Same H H') : PnV K H' v x := let ⟨l, xs, h1, h2, h3⟩ := h; ⟨l, xs, h1.same s, s _ _ h2, Sns.same h3 s⟩
theorem PnV.roll {K : W.Frag} {H H' : Hp} {v : V} {x : Pn} {d : Addr} {n : Int} (h : PnV K H v x) (D : Dc H d n) (k : EW.Kept d H H') : PnV K H' v x := by
  obtain ⟨l, xs, h1, h2, h3⟩ := h
  obtain ⟨ds, hd⟩ := D.lst
  have ne : l ≠ d := fun e => by
    obtain ⟨g, b, c, hd', _⟩ := D
    rw [e, hd'] at h2
    cases h2
    obtain ⟨y, _, a, e, _⟩ := pr_get h3 (i := 0) (x := .int g) rfl
    cases e
  exact ⟨l, xs, h1.kept hd k, k _ _ ne h2, Sns.kept h3 hd k⟩
theorem Pns.same {K : W.Frag} {H H' : Hp} {vs : List V} {xs : List Pn} (h : Pns K H vs xs) (s : Same H H') : Pns K H' vs xs := Paired.mono (fun _ _ q => PnV.same q s) h
theorem Pns.roll {K : W.Frag} {H H' : Hp} {vs : List V} {xs : List Pn} {d : Addr} {n : Int} (h : Pns K H vs xs) (D : Dc H d n) (k : EW.Kept d H H') : Pns K H' vs xs := Paired.mono (fun _ _ q => PnV.roll q D k) h
theorem eqNil {K : W.Frag} {H : Hp} {Q : VK} {x y : V} {ds : List PyData} (hx : Dp K H x (.list ds)) (hs : SeqAt.shaped (.list ds) = true) (hy : Dp K H y (.list [])) (k : Q (.bl ds.isEmpty) H) : rEqD K x y H Q :=
  ⟨_, _, hx, hy, hs, nil_shaped, by rw [list_nil_eqv]; exact k⟩
/-- so many ones -/
abbrev ones (m : Nat) : List V := (List.replicate m (1 : Int)).map V.int
theorem ones_snoc {m : Nat} : ones m ++ [.int 1] = ones (m + 1) := by
  show _ = (List.replicate (m + 1) (1 : Int)).map V.int
  rw [List.replicate_succ', List.map_append]
  rfl
theorem ones_len {m : Nat} : (ones m).length = m := by rw [List.length_map, List.length_replicate]
theorem ones_emp {m : Nat} : ((List.replicate m (1 : Int)).map PyData.int).isEmpty = true ↔ m = 0 := by
  cases m with
  | zero => exact ⟨fun _ => rfl, fun _ => rfl⟩
  | succ m => exact ⟨(fun h => nomatch h), (fun h => nomatch h)⟩
def spIsCom (K : W.Frag) : Sp := fun vs H Q _ => ∃ (t : Int) (l : Addr) (vs' : List V) (xs : List Pn), vs = [.ref l, .int t] ∧ SqL K H l vs' ∧ Pns K H vs' xs ∧ (∀ x ∈ xs, x.Ok) ∧ vs'.length ≤ 10 ∧ ∀ (b : Bool) (H' : Hp), (b = true ↔ ComP xs t) → Same H H' → Q (.bl b) H'
def spWhole (K : W.Frag) : Sp := fun vs H Q _ => ∃ (l : Addr) (vs' : List V) (xs : List Pn), vs = [.ref l] ∧ SqL K H l vs' ∧ Pns K H vs' xs ∧ (∀ x ∈ xs, x.Ok) ∧ vs'.length ≤ 10 ∧ ∀ (H' : Hp), Same H H' → Q (.int 60) H'
/-- a bound of the spans, or one behind it -/
def Crn (xs : List Pn) (t : Int) : Prop := ∃ x ∈ xs, ∃ s ∈ x.ss, s.lo = some t ∨ s.lo = some (t - 1) ∨ s.hi = some t ∨ s.hi = some (t - 1)
def spCorn (K : W.Frag) : Sp := fun vs H Q _ => ∃ (a : Int) (l : Addr) (vs' : List V) (xs : List Pn), vs = [.ref l, .int a] ∧ SqL K H l vs' ∧ Pns K H vs' xs ∧ (∀ x ∈ xs, x.Ok) ∧ vs'.length ≤ 3 ∧
  ∀ (q : Addr) (ns : List Int) (H' : Hp), H q = none → Same H H' → H' q = some (.lst (ns.map V.int)) → ns.Pairwise (· < ·) → a ∈ ns → (∀ n ∈ ns, a ≤ n) → (∀ t, a < t → Crn xs t → t ∈ ns) → ns.length ≤ 63 → Q (.ref q) H'
section
variable {P : Program} {w : World} {K : W.Frag} {mg : Str → Option Value} {base : Heap}
theorem ok_isCom {fd : FuncData} (F : FnP K "_law_is_common" sIsCom fd) (D_law_is_in : Df P w K mg base 2 "_law_is_in" ["_law_period_here", "_law_spans_here", "_law_time"] (spIsIn K)) : FnOk P w K mg base CX0 3 (He.ga K "_law_is_common") fd ["_law_sets", "_law_time"] (spIsCom K) := by
  refine F.ok IsCom (fun vs H Q E h => ?_) (fun cdv A outer s H vs Q E hr h => ?_)
  · obtain ⟨t, l, vs', xs, rfl, _⟩ := h
    rfl
  · obtain ⟨t, l, vs', xs, rfl, hS, hU, hok, hz, k⟩ := h
    have hlen := hU.length
    have hbig : (1000 : Nat) < sizeLine := by decide
    refine ⟨_, PSs.nox (pss_one (ps_ret (pe_cmpR (op_eqDK K rfl hr.units) (pe_lc (own := [("_law_period_here", 2), ("_law_spans_here", 3)]) (g := gTup K 2 (gCons (gName 2) (gCons (gName 3) gNil))) (tt := _) (by rfl) IsCom.nd (pi_listK (K := K) rfl (pv 0)) (blkOk_by (own := [("_law_period_here", 2), ("_law_spans_here", 3)]) (N := NIsCom) (sc := defScope sIsCom) (by decide +kernel)) (fun _ _ _ _ _ => (pg_tup rfl (pgs_cons (pg_name (i := 2) IsCom.nd rfl (Or.inl rfl)) (pgs_cons (pg_name (i := 3) IsCom.nd rfl (Or.inl rfl)) pgs_nil)))) (fun _ _ _ _ _ => (pts_one (pt_not (pt_val (pe_df D_law_is_in (hr.mono (by decide)) rfl (pa_cons (pv 2) (pa_cons (pv 3) (pa_cons (pv 1) pa_nil)))))))) (fun _ _ _ _ _ => pe_int)) (pe_lstS pa_nil) (nomark _)))), ?_⟩
    refine ⟨_, rfl, l, rfl, ⟨_, hS⟩, fun L hL => ?_⟩
    refine loop_list (xs := vs') (fun i H' => ∃ m : Nat, H' L = some (.lst (ones m)) ∧ Same H H' ∧ m ≤ i ∧ (m = 0 ↔ ComP (xs.take i) t)) ⟨0, upd_same, upd_new hL, Nat.le_refl _, ⟨fun _ x hx => (by rw [List.take_zero] at hx; cases hx), fun _ => rfl⟩⟩ ?_ ?_ ?_
    · rintro j H' _ ⟨m, _, s2, _⟩
      exact s2.seq hS
    · rintro j x H2 hx ⟨m, hLa, s2, hl, he⟩
      obtain ⟨y, hy, Px⟩ := pr_get hU hx
      have hj : j < vs'.length := (List.getElem?_eq_some_iff.mp hx).1
      have oy := hok y (List.mem_of_getElem? hy)
      have et : xs.take (j + 1) = xs.take j ++ [y] := by
        rw [List.take_add_one, hy]
        rfl
      have snoc : ComP (xs.take (j + 1)) t ↔ ComP (xs.take j) t ∧ Rn.inSpans y.p y.ss t := by
        rw [et]
        constructor
        · intro h
          exact ⟨fun z hz => h z (List.mem_append_left _ hz), h y (List.mem_append_right _ List.mem_cons_self)⟩
        · rintro ⟨h1, h2⟩ z hz
          rcases List.mem_append.mp hz with hz | hz
          · exact h1 z hz
          · rw [List.mem_singleton.mp hz]
            exact h2
      obtain ⟨lq, ys, ⟨ax, rfl, hX⟩, eq, R⟩ := Px.same s2
      have hlq := R.length
      have hf := oy.few
      refine ⟨ax, _, rfl, hX, rfl, _, _, rfl, _, _, rfl, rfl, ?_⟩
      refine ⟨rfl, _, rfl, _, rfl, _, rfl, y.p, t, lq, ys, y.ss, rfl, by have := oy.p1; omega, SqL.of eq, R, by omega, fun b H3 hb s3 => ⟨_, rfl, ?_⟩⟩
      have s23 := Same.trans s2 s3
      cases b with
      | true => exact iteF ⟨m, s3 _ _ hLa, s23, by omega, he.trans ⟨fun h => snoc.mpr ⟨h, hb.mp rfl⟩, fun h => (snoc.mp h).1⟩⟩
      | false =>
        refine iteT ⟨_, s3 _ _ hLa, by rw [ones_len]; omega, m + 1, by rw [upd_same, ones_snoc], same_upd s23 hL, by omega, ⟨(fun h => nomatch h), fun h => ?_⟩⟩
        cases hb.mpr (snoc.mp h).2
    · rintro H2 ⟨m, hLa, s2, hl, he⟩
      rw [hlen, List.take_length] at he
      refine ⟨(by show 0 ≤ sizeLine; decide), fun q H9 n9 s9 e9 => ?_⟩
      refine eqNil (.lst (SqL.of (s9 _ _ hLa)) (ints_dp _)) (shaped_ints _) (.lst (SqL.of e9) .nil) ?_
      exact k _ H9 (ones_emp.trans he) (Same.trans s2 s9)
theorem ok_whole {fd : FuncData} (F : FnP K "_law_whole" sWhole fd) (T : Fre mg) : FnOk P w K mg base CX0 1 (He.ga K "_law_whole") fd ["_law_sets"] (spWhole K) := by
  refine F.ok Whole (fun vs H Q E h => ?_) (fun cdv A outer s H vs Q E hr h => ?_)
  · obtain ⟨l, vs', xs, rfl, _⟩ := h
    rfl
  · obtain ⟨l, vs', xs, rfl, hS, hU, hok, hz, k⟩ := h
    have hlen := hU.length
    refine ⟨_, PSs.nox (pss_one (ps_ret (pe_ifExp (pt_cmpR (op_eqDK K rfl hr.units) (pe_lc (own := [("_law_period_here", 1), ("_law_spans_here", 2)]) (g := gTup K 2 (gCons (gName 1) (gCons (gName 2) gNil))) (tt := _) (by rfl) Whole.nd (pi_listK (K := K) rfl (pv 0)) (blkOk_by (own := [("_law_period_here", 1), ("_law_spans_here", 2)]) (N := NWhole) (sc := defScope sWhole) (by decide +kernel)) (fun _ _ _ _ _ => (pg_tup rfl (pgs_cons (pg_name (i := 1) Whole.nd rfl (Or.inl rfl)) (pgs_cons (pg_name (i := 2) Whole.nd rfl (Or.inl rfl)) pgs_nil)))) (fun _ _ _ _ _ => (pts_one (pt_cmpR op_ne (pe_op op_mod pe_int (pe_callTy call_int1 (by rfl) T.int EW.boot_int (pa_cons (pv 1) pa_nil))) pe_int (nomark _)))) (fun _ _ _ _ _ => pe_int)) (pe_lstS pa_nil) (nomark _)) pe_int pe_int))), ?_⟩
    refine ⟨_, rfl, l, rfl, ⟨_, hS⟩, fun L hL => ?_⟩
    refine loop_list (xs := vs') (fun i H' => H' L = some (.lst []) ∧ Same H H') ⟨upd_same, upd_new hL⟩ ?_ ?_ ?_
    · rintro j H' _ ⟨_, s2⟩
      exact s2.seq hS
    · rintro j x H2 hx ⟨hLa, s2⟩
      obtain ⟨y, hy, Px⟩ := pr_get hU hx
      have oy := hok y (List.mem_of_getElem? hy)
      obtain ⟨lq, ys, ⟨ax, rfl, hX⟩, eq, R⟩ := Px.same s2
      refine ⟨ax, _, rfl, hX, rfl, _, _, rfl, _, _, rfl, rfl, ?_⟩
      refine ⟨rfl, _, rfl, Or.inl ⟨_, rfl, _, _, rfl, rfl, (by have := oy.p1; omega : (0 : Int) < y.p), rfl, _, rfl, iteC (ne_no (congrArg V.int oy.d)) ⟨hLa, s2⟩⟩⟩
    · rintro H2 ⟨hLa, s2⟩
      refine ⟨(by show 0 ≤ sizeLine; decide), fun q H9 n9 s9 e9 => ?_⟩
      refine eqNil (ds := []) (.lst (SqL.of (s9 _ _ hLa)) .nil) nil_shaped (.lst (SqL.of e9) .nil) ⟨_, rfl, iteT ?_⟩
      exact k H9 (Same.trans s2 s9)
theorem ok_corn {fd : FuncData} (F : FnP K "_law_corners" sCorn fd) (T : Fre mg) (D_law_bounds : Df P w K mg base 1 "_law_bounds" ["_law_spans_here"] (spBounds K)) : FnOk P w K mg base CX0 2 (He.ga K "_law_corners") fd ["_law_sets", "_law_begun_here"] (spCorn K) := by
  refine F.ok Corn (fun vs H Q E h => ?_) (fun cdv A outer s H vs Q E hr h => ?_)
  · obtain ⟨a, l, vs', xs, rfl, _⟩ := h
    rfl
  · obtain ⟨a, l, vs', xs, rfl, hS, hU, hok, hz, k⟩ := h
    have hlen := hU.length
    have hbig : (1000 : Nat) < sizeLine := by decide
    refine ⟨_, PSs.nox (pss_cons (ps_set (i := 2) Corn.nd rfl (Or.inl rfl) (pe_lstS (pa_cons (pv 1) pa_nil)))
      (pss_cons (ps_for PassesOwn.never rfl (pi_listK (K := K) rfl (pv 0)) (pg_tup rfl (pgs_cons (pg_name (i := 3) Corn.nd rfl (Or.inl rfl)) (pgs_cons (pg_name (i := 4) Corn.nd rfl (Or.inl rfl)) pgs_nil))) (pss_one (ps_for PassesOwn.never rfl (pi_listK (K := K) rfl (pe_df D_law_bounds (hr.mono (by decide)) rfl (pa_cons (pv 4) pa_nil))) (pg_name (i := 5) Corn.nd rfl (Or.inl rfl)) (pss_one (ps_expr (pe_bm PySem.F.plainAttrs_list PySem.F.slot_list_extend PySem.F.type_list_extend mt_extend (pv 2) (pa_cons (pe_lc (own := [("_law_one", 6)]) (g := gName 6) (tt := _) (by rfl) Corn.nd (pi_tupK (K := K) rfl (pe_tupS (pa_cons (pv 5) (pa_cons (pe_op op_add (pv 5) pe_int) pa_nil)))) (blkOk_by (own := [("_law_one", 6)]) (N := NCorn) (sc := defScope sCorn) (by decide +kernel)) (fun _ _ _ _ _ => (pg_name (i := 6) Corn.nd rfl (Or.inl rfl))) (fun _ _ _ _ _ => (pts_one (pt_cmpR op_gt (pv 6) (pv 1) (nomark _)))) (fun _ _ _ _ _ => (pv 6))) pa_nil)))))))
      (pss_one (ps_ret (pe_callB (cr_sortedSetm w rfl rfl) (by rfl) T.sorted EW.boot_sorted (pa_cons (pe_callTy (cr_setLm K w rfl rfl rfl) (by rfl) T.set EW.boot_set (pa_cons (pv 2) pa_nil)) pa_nil)))))), ?_⟩
    refine ⟨_, rfl, (by show 1 ≤ sizeLine; decide), fun f H1 n1 s1 e1 => ?_⟩
    have e1 : H1 f = some (.lst (([a] : List Int).map V.int)) := e1
    refine ⟨_, rfl, l, rfl, ⟨_, s1.seq hS⟩, ?_⟩
    refine for_list (K := K) (a := l) (xs := vs') (fun i σ' H' => ∃ (u3 u4 u5 u6 : Option V) (ns : List Int), σ' = [some (.ref l), some (.int a), some (.ref f), u3, u4, u5, u6] ∧ EW.Kept f H1 H' ∧ H' f = some (.lst (ns.map V.int)) ∧ a ∈ ns ∧ (∀ n ∈ ns, a ≤ n) ∧ (∀ t, a < t → Crn (xs.take i) t → t ∈ ns) ∧ ns.length ≤ 1 + 12 * i) ⟨_, _, _, _, [a], rfl, EW.Kept.refl _ _, e1, List.mem_cons_self, (fun n hn => by rw [List.mem_singleton.mp hn]; exact Int.le_refl _), (fun t _ ⟨x, hx, _⟩ => by rw [List.take_zero] at hx; cases hx), Nat.le_refl _⟩ ?_ ?_ ?_
    · rintro i σ' H' _ ⟨_, _, _, _, _, _, k2, _⟩
      have s2 : Same H H' := fun c o hc => k2 _ _ (ne_of_none hc n1) (s1 _ _ hc)
      exact s2.seq hS
    · rintro i x σ' H2 hx ⟨u3, u4, u5, u6, ns, rfl, k2, e2, ha, hge, hcr, hl⟩
      obtain ⟨y, hy, Px⟩ := pr_get hU hx
      have hi : i < vs'.length := (List.getElem?_eq_some_iff.mp hx).1
      have oy := hok y (List.mem_of_getElem? hy)
      have et : xs.take (i + 1) = xs.take i ++ [y] := by
        rw [List.take_add_one, hy]
        rfl
      have s2 : Same H H2 := fun c o hc => k2 _ _ (ne_of_none hc n1) (s1 _ _ hc)
      obtain ⟨lq, ys, ⟨ax, rfl, hX⟩, eq, R⟩ := Px.same s2
      have hlq := R.length
      have hf := oy.few
      refine ⟨ax, _, rfl, hX, rfl, _, _, rfl, _, _, rfl, rfl, ?_⟩
      refine ⟨_, rfl, lq, ys, y.ss, rfl, SqL.of eq, R, fun s hs => (oy.ok s hs).2, by omega, fun q H3 bs n3 s3 e3 hfar hbl hall => ?_⟩
      have nqf : q ≠ f := (ne_of_none e2 n3).symm
      refine ⟨q, rfl, ⟨_, SqL.of e3⟩, ?_⟩
      have e23 := s3 _ _ e2
      refine for_list (K := K) (a := q) (xs := bs.map V.int) (fun j σ' H' => ∃ (u5 u6 : Option V) (ms : List Int), σ' = [some (.ref l), some (.int a), some (.ref f), some (.int y.p), some (.ref lq), u5, u6] ∧ EW.Kept f H3 H' ∧ H' f = some (.lst (ms.map V.int)) ∧ (∀ n ∈ ns, n ∈ ms) ∧ (∀ n ∈ ms, a ≤ n) ∧ (∀ t, a < t → t ∈ bs.take j ∨ t - 1 ∈ bs.take j → t ∈ ms) ∧ ms.length ≤ ns.length + 2 * j) ⟨_, _, ns, rfl, EW.Kept.refl _ _, e23, (fun n hn => hn), hge, (fun t _ h => by rw [List.take_zero] at h; rcases h with h | h <;> cases h), Nat.le_refl _⟩ ?_ ?_ ?_
      · rintro j σ' H' _ ⟨_, _, _, _, k4, _⟩
        exact SqL.of (k4 _ _ nqf e3)
      · rintro j x σ' H4 hx' ⟨u5, u6, ms, rfl, k4, e4, hm1, hm2, hm3, hml⟩
        rw [List.getElem?_map] at hx'
        obtain ⟨b, hb, rfl⟩ := Option.map_eq_some_iff.mp hx'
        have hj : j < bs.length := (List.getElem?_eq_some_iff.mp hb).1
        have ej : bs.take (j + 1) = bs.take j ++ [b] := by
          rw [List.take_add_one, hb]
          rfl
        refine ⟨_, rfl, Or.inl ⟨rfl, _, SqL.of e4⟩, _, rfl, _, rfl, _, _, rfl, rfl, (by show 2 ≤ sizeLine; decide), fun p5 H5 n5 s5 e5 => ?_⟩
        refine ⟨p5, rfl, ⟨_, SqT.of e5⟩, fun L hL => ?_⟩
        refine loop_tup (xs := [.int b, .int (b + 1)]) (fun i H' => ∃ ws : List Int, H' L = some (.lst (ws.map V.int)) ∧ Same H5 H' ∧ (∀ w ∈ ws, a ≤ w) ∧ (∀ t ∈ [b, b + 1].take i, a < t → t ∈ ws) ∧ ws.length ≤ i) ⟨[], upd_same, upd_new hL, (fun w hw => nomatch hw), (fun t ht => by rw [List.take_zero] at ht; cases ht), Nat.le_refl _⟩ ?_ ?_ ?_
        · rintro i H' _ ⟨ws, _, s6, _⟩
          exact SqT.same (SqT.of e5) s6
        · rintro i x H6 hx6 ⟨ws, hLa, s6, hw1, hw2, hwl⟩
          obtain ⟨c, rfl, hc⟩ : ∃ c, x = V.int c ∧ [b, b + 1][i]? = some c := by
            match i, hx6 with
            | 0, h => exact ⟨b, (Option.some.inj h).symm, rfl⟩
            | 1, h => exact ⟨b + 1, (Option.some.inj h).symm, rfl⟩
          have ei : [b, b + 1].take (i + 1) = [b, b + 1].take i ++ [c] := by
            rw [List.take_add_one, hc]
            rfl
          have hi2 : i < 2 := (List.getElem?_eq_some_iff.mp hc).1
          refine ⟨rfl, _, rfl, _, rfl, _, _, rfl, rfl, _, rfl, ite2 (fun d => ?_) fun d => ?_⟩
          · have d := of_decide_eq_true d
            refine ⟨_, rfl, _, hLa, by rw [List.length_map]; omega, ws ++ [c], ?_, same_upd s6 hL, fun w hw => ?_, fun t ht hat => ?_, by rw [List.length_append]; exact Nat.succ_le_succ hwl⟩
            · rw [upd_same, List.map_append]
              rfl
            · rcases List.mem_append.mp hw with hw | hw
              · exact hw1 w hw
              · rw [List.mem_singleton.mp hw]
                omega
            · rw [ei] at ht
              rcases List.mem_append.mp ht with ht | ht
              · exact List.mem_append_left _ (hw2 t ht hat)
              · exact List.mem_append_right _ ht
          · have d := not_of d
            refine ⟨ws, hLa, s6, hw1, fun t ht hat => ?_, by omega⟩
            rw [ei] at ht
            rcases List.mem_append.mp ht with ht | ht
            · exact hw2 t ht hat
            · rw [List.mem_singleton.mp ht] at hat
              exact absurd hat d
        · rintro H6 ⟨ws, hLa, s6, hw1, hw2, hwl⟩
          have s46 := Same.trans s5 s6
          have hwl : ws.length ≤ 2 := hwl
          refine ⟨f, L, _, _, rfl, rfl, s46 _ _ e4, hLa, by rw [List.length_map, List.length_map]; omega, ?_⟩
          refine ⟨_, _, ms ++ ws, rfl, k4.trans ((kept_of s46).trans Kept.upd), by rw [upd_same, List.map_append], fun n hn => List.mem_append_left _ (hm1 n hn), fun n hn => (List.mem_append.mp hn).elim (hm2 n) (hw1 n), fun t hat h => ?_, by rw [List.length_append]; omega⟩
          rw [ej] at h
          have h2 : (t ∈ bs.take j ∨ t - 1 ∈ bs.take j) ∨ t = b ∨ t = b + 1 := by
            rcases h with h | h
            · rcases List.mem_append.mp h with h | h
              · exact .inl (.inl h)
              · exact .inr (.inl (List.mem_singleton.mp h))
            · rcases List.mem_append.mp h with h | h
              · exact .inl (.inr h)
              · have := List.mem_singleton.mp h
                exact .inr (.inr (by omega))
          rcases h2 with h2 | h2 | h2
          · exact List.mem_append_left _ (hm3 t hat h2)
          · exact List.mem_append_right _ (hw2 t (by rw [h2]; exact List.mem_cons_self) hat)
          · exact List.mem_append_right _ (hw2 t (by rw [h2]; exact List.mem_cons_of_mem _ List.mem_cons_self) hat)
      · rintro σ' H4 ⟨u5, u6, ms, rfl, k4, e4, hm1, hm2, hm3, hml⟩
        rw [List.length_map] at hm3 hml
        rw [List.take_length] at hm3
        refine ⟨_, _, _, _, ms, rfl, k2.trans ((kept_of s3).trans k4), e4, hm1 a ha, hm2, fun t hat hc => ?_, by omega⟩
        rw [et] at hc
        obtain ⟨z, hz', s, hs, h⟩ := hc
        rcases List.mem_append.mp hz' with hz' | hz'
        · exact hm1 t (hcr t hat ⟨z, hz', s, hs, h⟩)
        · rw [List.mem_singleton.mp hz'] at hs
          refine hm3 t hat ?_
          rcases h with h | h | h | h
          · exact .inl (hall s hs t (.inl h))
          · exact .inr (hall s hs _ (.inl h))
          · exact .inl (hall s hs t (.inr h))
          · exact .inr (hall s hs _ (.inr h))
    · rintro σ' H2 ⟨u3, u4, u5, u6, ns, rfl, k2, e2, ha, hge, hcr, hl⟩
      rw [hlen, List.take_length] at hcr
      rw [hlen] at hz hl
      have s2 : Same H H2 := fun c o hc => k2 _ _ (ne_of_none hc n1) (s1 _ _ hc)
      refine ⟨_, rfl, f, ns, rfl, SqL.of e2, Nat.lt_of_le_of_lt (by omega : ns.length + 1 ≤ 38) (by decide), fun q5 c H5 n5 s5 e5 hc => ⟨q5, _, c, rfl, e5, by omega, fun zs z1 z2 z3 q6 H6 n6 s6 e6 => ?_⟩⟩
      have hm : ∀ t, t ∈ zs ↔ t ∈ ns := fun t => by rw [z2, decide_eq_true_iff]
      refine k q6 zs H6 ?_ (Same.trans s2 (Same.trans s5 s6)) e6 z1 ((hm a).mpr ha) (fun n hn => hge n ((hm n).mp hn)) (fun t ht hc => (hm t).mpr (hcr t ht hc)) (by omega)
      cases e : H q6 with
      | none => rfl
      | some o => rw [s5 _ _ (s2 _ _ e)] at n6; cases n6
end
end TM
end

section

/-! EwPer: counting members of a set that comes again after 60, from corner to corner. -/
namespace Rn
section
variable {A : Int → Prop} {lo hi : Int}
theorem cntN_shift {d : Int} : ∀ {n : Nat}, cntN A (lo + d) n = cntN (fun t => A (t + d)) lo n
  | 0 => rfl
  | n + 1 => by
    unfold cntN
    rw [cntN_shift (n := n), show lo + d + (n : Int) = lo + (n : Int) + d by omega]
theorem cnt_shift {d : Int} : cnt A (lo + d) (hi + d) = cnt (fun t => A (t + d)) lo hi := by
  unfold cnt
  rw [show (hi + d + 1 - (lo + d)).toNat = (hi + 1 - lo).toNat by omega]
  exact cntN_shift
theorem cnt_per {c c' : Int} (h : ∀ t, c ≤ t → t + 60 < c' → (A t ↔ A (t + 60))) : ∀ (k : Nat) (r : Int), 0 ≤ r → c + 60 * (k : Int) + r ≤ c' → cnt A c (c + 60 * (k : Int) + r - 1) = k * cnt A c (c + 59) + cnt A c (c + r - 1)
  | 0, r, _, _ => by
    rw [Nat.zero_mul, Nat.zero_add, show c + 60 * ((0 : Nat) : Int) + r - 1 = c + r - 1 by omega]
  | k + 1, r, h0, h1 => by
    rw [cnt_cut (c := c + 59) (by omega) (by omega)]
    have e1 : c + 59 + 1 = c + 60 := by omega
    have e2 : c + 60 * ((k + 1 : Nat) : Int) + r - 1 = c + 60 * (k : Int) + r - 1 + 60 := by omega
    rw [e1, e2, cnt_shift, ← cnt_congr fun t t0 t1 => h t t0 (by omega), cnt_per h k r h0 (by omega), Nat.succ_mul]
    omega
theorem asc_next {cs : List Int} (pw : cs.Pairwise (· < ·)) {i : Nat} {c t : Int} (hc : cs[i]? = some c) (ht : t ∈ cs) (lt : c < t) : ∃ c', cs[i + 1]? = some c' ∧ c' ≤ t := by
  obtain ⟨j, hj⟩ := List.getElem?_of_mem ht
  have i1 := (List.getElem?_eq_some_iff.mp hc)
  have j1 := (List.getElem?_eq_some_iff.mp hj)
  obtain ⟨hi, ei⟩ := i1
  obtain ⟨hjl, ej⟩ := j1
  have pg := List.pairwise_iff_getElem.mp pw
  have hij : i < j := by
    rcases Nat.lt_trichotomy i j with q | q | q
    · exact q
    · subst q
      omega
    · have := pg j i hjl hi q
      omega
  refine ⟨cs[i + 1]'(by omega), List.getElem?_eq_getElem (by omega), ?_⟩
  rcases Nat.lt_or_ge (i + 1) j with q | q
  · have := pg (i + 1) j (by omega) hjl q
    omega
  · have : j = i + 1 := by omega
    subst this
    omega
theorem asc_lt {cs : List Int} (pw : cs.Pairwise (· < ·)) {i : Nat} {c c' : Int} (hc : cs[i]? = some c) (hc' : cs[i + 1]? = some c') : c < c' := by
  obtain ⟨hi, ei⟩ := List.getElem?_eq_some_iff.mp hc
  obtain ⟨hj, ej⟩ := List.getElem?_eq_some_iff.mp hc'
  have := List.pairwise_iff_getElem.mp pw i (i + 1) hi hj (Nat.lt_succ_self _)
  omega
end
end Rn
end

section
set_option maxHeartbeats 4000000
/-! EwRgW: walks over range(a), range(a, b) with bounds of any size. -/
namespace EW
open PySem PySem.Spec PyProof.Rows L2
theorem turn_long {P : Program} {w : World} {K : W.Frag} {tg : Expr} (it : Addr) (lo : Int) (n : Nat) : Turn P w K tg (Itr lo n) [it] it (fun i h => IsLongIter h it (lo + (i : Nat) * 1) ((n : Int) - (i : Nat)) 1) where
  mem := by simp
  obj := fun i h st b hb => by
    have e : b = it := by simpa using hb
    subst e
    exact ⟨_, st, fun v z => by
      have z' : Data.fields _ = Data.cell v := z
      cases z'⟩
  keep := fun i h h' st k => k it (by simp) _ st
  item := by
    intro X hP hw hK hc i pins s σ H E I hf st hg
    subst hP hw hK
    obtain ⟨f0, f1, f2, f3, f4, f5⟩ := hf it (by simp)
    have W := Walks.longrange (prog := X.prog) (w := X.w) (I.ok.hd hc) it lo 1 n
    refine W.item i s _ _ hg st fun v h' tk hv st' kk => ?_
    obtain ⟨t, rfl⟩ := hv
    have I1 : Inv X pins σ H { s with heap := h', toks := tk } := I.turned (fun b o hb e => kk b o (by simpa using hb) e) f0 f1 f3 f4 f5
    refine ⟨_, rfl, go_of (s := { s with heap := h', toks := tk }) (n := "longrange_iterator") st' rfl rfl (by decide) ⟨.int (lo + i), H, I1, ⟨t, ?_⟩, ⟨rfl, rfl⟩, st', fun b hb => (hf b hb).1⟩⟩
    rw [Int.mul_one]
  done := by
    intro X hP hw hK hc i pins s σ H E I hf st hg
    subst hP hw hK
    obtain ⟨f0, f1, f2, f3, f4, f5⟩ := hf it (by simp)
    exact wpAny_pyNext_long_end (I.ok.hd hc) st (by have : n ≤ i := hg; omega) fun h' eb => ⟨rfl, I.turned (t' := s.toks) (fun b o hb e => eb b o hb e) f0 f1 f3 f4 f5⟩
  self := fun _ _ _ _ _ st h => wpAny_pyIter_longiter st h
theorem range_itW {X : Cx} {tg : Expr} {pins : List (Addr × Obj)} {σ : L2.St} {H : Hp} {s : Shared} {R : It → Hp → Prop} {E : Value → Shared → Prop} {lo hi : Int} {t u v : Tok} {tk : Nat} (I : Inv X pins σ H s)
    (q : R (Itr lo (hi - lo).toNat) H) : wpAny (model X.prog X.w) X.A (pyIter (.ref s.heap.objs.size)) (PIE X pins σ tg R) E { s with heap := s.heap.push { cls := .type "range", data := .fields #[.int lo t, .int hi u, .int 1 v] }, toks := tk } := by
  have I1 : Inv X pins σ H { s with heap := s.heap.push { cls := .type "range", data := .fields #[.int lo t, .int hi u, .int 1 v] }, toks := tk } := I.kept fun b o e => Heap.get?_push_of_some _ e
  have e2 : (((hi - lo).toNat : Nat) : Int) - ((0 : Nat) : Int) = Builtin.Range.rangeSize lo hi 1 := by rw [rangeSize_one]; split <;> omega
  have e1 : lo + ((0 : Nat) : Int) * 1 = lo := by simp
  have fp : ∀ b ∈ [(s.heap.push { cls := .type "range", data := .fields #[.int lo t, .int hi u, .int 1 v] }).objs.size], FpOk X pins H b := fun b hb => by
    have e : b = (s.heap.push { cls := .type "range", data := .fields #[.int lo t, .int hi u, .int 1 v] }).objs.size := by simpa using hb
    subst e
    exact I1.fpOk (Nat.le_refl _) (I1.hok.fresh (Nat.le_refl _))
  by_cases hsm : Builtin.Range.small lo hi 1 = true
  · refine wpAny_pyIter_range (IsRange.new ..) hsm ?_
    refine ⟨_, _, _, _, H, rfl, I1.kept (t' := tk) fun b o e => Heap.get?_push_of_some _ e, turn_range _ lo (hi - lo).toNat, ?_, fp, q⟩
    show IsRangeIter _ _ (lo + ((0 : Nat) : Int) * 1) ((((hi - lo).toNat : Nat) : Int) - ((0 : Nat) : Int)) 1
    rw [e1, e2]
    exact Heap.get?_push_size _ rfl
  · refine wpAny_pyIter_longrange (IsRange.new ..) (by simpa using hsm) ?_
    refine ⟨_, _, _, _, H, rfl, I1.kept (t' := tk) fun b o e => Heap.get?_push_of_some _ e, turn_long _ lo (hi - lo).toNat, ?_, fp, q⟩
    show IsLongIter _ _ (lo + ((0 : Nat) : Int) * 1) ((((hi - lo).toNat : Nat) : Int) - ((0 : Nat) : Int)) 1
    rw [e1, e2]
    exact Heap.get?_push_size _ rfl
def iRng2W (ta : TA) : TI := fun σ H R => ta σ H fun vs H1 => ∃ i j : Int, vs = [.int i, .int j] ∧ R (Itr i (j - i).toNat) H1
theorem pi_range2W {X : Cx} {tg : Expr} {a b : Expr} {ta : TA} {p pos : Pos} (hg : Gl X "range") (hm : X.mg "range" = none) (ha : PA X [a, b] ta) (hs : starEach [a, b] X.env = [(false, eval a X.env), (false, eval b X.env)] := by rfl) (hs2 : starEach [b] X.env = [(false, eval b X.env)] := by rfl) :
    PI X tg (.Call (.Name "range" p) [a, b] [] pos) (iRng2W ta) := by
  refine ⟨fun pins s σ H R I h => ?_⟩
  refine Call_ (ld_blt I hg hm boot_range (PyProof.Rows.callWith_type1 (thn (ha.run pos pins s σ H _ I h) fun us s1 ⟨vs, H1, I1, r1, q1⟩ => ?_) (by rw [hs, hs2]) (by rw [hs2]; rfl)))
  obtain ⟨i, j, e, q⟩ := q1
  subst e
  cases r1 with
  | cons r rr =>
    cases rr with
    | cons r' rr =>
      cases rr
      obtain ⟨t, rfl⟩ := r
      obtain ⟨t', rfl⟩ := r'
      exact call_range_2 (range_itW I1 q)
end EW
end

section
set_option maxHeartbeats 4000000
namespace TM
open PySem PySem.Spec PyProof.Rows L2 EW
abbrev NManyL : List Str := ["_law_sets", "_law_low", "_law_high", "_law_whole_here", "_law_total", "_law_corners_here", "_law_one", "_law_behind", "_law_turns", "_law_rest", "_law_some", "_law_time"]
theorem ManyL : FnScope NManyL ["_law_sets", "_law_low", "_law_high"] (defScope sManyL) := ⟨rfl, rfl, rfl, by decide +kernel, rfl, by decide +kernel, by decide +kernel⟩
/-- a loop over zip of two lists, the first one no longer than the second -/
theorem for_zipLe {K : W.Frag} {a b : Addr} {xs ys : List V} {g : TG} {tb : TS} {D : Ends} {σ : L2.St} {H : Hp} (hl : xs.length ≤ ys.length) (Pv : Nat → L2.St → Hp → Prop) (h0 : Pv 0 σ H) (hq : ∀ i σ H, Pv i σ H → SqL K H a xs ∧ SqL K H b ys)
    (hs : ∀ (i : Nat) (x y : V) (T : Addr) (σ : L2.St) (H : Hp), xs[i]? = some x → ys[i]? = some y → Pv i σ H → H T = none → g (.ref T) σ (upd H T (.tup [x, y])) fun σ2 H2 => tb { D with nx := Pv (i + 1), ct := Pv (i + 1), bk := D.nx } σ2 H2) (hd : ∀ σ H, Pv xs.length σ H → D.nx σ H) :
    ∃ W : Nat → Nat → L2.St → Hp → Prop, (∃ m, W 0 m σ H) ∧ ∀ i m σ H, W i m σ H →
      ((Itz K a b).stop i H ∧ D.nx σ H) ∨ ((Itz K a b).go i H ∧ ∃ N : L2.St → Hp → Prop, (∀ σ' H', N σ' H' → ∃ m', m' < m ∧ W (i + 1) m' σ' H') ∧ ∀ v H', (Itz K a b).yld i H v H' → g v σ H' fun σ2 H2 => tb { D with nx := N, ct := N, bk := D.nx } σ2 H2) := by
  refine ⟨fun i m σ H => m = xs.length - i ∧ i ≤ xs.length ∧ Pv i σ H, ⟨xs.length, rfl, Nat.zero_le _, h0⟩, ?_⟩
  rintro i m σ H ⟨rfl, hi, p⟩
  obtain ⟨qx, qy⟩ := hq i σ H p
  by_cases hlt : i < xs.length
  · have hx : xs[i]? = some xs[i] := List.getElem?_eq_getElem hlt
    have hlt2 : i < ys.length := by omega
    have hy : ys[i]? = some ys[i] := List.getElem?_eq_getElem hlt2
    refine .inr ⟨⟨xs, ys, _, _, qx, qy, hx, hy⟩, Pv (i + 1), fun σ' H' p' => ⟨xs.length - (i + 1), by omega, rfl, hlt, p'⟩, fun v H' y => ?_⟩
    obtain ⟨T, x', y', rfl, hT, rfl, f1, f2⟩ := y
    exact hs i x' y' T σ H (f1 xs qx) (f2 ys qy) p hT
  · have e : i = xs.length := by omega
    subst e
    exact .inl ⟨⟨xs, ys, qx, qy, Or.inl (Nat.le_refl _)⟩, hd σ H p⟩
theorem nil_ {σ : L2.St} {H : Hp} {R : List V → Hp → Prop} (h : R [] H) : tNil σ H R := h
theorem cut_one (xs : List V) : cutV xs (some 1) none = xs.drop 1 := by
  unfold cutV
  rw [HT.sIx_none, show (some 1 : Option Int) = some ((1 : Nat) : Int) from rfl, HT.sIx_nat]
  cases xs with
  | nil => rfl
  | cons x xs =>
    rw [List.length_cons, show min 1 (xs.length + 1) = 1 by omega]
    show List.take (xs.length + 1 - 1) xs = xs
    rw [Nat.add_sub_cancel, List.take_length]
/-- between corners the members come again -/
theorem com_per {xs : List Pn} (hok : ∀ x ∈ xs, x.Ok) {c c' : Int} (no : ∀ t, c < t → t < c' → ¬ Crn xs t) (t : Int) (h0 : c ≤ t) (h1 : t + 60 < c') : ComP xs t ↔ ComP xs (t + 60) := by
  have one : ∀ x ∈ xs, ∀ s ∈ x.ss, Rn.inSpan x.p s t ↔ Rn.inSpan x.p s (t + 60) := fun x hx s hs => by
    obtain ⟨p1, p2, pd, _, _⟩ := hok x hx
    have em : (t + 60) % x.p = t % x.p := by
      obtain ⟨k, hk⟩ := Int.dvd_of_emod_eq_zero pd
      rw [hk, Int.add_mul_emod_self_left]
    have nc : ∀ y, c < y → y < c' → ¬ (s.lo = some y ∨ s.lo = some (y - 1) ∨ s.hi = some y ∨ s.hi = some (y - 1)) := fun y y0 y1 h => no y y0 y1 ⟨x, hx, s, hs, h⟩
    constructor
    · rintro ⟨a, b, d⟩
      refine ⟨fun r e => by rw [em]; exact a r e, fun l e => by have := b l e; omega, fun l e => ?_⟩
      have := d l e
      by_cases q : t + 60 ≤ l
      · exact q
      · exact absurd (.inr (.inr (.inr (by rw [e]; congr 1; omega)))) (nc (l + 1) (by omega) (by omega))
    · rintro ⟨a, b, d⟩
      refine ⟨fun r e => by rw [← em]; exact a r e, fun l e => ?_, fun l e => by have := d l e; omega⟩
      have := b l e
      by_cases q : l ≤ t
      · exact q
      · exact absurd (.inl e) (nc l (by omega) (by omega))
  constructor
  · intro h x hx
    obtain ⟨s, hs, m⟩ := h x hx
    exact ⟨s, hs, (one x hx s hs).mp m⟩
  · intro h x hx
    obtain ⟨s, hs, m⟩ := h x hx
    exact ⟨s, hs, (one x hx s hs).mpr m⟩
theorem nums_len' {l : List Int} : (l.map V.int).length = l.length := List.length_map ..
/-- members between c and c + i -/
def Mem (A : Int → Prop) (c : Int) (i : Nat) (ms : List Int) : Prop := ms.length = Rn.cnt A c (c + (i : Int) - 1) ∧ (∀ m ∈ ms, m < c + (i : Int)) ∧ ms.length ≤ i ∧ ∀ r : Nat, r ≤ i → (ms.filter fun m => decide (m < c + (r : Int))).length = Rn.cnt A c (c + (r : Int) - 1)
theorem Mem.nil {A : Int → Prop} {c : Int} : Mem A c 0 [] := ⟨by rw [Rn.cnt_nil (by omega)]; rfl, (fun m hm => nomatch hm), Nat.le_refl _, fun r hr => by
  obtain rfl : r = 0 := by omega
  rw [Rn.cnt_nil (by omega)]
  rfl⟩
theorem Mem.yes {A : Int → Prop} {c : Int} {i : Nat} {ms : List Int} (h : Mem A c i ms) (ha : A (c + (i : Int))) : Mem A c (i + 1) (ms ++ [c + (i : Int)]) := by
  obtain ⟨h1, h2, h3, h4⟩ := h
  have e : c + ((i + 1 : Nat) : Int) - 1 = c + (i : Int) := by omega
  have ec : Rn.cnt A c (c + (i : Int)) = Rn.cnt A c (c + (i : Int) - 1) + 1 := Rn.cnt_yes (by omega) ha
  refine ⟨by rw [List.length_append, e, ec, h1]; rfl, fun m hm => ?_, by rw [List.length_append]; exact Nat.succ_le_succ h3, fun r hr => ?_⟩
  · rcases List.mem_append.mp hm with hm | hm
    · have := h2 m hm
      omega
    · rw [List.mem_singleton.mp hm]
      omega
  · by_cases q : r ≤ i
    · rw [List.filter_append, List.filter_cons, if_neg (by simp; omega), List.filter_nil, List.append_nil]
      exact h4 r q
    · obtain rfl : r = i + 1 := by omega
      rw [List.filter_eq_self.mpr fun m hm => ?_, List.length_append, e, ec, h1]
      · rfl
      · refine decide_eq_true ?_
        rcases List.mem_append.mp hm with hm | hm
        · have := h2 m hm
          omega
        · rw [List.mem_singleton.mp hm]
          omega
theorem Mem.no {A : Int → Prop} {c : Int} {i : Nat} {ms : List Int} (h : Mem A c i ms) (ha : ¬ A (c + (i : Int))) : Mem A c (i + 1) ms := by
  obtain ⟨h1, h2, h3, h4⟩ := h
  have e : c + ((i + 1 : Nat) : Int) - 1 = c + (i : Int) := by omega
  have ec : Rn.cnt A c (c + (i : Int)) = Rn.cnt A c (c + (i : Int) - 1) := Rn.cnt_no ha
  refine ⟨by rw [e, ec, h1], fun m hm => by have := h2 m hm; omega, by omega, fun r hr => ?_⟩
  by_cases q : r ≤ i
  · exact h4 r q
  · obtain rfl : r = i + 1 := by omega
    rw [List.filter_eq_self.mpr fun m hm => decide_eq_true (by have := h2 m hm; omega), e, ec, h1]
def spManyI (K : W.Frag) : Sp := fun vs H Q _ => ∃ (lo hi : Int) (l : Addr) (vs' : List V) (xs : List Pn), vs = [.ref l, .int lo, .int hi] ∧ SqL K H l vs' ∧ Pns K H vs' xs ∧ (∀ x ∈ xs, x.Ok) ∧ vs'.length ≤ 3 ∧
  ∀ (n : Int) (H' : Hp), Same H H' → n = (Rn.cnt (ComP xs) lo hi : Int) → Q (.int n) H'
section
variable {P : Program} {w : World} {K : W.Frag} {mg : Str → Option Value} {base : Heap}
theorem ok_manyI {fd : FuncData} (F : FnP K "_law_many_in" sManyL fd) (T : Fre mg) (fZip : mg "zip" = none) (D_law_whole : Df P w K mg base 1 "_law_whole" ["_law_sets"] (spWhole K)) (D_law_corners : Df P w K mg base 2 "_law_corners" ["_law_sets", "_law_begun_here"] (spCorn K)) (D_law_is_common : Df P w K mg base 3 "_law_is_common" ["_law_sets", "_law_time"] (spIsCom K)) :
    FnOk P w K mg base CX0 4 (He.ga K "_law_many_in") fd ["_law_sets", "_law_low", "_law_high"] (spManyI K) := by
  refine F.ok ManyL (fun vs H Q E h => ?_) (fun cdv A outer s H vs Q E hr h => ?_)
  · obtain ⟨lo, hi, l, vs', xs, rfl, _⟩ := h
    rfl
  · obtain ⟨lo, hi, l, vs', xs, rfl, hS, hU, hok, hz, k⟩ := h
    have hbig : (1000 : Nat) < sizeLine := by decide
    refine ⟨_, PSs.nox (pss_cons (ps_cut (ps_par (i := 3) (j := 4) (by rfl) ManyL.nd rfl rfl (by decide) rfl rfl (pa_cons (pe_df D_law_whole (hr.mono (by decide)) rfl (pa_cons (pv 0) pa_nil)) (pa_cons pe_int pa_nil)) (by rfl)))
      (pss_cons (ps_cut (ps_setLc (i := 5) (own := [("_law_one", 6)]) (g := gName 6) (tt := _) (by rfl) ManyL.nd rfl rfl (sw_true rfl rfl rfl (by decide +kernel)) (pi_listK (K := K) rfl (pe_df D_law_corners (hr.mono (by decide)) rfl (pa_cons (pv 0) (pa_cons (pv 1) pa_nil)))) (blkOk_by (own := [("_law_one", 6)]) (N := NManyL) (sc := defScope sManyL) (by decide +kernel)) (fun _ _ _ _ _ => (pg_name (i := 6) ManyL.nd rfl (Or.inl rfl))) (fun _ _ _ _ _ => (pts_one (pt_cmpR op_le (pv 6) (pv 2) (nomark _)))) (fun _ _ _ _ _ => (pv 6))))
      (pss_cons (ps_cut (ps_for PassesOwn.never rfl (pi_zip rfl fZip (pa_cons (pv 5) (pa_cons (pe_op op_catS (pe_slice (sl_listS K rfl) (pv 5) (po_some pe_int) po_none) (pe_lstS (pa_cons (pe_op op_add (pv 2) pe_int) pa_nil))) pa_nil))) (pg_tup rfl (pgs_cons (pg_name (i := 6) ManyL.nd rfl (Or.inr rfl)) (pgs_cons (pg_name (i := 7) ManyL.nd rfl (Or.inl rfl)) pgs_nil))) (pss_cons (ps_cut (ps_set (i := 8) ManyL.nd rfl (Or.inl rfl) (pe_op op_fdivW (pe_op op_sub (pv 7) (pv 6)) (pv 3))))
      (pss_cons (ps_cut (ps_set (i := 9) ManyL.nd rfl (Or.inr rfl) (pe_op op_mod (pe_callTy call_int1 (by rfl) T.int EW.boot_int (pa_cons (pe_op op_sub (pv 7) (pv 6)) pa_nil)) (pv 3))))
      (pss_cons (ps_cut (ps_setLc (i := 10) (own := [("_law_time", 11)]) (g := gName 11) (tt := _) (by rfl) ManyL.nd rfl rfl (sw_true rfl rfl rfl (by decide +kernel)) (pi_range2W rfl T.range (pa_cons (pv 6) (pa_cons (pe_op op_add (pv 6) (pe_callB (call_min2 rfl) (by rfl) T.min EW.boot_min (pa_cons (pv 3) (pa_cons (pe_op op_sub (pv 7) (pv 6)) pa_nil)))) pa_nil))) (blkOk_by (own := [("_law_time", 11)]) (N := NManyL) (sc := defScope sManyL) (by decide +kernel)) (fun _ _ _ _ _ => (pg_name (i := 11) ManyL.nd rfl (Or.inl rfl))) (fun _ _ _ _ _ => (pts_one (pt_val (pe_df D_law_is_common (hr.mono (by decide)) rfl (pa_cons (pv 0) (pa_cons (pv 11) pa_nil)))))) (fun _ _ _ _ _ => (pv 11))))
      (pss_one (ps_set (i := 4) ManyL.nd rfl (Or.inl rfl) (pe_op op_add (pe_op op_add (pv 4) (pe_op op_mul (pe_op op_mul (pv 8) (pe_callB (call_lenK K rfl) (by rfl) T.len PySem.boot_len (pa_cons (pv 10) pa_nil))) (pe_callTy call_int1 (by rfl) T.int EW.boot_int (pa_cons (pe_cmpR op_gt (pv 8) pe_int (nomark _)) pa_nil)))) (pe_callB (call_lenK K rfl) (by rfl) T.len PySem.boot_len (pa_cons (pe_lc (own := [("_law_time", 11)]) (g := gName 11) (tt := _) (by rfl) ManyL.nd (pi_listK (K := K) rfl (pv 10)) (blkOk_by (own := [("_law_time", 11)]) (N := NManyL) (sc := defScope sManyL) (by decide +kernel)) (fun _ _ _ _ _ => (pg_name (i := 11) ManyL.nd rfl (Or.inl rfl))) (fun _ _ _ _ _ => (pts_one (pt_cmpR op_lt (pv 11) (pe_op op_add (pv 6) (pv 9)) (nomark _)))) (fun _ _ _ _ _ => (pv 11))) pa_nil))))))))))
      (pss_one (ps_ret (pv 4)))))), ?_⟩
    refine ⟨fun σ' H' => σ' = [some (.ref l), some (.int lo), some (.int hi), some (.int 60), some (.int 0), none, none, none, none, none, none, none] ∧ Same H H', ?_, ?_⟩
    · exact ⟨_, rfl, l, vs', xs, rfl, hS, hU, hok, by omega, fun H1 s1 => ⟨_, _, rfl, rfl, s1⟩⟩
    rintro σ' H1 ⟨rfl, s1⟩
    -- corners
    refine ⟨fun σ' H' => ∃ (C : Addr) (cs : List Int), σ' = [some (.ref l), some (.int lo), some (.int hi), some (.int 60), some (.int 0), some (.ref C), none, none, none, none, none, none] ∧ Same H H' ∧ H' C = some (.lst (cs.map V.int)) ∧ cs.Pairwise (· < ·) ∧ (∀ n ∈ cs, lo ≤ n ∧ n ≤ hi) ∧ (lo ≤ hi → lo ∈ cs) ∧ (∀ t, lo < t → t ≤ hi → Crn xs t → t ∈ cs) ∧ cs.length ≤ 63, ?_, ?_⟩
    · refine ⟨_, rfl, _, rfl, lo, l, vs', xs, rfl, s1.seq hS, hU.same s1, hok, hz, fun q ns H2 n2 s2 e2 pw ha hge hcr hl => ?_⟩
      refine ⟨q, rfl, ⟨_, SqL.of e2⟩, fun L hL => ?_⟩
      refine loop_list (xs := ns.map V.int) (fun i H' => H' L = some (.lst (((ns.take i).filter fun n => decide (n ≤ hi)).map V.int)) ∧ Same H2 H') ⟨by rw [List.take_zero]; exact upd_same, upd_new hL⟩ ?_ ?_ ?_
      · rintro i H' _ ⟨_, s3⟩
        exact SqL.of (s3 _ _ e2)
      · rintro i x H3 hx ⟨hLa, s3⟩
        rw [List.getElem?_map] at hx
        obtain ⟨t, ht, rfl⟩ := Option.map_eq_some_iff.mp hx
        have et : ns.take (i + 1) = ns.take i ++ [t] := by
          rw [List.take_add_one, ht]
          rfl
        have hfl := List.length_filter_le (fun n : Int => decide (n ≤ hi)) (ns.take i)
        rw [List.length_take] at hfl
        refine ⟨rfl, _, rfl, _, rfl, _, _, rfl, rfl, _, rfl, ite2 (fun d => ?_) fun d => ?_⟩
        · refine ⟨_, rfl, _, hLa, by rw [List.length_map]; omega, ?_, same_upd s3 hL⟩
          rw [upd_same, et, List.filter_append, List.filter_cons, if_pos d, List.map_append]
          rfl
        · refine ⟨?_, s3⟩
          rw [et, List.filter_append, List.filter_cons, if_neg d, List.filter_nil, List.append_nil]
          exact hLa
      · rintro H3 ⟨hLa, s3⟩
        rw [List.length_map, List.take_length] at hLa
        refine ⟨L, _, rfl, Same.trans s1 (Same.trans s2 s3), hLa, List.Pairwise.sublist List.filter_sublist pw, fun n hn => ?_, fun h => List.mem_filter.mpr ⟨ha, decide_eq_true h⟩, fun t t0 t1 hc => List.mem_filter.mpr ⟨hcr t t0 hc, decide_eq_true t1⟩, Nat.le_trans (List.length_filter_le _ _) hl⟩
        obtain ⟨h1, h2⟩ := List.mem_filter.mp hn
        exact ⟨hge n h1, of_decide_eq_true h2⟩
    rintro σ' H2 ⟨C, cs, rfl, s2, eC, pw, hge, hlo, hcr, hcl⟩
    -- the walk
    refine ⟨fun σ' H' => ∃ (u6 u7 u8 u9 u10 u11 : Option V) (n : Int), σ' = [some (.ref l), some (.int lo), some (.int hi), some (.int 60), some (.int n), some (.ref C), u6, u7, u8, u9, u10, u11] ∧ Same H2 H' ∧ n = (Rn.cnt (ComP xs) lo hi : Int), ?_, ?_⟩
    · refine ⟨_, rfl, _, rfl, _, rfl, C, _, rfl, SqL.of eC, fun q3 H3 n3 s3 e3 => ⟨_, rfl, _, _, rfl, rfl, (by show 1 ≤ sizeLine; decide), fun q4 H4 n4 s4 e4 => ?_⟩⟩
      rw [cut_one, ← List.map_drop] at e3
      refine ⟨q3, q4, _, _, rfl, rfl, s4 _ _ e3, e4, ?_, fun q5 H5 n5 s5 e5 => ?_⟩
      · rw [List.length_map, List.length_drop]
        show cs.length - 1 + 1 ≤ _
        omega
      have e5 : H5 q5 = some (.lst ((cs.drop 1 ++ [hi + 1]).map V.int)) := by rw [List.map_append]; exact e5
      have s25 := Same.trans s3 (Same.trans s4 s5)
      have eC5 := s25 _ _ eC
      refine nil_ ⟨C, q5, _, _, rfl, SqL.of eC5, SqL.of e5, ?_⟩
      have next : ∀ i c', i < cs.length → (cs.drop 1 ++ [hi + 1])[i]? = some c' → (cs ++ [hi + 1])[i + 1]? = some c' := fun i c' hi' h => by
        by_cases q : i + 1 < cs.length
        · rw [List.getElem?_append_left (by rw [List.length_drop]; omega), List.getElem?_drop, Nat.add_comm] at h
          rw [List.getElem?_append_left q]
          exact h
        · have e : i + 1 = cs.length := by omega
          rw [List.getElem?_append_right (by rw [List.length_drop]; omega), List.length_drop, show i - (cs.length - 1) = 0 by omega] at h
          rw [e, List.getElem?_append_right (Nat.le_refl _), Nat.sub_self]
          exact h
      refine for_zipLe (K := K) (a := C) (b := q5) (xs := cs.map V.int) (ys := (cs.drop 1 ++ [hi + 1]).map V.int) (by rw [List.length_map, List.length_map, List.length_append, List.length_drop]; show cs.length ≤ cs.length - 1 + 1; omega) (fun i σ' H' => ∃ (u6 u7 u8 u9 u10 u11 : Option V) (n : Int), σ' = [some (.ref l), some (.int lo), some (.int hi), some (.int 60), some (.int n), some (.ref C), u6, u7, u8, u9, u10, u11] ∧ Same H5 H' ∧ ∀ e, (cs ++ [hi + 1])[i]? = some e → n = (Rn.cnt (ComP xs) lo (e - 1) : Int)) ⟨_, _, _, _, _, _, 0, rfl, Same.refl _, fun e he => ?_⟩ ?_ ?_ ?_
      · cases cs with
        | nil =>
          obtain rfl : hi + 1 = e := Option.some.inj he
          have : ¬ lo ≤ hi := fun h => nomatch hlo h
          rw [Rn.cnt_nil (by omega)]
          rfl
        | cons c cs =>
          obtain rfl : c = e := Option.some.inj he
          have hc := hge c List.mem_cons_self
          have hm := hlo (by omega)
          have : lo = c := by
            rcases List.mem_cons.mp hm with q | q
            · exact q
            · have := (List.pairwise_cons.mp pw).1 lo q
              omega
          rw [Rn.cnt_nil (by omega)]
          rfl
      · rintro i σ' H' ⟨_, _, _, _, _, _, _, _, s6, _⟩
        exact ⟨SqL.of (s6 _ _ eC5), SqL.of (s6 _ _ e5)⟩
      · rintro i x y Tq σ' H6 hx hy ⟨u6, u7, u8, u9, u10, u11, n, rfl, s6, hn⟩ hT
        rw [List.getElem?_map] at hx hy
        obtain ⟨c, hc, rfl⟩ := Option.map_eq_some_iff.mp hx
        obtain ⟨c', hc', rfl⟩ := Option.map_eq_some_iff.mp hy
        have hil : i < cs.length := (List.getElem?_eq_some_iff.mp hc).1
        have hn := hn c (by rw [List.getElem?_append_left hil]; exact hc)
        have hnx := next i c' hil hc'
        have hcr' := hge c (List.mem_of_getElem? hc)
        have hcc : c < c' ∧ c' ≤ hi + 1 := by
          by_cases q : i + 1 < cs.length
          · rw [List.getElem?_append_left q] at hnx
            exact ⟨Rn.asc_lt pw hc hnx, by have := hge c' (List.mem_of_getElem? hnx); omega⟩
          · rw [show i + 1 = cs.length by omega, List.getElem?_append_right (Nat.le_refl _), Nat.sub_self] at hnx
            have : hi + 1 = c' := Option.some.inj hnx
            omega
        have hno : ∀ t, c < t → t < c' → ¬ Crn xs t := fun t t0 t1 hC => by
          have hm := hcr t (by omega) (by omega) hC
          obtain ⟨c2, h2, h3⟩ := Rn.asc_next pw hc hm t0
          rw [List.getElem?_append_left (List.getElem?_eq_some_iff.mp h2).1, h2] at hnx
          have := Option.some.inj hnx
          omega
        have hper := com_per hok hno
        have s7 : Same H6 (upd H6 Tq (.tup [.int c, .int c'])) := upd_new hT
        refine ⟨Tq, _, rfl, SqT.of upd_same, rfl, _, _, rfl, _, _, rfl, rfl, ?_⟩
        generalize upd H6 Tq (.tup [.int c, .int c']) = H7 at s7 ⊢
        have s57 := Same.trans s6 s7
        refine ⟨fun σ' H' => σ' = [some (.ref l), some (.int lo), some (.int hi), some (.int 60), some (.int n), some (.ref C), some (.int c), some (.int c'), some (.int ((c' - c) / 60)), u9, u10, u11] ∧ H' = H7, ?_, ?_⟩
        · exact ⟨_, rfl, _, rfl, _, _, rfl, rfl, _, rfl, _, _, rfl, rfl, wide_div (b := 10) (by decide) (by decide) (by decide) (by decide), rfl, rfl⟩
        rintro σ' H7 ⟨rfl, rfl⟩
        refine ⟨fun σ' H' => σ' = [some (.ref l), some (.int lo), some (.int hi), some (.int 60), some (.int n), some (.ref C), some (.int c), some (.int c'), some (.int ((c' - c) / 60)), some (.int ((c' - c) % 60)), u10, u11] ∧ H' = H7, ?_, ?_⟩
        · exact ⟨_, rfl, _, rfl, _, _, rfl, rfl, Or.inl ⟨_, rfl, _, rfl, _, _, rfl, rfl, (by decide : (0 : Int) < 60), rfl, rfl⟩⟩
        rintro σ' H7 ⟨rfl, rfl⟩
        refine ⟨fun σ' H' => ∃ (S : Addr) (m : Nat) (ms : List Int), σ' = [some (.ref l), some (.int lo), some (.int hi), some (.int 60), some (.int n), some (.ref C), some (.int c), some (.int c'), some (.int ((c' - c) / 60)), some (.int ((c' - c) % 60)), some (.ref S), u11] ∧ Same H7 H' ∧ H' S = some (.lst (ms.map V.int)) ∧ Mem (ComP xs) c m ms ∧ (m : Int) = (if 60 ≤ c' - c then 60 else c' - c), ?_, ?_⟩
        · refine ⟨_, rfl, _, rfl, _, rfl, _, rfl, _, rfl, _, _, rfl, rfl, _, _, rfl, _, _, rfl, rfl, nil_ ⟨c, _, rfl, fun L hL => ?_⟩⟩
          refine loop_rg (lo := c) (n := (c + (if c' - c < 60 then c' - c else 60) - c).toNat) (fun i H' => ∃ ms : List Int, H' L = some (.lst (ms.map V.int)) ∧ Same H7 H' ∧ Mem (ComP xs) c i ms) ⟨[], upd_same, upd_new hL, Mem.nil⟩ ?_ ?_
          · rintro i H8 hi8 ⟨ms, hLa, s8, hM⟩
            have s28 := Same.trans s2 (Same.trans s25 (Same.trans s57 s8))
            refine ⟨rfl, ?_⟩
            refine ⟨_, rfl, _, rfl, c + (i : Int), l, vs', xs, rfl, s28.seq hS, hU.same s28, hok, by omega, fun b H9 hb s9 => ⟨_, rfl, ?_⟩⟩
            cases b with
            | true => exact iteT ⟨_, rfl, _, s9 _ _ hLa, by rw [List.length_map]; have := hM.2.2.1; split at hi8 <;> omega, ms ++ [c + (i : Int)], by rw [upd_same, List.map_append]; rfl, same_upd (Same.trans s8 s9) hL, hM.yes (hb.mp rfl)⟩
            | false => exact iteF ⟨ms, s9 _ _ hLa, Same.trans s8 s9, hM.no fun z => by cases hb.mpr z⟩
          · rintro H8 ⟨ms, hLa, s8, hM⟩
            exact ⟨L, _, ms, rfl, s8, hLa, hM, by split <;> split <;> omega⟩
        rintro σ' H8 ⟨S, m, ms, rfl, s8, eS, hM, em⟩
        have hml := hM.2.2.1
        have hm60 : m ≤ 60 := by split at em <;> omega
        have s58 := Same.trans s57 s8
        refine ⟨_, rfl, _, rfl, _, rfl, _, _, rfl, Or.inl ⟨_, SqL.of eS, rfl⟩, _, _, rfl, rfl, .inr ⟨by rw [List.length_map]; omega, by rw [List.length_map]; omega⟩, _, rfl, _, _, rfl, rfl, Or.inr ⟨_, rfl, _, _, rfl, rfl, .inr ?_, _, _, rfl, rfl, ?_⟩⟩
        · split <;> exact ⟨by decide, by decide⟩
        refine ⟨_, rfl, S, rfl, ⟨_, SqL.of eS⟩, fun L hL => ?_⟩
        refine loop_list (xs := ms.map V.int) (fun i H' => H' L = some (.lst (((ms.take i).filter fun n => decide (n < c + (c' - c) % 60)).map V.int)) ∧ Same H8 H') ⟨by rw [List.take_zero]; exact upd_same, upd_new hL⟩ ?_ ?_ ?_
        · rintro i H' _ ⟨_, s9⟩
          exact SqL.of (s9 _ _ eS)
        · rintro i x H9 hx ⟨hLa, s9⟩
          rw [List.getElem?_map] at hx
          obtain ⟨t, ht, rfl⟩ := Option.map_eq_some_iff.mp hx
          have et : ms.take (i + 1) = ms.take i ++ [t] := by
            rw [List.take_add_one, ht]
            rfl
          have hfl := List.length_filter_le (fun n : Int => decide (n < c + (c' - c) % 60)) (ms.take i)
          rw [List.length_take] at hfl
          refine ⟨rfl, _, rfl, _, rfl, _, rfl, _, _, rfl, rfl, _, _, rfl, rfl, _, rfl, ite2 (fun d => ?_) fun d => ?_⟩
          · refine ⟨_, rfl, _, hLa, by rw [List.length_map]; omega, ?_, same_upd s9 hL⟩
            rw [upd_same, et, List.filter_append, List.filter_cons, if_pos d, List.map_append]
            rfl
          · refine ⟨?_, s9⟩
            rw [et, List.filter_append, List.filter_cons, if_neg d, List.filter_nil, List.append_nil]
            exact hLa
        · rintro H9 ⟨hLa, s9⟩
          rw [List.length_map, List.take_length] at hLa
          refine ⟨_, _, rfl, Or.inl ⟨_, SqL.of hLa, rfl⟩, _, _, rfl, rfl, ?_⟩
          refine ⟨_, _, _, _, _, _, _, rfl, Same.trans s58 s9, fun e he => ?_⟩
          obtain rfl : c' = e := Option.some.inj (hnx.symm.trans he)
          rw [List.length_map, List.length_map, hn]
          obtain ⟨hM1, _, _, hM4⟩ := hM
          have hcut := Rn.cnt_cut (A := ComP xs) (lo := lo) (hi := c' - 1) (c := c - 1) (by omega) (by omega)
          rw [show c - 1 + 1 = c by omega] at hcut
          have hr0 := Int.emod_nonneg (c' - c) (show (60 : Int) ≠ 0 by decide)
          have hr1 := Int.emod_lt_of_pos (c' - c) (show (0 : Int) < 60 by decide)
          by_cases q : 60 ≤ c' - c
          · rw [if_pos q] at em
            have hk : 0 < (c' - c) / 60 := by omega
            rw [if_pos (decide_eq_true hk), Int.mul_one]
            have hf := hM4 ((c' - c) % 60).toNat (by omega)
            rw [Int.toNat_of_nonneg hr0] at hf
            have hp := Rn.cnt_per (A := ComP xs) (c := c) (c' := c') hper ((c' - c) / 60).toNat ((c' - c) % 60) hr0 (by omega)
            rw [show c + 60 * ((((c' - c) / 60).toNat : Nat) : Int) + (c' - c) % 60 - 1 = c' - 1 by omega] at hp
            rw [show c + (m : Int) - 1 = c + 59 by omega] at hM1
            rw [hf, hcut, hp, hM1]
            have ek : (((c' - c) / 60).toNat : Int) = (c' - c) / 60 := Int.toNat_of_nonneg (by omega)
            rw [Int.natCast_add, Int.natCast_add, Int.natCast_mul, ek]
            omega
          · rw [if_neg q] at em
            have hk : (c' - c) / 60 = 0 := by omega
            have hr : (c' - c) % 60 = c' - c := by omega
            have hf := hM4 m (Nat.le_refl _)
            rw [em, show c + (c' - c) - 1 = c' - 1 by omega] at hf
            rw [hk, hr, hf, hcut]
            omega
      · rintro σ' H6 ⟨u6, u7, u8, u9, u10, u11, n, rfl, s6, hn⟩
        rw [List.length_map] at hn
        have hn := hn (hi + 1) (by rw [List.getElem?_append_right (Nat.le_refl _), Nat.sub_self]; rfl)
        rw [show hi + 1 - 1 = hi by omega] at hn
        exact ⟨_, _, _, _, _, _, n, rfl, Same.trans s25 s6, hn⟩
    rintro σ' H3 ⟨u6, u7, u8, u9, u10, u11, n, rfl, s3, hn⟩
    exact ⟨_, rfl, k n H3 (Same.trans s2 s3) hn⟩
end
end TM
end

section
set_option maxHeartbeats 4000000
namespace TM
open PySem PySem.Spec PyProof.Rows L2 EW
abbrev NNoneA : List Str := ["_law_sets", "_law_begun_here", "_law_end", "_law_whole_here", "_law_one", "_law_time"]
theorem NoneA : FnScope NNoneA ["_law_sets", "_law_begun_here", "_law_end"] (defScope sNoneA) := ⟨rfl, rfl, rfl, by decide +kernel, rfl, by decide +kernel, by decide +kernel⟩
abbrev NIsKthL : List Str := ["_law_sets", "_law_index", "_law_begun_here", "_law_told"]
theorem IsKthL : FnScope NIsKthL ["_law_sets", "_law_index", "_law_begun_here", "_law_told"] (defScope sIsKthL) := ⟨rfl, rfl, rfl, by decide +kernel, rfl, by decide +kernel, by decide +kernel⟩
abbrev NBegunL : List Str := ["_law_dice_here", "_law_sets", "_law_way", "_law_near_here", "_law_period_here", "_law_spans_here"]
theorem BegunL : FnScope NBegunL ["_law_dice_here", "_law_sets"] (defScope sBegunL) := ⟨rfl, rfl, rfl, by decide +kernel, rfl, by decide +kernel, by decide +kernel⟩
def spNoneA (K : W.Frag) : Sp := fun vs H Q _ => ∃ (a : Int) (o : Option Int) (l : Addr) (vs' : List V) (xs : List Pn), vs = [.ref l, .int a, ob o] ∧ SqL K H l vs' ∧ Pns K H vs' xs ∧ (∀ x ∈ xs, x.Ok) ∧ vs'.length ≤ 3 ∧ Rn.IsNext (ComP xs) a o ∧ ∀ (H' : Hp), Same H H' → Q (.bl true) H'
def spIsKthL (K : W.Frag) : Sp := fun vs H Q _ => ∃ (a : Int) (i : Nat) (o : Option Int) (l : Addr) (vs' : List V) (xs : List Pn), vs = [.ref l, .int i, .int a, ob o] ∧ SqL K H l vs' ∧ Pns K H vs' xs ∧ (∀ x ∈ xs, x.Ok) ∧ vs'.length ≤ 3 ∧ Rn.IsKth (ComP xs) a i o ∧ ∀ (H' : Hp), Same H H' → Q (.bl true) H'
def spBegunL (K : W.Frag) : Sp := fun vs H Q _ => ∃ (d l : Addr) (n : Int) (vs' : List V) (xs : List Pn), vs = [.ref d, .ref l] ∧ Dc H d n ∧ n + 10 ≤ 1000000 ∧ l ≠ d ∧ H l = some (.lst vs') ∧ Pns K H vs' xs ∧ (∀ x ∈ xs, x.Ok) ∧ vs'.length ≤ 3 ∧ ∀ (x : Int) (H' : Hp), EW.Kept d H H' → Dc H' d (n + 10) → Q (.int x) H'
section
variable {P : Program} {w : World} {K : W.Frag} {mg : Str → Option Value} {base : Heap}
theorem ok_noneA {fd : FuncData} (F : FnP K "_law_none_ahead" sNoneA fd) (T : Fre mg) (D_law_whole : Df P w K mg base 1 "_law_whole" ["_law_sets"] (spWhole K)) (D_law_corners : Df P w K mg base 2 "_law_corners" ["_law_sets", "_law_begun_here"] (spCorn K)) (D_law_is_common : Df P w K mg base 3 "_law_is_common" ["_law_sets", "_law_time"] (spIsCom K)) :
    FnOk P w K mg base CX0 4 (He.ga K "_law_none_ahead") fd ["_law_sets", "_law_begun_here", "_law_end"] (spNoneA K) := by
  refine F.ok NoneA (fun vs H Q E h => ?_) (fun cdv A outer s H vs Q E hr h => ?_)
  · obtain ⟨a, o, l, vs', xs, rfl, _⟩ := h
    rfl
  · obtain ⟨a, o, l, vs', xs, rfl, hS, hU, hok, hz, hn, k⟩ := h
    refine ⟨_, PSs.nox (pss_cons (ps_cut (ps_set (i := 3) NoneA.nd rfl (Or.inl rfl) (pe_df D_law_whole (hr.mono (by decide)) rfl (pa_cons (pv 0) pa_nil))))
      (pss_cons (ps_for PassesOwn.never rfl (pi_listK (K := K) rfl (pe_df D_law_corners (hr.mono (by decide)) rfl (pa_cons (pv 0) (pa_cons (pv 1) pa_nil)))) (pg_name (i := 4) NoneA.nd rfl (Or.inl rfl)) (pss_one (ps_for PassesOwn.never rfl (pi_range2W rfl T.range (pa_cons (pv 4) (pa_cons (pe_op op_add (pv 4) (pv 3)) pa_nil))) (pg_name (i := 5) NoneA.nd rfl (Or.inl rfl)) (pss_one (ps_if (PW.pt (pw_and (PW.pt (pw_or (pt_cmp (pc_isN (pv 2))) (pw_or1 (pt_cmpR op_lt (pv 5) (pv 2) (nomark _))))) (pw_and1 (pt_val (pe_df D_law_is_common (hr.mono (by decide)) rfl (pa_cons (pv 0) (pa_cons (pv 5) pa_nil))))))) (pss_one (ps_ret pe_bl)) pss_nil)))))
      (pss_one (ps_ret pe_bl)))), ?_⟩
    refine ⟨fun σ' H' => σ' = [some (.ref l), some (.int a), some (ob o), some (.int 60), none, none] ∧ Same H H', ?_, ?_⟩
    · exact ⟨_, rfl, l, vs', xs, rfl, hS, hU, hok, by omega, fun H1 s1 => ⟨rfl, s1⟩⟩
    rintro σ' H1 ⟨rfl, s1⟩
    refine ⟨_, rfl, _, rfl, a, l, vs', xs, rfl, s1.seq hS, hU.same s1, hok, hz, fun q ns H2 n2 s2 e2 pw ha hge hcr hl => ?_⟩
    have s12 := Same.trans s1 s2
    refine ⟨q, rfl, ⟨_, SqL.of e2⟩, ?_⟩
    refine for_list (K := K) (a := q) (xs := ns.map V.int) (fun i σ' H' => ∃ u4 u5 : Option V, σ' = [some (.ref l), some (.int a), some (ob o), some (.int 60), u4, u5] ∧ Same H2 H') ⟨_, _, rfl, Same.refl _⟩ ?_ ?_ ?_
    · rintro i σ' H' _ ⟨_, _, _, s3⟩
      exact SqL.of (s3 _ _ e2)
    · rintro i x σ' H3 hx ⟨u4, u5, rfl, s3⟩
      rw [List.getElem?_map] at hx
      obtain ⟨c, hc, rfl⟩ := Option.map_eq_some_iff.mp hx
      have hca := hge c (List.mem_of_getElem? hc)
      refine ⟨_, rfl, _, rfl, _, rfl, _, _, rfl, rfl, nil_ ⟨c, _, rfl, ?_⟩⟩
      refine for_range (lo := c) (n := (c + 60 - c).toNat) (fun j σ' H' => ∃ u5 : Option V, σ' = [some (.ref l), some (.int a), some (ob o), some (.int 60), some (.int c), u5] ∧ Same H2 H') ⟨_, rfl, s3⟩ ?_ ?_
      · rintro j σ' H4 hj ⟨u5, rfl, s4⟩
        have s14 := Same.trans s12 s4
        have hcom : (∀ e, o = some e → c + (j : Int) < e) → ∀ (b : Bool), (b = true ↔ ComP xs (c + (j : Int))) → b = false := fun he b hb => by
          cases b with
          | false => rfl
          | true =>
            have hx := hb.mp rfl
            cases o with
            | none => exact absurd hx (hn _ (by omega))
            | some e =>
              have := hn.2.2 _ (by omega) hx
              have := he e rfl
              omega
        have com : spIsCom K [.ref l, .int (c + (j : Int))] H4 (fun x H5 => ∃ b, x = .bl b ∧ ((∀ e, o = some e → c + (j : Int) < e) → b = false) ∧ Same H4 H5) E0 := ⟨_, l, vs', xs, rfl, s14.seq hS, hU.same s14, hok, by omega, fun b H5 hb s5 => ⟨b, rfl, fun he => hcom he b hb, s5⟩⟩
        obtain ⟨t', l', w', x', ev, r1, r2, r3, r4, r5⟩ := com
        have fin : ∀ (b : Bool) (H5 : Hp), (b = true ↔ ComP x' t') → Same H4 H5 → ((∀ e, o = some e → c + (j : Int) < e) → b = false) ∧ Same H4 H5 := fun b H5 hb s5 => by
          obtain ⟨b', e, h1, h2⟩ := r5 b H5 hb s5
          cases e
          exact ⟨h1, h2⟩
        cases o with
        | none =>
          refine ⟨_, rfl, _, rfl, iteT (iteT ⟨_, rfl, _, rfl, t', l', w', x', ev, r1, r2, r3, r4, fun b H5 hb s5 => ?_⟩)⟩
          obtain ⟨h1, h2⟩ := fin b H5 hb s5
          obtain rfl : b = false := h1 (fun e z => nomatch z)
          exact ⟨_, rfl, iteF ⟨_, rfl, Same.trans s4 h2⟩⟩
        | some e =>
          refine ⟨_, rfl, _, rfl, iteF ⟨_, rfl, _, rfl, _, _, rfl, rfl, _, rfl, ?_⟩⟩
          by_cases q : c + (j : Int) < e
          · rw [decide_eq_true q]
            refine iteT ⟨_, rfl, _, rfl, t', l', w', x', ev, r1, r2, r3, r4, fun b H5 hb s5 => ?_⟩
            obtain ⟨h1, h2⟩ := fin b H5 hb s5
            obtain rfl : b = false := h1 (fun e' z => by cases z; exact q)
            exact ⟨_, rfl, iteF ⟨_, rfl, Same.trans s4 h2⟩⟩
          · rw [decide_eq_false q]
            exact iteF (iteF ⟨_, rfl, s4⟩)
      · rintro σ' H4 ⟨u5, rfl, s4⟩
        exact ⟨_, _, rfl, s4⟩
    · rintro σ' H3 ⟨u4, u5, rfl, s3⟩
      exact k H3 (Same.trans s12 s3)
theorem ok_isKthL {fd : FuncData} (F : FnP K "_law_is_kth" sIsKthL fd) (D_law_many_in : Df P w K mg base 4 "_law_many_in" ["_law_sets", "_law_low", "_law_high"] (spManyI K)) (D_law_is_common : Df P w K mg base 3 "_law_is_common" ["_law_sets", "_law_time"] (spIsCom K)) :
    FnOk P w K mg base CX0 5 (He.ga K "_law_is_kth") fd ["_law_sets", "_law_index", "_law_begun_here", "_law_told"] (spIsKthL K) := by
  refine F.ok IsKthL (fun vs H Q E h => ?_) (fun cdv A outer s H vs Q E hr h => ?_)
  · obtain ⟨a, i, o, l, vs', xs, rfl, _⟩ := h
    rfl
  · obtain ⟨a, i, o, l, vs', xs, rfl, hS, hU, hok, hz, hn, k⟩ := h
    refine ⟨_, PSs.nox (pss_cons (ps_if (pt_cmp (pc_isN (pv 3))) (pss_one (ps_ret (pe_cmpR op_le (pe_df D_law_many_in (hr.mono (by decide)) rfl (pa_cons (pv 0) (pa_cons (pv 2) (pa_cons (pe_op op_powW pe_int pe_int) pa_nil)))) (pv 1) (nomark _)))) pss_nil)
      (pss_cons (ps_if (PW.pt (pw_or (pt_cmpR op_lt (pv 3) (pv 2) (nomark _)) (pw_or1 (pt_not (pt_val (pe_df D_law_is_common (hr.mono (by decide)) rfl (pa_cons (pv 0) (pa_cons (pv 3) pa_nil)))))))) (pss_one (ps_ret pe_bl)) pss_nil)
      (pss_one (ps_ret (pe_cmpR op_eq (pe_df D_law_many_in (hr.mono (by decide)) rfl (pa_cons (pv 0) (pa_cons (pv 2) (pa_cons (pv 3) pa_nil)))) (pe_op op_add (pv 1) pe_int) (nomark _)))))), ?_⟩
    cases o with
    | none =>
      refine ⟨_, rfl, _, rfl, iteT ?_⟩
      refine ⟨_, rfl, _, rfl, _, _, rfl, rfl, ⟨by decide, by decide⟩, a, _, l, vs', xs, rfl, hS, hU, hok, hz, fun n H1 s1 hc => ⟨_, rfl, _, _, rfl, rfl, ?_⟩⟩
      have q := hn ((10 : Int) ^ (31 : Int).toNat)
      dsimp only
      rw [decide_eq_true (by rw [hc]; omega)]
      exact k H1 s1
    | some t =>
      obtain ⟨h1, h2, h3⟩ := hn
      refine ⟨_, rfl, _, rfl, iteF ?_⟩
      refine ⟨_, rfl, _, rfl, _, _, rfl, rfl, _, rfl, iteC (decide_eq_false (by omega)) ?_⟩
      refine ⟨_, rfl, _, rfl, t, l, vs', xs, rfl, hS, hU, hok, by omega, fun b H1 hb s1 => ?_⟩
      obtain rfl : b = true := hb.mpr h1
      refine ⟨_, rfl, iteF ?_⟩
      refine ⟨_, rfl, _, rfl, _, rfl, a, t, l, vs', xs, rfl, s1.seq hS, hU.same s1, hok, hz, fun n H2 s2 hc => ⟨_, rfl, _, _, rfl, rfl, rfl, ?_⟩⟩
      dsimp only
      rw [decide_eq_true (congrArg V.int (by rw [hc, h3]; omega))]
      exact k H2 (Same.trans s1 s2)
theorem ok_begunL {fd : FuncData} (F : FnP K "_law_begun" sBegunL fd) (T : Fre mg) (D_law_pick : Df P w K mg base 2 "_law_pick" ["_law_dice_here", "_law_items"] (spPick K)) (D_law_roll : Df P w K mg base 1 "_law_roll" ["_law_dice_here", "_law_many"] spRoll) (D_law_near : Df P w K mg base 2 "_law_near" ["_law_dice_here", "_law_far"] spNear) (D_law_bounds : Df P w K mg base 1 "_law_bounds" ["_law_spans_here"] (spBounds K)) :
    FnOk P w K mg base CX0 3 (He.ga K "_law_begun") fd ["_law_dice_here", "_law_sets"] (spBegunL K) := by
  refine F.ok BegunL (fun vs H Q E h => ?_) (fun cdv A outer s H vs Q E hr h => ?_)
  · obtain ⟨d, l, n, vs', xs, rfl, _⟩ := h
    rfl
  · obtain ⟨d, l, n, vs', xs, rfl, D, hn, nl, hl, hU, hok, hz, k⟩ := h
    refine ⟨_, PSs.nox (pss_cons (ps_cut (ps_par (i := 2) (j := 3) (by rfl) BegunL.nd rfl rfl (by decide) rfl rfl (pa_cons (pe_df D_law_roll (hr.mono (by decide)) rfl (pa_cons (pv 0) (pa_cons pe_int pa_nil))) (pa_cons (pe_lstS (pa_cons pe_int pa_nil)) pa_nil)) (by rfl)))
      (pss_cons (ps_cut (ps_for PassesOwn.never rfl (pi_listK (K := K) rfl (pv 1)) (pg_tup rfl (pgs_cons (pg_name (i := 4) BegunL.nd rfl (Or.inl rfl)) (pgs_cons (pg_name (i := 5) BegunL.nd rfl (Or.inl rfl)) pgs_nil))) (pss_one (ps_set (i := 3) BegunL.nd rfl (Or.inl rfl) (pe_op op_catS (pv 3) (pe_df D_law_bounds (hr.mono (by decide)) rfl (pa_cons (pv 5) pa_nil)))))))
      (pss_cons (ps_cut (ps_if (pt_cmpR op_eq (pv 2) pe_int (nomark _)) (pss_one (ps_ret (pe_op op_mul (pe_df D_law_pick (hr.mono (by decide)) rfl (pa_cons (pv 0) (pa_cons (pe_lstS (pa_cons pe_int (pa_cons (pe_un un_neg pe_int) pa_nil))) pa_nil))) (pe_op op_add (pe_op op_powW pe_int pe_int) (pe_df D_law_roll (hr.mono (by decide)) rfl (pa_cons (pv 0) (pa_cons (pe_op op_powW pe_int pe_int) pa_nil))))))) pss_nil))
      (pss_one (ps_ret (pe_op op_add (pe_df D_law_pick (hr.mono (by decide)) rfl (pa_cons (pv 0) (pa_cons (pv 3) pa_nil))) (pe_df D_law_near (hr.mono (by decide)) rfl (pa_cons (pv 0) (pa_cons pe_int pa_nil))))))))), ?_⟩
    refine ⟨fun σ' H' => ∃ (y : Int) (q : Addr), σ' = [some (.ref d), some (.ref l), some (.int y), some (.ref q), none, none] ∧ EW.Kept d H H' ∧ Dc H' d (n + 1) ∧ q ≠ d ∧ H' q = some (.lst (([0] : List Int).map V.int)) ∧ Pns K H' vs' xs, ?_, ?_⟩
    · refine ⟨_, rfl, d, 5, _, rfl, D, by omega, by decide, by decide, fun y H1 y0 y1 k1 D1 => ⟨(by show 1 ≤ sizeLine; decide), fun q H2 n2 s2 e2 => ⟨_, _, rfl, ?_⟩⟩⟩
      exact ⟨y, q, rfl, k1.trans (kept_of s2), D1.same s2, D1.nn n2, e2, (hU.roll D k1).same s2⟩
    clear D hU
    rintro σ' H1 ⟨y, q, rfl, k1, D, nq, eq, hU⟩
    refine ⟨fun σ' H' => ∃ (u4 u5 : Option V) (q : Addr) (ns : List Int), σ' = [some (.ref d), some (.ref l), some (.int y), some (.ref q), u4, u5] ∧ Same H1 H' ∧ q ≠ d ∧ H' q = some (.lst (ns.map V.int)) ∧ 0 < ns.length ∧ ns.length ≤ 100, ?_, ?_⟩
    · have hl1 := k1 _ _ nl hl
      have hlen := hU.length
      refine ⟨_, rfl, l, rfl, ⟨_, SqL.of hl1⟩, ?_⟩
      refine for_list (K := K) (a := l) (xs := vs') (fun i σ' H' => ∃ (u4 u5 : Option V) (q : Addr) (ns : List Int), σ' = [some (.ref d), some (.ref l), some (.int y), some (.ref q), u4, u5] ∧ Same H1 H' ∧ q ≠ d ∧ H' q = some (.lst (ns.map V.int)) ∧ 0 < ns.length ∧ ns.length ≤ 1 + 6 * i) ⟨_, _, q, [0], rfl, Same.refl _, nq, eq, Nat.succ_pos _, Nat.le_refl _⟩ ?_ ?_ ?_
      · rintro i σ' H' _ ⟨_, _, _, _, _, s2, _⟩
        exact SqL.of (s2 _ _ hl1)
      · rintro i x σ' H2 hx ⟨u4, u5, q, ns, rfl, s2, nq, eq, h0, h1⟩
        obtain ⟨z, hz', Px⟩ := pr_get hU hx
        have oy := hok z (List.mem_of_getElem? hz')
        have hi : i < vs'.length := (List.getElem?_eq_some_iff.mp hx).1
        obtain ⟨lq, ys, ⟨ax, rfl, hX⟩, el, R⟩ := Px.same s2
        have hlq := R.length
        have hf := oy.few
        refine ⟨ax, _, rfl, hX, rfl, _, _, rfl, _, _, rfl, rfl, ?_⟩
        refine ⟨_, rfl, _, rfl, lq, ys, z.ss, rfl, SqL.of el, R, fun s hs => (oy.ok s hs).2, by omega, fun q3 H3 bs n3 s3 e3 hfar hbl hall => ?_⟩
        refine ⟨q, q3, _, _, rfl, rfl, s3 _ _ eq, e3, ?_, fun q4 H4 n4 s4 e4 => ?_⟩
        · rw [List.length_map, List.length_map]
          exact Nat.le_trans (by omega : ns.length + bs.length ≤ 100) (by decide)
        · exact ⟨_, _, q4, ns ++ bs, rfl, Same.trans s2 (Same.trans s3 s4), (D.same (Same.trans s2 s3)).nn n4, by rw [List.map_append]; exact e4, by rw [List.length_append]; omega, by rw [List.length_append]; omega⟩
      · rintro σ' H2 ⟨u4, u5, q, ns, rfl, s2, nq, eq, h0, h1⟩
        exact ⟨u4, u5, q, ns, rfl, s2, nq, eq, h0, by omega⟩
    rintro σ' H2 ⟨u4, u5, q, ns, rfl, s2, nq, eq, h0, h1⟩
    have D2 := D.same s2
    have k2 := k1.trans (kept_of s2)
    refine ⟨fun σ' H' => σ' = [some (.ref d), some (.ref l), some (.int y), some (.ref q), u4, u5] ∧ H' = H2, ?_, ?_⟩
    · refine ⟨_, rfl, rfl, _, rfl, ite2 (fun c => ?_) fun c => ⟨rfl, rfl⟩⟩
      refine ⟨_, rfl, _, rfl, (by show 2 ≤ sizeLine; decide), fun q3 H3 n3 s3 e3 => ?_⟩
      have D3 := D2.same s3
      refine ⟨d, q3, _, _, rfl, D3, by omega, SqL.of e3, D2.nn n3, (by show 0 < 2; decide), (by show 2 < 1000; decide), fun x H4 hx k4 D4 => ?_⟩
      refine ⟨_, _, rfl, rfl, ⟨by decide, by decide⟩, _, rfl, _, _, rfl, rfl, ⟨by decide, by decide⟩, d, (10 : Int) ^ (6 : Int).toNat, _, rfl, D4, by omega, by decide +kernel, by decide +kernel, fun j H5 j0 j1 k5 D5 => ⟨_, _, rfl, rfl, ?_⟩⟩
      simp only [List.mem_cons, List.not_mem_nil, or_false] at hx
      have kk := k2.trans ((kept_of s3).trans (k4.trans k5))
      rcases hx with rfl | rfl
      · exact ⟨_, _, rfl, rfl, .inl ⟨by decide, by decide⟩, k _ H5 kk (D5.mono (by omega))⟩
      · exact ⟨_, _, rfl, rfl, .inl ⟨by decide, by decide⟩, k _ H5 kk (D5.mono (by omega))⟩
    rintro σ' H3 ⟨rfl, rfl⟩
    refine ⟨_, rfl, _, rfl, d, q, _, _, rfl, D2, by omega, SqL.of eq, nq, by rw [List.length_map]; exact h0, by rw [List.length_map]; omega, fun x H4 hx k4 D4 => ?_⟩
    obtain ⟨t, _, rfl⟩ := List.mem_map.mp hx
    refine ⟨_, rfl, d, 30, _, rfl, D4, by omega, by decide, by decide, fun m H5 _ _ k5 D5 => ⟨_, _, rfl, rfl, ?_⟩⟩
    exact k _ H5 (k2.trans (k4.trans k5)) (D5.mono (by omega))
end
end TM
end

section

namespace Rn
/-- the first members from a on, at most m -/
def Walk (A : Int → Prop) : Nat → Int → List Int → Prop
  | 0, _, ys => ys = []
  | _ + 1, a, [] => IsNext A a none
  | m + 1, a, y :: ys => IsNext A a (some y) ∧ Walk A m (y + 1) ys
def WalkB (A : Int → Prop) : Nat → Int → List Int → Prop
  | 0, _, ys => ys = []
  | _ + 1, a, [] => IsLast A a none
  | m + 1, a, y :: ys => IsLast A a (some y) ∧ WalkB A m (y - 1) ys
/-- all members from a on -/
def All (A : Int → Prop) : Int → List Int → Prop
  | a, [] => IsNext A a none
  | a, y :: ys => IsNext A a (some y) ∧ All A (y + 1) ys
def AllB (A : Int → Prop) : Int → List Int → Prop
  | a, [] => IsLast A a none
  | a, y :: ys => IsLast A a (some y) ∧ AllB A (y - 1) ys
theorem Walk.uniq {A : Int → Prop} : ∀ {m : Nat} {a : Int} {ys zs : List Int}, Walk A m a ys → Walk A m a zs → ys = zs
  | 0, _, _, _, h, h' => Eq.trans h (Eq.symm h')
  | m + 1, a, [], [], _, _ => rfl
  | m + 1, a, [], z :: zs, h, h' => nomatch IsNext.uniq h h'.1
  | m + 1, a, y :: ys, [], h, h' => nomatch IsNext.uniq h.1 h'
  | m + 1, a, y :: ys, z :: zs, h, h' => by
    obtain rfl : y = z := Option.some.inj (IsNext.uniq h.1 h'.1)
    rw [Walk.uniq h.2 h'.2]
theorem WalkB.uniq {A : Int → Prop} : ∀ {m : Nat} {a : Int} {ys zs : List Int}, WalkB A m a ys → WalkB A m a zs → ys = zs
  | 0, _, _, _, h, h' => Eq.trans h (Eq.symm h')
  | m + 1, a, [], [], _, _ => rfl
  | m + 1, a, [], z :: zs, h, h' => nomatch IsLast.uniq h h'.1
  | m + 1, a, y :: ys, [], h, h' => nomatch IsLast.uniq h.1 h'
  | m + 1, a, y :: ys, z :: zs, h, h' => by
    obtain rfl : y = z := Option.some.inj (IsLast.uniq h.1 h'.1)
    rw [WalkB.uniq h.2 h'.2]
theorem Walk.congr {A B : Int → Prop} (e : ∀ t, A t ↔ B t) {m : Nat} {a : Int} {ys : List Int} (h : Walk A m a ys) : Walk B m a ys := by
  have q : A = B := funext fun t => propext (e t)
  rw [← q]
  exact h
theorem WalkB.congr {A B : Int → Prop} (e : ∀ t, A t ↔ B t) {m : Nat} {a : Int} {ys : List Int} (h : WalkB A m a ys) : WalkB B m a ys := by
  have q : A = B := funext fun t => propext (e t)
  rw [← q]
  exact h
theorem All.congr {A B : Int → Prop} (e : ∀ t, A t ↔ B t) {a : Int} {ys : List Int} (h : All A a ys) : All B a ys := by
  have q : A = B := funext fun t => propext (e t)
  rw [← q]
  exact h
theorem AllB.congr {A B : Int → Prop} (e : ∀ t, A t ↔ B t) {a : Int} {ys : List Int} (h : AllB A a ys) : AllB B a ys := by
  have q : A = B := funext fun t => propext (e t)
  rw [← q]
  exact h
theorem last_turn {A : Int → Prop} {a : Int} {o : Option Int} (h : IsNext (fun t => A (-t)) (-a) o) : IsLast A a (o.map fun x => -x) := by
  cases o with
  | none => exact fun s hs c => h (-s) (by omega) (by show A (- -s); rw [Int.neg_neg]; exact c)
  | some x =>
    obtain ⟨h1, h2, h3⟩ := h
    refine ⟨h1, (by omega : -x ≤ a), fun s hs c => ?_⟩
    have q := h3 (-s) (by omega) (by show A (- -s); rw [Int.neg_neg]; exact c)
    exact (by omega : s ≤ -x)
/-- walking back is walking on in the mirror -/
theorem Walk.turn {A : Int → Prop} : ∀ {m : Nat} {a : Int} {ys : List Int}, Walk (fun t => A (-t)) m (-a) ys → WalkB A m a (ys.map fun x => -x)
  | 0, _, _, h => by
    obtain rfl : _ = [] := h
    rfl
  | m + 1, a, [], h => last_turn (o := none) h
  | m + 1, a, y :: ys, h => by
    refine ⟨last_turn (o := some y) h.1, ?_⟩
    have q := h.2
    have e : y + 1 = -(-y - 1) := by omega
    rw [e] at q
    exact Walk.turn q
theorem Walk.len {A : Int → Prop} : ∀ {m : Nat} {a : Int} {ys : List Int}, Walk A m a ys → ys.length ≤ m
  | 0, _, _, h => by
    obtain rfl : _ = [] := h
    exact Nat.le_refl _
  | m + 1, a, [], h => Nat.zero_le _
  | m + 1, a, y :: ys, h => Nat.succ_le_succ (Walk.len h.2)
end Rn
end

section

/-! EwK06: numbers of members of two sets, walks and members by index. -/
namespace Rn
section
variable {A B : Int → Prop} {lo hi : Int}
theorem cnt_split (A B : Int → Prop) (lo hi : Int) : cnt A lo hi = cnt (fun t => A t ∧ B t) lo hi + cnt (fun t => A t ∧ ¬ B t) lo hi := by
  rw [← cnt_or fun t h1 h2 => h2.2 h1.2]
  exact cnt_congr fun t _ _ => ⟨fun h => (Classical.em (B t)).elim (fun q => .inl ⟨h, q⟩) fun q => .inr ⟨h, q⟩, fun h => h.elim And.left And.left⟩
theorem cnt_both (A B : Int → Prop) (lo hi : Int) : cnt (fun t => A t ∨ B t) lo hi + cnt (fun t => A t ∧ B t) lo hi = cnt A lo hi + cnt B lo hi := by
  have e : cnt (fun t => A t ∨ B t) lo hi = cnt (fun t => A t ∨ (B t ∧ ¬ A t)) lo hi := cnt_congr fun t _ _ => ⟨fun h => h.elim .inl fun q => (Classical.em (A t)).elim .inl fun r => .inr ⟨q, r⟩, fun h => h.elim .inl fun q => .inr q.1⟩
  have e2 : cnt (fun t => B t ∧ A t) lo hi = cnt (fun t => A t ∧ B t) lo hi := cnt_congr fun t _ _ => And.comm
  have h1 := cnt_split B A lo hi
  rw [e, cnt_or fun t h1 h2 => h2.2 h1, h1, e2]
  omega
theorem cntN_all : ∀ {n : Nat}, cntN (fun _ => True) lo n = n
  | 0 => rfl
  | n + 1 => by
    unfold cntN
    rw [cntN_all (n := n), if_pos trivial]
theorem cnt_not (A : Int → Prop) (h : lo ≤ hi + 1) : (cnt A lo hi : Int) + (cnt (fun t => ¬ A t) lo hi : Int) = hi + 1 - lo := by
  have e : cnt (fun t => A t ∨ ¬ A t) lo hi = cnt (fun _ => True) lo hi := cnt_congr fun t _ _ => ⟨fun _ => trivial, fun _ => Classical.em _⟩
  rw [cnt_or fun t h1 h2 => h2 h1] at e
  have e2 : cnt (fun _ => True) lo hi = (hi + 1 - lo).toNat := cntN_all
  omega
theorem kth_on {y i : Int} {k : Nat} {a : Int} {o : Option Int} (h : IsNext A a (some y)) (hk : IsKth A (y + 1) k o) : IsKth A a (k + 1) o := by
  obtain ⟨h1, h2, h3⟩ := h
  have key : ∀ {m : Int}, y ≤ m → cnt A a m = cnt A (y + 1) m + 1 := fun {m} hm => by
    rw [cnt_cut (c := y) (by omega) hm, cnt_yes h2 h1, cnt_none (lo := a) (hi := y - 1) fun t t1 t2 ht => by have := h3 t t1 ht; omega]
    omega
  cases o with
  | none =>
    intro m
    have q := hk m
    by_cases c : y ≤ m
    · rw [key c]
      omega
    · rw [cnt_none fun t t1 t2 ht => by have := h3 t t1 ht; omega]
      omega
  | some m =>
    obtain ⟨k1, k2, k3⟩ := hk
    refine ⟨k1, by omega, ?_⟩
    rw [key (by omega), k3]
theorem kth_zero {a y : Int} (h : IsNext A a (some y)) : IsKth A a 0 (some y) := by
  obtain ⟨h1, h2, h3⟩ := h
  refine ⟨h1, h2, ?_⟩
  rw [cnt_yes h2 h1, cnt_none (lo := a) (hi := y - 1) fun t t1 t2 ht => by have := h3 t t1 ht; omega]
theorem kth_none {a : Int} (h : IsNext A a none) (k : Nat) : IsKth A a k none := fun m => by
  rw [cnt_none fun t t1 _ ht => h t t1 ht]
  exact Nat.zero_le _
/-- walks and members by index -/
theorem Walk.kth : ∀ {m : Nat} {a : Int} {ys : List Int}, Walk A m a ys → ∀ i, i < m → IsKth A a i ys[i]?
  | 0, _, _, _, i, hi => absurd hi (Nat.not_lt_zero _)
  | m + 1, a, [], h, i, _ => kth_none h i
  | m + 1, a, y :: ys, h, 0, _ => kth_zero h.1
  | m + 1, a, y :: ys, h, i + 1, hi => kth_on (i := 0) h.1 (Walk.kth h.2 i (Nat.lt_of_succ_lt_succ hi))
theorem Walk.asc : ∀ {m : Nat} {a : Int} {ys : List Int}, Walk A m a ys → (∀ y ∈ ys, a ≤ y) ∧ ys.Pairwise (· < ·)
  | 0, _, _, h => by
    obtain rfl : _ = [] := h
    exact ⟨(fun _ h => nomatch h), List.Pairwise.nil⟩
  | m + 1, a, [], h => ⟨(fun _ h => nomatch h), List.Pairwise.nil⟩
  | m + 1, a, y :: ys, h => by
    obtain ⟨q1, q2⟩ := Walk.asc h.2
    have := h.1.2.1
    refine ⟨fun z hz => ?_, .cons (fun z hz => ?_) q2⟩
    · rcases List.mem_cons.mp hz with rfl | hz
      · exact h.1.2.1
      · have := q1 z hz
        omega
    · have := q1 z hz
      omega
/-- ascending lists with the same members -/
theorem asc_uniq : ∀ {xs ys : List Int}, xs.Pairwise (· < ·) → ys.Pairwise (· < ·) → (∀ t, t ∈ xs ↔ t ∈ ys) → xs = ys
  | [], [], _, _, _ => rfl
  | [], y :: ys, _, _, h => nomatch (h y).mpr List.mem_cons_self
  | x :: xs, [], _, _, h => nomatch (h x).mp List.mem_cons_self
  | x :: xs, y :: ys, h1, h2, h => by
    obtain ⟨a1, a2⟩ := List.pairwise_cons.mp h1
    obtain ⟨b1, b2⟩ := List.pairwise_cons.mp h2
    have e : x = y := by
      rcases List.mem_cons.mp ((h x).mp List.mem_cons_self) with e | e
      · exact e
      · rcases List.mem_cons.mp ((h y).mpr List.mem_cons_self) with f | f
        · exact f.symm
        · have := b1 x e
          have := a1 y f
          omega
    subst e
    rw [asc_uniq (xs := xs) (ys := ys) a2 b2 fun t => ?_]
    constructor
    · intro ht
      rcases List.mem_cons.mp ((h t).mp (List.mem_cons_of_mem _ ht)) with e | e
      · have := a1 t ht
        omega
      · exact e
    · intro ht
      rcases List.mem_cons.mp ((h t).mpr (List.mem_cons_of_mem _ ht)) with e | e
      · have := b1 t ht
        omega
      · exact e
/-- the last one in a window by its index -/
theorem kth_last {c : Nat} {o : Option Int} (hc : cnt A lo hi = c) (h0 : 0 < c) (h : IsKth A lo (c - 1) o) : ∃ t, o = some t ∧ A t ∧ lo ≤ t ∧ t ≤ hi ∧ IsLast A hi (some t) := by
  cases o with
  | none =>
    have := h hi
    omega
  | some t =>
    obtain ⟨h1, h2, h3⟩ := h
    have hle : t ≤ hi := by
      by_cases q : t ≤ hi
      · exact q
      · have := cnt_lt (by omega : hi < t) h2 h1
        omega
    refine ⟨t, rfl, h1, h2, hle, h1, hle, fun s hs hA => ?_⟩
    by_cases q : s ≤ t
    · exact q
    · have := cnt_lt (by omega : t < s) (by omega : lo ≤ s) hA
      have := cnt_mono (A := A) (lo := lo) hs
      omega
theorem next_beyond {t : Int} (hc : cnt A lo hi = 0) (h : IsNext A lo (some t)) : hi < t := by
  by_cases q : hi < t
  · exact q
  · have q : t ≤ hi := by omega
    have h1 := cnt_yes h.2.1 h.1
    have := cnt_mono (A := A) (lo := lo) q
    omega
end
end Rn
end

section
set_option maxHeartbeats 4000000
/-! EwCallR: f(e, ..), f a def of the module with *args. -/
namespace EW
open PySem PySem.Spec PyProof.Rows L2
theorem pe_callR {X : Cx} {CX : CXT} {k : Nat} {f : Addr} {sp : Sp} {E : XK} {x : Str} {e : Expr} {es : List Expr} {t : TA} {p pos : Pos} (F : FnR X.prog X.w X.K X.mg X.base CX k f sp) (hr : Room k X.A) (hk : W.keepIn X.K (.ref f) = true) (hg : Gl X x) (hm : X.mg x = some (.ref f)) (hx : Passes CX X E) (ha : PA X (e :: es) t) (hd : (x == ("__debug__" : Str)) = false := by decide)
    (he : starEach (e :: es) X.env = (false, eval e X.env) :: starEach es X.env := by rfl) (hpl : (backTo pos (starEach es X.env)).any (·.1) = false := by rfl) :
    PE X (.Call (.Name x p) (e :: es) [] pos) (fun σ H Q => t σ H fun vs H1 => sp vs H1 Q E) := by
  refine ⟨fun pins s σ H Q I h => ?_⟩
  refine wpAny_Call_Name_kw (ld_glob I hg hm ?_ hd)
  refine PySem.W.callWith_K (h₀ := X.base) I.ok.mod.kin hk (thn (ha.run pos pins s σ H _ I h) fun us s1 ⟨vs, H1, I1, r, q⟩ => ⟨I1.kIn, ?_⟩) he hpl
  exact wpAny_call (run_fnR F hr hx I1 r q)
end EW
end

section
set_option maxHeartbeats 4000000
namespace TM
open PySem PySem.Spec PyProof.Rows L2 EW
abbrev NRight : List Str := ["_law_dice_here", "_law_sets", "_law_turn", "_law_period_here", "_law_made", "_law_spans_here", "_law_begun_here", "_law_told", "_law_index"]
theorem Right : FnScope NRight ["_law_dice_here"] (defScope sRight) := ⟨rfl, rfl, rfl, by decide +kernel, rfl, by decide +kernel, by decide +kernel⟩
/-- a plain set whose list of spans is not L -/
def PnA (K : W.Frag) (L : Addr) (H : Hp) (v : V) (x : Pn) : Prop := ∃ l xs, l ≠ L ∧ Tp K H v [.int x.p, .ref l] ∧ H l = some (.lst xs) ∧ Sns K H xs x.ss
theorem PnA.pn {K : W.Frag} {L : Addr} {H : Hp} {v : V} {x : Pn} (h : PnA K L H v x) : PnV K H v x := let ⟨l, xs, _, h1, h2, h3⟩ := h; ⟨l, xs, h1, h2, h3⟩
theorem PnA.roll {K : W.Frag} {L : Addr} {H H' : Hp} {v : V} {x : Pn} {d : Addr} {n : Int} (h : PnA K L H v x) (D : Dc H d n) (k : EW.Kept d H H') : PnA K L H' v x := by
  obtain ⟨l, xs, nl, h1, h2, h3⟩ := h
  obtain ⟨ds, hd⟩ := D.lst
  have ne : l ≠ d := fun e => by
    obtain ⟨g, b, c, hd', _⟩ := D
    rw [e, hd'] at h2
    cases h2
    obtain ⟨y, _, a, e, _⟩ := pr_get h3 (i := 0) (x := .int g) rfl
    cases e
  exact ⟨l, xs, nl, h1.kept hd k, k _ _ ne h2, Sns.kept h3 hd k⟩
theorem PnA.same {K : W.Frag} {L : Addr} {H H' : Hp} {v : V} {x : Pn} (h : PnA K L H v x) (s : Same H H') : PnA K L H' v x := let ⟨l, xs, nl, h1, h2, h3⟩ := h; ⟨l, xs, nl, h1.same s, s _ _ h2, Sns.same h3 s⟩
theorem PnA.kept {K : W.Frag} {L : Addr} {H H' : Hp} {v : V} {x : Pn} {ys : List V} (h : PnA K L H v x) (e : H L = some (.lst ys)) (k : EW.Kept L H H') : PnA K L H' v x := let ⟨l, xs, nl, h1, h2, h3⟩ := h; ⟨l, xs, nl, h1.kept e k, k _ _ nl h2, Sns.kept h3 e k⟩
/-- the plain sets in L -/
structure Pls (K : W.Frag) (H0 H : Hp) (d L : Addr) (n : Int) (xs : List Pn) : Prop where
  k : EW.Kept d H0 H
  D : Dc H d n
  nd : L ≠ d
  at_ : ∃ vs, H L = some (.lst vs) ∧ Pns K H vs xs
  ok : ∀ x ∈ xs, x.Ok
  few : xs.length ≤ 3
theorem Pls.same {K : W.Frag} {H0 H H' : Hp} {d L : Addr} {n : Int} {xs : List Pn} (h : Pls K H0 H d L n xs) (s : Same H H') : Pls K H0 H' d L n xs := ⟨h.k.trans (kept_of s), h.D.same s, h.nd, let ⟨vs, e, r⟩ := h.at_; ⟨vs, s _ _ e, r.same s⟩, h.ok, h.few⟩
theorem Pls.roll {K : W.Frag} {H0 H H' : Hp} {d L : Addr} {n n' : Int} {xs : List Pn} (h : Pls K H0 H d L n xs) (k : EW.Kept d H H') (D : Dc H' d n') : Pls K H0 H' d L n' xs := ⟨h.k.trans k, D, h.nd, let ⟨vs, e, r⟩ := h.at_; ⟨vs, k _ _ h.nd e, r.roll h.D k⟩, h.ok, h.few⟩
theorem Pls.mono {K : W.Frag} {H0 H : Hp} {d L : Addr} {n n' : Int} {xs : List Pn} (h : Pls K H0 H d L n xs) (l : n ≤ n') : Pls K H0 H d L n' xs := ⟨h.k, h.D.mono l, h.nd, h.at_, h.ok, h.few⟩
/-- as a set -/
def stOf (x : Pn) : St := ⟨x.p.toNat, 36, Rn.inSpans x.p x.ss⟩
theorem comm_of {xs : List Pn} {t : Int} : Comm (xs.map stOf) t ↔ ComP xs t := by
  unfold Comm ComP
  constructor
  · intro h x hx
    exact h (stOf x) (List.mem_map.mpr ⟨x, hx, rfl⟩)
  · intro h s hs
    obtain ⟨x, hx, rfl⟩ := List.mem_map.mp hs
    exact h x hx
theorem small_le : ∀ (l : List St) (a b : Nat), (∀ s ∈ l, 1 ≤ s.q ∧ s.q ≤ 12 ∧ s.n ≤ 36) → l.foldl (fun a s => Nat.lcm a s.q) a ≤ a * 12 ^ l.length ∧ l.foldl (fun a s => a * s.n) b ≤ b * 36 ^ l.length
  | [], a, b, _ => ⟨by simp, by simp⟩
  | s :: l, a, b, h => by
    obtain ⟨h1, h2, h3⟩ := h s List.mem_cons_self
    obtain ⟨i1, i2⟩ := small_le l (Nat.lcm a s.q) (b * s.n) fun x hx => h x (List.mem_cons_of_mem _ hx)
    have hl : Nat.lcm a s.q ≤ a * 12 := by
      rcases Nat.eq_zero_or_pos a with rfl | ha
      · rw [Nat.lcm_zero_left]
        exact Nat.zero_le _
      · exact Nat.le_trans (Nat.le_of_dvd (Nat.mul_pos ha h1) (Nat.lcm_dvd_mul a s.q)) (Nat.mul_le_mul_left _ h2)
    refine ⟨Nat.le_trans i1 ?_, Nat.le_trans i2 ?_⟩
    · rw [List.length_cons, Nat.pow_succ, Nat.mul_comm (12 ^ l.length), ← Nat.mul_assoc]
      exact Nat.mul_le_mul_right _ hl
    · rw [List.length_cons, Nat.pow_succ, Nat.mul_comm (36 ^ l.length), ← Nat.mul_assoc]
      exact Nat.mul_le_mul_right _ (Nat.mul_le_mul_left _ h3)
theorem small_of {xs : List Pn} (hok : ∀ x ∈ xs, x.Ok) (hz : xs.length ≤ 3) : Small (xs.map stOf) := fun i => by
  obtain ⟨h1, h2⟩ := small_le ((xs.map stOf).take i) 1 1 fun s hs => by
    obtain ⟨x, hx, rfl⟩ := List.mem_map.mp (List.mem_of_mem_take hs)
    obtain ⟨p1, p2, _⟩ := hok x hx
    exact ⟨by show 1 ≤ x.p.toNat; omega, by show x.p.toNat ≤ 12; omega, Nat.le_refl _⟩
  have hl : ((xs.map stOf).take i).length ≤ 3 := by
    rw [List.length_take, List.length_map]
    omega
  have e1 : 12 ^ ((xs.map stOf).take i).length ≤ 12 ^ 3 := Nat.pow_le_pow_right (by decide) hl
  have e2 : 36 ^ ((xs.map stOf).take i).length ≤ 36 ^ 3 := Nat.pow_le_pow_right (by decide) hl
  have f1 : 12 ^ 3 ≤ 1000000 := by decide
  have f2 : 36 ^ 3 ≤ 1000000 := by decide
  unfold lcms prods
  omega
/-- .. and the sets made of them -/
structure Md (K : W.Frag) (H0 H : Hp) (d L M : Addr) (n : Int) (xs : List Pn) (us : List V) : Prop where
  w : Pls K H0 H d L n xs
  m : SqT K H M us
  s : Sts K H us (xs.map stOf)
theorem Md.same {K : W.Frag} {H0 H H' : Hp} {d L M : Addr} {n : Int} {xs : List Pn} {us : List V} (h : Md K H0 H d L M n xs us) (s : Same H H') : Md K H0 H' d L M n xs us := ⟨h.w.same s, SqT.same h.m s, h.s.same s⟩
theorem Md.roll {K : W.Frag} {H0 H H' : Hp} {d L M : Addr} {n n' : Int} {xs : List Pn} {us : List V} (h : Md K H0 H d L M n xs us) (k : EW.Kept d H H') (D : Dc H' d n') : Md K H0 H' d L M n' xs us := ⟨h.w.roll k D, let ⟨_, hd⟩ := h.w.D.lst; SqT.kept h.m hd k, Paired.mono (fun _ _ q => Has.roll q h.w.D k) h.s⟩
theorem Md.mono {K : W.Frag} {H0 H : Hp} {d L M : Addr} {n n' : Int} {xs : List Pn} {us : List V} (h : Md K H0 H d L M n xs us) (l : n ≤ n') : Md K H0 H d L M n' xs us := ⟨h.w.mono l, h.m, h.s⟩
abbrev lP1 : Pn := ⟨4, [⟨some 1, none, none⟩, ⟨some 3, some 0, none⟩]⟩
abbrev lP2 : Pn := ⟨6, [⟨some 0, none, none⟩, ⟨some 2, none, some 9⟩, ⟨some 4, some 0, none⟩]⟩
theorem next_kth {A : Int → Prop} {a : Int} {o : Option Int} (h : Rn.IsNext A a o) : Rn.IsKth A a 0 o := by
  cases o with
  | none => exact Rn.kth_none h 0
  | some t => exact Rn.kth_zero h
theorem scal_ob (o : Option Int) : scal (ob o) (ob o) = true := by cases o <;> rfl
theorem cut_none (xs : List V) : cutV xs none (some 1) = xs.take 1 := by
  unfold cutV
  rw [HT.sIx_none, show (some 1 : Option Int) = some ((1 : Nat) : Int) from rfl, HT.sIx_nat]
  cases xs with
  | nil => rfl
  | cons x xs =>
    rw [List.length_cons, show min 1 (xs.length + 1) = 1 by omega]
    rfl
theorem fit_of' {n : Nat} (h : n ≤ 100000000000000000000000000000000) : Rn.Fit (n + 1) := by
  unfold Rn.Fit
  exact Nat.lt_of_le_of_lt (Nat.succ_le_succ h) (by decide +kernel)
def spRightL (K : W.Frag) : Sp := fun vs H Q _ => ∃ (d : Addr) (n : Int), vs = [.ref d] ∧ Dc H d n ∧ n + 1000 ≤ 1000000 ∧ ∀ H', EW.Kept d H H' → Dc H' d (n + 1000) → Q (.bl true) H'
section
variable {P : Program} {w : World} {K : W.Frag} {mg : Str → Option Value} {base : Heap}
theorem ok_right {fd : FuncData} (F : FnP K "_law_right" sRight fd) (T : Fre mg) (KT : Kl K mg "Times") (Cof : CMt P w K mg base 9 (CT K) "of" (spOf K)) (FMeet : FnR P w K mg base CX0 6 (He.ga K "meet") (spMeet K)) (kMeet : W.keepIn K (.ref (He.ga K "meet")) = true) (gMeet : mg "meet" = some (.ref (He.ga K "meet")))
    (Dmeet_all : Df P w K mg base 5 "meet_all" ["start", "sets"] (spMeetA K)) (Dkth_meeting : Df P w K mg base 5 "kth_meeting" ["start", "index", "sets"] (spKthM K))
    (D_law_pick : Df P w K mg base 2 "_law_pick" ["_law_dice_here", "_law_items"] (spPick K)) (D_law_roll : Df P w K mg base 1 "_law_roll" ["_law_dice_here", "_law_many"] spRoll) (D_law_spans : Df P w K mg base 6 "_law_spans" ["_law_dice_here", "_law_period_here", "_law_most"] (spSpansL K))
    (D_law_is_common : Df P w K mg base 3 "_law_is_common" ["_law_sets", "_law_time"] (spIsCom K)) (D_law_none_ahead : Df P w K mg base 4 "_law_none_ahead" ["_law_sets", "_law_begun_here", "_law_end"] (spNoneA K)) (D_law_is_kth : Df P w K mg base 5 "_law_is_kth" ["_law_sets", "_law_index", "_law_begun_here", "_law_told"] (spIsKthL K)) (D_law_begun : Df P w K mg base 3 "_law_begun" ["_law_dice_here", "_law_sets"] (spBegunL K)) :
    FnOk P w K mg base CX0 10 (He.ga K "_law_right") fd ["_law_dice_here"] (spRightL K) := by
  refine F.ok Right (fun vs H Q E h => ?_) (fun cdv A outer s H vs Q E hr h => ?_)
  · obtain ⟨d, n, rfl, _⟩ := h
    rfl
  · obtain ⟨d, n, rfl, D, hn, k⟩ := h
    refine ⟨_, PSs.nox (pss_cons (ps_cut (ps_set (i := 1) Right.nd rfl (Or.inl rfl) (pe_lstS pa_nil)))
      (pss_cons (ps_cut (ps_for PassesOwn.never rfl (pi_range1 rfl T.range (pa_cons (pe_df D_law_roll (hr.mono (by decide)) rfl (pa_cons (pv 0) (pa_cons pe_int pa_nil))) pa_nil)) (pg_name (i := 2) Right.nd rfl (Or.inl rfl)) (pss_cons (ps_cut (ps_set (i := 3) Right.nd rfl (Or.inl rfl) (pe_df D_law_pick (hr.mono (by decide)) rfl (pa_cons (pv 0) (pa_cons (pe_lstS (pa_cons pe_int (pa_cons pe_int (pa_cons pe_int (pa_cons pe_int (pa_cons pe_int (pa_cons pe_int (pa_cons pe_int (pa_cons pe_int pa_nil))))))))) pa_nil)))))
      (pss_one (ps_expr (pe_bm PySem.F.plainAttrs_list PySem.F.slot_list_append PySem.F.type_list_append mt_append (pv 1) (pa_cons (pe_tupS (pa_cons (pv 3) (pa_cons (pe_df D_law_spans (hr.mono (by decide)) rfl (pa_cons (pv 0) (pa_cons (pv 3) (pa_cons pe_int pa_nil)))) pa_nil))) pa_nil)))))))
      (pss_cons (ps_cut (ps_if (pt_cmpR op_eq (pe_df D_law_roll (hr.mono (by decide)) rfl (pa_cons (pv 0) (pa_cons pe_int pa_nil))) pe_int (nomark _)) (pss_one (ps_set (i := 1) Right.nd rfl (Or.inl rfl) (pe_op op_catS (pe_lstS (pa_cons (pe_tupS (pa_cons pe_int (pa_cons (pe_lstS (pa_cons (pe_tupS (pa_cons pe_int (pa_cons pe_non (pa_cons pe_non pa_nil)))) (pa_cons (pe_tupS (pa_cons pe_int (pa_cons pe_int (pa_cons pe_non pa_nil)))) pa_nil))) pa_nil))) (pa_cons (pe_tupS (pa_cons pe_int (pa_cons (pe_lstS (pa_cons (pe_tupS (pa_cons pe_int (pa_cons pe_non (pa_cons pe_non pa_nil)))) (pa_cons (pe_tupS (pa_cons pe_int (pa_cons pe_non (pa_cons pe_int pa_nil)))) (pa_cons (pe_tupS (pa_cons pe_int (pa_cons pe_int (pa_cons pe_non pa_nil)))) pa_nil)))) pa_nil))) pa_nil))) (pe_slice (sl_listS K rfl) (pv 1) po_none (po_some pe_int))))) pss_nil))
      (pss_cons (ps_cut (ps_set (i := 4) Right.nd rfl (Or.inl rfl) (pe_callTy (call_tupS K rfl) (by rfl) T.tuple EW.boot_tuple (pa_cons (pe_lc (own := [("_law_period_here", 3), ("_law_spans_here", 5)]) (g := gTup K 2 (gCons (gName 3) (gCons (gName 5) gNil))) (tt := tYes) (by rfl) Right.nd (pi_listK (K := K) rfl (pv 1)) (blkOk_by (own := [("_law_period_here", 3), ("_law_spans_here", 5)]) (N := NRight) (sc := defScope sRight) (by decide +kernel)) (fun _ _ _ _ _ => (pg_tup rfl (pgs_cons (pg_name (i := 3) Right.nd rfl (Or.inl rfl)) (pgs_cons (pg_name (i := 5) Right.nd rfl (Or.inl rfl)) pgs_nil)))) (fun _ _ _ _ _ => pts_nil) (fun _ _ _ _ _ => (pe_cmt (pe_glob (v := .ref (He.ga K "Times")) rfl KT.g rfl) Cof (hr.mono (by decide)) (pa_cons (pv 3) (pa_cons (pe_callTy (call_tupS K rfl) (by rfl) T.tuple EW.boot_tuple (pa_cons (pv 5) pa_nil)) pa_nil))))) pa_nil))))
      (pss_cons (ps_cut (ps_for PassesOwn.never rfl (pi_range1 rfl T.range (pa_cons pe_int pa_nil)) (pg_name (i := 2) Right.nd rfl (Or.inl rfl)) (pss_cons (ps_cut (ps_set (i := 6) Right.nd rfl (Or.inl rfl) (pe_df D_law_begun (hr.mono (by decide)) rfl (pa_cons (pv 0) (pa_cons (pv 1) pa_nil)))))
      (pss_cons (ps_cut (ps_set (i := 7) Right.nd rfl (Or.inl rfl) (pe_df Dmeet_all (hr.mono (by decide)) rfl (pa_cons (pv 6) (pa_cons (pv 4) pa_nil)))))
      (pss_cons (ps_cut (ps_if (PW.pt (pw_and (pt_cmp (pc_notN (pv 7))) (pw_and1 (PW.pt (pw_or (pt_cmpR op_lt (pv 7) (pv 6) (nomark _)) (pw_or1 (pt_not (pt_val (pe_df D_law_is_common (hr.mono (by decide)) rfl (pa_cons (pv 1) (pa_cons (pv 7) pa_nil))))))))))) (pss_one (ps_ret pe_bl)) pss_nil))
      (pss_cons (ps_cut (ps_if (PW.pt (pw_or (pt_not (pt_val (pe_df D_law_none_ahead (hr.mono (by decide)) rfl (pa_cons (pv 1) (pa_cons (pv 6) (pa_cons (pv 7) pa_nil)))))) (pw_or1 (pt_cmpR op_ne (pe_df Dkth_meeting (hr.mono (by decide)) rfl (pa_cons (pv 6) (pa_cons pe_int (pa_cons (pv 4) pa_nil)))) (pv 7) (nomark _))))) (pss_one (ps_ret pe_bl)) pss_nil))
      (pss_cons (ps_cut (ps_set (i := 8) Right.nd rfl (Or.inl rfl) (pe_df D_law_pick (hr.mono (by decide)) rfl (pa_cons (pv 0) (pa_cons (pe_lstS (pa_cons pe_int (pa_cons (pe_df D_law_roll (hr.mono (by decide)) rfl (pa_cons (pv 0) (pa_cons pe_int pa_nil))) (pa_cons (pe_op op_add (pe_op op_powW pe_int pe_int) (pe_df D_law_roll (hr.mono (by decide)) rfl (pa_cons (pv 0) (pa_cons pe_int pa_nil)))) (pa_cons (pe_op op_powW pe_int pe_int) pa_nil))))) pa_nil)))))
      (pss_cons (ps_cut (ps_if (pt_not (pt_val (pe_df D_law_is_kth (hr.mono (by decide)) rfl (pa_cons (pv 1) (pa_cons (pv 8) (pa_cons (pv 6) (pa_cons (pe_df Dkth_meeting (hr.mono (by decide)) rfl (pa_cons (pv 6) (pa_cons (pv 8) (pa_cons (pv 4) pa_nil)))) pa_nil))))))) (pss_one (ps_ret pe_bl)) pss_nil))
      (pss_one (ps_if (PW.pt (pw_or (PW.pt (pw_and (pt_cmpR op_eq (pe_callB (call_lenK K rfl) (by rfl) T.len PySem.boot_len (pa_cons (pv 4) pa_nil)) pe_int (nomark _)) (pw_and1 (pt_cmpR op_ne (EW.pe_callR FMeet (hr.mono (by decide)) kMeet rfl gMeet pass0 (pa_cons (pv 6) (pa_cons (pe_ix (ix_tupK K rfl) (pv 4) pe_int (fun _ _ => rfl)) (pa_cons (pe_ix (ix_tupK K rfl) (pv 4) pe_int (fun _ _ => rfl)) pa_nil)))) (pv 7) (nomark _))))) (pw_or1 (PW.pt (pw_and (pt_cmpR op_eq (pe_callB (call_lenK K rfl) (by rfl) T.len PySem.boot_len (pa_cons (pv 4) pa_nil)) pe_int (nomark _)) (pw_and1 (pt_cmpR op_ne (EW.pe_callR FMeet (hr.mono (by decide)) kMeet rfl gMeet pass0 (pa_cons (pv 6) (pa_cons (pe_ix (ix_tupK K rfl) (pv 4) pe_int (fun _ _ => rfl)) pa_nil))) (pv 7) (nomark _)))))))) (pss_one (ps_ret pe_bl)) pss_nil))))))))))
      (pss_one (ps_ret (pe_cmpR op_eq (EW.pe_callR FMeet (hr.mono (by decide)) kMeet rfl gMeet pass0 (pa_cons pe_int pa_nil)) pe_int (nomark _))))))))), ?_⟩
    -- sets = []
    refine ⟨fun σ' H' => ∃ L, σ' = [some (.ref d), some (.ref L), none, none, none, none, none, none, none] ∧ Same H H' ∧ Dc H' d n ∧ L ≠ d ∧ H L = none ∧ H' L = some (.lst []), ?_, ?_⟩
    · exact ⟨(by show 0 ≤ sizeLine; decide), fun L H1 n1 s1 e1 => ⟨L, rfl, s1, D.same s1, D.nn n1, n1, e1⟩⟩
    rintro σ' H1 ⟨L, rfl, s1, D1, nLd, nL, eL⟩
    -- drawn
    refine ⟨fun σ' H' => ∃ (u2 u3 : Option V) (xs : List Pn), σ' = [some (.ref d), some (.ref L), u2, u3, none, none, none, none, none] ∧ Pls K H H' d L (n + 400) xs, ?_, ?_⟩
    · refine ⟨_, rfl, d, 4, _, rfl, D1, by omega, by decide, by decide, fun r H2 r0 r1 k2 D2 => ⟨_, rfl, by omega, by omega, ?_⟩⟩
      refine for_range (lo := 0) (n := r.toNat) (fun i σ' H' => ∃ (u2 u3 : Option V) (vs : List V) (xs : List Pn), σ' = [some (.ref d), some (.ref L), u2, u3, none, none, none, none, none] ∧ EW.Kept d H H' ∧ Dc H' d (n + 1 + 101 * (i : Int)) ∧ H' L = some (.lst vs) ∧ Paired (PnA K L H') vs xs ∧ (∀ x ∈ xs, x.Ok) ∧ xs.length = i) ⟨_, _, [], [], rfl, (kept_of s1).trans k2, D2.mono (by omega), k2 _ _ nLd eL, .nil, (fun x hx => nomatch hx), rfl⟩ ?_ ?_
      · rintro i σ' H3 hi ⟨u2, u3, vs, xs, rfl, k3, D3, eL3, hU, hok, hl⟩
        have hlen := hU.length
        refine ⟨fun σ' H' => ∃ p : Int, σ' = [some (.ref d), some (.ref L), some (.int (0 + (i : Int))), some (.int p), none, none, none, none, none] ∧ EW.Kept d H H' ∧ Dc H' d (n + 2 + 101 * (i : Int)) ∧ H' L = some (.lst vs) ∧ Paired (PnA K L H') vs xs ∧ 1 ≤ p ∧ p ≤ 12 ∧ 60 % p = 0, ?_, ?_⟩
        · refine ⟨_, rfl, (by show 8 ≤ sizeLine; decide), fun q H4 n4 s4 e4 => ?_⟩
          refine ⟨d, q, _, _, rfl, D3.same s4, by omega, SqL.of e4, D3.nn n4, (by show 0 < 8; decide), (by show 8 < 1000; decide), fun x H5 hx k5 D5 => ?_⟩
          have D4 := D3.same s4
          have kk : EW.Kept d H H5 := k3.trans ((kept_of s4).trans k5)
          have fin : ∀ p : Int, x = .int p → 1 ≤ p → p ≤ 12 → 60 % p = 0 → ∃ p : Int, [some (V.ref d), some (.ref L), some (.int (0 + (i : Int))), some x, none, none, none, none, none] = [some (.ref d), some (.ref L), some (.int (0 + (i : Int))), some (.int p), none, none, none, none, none] ∧ EW.Kept d H H5 ∧ Dc H5 d (n + 2 + 101 * (i : Int)) ∧ H5 L = some (.lst vs) ∧ Paired (PnA K L H5) vs xs ∧ 1 ≤ p ∧ p ≤ 12 ∧ 60 % p = 0 := fun p e a b c => by
            subst e
            exact ⟨p, rfl, kk, D5.mono (by omega), k5 _ _ nLd (s4 _ _ eL3), Paired.mono (fun _ _ q => PnA.roll (PnA.same q s4) D4 k5) hU, a, b, c⟩
          simp only [List.mem_cons, List.not_mem_nil, or_false] at hx
          rcases hx with e | e | e | e | e | e | e | e <;> exact fin _ e (by decide) (by decide) (by decide)
        clear hU D3 k3 eL3
        rintro σ' H4 ⟨p, rfl, k4, D4, eL4, hU, p1, p2, pd⟩
        refine ⟨_, rfl, Or.inl ⟨rfl, _, SqL.of eL4⟩, ?_⟩
        refine ⟨_, rfl, _, rfl, _, rfl, d, p, 3, _, rfl, D4, by omega, by omega, by omega, by decide, by decide, fun a ys ss H5 n5 g z k5 D5 e5 R5 => ⟨(by show 2 ≤ sizeLine; decide), fun q H6 n6 s6 e6 => ?_⟩⟩
        have eL5 := k5 _ _ nLd eL4
        have eL6 := s6 _ _ eL5
        have naL : a ≠ L := (ne_of_none eL4 n5).symm
        have k6 : EW.Kept d H H6 := k4.trans (k5.trans (kept_of s6))
        refine ⟨L, vs, _, rfl, rfl, eL6, Nat.lt_of_le_of_lt (by omega : vs.length ≤ 3) (by decide), ?_⟩
        refine ⟨_, _, vs ++ [.ref q], xs ++ [⟨p, ss⟩], rfl, fun c o ne hc => ?_, ((D5.same s6).keep (upd_ne (Ne.symm nLd))).mono (by omega), upd_same, ?_, fun x hx => ?_, by rw [List.length_append, hl]; rfl⟩
        · rw [upd_ne (ne_of_none hc nL)]
          exact k6 c o ne hc
        · refine pr_append (Paired.mono (fun _ _ q => PnA.kept (PnA.same (PnA.roll q D4 k5) s6) eL6 Kept.upd) hU) (.cons ?_ .nil)
          exact PnA.kept ⟨a, ys, naL, Tp.of e6, s6 _ _ e5, Sns.same R5 s6⟩ eL6 Kept.upd
        · rcases List.mem_append.mp hx with hx | hx
          · exact hok x hx
          · rw [List.mem_singleton.mp hx]
            exact ⟨p1, p2, pd, g, by show ss.length ≤ 3; omega⟩
      · rintro σ' H3 ⟨u2, u3, vs, xs, rfl, k3, D3, eL3, hU, hok, hl⟩
        exact ⟨u2, u3, xs, rfl, k3, D3.mono (by omega), nLd, ⟨vs, eL3, Paired.mono (fun _ _ q => q.pn) hU⟩, hok, by omega⟩
    rintro σ' H2 ⟨u2, u3, xs, rfl, W⟩
    -- perhaps written ones
    refine ⟨fun σ' H' => ∃ (L : Addr) (xs : List Pn), σ' = [some (.ref d), some (.ref L), u2, u3, none, none, none, none, none] ∧ Pls K H H' d L (n + 401) xs, ?_, ?_⟩
    · refine ⟨_, rfl, d, 6, _, rfl, W.D, by omega, by decide, by decide, fun r H3 r0 r1 k3 D3 => ⟨rfl, _, rfl, ite2 (fun c => ?_) fun c => ?_⟩⟩
      · have W3 : Pls K H H3 d L (n + 401) xs := (W.roll k3 D3).mono (by omega)
        refine ⟨(by show 3 ≤ sizeLine; decide), fun a1 G1 m1 g1 f1 => ⟨(by show 3 ≤ sizeLine; decide), fun a2 G2 m2 g2 f2 => ⟨(by show 2 ≤ sizeLine; decide), fun l1 G3 m3 g3 f3 => ⟨(by show 2 ≤ sizeLine; decide), fun t1 G4 m4 g4 f4 => ?_⟩⟩⟩⟩
        refine ⟨(by show 3 ≤ sizeLine; decide), fun a3 G5 m5 g5 f5 => ⟨(by show 3 ≤ sizeLine; decide), fun a4 G6 m6 g6 f6 => ⟨(by show 3 ≤ sizeLine; decide), fun a5 G7 m7 g7 f7 => ⟨(by show 3 ≤ sizeLine; decide), fun l2 G8 m8 g8 f8 => ⟨(by show 2 ≤ sizeLine; decide), fun t2 G9 m9 g9 f9 => ⟨(by show 2 ≤ sizeLine; decide), fun q G10 m10 g10 f10 => ?_⟩⟩⟩⟩⟩⟩
        have s410 : Same G4 G10 := Same.trans g5 (Same.trans g6 (Same.trans g7 (Same.trans g8 (Same.trans g9 g10))))
        have P1 : PnV K G10 (.ref t1) lP1 := PnV.same ⟨l1, _, Tp.of f4, g4 _ _ f3, .cons (Tp.same (Tp.of f1) (Same.trans g2 (Same.trans g3 g4))) (.cons (Tp.same (Tp.of f2) (Same.trans g3 g4)) .nil)⟩ s410
        have P2 : PnV K G10 (.ref t2) lP2 := PnV.same ⟨l2, _, Tp.of f9, g9 _ _ f8, .cons (Tp.same (Tp.of f5) (Same.trans g6 (Same.trans g7 (Same.trans g8 g9)))) (.cons (Tp.same (Tp.of f6) (Same.trans g7 (Same.trans g8 g9))) (.cons (Tp.same (Tp.of f7) (Same.trans g8 g9)) .nil))⟩ g10
        have s310 : Same H3 G10 := Same.trans g1 (Same.trans g2 (Same.trans g3 (Same.trans g4 s410)))
        have W10 := W3.same s310
        obtain ⟨vs, eL10, hU⟩ := W10.at_
        refine ⟨_, rfl, _, rfl, L, vs, rfl, SqL.of eL10, fun q2 G11 m11 g11 f11 => ?_⟩
        rw [cut_none] at f11
        refine ⟨q, q2, _, _, rfl, rfl, g11 _ _ f10, f11, ?_, fun L' G12 m12 g12 f12 => ?_⟩
        · rw [List.length_take]
          exact Nat.le_trans (by show 2 + min 1 vs.length ≤ 3; omega) (by decide)
        have g1012 := Same.trans g11 g12
        have W12 := W10.same g1012
        refine ⟨L', lP1 :: lP2 :: xs.take 1, rfl, W12.k, W12.D, (W10.same g11).D.nn m12, ⟨_, f12, .cons (P1.same g1012) (.cons (P2.same g1012) (pr_take 1 (hU.same g1012)))⟩, fun x hx => ?_, ?_⟩
        · rcases List.mem_cons.mp hx with rfl | hx
          · refine ⟨by decide, by decide, by decide, fun s hs => ?_, by decide⟩
            simp only [List.mem_cons, List.not_mem_nil, or_false] at hs
            rcases hs with rfl | rfl <;> refine ⟨fun r e => ?_, fun i e => ?_, fun i e => ?_⟩ <;> cases e <;> decide
          · rcases List.mem_cons.mp hx with rfl | hx
            · refine ⟨by decide, by decide, by decide, fun s hs => ?_, by decide⟩
              simp only [List.mem_cons, List.not_mem_nil, or_false] at hs
              rcases hs with rfl | rfl | rfl <;> refine ⟨fun r e => ?_, fun i e => ?_, fun i e => ?_⟩ <;> cases e <;> decide
            · exact W.ok x (List.mem_of_mem_take hx)
        · rw [List.length_cons, List.length_cons, List.length_take]
          omega
      · exact ⟨L, xs, rfl, (W.roll k3 D3).mono (by omega)⟩
    clear W
    rintro σ' H3 ⟨L, xs, rfl, W⟩
    -- made
    refine ⟨fun σ' H' => ∃ (M : Addr) (us : List V), σ' = [some (.ref d), some (.ref L), u2, u3, some (.ref M), none, none, none, none] ∧ Md K H H' d L M (n + 401) xs us, ?_, ?_⟩
    · obtain ⟨vs, eL3, hU⟩ := W.at_
      have hlen := hU.length
      have hfew := W.few
      have hbig : (1000 : Nat) < sizeLine := by decide
      refine ⟨_, rfl, L, rfl, ⟨_, SqL.of eL3⟩, fun N hN => ?_⟩
      refine loop_list (xs := vs) (fun i H' => ∃ acc : List V, H' N = some (.lst acc) ∧ Same H3 H' ∧ Sts K H' acc ((xs.take i).map stOf)) ⟨[], upd_same, upd_new hN, by rw [List.take_zero]; exact .nil⟩ ?_ ?_ ?_
      · rintro j H' _ ⟨acc, _, s4, _⟩
        exact SqL.of (s4 _ _ eL3)
      · rintro j x H4 hx ⟨acc, hLa, s4, hA⟩
        obtain ⟨y, hy, Px⟩ := pr_get hU hx
        have oy := W.ok y (List.mem_of_getElem? hy)
        have hj : j < vs.length := (List.getElem?_eq_some_iff.mp hx).1
        have et : xs.take (j + 1) = xs.take j ++ [y] := by
          rw [List.take_add_one, hy]
          rfl
        obtain ⟨lq, ys, ⟨ax, rfl, hX⟩, el, R⟩ := Px.same s4
        have hlq := R.length
        obtain ⟨p1, p2, pd, oks, hf⟩ := oy
        have hla := hA.length
        rw [List.length_map, List.length_take] at hla
        refine ⟨ax, _, rfl, hX, rfl, _, _, rfl, _, _, rfl, rfl, ?_⟩
        refine ⟨rfl, rfl, _, rfl, _, rfl, lq, ys, rfl, SqL.of el, fun q H5 n5 s5 e5 => hOf p1 (by omega) (SqT.of e5) (Sns.same R s5) (fun s hs => (oks s hs).1) (by omega) fun u H6 s6 h6 => ?_⟩
        have s56 := Same.trans s5 s6
        have hLa6 := s56 _ _ hLa
        have hb : y.p.toNat * y.ss.length ≤ 12 * 3 := Nat.mul_le_mul (by omega) hf
        refine ⟨acc, hLa6, by omega, acc ++ [u], upd_same, same_upd (Same.trans s4 s56) hN, ?_⟩
        rw [et, List.map_append]
        refine pr_append (Paired.mono (fun _ _ q => (Has.same q s56).kept hLa6 Kept.upd) hA) (.cons ?_ .nil)
        show Has K _ u ((y.p.toNat : Nat) : Int) (Rn.inSpans y.p y.ss) 36
        rw [Int.toNat_of_nonneg (by omega)]
        exact (h6.le (by omega)).kept hLa6 Kept.upd
      · rintro H4 ⟨acc, hLa, s4, hA⟩
        rw [hlen, List.take_length] at hA
        refine ⟨N, acc, rfl, SqL.of hLa, fun M H5 n5 s5 e5 => ?_⟩
        exact ⟨M, acc, rfl, W.same (Same.trans s4 s5), SqT.of e5, hA.same s5⟩
    clear W
    rintro σ' H4 ⟨M, us, rfl, W⟩
    have hsm := small_of W.w.ok W.w.few
    have hus : us.length = xs.length := by
      rw [W.s.length, List.length_map]
    have hfew := W.w.few
    refine ⟨fun σ' H' => ∃ (u2 u6 u7 u8 : Option V), σ' = [some (.ref d), some (.ref L), u2, u3, some (.ref M), none, u6, u7, u8] ∧ Md K H H' d L M (n + 701) xs us, ?_, ?_⟩
    · refine ⟨3, rfl, by decide, by decide, ?_⟩
      refine for_range (lo := 0) (n := 3) (fun j σ' H' => ∃ (u2 u6 u7 u8 : Option V), σ' = [some (.ref d), some (.ref L), u2, u3, some (.ref M), none, u6, u7, u8] ∧ Md K H H' d L M (n + 401 + 100 * (j : Int)) xs us) ⟨_, _, _, _, rfl, W.mono (by omega)⟩ ?_ ?_
      · clear W
        rintro j σ' H5 hj ⟨u2, u6, u7, u8, rfl, W⟩
        -- begun
        refine ⟨fun σ' H' => ∃ a : Int, σ' = [some (.ref d), some (.ref L), some (.int (0 + (j : Int))), u3, some (.ref M), none, some (.int a), u7, u8] ∧ Md K H H' d L M (n + 411 + 100 * (j : Int)) xs us, ?_, ?_⟩
        · obtain ⟨vs, eL, hU⟩ := W.w.at_
          have hlen := hU.length
          exact ⟨_, rfl, _, rfl, d, L, _, vs, xs, rfl, W.w.D, by omega, W.w.nd, eL, hU, W.w.ok, by omega, fun x H6 k6 D6 => ⟨x, rfl, (W.roll k6 D6).mono (by omega)⟩⟩
        clear W
        rintro σ' H6 ⟨a, rfl, W⟩
        -- told
        refine ⟨fun σ' H' => ∃ o : Option Int, σ' = [some (.ref d), some (.ref L), some (.int (0 + (j : Int))), u3, some (.ref M), none, some (.int a), some (ob o), u8] ∧ Md K H H' d L M (n + 411 + 100 * (j : Int)) xs us ∧ Rn.IsNext (ComP xs) a o, ?_, ?_⟩
        · exact ⟨_, rfl, _, rfl, a, M, us, xs.map stOf, rfl, W.m, W.s, hsm, by omega, fun o H7 s7 ho => ⟨o, rfl, W.same s7, ho.congr fun t => comm_of⟩⟩
        clear W
        rintro σ' H7 ⟨o, rfl, W, ho⟩
        refine ⟨fun σ' H' => σ' = [some (.ref d), some (.ref L), some (.int (0 + (j : Int))), u3, some (.ref M), none, some (.int a), some (ob o), u8] ∧ Md K H H' d L M (n + 411 + 100 * (j : Int)) xs us, ?_, ?_⟩
        · cases o with
          | none => exact ⟨_, rfl, _, rfl, iteF (iteF ⟨rfl, W⟩)⟩
          | some t =>
            obtain ⟨h1, h2, h3⟩ := ho
            obtain ⟨vs, eL, hU⟩ := W.w.at_
            have hlen := hU.length
            refine ⟨_, rfl, _, rfl, iteT ⟨_, rfl, _, rfl, _, _, rfl, rfl, _, rfl, iteC (decide_eq_false (by omega)) ⟨_, rfl, _, rfl, t, L, vs, xs, rfl, SqL.of eL, hU, W.w.ok, by omega, fun b H8 hb s8 => ?_⟩⟩⟩
            obtain rfl : b = true := hb.mpr h1
            exact ⟨_, rfl, iteF ⟨rfl, W.same s8⟩⟩
        clear W
        rintro σ' H8 ⟨rfl, W⟩
        refine ⟨fun σ' H' => σ' = [some (.ref d), some (.ref L), some (.int (0 + (j : Int))), u3, some (.ref M), none, some (.int a), some (ob o), u8] ∧ Md K H H' d L M (n + 411 + 100 * (j : Int)) xs us, ?_, ?_⟩
        · obtain ⟨vs, eL, hU⟩ := W.w.at_
          have hlen := hU.length
          refine ⟨_, rfl, _, rfl, _, rfl, a, o, L, vs, xs, rfl, SqL.of eL, hU, W.w.ok, by omega, ho, fun H9 s9 => ⟨_, rfl, iteF ?_⟩⟩
          have W9 := W.same s9
          refine ⟨_, rfl, _, rfl, a, 0, M, us, xs.map stOf, rfl, fit_of' (Nat.zero_le _), W9.m, W9.s, hsm, by omega, fun o' H10 s10 ho' => ?_⟩
          obtain rfl := (ho'.congr fun t => comm_of).uniq (next_kth ho)
          exact ⟨_, rfl, scal_ob _, _, rfl, iteC (ne_no rfl) ⟨rfl, W9.same s10⟩⟩
        clear W
        rintro σ' H9 ⟨rfl, W⟩
        -- index
        refine ⟨fun σ' H' => ∃ i : Nat, σ' = [some (.ref d), some (.ref L), some (.int (0 + (j : Int))), u3, some (.ref M), none, some (.int a), some (ob o), some (.int i)] ∧ Md K H H' d L M (n + 414 + 100 * (j : Int)) xs us ∧ Rn.Fit (i + 1), ?_, ?_⟩
        · refine ⟨_, rfl, _, rfl, d, 20, _, rfl, W.w.D, by omega, by decide, by decide, fun r H10 r0 r1 k10 D10 => ?_⟩
          have W10 := W.roll k10 D10
          refine ⟨_, _, rfl, rfl, ⟨by decide, by decide⟩, _, rfl, d, 99, _, rfl, W10.w.D, by omega, by decide, by decide, fun g H11 g0 g1 k11 D11 => ⟨_, _, rfl, rfl, _, _, rfl, rfl, ⟨by decide, by decide⟩, (by show 4 ≤ sizeLine; decide), fun q H12 n12 s12 e12 => ?_⟩⟩
          have W12 := (W10.roll k11 D11).same s12
          have e12' : (10 : Int) ^ (12 : Int).toNat = 1000000000000 := by decide +kernel
          have e27 : (10 : Int) ^ (27 : Int).toNat = 1000000000000000000000000000 := by decide +kernel
          refine ⟨d, q, _, _, rfl, W12.w.D, by omega, SqL.of e12, D11.nn n12, (by show 0 < 4; decide), (by show 4 < 1000; decide), fun x H13 hx k13 D13 => ?_⟩
          have W13 : Md K H H13 d L M (n + 414 + 100 * (j : Int)) xs us := (W12.roll k13 D13).mono (by omega)
          obtain ⟨i, rfl, hi⟩ : ∃ i : Nat, x = .int (i : Int) ∧ Rn.Fit (i + 1) := by
            have key : ∀ t : Int, 0 ≤ t → t ≤ 100000000000000000000000000000000 → x = .int t → ∃ i : Nat, x = .int (i : Int) ∧ Rn.Fit (i + 1) := fun t t0 t1 e => ⟨t.toNat, by rw [e, Int.toNat_of_nonneg t0], fit_of' (by omega)⟩
            simp only [List.mem_cons, List.not_mem_nil, or_false] at hx
            rcases hx with e | e | e | e
            · exact key _ (by decide) (by decide) e
            · exact key _ r0 (by omega) e
            · exact key _ (by rw [e12']; omega) (by rw [e12']; omega) e
            · exact key _ (by rw [e27]; decide) (by rw [e27]; decide) e
          exact ⟨i, rfl, W13, hi⟩
        clear W
        rintro σ' H10 ⟨i, rfl, W, hfit⟩
        refine ⟨fun σ' H' => σ' = [some (.ref d), some (.ref L), some (.int (0 + (j : Int))), u3, some (.ref M), none, some (.int a), some (ob o), some (.int i)] ∧ Md K H H' d L M (n + 414 + 100 * (j : Int)) xs us, ?_, ?_⟩
        · refine ⟨_, rfl, _, rfl, _, rfl, _, rfl, _, rfl, _, rfl, a, i, M, us, xs.map stOf, rfl, hfit, W.m, W.s, hsm, by omega, fun o' H11 s11 ho' => ?_⟩
          have W11 := W.same s11
          obtain ⟨vs, eL, hU⟩ := W11.w.at_
          have hlen := hU.length
          exact ⟨a, i, o', L, vs, xs, rfl, SqL.of eL, hU, W.w.ok, by omega, ho'.congr fun t => comm_of, fun H12 s12 => ⟨_, rfl, iteF ⟨rfl, W11.same s12⟩⟩⟩
        clear W
        rintro σ' H11 ⟨rfl, W⟩
        -- meet itself
        have one : ∀ (H' : Hp) (Q : VK) (vs' : List V) (ss' : List St), Same H11 H' → Sts K H' vs' ss' → Small ss' → vs'.length ≤ 1000 → (∀ t, Comm ss' t ↔ ComP xs t) → (∀ H'', Same H' H'' → Q (ob o) H'') → spMeet K (.int a :: vs') H' Q E0 := fun H' Q vs' ss' s hs hB hz hc kk => hMeet hs hB hz fun o' H'' s'' ho' => by
          obtain rfl := (ho'.congr hc).uniq ho
          exact kk H'' s''
        have D11 := W.w.D
        have fin : ∀ H', Same H11 H' → ∃ (u2 u6 u7 u8 : Option V), [some (V.ref d), some (.ref L), some (.int (0 + (j : Int))), u3, some (.ref M), none, some (.int a), some (ob o), some (.int i)] = [some (.ref d), some (.ref L), u2, u3, some (.ref M), none, u6, u7, u8] ∧ Md K H H' d L M (n + 401 + 100 * ((j + 1 : Nat) : Int)) xs us := fun H' s => ⟨_, _, _, _, rfl, (W.same s).mono (by omega)⟩
        have hm := W.m
        have hs := W.s
        have hok := W.w.ok
        refine ⟨_, rfl, _, us.length, rfl, Or.inr ⟨_, hm, rfl⟩, rfl, _, rfl, ?_⟩
        clear W
        have neI : ∀ k : Nat, us.length ≠ k → decide (V.int (us.length : Int) = V.int (k : Int)) = false := fun k hk => decide_eq_false fun z => hk (by have := V.int.inj z; omega)
        have eqI : ∀ k : Nat, us.length = k → decide (V.int (us.length : Int) = V.int (k : Int)) = true := fun k hk => decide_eq_true (by rw [hk])
        by_cases l2 : us.length = 2
        · refine iteB (eqI 2 l2) ?_
          obtain ⟨v0, v1, ev⟩ : ∃ a b, us = [a, b] := match us, l2 with | [a, b], _ => ⟨a, b, rfl⟩
          obtain ⟨x0, x1, ex⟩ : ∃ a b, xs = [a, b] := match xs, hus.symm.trans l2 with | [a, b], _ => ⟨a, b, rfl⟩
          have hok' : ∀ x ∈ [x1, x0], x.Ok := fun x hx => hok x (by
            rw [ex]
            simp only [List.mem_cons, List.not_mem_nil, or_false] at hx ⊢
            exact hx.symm)
          have hS : Sts K H11 [v1, v0] ([x1, x0].map stOf) := by
            rw [ev, ex] at hs
            cases hs with
            | cons h0 t =>
              cases t with
              | cons h1 t => exact .cons h1 (.cons h0 .nil)
          have g1 : us[1]? = some v1 := by rw [ev]; rfl
          have g0 : us[0]? = some v0 := by rw [ev]; rfl
          have hmm : ∀ H12, Same H11 H12 → SqT K H12 M us := fun H12 s => SqT.same hm s
          refine ⟨_, rfl, _, rfl, M, _, _, _, rfl, rfl, hm, atI_nat (j := 1) g1, _, rfl, M, _, _, _, rfl, rfl, hm, atI_nat (j := 0) g0, one _ _ _ _ (Same.refl _) hS (small_of hok' (by show 2 ≤ 3; decide)) (by show 2 ≤ 1000; decide) (fun t => ?_) fun H12 s12 => ?_⟩
          · rw [comm_of, ex]
            unfold ComP
            simp only [List.mem_cons, List.not_mem_nil, or_false]
            exact ⟨fun h x hx => h x hx.symm, fun h x hx => h x hx.symm⟩
          refine ⟨_, rfl, scal_ob _, _, rfl, iteC (ne_no rfl) ?_⟩
          refine ⟨_, rfl, _, _, rfl, Or.inr ⟨_, hmm H12 s12, rfl⟩, rfl, _, rfl, ?_⟩
          exact iteC (neI 1 (by omega)) (iteF (fin _ s12))
        · refine iteC (neI 2 l2) (iteF ⟨_, rfl, _, us.length, rfl, Or.inr ⟨_, hm, rfl⟩, rfl, _, rfl, ?_⟩)
          by_cases l1 : us.length = 1
          · refine iteB (eqI 1 l1) ?_
            obtain ⟨v0, ev⟩ : ∃ a, us = [a] := match us, l1 with | [a], _ => ⟨a, rfl⟩
            have g0 : us[0]? = some v0 := by rw [ev]; rfl
            have hS : Sts K H11 [v0] (xs.map stOf) := by
              rw [← ev]
              exact hs
            refine ⟨_, rfl, _, rfl, M, _, _, _, rfl, rfl, hm, atI_nat (j := 0) g0, one _ _ _ _ (Same.refl _) hS hsm (by show 1 ≤ 1000; decide) (fun t => comm_of) fun H12 s12 => ?_⟩
            exact ⟨_, rfl, scal_ob _, _, rfl, iteC (ne_no rfl) (fin _ s12)⟩
          · exact iteC (neI 1 l1) (iteF (fin _ (Same.refl _)))
      · rintro σ' H5 ⟨u2, u6, u7, u8, rfl, W⟩
        exact ⟨_, _, _, _, rfl, W.mono (by omega)⟩
    clear W
    rintro σ' H5 ⟨u2, u6, u7, u8, rfl, W⟩
    refine hMeet (us := []) (ss := []) .nil (fun i => ?_) (Nat.zero_le _) fun o H6 s6 ho => ?_
    · rw [List.take_nil]
      exact ⟨by decide, by decide⟩
    have e5 : o = some 5 := ho.uniq (o' := some 5) ⟨(fun s hs => nomatch hs), Int.le_refl _, fun s hs _ => hs⟩
    subst e5
    refine ⟨rfl, ?_⟩
    show Q (.bl (decide (V.int 5 = V.int 5))) H6
    rw [decide_eq_true rfl]
    exact k H6 (W.w.k.trans (kept_of s6)) ((W.w.D.same s6).mono (by omega))
end
end TM
end

section
set_option maxHeartbeats 4000000
namespace TM
open PySem PySem.Spec PyProof.Rows L2 EW
abbrev NEvery : List Str := ["cls", "period", "residue", "since", "until"]
theorem Every : FnScope NEvery ["cls", "period", "residue", "since", "until"] (defScope sEvery) := ⟨rfl, rfl, rfl, by decide +kernel, rfl, by decide +kernel, by decide +kernel⟩
section
variable {P : Program} {w : World} {K : W.Frag} {mg : Str → Option Value} {base : Heap}
theorem ok_every {f : Addr} {fd : FuncData} {kws : List (Str × V)} (F : FunD K "every" "Times.every" (defArgs sEvery) (defBody sEvery) (defScope sEvery) [] kws f fd) (KT : Kl K mg "Times") (FT : FnR P w K mg base CX0 7 (He.ma K (CT K) "__init__") (spTInit K)) (Dchecked : Df P w K mg base 6 "checked" ["period", "spans"] (spChecked K)) :
    FnOk P w K mg base CX0 9 f fd ["cls", "period", "residue", "since", "until"] (spEvery K) := by
  refine F.ok Every (fun vs H Q E h => ?_) (fun cdv A outer s H vs Q E hr h => ?_)
  · obtain ⟨p, r, lo, hi, rfl, _⟩ := h
    rfl
  · obtain ⟨p, r, lo, hi, rfl, p1, p2, ok, k⟩ := h
    refine ⟨_, PSs.nox (pss_one (ps_ret (pe_makeL (i := 0) KT.mkr FT (hr.mono (by decide)) rfl (Or.inl rfl) pass0 (pa_cons (pe_df Dchecked (hr.mono (by decide)) rfl (pa_cons (pv 1) (pa_cons (pe_tupS (pa_cons (pe_tupS (pa_cons (pv 2) (pa_cons (pv 3) (pa_cons (pv 4) pa_nil)))) pa_nil)) pa_nil))) pa_nil)))), ?_⟩
    refine ⟨rfl, _, rfl, _, rfl, _, rfl, _, rfl, (by show 3 ≤ sizeLine; decide), fun q1 H1 n1 s1 e1 => ⟨(by show 1 ≤ sizeLine; decide), fun q2 H2 n2 s2 e2 => ?_⟩⟩
    refine ⟨p, q2, _, [⟨r, lo, hi⟩], rfl, p1, p2, SqT.of e2, .cons (Tp.of (s2 _ _ e1)) .nil, few_one p1 p2 ok, (by show 1 ≤ 10000000; decide), fun rr dr l H3 zs n3 s3 e3 R3 hm hl => ?_⟩
    intro x dx nx ndx ne
    have s13 := Same.trans s1 (Same.trans s2 s3)
    refine tInit_runs e3 nx ndx ne fun H4 s4 e4 => ?_
    exact k x dx l H4 zs (s13.free nx) (Same.trans s13 s4) e4 (R3.same s4) hm hl
end
end TM
end

section
set_option maxHeartbeats 4000000
namespace EW
open PySem PySem.Spec PyProof.Rows L2
/-! ### C.m(e, .., k = v, ..), m a classmethod -/
section
variable {K : W.Frag} {x qual : Str} {params : Arguments} {body : List Stmt} {scope : Scope} {kws : List (Str × V)} {f : Addr} {fd : FuncData} {ps : List Str}
/-- all keywords are told -/
theorem kbindsA (F : FunD K x qual params body scope [] kws f fd) (n : Nat) (ks : List Str) (g : {α : Type} → List α → List α → List α)
    (hrel : ∀ {vs zs : List V} {us ws : List Value}, Vals vs us → Vals zs ws → Vals (g vs zs) (g us ws))
    (h : ∀ (kV doc pm : Value) (an : Option Addr) (cdv ct : Value) (us ws : List Value), us.length = n → ws.length = ks.length → bindArgs (W.fnOf x qual params body scope .none kV doc pm an cdv ct) ⟨us, ks.zip ws⟩ = pure (ps.zip (g us ws))) :
    KBn K fd ps n ks (fun us ws => g us ws) (fun vs zs => g vs zs) := by
  obtain ⟨oc, od, dV, kV, doc, pm, an, cdv, ct, osl, rfl, lk, hcd, hD, hK⟩ := F.ex
  rcases hD with ⟨_, rfl⟩ | ⟨e, _⟩
  · exact ⟨fun s us ws X l1 l2 => BindsTo.of_looks fun M => W.Looks.of_pure (h kV doc pm an cdv ct us ws l1 l2), fun r1 r2 => hrel r1 r2⟩
  · exact absurd rfl e
end
structure CMtN (P : Program) (w : World) (K : W.Frag) (mg : Str → Option Value) (base : Heap) (k : Nat) (C : Addr) (m : Str) (n : Nat) (ks : List Str) (gV : List V → List V → List V) (sp : Sp) : Prop where
  ex : ∃ mc p f fd ps g, ClX.CRead K C mc ∧ ClX.CMet K C mc m p f ∧ FnOk P w K mg base CX0 k f fd ps sp ∧ KBn K fd ps (n + 1) ks g gV
def tCMethN (C : Addr) (n m : Nat) (sp : Sp) (gV : List V → List V → List V) (ta : TE) (t tk : TA) : TE := fun σ H Q => ta σ H fun x H1 => x = .ref C ∧ t σ H1 fun vs H2 => tk σ H2 fun zs H3 => vs.length = n ∧ zs.length = m ∧ sp (gV (.ref C :: vs) zs) H3 Q E0
section
variable {X : Cx} {k n : Nat} {C : Addr} {m : Str} {ks : List Str} {gV : List V → List V → List V} {sp : Sp} {o e : Expr} {es : List Expr} {kws : List Keyword} {ta : TE} {t tk : TA} {pos apos : Pos} {pl : Sem Bool}
theorem pe_cmtN (he : PE X o ta) (M : CMtN X.prog X.w X.K X.mg X.base k C m n ks gV sp) (hr : Room k X.A) (ha : PA X (e :: es) t) (hkw : PK X kws tk)
    (hall : (backToKw pos (keywordEach kws X.env)).all (·.1.isSome) = true := by rfl) (hks : (backToKw pos (keywordEach kws X.env)).filterMap (·.1) = ks := by rfl)
    (hst : starEach (e :: es) X.env = (false, eval e X.env) :: starEach es X.env := by rfl) (hpl : ((backTo pos (starEach (e :: es) X.env)).any (·.1) || (backToKw pos (keywordEach kws X.env)).any (·.1.isNone)) = false := by rfl)
    (ht : eval (.Call (.Attribute o m apos) (e :: es) kws pos) X.env = (do
      let ov ← eval o X.env
      standAt apos.atName
      let (f, first) ← holding [ov] (getMethod ov m pl)
      callWith pos f first (backTo pos (starEach (e :: es) X.env)) (backToKw pos (keywordEach kws X.env))) := by rfl) :
    PE X (.Call (.Attribute o m apos) (e :: es) kws pos) (tCMethN C n ks.length sp gV ta t tk) := by
  obtain ⟨mc, p, f, fd, ps, g, r, c, F, hb⟩ := M.ex
  refine ⟨fun pins s σ H Q I h => ?_⟩
  refine W.methodCall_KW (pl := pl) (thn (he.run pins s σ H _ I h) fun u s1 ⟨x, H1, I1, rx, ex, q⟩ => ?_) ht
  subst ex
  obtain rfl : u = Value.ref C := rx
  refine ClX.getmethcm_ok I1 r c fun s2 I2 => ?_
  refine W.callWith_of (first := []) hpl (W.keeps_M (q := s1.heap.objs.size) (self := .ref C) c.fi) (evalArgs_kw2 hall ?_ hst)
  refine thn (ha.run pos _ s2 σ H1 _ I2 q) fun us s3 ⟨vs, H2, I3, rv, q2⟩ => ?_
  refine thn (hkw.run pos _ s3 σ H2 _ I3 q2) fun ws s4 ⟨zs, H3, I4, rz, l1, l2, q3⟩ => ⟨⟨ClX.pin_at I4, I4.kIn⟩, ?_⟩
  rw [hks]
  have r2 := hb.rel (vs := .ref C :: vs) (us := .ref C :: us) (.cons rfl rv) rz
  have z : wpAny (model X.prog X.w) X.A (call (.ref s1.heap.objs.size) us (ks.zip ws)) (EP X ((s1.heap.objs.size, W.methodObj (.ref f) (.ref C)) :: pins) σ Q) X.xe s4 := by
    refine wpAny_call (W.method_call (ClX.pin_at I4) (codeAny_mono (F.run X.A X.stack s4 H3 ⟨.ref C :: us, ks.zip ws⟩ (g (.ref C :: us) ws) (gV (.ref C :: vs) zs) Q E0 hr I4.env0 (hb.to s4 _ ws I4.kIn (by rw [List.length_cons, ← rv.length, l1]) (rz.length.symm.trans l2)) r2 q3) fun r s' hq => ?_))
    cases r with
    | error e => exact (hq : False).elim
    | ok fl =>
      cases fl with
      | ret u => exact I4.after hq
      | next => exact False.elim hq
      | brk => exact False.elim hq
      | cont => exact False.elim hq
  exact thn z fun _ _ y => ClX.unpinE y
end
end EW
end

section
set_option maxHeartbeats 4000000
/-! EwKb0: keywords told, some keyword-only defaults lacking, no other defaults. -/
namespace EW
open PySem PySem.Spec PyProof.Rows L2
theorem kbinds0 {K : W.Frag} {x qual : Str} {params : Arguments} {body : List Stmt} {scope : Scope} {kws : List (Str × V)} {f : Addr} {fd : FuncData} {ps : List Str} (F : FunD K x qual params body scope [] kws f fd) (n : Nat) (ks : List Str) (ms : List (Str × V)) (g : {α : Type} → List α → List α → List α → List α) (hk : kws ≠ []) (hms : ∀ q ∈ ms, q ∈ kws)
    (hrel : ∀ {vs mz zs : List V} {us mv ws : List Value}, Vals vs us → Vals mz mv → Vals zs ws → Vals (g vs mz zs) (g us mv ws))
    (h : ∀ (D : Addr) (doc pm : Value) (an : Option Addr) (cdv ct : Value) (us mv ws : List Value), us.length = n → mv.length = ms.length → ws.length = ks.length →
      KwChain D ((ms.map (·.1)).zip mv) (bindArgs (W.fnOf x qual params body scope .none (.ref D) doc pm an cdv ct) ⟨us, ks.zip ws⟩) (ps.zip (g us mv ws))) :
    ∃ mv : List Value, KBn K fd ps n ks (fun us ws => g us mv ws) (fun vs zs => g vs (ms.map (·.2)) zs) := by
  obtain ⟨oc, od, dV, kV, doc, pm, an, cdv, ct, osl, rfl, lk, hcd, hD, hK⟩ := F.ex
  rcases hD with ⟨_, rfl⟩ | ⟨e, _⟩
  · rcases hK with e | ⟨D, rfl, hq⟩
    · exact absurd e hk
    · obtain ⟨mv, hl, rk, hks⟩ := kwd_vals (ms := ms) fun q hm => hq q (hms q hm)
      exact ⟨mv, ⟨fun s us ws X l1 l2 => BindsTo.of_looks fun M => KwChain.looks X hks (h D doc pm an cdv ct us mv ws l1 hl l2), fun r1 r2 => hrel r1 rk r2⟩⟩
  · exact absurd rfl e
end EW
end

section
set_option maxHeartbeats 4000000
namespace TM
open PySem PySem.Spec PyProof.Rows L2 EW
abbrev NLaw : List Str := ["_law_script", "_law_spot", "_law_evens", "_law_thirds", "_law_told", "_law_some", "_law_index", "_law_far"]
theorem Law : FnScope NLaw ["_law_script"] (defScope sLaw) := ⟨rfl, rfl, rfl, by decide +kernel, rfl, by decide +kernel, by decide +kernel⟩
def spLaw (K : W.Frag) : Sp := fun vs H Q _ => ∃ (a : Addr) (ns : List Int), vs = [.ref a] ∧ SqL K H a (ns.map V.int) ∧ ns.length ≤ 63 ∧ ∀ H', Q (.bl true) H'
theorem comm1 {a : St} {t : Int} : Comm [a] t ↔ a.M t := ⟨fun h => h a List.mem_cons_self, fun h s hs => by rw [List.mem_singleton.mp hs]; exact h⟩
theorem comm2 {a b : St} {t : Int} : Comm [a, b] t ↔ a.M t ∧ b.M t := by
  unfold Comm
  simp only [List.mem_cons, List.not_mem_nil, or_false, forall_eq_or_imp, forall_eq]
theorem small1 {a : St} (h1 : Nat.lcm 1 a.q ≤ 1000000) (h2 : 1 * a.n ≤ 1000000) : Small [a] := fun i => match i with
  | 0 => ⟨by show 1 ≤ 1000000; decide, by show 1 ≤ 1000000; decide⟩
  | i + 1 => by
    rw [List.take_of_length_le (by show 1 ≤ i + 1; omega)]
    exact ⟨h1, h2⟩
theorem small2 {a b : St} (h1 : Nat.lcm 1 a.q ≤ 1000000) (h2 : 1 * a.n ≤ 1000000) (h3 : Nat.lcm (Nat.lcm 1 a.q) b.q ≤ 1000000) (h4 : 1 * a.n * b.n ≤ 1000000) : Small [a, b] := fun i => match i with
  | 0 => ⟨by show 1 ≤ 1000000; decide, by show 1 ≤ 1000000; decide⟩
  | 1 => ⟨h1, h2⟩
  | i + 2 => by
    rw [List.take_of_length_le (by show 2 ≤ i + 2; omega)]
    exact ⟨h3, h4⟩
theorem ods_lay : ∀ l : List (Option Int), PyData.canLayAll0 (l.map od) = true
  | [] => by simp [PyData.canLayAll0]
  | s :: ss => by simp [PyData.canLayAll0, od_lay, ods_lay ss]
theorem ods_depth : ∀ l : List (Option Int), PyData.depthAll (l.map od) = 0
  | [] => by simp [PyData.depthAll]
  | s :: ss => by
    have h := ods_depth ss
    simp [PyData.depthAll, od_depth, h]
theorem shaped_ods (l : List (Option Int)) : SeqAt.shaped (.list (l.map od)) = true := by
  simp [SeqAt.shaped, PyData.canLay0, PyData.depth, ods_lay, ods_depth]
theorem ods_dp {K : W.Frag} {H : Hp} : ∀ l : List (Option Int), DpAll K H (l.map ob) (l.map od)
  | [] => .nil
  | o :: l => .cons (od_dp o) (ods_dp l)
abbrev sEv : List Rn.Sp3 := [⟨some 0, none, none⟩]
abbrev sTh : List Rn.Sp3 := [⟨some 2, some 10, none⟩]
theorem v1 : Rn.IsNext (fun t => Rn.inSpans 2 sEv t ∧ Rn.inSpans 3 sTh t) 0 (some 14) := by
  refine ⟨?_, by decide, fun s hs h => ?_⟩
  · simp only [Rn.spans_cons, Rn.spans_nil, Rn.span_S, Rn.geN, Rn.geS, Rn.leN, true_and, and_true, or_false]
    omega
  · simp only [Rn.spans_cons, Rn.spans_nil, Rn.span_S, Rn.geN, Rn.geS, Rn.leN, true_and, and_true, or_false] at h
    omega
theorem kth_steps {A : Int → Prop} {p r a lo : Int} {k : Nat} (hp : 0 < p) (ea : a % p = r) (h1 : lo ≤ a) (e : ∀ t, lo ≤ t → t ≤ a + p * (k : Int) → (A t ↔ t % p = r ∧ a ≤ t)) (hA : A (a + p * (k : Int))) : Rn.IsKth A lo k (some (a + p * (k : Int))) := by
  have pk : 0 ≤ p * (k : Int) := Int.mul_nonneg (by omega) (by omega)
  refine ⟨hA, by omega, ?_⟩
  rw [← Rn.cnt_steps (lo := lo) (hi := a + p * (k : Int)) hp ea h1 (Int.le_refl _)]
  exact Rn.cnt_congr fun t t0 t1 => by
    rw [e t t0 t1]
    exact ⟨fun h => ⟨h.1, h.2, t1⟩, fun h => ⟨h.1, h.2.1⟩⟩
theorem v2 : Rn.IsKth (fun t => Rn.inSpans 2 sEv t ∧ Rn.inSpans 3 sTh t) (-100) 1000000000000 (some 6000000000014) := by
  refine kth_steps (p := 6) (r := 2) (a := 14) (by decide) (by decide) (by decide) (fun t t0 t1 => ?_) ?_
  · simp only [Rn.spans_cons, Rn.spans_nil, Rn.span_S, Rn.geN, Rn.geS, Rn.leN, true_and, and_true, or_false]
    omega
  · simp only [Rn.spans_cons, Rn.spans_nil, Rn.span_S, Rn.geN, Rn.geS, Rn.leN, true_and, and_true, or_false]
    omega
theorem v3 : Rn.IsNext (Rn.inSpans 7 [⟨some 1, none, some (-1)⟩]) 0 none := fun s hs h => by
  simp only [Rn.spans_cons, Rn.spans_nil, Rn.span_S, Rn.geN, Rn.leS, true_and, and_true, or_false] at h
  omega
theorem v4 : Rn.IsNext (fun t => Rn.inSpans 2 sEv t ∧ Rn.inSpans 4 [⟨some 1, none, none⟩] t) (-9) none := fun s hs h => by
  simp only [Rn.spans_cons, Rn.spans_nil, Rn.span_S, Rn.geN, Rn.leN, true_and, and_true, or_false] at h
  omega
theorem v5 {A : Int → Prop} (h : ∀ t, A t) (k : Nat) : Rn.IsKth A 7 k (some (7 + (k : Int))) := by
  refine ⟨h _, by omega, ?_⟩
  rw [Rn.cnt_congr (B := fun _ => True) fun t _ _ => ⟨fun _ => trivial, fun _ => h t⟩]
  show Rn.cntN (fun _ => True) 7 _ = _
  rw [Rn.cntN_all]
  omega
theorem v6 (i : Nat) : Rn.IsKth (fun t => Rn.inSpans 400 [⟨some 1, none, none⟩, ⟨some 201, none, none⟩] t ∧ Rn.inSpans 300 [⟨some 1, none, none⟩] t) 0 i (some (1 + 600 * (i : Int))) := by
  refine kth_steps (p := 600) (r := 1) (a := 1) (by decide) (by decide) (by decide) (fun t t0 t1 => ?_) ?_
  · simp only [Rn.spans_cons, Rn.spans_nil, Rn.span_S, Rn.geN, Rn.leN, true_and, and_true, or_false]
    omega
  · simp only [Rn.spans_cons, Rn.spans_nil, Rn.span_S, Rn.geN, Rn.leN, true_and, and_true, or_false]
    omega
theorem v7 : Rn.IsNext (fun t => Rn.inSpans 400 [⟨some 7, none, none⟩] t ∧ Rn.inSpans 399 [⟨some 8, none, none⟩] t) 3 (some 407) := by
  refine ⟨?_, by decide, fun s hs h => ?_⟩
  · simp only [Rn.spans_cons, Rn.spans_nil, Rn.span_S, Rn.geN, Rn.leN, true_and, and_true, or_false]
    omega
  · simp only [Rn.spans_cons, Rn.spans_nil, Rn.span_S, Rn.geN, Rn.leN, true_and, and_true, or_false] at h
    omega
theorem v8 : Rn.IsNext (fun t => Rn.inSpans 7 [⟨some 0, none, none⟩] t ∧ Rn.inSpans 7 [⟨some 1, none, none⟩] t) 408 none := fun s hs h => by
  simp only [Rn.spans_cons, Rn.spans_nil, Rn.span_S, Rn.geN, Rn.leN, true_and, and_true, or_false] at h
  omega
section
variable {P : Program} {w : World} {K : W.Frag} {mg : Str → Option Value} {base : Heap}
theorem ok_law {fd : FuncData} (F : FnP K "law" sLaw fd) (T : Fre mg) (KT : Kl K mg "Times") (FT : FnR P w K mg base CX0 7 (He.ma K (CT K) "__init__") (spTInit K)) (Cevery : CMt P w K mg base 9 (CT K) "every" (fun vs H Q E => spEvery K (vs ++ [.non, .non]) H Q E)) (CeverySN : CMtN P w K mg base 9 (CT K) "every" 2 ["since"] (fun vs zs => vs ++ zs ++ [.non]) (spEvery K))
    (FMeet : FnR P w K mg base CX0 6 (He.ga K "meet") (spMeet K)) (kMeet : W.keepIn K (.ref (He.ga K "meet")) = true) (gMeet : mg "meet" = some (.ref (He.ga K "meet"))) (Dkth_meeting : Df P w K mg base 5 "kth_meeting" ["start", "index", "sets"] (spKthM K))
    (D_law_dice : Df P w K mg base 1 "_law_dice" ["_law_script", "_law_spot"] (spDice K)) (D_law_right : Df P w K mg base 10 "_law_right" ["_law_dice_here"] (spRightL K)) :
    FnOk P w K mg base CX0 11 (He.ga K "law") fd ["_law_script"] (spLaw K) := by
  refine F.ok Law (fun vs H Q E h => ?_) (fun cdv A outer s H vs Q E hr h => ?_)
  · obtain ⟨a, ns, rfl, _⟩ := h
    rfl
  · obtain ⟨a, ns, rfl, hS, hlen, k⟩ := h
    refine ⟨_, PSs.nox (pss_cons (ps_cut (ps_for PassesOwn.never rfl (pi_range1 rfl T.range (pa_cons (pe_callB (call_max2 rfl) (by rfl) T.max EW.boot_max (pa_cons pe_int (pa_cons (pe_callB (call_min2 rfl) (by rfl) T.min EW.boot_min (pa_cons pe_int (pa_cons (pe_callB (call_lenK K rfl) (by rfl) T.len PySem.boot_len (pa_cons (pv 0) pa_nil)) pa_nil))) pa_nil))) pa_nil)) (pg_name (i := 1) Law.nd rfl (Or.inl rfl)) (pss_one (ps_if (pt_not (pt_val (pe_df D_law_right (hr.mono (by decide)) rfl (pa_cons (pe_df D_law_dice (hr.mono (by decide)) rfl (pa_cons (pv 0) (pa_cons (pv 1) pa_nil))) pa_nil)))) (pss_one (ps_ret pe_bl)) pss_nil))))
      (pss_cons (ps_cut (ps_par (i := 2) (j := 3) (by rfl) Law.nd rfl rfl (by decide) rfl rfl (pa_cons (pe_cmt (pe_glob (v := .ref (He.ga K "Times")) rfl KT.g rfl) Cevery (hr.mono (by decide)) (pa_cons pe_int (pa_cons pe_int pa_nil))) (pa_cons (pe_cmtN (pe_glob (v := .ref (He.ga K "Times")) rfl KT.g rfl) CeverySN (hr.mono (by decide)) (pa_cons pe_int (pa_cons pe_int pa_nil)) (pk_cons pe_int pk_nil)) pa_nil)) (by rfl)))
      (pss_cons (ps_cut (ps_set (i := 4) Law.nd rfl (Or.inl rfl) (pe_lstS (pa_cons (EW.pe_callR FMeet (hr.mono (by decide)) kMeet rfl gMeet pass0 (pa_cons pe_int (pa_cons (pv 2) (pa_cons (pv 3) pa_nil)))) (pa_cons (pe_df Dkth_meeting (hr.mono (by decide)) rfl (pa_cons (pe_un un_neg pe_int) (pa_cons (pe_op op_powW pe_int pe_int) (pa_cons (pe_tupS (pa_cons (pv 2) (pa_cons (pv 3) pa_nil))) pa_nil)))) (pa_cons (EW.pe_callR FMeet (hr.mono (by decide)) kMeet rfl gMeet pass0 (pa_cons pe_int (pa_cons (StX.pe_makeR KT.mkr FT (hr.mono (by decide)) rfl KT.g pass0 (pa_cons pe_int (pa_cons (pl_tup (K := K) (by show 3 ≤ sizeLine; decide) (pls_cons pl_int (pls_cons pl_non (pls_cons (pl_neg pl_int) pls_nil)))) pa_nil))) pa_nil))) pa_nil))))))
      (pss_cons (ps_cut (ps_set (i := 4) Law.nd rfl (Or.inl rfl) (pe_op op_catS (pv 4) (pe_lstS (pa_cons (EW.pe_callR FMeet (hr.mono (by decide)) kMeet rfl gMeet pass0 (pa_cons (pe_un un_neg pe_int) (pa_cons (pv 2) (pa_cons (pe_cmt (pe_glob (v := .ref (He.ga K "Times")) rfl KT.g rfl) Cevery (hr.mono (by decide)) (pa_cons pe_int (pa_cons pe_int pa_nil))) pa_nil)))) (pa_cons (pe_df Dkth_meeting (hr.mono (by decide)) rfl (pa_cons pe_int (pa_cons (pe_op op_powW pe_int pe_int) (pa_cons (pl_tup (K := K) (by show 0 ≤ sizeLine; decide) pls_nil) pa_nil)))) pa_nil))))))
      (pss_cons (ps_cut (ps_if (pt_cmpR (op_neDK K rfl hr.units) (pv 4) (pe_lstS (pa_cons pe_int (pa_cons pe_int (pa_cons pe_non (pa_cons pe_non (pa_cons (pe_op op_add pe_int (pe_op op_powW pe_int pe_int)) pa_nil)))))) (nomark _)) (pss_one (ps_ret pe_bl)) pss_nil))
      (pss_cons (ps_cut (ps_set (i := 5) Law.nd rfl (Or.inr rfl) (pe_tupS (pa_cons (StX.pe_makeR KT.mkr FT (hr.mono (by decide)) rfl KT.g pass0 (pa_cons pe_int (pa_cons (pl_tup (K := K) (by show 3 ≤ sizeLine; decide) (pls_cons pl_int (pls_cons pl_non (pls_cons pl_non pls_nil)))) (pa_cons (pl_tup (K := K) (by show 3 ≤ sizeLine; decide) (pls_cons pl_int (pls_cons pl_non (pls_cons pl_non pls_nil)))) pa_nil)))) (pa_cons (pe_cmt (pe_glob (v := .ref (He.ga K "Times")) rfl KT.g rfl) Cevery (hr.mono (by decide)) (pa_cons pe_int (pa_cons pe_int pa_nil))) pa_nil)))))
      (pss_cons (ps_cut (ps_if (pt_cmpR (op_neDK K rfl hr.units) (pe_lc (own := [("_law_index", 6)]) (g := gName 6) (tt := tYes) (by rfl) Law.nd (pi_range1 rfl T.range (pa_cons pe_int pa_nil)) (blkOk_by (own := [("_law_index", 6)]) (N := NLaw) (sc := defScope sLaw) (by decide +kernel)) (fun _ _ _ _ _ => (pg_name (i := 6) Law.nd rfl (Or.inl rfl))) (fun _ _ _ _ _ => pts_nil) (fun _ _ _ _ _ => (pe_df Dkth_meeting (hr.mono (by decide)) rfl (pa_cons pe_int (pa_cons (pv 6) (pa_cons (pv 5) pa_nil)))))) (pl_lst (K := K) (by show 4 ≤ sizeLine; decide) (pls_cons pl_int (pls_cons pl_int (pls_cons pl_int (pls_cons pl_int pls_nil))))) (nomark _)) (pss_one (ps_ret pe_bl)) pss_nil))
      (pss_cons (ps_cut (ps_set (i := 7) Law.nd rfl (Or.inl rfl) (EW.pe_callR FMeet (hr.mono (by decide)) kMeet rfl gMeet pass0 (pa_cons pe_int (pa_cons (pe_cmt (pe_glob (v := .ref (He.ga K "Times")) rfl KT.g rfl) Cevery (hr.mono (by decide)) (pa_cons pe_int (pa_cons pe_int pa_nil))) (pa_cons (pe_cmt (pe_glob (v := .ref (He.ga K "Times")) rfl KT.g rfl) Cevery (hr.mono (by decide)) (pa_cons pe_int (pa_cons pe_int pa_nil))) pa_nil))))))
      (pss_cons (ps_cut (ps_if (PW.pt (pw_or (pt_not (pt_chain op_le op_lt pe_int (pv 7) (pe_op op_add pe_int (pe_op op_mul pe_int pe_int)))) (pw_or (pt_cmpR op_ne (pe_op op_mod (pe_callTy call_int1 (by rfl) T.int EW.boot_int (pa_cons (pv 7) pa_nil)) pe_int) pe_int (nomark _)) (pw_or1 (pt_cmpR op_ne (pe_op op_mod (pe_callTy call_int1 (by rfl) T.int EW.boot_int (pa_cons (pv 7) pa_nil)) pe_int) pe_int (nomark _)))))) (pss_one (ps_ret pe_bl)) pss_nil))
      (pss_one (ps_ret (pe_cmp (pc_isN (EW.pe_callR FMeet (hr.mono (by decide)) kMeet rfl gMeet pass0 (pa_cons (pe_op op_add (pv 7) pe_int) (pa_cons (pe_cmt (pe_glob (v := .ref (He.ga K "Times")) rfl KT.g rfl) Cevery (hr.mono (by decide)) (pa_cons pe_int (pa_cons pe_int pa_nil))) (pa_cons (pe_cmt (pe_glob (v := .ref (He.ga K "Times")) rfl KT.g rfl) Cevery (hr.mono (by decide)) (pa_cons pe_int (pa_cons pe_int pa_nil))) pa_nil))))))))))))))))), ?_⟩
    refine ⟨fun σ' H' => ∃ u : Option V, σ' = [some (.ref a), u, none, none, none, none, none, none], ?_, ?_⟩
    · refine ⟨_, rfl, _, (ns.map V.int).length, rfl, Or.inl ⟨_, hS, rfl⟩, _, _, rfl, _, _, rfl, _, rfl, ?_, ?_, ?_⟩
      · split <;> split <;> omega
      · rw [List.length_map]
        split <;> split <;> omega
      refine for_range (lo := 0) (fun i σ' H' => ∃ u : Option V, σ' = [some (.ref a), u, none, none, none, none, none, none] ∧ Same H H') ⟨_, rfl, Same.refl H⟩ ?_ ?_
      · rintro i σ' H1 hi ⟨u, rfl, s1⟩
        refine ⟨_, rfl, _, rfl, a, ns, _, rfl, s1.seq hS, by omega, fun d H2 nd s2 D2 => ?_⟩
        refine ⟨d, 0, rfl, D2, by omega, fun H4 k4 D4 => ?_⟩
        refine ⟨_, rfl, iteF ?_⟩
        exact ⟨_, rfl, Same.trans s1 (k4.same s2 nd)⟩
      · rintro σ' H1 ⟨u, rfl, s1⟩
        exact ⟨_, rfl⟩
    rintro σ' H1 ⟨u, rfl⟩
    have spok : ∀ {p : Int} {ss : List Rn.Sp3}, ss.all (fun s => match s.res with | none => true | some r => decide (0 ≤ r ∧ r < p)) = true → ∀ s ∈ ss, Rn.SpOk p s := fun {p ss} h s hs r e => by
      have q := List.all_eq_true.mp h s hs
      rw [e] at q
      exact of_decide_eq_true q
    -- evens, thirds
    refine ⟨fun σ' H' => ∃ ev th : V, σ' = [some (.ref a), u, some ev, some th, none, none, none, none] ∧ Has K H' ev 2 (Rn.inSpans 2 sEv) 2 ∧ Has K H' th 3 (Rn.inSpans 3 sTh) 3, ?_, ?_⟩
    · refine ⟨rfl, hEvery (by decide) (by decide) (by decide) (by decide) fun ev H2 s2 h2 => ⟨rfl, rfl, rfl, ?_⟩⟩
      refine hEveryO (r := some 2) (lo := some 10) (hi := none) (by decide) (by decide) (fun r e => by cases e; decide) fun th H3 s3 h3 => ?_
      exact ⟨_, _, rfl, ev, th, rfl, h2.same s3, h3⟩
    rintro σ' H2 ⟨ev, th, rfl, he, ht⟩
    have sm1 : Small [⟨2, 2, Rn.inSpans 2 sEv⟩, ⟨3, 3, Rn.inSpans 3 sTh⟩] := small2 (by decide +kernel) (by decide +kernel) (by decide +kernel) (by decide +kernel)
    -- told
    refine ⟨fun σ' H' => ∃ lt : Addr, σ' = [some (.ref a), u, some ev, some th, some (.ref lt), none, none, none] ∧ H' lt = some (.lst [.int 14, .int 6000000000014, .non]) ∧ Has K H' ev 2 (Rn.inSpans 2 sEv) 2, ?_, ?_⟩
    · refine ⟨_, rfl, _, rfl, hMeet (us := [ev, th]) (ss := [⟨2, 2, Rn.inSpans 2 sEv⟩, ⟨3, 3, Rn.inSpans 3 sTh⟩]) (.cons he (.cons ht .nil)) sm1 (by show 2 ≤ 1000; decide) fun o H3 s3 ho => ?_⟩
      obtain rfl := (ho.congr fun t => comm2).uniq v1
      have e12 : (10 : Int) ^ (12 : Int).toNat = ((1000000000000 : Nat) : Int) := by decide +kernel
      refine ⟨_, rfl, _, _, rfl, rfl, ⟨by decide, by decide⟩, _, rfl, _, rfl, (by show 2 ≤ sizeLine; decide), fun q4 H4 n4 s4 e4 => ?_⟩
      have s34 := Same.trans s3 s4
      refine nil_ ⟨_, 1000000000000, q4, [ev, th], [⟨2, 2, Rn.inSpans 2 sEv⟩, ⟨3, 3, Rn.inSpans 3 sTh⟩], (by show [V.int _, V.int ((10 : Int) ^ (12 : Int).toNat), V.ref q4] = _; rw [e12]), fit_of' (by decide), SqT.of e4, .cons (he.same s34) (.cons (ht.same s34) .nil), sm1, (by show 2 ≤ 1000; decide), fun o H5 s5 ho => ?_⟩
      obtain rfl := (ho.congr fun t => comm2).uniq v2
      refine fun q6 H6 s6 d6 => (fun xx dx nx ndx ne => hMake xx dx nx ndx ne (p := 7) (ss := [⟨some 1, none, some (-1)⟩]) (by decide) (by decide) (.cons (sn_of_dp ⟨some 1, none, some (-1)⟩ d6) .nil) (spok (by decide)) (by decide) fun H7 s7 h7 => ⟨rfl, ?_⟩)
      refine hMeet (us := [.ref xx]) (ss := [⟨7, 7, Rn.inSpans 7 [⟨some 1, none, some (-1)⟩]⟩]) (.cons h7 .nil) (small1 (by decide +kernel) (by decide +kernel)) (by show 1 ≤ 1000; decide) fun o H8 s8 ho => ?_
      obtain rfl := (ho.congr fun t => comm1).uniq v3
      refine ⟨(by show 3 ≤ sizeLine; decide), fun lt H9 n9 s9 e9 => ⟨lt, rfl, e9, ?_⟩⟩
      exact he.same (Same.trans s34 (Same.trans s5 (Same.trans s6 (Same.trans s7 (Same.trans s8 s9)))))
    clear he ht
    rintro σ' H3 ⟨lt, rfl, et, he⟩
    refine ⟨fun σ' H' => ∃ lt : Addr, σ' = [some (.ref a), u, some ev, some th, some (.ref lt), none, none, none] ∧ H' lt = some (.lst [.int 14, .int 6000000000014, .non, .non, .int (7 + (100000000000000000000 : Nat))]), ?_, ?_⟩
    · refine ⟨_, rfl, _, rfl, _, rfl, rfl, hEvery (by decide) (by decide) (by decide) (by decide) fun g1 H4 s4 h4 => ?_⟩
      refine hMeet (us := [ev, g1]) (ss := [⟨2, 2, Rn.inSpans 2 sEv⟩, ⟨4, 4, Rn.inSpans 4 [⟨some 1, none, none⟩]⟩]) (.cons (he.same s4) (.cons h4 .nil)) (small2 (by decide +kernel) (by decide +kernel) (by decide +kernel) (by decide +kernel)) (by show 2 ≤ 1000; decide) fun o H5 s5 ho => ?_
      obtain rfl := (ho.congr fun t => comm2).uniq v4
      have e20 : (10 : Int) ^ (20 : Int).toNat = ((100000000000000000000 : Nat) : Int) := by decide +kernel
      refine ⟨_, _, rfl, rfl, ⟨by decide, by decide⟩, fun q6 H6 s6 d6 => ?_⟩
      obtain ⟨qa, rfl, hq⟩ : ∃ qa, q6 = V.ref qa ∧ SqT K H6 qa [] := by
        cases d6 with
        | tup h l => cases l; exact ⟨_, rfl, h⟩
      refine nil_ ⟨7, 100000000000000000000, qa, [], [], (by show [V.int _, V.int ((10 : Int) ^ (20 : Int).toNat), _] = _; rw [e20]), fit_of' (by decide), hq, .nil, (fun i => ?_), Nat.zero_le _, fun o H7 s7 ho => ?_⟩
      · rw [List.take_nil]
        exact ⟨by decide, by decide⟩
      obtain rfl := ho.uniq (v5 (A := Comm []) (fun t s hs => nomatch hs) _)
      refine ⟨(by show 2 ≤ sizeLine; decide), fun q8 H8 n8 s8 e8 => ?_⟩
      have s48 := Same.trans s4 (Same.trans s5 (Same.trans s6 (Same.trans s7 s8)))
      exact ⟨lt, q8, _, _, rfl, rfl, s48 _ _ et, e8, (by show 5 ≤ sizeLine; decide), fun q9 H9 n9 s9 e9 => ⟨q9, rfl, e9⟩⟩
    clear et he
    rintro σ' H4 ⟨lt, rfl, et⟩
    refine ⟨fun σ' H' => σ' = [some (.ref a), u, some ev, some th, some (.ref lt), none, none, none], ?_, ?_⟩
    · have e20 : (10 : Int) ^ (20 : Int).toNat = ((100000000000000000000 : Nat) : Int) := by decide +kernel
      refine ⟨_, rfl, _, _, rfl, rfl, ⟨by decide, by decide⟩, _, _, rfl, rfl, (by show 5 ≤ sizeLine; decide), fun q5 H5 n5 s5 e5 => ?_⟩
      rw [e20] at e5
      refine neD_self (.list (([some 14, some 6000000000014, none, none, some (7 + ((100000000000000000000 : Nat) : Int))] : List (Option Int)).map od)) (shaped_ods _) (.lst (SqL.of (s5 _ _ et)) (ods_dp ([some 14, some 6000000000014, none, none, some (7 + ((100000000000000000000 : Nat) : Int))] : List (Option Int)))) (.lst (SqL.of e5) (ods_dp ([some 14, some 6000000000014, none, none, some (7 + ((100000000000000000000 : Nat) : Int))] : List (Option Int)))) ⟨_, rfl, iteF rfl⟩
    clear et
    rintro σ' H5 rfl
    -- some
    refine ⟨fun σ' H' => ∃ so x y, σ' = [some (.ref a), u, some ev, some th, some (.ref lt), some (.ref so), none, none] ∧ H' so = some (.tup [x, y]) ∧ Has K H' x 400 (Rn.inSpans 400 [⟨some 1, none, none⟩, ⟨some 201, none, none⟩]) 800 ∧ Has K H' y 300 (Rn.inSpans 300 [⟨some 1, none, none⟩]) 300, ?_, ?_⟩
    · refine fun q6 H6 s6 d6 q7 H7 s7 d7 => (fun xx dx nx ndx ne => hMake xx dx nx ndx ne (p := 400) (ss := [⟨some 1, none, none⟩, ⟨some 201, none, none⟩]) (by decide) (by decide) (.cons (sn_of_dp ⟨some 1, none, none⟩ (dp_same s7 _ _ d6)) (.cons (sn_of_dp ⟨some 201, none, none⟩ d7) .nil)) (spok (by decide)) (by decide) fun H8 s8 h8 => ⟨rfl, ?_⟩)
      refine ⟨rfl, hEvery (by decide) (by decide) (by decide) (by decide) fun y H9 s9 h9 => ⟨(by show 2 ≤ sizeLine; decide), fun so H10 n10 s10 e10 => ?_⟩⟩
      exact ⟨so, _, y, rfl, e10, h8.same (Same.trans s9 s10), h9.same s10⟩
    rintro σ' H6 ⟨so, x, y, rfl, es, hx, hy⟩
    refine ⟨fun σ' H' => ∃ u6 : Option V, σ' = [some (.ref a), u, some ev, some th, some (.ref lt), some (.ref so), u6, none], ?_, ?_⟩
    · refine ⟨4, rfl, by decide, by decide, fun L hL => ?_⟩
      refine loop_rg (lo := 0) (n := 4) (fun i H' => H' L = some (.lst (((List.range i).map fun (i : Nat) => 1 + 600 * (i : Int)).map V.int)) ∧ Same H6 H') ⟨upd_same, upd_new hL⟩ ?_ ?_
      · rintro i H7 hi ⟨hLa, s7⟩
        rw [Int.zero_add]
        refine ⟨rfl, _, rfl, _, rfl, 0, i, so, [x, y], [⟨400, 800, Rn.inSpans 400 [⟨some 1, none, none⟩, ⟨some 201, none, none⟩]⟩, ⟨300, 300, Rn.inSpans 300 [⟨some 1, none, none⟩]⟩], rfl, fit_of' (by omega), SqT.of (s7 _ _ es), .cons (hx.same s7) (.cons (hy.same s7) .nil), small2 (by decide +kernel) (by decide +kernel) (by decide +kernel) (by decide +kernel), (by show 2 ≤ 1000; decide), fun o H8 s8 ho => ?_⟩
        obtain rfl := (ho.congr fun t => comm2).uniq (v6 i)
        refine ⟨_, s8 _ _ hLa, ?_, ?_, same_upd (Same.trans s7 s8) hL⟩
        · rw [List.length_map, List.length_map, List.length_range]
          exact Nat.lt_of_lt_of_le (by omega : i < 4) (by decide)
        · rw [upd_same, List.range_succ, List.map_append, List.map_append]
          rfl
      · rintro H7 ⟨hLa, s7⟩
        refine fun q8 H8 s8 d8 => ?_
        exact neD_self (.list (((List.range 4).map fun (i : Nat) => 1 + 600 * (i : Int)).map PyData.int)) (shaped_ints _) (.lst (SqL.of (s8 _ _ hLa)) (ints_dp _)) d8 ⟨_, rfl, iteF ⟨_, rfl⟩⟩
    clear es hx hy
    rintro σ' H7 ⟨u6, rfl⟩
    -- far
    refine ⟨fun σ' H' => σ' = [some (.ref a), u, some ev, some th, some (.ref lt), some (.ref so), u6, some (.int 407)], ?_, ?_⟩
    · refine ⟨rfl, hEvery (by decide) (by decide) (by decide) (by decide) fun g1 H8 s8 h8 => ⟨rfl, hEvery (by decide) (by decide) (by decide) (by decide) fun g2 H9 s9 h9 => ?_⟩⟩
      refine hMeet (us := [g1, g2]) (ss := [⟨400, 400, Rn.inSpans 400 [⟨some 7, none, none⟩]⟩, ⟨399, 399, Rn.inSpans 399 [⟨some 8, none, none⟩]⟩]) (.cons (h8.same s9) (.cons h9 .nil)) (small2 (by decide +kernel) (by decide +kernel) (by decide +kernel) (by decide +kernel)) (by show 2 ≤ 1000; decide) fun o H10 s10 ho => ?_
      obtain rfl := (ho.congr fun t => comm2).uniq v7
      rfl
    rintro σ' H8 rfl
    refine ⟨fun σ' H' => σ' = [some (.ref a), u, some ev, some th, some (.ref lt), some (.ref so), u6, some (.int 407)], ?_, ?_⟩
    · refine ⟨_, rfl, _, _, rfl, rfl, true, congrArg V.bl (decide_eq_true (by decide)), iteT ⟨_, _, rfl, rfl, .inl ⟨by decide, by decide⟩, _, _, rfl, rfl, _, _, rfl, rfl, _, rfl, iteF ⟨_, rfl, Or.inl ⟨_, rfl, _, _, rfl, rfl, by decide, rfl, _, rfl, iteC (ne_no rfl) ⟨_, rfl, Or.inl ⟨_, rfl, _, _, rfl, rfl, by decide, rfl, _, rfl, iteC (ne_no rfl) rfl⟩⟩⟩⟩⟩⟩
    rintro σ' H9 rfl
    refine ⟨_, rfl, _, _, rfl, rfl, rfl, hEvery (by decide) (by decide) (by decide) (by decide) fun g1 H10 s10 h10 => ⟨rfl, hEvery (by decide) (by decide) (by decide) (by decide) fun g2 H11 s11 h11 => ?_⟩⟩
    refine hMeet (us := [g1, g2]) (ss := [⟨7, 7, Rn.inSpans 7 [⟨some 0, none, none⟩]⟩, ⟨7, 7, Rn.inSpans 7 [⟨some 1, none, none⟩]⟩]) (.cons (h10.same s11) (.cons h11 .nil)) (small2 (by decide +kernel) (by decide +kernel) (by decide +kernel) (by decide +kernel)) (by show 2 ≤ 1000; decide) fun o H12 s12 ho => ?_
    obtain rfl := (ho.congr fun t => comm2).uniq v8
    exact k H12
end
end TM
end

section
set_option maxHeartbeats 4000000
namespace EW
open PySem PySem.Spec PyProof.Rows L2
section
variable {K : W.Frag} {h : Heap} {mg : Str → Option Value}
theorem klB_ok (X : K.In h) (G : h.Ns mainGlobals mg) {x : Str} (c : klB K x = true) : Kl K mg x := by
  obtain ⟨c1, c⟩ := He.ba c
  obtain ⟨c2, c⟩ := He.ba c
  obtain ⟨c3, c⟩ := He.ba c
  obtain ⟨c4, c⟩ := He.ba c
  obtain ⟨c5, c⟩ := He.ba c
  obtain ⟨c6, c⟩ := He.ba c
  obtain ⟨c7, c⟩ := He.ba c
  obtain ⟨c8, c⟩ := He.ba c
  obtain ⟨c9, c10⟩ := He.ba c
  exact ⟨He.glo_ok X G c1, He.mkr_ok c2, He.cls_ok c3, He.noat_ok c4, He.noat_ok c5, He.eqO_ok c6, He.eqO_ok c7, of_decide_eq_true c8, of_decide_eq_true c9, c10⟩
theorem propB_ok {C : Addr} {f : Str} (c : propB K C f = true) : PropOf K C f (He.ma K C f) (He5.wf K C "property" f) := by
  obtain ⟨c1, c⟩ := He.ba c
  obtain ⟨c2, c⟩ := He.ba c
  obtain ⟨c3, c4⟩ := He.ba c
  refine ⟨He.eqO_ok c1, He.eqO_ok c2, of_decide_eq_true c3, ?_⟩
  unfold He5.wf
  split at c4
  · rename_i f r e
    exact ⟨r, by rw [e]⟩
  · cases c4
theorem creadB_ok {C : Addr} (c : creadB K C = true) : ClX.CRead K C (.type "type") := by
  obtain ⟨c1, c2⟩ := He.ba c
  exact ⟨c1, He.eqO_ok c2⟩
theorem cmetB_ok {C : Addr} {m : Str} (c : cmetB K C m = true) : ClX.CMet K C (.type "type") m (He.ma K C m) (He5.wf K C "classmethod" m) := by
  obtain ⟨c1, c2⟩ := He.ba c
  exact He5.cmet_of c1 c2
theorem kitB1_ok {t u : Value} {b : Bool} (c : kitB1 K t u b = true) : W.kitOne K t u = some b := of_decide_eq_true c
theorem findB_ok {C : Addr} {m : Str} {id : String} (c : findB K C m id = true) : W.findIn K (.ref C) m = some (some (.builtin id)) := He.eqO_ok c
end
end EW
end

section
set_option maxHeartbeats 0
namespace TM
open PySem PySem.Spec PyProof.Rows L2 EW
theorem facts {P : Program} {w : World} {K : W.Frag} {h : Heap} {mg : Str → Option Value} {f : Addr} (X : K.In h) (G : h.Ns mainGlobals mg) (hfa : mg ("law" : Str) = some (.ref f)) (c : He5.SaysA fa fn K) (cx : exB K = true) :
    ∃ fd : FuncData, (∀ (s : Shared) (v : Value), BindsTo s fd ⟨[v], []⟩ [("_law_script", v)]) ∧ ∀ base : Heap, K.In base → base.Ns mainGlobals mg → FnG P w K mg base CX0 11 f fd ["_law_script"] (spLaw K) := by
  obtain ⟨x0, cx'⟩ := He.ba cx
  have KR := klB_ok X G x0
  obtain ⟨x1, cx''⟩ := He.ba cx'
  have KT := klB_ok X G x1
  obtain ⟨x2, cx'''⟩ := He.ba cx''
  obtain ⟨x3, cx''''⟩ := He.ba cx'''
  obtain ⟨x4, cx'''''⟩ := He.ba cx''''
  obtain ⟨x5, cx''''''⟩ := He.ba cx'''''
  have I : Isi K := ⟨kitB1_ok x2, kitB1_ok x3, kitB1_ok x4, kitB1_ok x5⟩
  obtain ⟨x6, cx'''''''⟩ := He.ba cx''''''
  have crTimes := creadB_ok x6
  obtain ⟨x7, cx''''''''⟩ := He.ba cx'''''''
  have cmTimes_of := cmetB_ok x7
  have x8 := cx''''''''
  have cmTimes_every := cmetB_ok x8
  obtain ⟨fd0, F0⟩ : ∃ fd, FunD K "is_integer" "is_integer" (defArgs sIsInt) (defBody sIsInt) (defScope sIsInt) [] [] (He.ga K "is_integer") fd := c.def_ 0
  have b0 := FunD.bindsN (ps := ["value"]) F0 fun _ _ _ _ _ _ us hl => match us, hl with | [_], _ => rfl
  have g0 : mg "is_integer" = some (.ref (He.ga K "is_integer")) := He.glo_ok X G (c.fact 0 (f := .glo "is_integer") rfl)
  obtain ⟨fd1, F1⟩ : ∃ fd, FunD K "is_between" "is_between" (defArgs sBetween) (defBody sBetween) (defScope sBetween) [] [] (He.ga K "is_between") fd := c.def_ 1
  have b1 := FunD.bindsN (ps := ["value", "least", "most"]) F1 fun _ _ _ _ _ _ us hl => match us, hl with | [_, _, _], _ => rfl
  have g1 : mg "is_between" = some (.ref (He.ga K "is_between")) := He.glo_ok X G (c.fact 1 (f := .glo "is_between") rfl)
  obtain ⟨fd2, F2⟩ : ∃ fd, FunD K "is_bound" "is_bound" (defArgs sIsBound) (defBody sIsBound) (defScope sIsBound) [] [] (He.ga K "is_bound") fd := c.def_ 2
  have b2 := FunD.bindsN (ps := ["value"]) F2 fun _ _ _ _ _ _ us hl => match us, hl with | [_], _ => rfl
  have g2 : mg "is_bound" = some (.ref (He.ga K "is_bound")) := He.glo_ok X G (c.fact 2 (f := .glo "is_bound") rfl)
  obtain ⟨fd3, F3⟩ : ∃ fd, FunD K "require_period" "require_period" (defArgs sReqP) (defBody sReqP) (defScope sReqP) [] [] (He.ga K "require_period") fd := c.def_ 3
  have b3 := FunD.bindsN (ps := ["period"]) F3 fun _ _ _ _ _ _ us hl => match us, hl with | [_], _ => rfl
  have g3 : mg "require_period" = some (.ref (He.ga K "require_period")) := He.glo_ok X G (c.fact 3 (f := .glo "require_period") rfl)
  obtain ⟨fd4, F4⟩ : ∃ fd, FunD K "require_integer" "require_integer" (defArgs sReqI) (defBody sReqI) (defScope sReqI) [] [] (He.ga K "require_integer") fd := c.def_ 4
  have b4 := FunD.bindsN (ps := ["value"]) F4 fun _ _ _ _ _ _ us hl => match us, hl with | [_], _ => rfl
  have g4 : mg "require_integer" = some (.ref (He.ga K "require_integer")) := He.glo_ok X G (c.fact 4 (f := .glo "require_integer") rfl)
  obtain ⟨fd5, F5⟩ : ∃ fd, FunD K "is_span" "is_span" (defArgs sIsSpan) (defBody sIsSpan) (defScope sIsSpan) [] [] (He.ga K "is_span") fd := c.def_ 5
  have b5 := FunD.bindsN (ps := ["period", "value"]) F5 fun _ _ _ _ _ _ us hl => match us, hl with | [_, _], _ => rfl
  have g5 : mg "is_span" = some (.ref (He.ga K "is_span")) := He.glo_ok X G (c.fact 5 (f := .glo "is_span") rfl)
  obtain ⟨fd6, F6⟩ : ∃ fd, FunD K "greater_of" "greater_of" (defArgs sGreater) (defBody sGreater) (defScope sGreater) [] [] (He.ga K "greater_of") fd := c.def_ 6
  have b6 := FunD.bindsN (ps := ["one", "other"]) F6 fun _ _ _ _ _ _ us hl => match us, hl with | [_, _], _ => rfl
  have g6 : mg "greater_of" = some (.ref (He.ga K "greater_of")) := He.glo_ok X G (c.fact 6 (f := .glo "greater_of") rfl)
  obtain ⟨fd7, F7⟩ : ∃ fd, FunD K "lesser_of" "lesser_of" (defArgs sLesser) (defBody sLesser) (defScope sLesser) [] [] (He.ga K "lesser_of") fd := c.def_ 7
  have b7 := FunD.bindsN (ps := ["one", "other"]) F7 fun _ _ _ _ _ _ us hl => match us, hl with | [_, _], _ => rfl
  have g7 : mg "lesser_of" = some (.ref (He.ga K "lesser_of")) := He.glo_ok X G (c.fact 7 (f := .glo "lesser_of") rfl)
  obtain ⟨fd8, F8⟩ : ∃ fd, FunD K "rounded" "rounded" (defArgs sRounded) (defBody sRounded) (defScope sRounded) [] [] (He.ga K "rounded") fd := c.def_ 8
  have b8 := FunD.bindsN (ps := ["period", "residue", "pair"]) F8 fun _ _ _ _ _ _ us hl => match us, hl with | [_, _, _], _ => rfl
  have g8 : mg "rounded" = some (.ref (He.ga K "rounded")) := He.glo_ok X G (c.fact 8 (f := .glo "rounded") rfl)
  obtain ⟨fd9, F9⟩ : ∃ fd, FunD K "is_empty_pair" "is_empty_pair" (defArgs sEmptyP) (defBody sEmptyP) (defScope sEmptyP) [] [] (He.ga K "is_empty_pair") fd := c.def_ 9
  have b9 := FunD.bindsN (ps := ["pair"]) F9 fun _ _ _ _ _ _ us hl => match us, hl with | [_], _ => rfl
  have g9 : mg "is_empty_pair" = some (.ref (He.ga K "is_empty_pair")) := He.glo_ok X G (c.fact 9 (f := .glo "is_empty_pair") rfl)
  obtain ⟨fd10, F10⟩ : ∃ fd, FunD K "run_of" "run_of" (defArgs sRunOf) (defBody sRunOf) (defScope sRunOf) [] [] (He.ga K "run_of") fd := c.def_ 10
  have b10 := FunD.bindsN (ps := ["period", "residue", "least", "most"]) F10 fun _ _ _ _ _ _ us hl => match us, hl with | [_, _, _, _], _ => rfl
  have g10 : mg "run_of" = some (.ref (He.ga K "run_of")) := He.glo_ok X G (c.fact 10 (f := .glo "run_of") rfl)
  obtain ⟨fd11, F11⟩ : ∃ fd, FunD K "run_key" "run_key" (defArgs sRunKey) (defBody sRunKey) (defScope sRunKey) [] [] (He.ga K "run_key") fd := c.def_ 11
  have b11 := FunD.bindsN (ps := ["run"]) F11 fun _ _ _ _ _ _ us hl => match us, hl with | [_], _ => rfl
  have g11 : mg "run_key" = some (.ref (He.ga K "run_key")) := He.glo_ok X G (c.fact 11 (f := .glo "run_key") rfl)
  obtain ⟨fd12, F12⟩ : ∃ fd, FunD K "goes_on" "goes_on" (defArgs sGoesOn) (defBody sGoesOn) (defScope sGoesOn) [] [] (He.ga K "goes_on") fd := c.def_ 12
  have b12 := FunD.bindsN (ps := ["period", "run", "other"]) F12 fun _ _ _ _ _ _ us hl => match us, hl with | [_, _, _], _ => rfl
  have g12 : mg "goes_on" = some (.ref (He.ga K "goes_on")) := He.glo_ok X G (c.fact 12 (f := .glo "goes_on") rfl)
  obtain ⟨fd13, F13⟩ : ∃ fd, FunD K "united" "united" (defArgs sUnited) (defBody sUnited) (defScope sUnited) [] [] (He.ga K "united") fd := c.def_ 13
  have b13 := FunD.bindsN (ps := ["period", "runs"]) F13 fun _ _ _ _ _ _ us hl => match us, hl with | [_, _], _ => rfl
  have g13 : mg "united" = some (.ref (He.ga K "united")) := He.glo_ok X G (c.fact 13 (f := .glo "united") rfl)
  obtain ⟨fd14, F14⟩ : ∃ fd, FunD K "grouped" "grouped" (defArgs sGrouped) (defBody sGrouped) (defScope sGrouped) [] [] (He.ga K "grouped") fd := c.def_ 14
  have b14 := FunD.bindsN (ps := ["runs"]) F14 fun _ _ _ _ _ _ us hl => match us, hl with | [_], _ => rfl
  have g14 : mg "grouped" = some (.ref (He.ga K "grouped")) := He.glo_ok X G (c.fact 14 (f := .glo "grouped") rfl)
  obtain ⟨fd15, F15⟩ : ∃ fd, FunD K "runs_in" "runs_in" (defArgs sRunsIn) (defBody sRunsIn) (defScope sRunsIn) [] [] (He.ga K "runs_in") fd := c.def_ 15
  have b15 := FunD.bindsN (ps := ["period", "spans"]) F15 fun _ _ _ _ _ _ us hl => match us, hl with | [_, _], _ => rfl
  have g15 : mg "runs_in" = some (.ref (He.ga K "runs_in")) := He.glo_ok X G (c.fact 15 (f := .glo "runs_in") rfl)
  obtain ⟨fd16, F16⟩ : ∃ fd, FunD K "next_in" "next_in" (defArgs sNextIn) (defBody sNextIn) (defScope sNextIn) [] [] (He.ga K "next_in") fd := c.def_ 16
  have b16 := FunD.bindsN (ps := ["period", "runs", "time"]) F16 fun _ _ _ _ _ _ us hl => match us, hl with | [_, _, _], _ => rfl
  have g16 : mg "next_in" = some (.ref (He.ga K "next_in")) := He.glo_ok X G (c.fact 16 (f := .glo "next_in") rfl)
  obtain ⟨fd17, F17⟩ : ∃ fd, FunD K "many_in" "many_in" (defArgs sManyIn) (defBody sManyIn) (defScope sManyIn) [] [] (He.ga K "many_in") fd := c.def_ 17
  have b17 := FunD.bindsN (ps := ["period", "runs", "low", "high"]) F17 fun _ _ _ _ _ _ us hl => match us, hl with | [_, _, _, _], _ => rfl
  have g17 : mg "many_in" = some (.ref (He.ga K "many_in")) := He.glo_ok X G (c.fact 17 (f := .glo "many_in") rfl)
  obtain ⟨fd18, F18⟩ : ∃ fd, FunD K "far_end" "far_end" (defArgs sFarEnd) (defBody sFarEnd) (defScope sFarEnd) [] [] (He.ga K "far_end") fd := c.def_ 18
  have b18 := FunD.bindsN (ps := ["period", "runs", "start", "many"]) F18 fun _ _ _ _ _ _ us hl => match us, hl with | [_, _, _, _], _ => rfl
  have g18 : mg "far_end" = some (.ref (He.ga K "far_end")) := He.glo_ok X G (c.fact 18 (f := .glo "far_end") rfl)
  obtain ⟨fd19, F19⟩ : ∃ fd, FunD K "kth_in" "kth_in" (defArgs sKthIn) (defBody sKthIn) (defScope sKthIn) [] [] (He.ga K "kth_in") fd := c.def_ 19
  have b19 := FunD.bindsN (ps := ["period", "runs", "index", "start"]) F19 fun _ _ _ _ _ _ us hl => match us, hl with | [_, _, _, _], _ => rfl
  have g19 : mg "kth_in" = some (.ref (He.ga K "kth_in")) := He.glo_ok X G (c.fact 19 (f := .glo "kth_in") rfl)
  obtain ⟨fd20, F20⟩ : ∃ fd, FunD K "__init__" "Runs.__init__" (defArgs sRInit) (defBody sRInit) (defScope sRInit) [] [] (He.ma K (He.ga K "Runs") "__init__") fd := c.def_ 20
  have b20 := FunD.bindsN (ps := ["self", "period", "runs"]) F20 fun _ _ _ _ _ _ us hl => match us, hl with | [_, _, _], _ => rfl
  obtain ⟨fd21, F21⟩ : ∃ fd, FunD K "checked" "checked" (defArgs sChecked) (defBody sChecked) (defScope sChecked) [] [] (He.ga K "checked") fd := c.def_ 21
  have b21 := FunD.bindsN (ps := ["period", "spans"]) F21 fun _ _ _ _ _ _ us hl => match us, hl with | [_, _], _ => rfl
  have g21 : mg "checked" = some (.ref (He.ga K "checked")) := He.glo_ok X G (c.fact 20 (f := .glo "checked") rfl)
  obtain ⟨fd22, F22⟩ : ∃ fd, FunD K "__init__" "Times.__init__" (defArgs sTInit) (defBody sTInit) (defScope sTInit) [] [] (He.ma K (He.ga K "Times") "__init__") fd := c.def_ 22
  obtain ⟨fd23, F23⟩ : ∃ fd, FunD K "of" "Times.of" (defArgs sOf) (defBody sOf) (defScope sOf) [] [] (He5.wf K (He.ga K "Times") "classmethod" "of") fd := c.def_ 23
  have b23 := FunD.bindsN (ps := ["cls", "period", "spans"]) F23 fun _ _ _ _ _ _ us hl => match us, hl with | [_, _, _], _ => rfl
  obtain ⟨fd24, F24⟩ : ∃ fd, FunD K "every" "Times.every" (defArgs sEvery) (defBody sEvery) (defScope sEvery) [] [("since", .non), ("until", .non)] (He5.wf K (He.ga K "Times") "classmethod" "every") fd := c.def_ 24
  obtain ⟨ds24, v24, b24⟩ := FunD.binds0 (ps := ["cls", "period", "residue", "since", "until"]) F24 3 (by decide) rfl (fun _ _ _ _ _ _ us ks h1 h2 => match us, h1, ks, h2 with | [_, _, _], _, [_, _], _ => ⟨_, _, _, _, _, _, rfl, rfl, _, _, _, _, _, _, rfl, rfl, rfl⟩)
  obtain ⟨fd25, F25⟩ : ∃ fd, FunD K "common_divisor" "common_divisor" (defArgs sCdiv) (defBody sCdiv) (defScope sCdiv) [] [] (He.ga K "common_divisor") fd := c.def_ 25
  have b25 := FunD.bindsN (ps := ["one", "other"]) F25 fun _ _ _ _ _ _ us hl => match us, hl with | [_, _], _ => rfl
  have g25 : mg "common_divisor" = some (.ref (He.ga K "common_divisor")) := He.glo_ok X G (c.fact 21 (f := .glo "common_divisor") rfl)
  obtain ⟨fd26, F26⟩ : ∃ fd, FunD K "common_period" "common_period" (defArgs sCper) (defBody sCper) (defScope sCper) [] [] (He.ga K "common_period") fd := c.def_ 26
  have b26 := FunD.bindsN (ps := ["sets"]) F26 fun _ _ _ _ _ _ us hl => match us, hl with | [_], _ => rfl
  have g26 : mg "common_period" = some (.ref (He.ga K "common_period")) := He.glo_ok X G (c.fact 22 (f := .glo "common_period") rfl)
  obtain ⟨fd27, F27⟩ : ∃ fd, FunD K "inverse_of" "inverse_of" (defArgs sInvOf) (defBody sInvOf) (defScope sInvOf) [] [] (He.ga K "inverse_of") fd := c.def_ 27
  have b27 := FunD.bindsN (ps := ["number", "modulus"]) F27 fun _ _ _ _ _ _ us hl => match us, hl with | [_, _], _ => rfl
  have g27 : mg "inverse_of" = some (.ref (He.ga K "inverse_of")) := He.glo_ok X G (c.fact 23 (f := .glo "inverse_of") rfl)
  obtain ⟨fd28, F28⟩ : ∃ fd, FunD K "met_runs" "met_runs" (defArgs sMet) (defBody sMet) (defScope sMet) [] [] (He.ga K "met_runs") fd := c.def_ 28
  have b28 := FunD.bindsN (ps := ["period", "runs", "times"]) F28 fun _ _ _ _ _ _ us hl => match us, hl with | [_, _, _], _ => rfl
  have g28 : mg "met_runs" = some (.ref (He.ga K "met_runs")) := He.glo_ok X G (c.fact 24 (f := .glo "met_runs") rfl)
  obtain ⟨fd29, F29⟩ : ∃ fd, FunD K "common_in" "common_in" (defArgs sCom) (defBody sCom) (defScope sCom) [] [] (He.ga K "common_in") fd := c.def_ 29
  have b29 := FunD.bindsN (ps := ["sets"]) F29 fun _ _ _ _ _ _ us hl => match us, hl with | [_], _ => rfl
  have g29 : mg "common_in" = some (.ref (He.ga K "common_in")) := He.glo_ok X G (c.fact 25 (f := .glo "common_in") rfl)
  obtain ⟨fd30, F30⟩ : ∃ fd, FunD K "require_sets" "require_sets" (defArgs sReqS) (defBody sReqS) (defScope sReqS) [] [] (He.ga K "require_sets") fd := c.def_ 30
  have b30 := FunD.bindsN (ps := ["sets"]) F30 fun _ _ _ _ _ _ us hl => match us, hl with | [_], _ => rfl
  have g30 : mg "require_sets" = some (.ref (He.ga K "require_sets")) := He.glo_ok X G (c.fact 26 (f := .glo "require_sets") rfl)
  obtain ⟨fd31, F31⟩ : ∃ fd, FunD K "meet_all" "meet_all" (defArgs sMeetA) (defBody sMeetA) (defScope sMeetA) [] [] (He.ga K "meet_all") fd := c.def_ 31
  have b31 := FunD.bindsN (ps := ["start", "sets"]) F31 fun _ _ _ _ _ _ us hl => match us, hl with | [_, _], _ => rfl
  have g31 : mg "meet_all" = some (.ref (He.ga K "meet_all")) := He.glo_ok X G (c.fact 27 (f := .glo "meet_all") rfl)
  obtain ⟨fd32, F32⟩ : ∃ fd, FunD K "kth_meeting" "kth_meeting" (defArgs sKthM) (defBody sKthM) (defScope sKthM) [] [] (He.ga K "kth_meeting") fd := c.def_ 32
  have b32 := FunD.bindsN (ps := ["start", "index", "sets"]) F32 fun _ _ _ _ _ _ us hl => match us, hl with | [_, _, _], _ => rfl
  have g32 : mg "kth_meeting" = some (.ref (He.ga K "kth_meeting")) := He.glo_ok X G (c.fact 28 (f := .glo "kth_meeting") rfl)
  obtain ⟨fd33, F33⟩ : ∃ fd, FunD K "meet" "meet" (defArgs sMeet) (defBody sMeet) (defScope sMeet) [] [] (He.ga K "meet") fd := c.def_ 33
  have g33 : mg "meet" = some (.ref (He.ga K "meet")) := He.glo_ok X G (c.fact 29 (f := .glo "meet") rfl)
  obtain ⟨fd34, F34⟩ : ∃ fd, FunD K "_law_dice" "_law_dice" (defArgs sDice) (defBody sDice) (defScope sDice) [] [] (He.ga K "_law_dice") fd := c.def_ 34
  have b34 := FunD.bindsN (ps := ["_law_script", "_law_spot"]) F34 fun _ _ _ _ _ _ us hl => match us, hl with | [_, _], _ => rfl
  have g34 : mg "_law_dice" = some (.ref (He.ga K "_law_dice")) := He.glo_ok X G (c.fact 30 (f := .glo "_law_dice") rfl)
  obtain ⟨fd35, F35⟩ : ∃ fd, FunD K "_law_roll" "_law_roll" (defArgs sRoll) (defBody sRoll) (defScope sRoll) [] [] (He.ga K "_law_roll") fd := c.def_ 35
  have b35 := FunD.bindsN (ps := ["_law_dice_here", "_law_many"]) F35 fun _ _ _ _ _ _ us hl => match us, hl with | [_, _], _ => rfl
  have g35 : mg "_law_roll" = some (.ref (He.ga K "_law_roll")) := He.glo_ok X G (c.fact 31 (f := .glo "_law_roll") rfl)
  obtain ⟨fd36, F36⟩ : ∃ fd, FunD K "_law_pick" "_law_pick" (defArgs sPick) (defBody sPick) (defScope sPick) [] [] (He.ga K "_law_pick") fd := c.def_ 36
  have b36 := FunD.bindsN (ps := ["_law_dice_here", "_law_items"]) F36 fun _ _ _ _ _ _ us hl => match us, hl with | [_, _], _ => rfl
  have g36 : mg "_law_pick" = some (.ref (He.ga K "_law_pick")) := He.glo_ok X G (c.fact 32 (f := .glo "_law_pick") rfl)
  obtain ⟨fd37, F37⟩ : ∃ fd, FunD K "_law_near" "_law_near" (defArgs sNear) (defBody sNear) (defScope sNear) [] [] (He.ga K "_law_near") fd := c.def_ 37
  have b37 := FunD.bindsN (ps := ["_law_dice_here", "_law_far"]) F37 fun _ _ _ _ _ _ us hl => match us, hl with | [_, _], _ => rfl
  have g37 : mg "_law_near" = some (.ref (He.ga K "_law_near")) := He.glo_ok X G (c.fact 33 (f := .glo "_law_near") rfl)
  obtain ⟨fd38, F38⟩ : ∃ fd, FunD K "_law_bound" "_law_bound" (defArgs sBound) (defBody sBound) (defScope sBound) [] [] (He.ga K "_law_bound") fd := c.def_ 38
  have b38 := FunD.bindsN (ps := ["_law_dice_here", "_law_far"]) F38 fun _ _ _ _ _ _ us hl => match us, hl with | [_, _], _ => rfl
  have g38 : mg "_law_bound" = some (.ref (He.ga K "_law_bound")) := He.glo_ok X G (c.fact 34 (f := .glo "_law_bound") rfl)
  obtain ⟨fd39, F39⟩ : ∃ fd, FunD K "_law_pair" "_law_pair" (defArgs sPair) (defBody sPair) (defScope sPair) [] [] (He.ga K "_law_pair") fd := c.def_ 39
  have b39 := FunD.bindsN (ps := ["_law_dice_here", "_law_far"]) F39 fun _ _ _ _ _ _ us hl => match us, hl with | [_, _], _ => rfl
  have g39 : mg "_law_pair" = some (.ref (He.ga K "_law_pair")) := He.glo_ok X G (c.fact 35 (f := .glo "_law_pair") rfl)
  obtain ⟨fd40, F40⟩ : ∃ fd, FunD K "_law_residue" "_law_residue" (defArgs sResidue) (defBody sResidue) (defScope sResidue) [] [] (He.ga K "_law_residue") fd := c.def_ 40
  have b40 := FunD.bindsN (ps := ["_law_dice_here", "_law_period_here"]) F40 fun _ _ _ _ _ _ us hl => match us, hl with | [_, _], _ => rfl
  have g40 : mg "_law_residue" = some (.ref (He.ga K "_law_residue")) := He.glo_ok X G (c.fact 36 (f := .glo "_law_residue") rfl)
  obtain ⟨fd41, F41⟩ : ∃ fd, FunD K "_law_span" "_law_span" (defArgs sSpan) (defBody sSpan) (defScope sSpan) [] [] (He.ga K "_law_span") fd := c.def_ 41
  have b41 := FunD.bindsN (ps := ["_law_dice_here", "_law_period_here", "_law_far"]) F41 fun _ _ _ _ _ _ us hl => match us, hl with | [_, _, _], _ => rfl
  have g41 : mg "_law_span" = some (.ref (He.ga K "_law_span")) := He.glo_ok X G (c.fact 37 (f := .glo "_law_span") rfl)
  obtain ⟨fd42, F42⟩ : ∃ fd, FunD K "_law_spans" "_law_spans" (defArgs sSpansL) (defBody sSpansL) (defScope sSpansL) [] [] (He.ga K "_law_spans") fd := c.def_ 42
  have b42 := FunD.bindsN (ps := ["_law_dice_here", "_law_period_here", "_law_most"]) F42 fun _ _ _ _ _ _ us hl => match us, hl with | [_, _, _], _ => rfl
  have g42 : mg "_law_spans" = some (.ref (He.ga K "_law_spans")) := He.glo_ok X G (c.fact 38 (f := .glo "_law_spans") rfl)
  obtain ⟨fd43, F43⟩ : ∃ fd, FunD K "_law_between" "_law_between" (defArgs sBetw) (defBody sBetw) (defScope sBetw) [] [] (He.ga K "_law_between") fd := c.def_ 43
  have b43 := FunD.bindsN (ps := ["_law_one", "_law_pair_here"]) F43 fun _ _ _ _ _ _ us hl => match us, hl with | [_, _], _ => rfl
  have g43 : mg "_law_between" = some (.ref (He.ga K "_law_between")) := He.glo_ok X G (c.fact 39 (f := .glo "_law_between") rfl)
  obtain ⟨fd44, F44⟩ : ∃ fd, FunD K "_law_is_in" "_law_is_in" (defArgs sIsIn) (defBody sIsIn) (defScope sIsIn) [] [] (He.ga K "_law_is_in") fd := c.def_ 44
  have b44 := FunD.bindsN (ps := ["_law_period_here", "_law_spans_here", "_law_time"]) F44 fun _ _ _ _ _ _ us hl => match us, hl with | [_, _, _], _ => rfl
  have g44 : mg "_law_is_in" = some (.ref (He.ga K "_law_is_in")) := He.glo_ok X G (c.fact 40 (f := .glo "_law_is_in") rfl)
  obtain ⟨fd45, F45⟩ : ∃ fd, FunD K "_law_bounds" "_law_bounds" (defArgs sBounds) (defBody sBounds) (defScope sBounds) [] [] (He.ga K "_law_bounds") fd := c.def_ 45
  have b45 := FunD.bindsN (ps := ["_law_spans_here"]) F45 fun _ _ _ _ _ _ us hl => match us, hl with | [_], _ => rfl
  have g45 : mg "_law_bounds" = some (.ref (He.ga K "_law_bounds")) := He.glo_ok X G (c.fact 41 (f := .glo "_law_bounds") rfl)
  obtain ⟨fd46, F46⟩ : ∃ fd, FunD K "_law_is_common" "_law_is_common" (defArgs sIsCom) (defBody sIsCom) (defScope sIsCom) [] [] (He.ga K "_law_is_common") fd := c.def_ 46
  have b46 := FunD.bindsN (ps := ["_law_sets", "_law_time"]) F46 fun _ _ _ _ _ _ us hl => match us, hl with | [_, _], _ => rfl
  have g46 : mg "_law_is_common" = some (.ref (He.ga K "_law_is_common")) := He.glo_ok X G (c.fact 42 (f := .glo "_law_is_common") rfl)
  obtain ⟨fd47, F47⟩ : ∃ fd, FunD K "_law_whole" "_law_whole" (defArgs sWhole) (defBody sWhole) (defScope sWhole) [] [] (He.ga K "_law_whole") fd := c.def_ 47
  have b47 := FunD.bindsN (ps := ["_law_sets"]) F47 fun _ _ _ _ _ _ us hl => match us, hl with | [_], _ => rfl
  have g47 : mg "_law_whole" = some (.ref (He.ga K "_law_whole")) := He.glo_ok X G (c.fact 43 (f := .glo "_law_whole") rfl)
  obtain ⟨fd48, F48⟩ : ∃ fd, FunD K "_law_corners" "_law_corners" (defArgs sCorn) (defBody sCorn) (defScope sCorn) [] [] (He.ga K "_law_corners") fd := c.def_ 48
  have b48 := FunD.bindsN (ps := ["_law_sets", "_law_begun_here"]) F48 fun _ _ _ _ _ _ us hl => match us, hl with | [_, _], _ => rfl
  have g48 : mg "_law_corners" = some (.ref (He.ga K "_law_corners")) := He.glo_ok X G (c.fact 44 (f := .glo "_law_corners") rfl)
  obtain ⟨fd49, F49⟩ : ∃ fd, FunD K "_law_many_in" "_law_many_in" (defArgs sManyL) (defBody sManyL) (defScope sManyL) [] [] (He.ga K "_law_many_in") fd := c.def_ 49
  have b49 := FunD.bindsN (ps := ["_law_sets", "_law_low", "_law_high"]) F49 fun _ _ _ _ _ _ us hl => match us, hl with | [_, _, _], _ => rfl
  have g49 : mg "_law_many_in" = some (.ref (He.ga K "_law_many_in")) := He.glo_ok X G (c.fact 45 (f := .glo "_law_many_in") rfl)
  obtain ⟨fd50, F50⟩ : ∃ fd, FunD K "_law_none_ahead" "_law_none_ahead" (defArgs sNoneA) (defBody sNoneA) (defScope sNoneA) [] [] (He.ga K "_law_none_ahead") fd := c.def_ 50
  have b50 := FunD.bindsN (ps := ["_law_sets", "_law_begun_here", "_law_end"]) F50 fun _ _ _ _ _ _ us hl => match us, hl with | [_, _, _], _ => rfl
  have g50 : mg "_law_none_ahead" = some (.ref (He.ga K "_law_none_ahead")) := He.glo_ok X G (c.fact 46 (f := .glo "_law_none_ahead") rfl)
  obtain ⟨fd51, F51⟩ : ∃ fd, FunD K "_law_is_kth" "_law_is_kth" (defArgs sIsKthL) (defBody sIsKthL) (defScope sIsKthL) [] [] (He.ga K "_law_is_kth") fd := c.def_ 51
  have b51 := FunD.bindsN (ps := ["_law_sets", "_law_index", "_law_begun_here", "_law_told"]) F51 fun _ _ _ _ _ _ us hl => match us, hl with | [_, _, _, _], _ => rfl
  have g51 : mg "_law_is_kth" = some (.ref (He.ga K "_law_is_kth")) := He.glo_ok X G (c.fact 47 (f := .glo "_law_is_kth") rfl)
  obtain ⟨fd52, F52⟩ : ∃ fd, FunD K "_law_begun" "_law_begun" (defArgs sBegunL) (defBody sBegunL) (defScope sBegunL) [] [] (He.ga K "_law_begun") fd := c.def_ 52
  have b52 := FunD.bindsN (ps := ["_law_dice_here", "_law_sets"]) F52 fun _ _ _ _ _ _ us hl => match us, hl with | [_, _], _ => rfl
  have g52 : mg "_law_begun" = some (.ref (He.ga K "_law_begun")) := He.glo_ok X G (c.fact 48 (f := .glo "_law_begun") rfl)
  obtain ⟨fd53, F53⟩ : ∃ fd, FunD K "_law_right" "_law_right" (defArgs sRight) (defBody sRight) (defScope sRight) [] [] (He.ga K "_law_right") fd := c.def_ 53
  have b53 := FunD.bindsN (ps := ["_law_dice_here"]) F53 fun _ _ _ _ _ _ us hl => match us, hl with | [_], _ => rfl
  have g53 : mg "_law_right" = some (.ref (He.ga K "_law_right")) := He.glo_ok X G (c.fact 49 (f := .glo "_law_right") rfl)
  obtain ⟨fd54, F54⟩ : ∃ fd, FunD K "law" "law" (defArgs sLaw) (defBody sLaw) (defScope sLaw) [] [] (He.ga K "law") fd := c.def_ 54
  have g54 : mg "law" = some (.ref (He.ga K "law")) := He.glo_ok X G (c.fact 50 (f := .glo "law") rfl)
  have f_len : mg "len" = none := He.free_ok X G (c.fact 51 (f := .free "len") rfl)
  have f_int : mg "int" = none := He.free_ok X G (c.fact 52 (f := .free "int") rfl)
  have f_bool : mg "bool" = none := He.free_ok X G (c.fact 53 (f := .free "bool") rfl)
  have f_tuple : mg "tuple" = none := He.free_ok X G (c.fact 54 (f := .free "tuple") rfl)
  have f_list : mg "list" = none := He.free_ok X G (c.fact 55 (f := .free "list") rfl)
  have f_set : mg "set" = none := He.free_ok X G (c.fact 56 (f := .free "set") rfl)
  have f_abs : mg "abs" = none := He.free_ok X G (c.fact 57 (f := .free "abs") rfl)
  have f_max : mg "max" = none := He.free_ok X G (c.fact 58 (f := .free "max") rfl)
  have f_min : mg "min" = none := He.free_ok X G (c.fact 59 (f := .free "min") rfl)
  have f_range : mg "range" = none := He.free_ok X G (c.fact 60 (f := .free "range") rfl)
  have f_any : mg "any" = none := He.free_ok X G (c.fact 61 (f := .free "any") rfl)
  have f_all : mg "all" = none := He.free_ok X G (c.fact 62 (f := .free "all") rfl)
  have f_sorted : mg "sorted" = none := He.free_ok X G (c.fact 63 (f := .free "sorted") rfl)
  have f_isinstance : mg "isinstance" = none := He.free_ok X G (c.fact 64 (f := .free "isinstance") rfl)
  have f_zip : mg "zip" = none := He.free_ok X G (c.fact 65 (f := .free "zip") rfl)
  have i_MAX_PERIOD_shapes := He.int_ok X G (c.fact 66 (f := .int "MAX_PERIOD_shapes" 400) rfl)
  have i_MAX_COMMON := He.int_ok X G (c.fact 67 (f := .int "MAX_COMMON" 1000000) rfl)
  have T : Fre mg := ⟨f_len, f_int, f_bool, f_tuple, f_list, f_set, f_abs, f_max, f_min, f_range, f_any, f_all, f_sorted, f_isinstance⟩
  have GP : Per mg := ⟨i_MAX_PERIOD_shapes⟩
  have gM := i_MAX_COMMON
  have fZip := f_zip
  have eL := hfa.symm.trans g54
  cases eL
  have bl := FunD.bindsA (ps := ["_law_script"]) F54 fun _ _ _ _ _ _ us hl => match us, hl with | [_], _ => rfl
  refine ⟨fd54, fun s v => bl s [v] rfl, fun base _ _ => ?_⟩
  have Dis_integer : Df P w K mg base 1 "is_integer" ["value"] (spIsInt K) := ⟨⟨_, ok_isInt F0 T, b0⟩, F0.kp, g0⟩
  have Dis_between : Df P w K mg base 2 "is_between" ["value", "least", "most"] spBetween := ⟨⟨_, ok_between F1 Dis_integer, b1⟩, F1.kp, g1⟩
  have Dis_bound : Df P w K mg base 2 "is_bound" ["value"] spBound := ⟨⟨_, ok_bound F2 Dis_integer, b2⟩, F2.kp, g2⟩
  have Drequire_period : Df P w K mg base 3 "require_period" ["period"] spReqP := ⟨⟨_, ok_reqP F3 GP Dis_between, b3⟩, F3.kp, g3⟩
  have Drequire_integer : Df P w K mg base 2 "require_integer" ["value"] spReqI := ⟨⟨_, ok_reqI F4 Dis_integer, b4⟩, F4.kp, g4⟩
  have Dis_span : Df P w K mg base 3 "is_span" ["period", "value"] (spSpan K) := ⟨⟨_, ok_span F5 T Dis_bound Dis_between, b5⟩, F5.kp, g5⟩
  have Dgreater_of : Df P w K mg base 1 "greater_of" ["one", "other"] (spTwo grt) := ⟨⟨_, ok_greater F6 T, b6⟩, F6.kp, g6⟩
  have Dlesser_of : Df P w K mg base 1 "lesser_of" ["one", "other"] (spTwo lst) := ⟨⟨_, ok_lesser F7 T, b7⟩, F7.kp, g7⟩
  have Drounded : Df P w K mg base 1 "rounded" ["period", "residue", "pair"] (spRounded K) := ⟨⟨_, ok_rounded F8 T, b8⟩, F8.kp, g8⟩
  have Dis_empty_pair : Df P w K mg base 1 "is_empty_pair" ["pair"] (spEmptyP K) := ⟨⟨_, ok_emptyP F9, b9⟩, F9.kp, g9⟩
  have Drun_of : Df P w K mg base 2 "run_of" ["period", "residue", "least", "most"] spRunOf := ⟨⟨_, ok_runOf F10 Drounded Dis_empty_pair, b10⟩, F10.kp, g10⟩
  have Drun_key : Df P w K mg base 1 "run_key" ["run"] (spKey K) := ⟨⟨_, ok_key F11, b11⟩, F11.kp, g11⟩
  have Dgoes_on : Df P w K mg base 1 "goes_on" ["period", "run", "other"] (spGoesOn K) := ⟨⟨_, ok_goesOn F12, b12⟩, F12.kp, g12⟩
  have Dunited : Df P w K mg base 4 "united" ["period", "runs"] (spUnited K) := ⟨⟨_, ok_united F13 T Drun_key Dgoes_on, b13⟩, F13.kp, g13⟩
  have Dgrouped : Df P w K mg base 1 "grouped" ["runs"] (spGrouped K) := ⟨⟨_, ok_grouped F14, b14⟩, F14.kp, g14⟩
  have Druns_in : Df P w K mg base 5 "runs_in" ["period", "spans"] (spRunsIn K) := ⟨⟨_, ok_runsIn F15 T Drun_of Dgrouped Dunited, b15⟩, F15.kp, g15⟩
  have Dnext_in : Df P w K mg base 3 "next_in" ["period", "runs", "time"] (spNext K) := ⟨⟨_, ok_nextIn F16 T Drun_of Dgreater_of, b16⟩, F16.kp, g16⟩
  have Dmany_in : Df P w K mg base 3 "many_in" ["period", "runs", "low", "high"] (spMany K) := ⟨⟨_, ok_manyIn F17 T Drun_of Dgreater_of Dlesser_of, b17⟩, F17.kp, g17⟩
  have Dfar_end : Df P w K mg base 1 "far_end" ["period", "runs", "start", "many"] (spFar K) := ⟨⟨_, ok_farEnd F18 T, b18⟩, F18.kp, g18⟩
  have Dkth_in : Df P w K mg base 4 "kth_in" ["period", "runs", "index", "start"] (spKthIn K) := ⟨⟨_, ok_kthIn F19 Dfar_end Dmany_in, b19⟩, F19.kp, g19⟩
  have FR := ok_rInit (P := P) (w := w) (mg := mg) (base := base) F20 KR
  have bR := b20
  have Dchecked : Df P w K mg base 6 "checked" ["period", "spans"] (spChecked K) := ⟨⟨_, ok_checked F21 T KR FR bR Drequire_period Dis_span Druns_in, b21⟩, F21.kp, g21⟩
  have FT : FnR P w K mg base CX0 7 (He.ma K (CT K) "__init__") (spTInit K) := ok_tBody F22 T KR KT I Dchecked
  have Cof : CMt P w K mg base 9 (He.ga K "Times") "of" (spOf K) := ⟨_, _, _, crTimes, cmTimes_of, fun A outer s H us vs Q E hr e0 r h => fnR_of (ok_of F23 KT FT Dchecked) b23 .nil A outer s H us vs Q E hr e0 r (by show (spOf K) (vs ++ []) H Q E; rw [List.append_nil]; exact h)⟩
  have Cevery : CMt P w K mg base 9 (He.ga K "Times") "every" (fun vs H Q E => spEvery K (vs ++ [.non, .non]) H Q E) := ⟨_, _, _, crTimes, cmTimes_every, fnR_of (ok_every F24 KT FT Dchecked) b24 v24⟩
  obtain ⟨mvE, kbE⟩ := kbinds0 (ps := ["cls", "period", "residue", "since", "until"]) F24 3 ["since"] [("until", .non)] (fun vs mz zs => vs ++ zs ++ mz) (by simp) (by simp) (fun r1 r2 r3 => (r1.append r3).append r2) (fun _ _ _ _ _ _ us ms ws h1 h2 h3 => match us, h1, ms, h2, ws, h3 with | [_, _, _], _, [_], _, [_], _ => ⟨_, _, _, _, _, _, rfl, rfl, rfl⟩)
  have CeverySN : CMtN P w K mg base 9 (CT K) "every" 2 ["since"] (fun vs zs => vs ++ zs ++ [.non]) (spEvery K) := ⟨_, _, _, _, _, _, crTimes, cmTimes_every, (ok_every F24 KT FT Dchecked), kbE⟩
  have Dcommon_divisor : Df P w K mg base 1 "common_divisor" ["one", "other"] spCdiv := ⟨⟨_, ok_cdiv F25 T, b25⟩, F25.kp, g25⟩
  have Dcommon_period : Df P w K mg base 2 "common_period" ["sets"] (spCper K) := ⟨⟨_, ok_cper F26 T KT Dcommon_divisor, b26⟩, F26.kp, g26⟩
  have Dinverse_of : Df P w K mg base 1 "inverse_of" ["number", "modulus"] spInvOf := ⟨⟨_, ok_invOf F27 T, b27⟩, F27.kp, g27⟩
  have Dmet_runs : Df P w K mg base 3 "met_runs" ["period", "runs", "times"] (spMet K) := ⟨⟨_, ok_met F28 T KT Dcommon_divisor Dinverse_of Drun_of Dgreater_of Dlesser_of, b28⟩, F28.kp, g28⟩
  have Dcommon_in : Df P w K mg base 4 "common_in" ["sets"] (spCom K) := ⟨⟨_, ok_com F29 Dmet_runs, b29⟩, F29.kp, g29⟩
  have Drequire_sets : Df P w K mg base 3 "require_sets" ["sets"] (spReqS K) := ⟨⟨_, ok_reqS F30 T gM KT I Dcommon_period, b30⟩, F30.kp, g30⟩
  have Dmeet_all : Df P w K mg base 5 "meet_all" ["start", "sets"] (spMeetA K) := ⟨⟨_, ok_meetA F31 Drequire_integer Drequire_sets Dcommon_in Dnext_in, b31⟩, F31.kp, g31⟩
  have Dkth_meeting : Df P w K mg base 5 "kth_meeting" ["start", "index", "sets"] (spKthM K) := ⟨⟨_, ok_kthM F32 Dis_integer Drequire_integer Drequire_sets Dcommon_in Dkth_in, b32⟩, F32.kp, g32⟩
  have FMeet : FnR P w K mg base CX0 6 (He.ga K "meet") (spMeet K) := ok_meet F33 Dmeet_all
  have gMeet := g33
  have kMeet := F33.kp
  have D_law_dice : Df P w K mg base 1 "_law_dice" ["_law_script", "_law_spot"] (spDice K) := ⟨⟨_, ok_dice F34 T, b34⟩, F34.kp, g34⟩
  have D_law_roll : Df P w K mg base 1 "_law_roll" ["_law_dice_here", "_law_many"] spRoll := ⟨⟨_, ok_roll F35 T, b35⟩, F35.kp, g35⟩
  have D_law_pick : Df P w K mg base 2 "_law_pick" ["_law_dice_here", "_law_items"] (spPick K) := ⟨⟨_, ok_pick F36 T D_law_roll, b36⟩, F36.kp, g36⟩
  have D_law_near : Df P w K mg base 2 "_law_near" ["_law_dice_here", "_law_far"] spNear := ⟨⟨_, ok_near F37 D_law_roll, b37⟩, F37.kp, g37⟩
  have D_law_bound : Df P w K mg base 3 "_law_bound" ["_law_dice_here", "_law_far"] spBoundL := ⟨⟨_, ok_boundL F38 D_law_roll D_law_near D_law_pick, b38⟩, F38.kp, g38⟩
  have D_law_pair : Df P w K mg base 4 "_law_pair" ["_law_dice_here", "_law_far"] spPair := ⟨⟨_, ok_pair F39 D_law_roll D_law_bound, b39⟩, F39.kp, g39⟩
  have D_law_residue : Df P w K mg base 2 "_law_residue" ["_law_dice_here", "_law_period_here"] spResidue := ⟨⟨_, ok_residue F40 D_law_roll, b40⟩, F40.kp, g40⟩
  have D_law_span : Df P w K mg base 5 "_law_span" ["_law_dice_here", "_law_period_here", "_law_far"] spSpanL := ⟨⟨_, ok_spanL F41 D_law_residue D_law_pair, b41⟩, F41.kp, g41⟩
  have D_law_spans : Df P w K mg base 6 "_law_spans" ["_law_dice_here", "_law_period_here", "_law_most"] (spSpansL K) := ⟨⟨_, ok_spansL F42 T D_law_roll D_law_span, b42⟩, F42.kp, g42⟩
  have D_law_between : Df P w K mg base 1 "_law_between" ["_law_one", "_law_pair_here"] (spBetw K) := ⟨⟨_, ok_betw F43, b43⟩, F43.kp, g43⟩
  have D_law_is_in : Df P w K mg base 2 "_law_is_in" ["_law_period_here", "_law_spans_here", "_law_time"] (spIsIn K) := ⟨⟨_, ok_isIn F44 T D_law_between, b44⟩, F44.kp, g44⟩
  have D_law_bounds : Df P w K mg base 1 "_law_bounds" ["_law_spans_here"] (spBounds K) := ⟨⟨_, ok_bounds F45, b45⟩, F45.kp, g45⟩
  have D_law_is_common : Df P w K mg base 3 "_law_is_common" ["_law_sets", "_law_time"] (spIsCom K) := ⟨⟨_, ok_isCom F46 D_law_is_in, b46⟩, F46.kp, g46⟩
  have D_law_whole : Df P w K mg base 1 "_law_whole" ["_law_sets"] (spWhole K) := ⟨⟨_, ok_whole F47 T, b47⟩, F47.kp, g47⟩
  have D_law_corners : Df P w K mg base 2 "_law_corners" ["_law_sets", "_law_begun_here"] (spCorn K) := ⟨⟨_, ok_corn F48 T D_law_bounds, b48⟩, F48.kp, g48⟩
  have D_law_many_in : Df P w K mg base 4 "_law_many_in" ["_law_sets", "_law_low", "_law_high"] (spManyI K) := ⟨⟨_, ok_manyI F49 T fZip D_law_whole D_law_corners D_law_is_common, b49⟩, F49.kp, g49⟩
  have D_law_none_ahead : Df P w K mg base 4 "_law_none_ahead" ["_law_sets", "_law_begun_here", "_law_end"] (spNoneA K) := ⟨⟨_, ok_noneA F50 T D_law_whole D_law_corners D_law_is_common, b50⟩, F50.kp, g50⟩
  have D_law_is_kth : Df P w K mg base 5 "_law_is_kth" ["_law_sets", "_law_index", "_law_begun_here", "_law_told"] (spIsKthL K) := ⟨⟨_, ok_isKthL F51 D_law_many_in D_law_is_common, b51⟩, F51.kp, g51⟩
  have D_law_begun : Df P w K mg base 3 "_law_begun" ["_law_dice_here", "_law_sets"] (spBegunL K) := ⟨⟨_, ok_begunL F52 T D_law_pick D_law_roll D_law_near D_law_bounds, b52⟩, F52.kp, g52⟩
  have D_law_right : Df P w K mg base 10 "_law_right" ["_law_dice_here"] (spRightL K) := ⟨⟨_, ok_right F53 T KT Cof FMeet kMeet gMeet Dmeet_all Dkth_meeting D_law_pick D_law_roll D_law_spans D_law_is_common D_law_none_ahead D_law_is_kth D_law_begun, b53⟩, F53.kp, g53⟩
  exact FnG.of (ok_law F54 T KT FT Cevery CeverySN FMeet kMeet gMeet Dkth_meeting D_law_dice D_law_right)
end TM
open PySem PySem.W PySem.Calls PyProof.Rows
theorem PySem.Challenge.cw_everwhen_k72_common_times_of_sets_holds : PySem.Challenge.rw_everwhen_k72_common_times_of_sets.Holds := by
  w_on; o_law
  refine HandSHeadRun.head_any (r := OpenLaw.row PySem.Challenge.rw_everwhen_k72_common_times_of_sets) (q := view (OpenLaw.row PySem.Challenge.rw_everwhen_k72_common_times_of_sets).prog [74]) (H := TM.hk) (ob := TM.obz) (M := 20000) (loose := TM.loose) (d := HandSHeadRun.topDef (OpenLaw.row PySem.Challenge.rw_everwhen_k72_common_times_of_sets).prog 74) (kwd := []) TM.ob_eq
    (by kernel_rfl) (fun s => by kernel_rfl) TM.run (by kernel_rfl) (by kernel_rfl) (by kernel_rfl) (by rfl) (by first | assumption | decide +kernel) (by decide +kernel) ⟨rfl, rfl, rfl, rfl, rfl, by decide +kernel⟩ ?hw ?hc
  case hw => w_witness2
  case hc =>
    refine EW.walkG (l := PySem.Challenge.rw_everwhen_k72_common_times_of_sets) (n := 63) (k := 11) (x := "_law_script") (CX := L2.CX0) rfl (by decide) (by kernel_rfl) ⟨rfl, by decide, by decide⟩ ?F (fun _ _ _ _ z => z)
    intro w mg fa h Y G hmg0
    obtain ⟨K, KX, c, cx⟩ := Y
    have hmg : mg ("law" : PySem.Str) = some (.ref fa) := by
      have e : (HandSHeadRun.topDef (OpenLaw.row PySem.Challenge.rw_everwhen_k72_common_times_of_sets).prog 74).name = ("law" : PySem.Str) := by kernel_rfl
      rw [← e]
      exact hmg0
    obtain ⟨fd, hb, hF⟩ := TM.facts (P := (PySem.Challenge.rw_everwhen_k72_common_times_of_sets).prog) (w := w) KX G hmg c cx
    exact ⟨K, fd, TM.spLaw K, KX, hb, fun H a ns hl _ hS => ⟨a, ns, rfl, hS, hl, fun _ => rfl⟩, hF⟩
end
