import PyProof.Rows.All
import Wide.All
import OpenK.AllK
import Wide.FinOn
import HandS.ForMost
import HandS.ForExc
import HandS.More
import HandS.Defaults
import HandS.Property
import HandS.Codes
import HandS.IsInst
import HandS.HeadHook1
import HandS.HeadHook2
import HandS.HeadHook4
import PySem.Challenge.RW_pulleyworks_k85_whole_rehearsals
import KE.KStateDown
import KE.KExcSuper
import Lean
import HandS.Base
import HandS.Call
import HandS.Ends
import HandS.Words
import HandS.WordsExc
import HandS.Head0
import HandS.Head1
import HandS.Head2
import HandS.HeadEnd
import HandS.TryMany
import HandS.Finally
import HandS.Hot
import HandS.HotCalls
import HandS.HeadWalk
import KE.KWithOwn
import HandS.DictComp
import KE.KStar
import HandS.Slots
import HandS.Star
import HandS.Exc
import PyProof.ExcBaseAll.RuntimeError
import HandS.Small
import PyProof.ListStr
import PyProof.Rows.ListStrD
import HandS.Conv
import PyProof.ExcBaseAll.LookupError
import PyProof.ExcBaseAll.ValueError
import PyProof.ExcBaseAll.OverflowError
import PyProof.Rows.FactsExc_KeyError
import PyProof.EqAt
import PyProof.EqKinds
import PyProof.TupleCall
import KE.KUnpackStar
import PyProof.InstNe
import HandS.List
import HandS.Iter
import HandS.OwnEq
import HandS.DictEq
import HandS.DeepEq
import HandS.ExcOwn
import HandS.Wide
import HandS.Walk
import HandS.TupAny
import HandS.Deep
import HandS.MakeKwOnly
import HandS.Style
import HandS.TryOnly
import OpenK.KOps
/-! ##### P0 -/
set_option Elab.async false
set_option linter.all false
set_option maxRecDepth 100000
set_option maxHeartbeats 2000000
namespace L2
open PySem PySem.Spec PyProof.Rows
/-- the class at C stands alone under object, has its own __eq__ f and no __ne__ -/
def neIn (K : PySem.W.Frag) (C f : Addr) : Bool := match K.lookup C with
  | some ⟨.type "type", _, .cls cd, sl⟩ => (match cd.mro, sl.toList with
    | .ref C' :: bm, [_, _, _, _, some (.builtin n), _] => C' == C && !cd.hasDel && bm == [.type "object"] && PySem.W.nsOkIn K cd.ns && PySem.W.nsIn K cd.ns "__eq__" == some (some (.ref f)) && PySem.W.nsIn K cd.ns "__ne__" == some none
    | _, _ => false)
  | _ => false
end L2
/-! what the module's top leaves: where each def stands, the facts that the walks lean on -/
namespace PW
open PySem PySem.Spec PyProof.Rows L2 He
def top (i : Nat) : Stmt := PySem.Challenge.pw_pulleyworks_k85_whole_rehearsals.main.body.getD i (.Pass ⟨0, 0, 0, 0⟩)
def d_is_integer : He.DefD := ⟨("is_integer", none), "is_integer", "is_integer", defArgs (top 12), defBody (top 12), defScope (top 12), [], []⟩
def d_common_divisor : He.DefD := ⟨("common_divisor", none), "common_divisor", "common_divisor", defArgs (top 13), defBody (top 13), defScope (top 13), [], []⟩
def d_is_fraction : He.DefD := ⟨("is_fraction", none), "is_fraction", "is_fraction", defArgs (top 15), defBody (top 15), defScope (top 15), [], []⟩
def d_is_load : He.DefD := ⟨("is_load", none), "is_load", "is_load", defArgs (top 16), defBody (top 16), defScope (top 16), [], []⟩
def d_is_word : He.DefD := ⟨("is_word", none), "is_word", "is_word", defArgs (top 27), defBody (top 27), defScope (top 27), [], []⟩
def d_is_name : He.DefD := ⟨("is_name", none), "is_name", "is_name", defArgs (top 28), defBody (top 28), defScope (top 28), [], []⟩
def d_are_hooks : He.DefD := ⟨("are_hooks", none), "are_hooks", "are_hooks", defArgs (top 29), defBody (top 29), defScope (top 29), [], []⟩
def d_are_anchors : He.DefD := ⟨("are_anchors", none), "are_anchors", "are_anchors", defArgs (top 30), defBody (top 30), defScope (top 30), [], []⟩
def d_is_path : He.DefD := ⟨("is_path", none), "is_path", "is_path", defArgs (top 31), defBody (top 31), defScope (top 31), [], []⟩
def d_is_rope : He.DefD := ⟨("is_rope", none), "is_rope", "is_rope", defArgs (top 32), defBody (top 32), defScope (top 32), [], []⟩
def d_ordered : He.DefD := ⟨("ordered", none), "ordered", "ordered", defArgs (top 33), defBody (top 33), defScope (top 33), [], []⟩
def d_check_known : He.DefD := ⟨("check_known", none), "check_known", "check_known", defArgs (top 34), defBody (top 34), defScope (top 34), [], []⟩
def d_check_size : He.DefD := ⟨("check_size", none), "check_size", "check_size", defArgs (top 35), defBody (top 35), defScope (top 35), [], []⟩
def d_check_work : He.DefD := ⟨("check_work", none), "check_work", "check_work", defArgs (top 38), defBody (top 38), defScope (top 38), [], []⟩
def d_applied : He.DefD := ⟨("applied", none), "applied", "applied", defArgs (top 41), defBody (top 41), defScope (top 41), [], []⟩
def d_make_entry : He.DefD := ⟨("make_entry", none), "make_entry", "make_entry", defArgs (top 44), defBody (top 44), defScope (top 44), [], []⟩
def d_rehearse : He.DefD := ⟨("rehearse", none), "rehearse", "rehearse", defArgs (top 45), defBody (top 45), defScope (top 45), [], []⟩
def d__law_pool : He.DefD := ⟨("_law_pool", none), "_law_pool", "_law_pool", defArgs (top 47), defBody (top 47), defScope (top 47), [], []⟩
def d__law_draw : He.DefD := ⟨("_law_draw", none), "_law_draw", "_law_draw", defArgs (top 48), defBody (top 48), defScope (top 48), [], []⟩
def d__law_gcd : He.DefD := ⟨("_law_gcd", none), "_law_gcd", "_law_gcd", defArgs (top 49), defBody (top 49), defScope (top 49), [], []⟩
def d__law_made : He.DefD := ⟨("_law_made", none), "_law_made", "_law_made", defArgs (top 50), defBody (top 50), defScope (top 50), [], []⟩
def d__law_add : He.DefD := ⟨("_law_add", none), "_law_add", "_law_add", defArgs (top 51), defBody (top 51), defScope (top 51), [], []⟩
def d__law_mul : He.DefD := ⟨("_law_mul", none), "_law_mul", "_law_mul", defArgs (top 52), defBody (top 52), defScope (top 52), [], []⟩
def d__law_sum : He.DefD := ⟨("_law_sum", none), "_law_sum", "_law_sum", defArgs (top 53), defBody (top 53), defScope (top 53), [], []⟩
def d__law_number : He.DefD := ⟨("_law_number", none), "_law_number", "_law_number", defArgs (top 54), defBody (top 54), defScope (top 54), [], []⟩
def d__law_signed : He.DefD := ⟨("_law_signed", none), "_law_signed", "_law_signed", defArgs (top 55), defBody (top 55), defScope (top 55), [], []⟩
def d__law_path : He.DefD := ⟨("_law_path", none), "_law_path", "_law_path", defArgs (top 56), defBody (top 56), defScope (top 56), [], []⟩
def d__law_coefficient : He.DefD := ⟨("_law_coefficient", none), "_law_coefficient", "_law_coefficient", defArgs (top 57), defBody (top 57), defScope (top 57), [], []⟩
def d__law_carried : He.DefD := ⟨("_law_carried", none), "_law_carried", "_law_carried", defArgs (top 58), defBody (top 58), defScope (top 58), [], []⟩
def d__law_given : He.DefD := ⟨("_law_given", none), "_law_given", "_law_given", defArgs (top 59), defBody (top 59), defScope (top 59), [], []⟩
def d__law_built : He.DefD := ⟨("_law_built", none), "_law_built", "_law_built", defArgs (top 60), defBody (top 60), defScope (top 60), [], []⟩
def d__law_add_rope : He.DefD := ⟨("_law_add_rope", none), "_law_add_rope", "_law_add_rope", defArgs (top 61), defBody (top 61), defScope (top 61), [], []⟩
def d__law_entry : He.DefD := ⟨("_law_entry", none), "_law_entry", "_law_entry", defArgs (top 62), defBody (top 62), defScope (top 62), [], []⟩
def d__law_path_holds : He.DefD := ⟨("_law_path_holds", none), "_law_path_holds", "_law_path_holds", defArgs (top 63), defBody (top 63), defScope (top 63), [], []⟩
def d__law_due : He.DefD := ⟨("_law_due", none), "_law_due", "_law_due", defArgs (top 64), defBody (top 64), defScope (top 64), [], []⟩
def d__law_made_entry : He.DefD := ⟨("_law_made_entry", none), "_law_made_entry", "_law_made_entry", defArgs (top 65), defBody (top 65), defScope (top 65), [], []⟩
def d__law_undone : He.DefD := ⟨("_law_undone", none), "_law_undone", "_law_undone", defArgs (top 66), defBody (top 66), defScope (top 66), [], []⟩
def d__law_after : He.DefD := ⟨("_law_after", none), "_law_after", "_law_after", defArgs (top 67), defBody (top 67), defScope (top 67), [], []⟩
def d__law_called : He.DefD := ⟨("_law_called", none), "_law_called", "_law_called", defArgs (top 68), defBody (top 68), defScope (top 68), [], []⟩
def d__law_rehearsed : He.DefD := ⟨("_law_rehearsed", none), "_law_rehearsed", "_law_rehearsed", defArgs (top 69), defBody (top 69), defScope (top 69), [], []⟩
def d__law_short : He.DefD := ⟨("_law_short", none), "_law_short", "_law_short", defArgs (top 70), defBody (top 70), defScope (top 70), [], []⟩
def d__law_applied : He.DefD := ⟨("_law_applied", none), "_law_applied", "_law_applied", defArgs (top 71), defBody (top 71), defScope (top 71), [], []⟩
def d__law_spoil : He.DefD := ⟨("_law_spoil", none), "_law_spoil", "_law_spoil", defArgs (top 72), defBody (top 72), defScope (top 72), [], []⟩
def d__law_refused : He.DefD := ⟨("_law_refused", none), "_law_refused", "_law_refused", defArgs (top 73), defBody (top 73), defScope (top 73), [], []⟩
def d_law : He.DefD := ⟨("law", none), "law", "law", defArgs (top 74), defBody (top 74), defScope (top 74), [], []⟩
def d_Work___init__ : He.DefD := ⟨("Work", some "__init__"), "__init__", "Work.__init__", defArgs (inClass (top 37) 0), defBody (inClass (top 37) 0), defScope (inClass (top 37) 0), [], [("anchors", .non)]⟩
def d_Work_points : He.DefD := ⟨("Work", some "points"), "points", "Work.points", defArgs (inClass (top 37) 4), defBody (inClass (top 37) 4), defScope (inClass (top 37) 4), [], []⟩
def d_Work_with_load : He.DefD := ⟨("Work", some "with_load"), "with_load", "Work.with_load", defArgs (inClass (top 37) 11), defBody (inClass (top 37) 11), defScope (inClass (top 37) 11), [], []⟩
def d_Work_with_rope : He.DefD := ⟨("Work", some "with_rope"), "with_rope", "Work.with_rope", defArgs (inClass (top 37) 12), defBody (inClass (top 37) 12), defScope (inClass (top 37) 12), [], []⟩
def d_Work_without_rope : He.DefD := ⟨("Work", some "without_rope"), "without_rope", "Work.without_rope", defArgs (inClass (top 37) 13), defBody (inClass (top 37) 13), defScope (inClass (top 37) 13), [], []⟩
def d_Work___eq__ : He.DefD := ⟨("Work", some "__eq__"), "__eq__", "Work.__eq__", defArgs (inClass (top 37) 18), defBody (inClass (top 37) 18), defScope (inClass (top 37) 18), [], []⟩
def d_Trial___init__ : He.DefD := ⟨("Trial", some "__init__"), "__init__", "Trial.__init__", defArgs (inClass (top 42) 0), defBody (inClass (top 42) 0), defScope (inClass (top 42) 0), [], []⟩
def d_Trial___enter__ : He.DefD := ⟨("Trial", some "__enter__"), "__enter__", "Trial.__enter__", defArgs (inClass (top 42) 1), defBody (inClass (top 42) 1), defScope (inClass (top 42) 1), [], []⟩
def d_Trial___exit__ : He.DefD := ⟨("Trial", some "__exit__"), "__exit__", "Trial.__exit__", defArgs (inClass (top 42) 2), defBody (inClass (top 42) 2), defScope (inClass (top 42) 2), [], []⟩
def d_Workshop___init__ : He.DefD := ⟨("Workshop", some "__init__"), "__init__", "Workshop.__init__", defArgs (inClass (top 43) 0), defBody (inClass (top 43) 0), defScope (inClass (top 43) 0), [], []⟩
def d_Workshop_check : He.DefD := ⟨("Workshop", some "check"), "check", "Workshop.check", defArgs (inClass (top 43) 3), defBody (inClass (top 43) 3), defScope (inClass (top 43) 3), [], []⟩
def d_Workshop_record : He.DefD := ⟨("Workshop", some "record"), "record", "Workshop.record", defArgs (inClass (top 43) 4), defBody (inClass (top 43) 4), defScope (inClass (top 43) 4), [], []⟩
def d_Workshop_set_load : He.DefD := ⟨("Workshop", some "set_load"), "set_load", "Workshop.set_load", defArgs (inClass (top 43) 5), defBody (inClass (top 43) 5), defScope (inClass (top 43) 5), [], []⟩
def d_Workshop_set_rope : He.DefD := ⟨("Workshop", some "set_rope"), "set_rope", "Workshop.set_rope", defArgs (inClass (top 43) 6), defBody (inClass (top 43) 6), defScope (inClass (top 43) 6), [], []⟩
def d_Workshop_drop_rope : He.DefD := ⟨("Workshop", some "drop_rope"), "drop_rope", "Workshop.drop_rope", defArgs (inClass (top 43) 7), defBody (inClass (top 43) 7), defScope (inClass (top 43) 7), [], []⟩
def d_Workshop_undo : He.DefD := ⟨("Workshop", some "undo"), "undo", "Workshop.undo", defArgs (inClass (top 43) 8), defBody (inClass (top 43) 8), defScope (inClass (top 43) 8), [], []⟩
def d_Workshop_work : He.DefD := ⟨("Workshop", some "work"), "work", "Workshop.work", defArgs (inClass (top 43) 9), defBody (inClass (top 43) 9), defScope (inClass (top 43) 9), [], []⟩
def d_Workshop_trial : He.DefD := ⟨("Workshop", some "trial"), "trial", "Workshop.trial", defArgs (inClass (top 43) 10), defBody (inClass (top 43) 10), defScope (inClass (top 43) 10), [], []⟩
def d_Workshop_copy : He.DefD := ⟨("Workshop", some "copy"), "copy", "Workshop.copy", defArgs (inClass (top 43) 11), defBody (inClass (top 43) 11), defScope (inClass (top 43) 11), [], []⟩
def d_Workshop___eq__ : He.DefD := ⟨("Workshop", some "__eq__"), "__eq__", "Workshop.__eq__", defArgs (inClass (top 43) 12), defBody (inClass (top 43) 12), defScope (inClass (top 43) 12), [], []⟩
def d_Workshop___len__ : He.DefD := ⟨("Workshop", some "__len__"), "__len__", "Workshop.__len__", defArgs (inClass (top 43) 13), defBody (inClass (top 43) 13), defScope (inClass (top 43) 13), [], []⟩
def cDfs : List He.DefD := [d_is_integer, d_common_divisor, d_is_fraction, d_is_load, d_is_word, d_is_name, d_are_hooks, d_are_anchors, d_is_path, d_is_rope, d_ordered, d_check_known, d_check_size, d_check_work, d_applied, d_make_entry, d_rehearse, d__law_pool, d__law_draw, d__law_gcd, d__law_made, d__law_add, d__law_mul, d__law_sum, d__law_number, d__law_signed, d__law_path, d__law_coefficient, d__law_carried, d__law_given, d__law_built, d__law_add_rope, d__law_entry, d__law_path_holds, d__law_due, d__law_made_entry, d__law_undone, d__law_after, d__law_called, d__law_rehearsed, d__law_short, d__law_applied, d__law_spoil, d__law_refused, d_law, d_Work___init__, d_Work_points, d_Work_with_load, d_Work_with_rope, d_Work_without_rope, d_Work___eq__, d_Trial___init__, d_Trial___enter__, d_Trial___exit__, d_Workshop___init__, d_Workshop_check, d_Workshop_record, d_Workshop_set_load, d_Workshop_set_rope, d_Workshop_drop_rope, d_Workshop_undo, d_Workshop_work, d_Workshop_trial, d_Workshop_copy, d_Workshop___eq__, d_Workshop___len__]
/-- a property's getter -/
def pAd (K : PySem.W.Frag) (p : Str × Str) : Addr := match PySem.W.recIn K (ma K (ga K p.1) p.2) "property" with
  | some (.ref g :: _) => g
  | _ => 0
def cGlobs : List Str := [("is_integer" : Str), ("common_divisor" : Str), ("is_fraction" : Str), ("is_load" : Str), ("is_word" : Str), ("is_name" : Str), ("are_hooks" : Str), ("are_anchors" : Str), ("is_path" : Str), ("is_rope" : Str), ("ordered" : Str), ("check_known" : Str), ("check_size" : Str), ("check_work" : Str), ("applied" : Str), ("make_entry" : Str), ("rehearse" : Str), ("_law_pool" : Str), ("_law_draw" : Str), ("_law_gcd" : Str), ("_law_made" : Str), ("_law_add" : Str), ("_law_mul" : Str), ("_law_sum" : Str), ("_law_number" : Str), ("_law_signed" : Str), ("_law_path" : Str), ("_law_coefficient" : Str), ("_law_carried" : Str), ("_law_given" : Str), ("_law_built" : Str), ("_law_add_rope" : Str), ("_law_entry" : Str), ("_law_path_holds" : Str), ("_law_due" : Str), ("_law_made_entry" : Str), ("_law_undone" : Str), ("_law_after" : Str), ("_law_called" : Str), ("_law_rehearsed" : Str), ("_law_short" : Str), ("_law_applied" : Str), ("_law_spoil" : Str), ("_law_refused" : Str), ("law" : Str), ("Work" : Str), ("Trial" : Str), ("Workshop" : Str), ("InvalidNumber" : Str), ("InvalidWork" : Str), ("InvalidRope" : Str), ("InvalidName" : Str), ("LimitExceeded" : Str), ("UnknownName" : Str), ("NothingToUndo" : Str), ("DIRECTIONS" : Str)]
def cFrees : List Str := [("isinstance" : Str), ("len" : Str), ("abs" : Str), ("int" : Str), ("bool" : Str), ("str" : Str), ("tuple" : Str), ("list" : Str), ("dict" : Str), ("sorted" : Str), ("sum" : Str), ("min" : Str), ("all" : Str), ("range" : Str), ("enumerate" : Str), ("super" : Str)]
def cInts : List (Str × Int) := [("MAX_HOOKS", 8), ("MAX_ANCHORS", 8), ("MAX_ROPES", 10), ("MAX_POINTS", 12), ("MAX_LETTERS", 8), ("MAX_WORKS", 10)]
def cStrs : List (Str × Str) := [("SMALL", "abcdefghijklmnopqrstuvwxyz"), ("GREAT", "ABCDEFGHIJKLMNOPQRSTUVWXYZ")]
def cClss : List Str := ["Work", "Trial", "Workshop"]
def cNoats : List (Str × Str) := [("Work", "own_loads"), ("Work", "own_heights"), ("Work", "own_ropes"), ("Trial", "shop"), ("Trial", "kept_works"), ("Trial", "kept_entries"), ("Workshop", "first_works"), ("Workshop", "own_works"), ("Workshop", "own_entries")]
def cMths : List (Str × Str) := [("Work", "points"), ("Work", "with_load"), ("Work", "with_rope"), ("Work", "without_rope"), ("Workshop", "check"), ("Workshop", "record"), ("Workshop", "set_load"), ("Workshop", "set_rope"), ("Workshop", "drop_rope"), ("Workshop", "undo"), ("Workshop", "work"), ("Workshop", "trial"), ("Workshop", "copy")]
def cMkrs : List Str := ["Work", "Trial", "Workshop"]
def cFas : List Fa := cGlobs.map Fa.glo ++ (cFrees.map Fa.free ++ (cInts.map (fun q => Fa.int q.1 q.2) ++ (cStrs.map (fun q => Fa.str q.1 q.2) ++ (cClss.map Fa.cls ++ (cNoats.map (fun q => Fa.noat q.1 q.2) ++ (cMths.map (fun q => Fa.meth q.1 q.2) ++ cMkrs.map Fa.mkr))))))
def bmRun : List Value := [.type "RuntimeError", .type "Exception", .type "BaseException", .type "object"]
def cExcs : List Str := [("InvalidNumber" : Str), ("InvalidRope" : Str), ("InvalidName" : Str), ("LimitExceeded" : Str), ("UnknownName" : Str), ("NothingToUndo" : Str)]
end PW

/-! ##### HA -/
set_option Elab.async false
set_option linter.all false
set_option maxRecDepth 100000
set_option maxHeartbeats 0
/-! what the head leaves, observed -/
namespace PW
open PySem PySem.Spec PyProof.Rows L2 He
def bmV0 : List Value := [.type "ValueError", .type "Exception", .type "BaseException", .type "object"]
def bmO0 : List Value := [.type "OverflowError", .type "ArithmeticError", .type "Exception", .type "BaseException", .type "object"]
def bmK0 : List Value := [.type "KeyError", .type "LookupError", .type "Exception", .type "BaseException", .type "object"]
abbrev theP : Program := (PySem.Challenge.rw_pulleyworks_k85_whole_rehearsals).prog
def fnA (K : PySem.W.Frag) (a : Addr) : He.FnW := match K.lookup a with
  | some ⟨_, _, .func fd, _⟩ => some (fd.name, fd.qualname, fd.params, fd.body, fd.scope, fd.globals, fd.closure, fd.builtins)
  | _ => none
abbrev FnI : Type := Option (Str × Str × Arguments × FuncBody × Scope × Addr × Addr)
def fnI (K : PySem.W.Frag) (a : Addr) : FnI := match K.lookup a with
  | some ⟨_, _, .func fd, _⟩ => some (fd.name, fd.qualname, fd.params, fd.body, fd.scope, fd.globals, fd.builtins)
  | _ => none
def isNone : Value → Bool
  | .none => true
  | _ => false
/-- a getter: no defaults, its code laid -/
def getB (K : PySem.W.Frag) (a : Addr) (q : Str) : Bool := PySem.W.keepIn K (.ref a) && (match K.lookup a with
  | some ⟨_, _, .func fd, _⟩ => PySem.W.codeIn K fd.code q && isNone fd.defaults
  | _ => false)
/-- an own exception's __init__: no defaults, one cell with its class, its code laid in the file -/
def strB (fl : Str) (v : Option Value) : Bool := match v with
  | some (.str file _) => fl == file
  | _ => false
def fileB (fl : Str) (o : Option Obj) : Bool := match o with
  | some ⟨_, _, .fields vs, _⟩ => strB fl vs[2]?
  | _ => false
def codeB (fl : Str) (K : PySem.W.Frag) (cd : Value) (q : Str) : Bool := match cd with
  | .ref cda => PySem.W.codeIn K (.ref cda) q && fileB fl (K.lookup cda)
  | _ => false
def cellO (o : Option Obj) (C : Addr) : Bool := match o with
  | some ⟨_, _, .cell (some (.ref C')), _⟩ => decide (C' = C)
  | _ => false
def cellB (K : PySem.W.Frag) (cl : List (Str × Addr)) (C : Addr) : Bool := match cl with
  | [(n, cc)] => decide (n = ("__class__" : Str)) && cellO (K.lookup cc) C
  | _ => false
def iniB (fl : Str) (K : PySem.W.Frag) (f C : Addr) (q : Str) : Bool := match K.lookup f with
  | some ⟨_, _, .func fd, _⟩ => isNone fd.defaults && (isNone fd.kwdefaults && (cellB K fd.closure C && codeB fl K fd.code q))
  | _ => false
def oB (a b : Option Bool) : Bool := decide (a = b)
def oV (a b : Option Value) : Bool := decide (a = b)
def icB (K : PySem.W.Frag) (C : Addr) : Bool := eqO (PySem.W.findIn K (.ref C) "__class__") (some (some (.builtin "object.__class__"))) && (oB (PySem.W.mroIn K C (.type "object")) (some true) && oB (PySem.W.kitOne K (.ref C) (.ref C)) (some true))
def bmB (K : PySem.W.Frag) (g : Addr) : Bool := eqO (PySem.W.specialIn K (.ref g) "__get__") (some (some (.builtin "function.__get__"))) && (oB (PySem.W.takesIn K (.ref g)) (some false) && PySem.W.fnIn K g)
def prB (K : PySem.W.Frag) (C : Addr) (f : Str) (p : Addr) : Bool := eqO (PySem.W.findIn K (.ref C) f) (some (some (.ref p))) && (eqO (PySem.W.specialIn K (.ref p) "__get__") (some (some (.builtin "property.__get__"))) && (oB (PySem.W.takesIn K (.ref p)) (some true) && (match PySem.W.recIn K p "property" with
  | some (.ref _ :: _) => true
  | _ => false)))
def xtB (fl : Str) (K : PySem.W.Frag) (x fld : Str) (B newId initId : String) (bm : List Value) (q : Str) : Bool :=
  PySem.W.excInitIn K (ga K x) bm newId && (PySem.W.hasDictIn K (ga K x) && (eqO (PySem.W.findIn K (.ref (ga K x)) "__init__") (some (some (.ref (ma K (ga K x) "__init__")))) && (oV (PySem.W.typeIn K (.ref (ma K (ga K x) "__init__"))) (some (.type "function"))
    && (eqO (PySem.W.findIn K (.ref (ga K x)) "__setattr__") (some (some (.builtin "object.__setattr__"))) && (eqO (PySem.W.findIn K (.ref (ga K x)) "__getattribute__") (some (some (.builtin "BaseException.__getattribute__"))) && (eqO (PySem.W.findIn K (.ref (ga K x)) "__getattr__") (some none)
    && (eqO (PySem.W.findIn K (.ref (ga K x)) fld) (some none) && (eqO (PySem.W.ks_superIn K (ga K x) (ga K x) "__init__") (some (some (.builtin initId))) && (oB (PySem.W.subIn K (.ref (ga K x)) (.type B)) (some true) && (oB (PySem.W.subIn K (.ref (ga K x)) (.type "BaseException")) (some true)
    && (oV (PySem.W.typeIn K (.ref (ga K x))) (some (.type "type")) && (PySem.W.keepIn K (.ref (ga K x)) && (oB (PySem.W.mroIn K (ga K x) (.ref (ga K x))) (some true) && iniB fl K (ma K (ga K x) "__init__") (ga K x) q)))))))))))))
def xoB (K : PySem.W.Frag) : Bool := PySem.W.excIn K (ga K "NothingToUndo") bmRun "RuntimeError.__new__" && (PySem.W.keepIn K (.ref (ga K "NothingToUndo")) && (oB (PySem.W.subIn K (.ref (ga K "NothingToUndo")) (.type "BaseException")) (some true) && oV (PySem.W.typeIn K (.ref (ga K "NothingToUndo"))) (some (.type "type"))))
def faY : List Fa := [.meth "Trial" "__enter__", .meth "Trial" "__exit__", .meth "Work" "__eq__", .meth "Workshop" "__eq__", .meth "Workshop" "__len__", .free "max"] ++ cFas

def exL (K : PySem.W.Frag) : List Bool := [cGlobs.all fun x => decide (x = "DIRECTIONS") || PySem.W.keepIn K (.ref (ga K x)), tupB K "DIRECTIONS" [.str "up", .str "down"], cClss.all fun x => icB K (ga K x), eqO (PySem.W.specialIn K (.builtin "object.__class__") "__get__") (some (some (.builtin "getset_descriptor.__get__"))), oB (PySem.W.takesIn K (.builtin "object.__class__")) (some true), oB (PySem.W.kitOne K (.type "NoneType") (.ref (ga K "Workshop"))) (some false), oB (PySem.W.kitOne K (.type "int") (.ref (ga K "Workshop"))) (some false), oB (PySem.W.kitOne K (.type "str") (.ref (ga K "Workshop"))) (some false), cMths.all fun q => bmB K (ma K (ga K q.1) q.2), prB K (ga K "Workshop") "names" (ma K (ga K "Workshop") "names"), prB K (ga K "Workshop") "entries" (ma K (ga K "Workshop") "entries"), getB K (pAd K ("Workshop", "names")) "Workshop.names", getB K (pAd K ("Workshop", "entries")) "Workshop.entries", eqO (PySem.W.nsIn K cStatics "thirdparty.any") (some none), xtB theP.main.file K "InvalidNumber" "value" "ValueError" "ValueError.__new__" "ValueError.__init__" bmV0 "InvalidNumber.__init__", xtB theP.main.file K "InvalidRope" "name" "ValueError" "ValueError.__new__" "ValueError.__init__" bmV0 "InvalidRope.__init__", xtB theP.main.file K "InvalidName" "value" "ValueError" "ValueError.__new__" "ValueError.__init__" bmV0 "InvalidName.__init__", xtB theP.main.file K "LimitExceeded" "count" "OverflowError" "OverflowError.__new__" "OverflowError.__init__" bmO0 "LimitExceeded.__init__", xtB theP.main.file K "UnknownName" "name" "KeyError" "LookupError.__new__" "KeyError.__init__" bmK0 "UnknownName.__init__", xoB K, cExcs.all fun x => cExcs.all fun y => oB (PySem.W.exmOne K (.ref (ga K x)) (.ref (ga K y))) (some (decide (x = y))), neIn K (ga K "Work") (ma K (ga K "Work") "__eq__"), neIn K (ga K "Workshop") (ma K (ga K "Workshop") "__eq__")]
def exY (K : PySem.W.Frag) : Bool := (exL K).all id
def gvY : List He.FnW := [some (("names" : Str), ("Workshop.names" : Str), defArgs (inClass (top 43) 1), .stmts (defBody (inClass (top 43) 1)), defScope (inClass (top 43) 1), mainGlobals, [], builtinsNs), some (("entries" : Str), ("Workshop.entries" : Str), defArgs (inClass (top 43) 2), .stmts (defBody (inClass (top 43) 2)), defScope (inClass (top 43) 2), mainGlobals, [], builtinsNs)]
def ivY : List FnI := [some (("__init__" : Str), ("InvalidNumber.__init__" : Str), defArgs (inClass (top 3) 0), .stmts (defBody (inClass (top 3) 0)), defScope (inClass (top 3) 0), mainGlobals, builtinsNs), some (("__init__" : Str), ("InvalidRope.__init__" : Str), defArgs (inClass (top 5) 0), .stmts (defBody (inClass (top 5) 0)), defScope (inClass (top 5) 0), mainGlobals, builtinsNs), some (("__init__" : Str), ("InvalidName.__init__" : Str), defArgs (inClass (top 6) 0), .stmts (defBody (inClass (top 6) 0)), defScope (inClass (top 6) 0), mainGlobals, builtinsNs), some (("__init__" : Str), ("LimitExceeded.__init__" : Str), defArgs (inClass (top 8) 0), .stmts (defBody (inClass (top 8) 0)), defScope (inClass (top 8) 0), mainGlobals, builtinsNs), some (("__init__" : Str), ("UnknownName.__init__" : Str), defArgs (inClass (top 9) 0), .stmts (defBody (inClass (top 9) 0)), defScope (inClass (top 9) 0), mainGlobals, builtinsNs)]
abbrev AlY : Type := Bool × List He.FnW × List He.FnW × List FnI
def obsK (K : PySem.W.Frag) : AlY := (((faY.all fun f => f.ok K) && cDfs.all fun d => d.ok K) && exY K, cDfs.map fun d => fnW K d.at_, [fnA K (pAd K ("Workshop", "names")), fnA K (pAd K ("Workshop", "entries"))], [fnI K (ma K (ga K "InvalidNumber") "__init__"), fnI K (ma K (ga K "InvalidRope") "__init__"), fnI K (ma K (ga K "InvalidName") "__init__"), fnI K (ma K (ga K "LimitExceeded") "__init__"), fnI K (ma K (ga K "UnknownName") "__init__")])
def valY : AlY := (true, cDfs.map DefD.val, gvY, ivY)
def SaysY (K : PySem.W.Frag) : Prop := obsK K = valY
/-- what an object names, as far as the facts look -/
def rfY (g : Addr → Option Obj) (a : Addr) : List Addr := match g a with
  | some ⟨_, _, .func fd, _⟩ => refV fd.code ++ (refV fd.kwdefaults ++ fd.closure.map (·.2))
  | some ⟨_, _, .cls cd, _⟩ => [cd.ns]
  | some ⟨_, _, .dict es _, _⟩ => es.toList.flatMap fun e => refV e.val
  | some ⟨.type "property", _, .fields vs, _⟩ => vs.toList.flatMap refV
  | _ => []
def nextY (g : Addr → Option Obj) (as : List Addr) : List Addr := as.flatMap (rfY g)
def asY (g : Addr → Option Obj) : List Addr :=
  let l1 := rfY g mainGlobals
  let l2 := nextY g l1
  let l3 := nextY g l2
  let l4 := nextY g l3
  let l5 := nextY g l4
  mainGlobals :: cStatics :: (l1 ++ (l2 ++ (l3 ++ (l4 ++ l5))))
def obsGY (g : Addr → Option Obj) : AlY := obsK (frG g (asY g))
def hookY : PySem.W.Hook where
  α := AlY
  obs := fun s => obsGY s.heap.get?
  val := fun _ => valY
  says := fun _ h => ∃ K : PySem.W.Frag, K.In h ∧ SaysY K
  of := fun _ _ e => ⟨_, frG_in, e⟩
  keeps := fun _ _ _ ⟨K, hK, c⟩ k => ⟨K, PySem.W.Frag.In.keeps hK k, c⟩
theorem obsGY_eq {g : Addr → Option Obj} {s : Shared} (h : ∀ a, g a = s.heap.get? a) : obsGY g = hookY.obs s := by
  have e : g = s.heap.get? := funext h
  rw [e] <;> rfl
end PW

/-! ##### HD3 -/
set_option Elab.async false
set_option linter.all false
set_option maxRecDepth 100000
set_option maxHeartbeats 0
/-! the head's run -/
namespace PW
open PySem PySem.Spec PyProof.Rows L2 He
abbrev theR : PySem.W.OpenRow := PySem.W.OpenLaw.row PySem.Challenge.rw_pulleyworks_k85_whole_rehearsals
def obY (s : PySem.W.SharedT) : AlY := obsGY (HandSHeadRun.getT s)
theorem obY_eq (s : PySem.W.SharedT) : obY s = hookY.obs s.abs := obsGY_eq (HandSHeadRun.getT_eq s)
def loose1 : List PySem.Str := [("_wall" : PySem.Str), ("WorkError" : PySem.Str), ("InvalidNumber" : PySem.Str), ("InvalidWork" : PySem.Str), ("InvalidRope" : PySem.Str), ("InvalidName" : PySem.Str), ("NameClash" : PySem.Str), ("LimitExceeded" : PySem.Str), ("UnknownName" : PySem.Str), ("NothingToUndo" : PySem.Str), ("is_integer" : PySem.Str), ("common_divisor" : PySem.Str), ("reduced" : PySem.Str), ("is_fraction" : PySem.Str), ("is_load" : PySem.Str), ("multiplied" : PySem.Str), ("MAX_HOOKS" : PySem.Str), ("MAX_ANCHORS" : PySem.Str), ("MAX_ROPES" : PySem.Str), ("MAX_POINTS" : PySem.Str), ("MAX_LETTERS" : PySem.Str), ("SMALL" : PySem.Str), ("GREAT" : PySem.Str), ("DIRECTIONS" : PySem.Str), ("is_word" : PySem.Str), ("is_name" : PySem.Str), ("are_hooks" : PySem.Str), ("are_anchors" : PySem.Str), ("is_path" : PySem.Str), ("is_rope" : PySem.Str), ("ordered" : PySem.Str), ("check_known" : PySem.Str), ("check_size" : PySem.Str), ("check_apart" : PySem.Str)]
def loose2 : List PySem.Str := [("Work" : PySem.Str), ("check_work" : PySem.Str), ("MAX_WORKS" : PySem.Str), ("applied" : PySem.Str), ("Trial" : PySem.Str), ("Workshop" : PySem.Str), ("make_entry" : PySem.Str), ("rehearse" : PySem.Str), ("_law_pool" : PySem.Str), ("_law_draw" : PySem.Str), ("_law_gcd" : PySem.Str), ("_law_made" : PySem.Str), ("_law_add" : PySem.Str), ("_law_mul" : PySem.Str), ("_law_sum" : PySem.Str), ("_law_number" : PySem.Str), ("_law_signed" : PySem.Str), ("_law_path" : PySem.Str), ("_law_coefficient" : PySem.Str), ("_law_carried" : PySem.Str), ("_law_given" : PySem.Str), ("_law_built" : PySem.Str), ("_law_add_rope" : PySem.Str), ("_law_entry" : PySem.Str), ("_law_path_holds" : PySem.Str), ("_law_due" : PySem.Str), ("_law_made_entry" : PySem.Str), ("_law_undone" : PySem.Str), ("_law_after" : PySem.Str), ("_law_called" : PySem.Str), ("_law_rehearsed" : PySem.Str), ("_law_short" : PySem.Str), ("_law_applied" : PySem.Str), ("_law_spoil" : PySem.Str), ("_law_refused" : PySem.Str)]
def loose : List PySem.Str := loose1 ++ loose2
theorem runY (w : World) : HandSHeadRun.RunEq theR (PySem.W.view theR.prog [74]) hookY obY 6000 loose w := by
  intro os
  kernel_rfl
end PW

/-! ##### HB -/
set_option Elab.async false
set_option linter.all false
set_option maxRecDepth 100000
set_option maxHeartbeats 0
/-! from the walk to the statement -/
namespace PWEnd
open PySem PySem.W PySem.Calls PyProof.Rows
theorem holds_of (call : WalkO (view (OpenLaw.row PySem.Challenge.rw_pulleyworks_k85_whole_rehearsals).prog [74]) PW.loose (XL (view (OpenLaw.row PySem.Challenge.rw_pulleyworks_k85_whole_rehearsals).prog [74]) []) PW.hookY.says (OpenLaw.row PySem.Challenge.rw_pulleyworks_k85_whole_rehearsals).toRowW (HandSHeadRun.topDef (OpenLaw.row PySem.Challenge.rw_pulleyworks_k85_whole_rehearsals).prog 74) [] fun f vs => PySem.call f vs) : PySem.Challenge.rw_pulleyworks_k85_whole_rehearsals.Holds := by
  w_on; o_law
  refine HandSHeadRun.head_any (r := OpenLaw.row PySem.Challenge.rw_pulleyworks_k85_whole_rehearsals) (q := view (OpenLaw.row PySem.Challenge.rw_pulleyworks_k85_whole_rehearsals).prog [74]) (H := PW.hookY) (ob := PW.obY) (M := 6000) (loose := PW.loose) (d := HandSHeadRun.topDef (OpenLaw.row PySem.Challenge.rw_pulleyworks_k85_whole_rehearsals).prog 74) (kwd := []) PW.obY_eq
    (by kernel_rfl) (fun s => by kernel_rfl) PW.runY (by kernel_rfl) (by kernel_rfl) (by kernel_rfl) (by rfl) (by first | assumption | decide +kernel) (by decide +kernel) ⟨rfl, rfl, rfl, rfl, rfl, by decide +kernel⟩ ?hw call
  case hw => w_witness2
theorem law_name : (HandSHeadRun.topDef (OpenLaw.row PySem.Challenge.rw_pulleyworks_k85_whole_rehearsals).prog 74).name = ("law" : PySem.Str) := by kernel_rfl
theorem law_dfl : (HandSHeadRun.topDef (OpenLaw.row PySem.Challenge.rw_pulleyworks_k85_whole_rehearsals).prog 74).params.defaults = [] := by kernel_rfl
end PWEnd

/-! ##### XA -/
set_option Elab.async false
set_option linter.all false
set_option maxRecDepth 100000
set_option maxHeartbeats 4000000
/-! exceptions of the package: own classes whose __init__ says super().__init__(text); self.f = f -/
namespace PWX
open PySem PySem.W PySem.Calls PyProof.Rows PySem.HandSPX

/-! ### the text of such an __init__ -/
def xA (fld : Str) (p1 p2 : Pos) : Arguments := { posonlyargs := [], args := [{ arg := "self", annotation := none, pos := p1 }, { arg := fld, annotation := none, pos := p2 }], vararg := none, kwonlyargs := [], kw_defaults := [], kwarg := none, defaults := [] }
def xB (fld msg : Str) (j : Nat) (q1 q2 q3 q4 q5 q6 r1 r2 r3 r4 : Pos) : List Stmt :=
  [.Expr (.Call (.Attribute (.Call (.Name "super" q1) [] [] q2) "__init__" q3) [.Constant (.str msg) j q4] [] q5) q6,
   .Assign [.Attribute (.Name "self" r1) fld r2] (.Name fld r3) r4]
def xS (fld : Str) : Scope := { kind := .function, names := [(PySem.Str.ofString "self", .local), (fld, .local), (PySem.Str.ofString "__class__", .free), (PySem.Str.ofString "super", .globalImplicit)], isGenerator := false, isCoroutine := false, more := [] }

/-- the built-in exception class below: B the class, Bn the one whose __new__ makes it -/
structure XBase (B Bn newId initId : String) (bmB : List Value) : Prop where
  nf : ∃ nI nbm, ExcBaseFacts Bn newId nI nbm
  hasB : bmB.contains (.type Bn) = true
  noAttr : bmB.contains (.type "AttributeError") = false
  noName : bmB.contains (.type "NameError") = false
  iKind : builtinKind initId = some .slot
  iRow : Manifest.signature? initId = some ⟨.positional, "*", B, .self, [⟨"args", .varPos, false⟩]⟩
  iStar : (B != "*") = true
  iSlot : Slot B "__init__" initId
  iEntry : entryFor table initId = some Builtin.«BaseException.__init__»
theorem XBase.of {B newId initId : String} {bmB : List Value} (F : ExcBaseFacts B newId initId bmB) : XBase B B newId initId bmB := ⟨⟨_, _, F⟩, F.hasB, F.noAttr, F.noName, F.initKind, F.initRow, F.noStar, F.init, F.initEntry⟩

section
variable {M : Model} {A : Around} {E : Value → Shared → Prop} {h : Heap} {g : Array GenState} {d : Drawn} {t : Nat} {os : OsState}
variable {nm q : Str} {C N : Addr} {bs bm bmB : List Value} {hdct : Bool} {sn : List Str} {sub : List Value} {ab : Bool} {col : Option Bool} {dd : Option Addr} {k0 k1 k2 k3 k5 : Option Value} {B Bn newId initId : String}
theorem xb_check_new (F : XBase B Bn newId initId bmB) (hT : ∀ X : String, bm.contains (.type X) = bmB.contains (.type X)) {rest : List Value} {Q : Unit → Shared → Prop}
    (hC : h.get? C = some (excClassObj nm q C N bs bm hdct sn sub ab col dd k0 k1 k2 k3 k5 newId)) (hq : Q () ⟨h, g, d, t, os⟩) : wpAny M A (checkBuiltinCall newId ⟨.ref C :: rest, []⟩) Q E ⟨h, g, d, t, os⟩ := by
  obtain ⟨nI, nbm, FN⟩ := F.nf
  have hcont : (Value.ref C :: bm).contains (.type Bn) = true := by rw [List.contains_cons, hT, F.hasB, Bool.or_true]
  have hstar := FN.noStar
  simp only [checkBuiltinCall, FN.newKind, FN.newSplit, FN.newRow]
  repeat (first | refine wpAny_loadPart_at hC ?_ | (refine wpAny_isSubtype_exc hC ?_; rw [hcont]) | refine wpAny_staticBase_exc hC ?_ | refine wpAny_madeBy_exc hC ?_ | simp only [bne_self_eq_false, Bool.false_eq_true, if_false] | wp_step)
  exact hq
theorem xb_check_bound (F : XBase B Bn newId initId bmB) {e : Addr} {oe : Obj} {rest : List Value} {Q : Unit → Shared → Prop}
    (hC : h.get? C = some (excClassObj nm q C N bs bm hdct sn sub ab col dd k0 k1 k2 k3 k5 newId)) (he : h.get? e = some oe) (hcls : oe.cls = .ref C) (hq : Q () ⟨h, g, d, t, os⟩) : wpAny M A (checkBoundCall initId ⟨.ref e :: rest, []⟩) Q E ⟨h, g, d, t, os⟩ := by
  have hshort := F.iStar
  simp only [checkBoundCall, F.iKind, F.iRow]
  repeat (first | (with_reducible refine wpAny_loadPart_at he ?_; rw [hcls]) | with_reducible refine wpAny_loadPart_at hC ?_ | wp_step)
  refine wpAny_onRaise ?_
  rw [show ∀ (a b : String) (n : Nat), Bind.check ⟨.positional, "*", B, .self, [⟨"args", .varPos, false⟩]⟩ a b n (List.map (fun x => x.fst) ({ pos := Value.ref e :: rest } : Args).kw) = pure () from
    fun a b n => check_star_args _ _ _ _ _ _]
  exact wpAny_pure hq
end
section
variable {prog : Program} {w : World} {A : Around} {E : Value → Shared → Prop} {R : Result → Shared → Prop} {h : Heap} {g : Array GenState} {d : Drawn} {t : Nat} {os : OsState}
variable {nm q : Str} {C N : Addr} {bs bm bmB : List Value} {hdct : Bool} {sn : List Str} {sub : List Value} {ab : Bool} {col : Option Bool} {dd : Option Addr} {k0 k1 k2 k3 k5 : Option Value} {B Bn newId initId : String}
theorem xb_new (F : XBase B Bn newId initId bmB) (hT : ∀ X : String, bm.contains (.type X) = bmB.contains (.type X)) {rest : List Value}
    (hC : h.get? C = some (excClassObj nm q C N bs bm hdct sn sub ab col dd k0 k1 k2 k3 k5 newId))
    (hq : R (.ok (.ret (.ref (h.objs.size + 1)))) ⟨(h.push { cls := .type "tuple", data := .seq rest.toArray }).push
      { cls := .ref C, data := .fields #[.ref h.objs.size, .none, .none, .none, .bool false, .none] }, g, d, t, os⟩) (hrest : rest.length ≤ sizeLine) :
    codeAny (model prog w) A (.builtin newId ⟨.ref C :: rest, []⟩) R ⟨h, g, d, t, os⟩ := by
  obtain ⟨nI, nbm, FN⟩ := F.nf
  have hends := FN.ends
  have hcB : (Value.ref C :: bm).contains (.type Bn) = true := by rw [List.contains_cons, hT, F.hasB, Bool.or_true]
  have hcA : (Value.ref C :: bm).contains (.type "AttributeError") = false := by rw [List.contains_cons, hT, F.noAttr]; rfl
  have hcN : (Value.ref C :: bm).contains (.type "NameError") = false := by rw [List.contains_cons, hT, F.noName]; rfl
  refine codeAny_builtinAt FN.entry ?_
  unfold Builtin.«BaseException.__new__»
  refine _root_.PySem.wpAt_bind ?_
  show _root_.PySem.wpAt _ _ _ (stack >>= _) _ _ _
  refine _root_.PySem.wpAt_bind (_root_.PySem.wpAt_stack fun p below => _root_.PySem.wpAt_of_wpAny ?_)
  wp_walk
  refine _root_.PySem.wpAt_of_wpAny ?_
  rw [FN.owner]
  repeat (first | with_reducible refine wpAny_madeHere_exc FN.canon hC ?_ | with_reducible refine wpAny_loadPart_at hC ?_ | (with_reducible refine wpAny_isSubtype_exc hC ?_; first | rw [hcB] | rw [hcA] | rw [hcN]) | wp_step)
  show R _ _
  rw [Heap.size_push]
  exact hq
theorem xb_type_call (F : XBase B Bn newId initId bmB) (hT : ∀ X : String, bm.contains (.type X) = bmB.contains (.type X)) {rest : List Value} {fI : Addr} {Q : Fin → Shared → Prop}
    (hC : h.get? C = some (excClassObj nm q C N bs bm hdct sn sub ab col dd k0 k1 k2 k3 k5 newId))
    (hi : W.Looks (model prog w) h (typeLookup (.ref C) "__init__") (some (.ref fI))) (hb : ∀ self, W.Looks (model prog w) h (bindSpecial (.ref fI) self) (.ref fI, [self])) (hrest : rest.length ≤ sizeLine)
    (hq : codeAny (model prog w) A (.call (.ref fI) ⟨.ref (h.objs.size + 1) :: rest, []⟩)
      (fun r s' => match r with | .ok (.ret v) => v = .none ∧ Q (.done (.ret (.ref (h.objs.size + 1)))) s' | .ok _ => False | .error e => E e s')
      ⟨(h.push (W.kdv_tup rest)).push (excO C h.objs.size), g, d, t, os⟩) :
    wpAny (model prog w) A (Builtin.«type.__call__» ⟨.ref C :: rest, []⟩) Q E ⟨h, g, d, t, os⟩ := by
  obtain ⟨nI, nbm, FN⟩ := F.nf
  repeat (first | with_reducible refine wpAny_loadPart_at hC ?_ | with_reducible refine wpAny_madeBy_exc hC ?_ | wp_step)
  refine codeAny_call_builtin_code (Code.quiet_builtin _ FN.quiet) (xb_check_new F hT hC ?_)
  refine xb_new F hT hC ?_ hrest
  show wpAny _ _ _ _ _ _
  have k : ∀ b o, h.get? b = some o → ((h.push (W.kdv_tup rest)).push (excO C h.objs.size)).get? b = some o := fun b o e => Heap.get?_push_of_some _ (Heap.get?_push_of_some _ e)
  have hC₁ := k _ _ hC
  have hget : ((h.push (W.kdv_tup rest)).push (excO C h.objs.size)).get? (h.objs.size + 1) = some (excO C h.objs.size) := by heap_get
  have hcC : (Value.ref C :: bm).contains (.ref C) = true := by simp
  have i1 := hi.keeps k
  have b1 := (hb (.ref (h.objs.size + 1))).keeps k
  unfold isInstance
  repeat (first | with_reducible refine wpAny_loadPart_at hget ?_ | (with_reducible refine wpAny_isSubtype_exc hC₁ ?_; rw [hcC]) | wp_step)
  show wpAny _ _ (typeLookup (.ref C) _) _ _ _
  refine i1.at ?_
  refine wpAny_holding (wpAny_bind (b1.at ?_))
  refine wpAny_bind (wpAny_call (codeAny_mono hq fun r s' z => ?_))
  rcases r with e | (v | _ | _ | _) <;> first | exact z | exact z.elim | skip
  obtain ⟨rfl, z⟩ := z
  first
    | exact wpAny_pure (wpAny_pure z)
    | (wp_walk; exact z)
theorem xb_call (F : XBase B Bn newId initId bmB) (hT : ∀ X : String, bm.contains (.type X) = bmB.contains (.type X)) {rest : List Value} {fI : Addr}
    (hC : h.get? C = some (excClassObj nm q C N bs bm hdct sn sub ab col dd k0 k1 k2 k3 k5 newId))
    (hi : W.Looks (model prog w) h (typeLookup (.ref C) "__init__") (some (.ref fI))) (hb : ∀ self, W.Looks (model prog w) h (bindSpecial (.ref fI) self) (.ref fI, [self])) (hrest : rest.length ≤ sizeLine)
    (hq : codeAny (model prog w) (A.under (.builtin "type.__call__" ⟨.ref C :: rest, []⟩)) (.call (.ref fI) ⟨.ref (h.objs.size + 1) :: rest, []⟩) (W.InitBack (h.objs.size + 1) R)
      ⟨(h.push (W.kdv_tup rest)).push (excO C h.objs.size), g, d, t, os⟩) :
    codeAny (model prog w) A (.call (.ref C) ⟨rest, []⟩) R ⟨h, g, d, t, os⟩ := by
  have f1 := tc_lookup
  have f2 := tc_bind (.ref C)
  have hTy : (⟨h, g, d, t, os⟩ : Shared).TypeIs (.ref C) "type" := ⟨_, hC, rfl⟩
  refine codeAny_of_tree ?_
  show wpAny _ _ (callAny (.ref C) _) _ _ _
  repeat (any_goals (first | assumption | with_reducible refine wpAny_loadPart_at hC ?_ | wp_step))
  refine ⟨rfl, ?_⟩
  refine codeAny_call_builtin_at (Code.quiet_builtin _ (by decide +kernel)) entry_typeCall (wpAny_check_type_call_sub hC (xb_type_call F hT hC hi hb hrest ?_))
  refine codeAny_mono hq fun r s' z => ?_
  rcases r with e | (v | _ | _ | _) <;> exact z
end

structure XTxt (prog : Program) (K : Frag) (mg : Str → Option Value) (x : Str) (C fI : Addr) (fld : Str) (B Bn newId initId : String) (bmB : List Value) : Prop where
  gC : mg x = some (.ref C)
  base : XBase B Bn newId initId bmB
  kxs : KxsFacts B initId
  pass : ∀ self : Value, refuseLoop self "__setattr__" bmB = pure ()
  hasObj : bmB.contains (.type "object") = true
  cls : excInitIn K C bmB newId = true
  hd : hasDictIn K C = true
  iC : findIn K (.ref C) "__init__" = some (some (.ref fI))
  tI : typeIn K (.ref fI) = some (.type "function")
  sa : findIn K (.ref C) "__setattr__" = some (some (.builtin "object.__setattr__"))
  ga : findIn K (.ref C) "__getattribute__" = some (some (.builtin "BaseException.__getattribute__"))
  gg : findIn K (.ref C) "__getattr__" = some none
  noF : findIn K (.ref C) fld = some none
  sup : ks_superIn K C C "__init__" = some (some (.builtin initId))
  subB : subIn K (.ref C) (.type B) = some true
  exC : subIn K (.ref C) (.type "BaseException") = some true
  tyC : typeIn K (.ref C) = some (.type "type")
  kC : keepIn K (.ref C) = true
  self_ : mroIn K C (.ref C) = some true
  opq : nsIn K cStatics "thirdparty.any" = some none
  gS : mg "super" = none
  fn : ∃ (oc : Value) (od : Option Addr) (qual msg : Str) (doc pm : Value) (an : Option Addr) (cda cc : Addr) (ct : Value) (osl : Array (Option Value)) (j : Nat) (p1 p2 q1 q2 q3 q4 q5 q6 r1 r2 r3 r4 : Pos),
    K.lookup fI = some ⟨oc, od, .func (ksFn "__init__" qual (xA fld p1 p2) (xB fld msg j q1 q2 q3 q4 q5 q6 r1 r2 r3 r4) (xS fld) .none .none doc pm an (.ref cda) ct cc), osl⟩ ∧ codeIn K (.ref cda) qual = true ∧ (q3.endLine == q5.line) = true ∧
    (∃ ccl cdd vs ccs file tf, K.lookup cda = some ⟨ccl, cdd, .fields vs, ccs⟩ ∧ vs[2]? = some (.str file tf) ∧ ((prog.main.file : Str) == file) = true) ∧
    (∃ cl cld csl, K.lookup cc = some ⟨cl, cld, .cell (some (.ref C)), csl⟩)
  bind : ∀ (name qual msg : Str) (doc pm : Value) (an : Option Addr) (cdv ct : Value) (cc : Addr) (body : List Stmt) (p1 p2 : Pos) (u v : Value),
    bindArgs (ksFn name qual (xA fld p1 p2) body (xS fld) .none .none doc pm an cdv ct cc) ⟨[u, v], []⟩ = pure [(PySem.Str.ofString "self", u), (fld, v)]
  fne : (fld == PySem.Str.ofString "self") = false
  fnd : (fld == ("__debug__" : Str)) = false
  fnl : (xS fld).names.lookup fld = some .local
  fnc : (xS fld).names.lookup ("__class__" : Str) = some .free
  fns : (xS fld).names.lookup ("super" : Str) = some .globalImplicit
  top : (prog.main.scope.names.lookup ("super" : Str)).isSome = false

section
open Builtin Builtin.ObjectAttr
variable {prog : Program} {w : World} {A : Around} {E : Value → Shared → Prop} {R : Result → Shared → Prop} {hp : Heap} {g : Array GenState} {d : Drawn} {t : Nat} {os : OsState}
/-- the first field of an exception, whatever the built-in class it stands on -/
theorem osa_first {K : Frag} {name : Str} {tk : Tok} {v : Value} {x C : Addr} {fv : Array Value} {cd : ClassData} (X : K.In hp) (hx : hp.get? x = some { cls := .ref C, data := .fields fv }) (hcd : clsIn K C = some cd)
    (hpass : refuseLoop (.ref x) "__setattr__" cd.mro = pure ()) (hob : cd.mro.contains (.type "object") = true) (hh : cd.hasDict = true) (ha : findIn K (.ref C) name = some none)
    (hq : ∀ h' tk' dx, (∀ b o, b ≠ x → hp.get? b = some o → h'.get? b = some o) → hp.objs.size ≤ dx → dx ≠ x → h'.get? x = some { cls := .ref C, dict := some dx, data := .fields fv } →
      h'.Ns1 dx (fun y => if y = name then some v else none) → R (.ok (.ret .none)) ⟨h', g, d, tk', os⟩) :
    codeAny (model prog w) A (.call (.builtin "object.__setattr__") ⟨[.ref x, .str name tk, v], []⟩) R ⟨hp, g, d, t, os⟩ := by
  have I : InstAt hp x { cls := .ref C, data := .fields fv } C none := ⟨hx, rfl, rfl, trivial⟩
  have SO := F.store_object
  have ne : cd.mro.isEmpty = false := by
    cases e : cd.mro with
    | nil =>
      rw [e] at hob
      cases hob
    | cons a b => rfl
  have xs : x ≠ hp.objs.size := Nat.ne_of_lt (Heap.lt_size hx)
  have inObj : Looks (model prog w) hp (isInstance (.ref x) (.type "object")) true :=
    I.type.andThen (looks_mroIn X (by unfold mroIn; rw [hcd, Option.bind_some, if_neg (by rw [ne]; decide), hob]))
  refine codeAny_call_builtin SO.slot.plain SO.entry (@check_slot (model prog w) _ _ ⟨hp, g, d, t, os⟩ "object.__setattr__" "object" "__setattr__" (.ref x) [.str name tk, v] [] _ SO.kind SO.split inObj (SO.args (.ref x) (.str name tk) v) ?_)
  have lm : Looks (model prog w) hp (mroOf (.ref C)) cd.mro := (looks_clsIn X hcd).andThen .now
  have lt : Looks (model prog w) hp (storeTaker? none) none := .now
  have lc : Looks (model prog w) hp (classData C) cd := looks_clsIn X hcd
  rw [osa_eq, refuse_eq]
  refine wpAny_bind (wpAny_bind (I.type.at (wpAny_bind (lm.at ?_))))
  rw [hpass]
  refine wpAny_pure (wpAny_bind (I.type.at (wpAny_bind ((looks_findIn X ha).at (wpAny_bind (lt.at ?_))))))
  show wpAny _ _ (storeInOwnDict (.ref x) (.ref C) (.str name tk) name v false) _ _ _
  obtain ⟨c1, c2, c3, c4, c5, c6, c7, c8, c9, c10, c11⟩ := cd
  dsimp only at hh
  subst hh
  unfold storeInOwnDict ownDictForStores
  repeat (first | with_reducible refine HandSPX.store_in_new ?_ ?_ | with_reducible refine wpAny_loadPart_at hx ?_ | with_reducible refine lc.at ?_ | wp_step)
  · exact ⟨_, #[], _, (Heap.get?_update_ne _ _ _ _ xs.symm).trans (Heap.get?_push_at rfl rfl), rfl, fun e he => absurd he (by simp), fun _ => rfl⟩
  · intro h' tk' hn' hs
    have hx1 : (hp.push { cls := .type "dict", data := .dict #[] }).get? x = some { cls := .ref C, data := .fields fv } := Heap.get?_push_of_some _ hx
    refine hq h' tk' hp.objs.size (fun b o hb ho => ?_) (Nat.le_refl _) xs.symm ?_ hn'
    · exact (hs.2 b (Nat.ne_of_lt (Heap.lt_size ho))).trans ((Heap.get?_update_ne _ _ _ _ hb).trans (Heap.get?_push_of_some _ ho))
    · exact (hs.2 x xs).trans (Heap.get?_update_self _ hx1 rfl)
end

theorem one_line (v : Value) : [v].length ≤ sizeLine := by
  rw [sizeLine_eq]
  exact (by decide : 1 ≤ 16777216)

section
variable {prog : Program} {w : World} {A : Around} {E : Value → Shared → Prop} {h : Heap} {g : Array GenState} {d : Drawn} {t : Nat} {os : OsState}
/-- the built-in __init__ bound to the exception at x, called with one value -/
theorem call_mw {K : Frag} {B Bn newId initId : String} {bmB : List Value} {u x C t0 : Addr} {v : Value} {Q : Value → Shared → Prop} (X : K.In h) (FB : XBase B Bn newId initId bmB) (q : excInitIn K C bmB newId = true) (hx : h.get? x = some (excO C t0)) (hu : h.get? u = some (kxs_mw initId x))
    (hq : ∀ h' t1, (∀ b o, b ≠ x → h.get? b = some o → h'.get? b = some o) → h'.get? x = some (excO C t1) → h.objs.size < h'.objs.size → Q .none ⟨h', g, d, t, os⟩) :
    wpAny (model prog w) A (call (.ref u) [v]) Q E ⟨h, g, d, t, os⟩ := by
  obtain ⟨nm, N', qn, bs, bm, hdct, sn, sub, ab, col, dd, k0, k1, k2, k3, k5, hC, hT⟩ := excInit_of X q
  refine wpAny_call (codeAny_of_tree ?_)
  show wpAny _ A.in1 (callAny (.ref u) ⟨[v], []⟩) _ _ _
  simp only [callAny]
  refine wpAny_bind (wpAny_load hu ?_)
  simp only [kxs_mw, show (Value.type "method-wrapper" == Value.type "method" || Value.type "method-wrapper" == Value.type "builtin_function_or_method" || Value.type "method-wrapper" == Value.type "method-wrapper") = true by decide, if_true]
  refine KFB.if_so (by decide) ?_
  refine wpAny_bind (xb_check_bound FB hC hx rfl ?_)
  refine wpAny_bind (wpAny_pure (wpAny_pure ?_))
  refine ⟨plainId_quiet FB.iSlot.plain _, codeAny_builtin FB.iEntry ?_⟩
  exact exc_init_tree (cls := .ref C) (t0 := t0) (dv := none) (c2 := .none) (c3 := .none) (b4 := .bool false) hx (one_line v) fun h' k e' z => hq h' _ k e' (Heap.lt_size z)
end

/-- what __init__ leaves of a fresh exception at x -/
structure XEnd (h h' : Heap) (x C dx t1 : Addr) (fld : Str) (v : Value) : Prop where
  keep : ∀ b o, b ≠ x → h.get? b = some o → h'.get? b = some o
  obj : h'.get? x = some { cls := .ref C, dict := some dx, data := .fields #[.ref t1, .none, .none, .none, .bool false, .none] }
  dbig : h.objs.size ≤ dx
  dne : dx ≠ x
  ns : h'.Ns1 dx (fun y => if y = fld then some v else none)

section
variable {prog : Program} {w : World} {A : Around} {E : Value → Shared → Prop} {R : Result → Shared → Prop} {s : Shared} {K : Frag} {mg mb : Str → Option Value} {x : Str} {C fI : Addr} {fld : Str} {B Bn newId initId : String} {bmB : List Value}
theorem clsIn_of {K : Frag} {h : Heap} {C : Addr} {bmB : List Value} {newId : String} (X : K.In h) (q : excInitIn K C bmB newId = true) (hd : hasDictIn K C = true) : ∃ cd, clsIn K C = some cd ∧ (∃ bm, cd.mro = .ref C :: bm ∧ excTail bmB bm = true) ∧ cd.hasDict = true := by
  unfold excInitIn at q
  split at q
  · rename_i dd cd sl ho
    split at q
    · rename_i C' bm k0 k1 k2 k3 n k5 hm hs
      simp only [Bool.and_eq_true, beq_iff_eq, Bool.not_eq_true'] at q
      obtain ⟨⟨⟨e1, _⟩, _⟩, ht⟩ := q
      have hc : clsIn K C = some cd := by unfold clsIn; rw [ho]
      refine ⟨cd, hc, ⟨bm, by rw [hm, e1], ht⟩, ?_⟩
      unfold hasDictIn at hd
      rw [hc] at hd
      exact hd
    · cases q
  · cases q
theorem nsK {h h' : Heap} {L : Addr} {m : Str → Option Value} (n : h.Ns L m) (k : ∀ b o, h.get? b = some o → h'.get? b = some o) : h'.Ns L m := by
  obtain ⟨o, es, ep, ho, r⟩ := n
  exact ⟨o, es, ep, k _ _ ho, r⟩
theorem tail_obj {bmB : List Value} (ho : bmB.contains (.type "object") = true) : ∀ l : List Value, excTail bmB l = true → l.contains (.type "object") = true := by
  intro l
  induction l with
  | nil =>
    intro e
    rcases excTail_cases [] e with ⟨c, r, q, _⟩ | q
    · cases q
    · rw [q]; exact ho
  | cons a r ih =>
    intro e
    rcases excTail_cases (a :: r) e with ⟨c, r', q, h⟩ | q
    · obtain ⟨rfl, rfl⟩ := List.cons.inj q
      rw [List.contains_cons, ih h, Bool.or_true]
    · rw [q]; exact ho
theorem x_init (T : XTxt prog K mg x C fI fld B Bn newId initId bmB) {e t0 : Addr} {v : Value} (X : K.In s.heap) (G : s.heap.Ns mainGlobals mg) (Bn : s.heap.Ns builtinsNs mb) (hbb : mb "super" = bootBuiltins "super") (hlim : s.heap.NoLimit) (hx : s.heap.get? e = some (excO C t0)) (hnx : K.lookup e = none) (hroom : A.depth < recursionLimit)
    (hq : ∀ h' tk dx t1, XEnd s.heap h' e C dx t1 fld v → R (.ok (.ret .none)) { s with heap := h', toks := tk }) :
    codeAny (model prog w) A (.call (.ref fI) ⟨[.ref e, v], []⟩) R s := by
  obtain ⟨oc, od, qual, msg, doc, pm, an, cda, cc, ct, osl, j, p1, p2, q1, q2, q3, q4, q5, q6, r1, r2, r3, r4, lk, hcd, hline, ⟨ccl, cdd, vs, ccs, file, tf, lc, hv2, hfile⟩, ⟨cl, cld, csl, lcc⟩⟩ := T.fn
  obtain ⟨cd, hcl, ⟨bm, hm, htl⟩, hhd⟩ := clsIn_of X T.cls T.hd
  have bnd : BindsTo s (ksFn "__init__" qual (xA fld p1 p2) (xB fld msg j q1 q2 q3 q4 q5 q6 r1 r2 r3 r4) (xS fld) .none .none doc pm an (.ref cda) ct cc) ⟨[.ref e, v], []⟩ [(PySem.Str.ofString "self", .ref e), (fld, v)] := BindsTo.of_eq (T.bind _ _ msg _ _ _ _ _ _ _ _ _ _ _)
  have e1 : (fld == PySem.Str.ofString "self") = false := T.fne
  have e2 : (PySem.Str.ofString "self" == fld) = false := by
    rw [beq_eq_false_iff_ne] at e1 ⊢
    exact fun z => e1 z.symm
  refine ks_codeAny_call_defAt (fd := ksFn "__init__" qual (xA fld p1 p2) (xB fld msg j q1 q2 q3 q4 q5 q6 r1 r2 r3 r4) (xS fld) .none .none doc pm an (.ref cda) ct cc) (body := xB fld msg j q1 q2 q3 q4 q5 q6 r1 r2 r3 r4) hroom (X _ _ lk) rfl hlim (codeRec_of X hcd) rfl bnd ?_ ?_ (fun h1 hns k => ?_) rfl rfl rfl
  · intro y hy
    have hy' : y ∈ [(PySem.Str.ofString "self", NameKind.local), (fld, .local), (PySem.Str.ofString "__class__", .free), (PySem.Str.ofString "super", .globalImplicit)] := hy
    simp only [List.mem_cons, List.not_mem_nil, or_false] at hy'
    rcases hy' with rfl | rfl | rfl | rfl <;> exact fun z => nomatch z
  · intro y hy
    simp only [List.mem_cons, List.not_mem_nil, or_false] at hy
    rcases hy with rfl | rfl
    · rfl
    · exact T.fnl
  · have X1 : K.In h1 := X.keeps k
    have hx1 := k _ _ hx
    have nL : s.heap.objs.size ≠ e := Nat.ne_of_gt (Heap.lt_size hx)
    have mself : (fun y => List.lookup y (List.reverse [(PySem.Str.ofString "self", Value.ref e), (fld, v)])) (PySem.Str.ofString "self") = some (.ref e) := by
      show List.lookup _ [(fld, v), (PySem.Str.ofString "self", Value.ref e)] = _
      simp only [List.lookup, e2, beq_self_eq_true]
    have mfld : (fun y => List.lookup y (List.reverse [(PySem.Str.ofString "self", Value.ref e), (fld, v)])) fld = some v := by
      show List.lookup _ [(fld, v), (PySem.Str.ofString "self", Value.ref e)] = _
      simp only [List.lookup, beq_self_eq_true]
    obtain ⟨oD, hD1, hD2⟩ : ∃ oD, h1.get? C = some oD ∧ oD.data = .cls cd := by
      have hcl' := hcl
      unfold clsIn at hcl'
      split at hcl'
      · rename_i c d cd' sl ho
        cases hcl'
        exact ⟨_, X1 _ _ ho, rfl⟩
      · cases hcl'
    have I1 : InstAt h1 e (excO C t0) C none := ⟨hx1, rfl, rfl, trivial⟩
    have isB : Looks (model prog w) h1 (isInstance (.ref e) (.type B)) true := I1.type.andThen (looks_subIn X1 T.subB)
    have neC : e ≠ C := ks_ne X1 I1 hcl
    obtain ⟨sh, sg, sd, st, so⟩ := s
    have hev : ∀ env : Env, eval (.Call (.Attribute (.Call (.Name "super" q1) [] [] q2) "__init__" q3) [.Constant (.str msg) j q4] [] q5) env = (do
        let ov ← attributeBase (.Call (.Name "super" q1) [] [] q2) "__init__" env (eval (.Call (.Name "super" q1) [] [] q2) env)
        standAt q3.atName
        let (f, first) ← holding [ov] (getMethod ov "__init__" (L2.plainOf (.Call (.Name "super" q1) [] [] q2) env))
        callWith q5 f first (backTo q5 (starEach [.Constant (.str msg) j q4] env)) []) := fun env => by
      rw [arm_eval_Call]
      refine congrArg (fun k => attributeBase (.Call (.Name "super" q1) [] [] q2) "__init__" env (eval (.Call (.Name "super" q1) [] [] q2) env) >>= k) (funext fun ov => ?_)
      refine congrArg (fun k => standAt q3.atName >>= k) (funext fun _ => ?_)
      exact L2.mcall_line rfl hline
    refine ks_wpAt_execs_cons (ks_wpAt_Expr_any (ks_wpAt_MethodCall ?_ (hev _)))
    refine ks_wpAt_super_base T.fns T.fnc (by decide) rfl (X1 _ _ lk) rfl rfl rfl (X1 _ _ lc) rfl hv2 hfile T.top ?_
    refine ks_loadName_global rfl T.fns (loadGlobal_builtin (nsK G k) T.gS (nsK Bn k) (hbb.trans (by first | boot_by_name | rfl | kernel_rfl)) ⟨rfl, ?_⟩)
    refine wpAny_loadName_free rfl T.fnc rfl ⟨_, X1 _ _ lcc, rfl⟩ ?_
    refine wpAny_loadName_local rfl rfl hns mself ?_
    refine ks_wpAny_isType_cls hD1 hD2 ⟨rfl, ?_⟩
    refine ks_wpAny_call_super hD1 hD2 hx1 rfl (fun c z => ?_) (looks_mroIn X1 T.self_) (fun h2 so2 k2 => ?_)
    · cases z
    · have X2 : K.In h2 := X1.keeps k2
      have hx2 := k2 _ _ hx1
      have I2 : InstAt h2 e (excO C t0) C none := ⟨hx2, rfl, rfl, trivial⟩
      have isB2 : Looks (model prog w) h2 (isInstance (.ref e) (.type B)) true := I2.type.andThen (looks_subIn X2 T.subB)
      have hsup := T.sup
      unfold ks_superIn at hsup
      rw [hcl] at hsup
      refine kxs_getMethod T.kxs so2 (looks_opaque X2 T.opq) (l₀ := cd.mro) (fun A Q E s k q => wpAny_bind ((looks_clsIn X2 hcl) A _ E s k (wpAny_pure q))) rfl X2 hsup isB2 neC (by decide) ?_
      have k3 : ∀ b o, h2.get? b = some o → (h2.push (kxs_mw initId e)).get? b = some o := fun b o z => Heap.get?_push_of_some _ z
      have hu : (h2.push (kxs_mw initId e)).get? h2.objs.size = some (kxs_mw initId e) := Heap.get?_push_size _ rfl
      refine kxs_callWith (i := initId) (x := e) rfl (evalArgs_plain (spliced_cons (wpAny_Constant_str (x := msg) (k := j) (pos := q4) ?_)))
      refine spliced_nil ⟨hu, ?_⟩
      refine call_mw (X2.keeps k3) T.base T.cls (k3 _ _ hx2) hu fun h4 t1 k4 hx4 z4 => ?_
      have kA : ∀ b o, b ≠ e → h1.get? b = some o → h4.get? b = some o := fun b o hb z => k4 b o hb (k3 _ _ (k2 _ _ z))
      have X4 : K.In h4 := fun a o z => kA a o (fun y => by
        rw [y, hnx] at z
        cases z) (X1 _ _ z)
      have hns4 : h4.Ns sh.objs.size (fun y => List.lookup y (List.reverse [(PySem.Str.ofString "self", Value.ref e), (fld, v)])) := by
        obtain ⟨o, es, ep, ho, r⟩ := hns
        exact ⟨o, es, ep, kA _ _ nL ho, r⟩
      show _root_.PySem.wpAt _ _ _ (execs [_] _) _ _ _
      refine _root_.PySem.wpAt_of_wpAny (wpAny_execs_cons (plainObj_wpAny_Assign_Attribute ?_))
      refine wpAny_Name (wpAny_loadName_local rfl T.fnl hns4 mfld ?_) T.fnd
      refine wpAny_Name (wpAny_loadName_local rfl rfl hns4 mself ?_) (by decide)
      refine set_plain X4 (ox := excO C t1) (od := none) ⟨hx4, rfl, rfl, trivial⟩ T.sa ?_
      refine osa_first X4 hx4 hcl ?_ ?_ hhd T.noF (fun h5 tk5 dx k5 dn dne hx5 hn5 => ?_)
      · rw [hm, refuseLoop_ref]
        exact excTail_pass _ (T.pass _) bm htl
      · rw [hm, List.contains_cons, tail_obj T.hasObj bm htl, Bool.or_true]
      · show wpAny _ _ (execs _ _) _ _ _
        refine wpAny_execs_nil (hq h5 tk5 dx t1 ⟨fun b o hb z => k5 b o hb (kA b o hb (k b o z)), hx5, ?_, dne, hn5⟩)
        have z1 : sh.objs.size < h1.objs.size := hns.lt
        have z2 : h1.objs.size ≤ h4.objs.size := by
          have y1 : h1.objs.size < h2.objs.size := Heap.lt_size so2
          have y2 : (h2.push (kxs_mw initId e)).objs.size < h4.objs.size := z4
          rw [Heap.size_push] at y2
          exact Nat.le_of_lt (Nat.lt_trans y1 (Nat.lt_of_succ_lt y2))
        exact Nat.le_trans (Nat.le_of_lt (Nat.lt_of_lt_of_le z1 z2)) dn
/-- a made exception -/
structure XMade (h h' : Heap) (e C d : Addr) (fld : Str) (v : Value) : Prop where
  keep : ∀ b o, h.get? b = some o → h'.get? b = some o
  new : h.objs.size ≤ e
  obj : ∃ oe vs, h'.get? e = some oe ∧ oe.cls = .ref C ∧ oe.dict = some d ∧ oe.data = .fields vs ∧ vs[1]? = some .none
  dbig : h.objs.size ≤ d
  dne : d ≠ e
  ns : h'.Ns1 d (fun y => if y = fld then some v else none)
theorem x_made (T : XTxt prog K mg x C fI fld B Bn newId initId bmB) {v : Value} (X : K.In s.heap) (G : s.heap.Ns mainGlobals mg) (Bn : s.heap.Ns builtinsNs mb) (hbb : mb "super" = bootBuiltins "super") (hlim : s.heap.NoLimit) (hroom : A.depth + 1 < recursionLimit)
    (hq : ∀ h' tk e d, XMade s.heap h' e C d fld v → R (.ok (.ret (.ref e))) { s with heap := h', toks := tk }) :
    codeAny (model prog w) A (.call (.ref C) ⟨[v], []⟩) R s := by
  obtain ⟨nm, N', qn, bs, bm, hdct, sn, sub, ab, col, dd, k0, k1, k2, k3, k5, hC, hT⟩ := excInit_of X T.cls
  obtain ⟨hp, g, dr, tk, os⟩ := s
  have k : ∀ b o, hp.get? b = some o → ((hp.push (kdv_tup [v])).push (excO C hp.objs.size)).get? b = some o := fun b o z => Heap.get?_push_of_some _ (Heap.get?_push_of_some _ z)
  have he : ((hp.push (kdv_tup [v])).push (excO C hp.objs.size)).get? (hp.objs.size + 1) = some (excO C hp.objs.size) := by heap_get
  have hnx : K.lookup (hp.objs.size + 1) = none := by
    cases z : K.lookup (hp.objs.size + 1) with
    | none => rfl
    | some o =>
      have y : hp.get? (hp.objs.size + 1) = some o := X _ _ z
      exact absurd (Nat.lt_of_succ_lt (Heap.lt_size y)) (Nat.lt_irrefl _)
  refine xb_call T.base hT hC (looks_findIn X T.iC) (fun self => bind_fn X self T.tI) (one_line v) ?_
  refine x_init (s := ⟨(hp.push (kdv_tup [v])).push (excO C hp.objs.size), g, dr, tk, os⟩) T (X.keeps k) (nsK G k) (nsK Bn k) hbb (hlim.keeps k) he hnx ?_ fun h' tk' dx t1 Z => ?_
  · show A.depth + 1 < recursionLimit
    exact hroom
  · have old : ∀ b o, hp.get? b = some o → h'.get? b = some o := fun b o z => Z.keep b o (Nat.ne_of_lt (Nat.lt_succ_of_lt (Heap.lt_size z))) (k b o z)
    have big : hp.objs.size + 1 + 1 ≤ dx := by
      have y := Z.dbig
      simp only [Heap.size_push] at y
      exact y
    exact ⟨rfl, hq h' tk' (hp.objs.size + 1) dx ⟨old, Nat.le_succ _, ⟨_, _, Z.obj, rfl, rfl, rfl, rfl⟩, Nat.le_trans (Nat.le_trans (Nat.le_succ _) (Nat.le_succ _)) big, Z.dne, Z.ns⟩⟩
end
end PWX
namespace PW
open PySem PySem.Spec PyProof.Rows L2 PWX
theorem relO_one {fld : Str} {v : V} {v' : Value} (r : RelV v v') (f : Str) : RelO (List.lookup f [(fld, v)]) (if f = fld then some v' else none) := by
  by_cases hw : f = fld
  · subst hw
    rw [if_pos rfl]
    have q : List.lookup f [(f, v)] = some v := by simp [List.lookup]
    rw [q]
    exact r
  · rw [if_neg hw]
    have qw : (f == fld) = false := by simpa using hw
    have q2 : List.lookup f [(fld, v)] = none := by simp [List.lookup, qw]
    rw [q2]
    trivial
section
variable {X : Cx} {x : Str} {C fI : Addr} {fld : Str} {B Bn newId initId : String} {bmB : List Value}
/-- C(e) -/
def tMkX (C : Addr) (fld : Str) (ta : TA) : L2.St → Hp → XK → Prop := fun σ H Q => ta σ H fun vs H1 => ∃ v, vs = [v] ∧ ∀ d, H1 d = none → Q (.ref C) (some d) (upd H1 d (.xd [(fld, v)]))
theorem pmk_x {a : Expr} {ta : TA} {p pos : Pos} {k : Nat} (T : XTxt X.prog X.K X.mg x C fI fld B Bn newId initId bmB) (hr : Room k X.A) (ha : PA X [a] ta) (hg : Gl X x) (hd : (x == ("__debug__" : Str)) = false := by decide)
    (he : starEach (a :: []) X.env = (false, eval a X.env) :: starEach [] X.env := by rfl) (hpl : (backTo pos (starEach [] X.env)).any (·.1) = false := by rfl) :
    PMk X (.Call (.Name x p) [a] [] pos) (tMkX C fld ta) := by
  intro pins s σ H Q I h
  refine wpAny_Call_Name_kw (ld_glob I hg T.gC ?_ hd)
  refine PySem.W.callWith_K (h₀ := X.base) I.ok.mod.kin T.kC (thn (ha.run pos pins s σ H _ I h) fun us s1 hh => ?_) he hpl
  obtain ⟨vs, H1, I1, r1, v, ev, q1⟩ := hh
  subst ev
  refine ⟨I1.kIn, ?_⟩
  cases r1 with
  | cons rv rn =>
    rename_i v' us'
    cases rn
    show wpAny _ _ (call (.ref C) [v']) _ _ _
    have hlim := I1.nolimit
    have kb : ∀ b o, X.base.get? b = some o → s1.heap.get? b = some o := I1.bk
    obtain ⟨mb, Bn, hbb⟩ := I1.mod.blt
    have Gn := nsK I1.mod.glob kb
    have Bs := nsK Bn kb
    have KX := I1.kIn
    obtain ⟨hp, g, dr, tk, os⟩ := s1
    refine wpAny_call (x_made T KX Gn Bs (hbb _ (by decide)) hlim (by have := hr.dp; omega) fun h' tk' e d M => ?_)
    show MkP X pins σ Q (.ref e) ⟨h', g, dr, tk', os⟩
    obtain ⟨oe, fv, hoe, hc, hd, hdat, h1⟩ := M.obj
    have hns := M.ns
    obtain ⟨G', g1, g2⟩ := restrict h' fun b => decide (b ≠ e)
    have gk : ∀ b, b ≠ e → G'.get? b = h'.get? b := fun b hb => g1 b (decide_eq_true hb)
    have ge : G'.get? e = none := g2 e (by simp)
    have old : ∀ b o, hp.get? b = some o → G'.get? b = some o := fun b o q => (gk b (Nat.ne_of_lt (Nat.lt_of_lt_of_le (Heap.lt_size q) M.new))).trans (M.keep b o q)
    have ob : ObjOk X.prog X.w (upd H1 d (.xd [(fld, v)])) G' d (.xd [(fld, v)]) :=
      ⟨_, hns.at (fun o q => (gk d M.dne).trans q), fun f => relO_one rv f⟩
    have J : Inv X pins σ (upd H1 d (.xd [(fld, v)])) ⟨G', g, dr, tk', os⟩ := I1.laid (t' := tk') old M.dbig ob
    refine ⟨e, oe, fv, ⟨G', g, dr, tk', os⟩, _, .ref C, some d, rfl, J, fun b o q => ?_, ge, hoe, ⟨hc, hd⟩, hdat, h1, ?_, rfl, I1.bare, raises_own T.exC T.tyC, q1 d (I1.hok.fresh M.dbig)⟩
    · by_cases hb : b = e
      · have q' : G'.get? b = some o := q
        rw [hb, ge] at q'; cases q'
      · exact (gk b hb).symm.trans q
    · rw [upd_ne (Ne.symm M.dne)]
      exact I1.hok.fresh M.new
/-- raise C(e) -/
def tRaiseX (C : Addr) (fld : Str) (W : WX) (ta : TA) : TS := fun _ σ H => tMkX C fld ta σ H fun cls d H' => W cls d σ H'
theorem ps_raiseX {a : Expr} {ta : TA} {W : WX} {p pos pos2 : Pos} {k : Nat} (hc : X.calm = true) (T : XTxt X.prog X.K X.mg x C fI fld B Bn newId initId bmB) (hr : Room k X.A) (tk : Takes X W) (ha : PA X [a] ta) (hg : Gl X x := by rfl) (hd : (x == ("__debug__" : Str)) = false := by decide)
    (he : starEach (a :: []) X.env = (false, eval a X.env) :: starEach [] X.env := by rfl) (hpl : (backTo pos (starEach [] X.env)).any (·.1) = false := by rfl) :
    PS X (.Raise (some (.Call (.Name x p) [a] [] pos)) none pos2) (tRaiseX C fld W ta) := ps_raise hc tk (pmk_x T hr ha hg hd he hpl)
/-- e.fld, e the exception that the suite holds (at a; its class cls, its dict d) -/
def tByX (C : Addr) (fld : Str) (a : Addr) (cls : Value) (d : Option Addr) (te : TE) : TE := fun σ H Q => te σ H fun x H1 => x = .ref a ∧ cls = .ref C ∧ ∃ (dd : Addr) (v : V), d = some dd ∧ H1 dd = some (.xd [(fld, v)]) ∧ Q v H1
theorem pe_byX {a : Addr} {oe : Obj} {cls : Value} {d : Option Addr} {pn : List (Addr × Obj)} {e : Expr} {te : TE} {pos : Pos} (T : XTxt X.prog X.K X.mg x C fI fld B Bn newId initId bmB) (hz : Zc cls d oe) (hf : ∃ vs, oe.data = .fields vs) (he : PE (X.suite a ((a, oe) :: pn)) e te)
    (hb : attributeBase e fld X.env (eval e X.env) = eval e X.env := by rfl) :
    PE (X.suite a ((a, oe) :: pn)) (.Attribute e fld pos) (tByX C fld a cls d te) := by
  refine ⟨fun pins s σ H Q I h => ?_⟩
  refine attr_of hb (thn (he.run pins s σ H _ I h) fun u s1 hh => ?_)
  obtain ⟨x, H1, I1, rx, ex, ec, dd, v, ed, ea, q⟩ := hh
  subst ex
  obtain rfl : u = Value.ref a := rx
  subst ec
  subst ed
  obtain ⟨ha, _⟩ := I1.pin (a, oe) (List.mem_append_left _ List.mem_cons_self)
  obtain ⟨vs, hd⟩ := hf
  have hx : ObjOk X.prog X.w H1 s1.heap dd (.xd [(fld, v)]) := I1.hok dd _ ea
  obtain ⟨mA, hns, hr⟩ := hx
  obtain ⟨od, ho, hl⟩ := lookIn_ns hns
  have l : List.lookup fld [(fld, v)] = some v := by simp [List.lookup]
  obtain ⟨u, hu, ru⟩ := RelO.some_of (v := v) (o := mA fld) (by rw [← l]; exact hr fld)
  have J : PySem.W.InstAt s1.heap a oe C (some od) := ⟨ha, hz.1, by unfold PySem.W.notCls; rw [hd] <;> rfl, by rw [hz.2]; exact ho⟩
  exact HandSPX.exc_get I1.kIn J T.ga T.gg T.exC (PySem.W.findObj_own T.hd T.noF rfl (by rw [hl, hu])) (handed_of ru) ⟨v, H1, I1.tok _, ru, q⟩
end
end PW

/-! ##### XB -/
set_option Elab.async false
set_option linter.all false
set_option maxRecDepth 100000
set_option maxHeartbeats 4000000
/-! with .. as over an own manager whose __exit__ lets errors on -/
namespace PWW
open PySem PySem.W PySem.Calls PyProof.Rows
section
variable {prog : Program} {w : World} {M : Model} {A : Around} {E : Value → Shared → Prop} {s : Shared} {env : Env} {K : Frag} {x C fe fx : Addr} {ox : Obj} {od : Option Obj} {pos : Pos}
/-- the way of an error through the statement -/
def Flown (prog : Program) (w : World) (A : Around) (E : Value → Shared → Prop) (env : Env) (x fx : Addr) (Q : Flow → Shared → Prop) (e : Value) (s : Shared) : Prop :=
  wpAny (model prog w) A (noteFrame e env) (fun _ s1 => wpAny (model prog w) A (setFlight e none) (fun _ s2 => wpAny (model prog w) A (typeOf e) (fun ty s3 => wpAny (model prog w) A (tracebackOf e) (fun tb s4 =>
    wpAny (model prog w) A (run (.call (.ref fx) ⟨[.ref x, ty, e, tb], []⟩) (some e)) (fun fl s5 => fl = .ret .none ∧ wpAny (model prog w) A (passOn "with" e env) Q E s5) E s4) E s3) E s2) E s1) E s
theorem with_core {b : Value → Sem Unit} {bdy : Sem Flow} {Q : Flow → Shared → Prop} (X : K.In s.heap) (I : InstAt s.heap x ox C od) (he : findIn K (.ref C) "__enter__" = some (some (.ref fe))) (hfe : isFn K (.ref fe) = true) (hx : findIn K (.ref C) "__exit__" = some (some (.ref fx))) (hfx : isFn K (.ref fx) = true)
    (h : wpAny (model prog w) A (call (.ref fe) [.ref x]) (fun v s₂ => wpAny (model prog w) A (b v) (fun _ s₃ => wpAny (model prog w) A bdy (fun f s₄ => wpAny (model prog w) A (call (.ref fx) [.ref x, .none, .none, .none]) (fun _ s₅ => Q f s₅) E s₄) (Flown prog w A E env x fx Q) s₃) (Flown prog w A E env x fx Q) s₂) E s) :
    wpAny (model prog w) A (withItem false pos env (pure (.ref x)) (some b) bdy) Q E s := by
  obtain ⟨cd, hcd, ae⟩ := kw_along he
  obtain ⟨cd', hcd', ax⟩ := kw_along hx
  cases hcd.symm.trans hcd'
  obtain ⟨hh, g, d, tt, os⟩ := s
  have W1 : Looks (model prog w) hh (specialOnItsLine (.ref x) "__enter__") (some (.ref fe), cd.mro) := kw_special X I hcd ae
  have W2 : Looks (model prog w) hh (specialOnItsLine (.ref x) "__exit__") (some (.ref fx), cd.mro) := kw_special X I hcd ax
  have W3 : Looks (model prog w) hh (bindSpecial (.ref fe) (.ref x)) (.ref fe, [.ref x]) := bind_fn X _ (beq_iff_eq.mp hfe)
  have W4 : Looks (model prog w) hh (bindSpecial (.ref fx) (.ref x)) (.ref fx, [.ref x]) := bind_fn X _ (beq_iff_eq.mp hfx)
  have W5 : Looks (model prog w) hh (aMethodOfAnotherBuiltinTypeStops (.ref fe) cd.mro) () := Looks.of_pure rfl
  have W6 : Looks (model prog w) hh (aMethodOfAnotherBuiltinTypeStops (.ref fx) cd.mro) () := Looks.of_pure rfl
  unfold withItem
  refine wpAny_bind (wpAny_pure ?_)
  refine wpAny_bind (wpAny_standAt ?_)
  simp only [Bool.false_eq_true, if_false]
  kw_lk
  refine wpAny_mono h (fun v s₂ h₂ => ?_) fun _ _ z => z
  kw_lk
  refine wpAny_attempt (kw_held ?_)
  show wpAny _ _ (b v >>= fun _ => bdy) _ _ _
  have bad : ∀ e s', Flown prog w A E env x fx Q e s' → wpAny (model prog w) A (do
      noteFrame e env
      setFlight e none
      standAt pos
      holding [e] do
      let r ← withItem.marked e (.call (.ref fx) ⟨[.ref x] ++ [← typeOf e, e, ← tracebackOf e], []⟩)
      let r ← pure r
      let swallow ← match r with
        | .none => pure false
        | .bool b => pure b
        | _ => do pure ((← withItem.marked e (.call (.type "bool") ⟨[r], []⟩)) == .bool true)
      if swallow = true then do rule "with.exit-swallows"; setFlight e none; pure Flow.next else passOn "with" e env) Q E s' := fun e s' hf => by
    refine wpAny_bind (wpAny_mono hf (fun _ s1 h1 => ?_) fun _ _ z => z)
    refine wpAny_bind (wpAny_mono h1 (fun _ s2 h2 => ?_) fun _ _ z => z)
    refine wpAny_bind (wpAny_standAt (wpAny_holding ?_))
    refine wpAny_bind (wpAny_mono h2 (fun ty s3 h3 => ?_) fun _ _ z => z)
    refine wpAny_bind (wpAny_mono h3 (fun tb s4 h4 => ?_) fun _ _ z => z)
    unfold withItem.marked
    refine wpAny_bind (wpAny_bind (wpAny_mono h4 (fun fl s5 h5 => ?_) fun _ _ z => z))
    obtain ⟨rfl, h6⟩ := h5
    refine wpAny_pure (wpAny_bind (wpAny_pure (wpAny_bind (wpAny_pure ?_))))
    exact h6
  refine wpAny_bind (wpAny_mono h₂ (fun _ s₃ h₃ => wpAny_mono h₃ (fun f s₄ h₄ => ?_) fun e s' z => bad e s' z) fun e s' z => bad e s' z)
  kw_lk
  refine wpAny_mono h₄ (fun _ s₅ h₅ => ?_) fun _ _ z => z
  kw_lk
  exact h₅
end
end PWW
namespace PW
open PySem PySem.Spec PyProof.Rows L2 PWW
/-- a promise kept while an exception is handled; nothing is raised -/
def FnW (P : Program) (w : World) (K : PySem.W.Frag) (mg : Str → Option Value) (base : Heap) (k : Nat) (f : Addr) (sp : Sp) : Prop :=
  ∀ (A : Around) (outer : List Env) (s : Shared) (H : Hp) (us : List Value) (vs : List V) (Q : VK) (p : Addr × Obj), L2H.RoomH k A → L2H.PinOk outer H s p → Env0 P w K mg base A outer s H → Vals vs us → sp vs H Q E0 →
    codeAny (model P w) A (.call (.ref f) ⟨us, []⟩) (CR CX0 outer P w H s Q E0) s
theorem fnW_of {P : Program} {w : World} {K : PySem.W.Frag} {mg : Str → Option Value} {base : Heap} {x qual : Str} {params : Arguments} {body : List Stmt} {scope : Scope} {f : Addr} {fd : FuncData} {N ps : List Str} {k : Nat} {sp : Sp}
    (F : FunD K x qual params body scope [] [] f fd) (S : FnScope N ps scope) (len : ∀ vs H Q E, sp vs H Q E → vs.length = ps.length)
    (hb : ∀ (kV doc pm : Value) (an : Option Addr) (cdv ct : Value) (us : List Value), us.length = ps.length → bindArgs (PySem.W.fnOf x qual params body scope .none kV doc pm an cdv ct) ⟨us, []⟩ = pure (ps.zip us))
    (hbody : ∀ (cdv : Value) (A : Around) (outer : List Env) (s : Shared) (H : Hp) (vs : List V) (Q : VK) (p : Addr × Obj), L2H.RoomH k (A.deeper (envOfC qual scope s.heap.objs.size f cdv)) → sp vs H Q E0 →
      ∃ t, PSs (L2H.cxH CX0 P w K mg base N qual scope f cdv A outer s H E0 p).nox body t ∧ t { nx := fun _ H' => Q .non H', rt := Q } (L2.start N vs) H) :
    FnW P w K mg base (k + 1) f sp := by
  intro A outer s H us vs Q p hr hpin e0 r hsp
  obtain ⟨oc, od, dV, kV, doc, pm, an, cdv, ct, osl, rfl, lk, hcd, hdV, _⟩ := F.ex
  obtain rfl : dV = Value.none := by
    rcases hdV with ⟨_, e⟩ | ⟨n, _⟩
    · exact e
    · exact absurd rfl n
  have hl := len _ _ _ _ hsp
  have KX : K.In s.heap := e0.mod.kin.keeps fun b o e => (e0.bs b o e).1
  have lim : s.heap.NoLimit := e0.mod.nolimit.keeps fun b o e => (e0.bs b o e).1
  have hkind : ∀ y ∈ ps.zip us, scope.names.lookup y.1 = some .local ∨ (scope.names.lookup y.1 = some .cell ∧ ((cellsFrom (s.heap.objs.size + 1) scope.names []).lookup y.1).isSome = true) := fun ⟨n, v⟩ hy => by
    rcases S.par n (List.of_mem_zip hy).1 with q | q
    · exact .inl q
    · exact .inr ⟨q, PySem.W.cellsFrom_some _ _ _ (.inl q)⟩
  refine codeAny_call_function hr.depth (KX _ _ lk) rfl S.co S.gen rfl (PySem.W.codeRec_of KX hcd) (BindsTo.of_eq (hb _ _ _ _ _ _ us (by rw [← r.length]; exact hl)) _ _ _ _ ?_)
  refine wpAny_newFunctionEnv_cells S.kind hkind fun env he s1 x => ?_
  subst he
  refine ⟨lim.keeps x.toInCall.keep, codeAny_func ?_⟩
  obtain ⟨t, ht, hq⟩ := hbody cdv A outer s H vs Q p (hr.deeper _) hsp
  have I := L2H.inv_startH (CX := CX0) (E := E0) (cd := cdv) S hpin e0 hl r x
  refine wpAny_mono (ht.nox.run [] s1 (L2.start N vs) H _ I hq) (fun fl s' hs => ?_) fun e s' hs => hs
  have fin : ∀ {σ' : L2.St} {H' : Hp} {v : V} {u : Value}, Inv (L2H.cxH CX0 P w K mg base N qual scope f cdv A outer s H E0 p) [] σ' H' s' → RelV v u → Q v H' → CE outer P w H s Q u s' :=
    fun {σ' H' v u} J rv q => ⟨v, H', J.os, J.bare, J.base, J.hok, rv, q⟩
  cases fl with
  | ret u =>
    obtain ⟨v, σ', H', J, rv, q⟩ := hs
    exact fin J rv q
  | next =>
    obtain ⟨σ', H', J, q⟩ := hs
    exact fin (v := V.non) (u := Value.none) J rfl q
  | brk =>
    obtain ⟨_, _, _, q⟩ := hs
    exact False.elim q
  | cont =>
    obtain ⟨_, _, _, q⟩ := hs
    exact False.elim q

/-- what is wished of an error of the block: the manager's exit, then Wout -/
def wWith (spX : Sp) (a : Addr) (Wout : WX) : WX := fun cls d σ H => (∃ C, cls = .ref C) ∧ ∀ v1 v2 v3 : V, spX [.ref a, v1, v2, v3] H (fun v H' => v = .non ∧ Wout cls d σ H') E0
def tWith (C : Addr) (spE spX : Sp) (te : TE) (i : Nat) (tb : WX → TS) (Wout : WX) : TS := fun D σ H => te σ H fun x H1 => ∃ a dx fs, x = .ref a ∧ H1 a = some (.ins C dx fs) ∧ spE [.ref a] H1 (fun v H2 =>
  tb (wWith spX a Wout) { nx := fun σ' H' => spX [.ref a, .non, .non, .non] H' (fun _ H3 => D.nx σ' H3) E0, rt := fun r H' => spX [.ref a, .non, .non, .non] H' (fun _ H3 => D.rt r H3) E0, bk := fun σ' H' => spX [.ref a, .non, .non, .non] H' (fun _ H3 => D.bk σ' H3) E0, ct := fun σ' H' => spX [.ref a, .non, .non, .non] H' (fun _ H3 => D.ct σ' H3) E0 } (σ.set i (some v)) H2) E0
section
variable {X : Cx} {k i : Nat} {C fe fx x : Addr} {spE spX : Sp} {ctx : Expr} {te : TE} {tb : WX → TS} {Wout : WX} {y : Str} {py pos : Pos} {body : List Stmt} {pins : List (Addr × Obj)} {D : Ends}
theorem with_exc {u : Value} {s' : Shared} (hs : X.stack = X.env :: X.outer) (hf : X.env.frame = some X.env.locals) (hex : X.ex = []) (ok : X.Ok) (tk : Takes X Wout) (FX : FnW X.prog X.w X.K X.mg X.base k fx spX) (hr : Room k X.A)
    (xx : XE (X.tr (X.pn ++ pins) (Flown X.prog X.w X.A X.xe X.env x fx (SP X pins D))) (wWith spX x Wout) u s') : Flown X.prog X.w X.A X.xe X.env x fx (SP X pins D) u s' := by
  have hfr : X.A.frames = some (X.env :: X.outer) := by rw [ok.frames, hs]
  obtain ⟨a, B, sI, pins', σ', H', cls, d, rfl, J', nb, up, sky, na, os, ag, ⟨C', rfl⟩, hw⟩ := xx
  have J : Inv X pins σ' H' sI := J'.ofTry ok
  have sky' : Sky B (X.env :: X.outer) a (Zc (.ref C') d) X.env.locals s'.heap := by rw [← hs]; exact sky
  have fin : ∀ h1, HandSPX.HeldZ B (X.env :: X.outer) a (Zc (.ref C') d) X.env.locals h1 → s'.heap.UpToSlots h1 →
      wpAny (model X.prog X.w) X.A (setFlight (.ref a) none) (fun _ s2 => wpAny (model X.prog X.w) X.A (typeOf (.ref a)) (fun ty s3 => wpAny (model X.prog X.w) X.A (tracebackOf (.ref a)) (fun tb s4 =>
        wpAny (model X.prog X.w) X.A (run (.call (.ref fx) ⟨[.ref x, ty, .ref a, tb], []⟩) (some (.ref a))) (fun fl s5 => fl = .ret .none ∧ wpAny (model X.prog X.w) X.A (passOn "with" (.ref a) X.env) (SP X pins D) X.xe s5) X.xe s4) X.xe s3) X.xe s2) X.xe { s' with heap := h1 } := fun h1 hh1 up1 => by
    refine HandSPX.landsZ hh1 fun h3 fl3 up3 => ?_
    have J3 : Inv X pins σ' H' { s' with heap := h3 } := J.landed nb fl3.1 ((up.trans up1).trans up3) os ag
    obtain ⟨k1, k2, k3, oe, vs, T, oT, ts, he3, hz, hd, hv1, hnT, hTe, hT, hdT, ht3⟩ := id fl3
    have nT : H' T = none := (J.inGround nb).gone hnT
    have notFr : ∀ (b : Addr) (o : Obj) (fv : Array Value), h3.get? b = some o → o.data = .fields fv → b ∉ frs (X.env :: X.outer) := fun b o fv e dd hm => by
      obtain ⟨_, o', e', hnf⟩ := k3.mem hm
      have eo : o = o' := Option.some.inj (e.symm.trans e')
      rw [← eo] at hnf
      exact hnf _ dd
    have fa := notFr a oe vs he3 hd
    have fT := notFr T oT ts hT hdT
    have fa' : a ∉ frs X.stack := by rw [hs]; exact fa
    have fT' : T ∉ frs X.stack := by rw [hs]; exact fT
    refine wpAny_typeOf_ref he3 ?_
    rw [hz.1]
    -- the traceback's value
    have tbv : ∀ (Q : Value → Shared → Prop), (∀ v : V, ∀ u, RelV v u → Q u { s' with heap := h3 }) → wpAny (model X.prog X.w) X.A (tracebackOf (.ref a)) Q X.xe { s' with heap := h3 } := fun Q hQ => by
      unfold tracebackOf
      refine wpAny_bind (wpAny_field he3 hd hv1 ?_)
      have hsz : 1 < ts.size := by
        have z := (Array.getElem?_eq_some_iff.mp ht3).1
        omega
      obtain ⟨v1, hv1'⟩ : ∃ v1, ts[1]? = some v1 := ⟨_, Array.getElem?_eq_getElem hsz⟩
      refine wpAny_bind ?_
      refine wpAny_field hT hdT hv1' ?_
      cases e : (v1 == Value.none) with
      | true => exact wpAny_pure (hQ .non _ rfl)
      | false => exact wpAny_pure (hQ (.ref T) _ rfl)
    refine tbv _ fun v3 u3 r3 => ?_
    -- the exit runs
    have hpin : L2H.PinOk X.stack H' { s' with heap := h3 } (a, oe) := ⟨he3, na, fa', fun v z => by
      have z' : oe.data = .cell v := z
      rw [hd] at z'
      cases z'⟩
    have e3 := J3.env0
    have e3m : Env0 X.prog X.w X.K X.mg X.base (X.A.mark (some (.ref a))) X.stack { s' with heap := h3 } H' := ⟨e3.frames, e3.mod, e3.bs, e3.bsz, e3.funs, e3.frf, e3.hok, e3.bare⟩
    have hrm : L2H.RoomH k (X.A.mark (some (.ref a))) := ⟨hr.dp, hr.un⟩
    refine wpAny_run (codeAny_mono (FX (X.A.mark (some (.ref a))) X.stack { s' with heap := h3 } H' [.ref x, .ref C', .ref a, u3] [.ref x, .ref C', .ref a, v3] _ (a, oe) hrm hpin e3m (.cons rfl (.cons rfl (.cons rfl (.cons r3 .nil)))) (hw (.ref C') (.ref a) v3)) fun r s6 hq => ?_) (by intro z; cases z)
    cases r with
    | error e => exact False.elim hq
    | ok fl =>
      cases fl with
      | next => exact False.elim hq
      | brk => exact False.elim hq
      | cont => exact False.elim hq
      | ret u =>
        obtain ⟨v, H6, os6, bare6, un6, hok6, rv, ev, q6⟩ := hq
        subst ev
        obtain rfl : u = Value.none := rv
        refine ⟨rfl, ?_⟩
        have J6 : Inv X pins σ' H6 s6 := J3.call' os6 (un6.mono (fun _ z => z) (fun _ z => z)) hok6 bare6 (fun b hb => absurd hb (by simp))
        have ga : s6.heap.get? a = some oe := un6.keep a oe he3 na fa' (by simp)
        have gT : s6.heap.get? T = some oT := un6.keep T oT hT nT fT' (by simp)
        have na6 : H6 a = none := un6.free a oe he3 na (by simp)
        have nT6 : H6 T = none := un6.free T oT hT nT (by simp)
        -- what is not the exception's
        have far : ∀ b o, sI.heap.get? b = some o → b ≠ a ∧ b ≠ T := fun b o e => by
          by_cases hb : b ∈ frs X.stack
          · exact ⟨fun z => fa' (by rw [← z]; exact hb), fun z => fT' (by rw [← z]; exact hb)⟩
          · have q := nb b o e hb
            exact ⟨fun z => by
              rw [z, k2] at q
              exact (nomatch q), fun z => by
              rw [z, hnT] at q
              cases q⟩
        have far0 : ∀ b o, X.s_0.heap.get? b = some o → b ≠ a ∧ b ≠ T := fun b o e => by
          obtain ⟨o', q⟩ := J.base.there b o e (by rw [hex]; simp)
          exact far b o' q
        have farP : ∀ p ∈ X.pn ++ pins, p.1 ≠ a ∧ p.1 ≠ T := fun p hp => far p.1 p.2 (J.pin p hp).1
        obtain ⟨G, g1, g2⟩ := restrict s6.heap fun b => !(decide (b = a) || decide (b = T))
        have gIn : ∀ b o, G.get? b = some o → s6.heap.get? b = some o ∧ b ≠ a ∧ b ≠ T := fun b o e => by
          cases q : (!(decide (b = a) || decide (b = T))) with
          | false =>
            rw [g2 b q] at e
            cases e
          | true =>
            rw [g1 b q] at e
            simp only [Bool.not_eq_true', Bool.or_eq_false_iff, decide_eq_false_iff_not] at q
            exact ⟨e, q.1, q.2⟩
        have gOf : ∀ b o, b ≠ a → b ≠ T → s6.heap.get? b = some o → G.get? b = some o := fun b o h1 h2 e => by
          rw [g1 b (by simp [h1, h2])]
          exact e
        have I6 : Inv X pins σ' H6 { s6 with heap := G } := J6.less (fun b o e => (gIn b o e).1) gOf ⟨oe, vs, ga, hd⟩ ⟨oT, ts, gT, hdT⟩ na6 nT6 far0 farP
        have B6in : ∀ b o, (PySem.W.hideAll G (frs X.stack)).get? b = some o → s6.heap.get? b = some o := fun b o e => (gIn b o (PySem.W.of_hideAll _ e)).1
        have Bno : ∀ b, (b = a ∨ b = T) → (PySem.W.hideAll G (frs X.stack)).get? b = none := fun b hb => by
          cases q : (PySem.W.hideAll G (frs X.stack)).get? b with
          | none => rfl
          | some o =>
            obtain ⟨_, n1, n2⟩ := gIn b o (PySem.W.of_hideAll _ q)
            rcases hb with z | z
            · exact absurd z n1
            · exact absurd z n2
        have fl6 : HandSPX.FlyingZ (PySem.W.hideAll G (frs X.stack)) (X.env :: X.outer) a (Zc (.ref C') d) s6.heap := by
          refine ⟨B6in, Bno a (.inl rfl), ?_, oe, vs, T, oT, ts, ga, hz, hd, hv1, Bno T (.inr rfl), hTe, gT, hdT, ht3⟩
          have ff := funFrames_none (B := PySem.W.hideAll G (frs X.stack)) J6.stack fun b hb => PySem.W.hideAll_none _ hb
          rw [← hs]
          exact ff
        unfold PySem.passOn
        refine wpAny_bind (wpAny_field ga hd hv1 ?_)
        rw [if_neg (show ¬ ((Value.ref T == Value.none) = true) from by simp)]
        have goOn : wpAny (model X.prog X.w) X.A (setFlight (.ref a) X.env.frame) (fun _ s7 => wpAny (model X.prog X.w) X.A (throw (.ref a) : Sem Flow) (SP X pins D) X.xe s7) X.xe s6 := by
          rw [hf]
          refine HandSPX.setFlight_upZ fl6 fun h7 hh7 up7 => wpAny_throw (tk _ _ ?_)
          refine ⟨a, PySem.W.hideAll G (frs X.stack), { s6 with heap := G }, pins, σ', H6, .ref C', d, rfl, I6, fun b o e hb => PySem.W.hideAll_get _ e hb, ?_, .inr (.inr (by rw [← hs] at hh7; exact hh7)), na6, rfl, J6.bare, q6⟩
          exact Heap.UpToSlots.trans (Heap.UpToSlots.of_keeps fun b o e => (gIn b o e).1) up7
        first
          | exact wpAny_bind (wpAny_pure (wpAny_bind goOn))
          | exact wpAny_bind goOn
  show wpAny (model X.prog X.w) X.A (noteFrame (.ref a) X.env) _ _ _
  rcases sky' with ⟨hB, hn, hl, oe, vs, he0, hz, hd, hv1⟩ | fl | hh
  · exact HandSPX.look_newZ Zc.steady hfr hl hf he0 hB hn hd hv1 hz fin
  · exact HandSPX.looks_onZ Zc.steady hfr hf fl fin
  · exact HandSPX.againZ hf hh.2.2.2 (fin s'.heap hh (Heap.UpToSlots.refl _))
theorem ps_with (hs : X.stack = X.env :: X.outer) (hf : X.env.frame = some X.env.locals) (hex : X.ex = []) (tk : Takes X Wout) (he : PE X ctx te) (hmE : Meth X.K C "__enter__" fe) (hmX : Meth X.K C "__exit__" fx)
    (FE : FnR X.prog X.w X.K X.mg X.base (L2.CX X.prog X.w) k fe spE) (FX : FnR X.prog X.w X.K X.mg X.base (L2.CX X.prog X.w) k fx spX) (FW : FnW X.prog X.w X.K X.mg X.base k fx spX) (hr : Room k X.A) (hN : X.N.Nodup) (hi : X.N[i]? = some y) (hy : Loc X.env.scope y)
    (hb : ∀ (W : WX) (pn : List (Addr × Obj)) (xe : Value → Shared → Prop), Takes (X.tr pn xe) W → PassesOwn (model X.prog X.w) X.A X.env xe → PSs (X.tr pn xe) body (tb W))
    (hfn : X.fn y = true ∨ X.env.scope.names.lookup y = some .local := by first | exact Or.inl rfl | exact Or.inr rfl) :
    PS X (.With [⟨ctx, some (.Name y py)⟩] body pos) (tWith C spE spX te i tb Wout) := by
  refine ⟨fun pins s σ H D I h => ?_⟩
  have ok := I.ok
  refine PySem.W.kw_execN (thn (he.run pins s σ H _ I h) fun u s1 hh => ?_)
  obtain ⟨x, H1, I1, rx, a, dx, fs, ex, ea, q⟩ := hh
  subst ex
  obtain rfl : u = Value.ref a := rx
  obtain ⟨mA, O, _⟩ := ins_get I1.hok ea
  obtain ⟨od, J, _⟩ := O.look
  unfold PySem.W.KwIn
  refine with_core (b := assign (.Name y py) X.env) I1.kIn J hmE.at_ hmE.fn hmX.at_ hmX.fn (wpAny_call (codeAny_mono (run_fnR (vs := [.ref a]) FE hr passL I1 (.cons rfl .nil) q) fun r s2 hq => ?_))
  cases r with
  | error e => exact hq
  | ok fl =>
    cases fl with
    | next => exact False.elim hq
    | brk => exact False.elim hq
    | cont => exact False.elim hq
    | ret u =>
      obtain ⟨v, H2, I2, rv, q2⟩ := hq
      have st := (pg_name (X := X.wish (Flown X.prog X.w X.A X.xe X.env a fx (SP X pins D))) (pos := py) hN hi hy hfn).run pins s2 σ H2 v u (fun σ' H' => tb (wWith spX a Wout) { nx := fun σ' H' => spX [.ref a, .non, .non, .non] H' (fun _ H3 => D.nx σ' H3) E0, rt := fun r H' => spX [.ref a, .non, .non, .non] H' (fun _ H3 => D.rt r H3) E0, bk := fun σ' H' => spX [.ref a, .non, .non, .non] H' (fun _ H3 => D.bk σ' H3) E0, ct := fun σ' H' => spX [.ref a, .non, .non, .non] H' (fun _ H3 => D.ct σ' H3) E0 } σ' H') (I2.wish _) rv q2
      refine thn st fun _ s3 ⟨σ3, H3, I3, q3⟩ => ?_
      have I3' : Inv X pins σ3 H3 s3 := I3.unwish
      have bd := (hb (wWith spX a Wout) (X.pn ++ pins) (Flown X.prog X.w X.A X.xe X.env a fx (SP X pins D)) (fun u s' xx => with_exc hs hf hex ok tk FW hr xx) PassesOwn.looking).run [] s3 σ3 H3 _ (I3'.toTry _) q3
      refine wpAny_mono bd (fun f s4 h4 => ?_) fun _ _ z => z
      have leave : ∀ {σ4 : L2.St} {H4 : Hp} {R : Hp → Prop}, Inv X pins σ4 H4 s4 → spX [.ref a, .non, .non, .non] H4 (fun _ H5 => R H5) E0 →
          wpAny (model X.prog X.w) X.A (call (.ref fx) [.ref a, .none, .none, .none]) (fun _ s5 => ∃ H5, Inv X pins σ4 H5 s5 ∧ R H5) X.xe s4 := fun {σ4 H4 R} I4 h => by
        refine wpAny_call (codeAny_mono (run_fnR (vs := [.ref a, .non, .non, .non]) FX hr passL I4 (.cons rfl (.cons rfl (.cons rfl (.cons rfl .nil)))) h) fun r s5 hq => ?_)
        cases r with
        | error e => exact hq
        | ok fl =>
          cases fl with
          | next => exact False.elim hq
          | brk => exact False.elim hq
          | cont => exact False.elim hq
          | ret u =>
            obtain ⟨v, H5, I5, _, q5⟩ := hq
            exact ⟨H5, I5, q5⟩
      cases f with
      | next =>
        obtain ⟨σ4, H4, I4, q4⟩ := h4
        exact thn (leave (I4.ofTry ok) q4) fun _ s5 ⟨H5, I5, q5⟩ => ⟨σ4, H5, I5, q5⟩
      | brk =>
        obtain ⟨σ4, H4, I4, q4⟩ := h4
        exact thn (leave (I4.ofTry ok) q4) fun _ s5 ⟨H5, I5, q5⟩ => ⟨σ4, H5, I5, q5⟩
      | cont =>
        obtain ⟨σ4, H4, I4, q4⟩ := h4
        exact thn (leave (I4.ofTry ok) q4) fun _ s5 ⟨H5, I5, q5⟩ => ⟨σ4, H5, I5, q5⟩
      | ret r =>
        obtain ⟨v4, σ4, H4, I4, r4, q4⟩ := h4
        exact thn (leave (I4.ofTry ok) q4) fun _ s5 ⟨H5, I5, q5⟩ => ⟨v4, σ4, H5, I5, r4, q5⟩
end
end PW

/-! ##### XC -/
set_option Elab.async false
set_option linter.all false
set_option maxRecDepth 100000
set_option maxHeartbeats 2000000
/-! name = {k: v for ..} -/
namespace PW
open PySem PySem.Spec PyProof.Rows L2
section
variable {X : Cx}
theorem ps_setDc {i : Nat} {y : Str} {py : Pos} {kx vx tg iter : Expr} {ifs : List Expr} {scope : Scope} {own : List (Str × Nat)} {pos spos : Pos} {wi : TI} {g : TG} {tt : TT} {tk tv : TE} (hc : X.calm = true) (hN : X.N.Nodup) (hy : X.N[i]? = some y) (hyl : X.env.scope.names.lookup y = some .local)
    (hsw : swapsWith (.DictComp kx vx [⟨tg, iter, ifs, 0⟩] scope pos) (some (.Name y py)) spos.line X.env = pure true) (hi : PI X tg iter wi) (ok : BlkOk X.N X.env.scope scope own)
    (hg : ∀ (s : Shared) (H : Hp) (C : Addr) (cl : List (Str × Addr)) (fp : List Addr), PG (X.blk s H scope (compEnvC scope cl C X.env) fp) tg g) (ht : ∀ (s : Shared) (H : Hp) (C : Addr) (cl : List (Str × Addr)) (fp : List Addr), PTs (X.blk s H scope (compEnvC scope cl C X.env) fp) ifs tt)
    (hk : ∀ (s : Shared) (H : Hp) (C : Addr) (cl : List (Str × Addr)) (fp : List Addr), PE (X.blk s H scope (compEnvC scope cl C X.env) fp) kx tk)
    (he : ∀ (s : Shared) (H : Hp) (C : Addr) (cl : List (Str × Addr)) (fp : List Addr), PE (X.blk s H scope (compEnvC scope cl C X.env) fp) vx tv) (hs : ∀ x, foldedSetIterable iter X.env x = pure x := by intro _; rfl) :
    PS X (.Assign [.Name y py] (.DictComp kx vx [⟨tg, iter, ifs, 0⟩] scope pos) spos) (tAsg (tDc wi g tt tk tv (own.map (·.2))) (gName i)) := by
  refine ⟨fun pins s σ H D I h => ?_⟩
  rw [exec_Assign_Name_used _ _ _ _ hsw]
  refine wpAny_bind (wpAny_standAt (wpAny_bind ?_))
  show wpAny _ X.A (do let _ ← comprehension (.DictComp kx vx [⟨tg, iter, ifs, 0⟩] scope pos) scope X.env (firstIterPos [⟨tg, iter, ifs, 0⟩] pos) newDict false (eval iter X.env) (some (assign (.Name y py) X.env))) _ _ s
  have h : tDc wi g tt tk tv (own.map (·.2)) σ H (fun x H1 => gName i x σ H1 D.nx) := h
  refine wpAny_bind (thn (dc_core (Qf := fun _ s' => SP X pins D .next s') hc hN I hi ok hg ht hk he hs h fun L C s' m H' I' q hn f => ?_) fun _ s' hq => wpAny_pure (wpAny_pure hq))
  show wpAny _ _ (assign (.Name y py) X.env (.ref L)) _ _ _
  refine wpAny_assign_Name (store_ok2 (v := V.ref L) I' hN hy (.inl hyl) rfl (fun s2 I2 ⟨a, sb, ha⟩ => ?_) (.inr hyl))
  obtain ⟨f0, f1, f2, f3, f4, f5⟩ := f
  have haC : C ≠ a := by
    rcases ha with z | z
    · rw [z]; exact f1
    · exact fun e => f4 y a z e.symm
  refine ⟨m, hn.sameBut sb haC, fun h3 sb3 => ?_⟩
  exact ⟨_, H', I2.turned (t' := s2.toks) (fun b o hb e => (sb3.2 b hb).trans e) f0 f1 f3 f4 f5, q⟩
theorem sw_trueD {kx vx : Expr} {gs : List Comprehension} {scope : Scope} {pos py : Pos} {y : Str} {l : Nat} {env : Env} (hk : env.scope.kind = .function) (hy : env.scope.names.lookup y = some .local) (hl : (py.line == pos.line) = true)
    (ha : (scope.names.any fun (n, k) => n == y && (k == .local || k == .cell)) = false) : swapsWith (.DictComp kx vx gs scope pos) (some (.Name y py)) l env = pure true := by
  have ky : env.kindOf y = some .local := hy
  have hb : env.blockKind = .function := by unfold Env.blockKind; rw [hk]; rfl
  unfold swapsWith
  simp only [hb, ky, ha, Expr.pos, hl]
  rfl
theorem w_lockS {t : TS} {D : Ends} {σ : L2.St} {H : Hp} {d : Addr} {u : HO} (hd : H d = some u) (hm : Mut (some u)) (h : ∀ od, t ⟨fun σ' H' => H' d = some (.frz od u) ∧ D.nx σ' (upd H' d u), fun v H' => H' d = some (.frz od u) ∧ D.rt v (upd H' d u), fun σ' H' => H' d = some (.frz od u) ∧ D.bk σ' (upd H' d u), fun σ' H' => H' d = some (.frz od u) ∧ D.ct σ' (upd H' d u)⟩ σ (upd H d (.frz od u))) : tLock t D σ H := ⟨d, u, hd, hm, h⟩
end
end PW

/-! ##### XD -/
set_option Elab.async false
set_option linter.all false
set_option maxRecDepth 100000
set_option maxHeartbeats 4000000
/-! {**d, k: v} -/
namespace PWD
open PySem PySem.Spec PyProof.Rows L2
section
variable {prog : Program} {w : World} {A : Around} {E : Value → Shared → Prop} {s : Shared}
theorem put_pairs {d : Addr} {kvs : List (Key × Value)} {k : Key} {key v : Value} {Q : Unit → Shared → Prop} (hkey : (mixKind prog w).is k key = true) (hm : s.heap.DictOf (mixKind prog w) d kvs)
    (hQ : ∀ h', h'.DictOf (mixKind prog w) d (stored kvs k v) → Heap.SameBut d s.heap h' → Q () { s with heap := h' }) (hsz : kvs.length ≤ sizeLine) :
    wpAny (model prog w) A (dictPut d ((mixKind prog w).hash k) key v) Q E s := by
  obtain ⟨o, es, ep, ho, hc, hd, hk, hp, hn⟩ := hm
  have hl0 : es.size ≤ sizeLine := by
    have e1 := hp.length
    have e2 : es.toList.length = es.size := by simp
    omega
  unfold dictPut
  refine wpAny_bind (wpAny_dictFind_of hkey ho hd hk ?_)
  have ix : (es.findIdx? fun e => (mixKind prog w).is k e.key) = kvs.findIdx? fun kv => decide (kv.1 = k) := by
    rw [← hp.findIdx k]
    obtain ⟨l⟩ := es
    simp
  cases hi : es.findIdx? fun e => (mixKind prog w).is k e.key with
  | some i =>
    have here := any_of_findIdx_some (ix ▸ hi)
    refine wpAny_updateDict ho hd (hQ _ ⟨_, _, ep, Heap.get?_update_self _ ho (Obj.isFreed_of_dict (Obj.data_mapDict hd _)), hc.mapDict _, Obj.data_mapDict hd _, hk.modify _ _, ?_, ?_⟩ (Heap.SameBut.update ..))
    · rw [stored, if_pos here]
      have hl : (es.toList.findIdx? fun e => (mixKind prog w).is k e.key) = some i := by
        rw [← hi]
        obtain ⟨l⟩ := es
        simp
      have z := hp.modify hn hl v
      obtain ⟨l⟩ := es
      simpa using z
    · rw [stored, if_pos here, keys_map_store]
      exact hn
  | none =>
    have out : k ∉ kvs.map (·.1) := not_mem_of_findIdx_none (ix ▸ hi)
    have nany : ¬ (kvs.any fun kv => decide (kv.1 = k)) = true := by
      rw [List.any_eq_true]
      rintro ⟨kv, hkv, he⟩
      exact out (List.mem_map.mpr ⟨kv, hkv, of_decide_eq_true he⟩)
    refine wpAny_updateDictKeys (hz := hl0) ho hd (hQ _ ⟨_, _, ep + 1, Heap.get?_update_self _ ho (Obj.isFreed_of_dict (Obj.data_mapDictKeys hd _)), hc.mapDictKeys _, Obj.data_mapDictKeys hd _, hk.push hkey _, ?_, ?_⟩ (Heap.SameBut.update ..))
    · rw [stored, if_neg nany]
      have z := hp.append hkey ((mixKind prog w).hash k) v
      obtain ⟨l⟩ := es
      simpa using z
    · rw [stored, if_neg nany, List.map_append, List.nodup_append]
      refine ⟨hn, by simp, ?_⟩
      intro a ha b hb
      simp only [List.map_cons, List.map_nil, List.mem_singleton] at hb
      subst hb
      exact fun e => out (e ▸ ha)
theorem merge_pairs {d a : Addr} {kvs more : List (Key × Value)} {Q : Unit → Shared → Prop} (hda : d ≠ a) (haS : (a == sysModules) = false) (hd : s.heap.DictOf (mixKind prog w) d kvs) (ha : s.heap.DictOf (mixKind prog w) a more)
    (hQ : ∀ h', h'.DictOf (mixKind prog w) d (merged kvs more) → h'.DictOf (mixKind prog w) a more → Heap.SameBut d s.heap h' → Q () { s with heap := h' }) (hsz : kvs.length + more.length ≤ sizeLine) :
    wpAny (model prog w) A (mergeMapping d (.ref a) false) Q E s := by
  have hT : s.TypeIs (.ref a) "dict" := ha.typeIs
  obtain ⟨od, esd, epd, hod, hcd, hdd, hkd, hpd, hnd⟩ := id hd
  obtain ⟨oo, eso, epo, hoo, hco, hdo', hko, hpo, hno⟩ := id ha
  have hlen : more.length = eso.size := by rw [← hpo.length]; simp
  unfold mergeMapping
  refine wpAny_bind (wpAny_isInstance (b := true) hT (by rw [isSubtype_type]; kernel_rfl) ?_)
  rw [if_pos rfl]
  refine wpAny_bind (wpAny_specialOf hT F.slot_dict_iter.lookup ?_)
  refine wpAny_bind (wpAny_pure ?_)
  simp only [beq_self_eq_true, haS, Bool.false_eq_true, if_false]
  have loop : wpAny (model prog w) A (do
      let es ← dictEntries a
      let epoch ← dictEpoch a
      forIn (List.range es.size) PUnit.unit fun i (_ : PUnit) => (do
          let l' ← dictEntries a
          match l'[i]? with
            | some e => do
              holding [e.key, e.val] (dictPut d e.hash e.key e.val)
              let ep' ← dictEpoch a
              if (ep' != epoch) = true then do
                  (unsupported "dict.changed-during-merge" : Sem PUnit)
                  pure (ForInStep.yield PUnit.unit)
                else pure (ForInStep.yield PUnit.unit)
            | _ => do
              (unsupported "dict.changed-during-merge" : Sem PUnit)
              pure (ForInStep.yield PUnit.unit) : Sem (ForInStep PUnit))
      pure ()) Q E s := by
    refine wpAny_bind (wpAny_dictEntries hoo hdo' ?_)
    refine wpAny_bind (wpAny_dictEpoch hoo hdo' ?_)
    refine wpAny_bind ?_
    rw [List.range_eq_range']
    refine wpAny_forIn_list _
      (fun rest _ s' => ∃ h' i, s' = { s with heap := h' } ∧ rest = List.range' i (eso.size - i) ∧ i ≤ eso.size ∧ h'.DictOf (mixKind prog w) d (merged kvs (more.take i)) ∧ h'.get? a = some oo ∧ Heap.SameBut d s.heap h')
      _ ?_ ?_ _ _ ⟨s.heap, 0, rfl, by simp, Nat.zero_le _, by simpa [merged] using hd, hoo, Heap.SameBut.refl _ _⟩
    · rintro x rest b s' ⟨h', i, rfl, hr, hi, hd1, hoo1, hs1⟩
      have hlt : i < eso.size := by
        rcases Nat.lt_or_ge i eso.size with z | z
        · exact z
        · rw [Nat.sub_eq_zero_of_le z] at hr
          simp at hr
      obtain ⟨rfl, hrest⟩ : x = i ∧ rest = List.range' (i + 1) (eso.size - (i + 1)) := by
        have e : eso.size - i = (eso.size - (i + 1)) + 1 := by omega
        rw [e, List.range'_succ] at hr
        injection hr with z1 z2
        exact ⟨z1, z2⟩
      refine wpAny_bind (wpAny_dictEntries hoo1 hdo' ?_)
      rw [Array.getElem?_eq_getElem hlt]
      obtain ⟨⟨k, v⟩, hkv⟩ : ∃ kv, more[x]? = some kv := ⟨more[x]'(by rw [hlen]; exact hlt), List.getElem?_eq_getElem _⟩
      obtain ⟨hkey, hval⟩ := hpo.get? (e := eso[x]) (by simp [hlt]) hkv
      obtain ⟨k', hkey', hhash⟩ := hko eso[x] (Array.getElem_mem hlt)
      obtain rfl : k' = k := (mixKind prog w).inj _ _ _ hkey' hkey
      show wpAny _ _ (holding [eso[x].key, eso[x].val] (dictPut d eso[x].hash eso[x].key eso[x].val) >>= _) _ _ _
      rw [hhash, hval]
      have hmx : (merged kvs (more.take x)).length ≤ sizeLine := by
        have e1 := merged_length_le kvs (more.take x)
        have e2 : (more.take x).length ≤ more.length := by rw [List.length_take]; omega
        omega
      refine wpAny_bind (wpAny_holding (put_pairs (k := k') hkey hd1 (fun h2 hd2 hs2 => ?_) hmx))
      have hoo2 : h2.get? a = some oo := (hs2.2 a (Ne.symm hda)).trans hoo1
      refine wpAny_bind (wpAny_dictEpoch hoo2 hdo' ?_)
      rw [if_neg (by simp)]
      exact wpAny_pure ⟨h2, x + 1, rfl, hrest, hlt, by rw [merged_take_succ kvs more x (k', v) hkv]; exact hd2, hoo2, hs1.trans hs2⟩
    · rintro b s' ⟨h', i, rfl, hr, hi, hd1, hoo1, hs1⟩
      have hin : i = eso.size := by
        rcases Nat.lt_or_ge i eso.size with z | z
        · have e : eso.size - i = (eso.size - (i + 1)) + 1 := by omega
          rw [e, List.range'_succ] at hr
          exact nomatch hr
        · exact Nat.le_antisymm hi z
      refine wpAny_pure (hQ h' ?_ ⟨oo, eso, epo, hoo1, hco, hdo', hko, hpo, hno⟩ hs1)
      rw [hin, ← hlen, List.take_length] at hd1
      exact hd1
  refine wpAny_bind (wpAny_dictEntries hod hdd ?_)
  cases hem : esd.isEmpty with
  | false => exact loop
  | true =>
    show wpAny _ _ (dictEntries a >>= _) _ _ _
    refine wpAny_bind (wpAny_dictEntries hoo hdo' ?_)
    refine wpAny_bind ?_
    rw [← Array.forIn_toList]
    refine wpAny_forIn_list _ (fun rest _ s' => s' = s ∧ ∀ e ∈ rest, e ∈ eso.toList) _ ?_ ?_ _ _ ⟨rfl, fun _ z => z⟩
    · rintro x rest b s' ⟨rfl, hm⟩
      obtain ⟨k, hk1, _⟩ := hko x (Array.mem_toList_iff.mp (hm x List.mem_cons_self))
      rcases keyIs_shape (show keyIs k x.key = true from hk1) with ⟨i, t, _, e⟩ | ⟨y, t, _, e⟩
      · simp only [e]
        exact wpAny_pure ⟨rfl, fun z hz => hm z (List.mem_cons_of_mem _ hz)⟩
      · simp only [e]
        exact wpAny_pure ⟨rfl, fun z hz => hm z (List.mem_cons_of_mem _ hz)⟩
    · rintro b s' ⟨rfl, _⟩
      exact loop
end
end PWD
namespace PW
open PySem PySem.Spec PyProof.Rows L2 PWD
def tDmerge (te tk tv : TE) : TE := fun σ H Q => ∀ d, H d = none → te σ (upd H d (.dK [])) fun x H1 => ∃ a kvs, x = .ref a ∧ Rd H1 a (.dK kvs) ∧ a ≠ d ∧ kvs.length < sizeLine ∧ (kvs.map (·.1)).Nodup ∧ H1 d = some (.dK []) ∧
  ∀ p, upd H1 d (.dK kvs) p = none → tk σ (upd (upd H1 d (.dK kvs)) p (.dK [])) fun y H2 => tv σ H2 fun z H3 => ∃ k, y = kV k ∧ H3 p = some (.dK []) ∧ H3 d = some (.dK kvs) ∧ d ≠ p ∧
    Q (.ref d) (upd (upd H3 p (.dK [(k, z)])) d (.dK (putK kvs k z)))
section
variable {X : Cx} {e k v : Expr} {te tk tv : TE} {pos : Pos}
theorem pe_dmerge (he : PE X e te) (hk : PE X k tk) (hv : PE X v tv) : PE X (.Dict [none, some k] [e, v] pos) (tDmerge te tk tv) := by
  refine ⟨fun pins s σ H Q I q => ?_⟩
  rw [arm_eval_Dict]
  show wpAny _ _ (standAt pos >>= fun _ => dictDisplay [(none, do let x ← eval e X.env; standAt pos; pure x), (some (eval k X.env), do let x ← eval v X.env; standAt pos; pure x)]) _ _ _
  refine wpAny_bind (wpAny_standAt ?_)
  unfold dictDisplay
  dsimp only
  refine wpAny_bind ?_
  rw [List.forIn_cons]
  refine wpAny_bind ?_
  show wpAny _ _ ((pure (none : Option Addr) : Sem (Option Addr)) >>= _) _ _ _
  refine wpAny_bind (wpAny_pure ?_)
  dsimp only
  have hn := I.hok.fresh (Nat.le_refl s.heap.objs.size)
  have I1 := I.laid (a := s.heap.objs.size) (o := .dK []) (h' := s.heap.push { cls := .type "dict", data := .dict #[] }) (t' := s.toks) (fun _ _ q => Heap.get?_push_of_some _ q) (Nat.le_refl _) (dk_empty s.heap I.big)
  refine wpAny_bind (wpAny_alloc (wpAny_bind (wpAny_holding (wpAny_bind (thn (he.run pins _ σ _ _ I1 (q _ hn)) fun u s2 hh => wpAny_bind (wpAny_standAt (wpAny_pure ?_)))))))
  obtain ⟨x, H1, I2, rx, a, kvs, ex, ha, hne, hz, hnd, hd, q2⟩ := hh
  subst ex
  obtain rfl : u = Value.ref a := rx
  obtain ⟨_, haS, vsa, rva, dda⟩ := dk_rd I2.hok ha
  obtain ⟨_, hdS, vsd, rvd, ddd⟩ := dk_of I2.hok hd
  cases rvd
  have hl := rva.length
  refine wpAny_bind (wpAny_onRaise (wpAny_tryCatch (wpAny_onRaise (wpAny_holding (merge_pairs (Ne.symm hne) haS ddd dda (fun h3 dd3 _ sb3 => ?_) (by rw [List.length_nil]; omega))))))
  have e3 : merged [] vsa = vsa := merged_nil_of_nodup vsa (by rw [← rva.keys]; exact hnd)
  rw [e3] at dd3
  have he3 : ∃ q, h3.get? s.heap.objs.size = some q := let ⟨q, _, _, hq, _⟩ := dd3; ⟨q, hq⟩
  have I3 : Inv X pins σ (upd H1 s.heap.objs.size (.dK kvs)) { s2 with heap := h3, toks := s2.toks } := d_write I2 (by rw [hd]; exact True.intro) sb3 he3 (dk_new (by omega) hdS rva dd3)
  refine wpAny_pure ?_
  dsimp only
  rw [List.forIn_cons]
  refine wpAny_bind ?_
  have e17 : ((([] : List (Sem Value × Sem Value)) ++ [(eval k X.env, do let x ← eval v X.env; standAt pos; pure x)]).length == 17) = false := rfl
  dsimp only
  rw [e17, if_neg (by decide)]
  refine wpAny_pure ?_
  dsimp only
  rw [List.forIn_nil]
  refine wpAny_pure ?_
  dsimp only
  rw [List.nil_append, if_neg (by simp)]
  refine wpAny_bind ?_
  try dsimp only
  refine wpAny_bind (wpAny_holding ?_)
  have hp := I3.hok.fresh (Nat.le_refl h3.objs.size)
  have I4 := I3.laid (a := h3.objs.size) (o := .dK []) (h' := h3.push { cls := .type "dict", data := .dict #[] }) (t' := s2.toks) (fun _ _ q => Heap.get?_push_of_some _ q) (Nat.le_refl _) (dk_empty h3 I3.big)
  refine wpAny_subDict (knd := mixKind X.prog X.w) (by simp) ?_
  refine evalPairs_cons ?_
  refine thn (hk.run pins _ σ _ _ I4 (q2 _ hp)) fun ku s5 ⟨y, H2, I5, ry, q5⟩ => ?_
  refine wpAny_bind (thn (hv.run pins s5 σ H2 _ I5 q5) fun vu s6 ⟨z, H3, I6, rz, k0, ey, hp3, hd3, hdp, q6⟩ => wpAny_bind (wpAny_standAt (wpAny_pure ?_)))
  subst ey
  refine evalPairs_nil ?_
  obtain ⟨_, hpS, vsp, rvp, ddp⟩ := dk_of I6.hok hp3
  cases rvp
  refine ⟨[(k0, vu)], ⟨kV_is ry, rfl, True.intro⟩, ddp, fun h7 dd7 sb7 => ?_⟩
  have rel7 : KV [(k0, z)] (merged [] [(k0, vu)]) := KV.merge (more := [(k0, z)]) (rs := [(k0, vu)]) (.cons ⟨rfl, rz⟩ .nil) .nil
  have he7 : ∃ q, h7.get? h3.objs.size = some q := let ⟨q, _, _, hq, _⟩ := dd7; ⟨q, hq⟩
  have I7 : Inv X pins σ (upd H3 h3.objs.size (.dK [(k0, z)])) { s6 with heap := h7, toks := s6.toks + [(ku, vu)].length } := d_write I6 (by rw [hp3]; exact True.intro) sb7 he7 (dk_new (by rw [sizeLine_eq]; simp) hpS rel7 dd7)
  have hd7 : (upd H3 h3.objs.size (.dK [(k0, z)])) s.heap.objs.size = some (.dK kvs) := by rw [upd_ne hdp]; exact hd3
  obtain ⟨_, _, vsd7, rvd7, ddd7⟩ := dk_of I7.hok hd7
  have hl7 := rvd7.length
  refine wpAny_bind (wpAny_onRaise (wpAny_holding (merge_pairs hdp hpS ddd7 dd7 (fun h8 dd8 _ sb8 => ?_) (by simp [merged, stored]; omega))))
  have he8 : ∃ q, h8.get? s.heap.objs.size = some q := let ⟨q, _, _, hq, _⟩ := dd8; ⟨q, hq⟩
  have rel8 : KV (putK kvs k0 z) (merged vsd7 (merged [] [(k0, vu)])) := KV.merge (more := [(k0, z)]) rel7 rvd7
  have hlp := length_putK kvs k0 z
  have I8 : Inv X pins σ (upd (upd H3 h3.objs.size (.dK [(k0, z)])) s.heap.objs.size (.dK (putK kvs k0 z))) { { s6 with heap := h7, toks := s6.toks + [(ku, vu)].length } with heap := h8, toks := s6.toks + [(ku, vu)].length } := d_write (s := { s6 with heap := h7, toks := s6.toks + [(ku, vu)].length }) I7 (by rw [hd7]; exact True.intro) sb8 he8 (dk_new (by omega) hdS rel8 dd8)
  exact wpAny_pure (wpAny_pure ⟨.ref s.heap.objs.size, _, I8, rfl, q6⟩)
end
end PW

/-! ##### XE -/
set_option Elab.async false
set_option linter.all false
set_option maxRecDepth 100000
set_option maxHeartbeats 2000000
/-! calls by positional promises -/
namespace PW
open PySem PySem.Spec PyProof.Rows L2
section
variable {P : Program} {w : World} {K : PySem.W.Frag} {mg : Str → Option Value} {base : Heap} {x qual : Str} {params : Arguments} {body : List Stmt} {scope : Scope} {f : Addr} {fd : FuncData}
/-- a def without defaults: its promise by positional values -/
theorem fnR_of {N ps : List Str} {k : Nat} {sp : Sp} (F : FunD K x qual params body scope [] [] f fd) (S : FnScope N ps scope) (len : ∀ vs H Q E, sp vs H Q E → vs.length = ps.length)
    (hb : ∀ (kV doc pm : Value) (an : Option Addr) (cdv ct : Value) (us : List Value), us.length = ps.length → bindArgs (PySem.W.fnOf x qual params body scope .none kV doc pm an cdv ct) ⟨us, []⟩ = pure (ps.zip us))
    (hbody : ∀ (cdv : Value) (A : Around) (outer : List Env) (s : Shared) (H : Hp) (vs : List V) (Q : VK) (E : XK), Room k (A.deeper (envOfC qual scope s.heap.objs.size f cdv)) → sp vs H Q E →
      ∃ t, PSs (cxOf (L2.CX P w) P w K mg base N qual scope f cdv A outer s H E) body t ∧ t { nx := fun _ H' => Q .non H', rt := Q } (start N vs) H) : FnR P w K mg base (L2.CX P w) (k + 1) f sp := by
  have G : FnOk P w K mg base (L2.CX P w) (k + 1) f fd ps sp := F.ok S len hbody
  refine ((G.raw (F.bindsN hb) (dvs := []) .nil).imp fun vs H Q E h => ?_)
  rw [List.append_nil]
  exact h
end
section
variable {X : Cx} {CX : CXT} {k : Nat} {f C : Addr} {sp : Sp} {E : XK} {x m : Str} {e o : Expr} {es : List Expr} {te ta : TE} {t : TA} {p pos apos : Pos}
/-- a call by a positional promise -/
def tCallR (sp : Sp) (E : XK) (t : TA) : TE := fun σ H Q => t σ H fun vs H1 => sp vs H1 Q E
theorem pe_callS (F : FnR X.prog X.w X.K X.mg X.base CX k f sp) (hr : Room k X.A) (hg : Gl X x) (hm : X.mg x = some (.ref f)) (hk : PySem.W.keepIn X.K (.ref f) = true) (hx : Passes CX X E) (ha : PA X (e :: es) t) (hd : (x == ("__debug__" : Str)) = false := by decide)
    (he : starEach (e :: es) X.env = (false, eval e X.env) :: starEach es X.env := by rfl) (hst : (backTo pos (starEach es X.env)).any (·.1) = true := by rfl) : PE X (.Call (.Name x p) (e :: es) [] pos) (tCallR sp E t) := StX.pe_callS2 F hr hk hg hm hx ha hd he hst
theorem pe_callR (F : FnR X.prog X.w X.K X.mg X.base CX k f sp) (hr : Room k X.A) (hg : Gl X x) (hm : X.mg x = some (.ref f)) (hk : PySem.W.keepIn X.K (.ref f) = true) (hx : Passes CX X E)
    (ha : PA X (e :: es) t) (hdb : (x == ("__debug__" : Str)) = false := by decide) (he : starEach (e :: es) X.env = (false, eval e X.env) :: starEach es X.env := by rfl) (hpl : (backTo pos (starEach es X.env)).any (·.1) = false := by rfl) :
    PE X (.Call (.Name x p) (e :: es) [] pos) (tCallR sp E t) := by
  refine ⟨fun pins s σ H Q I h => ?_⟩
  refine wpAny_Call_Name_kw (ld_glob I hg hm ?_ hdb)
  refine PySem.W.callWith_K (h₀ := X.base) I.ok.mod.kin hk (thn (ha.run pos pins s σ H _ I h) fun us s1 ⟨vs, H1, I1, r, q⟩ => ⟨I1.kIn, ?_⟩) he hpl
  exact wpAny_call (run_fnR F hr hx I1 r q)
theorem pe_callR0 (F : FnR X.prog X.w X.K X.mg X.base CX k f sp) (hr : Room k X.A) (hg : Gl X x) (hm : X.mg x = some (.ref f)) (hk : PySem.W.keepIn X.K (.ref f) = true) (hx : Passes CX X E)
    (hdb : (x == ("__debug__" : Str)) = false := by decide) : PE X (.Call (.Name x p) [] [] pos) (tCallR sp E tNil) := by
  refine ⟨fun pins s σ H Q I h => ?_⟩
  refine wpAny_Call_Name_kw (ld_glob I hg hm ?_ hdb)
  exact PySem.W.callWith_K0 I.kIn hk (wpAny_call (run_fnR (us := []) F hr hx I .nil h))
theorem pe_methR0 {pl : Sem Bool} (he : PE X o ta) (c : Cls X.K C) (hm : Meth X.K C m f) (F : FnR X.prog X.w X.K X.mg X.base CX k f sp) (hr : Room k X.A) (hx : Passes CX X E)
    (ht : eval (.Call (.Attribute o m apos) [] [] pos) X.env = (do
      let ov ← eval o X.env
      standAt apos.atName
      let (f, first) ← holding [ov] (getMethod ov m pl)
      callWith pos f first (backTo pos (starEach [] X.env)) (backToKw pos (keywordEach [] X.env))) := by rfl) :
    PE X (.Call (.Attribute o m apos) [] [] pos) (tMethR C m sp E ta tNil) := by
  refine ⟨fun pins s σ H Q I h => ?_⟩
  refine PySem.W.methodCall_KW (pl := pl) (thn (he.run pins s σ H _ I h) fun u s1 ⟨x, H1, I1, rx, a, dx, fs, ex, ea, l, q⟩ => ?_) ht
  subst ex
  obtain rfl : u = Value.ref a := rx
  refine getmeth_ok I1 ea c hm l ?_
  exact PySem.W.callWith_K0 (first := [.ref a]) I1.kIn hm.kp (wpAny_call (run_fnR (us := [.ref a]) (vs := [.ref a]) F hr hx I1 (.cons rfl .nil) q))

theorem starcallN_of {M : Model} {A : Around} {E : Value → Shared → Prop} {s : Shared} {env : Env} {o : Expr} {es : List Expr} {m : Str} {apos pos : Pos} {Q : Value → Shared → Prop} (hbase : attributeBase o m env (eval o env) = eval o env)
    (hform : methodCallForm (es.length + ([] : List Keyword).length) (backTo pos (starEach es env)) [] = false)
    (h : wpAny M A (eval o env) (fun ov s₁ => wpAny M A (getAttr ov m true) (fun f s₂ => wpAny M A (callWith pos f [] (backTo pos (starEach es env)) []) Q E s₂) E s₁) E s) :
    wpAny M A (eval (.Call (.Attribute o m apos) es [] pos) env) Q E s := by
  have hke : backToKw pos (keywordEach [] env) = [] := rfl
  have hpos : methodCallPos false o env apos pos = pure pos := rfl
  have hcal : ∀ ov, calleeOf false o env ov m = (getAttr ov m true >>= fun v => pure (v, [])) := fun _ => rfl
  rw [arm_eval_Call, hbase, hke]
  refine wpAny_bind (wpAny_mono h (fun ov s₁ h₁ => ?_) fun _ _ x => x)
  refine wpAny_bind (wpAny_standAt ?_)
  unfold methodCall
  rw [hform, hpos, hcal]
  refine wpAny_bind (wpAny_holding (wpAny_bind (wpAny_mono h₁ (fun f s₂ h₂ => wpAny_pure ?_) fun _ _ x => x)))
  exact wpAny_bind (wpAny_pure h₂)
/-- o.m(a, .., *y): the bound method is made first -/
def tMethSN (C : Addr) (m : Str) (g : Addr) (sp : Sp) (E : XK) (ta : TE) (t : TA) : TE := fun σ H Q => ta σ H fun x H1 => ∃ a dx fs, x = .ref a ∧ H1 a = some (.ins C dx fs) ∧ fs.lookup m = none ∧
  ∀ q, H1 q = none → t σ (upd H1 q (.met g a)) fun vs H2 => H2 q = some (.met g a) ∧ sp (.ref a :: vs) H2 Q E
theorem pe_methSN {g : Addr} (he : PE X o ta) (c : Cls X.K C) (b : BMeth X.K C m g) (F : FnR X.prog X.w X.K X.mg X.base CX k g sp) (hr : Room k X.A)
    (hx : Passes CX X E) (ha : PA X (e :: es) t) (hbase : attributeBase o m X.env (eval o X.env) = eval o X.env := by rfl)
    (hform : methodCallForm ((e :: es).length + ([] : List Keyword).length) (backTo pos (starEach (e :: es) X.env)) [] = false := by rfl)
    (hst1 : starEach (e :: es) X.env = (false, eval e X.env) :: starEach es X.env := by rfl) (hst : (backTo pos (starEach es X.env)).any (·.1) = true := by rfl) : PE X (.Call (.Attribute o m apos) (e :: es) [] pos) (tMethSN C m g sp E ta t) := by
  refine ⟨fun pins s σ H Q I h => ?_⟩
  refine starcallN_of hbase hform (thn (he.run pins s σ H _ I h) fun u s1 ⟨x, H1, I1, rx, a, dx, fs, ex, ea, l, q⟩ => ?_)
  subst ex
  obtain rfl : u = Value.ref a := rx
  refine getbound_ok I1 ea c b l fun q1 s2 hq1 I2 => ?_
  have hh := ha.run pos pins s2 σ _ _ I2 (q q1 hq1)
  rw [hst1] at hh ⊢
  refine PySem.W.ks_call (P := PySem.W.MethP X.K q1 g (.ref a)) (by show (false || (backTo pos (starEach es X.env)).any (·.1)) = true; rw [hst]; rfl) (PySem.W.keeps_M b.fi) (Calls.evalArgs_plain (thn hh fun us s3 hu => ?_))
  obtain ⟨vs, H2, I3, r, hm, hsp⟩ := hu
  show PySem.W.MethP X.K q1 g (.ref a) s3.heap ∧ wpAny (model X.prog X.w) X.A (call (.ref q1) us []) (EP X pins σ Q) X.xe s3
  exact ⟨met_P I3 hm, wpAny_call (PySem.W.method_call (met_P I3 hm).1 (run_fnR (us := Value.ref a :: us) (vs := V.ref a :: vs) F hr hx I3 (.cons rfl r) hsp))⟩

/-! a property by a positional promise -/
def tPropR (C : Addr) (sp : Sp) (E : XK) (ta : TE) : TE := fun σ H Q => ta σ H fun x H1 => ∃ a dx fs, x = .ref a ∧ H1 a = some (.ins C dx fs) ∧ sp [.ref a] H1 Q E
theorem getpropR {a g dx : Addr} {fs : List (Str × V)} {pins : List (Addr × Obj)} {σ : L2.St} {H : Hp} {s : Shared} {Q : VK} {b : Bool} {E' : Value → Shared → Prop} {pr : Addr} (I : Inv X pins σ H s) (ea : H a = some (.ins C dx fs)) (c : Cls X.K C) (hp : PropOf X.K C m pr g)
    (F : FnR X.prog X.w X.K X.mg X.base CX k g sp) (hr : Room (k + 1) X.A) (hx : Passes CX X.nox E) (h : sp [.ref a] H Q E) :
    wpAny (model X.prog X.w) X.A (getAttr (.ref a) m b) (EP X pins σ Q) E' s := by
  obtain ⟨mA, O, _, _, _, _⟩ := ins_get I.hok ea
  obtain ⟨od, J, _⟩ := O.look
  obtain ⟨rest, hrec⟩ := hp.rec_
  have I1 := I.tok (s.toks + 1)
  have hc : (PySem.W.clsIn X.K C).isSome = true := by
    obtain ⟨cd, hc, _⟩ := PySem.W.any_some c.hd
    rw [hc]
    rfl
  refine PySem.W.get_bind I.kIn J (PySem.W.plainGet_of (c.get m)).1 (PySem.W.findObj_data hc hp.at_ hp.get hp.tak) (PySem.W.plainGet_of (c.get m)).2 (wpAny_call (PySem.W.prop_get (s := { s with toks := s.toks + 1 }) I.kIn hrec ?_))
  refine codeAny_mono (F X.A.in1 X.stack { s with toks := s.toks + 1 } H [.ref a] [.ref a] Q E hr.in1 I1.env0.in1 (.cons rfl .nil) h) fun r s' hq => ?_
  cases r with
  | error er => exact False.elim (hx pins σ H { s with toks := s.toks + 1 } er s' (I1.wish _) hq)
  | ok fl =>
    cases fl with
    | ret u =>
      obtain ⟨v, H', I3, rv, q3⟩ := I1.after hq
      show wpAny _ _ (handedOut u) _ _ _
      rw [PySem.W.handedOut_of (handed_of rv)]
      exact wpAny_pure ⟨v, H', I3, rv, q3⟩
    | next => exact False.elim hq
    | brk => exact False.elim hq
    | cont => exact False.elim hq
theorem pe_propR {g pr : Addr} (he : PE X e ta) (c : Cls X.K C) (hp : PropOf X.K C m pr g) (F : FnR X.prog X.w X.K X.mg X.base CX k g sp) (hr : Room (k + 1) X.A) (hx : Passes CX X.nox E)
    (hab : attributeBase e m X.env (eval e X.env) = eval e X.env := by rfl) : PE X (.Attribute e m pos) (tPropR C sp E ta) := by
  refine ⟨fun pins s σ H Q I h => ?_⟩
  refine attr_of hab (thn (he.run pins s σ H _ I h) fun u s1 ⟨x, H1, I1, rx, a, dx, fs, ex, ea, q⟩ => ?_)
  subst ex
  obtain rfl : u = Value.ref a := rx
  exact getpropR I1 ea c hp F hr hx q
end
end PW

/-! ##### XF -/
set_option Elab.async false
set_option linter.all false
set_option maxRecDepth 100000
set_option maxHeartbeats 2000000
/-! raise X() of an own class without __init__; calls whose errors are wished for at the caller's slots -/
namespace PW
open PySem PySem.Spec PyProof.Rows L2
structure XOwn (K : PySem.W.Frag) (mg : Str → Option Value) (x : Str) (C : Addr) : Prop where
  gC : mg x = some (.ref C)
  q : PySem.W.excIn K C bmRun "RuntimeError.__new__" = true
  kC : PySem.W.keepIn K (.ref C) = true
  exC : PySem.W.subIn K (.ref C) (.type "BaseException") = some true
  tyC : PySem.W.typeIn K (.ref C) = some (.type "type")
section
variable {X : Cx} {C : Addr}
theorem pmk_own0 {x : Str} {p pos : Pos} (T : XOwn X.K X.mg x C) (hg : Gl X x) (hdb : (x == ("__debug__" : Str)) = false := by decide) : PMk X (.Call (.Name x p) [] [] pos) (fun _ H Q => Q (.ref C) none H) := by
  intro pins s σ H Q I h
  refine wpAny_Call_Name_kw (ld_glob I hg T.gC ?_ hdb)
  refine PySem.W.callWith_K0 I.kIn T.kC ?_
  show wpAny _ _ (call (.ref C) []) _ _ _
  obtain ⟨bm, N, nm, qn, bs, hdct, sn, sub, ab, col, dd, k0, k1, k2, k3, k5, mN, hC, hN, hni, T2⟩ := exc_obj I.kIn T.q
  refine wpAny_call_exc_subT PySem.F.excBase_RuntimeError T2 hC hN hni (fun h' e hm => ?_) (by show 0 ≤ sizeLine; exact Nat.zero_le _)
  exact mk_of I hm (raises_own T.exC T.tyC) h (I.hok.gone hm.new)
def tRaise0 (C : Addr) (W : WX) : TS := fun _ σ H => W (.ref C) none σ H
theorem ps_raise0 {W : WX} {x : Str} {p pos pos2 : Pos} (T : XOwn X.K X.mg x C) (hc : X.calm = true) (tk : Takes X W) (hg : Gl X x := by rfl) (hdb : (x == ("__debug__" : Str)) = false := by decide) : PS X (.Raise (some (.Call (.Name x p) [] [] pos)) none pos2) (tRaise0 C W) := ps_raise hc tk (pmk_own0 T hg hdb)
end
section
variable {X : Cx} {CX : CXT} {k : Nat} {f : Addr} {sp : Sp} {E : L2.St → XK} {x : Str} {e : Expr} {es : List Expr} {t : TA} {p pos : Pos}
theorem run_fnRS {pins : List (Addr × Obj)} {σ : L2.St} {H : Hp} {s : Shared} {Q : VK} {us : List Value} {vs : List V} (F : FnR X.prog X.w X.K X.mg X.base CX k f sp) (hr : Room k X.A) (hx : PassesAt CX X σ (E σ)) (I : Inv X pins σ H s) (r : Vals vs us) (h : sp vs H Q (E σ)) :
    wpAny (model X.prog X.w) X.A (call (.ref f) us) (EP X pins σ Q) X.xe s := by
  refine wpAny_call (codeAny_mono (F X.A X.stack s H us vs Q (E σ) hr I.env0 r h) fun r s' hq => ?_)
  cases r with
  | error e => exact hx pins H s e s' I hq
  | ok fl =>
    cases fl with
    | ret u => exact I.after hq
    | next => exact False.elim hq
    | brk => exact False.elim hq
    | cont => exact False.elim hq
def tCallRS (sp : Sp) (E : L2.St → XK) (t : TA) : TE := fun σ H Q => t σ H fun vs H1 => sp vs H1 Q (E σ)
theorem pe_callRS (F : FnR X.prog X.w X.K X.mg X.base CX k f sp) (hr : Room k X.A) (hg : Gl X x) (hm : X.mg x = some (.ref f)) (hk : PySem.W.keepIn X.K (.ref f) = true) (hx : ∀ σ, PassesAt CX X σ (E σ))
    (ha : PA X (e :: es) t) (hdb : (x == ("__debug__" : Str)) = false := by decide) (he : starEach (e :: es) X.env = (false, eval e X.env) :: starEach es X.env := by rfl) (hpl : (backTo pos (starEach es X.env)).any (·.1) = false := by rfl) :
    PE X (.Call (.Name x p) (e :: es) [] pos) (tCallRS sp E t) := by
  refine ⟨fun pins s σ H Q I h => ?_⟩
  refine wpAny_Call_Name_kw (ld_glob I hg hm ?_ hdb)
  refine PySem.W.callWith_K (h₀ := X.base) I.ok.mod.kin hk (thn (ha.run pos pins s σ H _ I h) fun us s1 ⟨vs, H1, I1, r, q⟩ => ⟨I1.kIn, ?_⟩) he hpl
  exact run_fnRS F hr (hx σ) I1 r q
end
end PW

/-! ##### XG -/
set_option Elab.async false
set_option linter.all false
set_option maxRecDepth 100000
set_option maxHeartbeats 2000000
/-! list(text) -/
namespace PW
open PySem PySem.Spec PyProof.Rows L2
section
variable {X : Cx}
theorem call_listStr (hcalm : X.calm = true) : CallR X (.type "list") (fun xs H Q => ∃ z : Str, xs = [.str z] ∧ z.length ≤ sizeLine ∧ ∀ p, H p = none → Q (.ref p) (upd H p (.lst ((signs z).map V.str)))) := by
  intro pins s σ H xs us Q I r q
  obtain ⟨z, ex, hz, q⟩ := q
  subst ex
  obtain ⟨u, eu, rx⟩ := vals1 r
  subst eu
  obtain ⟨t, rfl⟩ := rx
  refine call_list_str (I.ok.hd hcalm) z t (hn := hz) fun h' tk acc c' hk hD hacc => ?_
  have hl : ((signs z).map V.str).length = acc.toList.length := by
    rw [List.length_map, signs_length, Array.length_toList]
    exact hacc.1.symm
  have hv : Vals ((signs z).map V.str) acc.toList := vals_of_at hl fun j x u e1 e2 => by
    rw [Array.getElem?_toList] at e2
    obtain ⟨c, t, hc, rfl⟩ := hacc.2 j u e2
    rw [List.getElem?_map] at e1
    have e3 : (signs z)[j]? = some ⟨#[c]⟩ := by simp [signs, hc]
    rw [e3] at e1
    cases e1
    exact ⟨t, rfl⟩
  refine ⟨.ref s.heap.objs.size, upd H s.heap.objs.size (.lst ((signs z).map V.str)), I.laid (t' := tk) hk (Nat.le_refl _)
    (show ObjOk X.prog X.w _ _ _ (.lst ((signs z).map V.str)) from ⟨by rw [List.length_map, signs_length]; exact hz, acc.toList, c', hv, by rw [Array.toArray_toList]; exact hD⟩), rfl, q _ (I.hok.fresh (Nat.le_refl _))⟩
end
end PW

/-! ##### XK -/
set_option Elab.async false
set_option linter.all false
set_option maxRecDepth 100000
set_option maxHeartbeats 2000000
namespace PWX
open PySem PySem.W PySem.Calls PyProof.Rows PySem.HandSPX
def bmVal : List Value := [.type "ValueError", .type "Exception", .type "BaseException", .type "object"]
def bmOvf : List Value := [.type "OverflowError", .type "ArithmeticError", .type "Exception", .type "BaseException", .type "object"]
def bmKey : List Value := [.type "KeyError", .type "LookupError", .type "Exception", .type "BaseException", .type "object"]
theorem xb_KeyError : XBase "KeyError" "LookupError" "LookupError.__new__" "KeyError.__init__" bmKey :=
  ⟨⟨_, _, PySem.F.excBase_LookupError⟩, by decide +kernel, by decide +kernel, by decide +kernel, excClass_KeyError.initKind, excClass_KeyError.initSig, excClass_KeyError.notStar, excClass_KeyError.init, excClass_KeyError.initEntry⟩
theorem xb_ValueError : XBase "ValueError" "ValueError" "ValueError.__new__" "ValueError.__init__" bmVal := .of PySem.F.excBase_ValueError
theorem xb_OverflowError : XBase "OverflowError" "OverflowError" "OverflowError.__new__" "OverflowError.__init__" bmOvf := .of PySem.F.excBase_OverflowError
theorem kxs_KeyError : KxsFacts "KeyError" "KeyError.__init__" := ⟨by show builtinType _ = _; rw [builtinType_eq_fast]; kernel_rfl, by first | kernel_rfl | rfl⟩
end PWX

/-! ##### XL -/
set_option Elab.async false
set_option linter.all false
set_option maxRecDepth 100000
set_option maxHeartbeats 2000000
/-! t[lo::2] of a tuple -/
namespace PWL
open PySem PySem.Spec PyProof.Rows L2 HT
def every2 {α : Type} : List α → List α
  | [] => []
  | [x] => [x]
  | x :: _ :: r => x :: every2 r
theorem every2_length {α : Type} : ∀ xs : List α, (every2 xs).length ≤ xs.length
  | [] => Nat.le_refl _
  | [x] => Nat.le_refl _
  | x :: y :: r => by
    have := every2_length r
    simp only [every2, List.length_cons]
    omega
theorem vals_every2 : ∀ {xs : List V} {us : List Value}, Vals xs us → Vals (every2 xs) (every2 us)
  | _, _, .nil => .nil
  | _, _, .cons h .nil => .cons h .nil
  | _, _, .cons h (.cons _ t) => .cons h (vals_every2 t)
theorem range2 {α : Type} : ∀ (xs : List α), ((List.range ((xs.length + 1) / 2)).filterMap fun m => xs[2 * m]?) = every2 xs
  | [] => by simp [every2]
  | [x] => by simp [every2, List.range_succ]
  | x :: y :: r => by
    have e : ((x :: y :: r).length + 1) / 2 = (r.length + 1) / 2 + 1 := by simp only [List.length_cons]; omega
    have h := range2 r
    rw [e, List.range_succ_eq_map, List.filterMap_cons]
    simp only [Nat.mul_zero, List.getElem?_cons_zero, every2, List.filterMap_map]
    rw [← h]
    congr 1
theorem pick2 (xs : Array Value) (k : Nat) : ((List.range ((xs.size - k + 1) / 2)).filterMap fun (m : Nat) => xs[((k : Int) + (m : Int) * 2).toNat]?).toArray = (every2 (xs.toList.drop k)).toArray := by
  have h := range2 (xs.toList.drop k)
  have e1 : (xs.toList.drop k).length = xs.size - k := by simp
  rw [e1] at h
  rw [← h]
  congr 2
  funext m
  have e2 : ((k : Int) + (m : Int) * 2).toNat = k + 2 * m := by omega
  rw [e2, List.getElem?_drop, Array.getElem?_toList]
theorem places2 (k n : Nat) (h : k ≤ n) : Builtin.Slice.slicePlaces (k : Int) (n : Int) 2 = (n - k + 1) / 2 := by
  unfold Builtin.Slice.slicePlaces
  rw [if_pos (by decide)]
  by_cases q : (k : Int) < (n : Int)
  · rw [if_pos q]; omega
  · rw [if_neg q]; omega
theorem adjust2 (lo : Option Int) (n k : Nat) (hk : k ≤ n) (h : (lo = none ∧ k = 0) ∨ lo = some (k : Int)) : Builtin.Slice.sliceAdjust lo none 2 (n : Int) = ((k : Int), (n : Int)) := by
  unfold Builtin.Slice.sliceAdjust
  have h1 : ¬ ((2 : Int) < 0) := by omega
  simp only [h1, if_false]
  rcases h with ⟨rfl, rfl⟩ | rfl
  · rfl
  · have h2 : ¬ ((k : Int) < 0) := by omega
    simp only [h2, if_false]
    refine Prod.ext ?_ rfl
    show min (k : Int) (n : Int) = k
    omega
section
variable {prog : Program} {w : World} {A : Around} {E : Value → Shared → Prop} {s : Shared}
theorem sliceApplied2 {sl : Addr} {vl vu vs : Value} {lo : Option Int} {n k : Nat} {Q : Int × Int × Nat → Shared → Prop} (hs : s.heap.IsSliceOf sl vl vu vs) (pl : IsPart vl lo) (pu : IsPart vu none) (ps : IsPart vs (some 2)) (hk : k ≤ n) (hlo : (lo = none ∧ k = 0) ∨ lo = some (k : Int))
    (h : Q ((k : Int), 2, (n - k + 1) / 2) s) : wpAny (model prog w) A (Builtin.Slice.sliceApplied (.ref sl) (pure (n : Int))) Q E s := by
  obtain ⟨os, hos, hcs, hds⟩ := id hs
  unfold Builtin.Slice.sliceApplied Builtin.Slice.sliceFields
  refine wpAny_bind (wpAny_bind (wpAny_field hos hds (x := vl) rfl (wpAny_bind (wpAny_field hos hds (x := vu) rfl (wpAny_bind (wpAny_field hos hds (x := vs) rfl (wpAny_pure ?_)))))))
  refine wpAny_bind (slicePart_ ps ?_)
  show wpAny _ _ (if ((2 : Int) == 0) = true then _ else _) _ _ s
  rw [if_neg (by decide)]
  refine wpAny_bind (slicePart_ pl (wpAny_bind (slicePart_ pu (wpAny_bind (wpAny_pure ?_)))))
  show wpAny _ _ (match Builtin.Slice.sliceAdjust lo none 2 (n : Int) with | (lo, hi) => pure (lo, (2 : Int), Builtin.Slice.slicePlaces lo hi 2)) _ _ s
  rw [adjust2 lo n k hk hlo]
  show wpAny _ _ (pure ((k : Int), (2 : Int), Builtin.Slice.slicePlaces (k : Int) (n : Int) 2)) _ _ s
  rw [places2 k n hk]
  exact wpAny_pure h
theorem getItem_tuple2 {t sl : Addr} {items : Array Value} {vl vu vs : Value} {lo : Option Int} {k : Nat} {Q : Value → Shared → Prop} (ht : IsTup s.heap t items) (hs : s.heap.IsSliceOf sl vl vu vs) (pl : IsPart vl lo) (pu : IsPart vu none) (ps : IsPart vs (some 2)) (hk : k ≤ items.size) (hlo : (lo = none ∧ k = 0) ∨ lo = some (k : Int))
    (h : Q (.ref s.heap.objs.size) { s with heap := s.heap.push { cls := .type "tuple", data := .seq (every2 (items.toList.drop k)).toArray } })
    (hsz : items.size ≤ sizeLine) : wpAny (model prog w) A (getItem (.ref t) (.ref sl)) Q E s := by
  have htake : sizeOk (.seq (every2 (items.toList.drop k)).toArray) := by
    show (every2 (items.toList.drop k)).toArray.size ≤ sizeLine
    have h1 := every2_length (items.toList.drop k)
    have e0 : (every2 (items.toList.drop k)).toArray.size = (every2 (items.toList.drop k)).length := List.size_toArray ..
    have e3 : (items.toList.drop k).length ≤ items.size := by rw [List.length_drop, Array.length_toList]; exact Nat.sub_le _ _
    exact e0 ▸ Nat.le_trans h1 (Nat.le_trans e3 hsz)
  obtain ⟨os, hos, hcs, hds⟩ := id hs
  have hTs : s.TypeIs (.ref sl) "slice" := ⟨os, hos, hcs⟩
  unfold getItem
  try with_reducible refine wpAny_holding ?_
  first | refine wpAny_bind (wpAny_pure ?_) | skip
  refine wpAny_bind (wpAny_sequenceKey ht.typeIs (by decide) ?_)
  refine wpAny_bind (wpAny_callSpecial?_slot (name := Str.ofString "__getitem__") ht.typeIs PyProof.Rows.slot_tuple_getitem
    (wpAny_call_entry PyProof.Rows.slot_tuple_getitem ht.typeIs entry_tuple_getitem ?_ (args_tuple_getitem _ _)))
  show wpAny _ _ (Builtin.Tuple.tupleItemsOf (.ref t) >>= _) _ _ s
  refine wpAny_bind (tupleItemsOf_ ht ?_)
  refine wpAny_bind (wpAny_typeOf hTs ?_)
  rw [if_pos (by decide)]
  refine wpAny_bind (sliceApplied2 hs pl pu ps hk hlo ?_)
  have hno : ¬ (((k : Int) == 0 && (2 : Int) == 1 && ((items.size - k + 1) / 2) == items.size) = true) := by
    intro q
    rw [Bool.and_eq_true, Bool.and_eq_true] at q
    exact absurd q.1.2 (by decide)
  show wpAny _ _ (if ((k : Int) == 0 && (2 : Int) == 1 && ((items.size - k + 1) / 2) == items.size) = true then _ else _) _ _ s
  rw [if_neg hno, pick2]
  first
    | exact wpAny_bind (m := Builtin.Tuple.tupleExact _) (wpAny_newObj_type (wpAny_pure ⟨_, rfl, wpAny_pure h⟩) htake)
    | exact wpAny_bind (m := Builtin.Tuple.tupleExact _) (wpAny_newObj_type (wpAny_bind (wpAny_pure (wpAny_pure ⟨_, rfl, wpAny_pure h⟩))) htake)
    | exact wpAny_bind (wpAny_bind (m := Builtin.Tuple.tupleExact _) (wpAny_newObj_type (wpAny_pure (wpAny_pure ⟨_, rfl, wpAny_pure h⟩)) htake))
    | exact wpAny_bind (wpAny_bind (m := Builtin.Tuple.tupleExact _) (wpAny_newObj_type (wpAny_pure ⟨_, rfl, wpAny_pure h⟩) htake))
end
end PWL
namespace PW
open PySem PySem.Spec PyProof.Rows L2 PWL
/-- t[lo::2] -/
def tSl2 (K : PySem.W.Frag) (te : TE) (tl : TO) : TE := fun σ H Q => te σ H fun x H1 => tl σ H1 fun l H2 => ∃ a xs k, x = .ref a ∧ SqT K H2 a xs ∧ k ≤ xs.length ∧ ((l = none ∧ k = 0) ∨ l = some ((k : Nat) : Int)) ∧ ∀ p, H2 p = none → Q (.ref p) (upd H2 p (.tup (every2 (xs.drop k))))
theorem pe_sl2 {X : Cx} {e : Expr} {lo : Option Expr} {te : TE} {tl : TO} {k : Nat} {p1 p3 pos : Pos} (he : PE X e te) (hl : PO X lo tl)
    (hsub : ∀ a b : Addr, subscripted (.Slice lo none (some (.Constant (.int 2) k p1)) p3) false (.ref a) (.ref b) = operate [.ref a, .ref b] (getItem (.ref a) (.ref b)) := by intro _ _; with_unfolding_all rfl) : PE X (.Subscript e (.Slice lo none (some (.Constant (.int 2) k p1)) p3) pos) (tSl2 X.K te tl) := by
  refine ⟨fun pins s σ H Q I h => ?_⟩
  refine Subscript_ (thn (he.run pins s σ H _ I h) fun v s1 ⟨x, H1, I1, r1, q1⟩ => ?_)
  have hst : PO X (some (.Constant (.int 2) k p1)) (tPart (tC (.int 2))) := po_some pe_int
  refine wpAny_Slice (thn (hl.run pins s1 σ H1 _ I1 q1) fun vl s2 ⟨l, H2, I2, pl, q2⟩ => ?_)
  refine thn (po_none.run pins s2 σ H2 (fun o H3 => o = none ∧ H3 = H2) I2 ⟨rfl, rfl⟩) fun vu s3 ⟨u, H3, I3, pu, eu, e3⟩ => ?_
  subst eu e3
  refine thn (hst.run pins s3 σ H3 (fun o H4 => o = some 2 ∧ H4 = H3) I3 ⟨2, rfl, rfl, rfl⟩) fun vs s4 ⟨o, H4, I4, ps, eo, e4⟩ => ?_
  subst eo e4
  obtain ⟨a, xs, j, ex, hx, hj, hlo, q⟩ := q2
  subst ex
  cases r1
  have I5 : Inv X pins σ H4 { s4 with heap := s4.heap.push { cls := .type "slice", data := .fields #[vl, vu, vs] } } := I4.kept (t' := s4.toks) fun b ob q => Heap.get?_push_of_some _ q
  obtain ⟨its, r, ht, hz⟩ := I5.tuple hx
  have hlen := r.length
  show wpAny (model X.prog X.w) X.A (subscriptTail e (.Slice lo none (some (.Constant (.int 2) k p1)) p3) (.ref a) (.ref s4.heap.objs.size)) (EP X pins σ Q) X.xe { s4 with heap := s4.heap.push { cls := .type "slice", data := .fields #[vl, vu, vs] } }
  refine tail_any (ops := [.ref a, .ref s4.heap.objs.size]) ht.typeIs (PyProof.Rows.slot_tuple_getitem.lookup) ?_ (hsub _ _)
  refine getItem_tuple2 ht (Heap.IsSliceOf.new _ vl vu vs) pl pu ps (k := j) (by rw [List.size_toArray]; omega) hlo ?_ (by rw [List.size_toArray]; omega)
  refine ⟨.ref _, _, I5.laid (t' := s4.toks) (o := .tup (every2 (xs.drop j))) (fun b ob q => Heap.get?_push_of_some _ q) (Nat.le_refl _) ?_, rfl, q _ (I5.hok.fresh (Nat.le_refl _))⟩
  have hl2 := every2_length (xs.drop j)
  rw [List.length_drop] at hl2
  exact ⟨by omega, _, vals_every2 (r.drop j), IsTup.new _ _⟩
example {X : Cx} {e : Expr} {te : TE} {k j : Nat} {p1 p2 p3 pos : Pos} (he : PE X e te) : PE X (.Subscript e (.Slice none none (some (.Constant (.int 2) k p1)) p3) pos) (tSl2 X.K te tNoPart) := pe_sl2 he po_none
example {X : Cx} {e : Expr} {te : TE} {k j : Nat} {p1 p2 p3 pos : Pos} (he : PE X e te) : PE X (.Subscript e (.Slice (some (.Constant (.int 1) j p2)) none (some (.Constant (.int 2) k p1)) p3) pos) (tSl2 X.K te (tPart (tC (.int 1)))) := pe_sl2 he (po_some pe_int)
end PW

/-! ##### XS -/
set_option Elab.async false
set_option linter.all false
set_option maxRecDepth 100000
set_option maxHeartbeats 2000000
/-! a, b, .., *r = a tuple -/
namespace PW
open PySem PySem.Spec PySem.W PySem.Calls PyProof.Rows L2
def gStar (K : PySem.W.Frag) (i : Nat) (t : TGs) : TG := fun v σ H Q => ∃ a xs, v = .ref a ∧ SqT K H a xs ∧ i ≤ xs.length ∧ xs.length ≤ 16384 ∧ ∀ d, H d = none → t (xs.take i ++ [.ref d]) σ (upd H d (.lst (xs.drop i))) Q
section
variable {X : Cx} {pos : Pos}
theorem pgs_star {e : Expr} {es : List Expr} {t : TG} {u : TGs} {p : Pos} (h1 : PG X e t) (h2 : PGs X es u)
    (hs : (assignEach (.Starred e p :: es) X.env).map (·.2) = assign e X.env :: (assignEach es X.env).map (·.2) := by rfl) : PGs X (.Starred e p :: es) (gCons t u) := by
  refine ⟨fun pins s σ H vs us Q I r h => ?_⟩
  obtain ⟨v, vr, e1, h⟩ := h
  subst e1
  cases r with
  | cons r rr =>
    rw [hs]
    refine assignInOrder_cons (thn (h1.run pins s σ H _ _ _ I r h) fun _ s1 ⟨σ1, H1, I1, q1⟩ => ?_)
    exact h2.run pins s1 σ1 H1 _ _ Q I1 rr q1
theorem pg_star {es : List Expr} {k : Nat} {t : TGs} {i : Nat} (hc : X.calm = true) (h : PGs X es t)
    (hn : (assignEach es X.env).length = i + 1 := by rfl) (hst : (assignEach es X.env).findIdx? (·.1) = some i := by rfl) : PG X (.Tuple es k pos) (gStar X.K i t) := by
  refine ⟨fun pins s σ H v u Q I r hw => ?_⟩
  obtain ⟨l, xs, e1, hq, hl, hz, hw⟩ := hw
  subst e1
  cases r
  obtain ⟨its, rv, ht, hz'⟩ := I.tuple hq
  have hlen : its.length = xs.length := rv.length.symm
  have hT : IsTup s.heap l its.toArray := ht
  have hsz : its.toArray.size = xs.length := by simp [hlen]
  have hlt : l ≠ s.heap.objs.size := by obtain ⟨o, ho, _⟩ := hT; exact Nat.ne_of_lt (Heap.lt_size ho)
  rw [PyProof.Rows.assign_Tuple]
  refine wpAny_bind (wpAny_standAt ?_)
  unfold unpack
  rw [hn, hst]
  refine wpAny_bind (wpAny_holding ?_)
  have hh := I.ok.hd hc
  unfold unpackItems
  refine wpAny_bind ?_
  unfold notIterableAtAll
  refine wpAny_bind (wpAny_specialOf hT.typeIs PySem.F.slot_tuple_iter.lookup ?_)
  refine wpAny_pure ?_
  simp only [Bool.false_eq_true, if_false]
  refine wpAny_bind (wpAny_holding (iter_tuple hT ?_))
  refine wpAny_bind (wpAny_holding (draw_tuple hlt i 0 _ _ ⟨_, Heap.get?_push_size _ rfl, rfl, rfl⟩ (hT.push _) (by omega) fun h₁ hit₁ hs₁ => ?_))
  have hl₁ : IsTup h₁ l its.toArray := (hT.push _).extBut hs₁.extBut hlt
  rw [Nat.zero_add] at hit₁
  have hit₁' := hit₁
  obtain ⟨oi, hoi, _⟩ := hit₁'
  have hl₁' := hl₁
  obtain ⟨ol, hol, _⟩ := hl₁'
  rw [List.drop_zero]
  have hfl : (its.toArray.toList.take i).length = i := by rw [List.length_take, Array.length_toList]; omega
  rw [if_neg (show ¬ ((its.toArray.toList.take i).length < i) by rw [hfl]; omega)]
  refine wpAny_bind (wpAny_holding (kun_collect (s := { s with heap := h₁ }) (T := "tuple_iterator") (.inr (.inr (.inr rfl))) (Walks.tuple (A := X.A.in1) hh s.heap.objs.size l hlt its.toArray) (fun j u st => st.1.typeIs) (k := i) (by omega) ⟨hit₁, hl₁⟩ (Heap.lt_size hoi) (Heap.lt_size hol) (fun h₂ tk hk => ?_) (by rw [sizeLine_eq]; omega)))
  have he : ∀ b o, s.heap.get? b = some o → h₂.get? b = some o := fun b o e => hk b o (Nat.ne_of_lt (Heap.lt_size e)) (hs₁.extBut b o (Nat.ne_of_lt (Heap.lt_size e)) (Heap.get?_push_of_some _ e))
  have hrl : (its.toArray.toList.drop i).length = its.toArray.size - i := by rw [List.length_drop, Array.length_toList]
  show wpAny _ _ (if (its.toArray.toList.drop i).length < i + 1 - 1 - i then _ else _) _ _ _
  rw [if_neg (by omega)]
  have hmid : (its.toArray.toList.drop i).length - (i + 1 - 1 - i) = (its.toArray.toList.drop i).length := by omega
  show wpAny _ _ (newList ((its.toArray.toList.drop i).take ((its.toArray.toList.drop i).length - (i + 1 - 1 - i))) >>= fun d => pure (its.toArray.toList.take i ++ [d] ++ (its.toArray.toList.drop i).drop ((its.toArray.toList.drop i).length - (i + 1 - 1 - i)))) _ _ _
  rw [hmid, List.take_length, List.drop_length]
  have I2 : Inv X pins σ H { s with heap := h₂, toks := tk } := I.kept he
  refine wpAny_bind (wpAny_newList (wpAny_pure ?_) (by rw [hrl, sizeLine_eq]; omega))
  have hf : H h₂.objs.size = none := I2.hok.fresh (Nat.le_refl _)
  have rd : Vals (xs.drop i) (its.drop i) := rv.drop i
  have rt : Vals (xs.take i) (its.take i) := rv.take i
  have I3 : Inv X pins σ (upd H h₂.objs.size (.lst (xs.drop i))) { s with heap := h₂.push { cls := .type "list", data := .seq (its.drop i).toArray }, toks := tk } := I2.laid (t' := tk) (fun b u e => Heap.get?_push_of_some _ e) (Nat.le_refl _) ⟨by rw [List.length_drop, sizeLine_eq]; omega, its.drop i, 0, rd, Heap.get?_push_size _ rfl⟩
  have rr : Vals (xs.take i ++ [V.ref h₂.objs.size]) (its.take i ++ [Value.ref h₂.objs.size]) := rt.append (.cons rfl .nil)
  have hfin := h.run pins _ σ _ _ _ Q I3 rr (hw _ hf)
  simpa using hfin
end
end PW

/-! ##### XT -/
set_option Elab.async false
set_option linter.all false
set_option maxRecDepth 100000
set_option maxHeartbeats 4000000
/-! several except clauses, each with a name for the error or without -/
namespace PW
open PySem PySem.Spec PyProof.Rows L2
/-- one clause: the class, the slot of the name (if there is one), the suite's reading -/
abbrev Cl := Value × Option Nat × (Addr → Value → Option Addr → TS)
/-- the ends of a suite: the name goes -/
def goneD : Option Nat → Ends → Ends
  | none, D => D
  | some i, D => { nx := fun σ H => D.nx (σ.set i none) H, rt := D.rt, bk := fun σ H => D.bk (σ.set i none) H, ct := fun σ H => D.ct (σ.set i none) H }
def nameD : Option Nat → Addr → L2.St → L2.St
  | none, _, σ => σ
  | some i, a, σ => σ.set i (some (.ref a))
def wCls (K : PySem.W.Frag) (Wout : WX) (D : Ends) : List Cl → WX
  | [] => Wout
  | (c, i, ts) :: r => fun cls d σ H => ∃ b, PySem.W.exmOne K cls c = some b ∧ (b = true → ∀ a, H a = none → ts a cls d (goneD i D) (nameD i a σ) H) ∧ (b = false → wCls K Wout D r cls d σ H)
inductive ClsOk (X : Cx) : List ExceptHandler → List Cl → Prop
  | nil : ClsOk X [] []
  | bare {x : Str} {c : Value} {ts : Addr → Value → Option Addr → TS} {b0 : Stmt} {suite : List Stmt} {np pos' : Pos} {hds : List ExceptHandler} {l : List Cl} (hc : Names X x c)
      (hsu : ∀ (a : Addr) (oe : Obj) (cls : Value) (d : Option Addr) (pn : List (Addr × Obj)), Zc cls d oe → (∃ vs, oe.data = .fields vs) → PSs (X.suite a ((a, oe) :: pn)) (b0 :: suite) (ts a cls d)) (r : ClsOk X hds l) :
      ClsOk X (.ExceptHandler (some (.Name x np)) none (b0 :: suite) pos' :: hds) ((c, none, ts) :: l)
  | named {x n : Str} {c : Value} {i : Nat} {ts : Addr → Value → Option Addr → TS} {b0 : Stmt} {suite : List Stmt} {np pos' : Pos} {hds : List ExceptHandler} {l : List Cl} (hc : Names X x c) (hi : X.N[i]? = some n) (hln : X.env.kindOf n = some .local)
      (hsu : ∀ (a : Addr) (oe : Obj) (cls : Value) (d : Option Addr) (pn : List (Addr × Obj)), Zc cls d oe → (∃ vs, oe.data = .fields vs) → PSs (X.suite a ((a, oe) :: pn)) (b0 :: suite) (ts a cls d)) (r : ClsOk X hds l) :
      ClsOk X (.ExceptHandler (some (.Name x np)) (some n) (b0 :: suite) pos' :: hds) ((c, some i, ts) :: l)
section
variable {X : Cx} {body : List Stmt} {h0 : ExceptHandler} {hds : List ExceptHandler} {l : List Cl} {pos : Pos} {tb : WX → TS} {Wout : WX}
theorem ps_try_cls (hs : X.stack = X.env :: X.outer) (hf : X.env.frame = some X.env.locals) (hN : X.N.Nodup) (tk : Takes X Wout)
    (hb : ∀ (W : WX) (pn : List (Addr × Obj)) (xe : Value → Shared → Prop), Takes (X.tr pn xe) W → PassesOwn (model X.prog X.w) X.A X.env xe → PSs (X.tr pn xe) body (tb W))
    (hh : ClsOk X (h0 :: hds) l) : PS X (.Try body (h0 :: hds) [] [] pos) (fun D σ H => tb (wCls X.K Wout D l) D σ H) := by
  refine ⟨fun pins s σ H D I h => ?_⟩
  have ok := I.ok
  have hfr : X.A.frames = some (X.env :: X.outer) := by rw [ok.frames, hs]
  refine wpAny_Try_except ?_
  refine wpAny_mono ((hb (wCls X.K Wout D l) (X.pn ++ pins) (fun e s1 => wpAny (model X.prog X.w) X.A (noteFrame e X.env) (fun _ s2 => wpAny (model X.prog X.w) X.A (setFlight e none) (fun _ s3 =>
    wpAny (model X.prog X.w) X.A (handleBy e X.env (h0 :: hds)) (SP X pins D) X.xe s3) X.xe s2) X.xe s1) (fun u s' xx => ?_) PassesOwn.looking).run [] s σ H D (I.toTry _) h) (fun f s1 hsp => ?_) (fun e s1 he => he)
  · obtain ⟨a, B, sI, pins', σ1, H1, cls, d, rfl, J', nb, up, sky, na, os, ag, wx⟩ := xx
    have J : Inv X pins σ1 H1 sI := J'.ofTry ok
    have sky1 : Sky B (X.env :: X.outer) a (Zc cls d) X.env.locals s'.heap := by rw [← hs]; exact sky
    show wpAny (model X.prog X.w) X.A (noteFrame (.ref a) X.env) _ _ _
    refine Sky.land Zc.steady hfr hf sky1 fun h3 fl3 up3 => ?_
    have J3 : Inv X pins σ1 H1 { s' with heap := h3 } := J.landed nb fl3.1 (up.trans up3) os ag
    obtain ⟨o3, v3, e3, z3, d3⟩ := fl3.there
    have nfr : a ∉ frs (X.env :: X.outer) := fun hm => by
      obtain ⟨_, o', e', hnf⟩ := fl3.2.2.1.mem hm
      rw [e3] at e'
      cases e'
      exact hnf _ d3
    have nL : a ≠ X.env.locals := fun z => nfr (List.mem_filterMap.mpr ⟨X.env, List.mem_cons_self, by rw [hf, z]⟩)
    have nF : a ∉ X.fs := fun hm => by
      obtain ⟨ev, he, q⟩ := List.mem_filterMap.mp hm
      exact nfr (List.mem_filterMap.mpr ⟨ev, List.mem_cons_of_mem _ he, q⟩)
    have S3 := J3.suite e3 d3 na nL nF
    have LT : PySem.W.Looks (model X.prog X.w) h3 (typeOf (.ref a)) cls := fun A Q E s k q => wpAny_typeOf_ref (k _ _ e3) (by rw [z3.1]; exact q)
    have test : ∀ {x : Str} {c : Value} {np : Pos} {Q : Value → Shared → Prop} {E : Value → Shared → Prop}, Names X x c → Q c { s' with heap := h3 } → wpAny (model X.prog X.w) (X.A.mark (some (.ref a))) (eval (.Name x np) X.env) Q E { s' with heap := h3 } := fun {x c np Q E} hc q => by
      obtain ⟨hg, hdbg, hm | ⟨hm, hv, hnn⟩⟩ := hc
      · exact ld_glob (X := X.suite a ((a, o3) :: (X.pn ++ pins))) S3 hg hm q hdbg
      · exact ld_blt (X := X.suite a ((a, o3) :: (X.pn ++ pins))) S3 hg hm hv q hnn hdbg
    have go : ∀ {hds' : List ExceptHandler} {l' : List Cl}, ClsOk X hds' l' → wCls X.K Wout D l' cls d σ1 H1 →
        wpAny (model X.prog X.w) X.A (handleBy (.ref a) X.env hds') (SP X pins D) X.xe { s' with heap := h3 } := by
      intro hds' l' hk
      induction hk with
      | nil =>
        intro w0
        refine wpAny_handleBy_nil ?_
        obtain ⟨k1, k2, k3, oe, vs, T, oT, ts', he, hz, hd, hv1, hr⟩ := id fl3
        unfold PySem.passOn
        refine wpAny_bind (wpAny_field he hd hv1 ?_)
        rw [if_neg (show ¬ ((Value.ref T == Value.none) = true) from by simp)]
        have fin : wpAny (model X.prog X.w) X.A (setFlight (.ref a) X.env.frame) (fun _ s4 => wpAny (model X.prog X.w) X.A (throw (.ref a) : Sem Flow) (SP X pins D) X.xe s4) X.xe { s' with heap := h3 } := by
          rw [hf]
          refine HandSPX.setFlight_upZ fl3 fun h4 hh4 up4 => wpAny_throw (tk _ _ ?_)
          exact ⟨a, B, sI, pins, σ1, H1, cls, d, rfl, J, nb, (up.trans up3).trans up4, .inr (.inr (by rw [hs]; exact hh4)), na, os, ag, w0⟩
        first
          | exact wpAny_bind (wpAny_pure (wpAny_bind fin))
          | exact wpAny_bind fin
      | @bare x c ts b0 suite np pos' hds2 l2 hc hsu r ih =>
        intro w0
        obtain ⟨b, hb1, hyes, hno⟩ := w0
        refine wpAny_handleBy_cons (codeAny_handlers_test ?_) (by intro q; cases q)
        refine test hc ((PySem.W.exm_one (M := model X.prog X.w) (J3.kIn) LT hb1).here ?_)
        cases b with
        | false =>
          show wpAny _ X.A (handleBy (.ref a) X.env hds2) _ _ _
          exact ih (hno rfl)
        | true =>
          refine codeAny_handlers_suite ?_
          refine HandSPX.lands_againZ fl3 fun h4 fl4 up4 => ?_
          have J4 : Inv X pins σ1 H1 { s' with heap := h4 } := J.landed nb fl4.1 ((up.trans up3).trans up4) os ag
          obtain ⟨o4, v4, e4, z4, d4⟩ := fl4.there
          refine wpAny_mono ((hsu a o4 cls d (X.pn ++ pins) z4 ⟨_, d4⟩).run [] _ _ H1 _ (J4.suite e4 d4 na nL nF) (hyes rfl a na)) (fun f s6 hsp => ?_) (fun _ _ z => False.elim z)
          cases f with
          | ret u =>
            obtain ⟨v6, σ6, H6, S6, r6, q6⟩ := hsp
            exact ⟨_, _, _, S6.unsuite ok, r6, q6⟩
          | _ =>
            obtain ⟨σ6, H6, S6, q6⟩ := hsp
            exact ⟨_, _, S6.unsuite ok, q6⟩
      | @named x n c i ts b0 suite np pos' hds2 l2 hc hi hln hsu r ih =>
        intro w0
        obtain ⟨b, hb1, hyes, hno⟩ := w0
        refine wpAny_handleBy_cons (codeAny_handlers_test ?_) (by intro q; cases q)
        refine test hc ((PySem.W.exm_one (M := model X.prog X.w) (J3.kIn) LT hb1).here ?_)
        cases b with
        | false =>
          show wpAny _ X.A (handleBy (.ref a) X.env hds2) _ _ _
          exact ih (hno rfl)
        | true =>
          refine codeAny_handlers_suite_as ?_
          refine HandSPX.lands_againZ fl3 fun h4 fl4 up4 => ?_
          have J4 : Inv X pins σ1 H1 { s' with heap := h4 } := J.landed nb fl4.1 ((up.trans up3).trans up4) os ag
          obtain ⟨o4, v4, e4, z4, d4⟩ := fl4.there
          refine store_ok (X := X.suite a ((a, o4) :: (X.pn ++ pins))) (v := .ref a) (J4.suite e4 d4 na nL nF) hN hi (.inl hln) rfl (fun s5 S5 => ?_) (.inr hln)
          refine wpAny_mono ((hsu a o4 cls d (X.pn ++ pins) z4 ⟨_, d4⟩).run [] s5 _ H1 _ S5 (hyes rfl a na)) (fun f s6 hsp => ?_) (fun _ _ z => False.elim z)
          have gone : ∀ {σ6 : L2.St} {H6 : Hp} {Q : Shared → Prop}, Inv (X.suite a ((a, o4) :: (X.pn ++ pins))) [] σ6 H6 s6 → (∀ s7, Inv X pins (σ6.set i none) H6 s7 → Q s7) →
              wpAny (model X.prog X.w) X.A (do bindName X.env n .none; unbindBehindTheSuite X.env n pos') (fun _ s7 => Q s7) X.xe s6 := fun {σ6 H6 Q} S6 hq => gone_ok (S6.unsuite ok) hN hi hln hq
          cases f with
          | ret u =>
            obtain ⟨v6, σ6, H6, S6, r6, q6⟩ := hsp
            exact gone S6 fun s7 J7 => ⟨_, _, _, J7, r6, q6⟩
          | _ =>
            obtain ⟨σ6, H6, S6, q6⟩ := hsp
            exact gone S6 fun s7 J7 => ⟨_, _, J7, q6⟩
    exact go hh wx
  · cases f with
    | ret u =>
      obtain ⟨v, σ1, H1, J', r, q⟩ := hsp
      exact ⟨v, σ1, H1, J'.ofTry ok, r, q⟩
    | next =>
      obtain ⟨σ1, H1, J', q⟩ := hsp
      exact wpAny_execs_nil ⟨σ1, H1, J'.ofTry ok, q⟩
    | _ =>
      obtain ⟨σ1, H1, J', q⟩ := hsp
      exact ⟨σ1, H1, J'.ofTry ok, q⟩
end
end PW

/-! ##### XQ -/
set_option Elab.async false
set_option linter.all false
set_option maxRecDepth 100000
set_option maxHeartbeats 2000000
/-! == and != by an own __eq__: dicts, != of tuples and instances, locks -/
namespace GQ
open PySem PySem.SeqAt
open AutoSeq1 (wpAny_loadPart')
open MeetsSeq MeetsSeq2 MeetsSeq3 SeqRoads2
section
variable {prog : Program} {w : World} {A : Around} {R : Result → Shared → Prop}
theorem tuple_neG (l b : Addr) (items items2 : Array Value) (n n2 : Nat) (dd dd2 : Option Addr) (sl sl2 : Array (Option Value)) (hsz : items.size = items2.size) (I : Nat → Shared → Prop)
    (turn : ∀ i (h1 : i < items.size) (h2 : i < items2.size) s, I i s → wpAny (model prog w) A.in1 (eqBool items[i] items2[i]) (fun r s' => r = true ∧ I (i + 1) s') (fun e s' => R (.error e) s') s)
    (fin : ∀ s, I items.size s → R (.ok (.ret (.bool false))) s) {s : Shared} (hl1 : s.heap.get? l = some { cls := .type "tuple", dict := dd, data := .seq items n, slots := sl }) (hb1 : s.heap.get? b = some { cls := .type "tuple", dict := dd2, data := .seq items2 n2, slots := sl2 }) (h : I 0 s) :
    wpAny (model prog w) A.in1 (Builtin.«tuple.__ne__» ⟨[.ref l, .ref b], []⟩) (FinOf prog w A R) (fun e s' => R (.error e) s') s := by
  have f2 := AutoSeq1.sub_tuple_tuple
  have hZ : (items.toList.zip items2.toList).length = items.size := by simp [hsz]
  have h0 := h
  obtain ⟨hp, g, d, tk, os⟩ := s
  wp_walk using wpAny_loadPart' hl1, wpAny_loadPart' hb1, wpAny_forIn_list _ (fun rest b s' => b.1 = none ∧ ∃ i, rest = (items.toList.zip items2.toList).drop i ∧ i ≤ items.size ∧ I i s') _
  case turn =>
    rintro ⟨y, x⟩ rest b s' ⟨hb', i, hz, hi, hI⟩
    have hlt : i < (items.toList.zip items2.toList).length := by
      rcases Nat.lt_or_ge i (items.toList.zip items2.toList).length with h' | h'
      · exact h'
      · rw [List.drop_of_length_le h'] at hz; cases hz
    have h1 : i < items.size := hZ ▸ hlt
    have h2 : i < items2.size := hsz ▸ h1
    rw [List.drop_eq_getElem_cons hlt] at hz
    injection hz with hyx hrest
    have hy : y = items[i] := by have := congrArg Prod.fst hyx; simpa using this
    have hx : x = items2[i] := by have := congrArg Prod.snd hyx; simpa using this
    subst hy hx
    refine wpAny_bind (wpAny_mono (turn i h1 h2 s' hI) (fun r s2 q2 => ?_) fun _ _ x => x)
    obtain ⟨hr, q2⟩ := q2
    subst hr
    wp_walk
    exact ⟨rfl, i + 1, hrest, h1, q2⟩
  case fin =>
    rintro ⟨b1, b2⟩ s' ⟨hb', i, hz, hi, hI⟩
    simp only at hb'
    subst hb'
    have hge : items.size ≤ i := by
      rcases Nat.lt_or_ge i (items.toList.zip items2.toList).length with h' | h'
      · rw [List.drop_eq_getElem_cons h'] at hz; cases hz
      · exact hZ ▸ h'
    have hi' : i = items.size := by omega
    have hR : R (.ok (.ret (.bool false))) s' := fin s' (hi' ▸ hI)
    wp_walk
    simpa [Builtin.Tuple.tupleCompareSizes, hsz] using hR
  case h =>
    exact ⟨rfl, 0, rfl, Nat.zero_le _, h0⟩
end
section
variable {prog : Program} {w : World} {A : Around} {E : Value → Shared → Prop} {s : Shared}
theorem rc_tupNeG {l b : Addr} {items items2 : Array Value} {Q : Value → Shared → Prop} (hsz : items.size = items2.size) (hu : A.units < cLine) (I : Nat → Shared → Prop)
    (hl : s.heap.IsTuple l items) (hb : s.heap.IsTuple b items2)
    (turn : ∀ i (h1 : i < items.size) (h2 : i < items2.size) s, I i s → wpAny (model prog w) A.in1 (eqBool items[i] items2[i]) (fun r s' => r = true ∧ I (i + 1) s') E s)
    (fin : ∀ s, I items.size s → Q (.bool false) s) (h : I 0 s) : wpAny (model prog w) A (richCompare .NotEq (.ref l) (.ref b)) Q E s := by
  obtain ⟨⟨cls, dd, data, sl⟩, ho, hc, n, hd⟩ := id hl
  obtain ⟨⟨cls2, dd2, data2, sl2⟩, ho2, hc2, n2, hd2⟩ := id hb
  simp only at hc hd hc2 hd2
  subst hc hd hc2 hd2
  refine wpAny_richCompare_same_room (op := .NotEq) ⟨_, ho, rfl⟩ ⟨_, ho2, rfl⟩ F.slot_tuple_ne (call_here F.slot_tuple_ne ⟨_, ho, rfl⟩ F.entry_tuple_ne (F.args_tuple_ne_2 _ _) ?_) hu
  exact tuple_neG (R := wants (fun v s' => v ≠ .notImplemented ∧ Q v s') E) l b items items2 n n2 dd dd2 sl sl2 hsz I turn (fun s' q => ⟨(fun x => nomatch x), fin s' q⟩) ho ho2 h
end
end GQ
namespace PySem.W
open Lean Elab Tactic Meta PySem PySem.Calls PyProof.Rows PyProof.V PySem.Spec
section
variable {prog : Program} {w : World} {K : Type} [DecidableEq K] {knd : KeyKind prog w K} {A : Around} {E : Value → Shared → Prop} {s : Shared}
theorem samePairsG {nm : String} {a b : Addr} {ka kb : List (K × Value)} {oa ob : Obj} {Q : Bool → Shared → Prop} (ha : (a == sysModules) = false) (hb : (b == sysModules) = false) (L : Shared → Prop)
    (hL : ∀ s, L s → s.heap.get? a = some oa ∧ s.heap.get? b = some ob) (da : s.heap.DictOf knd a ka) (db : s.heap.DictOf knd b kb) (hlen : ka.length = kb.length)
    (turn : ∀ (i : Nat) k v s', ka[i]? = some (k, v) → L s' → ∃ y, valueAt kb k = some y ∧ wpAny (model prog w) A (eqBool v y) (fun r s'' => r = true ∧ L s'') E s')
    (fin : ∀ s, L s → Q true s) (h : L s) : wpAny (model prog w) A (Builtin.Dict.samePairs nm a b) Q E s := by
  obtain ⟨oa', es, ep, hoa, _, hda, hka, hpa, _⟩ := da
  obtain ⟨ob', es', ep', hob, _, hdb, hkb, hpb, _⟩ := db
  have eoa : oa' = oa := by have := (hL s h).1; rw [hoa] at this; exact Option.some.inj this
  have eob : ob' = ob := by have := (hL s h).2; rw [hob] at this; exact Option.some.inj this
  subst eoa eob
  have hla : ka.length = es.size := by rw [← hpa.length]; exact Array.length_toList
  have hlb : kb.length = es'.size := by rw [← hpb.length]; exact Array.length_toList
  have hfind : ∀ k, findBy knd.is es' k = valueAt kb k := fun k => by
    rw [← hpb.find k]
    clear hlb hpb hkb hdb
    obtain ⟨l⟩ := es'
    simp [findBy]
  unfold Builtin.Dict.samePairs Builtin.Dict.showsAll
  rw [if_neg (show ¬ (a == sysModules) = true by rw [ha]; exact Bool.false_ne_true), if_neg (show ¬ (b == sysModules) = true by rw [hb]; exact Bool.false_ne_true)]
  refine wpAny_bind (wpAny_pure (wpAny_bind (wpAny_pure ?_)))
  refine wpAny_bind (wpAny_dictEntries hoa hda ?_)
  dsimp only
  refine wpAny_bind (wpAny_dictEntries hob hdb ?_)
  have hsz : es.size = es'.size := by omega
  rw [if_neg (by rw [hsz]; simp)]
  refine wpAny_bind (wpAny_dictEpoch hoa hda ?_)
  refine wpAny_bind ?_
  rw [Std.Legacy.Range.forIn_eq_forIn_range']
  simp only [Std.Legacy.Range.size, Nat.sub_zero, Nat.add_sub_cancel, Nat.div_one]
  refine wpAny_forIn_list _
    (fun rest q s' => L s' ∧ q = (none, ()) ∧ ∃ i, rest = List.range' i (es.size - i) ∧ i ≤ es.size)
    _ ?_ ?_ _ _ ⟨h, rfl, 0, by simp, Nat.zero_le _⟩
  · rintro x rest q s' ⟨hl', rfl, i, hr, hi⟩
    have hlt : i < es.size := by
      rcases Nat.lt_or_ge i es.size with h | h
      · exact h
      · rw [Nat.sub_eq_zero_of_le h] at hr; simp at hr
    obtain ⟨rfl, hrest⟩ : x = i ∧ rest = List.range' (i + 1) (es.size - (i + 1)) := by
      have e : es.size - i = (es.size - (i + 1)) + 1 := by omega
      rw [e, List.range'_succ] at hr
      injection hr with h1 h2
      exact ⟨h1, h2⟩
    have hoa' := (hL _ hl').1
    have hob' := (hL _ hl').2
    refine wpAny_bind (wpAny_dictEntries hoa' hda ?_)
    rw [Array.getElem?_eq_getElem hlt]
    have hlt' : x < ka.length := by rw [hla]; exact hlt
    obtain ⟨k, v, hkv⟩ : ∃ k v, ka[x] = (k, v) := ⟨_, _, rfl⟩
    have hkx : ka[x]? = some (k, v) := by rw [List.getElem?_eq_getElem hlt', hkv]
    obtain ⟨hkey, hval⟩ := hpa.get? (i := x) (e := es[x]) (k := k) (v := v) (by rw [Array.getElem?_toList]; exact Array.getElem?_eq_getElem hlt) hkx
    obtain ⟨k', hk', hh⟩ := hka es[x] (Array.getElem_mem hlt)
    have ekk : k' = k := knd.inj _ _ _ hk' hkey
    rw [ekk] at hh
    obtain ⟨y, hy, hturn⟩ := turn x k v s' hkx hl'
    show wpAny _ _ (holding [es[x].key, es[x].val] _ >>= _) _ _ _
    rw [hh]
    refine wpAny_bind (wpAny_holding (wpAny_bind (wpAny_dictFind_of hkey hob' hdb hkb ?_)))
    cases hj : es'.findIdx? fun e => knd.is k e.key with
    | none =>
      have hn : valueAt kb k = none := by rw [← hfind k, findBy_of_findIdx?, hj]
      rw [hn] at hy; exact nomatch hy
    | some j =>
      obtain ⟨hjlt, _, _⟩ := Array.findIdx?_eq_some_iff_getElem.mp hj
      have hv' : valueAt kb k = some es'[j].val := by
        rw [← hfind k, findBy_of_findIdx?, hj]
        simp [Array.getElem?_eq_getElem hjlt]
      refine wpAny_bind (wpAny_dictEntries hob' hdb ?_)
      rw [Array.getElem?_eq_getElem hjlt]
      have ey : es'[j].val = y := Option.some.inj (hv'.symm.trans hy)
      rw [← ey, ← hval] at hturn
      refine wpAny_holding (wpAny_mono hturn (fun r s'' q => ?_) fun _ _ x => x)
      obtain ⟨hr', hl''⟩ := q
      subst hr'
      show wpAny _ _ (if (!true) = true then _ else _) _ _ _
      rw [if_neg (by decide)]
      refine wpAny_bind (wpAny_dictEpoch (hL _ hl'').1 hda ?_)
      rw [if_neg (by simp)]
      exact wpAny_pure ⟨hl'', rfl, x + 1, hrest, hlt⟩
  · rintro q s' ⟨hl', rfl, i, hr, hi⟩
    exact wpAny_pure (fin _ hl')
theorem rcG_dicts {a b : Addr} {ka kb : List (K × Value)} {oa ob : Obj} {Q : Value → Shared → Prop} (ha : (a == sysModules) = false) (hb : (b == sysModules) = false) (L : Shared → Prop)
    (hL : ∀ s, L s → s.heap.get? a = some oa ∧ s.heap.get? b = some ob) (da : s.heap.DictOf knd a ka) (db : s.heap.DictOf knd b kb) (hlen : ka.length = kb.length) (hu : A.units < cLine)
    (turn : ∀ (i : Nat) k v s', ka[i]? = some (k, v) → L s' → ∃ y, valueAt kb k = some y ∧ wpAny (model prog w) A.in1 (eqBool v y) (fun r s'' => r = true ∧ L s'') E s')
    (fin : ∀ s, L s → Q (.bool true) s) (h : L s) : wpAny (model prog w) A (richCompare .Eq (.ref a) (.ref b)) Q E s := by
  refine wpAny_richCompare_same_room (op := .Eq) da.typeIs db.typeIs PySem.F.slot_dict_eq (wpAny_call_entry PySem.F.slot_dict_eq da.typeIs PySem.F.entry_dict_eq ?_ (PySem.F.args_dict_eq_2 _ _)) hu
  show wpAny _ _ (Builtin.Dict.dictSlotArgs "__eq__" ⟨[.ref a, .ref b], []⟩ >>= _) _ _ s
  refine wpAny_bind ?_
  unfold Builtin.Dict.dictSlotArgs
  refine wpAny_bind (wpAny_notOrdered_dict da.typeIs ?_)
  show wpAny _ _ (pure (Value.ref a, Value.ref b)) _ _ s
  refine wpAny_pure ?_
  refine wpAny_bind (wpAny_isInstance (T := "dict") db.typeIs PySem.F.sub_dict_dict ?_)
  simp only [Bool.not_true, Bool.false_eq_true, if_false]
  refine wpAny_bind (wpAny_pure (wpAny_bind (wpAny_pure ?_)))
  refine wpAny_bind (samePairsG ha hb L hL da db hlen turn (fun s' hs' => ?_) h)
  refine wpAny_pure ⟨_, rfl, ?_, ?_⟩
  · exact fun x => nomatch x
  · simpa using fin s' hs'
end
end PySem.W
namespace L2
open PySem PySem.Spec PyProof.Rows
section
variable {X : Cx} {n : Nat} {D : Eqv}
/-- locked dicts of the same keys, value by value -/
def DDict (D : Eqv) : Eqv := fun x y H => ∃ a b oa ob ka kb, x = .ref a ∧ y = .ref b ∧ H a = some (.frz oa (.dK ka)) ∧ H b = some (.frz ob (.dK kb)) ∧ ka.length = kb.length ∧ ∀ p ∈ ka, ∃ u, valV kb p.1 = some u ∧ D p.2 u H
theorem mon_dict (hD : Mon D) : Mon (DDict D) := fun x y H H' e d => by
  obtain ⟨a, b, oa, ob, ka, kb, hx, hy, h1, h2, hl, p⟩ := d
  exact ⟨a, b, oa, ob, ka, kb, hx, hy, e _ _ h1, e _ _ h2, hl, fun q hq => let ⟨u, h3, h4⟩ := p q hq; ⟨u, h3, hD _ _ _ _ e h4⟩⟩
theorem rcG_dict (hD : Mon D) (h : EqG X n D) : RcG X (n + 1) (DDict D) := by
  intro A pins s σ H x y u v sb I rx ry d
  obtain ⟨a, b, oa, ob, ka, kb, rfl, rfl, ha, hb, hl, hp⟩ := d
  cases rx
  cases ry
  obtain ⟨_, _, ya, va, ra, da⟩ := (show ObjOk X.prog X.w H s.heap a (.frz oa (.dK ka)) from I.hok a _ ha)
  obtain ⟨_, _, yb, vb, rb, db⟩ := (show ObjOk X.prog X.w H s.heap b (.frz ob (.dK kb)) from I.hok b _ hb)
  refine PySem.W.rcG_dicts (oa := oa) (ob := ob) (knd := mixKind X.prog X.w) ya yb (fun s' => LoopI X pins σ H s') (fun s' q => ?_) da db (by rw [← ra.length, ← rb.length]; exact hl) sb.room.units0 (fun i k v s' hk q => ?_) (fun s' q => ⟨rfl, q⟩) ⟨H, I, Ext.rfl'⟩
  · obtain ⟨H1, I1, e1⟩ := q
    exact ⟨(show ObjOk X.prog X.w H1 s'.heap a (.frz oa (.dK ka)) from I1.hok a _ (e1 _ _ ha)).1, (show ObjOk X.prog X.w H1 s'.heap b (.frz ob (.dK kb)) from I1.hok b _ (e1 _ _ hb)).1⟩
  · obtain ⟨H1, I1, e1⟩ := q
    have kat : ∀ {ps : List (Key × V)} {qs : List (Key × Value)} {i : Nat} {k : Key} {v : Value}, KV ps qs → qs[i]? = some (k, v) → ∃ x, (k, x) ∈ ps ∧ RelV x v := by
      intro ps qs i k v r hk
      unfold KV at r
      induction r generalizing i with
      | nil => simp at hk
      | @cons p q ps qs h t ih =>
        obtain ⟨h1, h2⟩ := h
        cases i with
        | zero =>
          simp at hk
          subst hk
          exact ⟨p.2, by rw [← show p.1 = k from h1]; exact List.mem_cons_self, h2⟩
        | succ i =>
          simp at hk
          obtain ⟨x, hx, rx⟩ := ih hk
          exact ⟨x, List.mem_cons_of_mem _ hx, rx⟩
    obtain ⟨xv, hm, rv⟩ := kat ra hk
    obtain ⟨xu, hu, hd⟩ := hp _ hm
    have rr : RelO (some xu) (valueAt vb k) := by rw [← hu]; exact rb.val k
    obtain ⟨y, hy, ry⟩ := rr.some_of
    refine ⟨y, hy, wpAny_mono (h A.in1 pins s' σ H1 xv xu v y sb.in1 I1 rv ry (hD _ _ _ _ e1 hd)) (fun r s2 q => ?_) fun _ _ x => x⟩
    obtain ⟨hr, H2, I2, e2⟩ := q
    exact ⟨hr, H2, I2, e1.trans e2⟩
theorem eqG_dict (hD : Mon D) (h : EqG X n D) : EqG X (n + 1) (DDict D) := (rcG_dict hD h).eqG fun _ _ _ d => let ⟨a, b, _, _, _, _, hx, hy, _⟩ := d; ⟨a, b, hx, hy⟩
/-- x != y of tuples that are equal -/
def rNeT (K : PySem.W.Frag) (D : Eqv) : R2 := fun x y H Q => DTup K D x y H ∧ ∀ H', Ext H H' → Q (.bl false) H'
theorem op_neT (hD : Mon D) (h : EqG X n D) (hr : Room (n + 1) X.A) : OpR X (compareOp .NotEq) (rNeT X.K D) := by
  intro pins s σ H x y v u Q I rx ry hq
  obtain ⟨d, q⟩ := hq
  show wpAny (model X.prog X.w) X.A (richCompare .NotEq v u) (EP X pins σ Q) X.xe s
  obtain ⟨a, b, xs, ys, rfl, rfl, ha, hb, p⟩ := d
  cases rx
  cases ry
  obtain ⟨its, r, e, z⟩ := I.tuple ha
  obtain ⟨its2, r2, e2, z2⟩ := I.tuple hb
  have hsz : its.toArray.size = its2.toArray.size := by rw [List.size_toArray, List.size_toArray, ← r.length, ← r2.length]; exact p.1
  refine GQ.rc_tupNeG hsz hr.units0 (fun _ s' => LoopI X pins σ H s') e e2 (fun i h1 h2 s' q => turnG hD h ⟨hr, rfl⟩ p r r2 i h1 h2 s' q) (fun s' q' => ?_) ⟨H, I, Ext.rfl'⟩
  obtain ⟨H', I', e'⟩ := q'
  exact ⟨.bl false, H', I', rfl, q H' e'⟩
/-! locks for operators -/
def rLock (r : R2) : R2 := fun x y H Q => ∃ d u, H d = some u ∧ Mut (some u) ∧ ∀ od, r x y (upd H d (.frz od u)) fun v H' => H' d = some (.frz od u) ∧ Q v (upd H' d u)
theorem op_lock {op : Value → Value → Sem Value} {r : R2} (h : OpR X op r) : OpR X op (rLock r) := by
  intro pins s σ H x y v u Q I rx ry hq
  obtain ⟨d, uo, hd, mu, hq⟩ := hq
  obtain ⟨od, I1⟩ := I.lock hd mu
  refine wpAny_mono (h pins s σ _ x y v u _ I1 rx ry (hq od)) (fun r s' z => ?_) fun _ _ x => x
  obtain ⟨y', H', I2, ry', e, q⟩ := z
  exact ⟨y', _, I2.unlock e (I.nofrz hd mu), ry', q⟩
end
end L2

/-! ##### XR -/
set_option Elab.async false
set_option linter.all false
set_option maxRecDepth 100000
set_option maxHeartbeats 2000000
/-! == and != of instances with an own __eq__, by positional promises -/
namespace L2
open PySem PySem.Spec PyProof.Rows
theorem ns_some_of {K : PySem.W.Frag} {h : Heap} {N : Addr} {mg : Str → Option Value} {x : Str} {v : Value} (X : K.In h) (G : h.Ns N mg) (e : PySem.W.nsIn K N x = some (some v)) : mg x = some v := by
  obtain ⟨o, es, ep, ho, hd, _, hf⟩ := G
  unfold PySem.W.nsIn at e
  split at e
  · rename_i c d es' n' sl q
    have := X _ _ q
    rw [ho] at this
    cases this
    cases hd
    split at e
    · rename_i en he
      cases e
      rw [← hf]
      unfold nsFind findBy
      rw [← Array.find?_toList, he]
      rfl
    · split at e <;> cases e
  · cases e
theorem own_ne {K : PySem.W.Frag} {h : Heap} {C f x : Addr} {ox : Obj} (X : K.In h) (q : neIn K C f = true) (hf : PySem.W.isFn K (.ref f) = true) (hx : h.get? x = some ox) (hc : ox.cls = .ref C) : h.OwnEqNoNe x C f "object" [.type "object"] := by
  unfold neIn at q
  split at q
  · rename_i dd cd sl ho
    split at q
    · rename_i C' bm k0 k1 k2 k3 n k5 hm hs
      simp only [Bool.and_eq_true, beq_iff_eq, Bool.not_eq_true'] at q
      obtain ⟨⟨⟨⟨⟨rfl, hdel⟩, rfl⟩, hok⟩, heq⟩, hne⟩ := q
      obtain ⟨nm, bs, mro, ns, qn, hd, sn, sub, ab, col, del⟩ := cd
      dsimp only at hm hdel hok heq hne
      subst hm hdel
      have hsl : sl = #[k0, k1, k2, k3, some (.builtin n), k5] := by
        obtain ⟨l⟩ := sl
        simp only at hs
        rw [hs]
      subst hsl
      have hF : ∃ of, K.lookup f = some of ∧ of.cls = .type "function" := by
        have := beq_iff_eq.mp hf
        unfold PySem.W.typeIn at this
        obtain ⟨o, h1, h2⟩ := Option.map_eq_some_iff.mp this
        exact ⟨o, h1, h2⟩
      obtain ⟨of, hof, hofc⟩ := hF
      have hns : h.Ns ns _ := .of_isNs (PySem.W.isNs_of_in X hok)
      exact ⟨ox, of, nm, qn, ns, bs, hd, sn, sub, ab, col, dd, k0, k1, k2, k3, k5, n, _, _, hx, hc, X _ _ ho, hns, ns_some_of X hns heq, X _ _ hof, hofc, PySem.F.cmp_object.mro, PySem.F.cmp_object.eq.lookup, PySem.W.nsMap_none_of_in X hok hne⟩
    · cases q
  · cases q
section
variable {X : Cx} {n : Nat} {CX : CXT} {C f : Addr} {sp : Sp} {E : XK}
theorem env_below {pins : List (Addr × Obj)} {σ : St} {H : Hp} {s : Shared} {A : Around} (I : Inv X pins σ H s) (sb : Sub X n A) : Env0 X.prog X.w X.K X.mg X.base A X.stack s H := by
  have e := I.env0
  exact ⟨by rw [sb.fr]; exact e.frames, e.mod, e.bs, e.bsz, e.funs, e.frf, e.hok, e.bare⟩
theorem rcG_insR {R : Addr → Addr → Hp → Prop} (F : FnR X.prog X.w X.K X.mg X.base CX n f sp) (hsp : ∀ a b H (Q : VK), R a b H → (∀ H', Ext H H' → Q (.bl true) H') → sp [.ref a, .ref b] H Q E)
    (hs : PySem.W.findIn X.K (.ref C) "__eq__" = some (some (.ref f))) (hf : PySem.W.isFn X.K (.ref f) = true) (hx : Passes CX X E) : RcG X n (DIns C R) := by
  intro A pins s σ H x y u v sb I rx ry d
  obtain ⟨a, b, dx, dy, fs, gs, rfl, rfl, ha, hb', hr⟩ := d
  cases rx
  cases ry
  obtain ⟨mA, J, _⟩ := ins_get I.hok ha
  obtain ⟨mB, J', _⟩ := ins_get I.hok hb'
  obtain ⟨od, J, _⟩ := J.look
  obtain ⟨od', J', _⟩ := J'.look
  obtain ⟨m, hF⟩ := I.fr
  refine PySem.W.cmp_K (op := .Eq) (tb := .ref C) sb.room.units0 hF I.ok.mod.kin J J'.type (by simp [PySem.W.notFirst]) hs hf ?_
  refine wpAny_call (codeAny_mono (F A X.stack s H [.ref a, .ref b] [.ref a, .ref b] (fun v H' => v = .bl true ∧ Ext H H') E sb.room (env_below I sb) (.cons rfl (.cons rfl .nil)) (hsp a b H _ hr fun H' e => ⟨rfl, e⟩)) fun r s' hq => ?_)
  cases r with
  | error e => exact hx pins σ H s e s' (I.wish _) hq
  | ok fl =>
    cases fl with
    | ret w =>
      obtain ⟨z, H', I', rz, ez, ex⟩ := I.after hq
      subst ez
      cases rz
      exact ⟨rfl, H', I', ex⟩
    | next => exact False.elim hq
    | brk => exact False.elim hq
    | cont => exact False.elim hq
theorem eqG_insR {R : Addr → Addr → Hp → Prop} (F : FnR X.prog X.w X.K X.mg X.base CX n f sp) (hsp : ∀ a b H (Q : VK), R a b H → (∀ H', Ext H H' → Q (.bl true) H') → sp [.ref a, .ref b] H Q E)
    (hs : PySem.W.findIn X.K (.ref C) "__eq__" = some (some (.ref f))) (hf : PySem.W.isFn X.K (.ref f) = true) (hx : Passes CX X E) : EqG X n (DIns C R) :=
  (rcG_insR F hsp hs hf hx).eqG fun _ _ _ d => let ⟨a, b, _, _, _, _, hx, hy, _⟩ := d; ⟨a, b, hx, hy⟩
/-- x != y of two instances, by the own == -/
def rNeI (C : Addr) (sp : Sp) (E : XK) : R2 := fun x y H Q => ∃ a b dx dy fs gs, x = .ref a ∧ y = .ref b ∧ H a = some (.ins C dx fs) ∧ H b = some (.ins C dy gs) ∧ sp [.ref a, .ref b] H (fun v H' => ∃ k, v = .bl k ∧ Q (.bl (!k)) H') E
theorem op_neI (F : FnR X.prog X.w X.K X.mg X.base CX n f sp) (hr : Room (n + 1) X.A) (hn : neIn X.K C f = true) (hf : PySem.W.isFn X.K (.ref f) = true) (hx : Passes CX X E) : OpR X (compareOp .NotEq) (rNeI C sp E) := by
  intro pins s σ H x y v u Q I rx ry h
  obtain ⟨a, b, dx, dy, fs, gs, rfl, rfl, ha, hb', hsp⟩ := h
  cases rx
  cases ry
  obtain ⟨mA, J, _⟩ := ins_get I.hok ha
  obtain ⟨mB, J', _⟩ := ins_get I.hok hb'
  obtain ⟨od, J, _⟩ := J.look
  obtain ⟨od', J', _⟩ := J'.look
  have hu : X.A.units + 1 < cLine := hr.in1.units0
  have O := own_ne I.kIn hn hf J.at_ J.cls
  have hcall : wpAny (model X.prog X.w) X.A.in1 (call (.ref f) [.ref a, .ref b]) (fun v s' => ∃ b, v = .bool b ∧ EP X pins σ Q (.bool (!b)) s') X.xe s := by
    refine wpAny_call (codeAny_mono (F X.A.in1 X.stack s H [.ref a, .ref b] [.ref a, .ref b] _ E hr.in1 I.env0.in1 (.cons rfl (.cons rfl .nil)) hsp) fun r s' hq => ?_)
    cases r with
    | error e => exact hx pins σ H s e s' (I.wish _) hq
    | ok fl =>
      cases fl with
      | ret w =>
        obtain ⟨z, H', I', rz, k, ez, q⟩ := I.after hq
        subst ez
        cases rz
        exact ⟨k, rfl, .bl (!k), H', I', rfl, q⟩
      | next => exact False.elim hq
      | brk => exact False.elim hq
      | cont => exact False.elim hq
  obtain ⟨hh, g, d, t, os⟩ := s
  exact compareOp_ne_ownEq PySem.F.cmp_object O J'.at_ J'.cls hu hcall
end
end L2

/-! ##### XW -/
set_option Elab.async false
set_option linter.all false
set_option maxRecDepth 100000
set_option maxHeartbeats 2000000
/-! readings, one step a lemma -/
namespace PW
open PySem PySem.Spec PyProof.Rows L2 PWL
theorem b_isinstance : bootBuiltins ("isinstance" : Str) = some (.builtin "isinstance") := by decide +kernel
theorem b_abs : bootBuiltins ("abs" : Str) = some (.builtin "abs") := by decide +kernel
theorem b_all : bootBuiltins ("all" : Str) = some (.builtin "all") := by decide +kernel
theorem b_sorted : bootBuiltins ("sorted" : Str) = some (.builtin "sorted") := by decide +kernel
theorem b_sum : bootBuiltins ("sum" : Str) = some (.builtin "sum") := by decide +kernel
theorem b_min : bootBuiltins ("min" : Str) = some (.builtin "min") := by decide +kernel
theorem b_len : bootBuiltins ("len" : Str) = some (.builtin "len") := by decide +kernel
theorem b_int : bootBuiltins ("int" : Str) = some (.type "int") := by decide +kernel
theorem b_bool : bootBuiltins ("bool" : Str) = some (.type "bool") := by decide +kernel
theorem b_str : bootBuiltins ("str" : Str) = some (.type "str") := by decide +kernel
theorem b_tuple : bootBuiltins ("tuple" : Str) = some (.type "tuple") := by decide +kernel
theorem b_list : bootBuiltins ("list" : Str) = some (.type "list") := by decide +kernel
theorem b_dict : bootBuiltins ("dict" : Str) = some (.type "dict") := by decide +kernel
section
variable {P : Program} {w : World} {K : PySem.W.Frag} {mg : Str → Option Value} {base : Heap} {x qual : Str} {params : Arguments} {body : List Stmt} {scope : Scope} {f : Addr} {fd : FuncData}
/-- a def that lets no exception out -/
theorem fnR_nox {N ps : List Str} {k : Nat} {sp : Sp} (F : FunD K x qual params body scope [] [] f fd) (S : FnScope N ps scope) (len : ∀ vs H Q E, sp vs H Q E → vs.length = ps.length)
    (hb : ∀ (kV doc pm : Value) (an : Option Addr) (cdv ct : Value) (us : List Value), us.length = ps.length → bindArgs (PySem.W.fnOf x qual params body scope .none kV doc pm an cdv ct) ⟨us, []⟩ = pure (ps.zip us))
    (hbody : ∀ (cdv : Value) (A : Around) (outer : List Env) (s : Shared) (H : Hp) (vs : List V) (Q : VK) (E : XK), Room k (A.deeper (envOfC qual scope s.heap.objs.size f cdv)) → sp vs H Q E →
      ∃ t, PSs (cxOf (L2.CX P w) P w K mg base N qual scope f cdv A outer s H E).nox body t ∧ t { nx := fun _ H' => Q .non H', rt := Q } (start N vs) H) : FnR P w K mg base (L2.CX P w) (k + 1) f sp :=
  fnR_of F S len hb fun cdv A outer s H vs Q E hr h => by
    obtain ⟨t, ht, q⟩ := hbody cdv A outer s H vs Q E hr h
    exact ⟨t, ht.nox, q⟩
end
section
variable {K : PySem.W.Frag} {σ σ' : L2.St} {H : Hp} {Q : VK} {D : Ends} {x y z v : V} {te ta tb tc : TE} {t u : TT} {ts us : TS} {tr : TA} {g : TG} {gs : TGs} {r : R2} {QT : Bool → Hp → Prop} {QA : List V → Hp → Prop} {QG : L2.St → Hp → Prop} {QO : Option Int → Hp → Prop}
theorem w_seq (h : ts { D with nx := us D } σ H) : tSeq ts us D σ H := h
theorem w_ret (h : te σ H D.rt) : tRet te D σ H := h
theorem w_retN (h : D.rt .non H) : tRetN D σ H := h
theorem w_asg (h : te σ H fun x H1 => g x σ H1 D.nx) : tAsg te g D σ H := h
theorem w_drop (h : te σ H fun _ H1 => D.nx σ H1) : tDrop te D σ H := h
theorem w_ifs (h : t σ H fun b H1 => if b = true then ts D σ H1 else us D σ H1) : tIfS t ts us D σ H := h
theorem w_next (h : D.nx σ H) : tNext D σ H := h
theorem w_cont (h : D.ct σ H) : tCont D σ H := h
theorem w_par {i j : Nat} (h : tr σ H fun vs H1 => ∃ v w, vs = [v, w] ∧ D.nx ((σ.set i (some v)).set j (some w)) H1) : tPar i j tr D σ H := h
theorem w_two {v w : V} {P : V → V → Prop} (h : P v w) : ∃ v' w', [v, w] = [v', w'] ∧ P v' w' := ⟨v, w, rfl, h⟩
theorem w_name {i : Nat} (h : QG (σ.set i (some v)) H) : gName i v σ H QG := h
theorem w_gtup {n : Nat} {a : Addr} {xs : List V} (hq : SqT K H a xs) (hl : xs.length = n) (h : gs xs σ H QG) : gTup K n gs (.ref a) σ H QG := ⟨a, xs, rfl, hq, hl, h⟩
theorem w_gcons {vs : List V} (h : g v σ H fun σ' H' => gs vs σ' H' QG) : gCons g gs (v :: vs) σ H QG := ⟨v, vs, rfl, h⟩
theorem w_gnil (h : QG σ H) : gNil [] σ H QG := ⟨rfl, h⟩
theorem w_var {i : Nat} (e : σ[i]? = some (some v)) (h : Q v H) : tVar i σ H Q := ⟨v, e, h⟩
theorem w_c (h : Q v H) : tC v σ H Q := h
theorem w_op (h : ta σ H fun x H1 => tb σ H1 fun y H2 => r x y H2 Q) : tOp r ta tb σ H Q := h
theorem w_un {r : V → Hp → VK → Prop} (h : ta σ H fun x H1 => r x H1 Q) : tUn r ta σ H Q := h
theorem w_cb {r : List V → Hp → VK → Prop} (h : tr σ H fun vs H1 => r vs H1 Q) : tCB r tr σ H Q := h
theorem w_cons (h : te σ H fun x H1 => tr σ H1 fun xs H2 => QA (x :: xs) H2) : tCons te tr σ H QA := h
theorem w_nil (h : QA [] H) : tNil σ H QA := h
theorem w_tup (h : tr σ H fun xs H1 => xs.length ≤ sizeLine ∧ ∀ p, H1 p = none → Q (.ref p) (upd H1 p (.tup xs))) : tTup tr σ H Q := h
theorem w_lst (h : tr σ H fun xs H1 => xs.length ≤ sizeLine ∧ ∀ p, H1 p = none → Q (.ref p) (upd H1 p (.lst xs))) : tLst tr σ H Q := h
theorem w_fresh {n : Nat} {P : Addr → Prop} {R : Addr → Prop} (hn : n ≤ 1000) (h : ∀ p, R p → P p) : n ≤ sizeLine ∧ ∀ p, R p → P p := ⟨Nat.le_trans hn (by decide), h⟩
theorem w_test (h : te σ H fun x H' => ∃ k, x = .bl k ∧ QT k H') : tTest te σ H QT := h
theorem w_B (h : te σ H fun x H' => ∃ k, x = .bl k ∧ QT k H') : tB te σ H QT := h
theorem w_k {b : Bool} {P : Bool → Prop} (h : P b) : ∃ k, V.bl b = .bl k ∧ P k := ⟨b, rfl, h⟩
theorem w_and (h : t σ H fun c H1 => if c = true then u σ H1 QT else QT false H1) : tAnd t u σ H QT := h
theorem w_or (h : t σ H fun c H1 => if c = true then QT true H1 else u σ H1 QT) : tOr t u σ H QT := h
theorem w_not (h : t σ H fun c H1 => QT (!c) H1) : tNot t σ H QT := h
theorem w_andV (h : ta σ H fun x H1 => ∃ c, x = .bl c ∧ if c = true then tb σ H1 Q else Q (.bl false) H1) : tAndV ta tb σ H Q := h
theorem w_orV (h : ta σ H fun x H1 => ∃ c, x = .bl c ∧ if c = true then Q (.bl true) H1 else tb σ H1 Q) : tOrV ta tb σ H Q := h
theorem w_notV (h : ta σ H fun x H1 => ∃ c, x = .bl c ∧ Q (.bl (!c)) H1) : tNotV ta σ H Q := h
theorem w_if (h : t σ H fun c H1 => if c = true then ta σ H1 Q else tb σ H1 Q) : tIf t ta tb σ H Q := h
theorem w_yes (h : QT true H) : tYes σ H QT := h
theorem w_isN (h : ta σ H fun x H1 => Q (.bl (decide (x = .non))) H1) : tIsN ta σ H Q := h
theorem w_chain {r' : R2} (h : ta σ H fun x H1 => tb σ H1 fun y H2 => r x y H2 fun z H3 => ∃ k, z = .bl k ∧ (if k = true then tc σ H3 fun w' H4 => r' y w' H4 Q else Q (.bl false) H3)) : tChain r r' ta tb tc σ H Q := h
theorem w_sl {r : V → Option Int → Option Int → Hp → VK → Prop} {tl th : TO} (h : te σ H fun x H1 => tl σ H1 fun l H2 => th σ H2 fun u H3 => r x l u H3 Q) : tSl r te tl th σ H Q := h
theorem w_noPart (h : QO none H) : tNoPart σ H QO := h
theorem w_part (h : te σ H fun x H1 => ∃ i, x = .int i ∧ QO (some i) H1) : tPart te σ H QO := h
theorem w_ki {i : Int} {P : Int → Prop} (h : P i) : ∃ j, V.int i = .int j ∧ P j := ⟨i, rfl, h⟩
theorem w_fld {f : Str} (h : ta σ H fun x H1 => ∃ a C dx fs v, x = .ref a ∧ H1 a = some (.ins C dx fs) ∧ Cls K C ∧ NoAttr K C f ∧ fs.lookup f = some v ∧ Q v H1) : tFld K ta f σ H Q := h
theorem w_dget (h : ta σ H fun x H1 => tb σ H1 fun y H2 => ∃ a v, x = .ref a ∧ DGet H2 a y (some v) ∧ Q v H2) : tDGet ta tb σ H Q := h
theorem w_din (h : ta σ H fun y H1 => tb σ H1 fun x H2 => ∃ a o, x = .ref a ∧ DGet H2 a y o ∧ Q (.bl o.isSome) H2) : tDIn ta tb σ H Q := h
theorem w_dnotin (h : ta σ H fun y H1 => tb σ H1 fun x H2 => ∃ a o, x = .ref a ∧ DGet H2 a y o ∧ Q (.bl (!o.isSome)) H2) : tDNotIn ta tb σ H Q := h
theorem w_dput (h : tc σ H fun v H1 => ta σ H1 fun x H2 => tb σ H2 fun y H3 => ∃ a H4, x = .ref a ∧ DPut H3 a y v H4 ∧ D.nx σ H4) : sDPut ta tb tc D σ H := h
theorem w_newK (h : ∀ p, H p = none → Q (.ref p) (upd H p (.dK []))) : tDNewK σ H Q := h
theorem w_sfld {f : Str} (h : tb σ H fun y H1 => ta σ H1 fun x H2 => ∃ a C dx fs, x = .ref a ∧ H2 a = some (.ins C dx fs) ∧ Cls K C ∧ NoAttr K C f ∧ fs.length < 1000 ∧ D.nx σ (upd H2 a (.ins C dx (putF f y fs)))) : sFld K ta tb f D σ H := h
theorem w_methR {C : Addr} {m : Str} {sp : Sp} {E : XK} (h : ta σ H fun x H1 => ∃ a dx fs, x = .ref a ∧ H1 a = some (.ins C dx fs) ∧ fs.lookup m = none ∧ tr σ H1 fun vs H2 => sp (x :: vs) H2 Q E) : tMethR C m sp E ta tr σ H Q := h
theorem w_meth {C a dx : Addr} {m : Str} {fs : List (Str × V)} {P : V → Prop} (ha : H a = some (.ins C dx fs)) (hm : fs.lookup m = none) (h : P (.ref a)) : ∃ a' dx' fs', V.ref a = .ref a' ∧ H a' = some (.ins C dx' fs') ∧ fs'.lookup m = none ∧ P (.ref a) := ⟨a, dx, fs, rfl, ha, hm, h⟩
theorem w_propR {C : Addr} {sp : Sp} {E : XK} (h : ta σ H fun x H1 => ∃ a dx fs, x = .ref a ∧ H1 a = some (.ins C dx fs) ∧ sp [.ref a] H1 Q E) : tPropR C sp E ta σ H Q := h
theorem w_sl2 {tl : TO} (h : te σ H fun x H1 => tl σ H1 fun l H2 => ∃ a xs k, x = .ref a ∧ SqT K H2 a xs ∧ k ≤ xs.length ∧ ((l = none ∧ k = 0) ∨ l = some ((k : Nat) : Int)) ∧ ∀ p, H2 p = none → Q (.ref p) (upd H2 p (.tup (every2 (xs.drop k))))) : tSl2 K te tl σ H Q := h
theorem w_star (h : te σ H fun x H1 => ∃ p xs, x = V.ref p ∧ (SqT K H1 p xs ∨ SqL K H1 p xs) ∧ tr σ H1 fun ys H2 => QA (xs ++ ys) H2) : StX.tStar K te tr σ H QA := h
/-! operators' readings -/
theorem r_i0 {f : Int → Int → V} {i j : Int} (h : Q (f i j) H) : rI0 f (.int i) (.int j) H Q := ⟨i, j, rfl, rfl, h⟩
theorem r_i {C : Int → Int → Prop} {f : Int → Int → V} {i j : Int} (hc : C i j) (h : Q (f i j) H) : rI C f (.int i) (.int j) H Q := ⟨i, j, rfl, rfl, hc, h⟩
theorem r_u {f : Int → V} {i : Int} (h : Q (f i) H) : rU f (.int i) H Q := ⟨i, rfl, h⟩
theorem r_eq (hs : scal x y = true) (h : Q (.bl (decide (x = y))) H) : rEq x y H Q := ⟨hs, h⟩
theorem r_ne (hs : scal x y = true) (h : Q (.bl (!decide (x = y))) H) : rNe x y H Q := ⟨hs, h⟩
theorem r_eqi {i j : Int} (h : Q (.bl (decide (i = j))) H) : rEq (.int i) (.int j) H Q := ⟨rfl, by simpa using h⟩
theorem r_nei {i j : Int} (h : Q (.bl (!decide (i = j))) H) : rNe (.int i) (.int j) H Q := ⟨rfl, by simpa using h⟩
theorem r_eqs {i j : Str} (h : Q (.bl (decide (i = j))) H) : rEq (.str i) (.str j) H Q := ⟨rfl, by simpa using h⟩
theorem r_nes {i j : Str} (h : Q (.bl (!decide (i = j))) H) : rNe (.str i) (.str j) H Q := ⟨rfl, by simpa using h⟩
theorem r_ixT {p : Addr} {xs : List V} {i : Int} (hx : SqT K H p xs) (ha : atI xs i = some v) (h : Q v H) : rIxT K (.ref p) (.int i) H Q := ⟨p, xs, i, v, rfl, rfl, hx, ha, h⟩
theorem r_ixL {p : Addr} {xs : List V} {i : Int} (hx : SqL K H p xs) (ha : atI xs i = some v) (h : Q v H) : rIxL K (.ref p) (.int i) H Q := ⟨p, xs, i, v, rfl, rfl, hx, ha, h⟩
theorem tyx_tup {a : Addr} {xs : List V} (h : SqT K H a xs) : TyX K H (.ref a) (.type "tuple") := by
  rcases h with (h | ⟨o, h⟩) | ⟨o, its, n, hk, hc, _⟩
  · exact .base (.tup h)
  · exact .fTuple h
  · exact .kTuple hk hc
theorem tyx_lst {a : Addr} {xs : List V} (h : SqL K H a xs) : TyX K H (.ref a) (.type "list") := by
  rcases h with (h | ⟨o, h⟩) | ⟨o, its, n, hk, hc, _⟩
  · exact .base (.lst h)
  · exact .base (.frz h)
  · exact .kList hk hc
theorem r_isi {a b : String} {k : Bool} (ht : TyX K H x (.type a)) (hk : kitB a b = some k) (h : Q (.bl k) H) : rIsi K [x, .ty b] H Q := ⟨x, .ty b, .type a, .type b, k, rfl, .ty b, ht, kit_ty hk, h⟩
theorem r_lenS {z : Str} {PP : Str → Prop} (hz : z.length ≤ sizeLine) (h : PP z) : ∃ z', [V.str z] = [.str z'] ∧ z'.length ≤ sizeLine ∧ PP z' := ⟨z, rfl, hz, h⟩
theorem r_lenD {a : Addr} {kvs : List (Key × V)} {PP : Addr → List (Key × V) → Prop} (hx : H a = some (.dK kvs)) (h : PP a kvs) : ∃ a' kvs', [V.ref a] = [V.ref a'] ∧ H a' = some (.dK kvs') ∧ PP a' kvs' := ⟨a, kvs, rfl, hx, h⟩
theorem r_in {p : Addr} {xs : List V} (hx : SqL K H p xs ∨ SqT K H p xs) (f1 : flatV x = true) (f2 : xs.all flatV = true) (h : Q (.bl (inV x xs)) H) : rIn K false x (.ref p) H Q := ⟨p, xs, rfl, hx, f1, f2, h⟩
theorem r_notin {p : Addr} {xs : List V} (hx : SqL K H p xs ∨ SqT K H p xs) (f1 : flatV x = true) (f2 : xs.all flatV = true) (h : Q (.bl (!inV x xs)) H) : rIn K true x (.ref p) H Q := ⟨p, xs, rfl, hx, f1, f2, h⟩
theorem isi_int_int {i : Int} (h : Q (.bl true) H) : rIsi K [.int i, .ty "int"] H Q := r_isi (.base (.int i)) (k := true) (by decide +kernel) h
theorem isi_int_bool {i : Int} (h : Q (.bl false) H) : rIsi K [.int i, .ty "bool"] H Q := r_isi (.base (.int i)) (k := false) (by decide +kernel) h
theorem isi_str_str {z : Str} (h : Q (.bl true) H) : rIsi K [.str z, .ty "str"] H Q := r_isi (.base (.str z)) (k := true) (by decide +kernel) h
theorem isi_tup_tup {a : Addr} {xs : List V} (hx : SqT K H a xs) (h : Q (.bl true) H) : rIsi K [.ref a, .ty "tuple"] H Q := r_isi (tyx_tup hx) (k := true) (by decide +kernel) h
theorem isi_lst_tup {a : Addr} {xs : List V} (hx : SqL K H a xs) (h : Q (.bl false) H) : rIsi K [.ref a, .ty "tuple"] H Q := r_isi (tyx_lst hx) (k := false) (by decide +kernel) h
theorem isi_dict_dict {a : Addr} {kvs : List (Key × V)} (hx : H a = some (.dK kvs)) (h : Q (.bl true) H) : rIsi K [.ref a, .ty "dict"] H Q := r_isi (.base (.dK hx)) (k := true) (by decide +kernel) h
theorem w_1i {i : Int} {P : Int → Prop} (h : P i) : ∃ j, [V.int i] = [V.int j] ∧ P j := ⟨i, rfl, h⟩
theorem w_int_i {i : Int} {P : Int → Prop} {P2 : Bool → Prop} (h : P i) : (∃ j, [V.int i] = [V.int j] ∧ P j) ∨ ∃ k, [V.int i] = [V.bl k] ∧ P2 k := .inl ⟨i, rfl, h⟩
theorem w_int_b {b : Bool} {P : Int → Prop} {P2 : Bool → Prop} (h : P2 b) : (∃ j, [V.bl b] = [V.int j] ∧ P j) ∨ ∃ k, [V.bl b] = [V.bl k] ∧ P2 k := .inr ⟨b, rfl, h⟩
/-- == of data known to be equal, or of any data -/
theorem r_eqD {d e : PyData} (hx : Dp K H x d) (hy : Dp K H y e) (s1 : SeqAt.shaped d = true) (s2 : SeqAt.shaped e = true) (h : Q (.bl (PyData.eqv d e)) H) : rEqD K x y H Q := ⟨d, e, hx, hy, s1, s2, h⟩
theorem r_neD {d e : PyData} (hx : Dp K H x d) (hy : Dp K H y e) (s1 : SeqAt.shaped d = true) (s2 : SeqAt.shaped e = true) (h : Q (.bl (!PyData.eqv d e)) H) : rNeD K x y H Q := ⟨d, e, hx, hy, s1, s2, h⟩
/-- a for over it, ready -/
theorem w_while {tc : TT} (Pv : L2.St → Hp → Prop) (μ : L2.St → Hp → Nat) (h0 : Pv σ H)
    (hs : ∀ σ H, Pv σ H → tc σ H fun b H1 => if b = true then ts { D with nx := fun σ' H' => Pv σ' H' ∧ μ σ' H' < μ σ H, ct := fun σ' H' => Pv σ' H' ∧ μ σ' H' < μ σ H, bk := D.nx } σ H1 else D.nx σ H1)
    (mono : ∀ σ H Q Q', (∀ b H1, Q b H1 → Q' b H1) → tc σ H Q → tc σ H Q') : tWhile tc ts D σ H := while_by Pv μ h0 hs mono
theorem ite_t {b : Bool} {A B : Prop} (hb : b = true) (h : A) : if b = true then A else B := by rw [if_pos hb]; exact h
theorem ite_f {b : Bool} {A B : Prop} (hb : b = false) (h : B) : if b = true then A else B := by rw [hb]; exact iteF h
def rLenSq (K : PySem.W.Frag) : List V → Hp → VK → Prop := fun xs H Q => ∃ p ys, xs = [.ref p] ∧ (SqL K H p ys ∨ SqT K H p ys) ∧ Q (.int ys.length) H
theorem call_lenSq {X : Cx} : CallR X (.builtin "len") (rLenSq X.K) := call_len_seq
def rListOf (K : PySem.W.Frag) : List V → Hp → VK → Prop := fun xs H Q => ∃ p ys, xs = [.ref p] ∧ (SqL K H p ys ∨ SqT K H p ys) ∧ ∀ l, H l = none → Q (.ref l) (upd H l (.lst ys))
theorem call_listOf {X : Cx} : CallR X (.type "list") (rListOf X.K) := call_list_of
theorem r_lenT {p : Addr} {ys : List V} (hx : SqT K H p ys) (h : Q (.int ys.length) H) : rLenSq K [V.ref p] H Q := ⟨p, ys, rfl, .inr hx, h⟩
theorem r_lenL {p : Addr} {ys : List V} (hx : SqL K H p ys) (h : Q (.int ys.length) H) : rLenSq K [V.ref p] H Q := ⟨p, ys, rfl, .inl hx, h⟩
theorem r_listOf {p : Addr} {ys : List V} (hx : SqL K H p ys ∨ SqT K H p ys) (h : ∀ l, H l = none → Q (.ref l) (upd H l (.lst ys))) : rListOf K [V.ref p] H Q := ⟨p, ys, rfl, hx, h⟩
/-! comprehensions and loops -/
theorem w_lc {wi : TI} {vs : List Nat} (h : wi σ H fun J H1 => ∀ D, H1 D = none → ∃ W : Nat → Nat → Hp → Prop, (∃ m, W 0 m (upd H1 D (.lst []))) ∧ ∀ i m H, W i m H →
    (J.stop i H ∧ Q (.ref D) H) ∨ (J.go i H ∧ ∃ Nx : Hp → Prop, (∀ H', Nx H' → ∃ m', m' < m ∧ W (i + 1) m' H') ∧ ∀ x H', J.yld i H x H' → g x (wipe σ vs) H' fun σ2 H2 => wipe σ2 vs = wipe σ vs ∧ t σ2 H2 fun b H3 =>
      if b = true then te σ2 H3 fun y H4 => ∃ acc, H4 D = some (.lst acc) ∧ acc.length < sizeLine ∧ Nx (upd H4 D (.lst (acc ++ [y]))) else Nx H3)) : tLc wi g t te vs σ H Q := h
theorem w_dc {wi : TI} {vs : List Nat} (h : wi σ H fun J H1 => ∀ D, H1 D = none → ∃ W : Nat → Nat → Hp → Prop, (∃ m, W 0 m (upd H1 D (.dK []))) ∧ ∀ i m H, W i m H →
    (J.stop i H ∧ Q (.ref D) H) ∨ (J.go i H ∧ ∃ Nx : Hp → Prop, (∀ H', Nx H' → ∃ m', m' < m ∧ W (i + 1) m' H') ∧ ∀ x H', J.yld i H x H' → g x (wipe σ vs) H' fun σ2 H2 => wipe σ2 vs = wipe σ vs ∧ t σ2 H2 fun b H3 =>
      if b = true then ta σ2 H3 fun y H4 => tb σ2 H4 fun z H5 => ∃ kvs k, y = kV k ∧ H5 D = some (.dK kvs) ∧ kvs.length < sizeLine ∧ Nx (upd H5 D (.dK (putK kvs k z))) else Nx H3)) : tDc wi g t ta tb vs σ H Q := h
theorem w_for {wi : TI} (h : wi σ H fun J H1 => ∃ W : Nat → Nat → L2.St → Hp → Prop, (∃ m, W 0 m σ H1) ∧ ∀ i m σ H, W i m σ H →
    (J.stop i H ∧ D.nx σ H) ∨ (J.go i H ∧ ∃ N : L2.St → Hp → Prop, (∀ σ' H', N σ' H' → ∃ m', m' < m ∧ W (i + 1) m' σ' H') ∧ ∀ x H', J.yld i H x H' → g x σ H' fun σ2 H2 => ts { D with nx := N, ct := N, bk := D.nx } σ2 H2)) : tFor wi g ts D σ H := h
theorem w_istr {R : It → Hp → Prop} (h : te σ H fun v H1 => ∃ x, v = .str x ∧ R (Its x) H1) : iStr te σ H R := h
theorem w_ilist {R : It → Hp → Prop} (h : te σ H fun x H1 => ∃ a, x = .ref a ∧ (∃ xs, SqL K H1 a xs) ∧ R (Itl K a) H1) : iList K te σ H R := h
theorem w_itup {R : It → Hp → Prop} (h : te σ H fun x H1 => ∃ a, x = .ref a ∧ (∃ xs, SqT K H1 a xs) ∧ R (Itt K a) H1) : iTup K te σ H R := h
theorem w_irng1 {R : It → Hp → Prop} (h : tr σ H fun vs H1 => ∃ j : Int, vs = [.int j] ∧ -(2 ^ 62) ≤ j ∧ j < 2 ^ 62 ∧ R (Itr 0 j.toNat) H1) : iRng1 tr σ H R := h
theorem w_irng2 {R : It → Hp → Prop} (h : tr σ H fun vs H1 => ∃ i j : Int, vs = [.int i, .int j] ∧ (-(2 ^ 62) ≤ i ∧ i < 2 ^ 62 ∧ -(2 ^ 62) ≤ j ∧ j < 2 ^ 62) ∧ R (Itr i (j - i).toNat) H1) : iRng2 tr σ H R := h
theorem w_ienum {R : It → Hp → Prop} (h : tr σ H fun vs H1 => ∃ a xs, vs = [.ref a] ∧ SqL K H1 a xs ∧ R (Ite K a) H1) : iEnum K tr σ H R := h
theorem w_iitems {R : It → Hp → Prop} (h : te σ H fun x H1 => ∃ d o kvs, x = .ref d ∧ H1 d = some (.frz o (.dK kvs)) ∧ R (Iti d o kvs) H1) : iItems te σ H R := h
theorem w_ks {z : Str} {PP : Str → Prop} (h : PP z) : ∃ z', V.str z = .str z' ∧ PP z' := ⟨z, rfl, h⟩
theorem w_kr {a : Addr} {PP : Addr → Prop} (h : PP a) : ∃ a', V.ref a = .ref a' ∧ PP a' := ⟨a, rfl, h⟩
/-- what a comprehension keeps: all that stood, and the list so far -/
def PvA (H1 : Hp) (Da : Addr) (acc : Nat → List V) (i : Nat) (H : Hp) : Prop := H1 Da = none ∧ Same H1 H ∧ H Da = some (.lst (acc i))
theorem same_upd_fresh {H1 H : Hp} {Da : Addr} {o : HO} (hD : H1 Da = none) (e : Same H1 H) : Same H1 (upd H Da o) := fun b u hb => by
  rw [upd_ne (ne_of_none hb hD)]
  exact e b u hb
theorem pva_0 {H1 : Hp} {Da : Addr} {acc : Nat → List V} (hD : H1 Da = none) (h0 : acc 0 = []) : PvA H1 Da acc 0 (upd H1 Da (.lst [])) := ⟨hD, same_upd_fresh hD (Same.refl _), by rw [upd_same, h0]⟩
theorem pva_step {H1 H4 : Hp} {Da : Addr} {acc : Nat → List V} {i : Nat} (p : PvA H1 Da acc i H) (e : Same H H4) (ha : acc (i + 1) = acc i ++ [y]) (hz : (acc i).length < 100000) :
    ∃ acc', H4 Da = some (.lst acc') ∧ acc'.length < sizeLine ∧ PvA H1 Da acc (i + 1) (upd H4 Da (.lst (acc' ++ [y]))) :=
  ⟨acc i, e _ _ p.2.2, Nat.lt_of_lt_of_le hz (by decide), p.1, same_upd_fresh p.1 (p.2.1.trans e), by rw [upd_same, ha]⟩
theorem pva_skip {H1 H4 : Hp} {Da : Addr} {acc : Nat → List V} {i : Nat} (p : PvA H1 Da acc i H) (e : Same H H4) (ha : acc (i + 1) = acc i) : PvA H1 Da acc (i + 1) H4 := ⟨p.1, p.2.1.trans e, by rw [ha]; exact e _ _ p.2.2⟩
/-- the same for a dict -/
def PvD (H1 : Hp) (Da : Addr) (acc : Nat → List (Key × V)) (i : Nat) (H : Hp) : Prop := H1 Da = none ∧ Same H1 H ∧ H Da = some (.dK (acc i))
theorem pvd_0 {H1 : Hp} {Da : Addr} {acc : Nat → List (Key × V)} (hD : H1 Da = none) (h0 : acc 0 = []) : PvD H1 Da acc 0 (upd H1 Da (.dK [])) := ⟨hD, same_upd_fresh hD (Same.refl _), by rw [upd_same, h0]⟩
theorem pvd_step {H1 H4 : Hp} {Da : Addr} {acc : Nat → List (Key × V)} {i : Nat} {k : Key} (p : PvD H1 Da acc i H) (e : Same H H4) (ek : y = kV k) (ha : acc (i + 1) = putK (acc i) k z) (hz : (acc i).length < 100000) :
    ∃ kvs k, y = kV k ∧ H4 Da = some (.dK kvs) ∧ kvs.length < sizeLine ∧ PvD H1 Da acc (i + 1) (upd H4 Da (.dK (putK kvs k z))) :=
  ⟨acc i, k, ek, e _ _ p.2.2, Nat.lt_of_lt_of_le hz (by decide), p.1, same_upd_fresh p.1 (p.2.1.trans e), by rw [upd_same, ha]⟩
theorem pvd_skip {H1 H4 : Hp} {Da : Addr} {acc : Nat → List (Key × V)} {i : Nat} (p : PvD H1 Da acc i H) (e : Same H H4) (ha : acc (i + 1) = acc i) : PvD H1 Da acc (i + 1) H4 := ⟨p.1, p.2.1.trans e, by rw [ha]; exact e _ _ p.2.2⟩
/-- a dict comprehension over a walk -/
theorem dc_it {J : It} {n : Nat} {G : Hp → Prop} {Y : Nat → Hp → V → Hp → Prop} {vs : List Nat} {H1 : Hp} {Da : Addr} {Qd : Hp → Prop} (w : Walk J n G Y) (Pv : Nat → Hp → Prop) (h0 : Pv 0 (upd H1 Da (.dK []))) (hG : ∀ i H, i ≤ n → Pv i H → G H)
    (hs : ∀ i x H H', i < n → Pv i H → Y i H x H' → g x (wipe σ vs) H' fun σ2 H2 => wipe σ2 vs = wipe σ vs ∧ t σ2 H2 fun b H3 =>
      if b = true then ta σ2 H3 fun y H4 => tb σ2 H4 fun z H5 => ∃ kvs k, y = kV k ∧ H5 Da = some (.dK kvs) ∧ kvs.length < sizeLine ∧ Pv (i + 1) (upd H5 Da (.dK (putK kvs k z))) else Pv (i + 1) H3) (hd : ∀ H, Pv n H → Qd H) :
    ∃ W : Nat → Nat → Hp → Prop, (∃ m, W 0 m (upd H1 Da (.dK []))) ∧ ∀ i m H, W i m H →
      (J.stop i H ∧ Qd H) ∨ (J.go i H ∧ ∃ Nx : Hp → Prop, (∀ H', Nx H' → ∃ m', m' < m ∧ W (i + 1) m' H') ∧ ∀ x H', J.yld i H x H' → g x (wipe σ vs) H' fun σ2 H2 => wipe σ2 vs = wipe σ vs ∧ t σ2 H2 fun b H3 =>
        if b = true then ta σ2 H3 fun y H4 => tb σ2 H4 fun z H5 => ∃ kvs k, y = kV k ∧ H5 Da = some (.dK kvs) ∧ kvs.length < sizeLine ∧ Nx (upd H5 Da (.dK (putK kvs k z))) else Nx H3) := by
  refine ⟨fun i m H => m = n - i ∧ i ≤ n ∧ Pv i H, ⟨n, by simp, Nat.zero_le _, h0⟩, ?_⟩
  rintro i m H ⟨rfl, hi, p⟩
  have q := hG i H hi p
  by_cases hlt : i < n
  · refine .inr ⟨w.goes i H hlt q, Pv (i + 1), fun H' p' => ⟨n - (i + 1), by omega, rfl, hlt, p'⟩, fun x H' y => hs i x H H' hlt p (w.yields i H x H' hlt q y)⟩
  · have e : i = n := by omega
    subst e
    exact .inl ⟨w.stops H q, hd H p⟩
/-! locks -/
theorem same_unlock {d : Addr} {u : HO} {od : Obj} {H' : Hp} (hd : H d = some u) (hm : Mut (some u)) (e : Same (upd H d (.frz od u)) H') : H' d = some (.frz od u) ∧ Same H (upd H' d u) := by
  refine ⟨e d _ upd_same, fun b o hb => ?_⟩
  by_cases h : b = d
  · subst h
    rw [upd_same, ← hb, hd]
  · rw [upd_ne h]
    exact e b o (by rw [upd_ne h]; exact hb)
theorem w_lockE {d : Addr} {u : HO} (hd : H d = some u) (hm : Mut (some u)) (h : ∀ od, te σ (upd H d (.frz od u)) fun v H' => H' d = some (.frz od u) ∧ Q v (upd H' d u)) : tLockE te σ H Q := ⟨d, u, hd, hm, h⟩
theorem r_sortedD {a : Addr} {kvs : List (Key × V)} {ks : List Str} {PP : List Str → Addr → Prop} (hx : H a = some (.dK kvs)) (hk : kvs.map (·.1) = ks.map Sum.inr) (hl : ks.length < 64) (h : ∀ ys p, ys.Perm ks → sortedS ys = true → H p = none → Q (.ref p) (upd H p (.lst (ys.map V.str)))) :
    ∃ (a' : Addr) (kvs' : List (Key × V)) (ks' : List Str), [V.ref a] = [.ref a'] ∧ Rd H a' (.dK kvs') ∧ kvs'.map (·.1) = ks'.map Sum.inr ∧ ks'.length < 64 ∧ ∀ ys p, ys.Perm ks' → sortedS ys = true → H p = none → Q (.ref p) (upd H p (.lst (ys.map V.str))) := ⟨a, kvs, ks, rfl, .inl hx, hk, hl, h⟩
theorem r_dgetS {a : Addr} {kvs : List (Key × V)} {k : Str} {PP : V → Prop} (hx : Rd H a (.dK kvs)) (hv : valV kvs (.inr k) = some v) (h : PP v) : ∃ a' v', V.ref a = .ref a' ∧ DGet H a' (.str k) (some v') ∧ PP v' := ⟨a, v, rfl, hv ▸ .inl ⟨kvs, .inr k, hx, rfl, rfl⟩, h⟩
theorem r_dinS {a : Addr} {kvs : List (Key × V)} {k : Str} {PP : Option V → Prop} (hx : Rd H a (.dK kvs)) (h : PP (valV kvs (.inr k))) : ∃ a' o, V.ref a = .ref a' ∧ DGet H a' (.str k) o ∧ PP o := ⟨a, _, rfl, .inl ⟨kvs, .inr k, hx, rfl, rfl⟩, h⟩
theorem r_fld {a C dx : Addr} {fs : List (Str × V)} {f : Str} {PP : V → Prop} (ha : H a = some (.ins C dx fs)) (hc : Cls K C) (hn : NoAttr K C f) (hl : fs.lookup f = some v) (h : PP v) :
    ∃ a' C' dx' fs' v', V.ref a = .ref a' ∧ H a' = some (.ins C' dx' fs') ∧ Cls K C' ∧ NoAttr K C' f ∧ fs'.lookup f = some v' ∧ PP v' := ⟨a, C, dx, fs, v, rfl, ha, hc, hn, hl, h⟩
theorem r_listD {a : Addr} {kvs : List (Key × V)} {PP : Addr → List V → Prop} (hx : Rd H a (.dK kvs)) (h : ∀ p, H p = none → PP p (kvs.map fun kv => kV kv.1)) :
    ∃ (a' : Addr) (kvs' : List (Key × V)), [V.ref a] = [.ref a'] ∧ Rd H a' (.dK kvs') ∧ ∀ p, H p = none → PP p (kvs'.map fun kv => kV kv.1) := ⟨a, kvs, rfl, hx, h⟩
theorem r_cat {l b : Addr} {xs zs : List V} (h1 : H l = some (.lst xs)) (h2 : H b = some (.lst zs)) (hz : xs.length + zs.length ≤ 100000) (h : ∀ p, H p = none → Q (.ref p) (upd H p (.lst (xs ++ zs)))) : rCat (.ref l) (.ref b) H Q :=
  ⟨l, b, xs, zs, rfl, rfl, h1, h2, Nat.le_trans hz (by decide), h⟩
theorem w_makeK {C : Addr} {n m : Nat} {sp : Sp} {gV : List V → List V → List V} {E : XK} {tk : TA} (h : tr σ H fun vs H1 => tk σ H1 fun zs H2 => vs.length = n ∧ zs.length = m ∧ ∀ x dx, H2 x = none → H2 dx = none → dx ≠ x →
    sp (gV (.ref x :: vs) zs) (upd (upd H2 dx (.own x)) x (.ins C dx [])) (fun v H3 => v = .non ∧ Q (.ref x) H3) E) : tMakeK C n m sp gV E tr tk σ H Q := h
theorem w_dmerge {tv : TE} (h : ∀ d, H d = none → te σ (upd H d (.dK [])) fun x H1 => ∃ a kvs, x = .ref a ∧ Rd H1 a (.dK kvs) ∧ a ≠ d ∧ kvs.length < sizeLine ∧ (kvs.map (·.1)).Nodup ∧ H1 d = some (.dK []) ∧
    ∀ p, upd H1 d (.dK kvs) p = none → ta σ (upd (upd H1 d (.dK kvs)) p (.dK [])) fun y H2 => tv σ H2 fun z H3 => ∃ k, y = kV k ∧ H3 p = some (.dK []) ∧ H3 d = some (.dK kvs) ∧ d ≠ p ∧
      Q (.ref d) (upd (upd H3 p (.dK [(k, z)])) d (.dK (putK kvs k z)))) : tDmerge te ta tv σ H Q := h
theorem w_nn {PP : Prop} (h : PP) : V.non = V.non ∧ PP := ⟨rfl, h⟩
theorem r_sfld {a C dx : Addr} {fs : List (Str × V)} {f : Str} {PP : Hp → Prop} (ha : H a = some (.ins C dx fs)) (hc : Cls K C) (hn : NoAttr K C f) (hz : fs.length < 1000) (h : PP (upd H a (.ins C dx (putF f y fs)))) :
    ∃ a' C' dx' fs', V.ref a = .ref a' ∧ H a' = some (.ins C' dx' fs') ∧ Cls K C' ∧ NoAttr K C' f ∧ fs'.length < 1000 ∧ PP (upd H a' (.ins C' dx' (putF f y fs'))) := ⟨a, C, dx, fs, rfl, ha, hc, hn, hz, h⟩
theorem w_ikeys {R : It → Hp → Prop} {d : Addr} {o : Obj} {kvs : List (Key × V)} (hd : H d = some (.frz o (.dK kvs))) (h : R (Itk d o kvs) H) : ∃ d' o', V.ref d = .ref d' ∧ ((∃ kvs', H d' = some (.frz o' (.dK kvs')) ∧ R (Itk d' o' kvs') H) ∨ ∃ kvs', H d' = some (.frz o' (.dT kvs')) ∧ R (Itkt d' o' kvs') H) := ⟨d, o, rfl, .inl ⟨kvs, hd, h⟩⟩
theorem w_ikeysT {R : It → Hp → Prop} (h : te σ H fun x H1 => ∃ d o, x = .ref d ∧ ((∃ kvs, H1 d = some (.frz o (.dK kvs)) ∧ R (Itk d o kvs) H1) ∨ ∃ kvs, H1 d = some (.frz o (.dT kvs)) ∧ R (Itkt d o kvs) H1)) : iKeys te σ H R := h
theorem w_callR {sp : Sp} {E : XK} (h : tr σ H fun vs H1 => sp vs H1 Q E) : tCallR sp E tr σ H Q := h
theorem w_makeR {C : Addr} {sp : Sp} {E : XK} (h : tr σ H fun vs H1 => ∀ x dx, H1 x = Option.none → H1 dx = Option.none → dx ≠ x → sp (V.ref x :: vs) (upd (upd H1 dx (.own x)) x (.ins C dx [])) (fun v H2 => v = .non ∧ Q (.ref x) H2) E) : StX.tMakeR C sp E tr σ H Q := h
theorem w_methSN {C : Addr} {m : Str} {g : Addr} {sp : Sp} {E : XK} (h : ta σ H fun x H1 => ∃ a dx fs, x = .ref a ∧ H1 a = some (.ins C dx fs) ∧ fs.lookup m = none ∧
    ∀ q, H1 q = none → tr σ (upd H1 q (.met g a)) fun vs H2 => H2 q = some (.met g a) ∧ sp (.ref a :: vs) H2 Q E) : tMethSN C m g sp E ta tr σ H Q := h
end
end PW

/-! ##### PC -/
set_option Elab.async false
set_option linter.all false
set_option maxRecDepth 100000
set_option maxHeartbeats 2000000
/-! the facts that the walks lean on -/
namespace PW
open PySem PySem.Spec PyProof.Rows L2 He
/-- the facts -/
structure Cn (P : Program) (K : PySem.W.Frag) (mg : Str → Option Value) : Prop where
  loc : ∃ h, K.In h ∧ h.Ns mainGlobals mg
  fa : ∀ f ∈ cFas, f.ok K = true
  kp : ∀ x ∈ cGlobs, x ≠ "DIRECTIONS" → PySem.W.keepIn K (.ref (ga K x)) = true
  defs : ∀ d ∈ cDfs, ∃ fd, FunD K d.name d.qual d.params d.body d.scope (d.dvs K) (d.kws K) (fAd K d.at_) fd
  dirs : ∀ H : Hp, SqT K H (ga K "DIRECTIONS") [.str "up", .str "down"]
  ic : ∀ x ∈ cClss, C8.InsC K (ga K x)
  kn : PySem.W.kitOne K (.type "NoneType") (.ref (ga K "Workshop")) = some false
  ki : PySem.W.kitOne K (.type "int") (.ref (ga K "Workshop")) = some false
  ks : PySem.W.kitOne K (.type "str") (.ref (ga K "Workshop")) = some false
  bm : ∀ q ∈ cMths, BMeth K (ga K q.1) q.2 (ma K (ga K q.1) q.2)
  p_names : PropOf K (ga K "Workshop") "names" (ma K (ga K "Workshop") "names") (pAd K ("Workshop", "names"))
  f_names : ∃ fd, FunD K "names" "Workshop.names" (defArgs (inClass (top 43) 1)) (defBody (inClass (top 43) 1)) (defScope (inClass (top 43) 1)) [] [] (pAd K ("Workshop", "names")) fd
  p_entries : PropOf K (ga K "Workshop") "entries" (ma K (ga K "Workshop") "entries") (pAd K ("Workshop", "entries"))
  f_entries : ∃ fd, FunD K "entries" "Workshop.entries" (defArgs (inClass (top 43) 2)) (defBody (inClass (top 43) 2)) (defScope (inClass (top 43) 2)) [] [] (pAd K ("Workshop", "entries")) fd
  x_InvalidNumber : PWX.XTxt P K mg "InvalidNumber" (ga K "InvalidNumber") (ma K (ga K "InvalidNumber") "__init__") "value" "ValueError" "ValueError" "ValueError.__new__" "ValueError.__init__" PWX.bmVal
  x_InvalidRope : PWX.XTxt P K mg "InvalidRope" (ga K "InvalidRope") (ma K (ga K "InvalidRope") "__init__") "name" "ValueError" "ValueError" "ValueError.__new__" "ValueError.__init__" PWX.bmVal
  x_InvalidName : PWX.XTxt P K mg "InvalidName" (ga K "InvalidName") (ma K (ga K "InvalidName") "__init__") "value" "ValueError" "ValueError" "ValueError.__new__" "ValueError.__init__" PWX.bmVal
  x_LimitExceeded : PWX.XTxt P K mg "LimitExceeded" (ga K "LimitExceeded") (ma K (ga K "LimitExceeded") "__init__") "count" "OverflowError" "OverflowError" "OverflowError.__new__" "OverflowError.__init__" PWX.bmOvf
  x_UnknownName : PWX.XTxt P K mg "UnknownName" (ga K "UnknownName") (ma K (ga K "UnknownName") "__init__") "name" "KeyError" "LookupError" "LookupError.__new__" "KeyError.__init__" PWX.bmKey
section
variable {P : Program} {w : World} {K : PySem.W.Frag} {mg : Str → Option Value}
theorem Cn.g (C : Cn P K mg) (x : Str) (h : x ∈ cGlobs := by decide +kernel) : mg x = some (.ref (ga K x)) := by
  obtain ⟨hp, X, G⟩ := C.loc
  refine glo_ok X G (C.fa _ ?_)
  unfold cFas
  exact List.mem_append_left _ (List.mem_map.mpr ⟨x, h, rfl⟩)
theorem Cn.free (C : Cn P K mg) (x : Str) (h : x ∈ cFrees := by decide +kernel) : mg x = none := by
  obtain ⟨hp, X, G⟩ := C.loc
  refine free_ok X G (C.fa _ ?_)
  unfold cFas
  exact List.mem_append_right _ (List.mem_append_left _ (List.mem_map.mpr ⟨x, h, rfl⟩))
theorem Cn.int (C : Cn P K mg) (x : Str) (i : Int) (h : (x, i) ∈ cInts := by decide +kernel) : ∃ t, mg x = some (.int i t) := by
  obtain ⟨hp, X, G⟩ := C.loc
  refine int_ok X G (C.fa _ ?_)
  unfold cFas
  exact List.mem_append_right _ (List.mem_append_right _ (List.mem_append_left _ (List.mem_map.mpr ⟨(x, i), h, rfl⟩)))
theorem Cn.str (C : Cn P K mg) (x z : Str) (h : (x, z) ∈ cStrs := by decide +kernel) : ∃ t, mg x = some (.str z t) := by
  obtain ⟨hp, X, G⟩ := C.loc
  refine str_ok X G (C.fa _ ?_)
  unfold cFas
  exact List.mem_append_right _ (List.mem_append_right _ (List.mem_append_right _ (List.mem_append_left _ (List.mem_map.mpr ⟨(x, z), h, rfl⟩))))
theorem Cn.cls (C : Cn P K mg) (x : Str) (h : x ∈ cClss := by decide +kernel) : Cls K (ga K x) := by
  refine cls_ok (C.fa _ ?_)
  unfold cFas
  exact List.mem_append_right _ (List.mem_append_right _ (List.mem_append_right _ (List.mem_append_right _ (List.mem_append_left _ (List.mem_map.mpr ⟨x, h, rfl⟩)))))
theorem Cn.noat (C : Cn P K mg) (x f : Str) (h : (x, f) ∈ cNoats := by decide +kernel) : NoAttr K (ga K x) f := by
  refine noat_ok (C.fa _ ?_)
  unfold cFas
  exact List.mem_append_right _ (List.mem_append_right _ (List.mem_append_right _ (List.mem_append_right _ (List.mem_append_right _ (List.mem_append_left _ (List.mem_map.mpr ⟨(x, f), h, rfl⟩))))))
theorem Cn.meth (C : Cn P K mg) (x m : Str) (h : (x, m) ∈ cMths := by decide +kernel) : Meth K (ga K x) m (ma K (ga K x) m) := by
  refine meth_ok (C.fa _ ?_)
  unfold cFas
  exact List.mem_append_right _ (List.mem_append_right _ (List.mem_append_right _ (List.mem_append_right _ (List.mem_append_right _ (List.mem_append_right _ (List.mem_append_left _ (List.mem_map.mpr ⟨(x, m), h, rfl⟩)))))))
theorem Cn.bmeth (C : Cn P K mg) (x m : Str) (h : (x, m) ∈ cMths := by decide +kernel) : BMeth K (ga K x) m (ma K (ga K x) m) := C.bm (x, m) h
theorem Cn.mkr (C : Cn P K mg) (x : Str) (h : x ∈ cMkrs := by decide +kernel) : Mk K (ga K x) (ma K (ga K x) "__init__") := by
  refine mkr_ok (C.fa _ ?_)
  unfold cFas
  exact List.mem_append_right _ (List.mem_append_right _ (List.mem_append_right _ (List.mem_append_right _ (List.mem_append_right _ (List.mem_append_right _ (List.mem_append_right _ (List.mem_map.mpr ⟨x, h, rfl⟩)))))))
theorem Cn.keep (C : Cn P K mg) (x : Str) (h : x ∈ cGlobs := by decide +kernel) (h2 : x ≠ "DIRECTIONS" := by decide +kernel) : PySem.W.keepIn K (.ref (ga K x)) = true := C.kp x h h2
theorem Cn.isC (C : Cn P K mg) (x : Str) (h : x ∈ cClss := by decide +kernel) : C8.InsC K (ga K x) := C.ic x h
theorem Cn.def_ (C : Cn P K mg) (i : Nat) {d : He.DefD} (h : cDfs[i]? = some d := by rfl) : ∃ fd, FunD K d.name d.qual d.params d.body d.scope (d.dvs K) (d.kws K) (fAd K d.at_) fd := C.defs d (List.mem_of_getElem? h)
theorem pe_globI {X : Cx} {x : Str} {i : Int} {pos : Pos} (C : Cn P K mg) (hm : X.mg = mg) (hg : Gl X x) (h : (x, i) ∈ cInts := by decide +kernel) (hd : (x == ("__debug__" : Str)) = false := by decide) : PE X (.Name x pos) (tC (.int i)) := by
  obtain ⟨t, e⟩ := C.int x i h
  exact pe_glob hg (hm ▸ e) ⟨t, rfl⟩ hd
theorem pe_globS {X : Cx} {x z : Str} {pos : Pos} (C : Cn P K mg) (hm : X.mg = mg) (hg : Gl X x) (h : (x, z) ∈ cStrs := by decide +kernel) (hd : (x == ("__debug__" : Str)) = false := by decide) : PE X (.Name x pos) (tC (.str z)) := by
  obtain ⟨t, e⟩ := C.str x z h
  exact pe_glob hg (hm ▸ e) ⟨t, rfl⟩ hd
theorem pe_globR {X : Cx} {x : Str} {pos : Pos} (C : Cn P K mg) (hm : X.mg = mg) (hg : Gl X x) (h : x ∈ cGlobs := by decide +kernel) (hd : (x == ("__debug__" : Str)) = false := by decide) : PE X (.Name x pos) (tC (.ref (ga K x))) := pe_glob hg (hm ▸ C.g x h) rfl hd
theorem Cn.d_is_integer (C : Cn P K mg) : ∃ fd, FunD K "is_integer" "is_integer" (defArgs (top 12)) (defBody (top 12)) (defScope (top 12)) [] [] (ga K "is_integer") fd := C.def_ 0
theorem Cn.d_common_divisor (C : Cn P K mg) : ∃ fd, FunD K "common_divisor" "common_divisor" (defArgs (top 13)) (defBody (top 13)) (defScope (top 13)) [] [] (ga K "common_divisor") fd := C.def_ 1
theorem Cn.d_is_fraction (C : Cn P K mg) : ∃ fd, FunD K "is_fraction" "is_fraction" (defArgs (top 15)) (defBody (top 15)) (defScope (top 15)) [] [] (ga K "is_fraction") fd := C.def_ 2
theorem Cn.d_is_load (C : Cn P K mg) : ∃ fd, FunD K "is_load" "is_load" (defArgs (top 16)) (defBody (top 16)) (defScope (top 16)) [] [] (ga K "is_load") fd := C.def_ 3
theorem Cn.d_is_word (C : Cn P K mg) : ∃ fd, FunD K "is_word" "is_word" (defArgs (top 27)) (defBody (top 27)) (defScope (top 27)) [] [] (ga K "is_word") fd := C.def_ 4
theorem Cn.d_is_name (C : Cn P K mg) : ∃ fd, FunD K "is_name" "is_name" (defArgs (top 28)) (defBody (top 28)) (defScope (top 28)) [] [] (ga K "is_name") fd := C.def_ 5
theorem Cn.d_are_hooks (C : Cn P K mg) : ∃ fd, FunD K "are_hooks" "are_hooks" (defArgs (top 29)) (defBody (top 29)) (defScope (top 29)) [] [] (ga K "are_hooks") fd := C.def_ 6
theorem Cn.d_are_anchors (C : Cn P K mg) : ∃ fd, FunD K "are_anchors" "are_anchors" (defArgs (top 30)) (defBody (top 30)) (defScope (top 30)) [] [] (ga K "are_anchors") fd := C.def_ 7
theorem Cn.d_is_path (C : Cn P K mg) : ∃ fd, FunD K "is_path" "is_path" (defArgs (top 31)) (defBody (top 31)) (defScope (top 31)) [] [] (ga K "is_path") fd := C.def_ 8
theorem Cn.d_is_rope (C : Cn P K mg) : ∃ fd, FunD K "is_rope" "is_rope" (defArgs (top 32)) (defBody (top 32)) (defScope (top 32)) [] [] (ga K "is_rope") fd := C.def_ 9
theorem Cn.d_ordered (C : Cn P K mg) : ∃ fd, FunD K "ordered" "ordered" (defArgs (top 33)) (defBody (top 33)) (defScope (top 33)) [] [] (ga K "ordered") fd := C.def_ 10
theorem Cn.d_check_known (C : Cn P K mg) : ∃ fd, FunD K "check_known" "check_known" (defArgs (top 34)) (defBody (top 34)) (defScope (top 34)) [] [] (ga K "check_known") fd := C.def_ 11
theorem Cn.d_check_size (C : Cn P K mg) : ∃ fd, FunD K "check_size" "check_size" (defArgs (top 35)) (defBody (top 35)) (defScope (top 35)) [] [] (ga K "check_size") fd := C.def_ 12
theorem Cn.d_check_work (C : Cn P K mg) : ∃ fd, FunD K "check_work" "check_work" (defArgs (top 38)) (defBody (top 38)) (defScope (top 38)) [] [] (ga K "check_work") fd := C.def_ 13
theorem Cn.d_applied (C : Cn P K mg) : ∃ fd, FunD K "applied" "applied" (defArgs (top 41)) (defBody (top 41)) (defScope (top 41)) [] [] (ga K "applied") fd := C.def_ 14
theorem Cn.d_make_entry (C : Cn P K mg) : ∃ fd, FunD K "make_entry" "make_entry" (defArgs (top 44)) (defBody (top 44)) (defScope (top 44)) [] [] (ga K "make_entry") fd := C.def_ 15
theorem Cn.d_rehearse (C : Cn P K mg) : ∃ fd, FunD K "rehearse" "rehearse" (defArgs (top 45)) (defBody (top 45)) (defScope (top 45)) [] [] (ga K "rehearse") fd := C.def_ 16
theorem Cn.d__law_pool (C : Cn P K mg) : ∃ fd, FunD K "_law_pool" "_law_pool" (defArgs (top 47)) (defBody (top 47)) (defScope (top 47)) [] [] (ga K "_law_pool") fd := C.def_ 17
theorem Cn.d__law_draw (C : Cn P K mg) : ∃ fd, FunD K "_law_draw" "_law_draw" (defArgs (top 48)) (defBody (top 48)) (defScope (top 48)) [] [] (ga K "_law_draw") fd := C.def_ 18
theorem Cn.d__law_gcd (C : Cn P K mg) : ∃ fd, FunD K "_law_gcd" "_law_gcd" (defArgs (top 49)) (defBody (top 49)) (defScope (top 49)) [] [] (ga K "_law_gcd") fd := C.def_ 19
theorem Cn.d__law_made (C : Cn P K mg) : ∃ fd, FunD K "_law_made" "_law_made" (defArgs (top 50)) (defBody (top 50)) (defScope (top 50)) [] [] (ga K "_law_made") fd := C.def_ 20
theorem Cn.d__law_add (C : Cn P K mg) : ∃ fd, FunD K "_law_add" "_law_add" (defArgs (top 51)) (defBody (top 51)) (defScope (top 51)) [] [] (ga K "_law_add") fd := C.def_ 21
theorem Cn.d__law_mul (C : Cn P K mg) : ∃ fd, FunD K "_law_mul" "_law_mul" (defArgs (top 52)) (defBody (top 52)) (defScope (top 52)) [] [] (ga K "_law_mul") fd := C.def_ 22
theorem Cn.d__law_sum (C : Cn P K mg) : ∃ fd, FunD K "_law_sum" "_law_sum" (defArgs (top 53)) (defBody (top 53)) (defScope (top 53)) [] [] (ga K "_law_sum") fd := C.def_ 23
theorem Cn.d__law_number (C : Cn P K mg) : ∃ fd, FunD K "_law_number" "_law_number" (defArgs (top 54)) (defBody (top 54)) (defScope (top 54)) [] [] (ga K "_law_number") fd := C.def_ 24
theorem Cn.d__law_signed (C : Cn P K mg) : ∃ fd, FunD K "_law_signed" "_law_signed" (defArgs (top 55)) (defBody (top 55)) (defScope (top 55)) [] [] (ga K "_law_signed") fd := C.def_ 25
theorem Cn.d__law_path (C : Cn P K mg) : ∃ fd, FunD K "_law_path" "_law_path" (defArgs (top 56)) (defBody (top 56)) (defScope (top 56)) [] [] (ga K "_law_path") fd := C.def_ 26
theorem Cn.d__law_coefficient (C : Cn P K mg) : ∃ fd, FunD K "_law_coefficient" "_law_coefficient" (defArgs (top 57)) (defBody (top 57)) (defScope (top 57)) [] [] (ga K "_law_coefficient") fd := C.def_ 27
theorem Cn.d__law_carried (C : Cn P K mg) : ∃ fd, FunD K "_law_carried" "_law_carried" (defArgs (top 58)) (defBody (top 58)) (defScope (top 58)) [] [] (ga K "_law_carried") fd := C.def_ 28
theorem Cn.d__law_given (C : Cn P K mg) : ∃ fd, FunD K "_law_given" "_law_given" (defArgs (top 59)) (defBody (top 59)) (defScope (top 59)) [] [] (ga K "_law_given") fd := C.def_ 29
theorem Cn.d__law_built (C : Cn P K mg) : ∃ fd, FunD K "_law_built" "_law_built" (defArgs (top 60)) (defBody (top 60)) (defScope (top 60)) [] [] (ga K "_law_built") fd := C.def_ 30
theorem Cn.d__law_add_rope (C : Cn P K mg) : ∃ fd, FunD K "_law_add_rope" "_law_add_rope" (defArgs (top 61)) (defBody (top 61)) (defScope (top 61)) [] [] (ga K "_law_add_rope") fd := C.def_ 31
theorem Cn.d__law_entry (C : Cn P K mg) : ∃ fd, FunD K "_law_entry" "_law_entry" (defArgs (top 62)) (defBody (top 62)) (defScope (top 62)) [] [] (ga K "_law_entry") fd := C.def_ 32
theorem Cn.d__law_path_holds (C : Cn P K mg) : ∃ fd, FunD K "_law_path_holds" "_law_path_holds" (defArgs (top 63)) (defBody (top 63)) (defScope (top 63)) [] [] (ga K "_law_path_holds") fd := C.def_ 33
theorem Cn.d__law_due (C : Cn P K mg) : ∃ fd, FunD K "_law_due" "_law_due" (defArgs (top 64)) (defBody (top 64)) (defScope (top 64)) [] [] (ga K "_law_due") fd := C.def_ 34
theorem Cn.d__law_made_entry (C : Cn P K mg) : ∃ fd, FunD K "_law_made_entry" "_law_made_entry" (defArgs (top 65)) (defBody (top 65)) (defScope (top 65)) [] [] (ga K "_law_made_entry") fd := C.def_ 35
theorem Cn.d__law_undone (C : Cn P K mg) : ∃ fd, FunD K "_law_undone" "_law_undone" (defArgs (top 66)) (defBody (top 66)) (defScope (top 66)) [] [] (ga K "_law_undone") fd := C.def_ 36
theorem Cn.d__law_after (C : Cn P K mg) : ∃ fd, FunD K "_law_after" "_law_after" (defArgs (top 67)) (defBody (top 67)) (defScope (top 67)) [] [] (ga K "_law_after") fd := C.def_ 37
theorem Cn.d__law_called (C : Cn P K mg) : ∃ fd, FunD K "_law_called" "_law_called" (defArgs (top 68)) (defBody (top 68)) (defScope (top 68)) [] [] (ga K "_law_called") fd := C.def_ 38
theorem Cn.d__law_rehearsed (C : Cn P K mg) : ∃ fd, FunD K "_law_rehearsed" "_law_rehearsed" (defArgs (top 69)) (defBody (top 69)) (defScope (top 69)) [] [] (ga K "_law_rehearsed") fd := C.def_ 39
theorem Cn.d__law_short (C : Cn P K mg) : ∃ fd, FunD K "_law_short" "_law_short" (defArgs (top 70)) (defBody (top 70)) (defScope (top 70)) [] [] (ga K "_law_short") fd := C.def_ 40
theorem Cn.d__law_applied (C : Cn P K mg) : ∃ fd, FunD K "_law_applied" "_law_applied" (defArgs (top 71)) (defBody (top 71)) (defScope (top 71)) [] [] (ga K "_law_applied") fd := C.def_ 41
theorem Cn.d__law_spoil (C : Cn P K mg) : ∃ fd, FunD K "_law_spoil" "_law_spoil" (defArgs (top 72)) (defBody (top 72)) (defScope (top 72)) [] [] (ga K "_law_spoil") fd := C.def_ 42
theorem Cn.d__law_refused (C : Cn P K mg) : ∃ fd, FunD K "_law_refused" "_law_refused" (defArgs (top 73)) (defBody (top 73)) (defScope (top 73)) [] [] (ga K "_law_refused") fd := C.def_ 43
theorem Cn.d_law (C : Cn P K mg) : ∃ fd, FunD K "law" "law" (defArgs (top 74)) (defBody (top 74)) (defScope (top 74)) [] [] (ga K "law") fd := C.def_ 44
theorem Cn.d_Work___init__ (C : Cn P K mg) : ∃ fd, FunD K "__init__" "Work.__init__" (defArgs (inClass (top 37) 0)) (defBody (inClass (top 37) 0)) (defScope (inClass (top 37) 0)) [] [("anchors", V.non)] (ma K (ga K "Work") "__init__") fd := C.def_ 45
theorem Cn.d_Work_points (C : Cn P K mg) : ∃ fd, FunD K "points" "Work.points" (defArgs (inClass (top 37) 4)) (defBody (inClass (top 37) 4)) (defScope (inClass (top 37) 4)) [] [] (ma K (ga K "Work") "points") fd := C.def_ 46
theorem Cn.d_Work_with_load (C : Cn P K mg) : ∃ fd, FunD K "with_load" "Work.with_load" (defArgs (inClass (top 37) 11)) (defBody (inClass (top 37) 11)) (defScope (inClass (top 37) 11)) [] [] (ma K (ga K "Work") "with_load") fd := C.def_ 47
theorem Cn.d_Work_with_rope (C : Cn P K mg) : ∃ fd, FunD K "with_rope" "Work.with_rope" (defArgs (inClass (top 37) 12)) (defBody (inClass (top 37) 12)) (defScope (inClass (top 37) 12)) [] [] (ma K (ga K "Work") "with_rope") fd := C.def_ 48
theorem Cn.d_Work_without_rope (C : Cn P K mg) : ∃ fd, FunD K "without_rope" "Work.without_rope" (defArgs (inClass (top 37) 13)) (defBody (inClass (top 37) 13)) (defScope (inClass (top 37) 13)) [] [] (ma K (ga K "Work") "without_rope") fd := C.def_ 49
theorem Cn.d_Work___eq__ (C : Cn P K mg) : ∃ fd, FunD K "__eq__" "Work.__eq__" (defArgs (inClass (top 37) 18)) (defBody (inClass (top 37) 18)) (defScope (inClass (top 37) 18)) [] [] (ma K (ga K "Work") "__eq__") fd := C.def_ 50
theorem Cn.d_Trial___init__ (C : Cn P K mg) : ∃ fd, FunD K "__init__" "Trial.__init__" (defArgs (inClass (top 42) 0)) (defBody (inClass (top 42) 0)) (defScope (inClass (top 42) 0)) [] [] (ma K (ga K "Trial") "__init__") fd := C.def_ 51
theorem Cn.d_Trial___enter__ (C : Cn P K mg) : ∃ fd, FunD K "__enter__" "Trial.__enter__" (defArgs (inClass (top 42) 1)) (defBody (inClass (top 42) 1)) (defScope (inClass (top 42) 1)) [] [] (ma K (ga K "Trial") "__enter__") fd := C.def_ 52
theorem Cn.d_Trial___exit__ (C : Cn P K mg) : ∃ fd, FunD K "__exit__" "Trial.__exit__" (defArgs (inClass (top 42) 2)) (defBody (inClass (top 42) 2)) (defScope (inClass (top 42) 2)) [] [] (ma K (ga K "Trial") "__exit__") fd := C.def_ 53
theorem Cn.d_Workshop___init__ (C : Cn P K mg) : ∃ fd, FunD K "__init__" "Workshop.__init__" (defArgs (inClass (top 43) 0)) (defBody (inClass (top 43) 0)) (defScope (inClass (top 43) 0)) [] [] (ma K (ga K "Workshop") "__init__") fd := C.def_ 54
theorem Cn.d_Workshop_check (C : Cn P K mg) : ∃ fd, FunD K "check" "Workshop.check" (defArgs (inClass (top 43) 3)) (defBody (inClass (top 43) 3)) (defScope (inClass (top 43) 3)) [] [] (ma K (ga K "Workshop") "check") fd := C.def_ 55
theorem Cn.d_Workshop_record (C : Cn P K mg) : ∃ fd, FunD K "record" "Workshop.record" (defArgs (inClass (top 43) 4)) (defBody (inClass (top 43) 4)) (defScope (inClass (top 43) 4)) [] [] (ma K (ga K "Workshop") "record") fd := C.def_ 56
theorem Cn.d_Workshop_set_load (C : Cn P K mg) : ∃ fd, FunD K "set_load" "Workshop.set_load" (defArgs (inClass (top 43) 5)) (defBody (inClass (top 43) 5)) (defScope (inClass (top 43) 5)) [] [] (ma K (ga K "Workshop") "set_load") fd := C.def_ 57
theorem Cn.d_Workshop_set_rope (C : Cn P K mg) : ∃ fd, FunD K "set_rope" "Workshop.set_rope" (defArgs (inClass (top 43) 6)) (defBody (inClass (top 43) 6)) (defScope (inClass (top 43) 6)) [] [] (ma K (ga K "Workshop") "set_rope") fd := C.def_ 58
theorem Cn.d_Workshop_drop_rope (C : Cn P K mg) : ∃ fd, FunD K "drop_rope" "Workshop.drop_rope" (defArgs (inClass (top 43) 7)) (defBody (inClass (top 43) 7)) (defScope (inClass (top 43) 7)) [] [] (ma K (ga K "Workshop") "drop_rope") fd := C.def_ 59
theorem Cn.d_Workshop_undo (C : Cn P K mg) : ∃ fd, FunD K "undo" "Workshop.undo" (defArgs (inClass (top 43) 8)) (defBody (inClass (top 43) 8)) (defScope (inClass (top 43) 8)) [] [] (ma K (ga K "Workshop") "undo") fd := C.def_ 60
theorem Cn.d_Workshop_work (C : Cn P K mg) : ∃ fd, FunD K "work" "Workshop.work" (defArgs (inClass (top 43) 9)) (defBody (inClass (top 43) 9)) (defScope (inClass (top 43) 9)) [] [] (ma K (ga K "Workshop") "work") fd := C.def_ 61
theorem Cn.d_Workshop_trial (C : Cn P K mg) : ∃ fd, FunD K "trial" "Workshop.trial" (defArgs (inClass (top 43) 10)) (defBody (inClass (top 43) 10)) (defScope (inClass (top 43) 10)) [] [] (ma K (ga K "Workshop") "trial") fd := C.def_ 62
theorem Cn.d_Workshop_copy (C : Cn P K mg) : ∃ fd, FunD K "copy" "Workshop.copy" (defArgs (inClass (top 43) 11)) (defBody (inClass (top 43) 11)) (defScope (inClass (top 43) 11)) [] [] (ma K (ga K "Workshop") "copy") fd := C.def_ 63
theorem Cn.d_Workshop___eq__ (C : Cn P K mg) : ∃ fd, FunD K "__eq__" "Workshop.__eq__" (defArgs (inClass (top 43) 12)) (defBody (inClass (top 43) 12)) (defScope (inClass (top 43) 12)) [] [] (ma K (ga K "Workshop") "__eq__") fd := C.def_ 64
theorem Cn.d_Workshop___len__ (C : Cn P K mg) : ∃ fd, FunD K "__len__" "Workshop.__len__" (defArgs (inClass (top 43) 13)) (defBody (inClass (top 43) 13)) (defScope (inClass (top 43) 13)) [] [] (ma K (ga K "Workshop") "__len__") fd := C.def_ 65
end
end PW

/-! ##### PQ -/
set_option Elab.async false
set_option linter.all false
set_option maxRecDepth 100000
/-! more facts -/
namespace PW
open PySem PySem.Spec PyProof.Rows L2 He
structure Cn2 (P : Program) (K : PySem.W.Frag) (mg : Str → Option Value) : Prop extends Cn P K mg where
  trE : Meth K (ga K "Trial") "__enter__" (ma K (ga K "Trial") "__enter__")
  trX : Meth K (ga K "Trial") "__exit__" (ma K (ga K "Trial") "__exit__")
  x_NothingToUndo : XOwn K mg "NothingToUndo" (ga K "NothingToUndo")
  exm : ∀ x ∈ cExcs, ∀ y ∈ cExcs, PySem.W.exmOne K (.ref (ga K x)) (.ref (ga K y)) = some (decide (x = y))
end PW

/-! ##### PN -/
set_option Elab.async false
set_option linter.all false
set_option maxRecDepth 100000
set_option maxHeartbeats 2000000
namespace PW
open PySem PySem.Spec PyProof.Rows L2 He PWL

/-! ### fractions: numbers -/
def spIsInt : Sp := fun vs H Q _ => ∃ i : Int, vs = [.int i] ∧ Q (.bl true) H
def spCdiv : Sp := fun vs H Q _ => ∃ i j : Int, vs = [.int i, .int j] ∧ Q (.int (Int.gcd i j)) H
def frOk (n m : Int) : Bool := decide (1 ≤ m) && decide (Int.gcd n m = 1)
def spIsFr (K : PySem.W.Frag) : Sp := fun vs H Q _ => ∃ (a : Addr) (n m : Int), vs = [.ref a] ∧ SqT K H a [.int n, .int m] ∧ Q (.bl (frOk n m)) H
def spIsLoad (K : PySem.W.Frag) : Sp := fun vs H Q _ => ∃ (a : Addr) (n m : Int), vs = [.ref a] ∧ SqT K H a [.int n, .int m] ∧ Q (.bl (frOk n m && decide (0 ≤ n))) H
theorem u_isInt {i : Int} {H : Hp} {Q : VK} {E : XK} (h : Q (.bl true) H) : spIsInt [.int i] H Q E := ⟨i, rfl, h⟩
theorem u_cdiv {i j : Int} {H : Hp} {Q : VK} {E : XK} (h : Q (.int (Int.gcd i j)) H) : spCdiv [.int i, .int j] H Q E := ⟨i, j, rfl, h⟩
theorem u_isFr {K : PySem.W.Frag} {a : Addr} {n m : Int} {H : Hp} {Q : VK} {E : XK} (hS : SqT K H a [.int n, .int m]) (h : Q (.bl (frOk n m)) H) : spIsFr K [.ref a] H Q E := ⟨a, n, m, rfl, hS, h⟩
theorem u_isLoad {K : PySem.W.Frag} {a : Addr} {n m : Int} {H : Hp} {Q : VK} {E : XK} (hS : SqT K H a [.int n, .int m]) (h : Q (.bl (frOk n m && decide (0 ≤ n))) H) : spIsLoad K [.ref a] H Q E := ⟨a, n, m, rfl, hS, h⟩
local macro_rules | `(tactic| walk_at "w+u_isInt") => `(tactic| (repeat (first | with_reducible refine w_seq ?_ | with_reducible refine w_ret ?_ | with_reducible refine w_asg ?_ | with_reducible refine w_ifs ?_ | with_reducible refine w_drop ?_ | with_reducible refine w_next ?_ | with_reducible refine w_cont ?_ | with_reducible refine w_par ?_ | with_reducible refine w_par3 ?_ | with_reducible refine w_three ?_ | with_reducible refine w_two ?_ | with_reducible refine w_name ?_ | with_reducible refine w_c ?_ | with_reducible refine w_op ?_ | with_reducible refine w_un ?_ | with_reducible refine w_cb ?_ | with_reducible refine w_cons ?_ | with_reducible refine w_nil ?_ | with_reducible refine w_tup ?_ | with_reducible refine w_lst ?_ | with_reducible refine w_test ?_ | with_reducible refine w_B ?_ | with_reducible refine w_k ?_ | with_reducible refine w_ki ?_ | with_reducible refine w_and ?_ | with_reducible refine w_or ?_ | with_reducible refine w_not ?_ | with_reducible refine w_andV ?_ | with_reducible refine w_orV ?_ | with_reducible refine w_notV ?_ | with_reducible refine w_if ?_ | with_reducible refine w_yes ?_ | with_reducible refine w_isN ?_ | with_reducible refine w_chain ?_ | with_reducible refine w_sl ?_ | with_reducible refine w_noPart ?_ | with_reducible refine w_part ?_ | with_reducible refine w_fld ?_ | with_reducible refine w_dget ?_ | with_reducible refine w_din ?_ | with_reducible refine w_dnotin ?_ | with_reducible refine w_dput ?_ | with_reducible refine w_newK ?_ | with_reducible refine w_sfld ?_ | with_reducible refine w_methR ?_ | with_reducible refine w_propR ?_ | with_reducible refine w_sl2 ?_ | with_reducible refine w_star ?_ | with_reducible refine w_retN ?_ | with_reducible refine w_gcons ?_ | with_reducible refine w_gnil ?_ | with_reducible refine r_i0 ?_ | with_reducible refine r_u ?_ | with_reducible refine r_eqi ?_ | with_reducible refine r_nei ?_ | with_reducible refine r_eqs ?_ | with_reducible refine r_nes ?_ | with_reducible refine iteT ?_ | with_reducible refine iteF ?_ | with_reducible refine w_lc ?_ | with_reducible refine w_dc ?_ | with_reducible refine w_for ?_ | with_reducible refine w_istr ?_ | with_reducible refine w_ilist ?_ | with_reducible refine w_itup ?_ | with_reducible refine w_irng1 ?_ | with_reducible refine w_irng2 ?_ | with_reducible refine w_ienum ?_ | with_reducible refine w_iitems ?_ | with_reducible refine w_ikeysT ?_ | with_reducible refine w_makeK ?_ | with_reducible refine w_methSN ?_ | with_reducible refine w_makeR ?_ | with_reducible refine w_callR ?_ | with_reducible refine w_dmerge ?_ | with_reducible refine w_ks ?_ | with_reducible refine w_kr ?_ | with_reducible refine isi_int_int ?_ | with_reducible refine isi_int_bool ?_ | with_reducible refine isi_str_str ?_ | with_reducible refine w_1i ?_ | with_reducible refine w_nn ?_ | with_reducible refine w_int_i ?_ | with_reducible refine w_int_b ?_ | ((with_reducible apply w_var); rfl) | ((with_reducible apply r_ixT); assumption; rfl) | ((with_reducible apply r_ixL); assumption; rfl) | ((with_reducible apply isi_tup_tup); assumption) | ((with_reducible apply isi_dict_dict); assumption) | ((with_reducible apply r_lenD); assumption) | ((with_reducible apply r_lenT); assumption) | ((with_reducible apply r_lenL); assumption) | ((with_reducible refine r_all (SqL.of ?_) ?_); assumption) | ((with_reducible apply r_fld); assumption; exact Cn.cls (by assumption) _; exact Cn.noat (by assumption) _ _; first | rfl | assumption) | ((with_reducible apply ite_t); rfl) | ((with_reducible apply ite_f); rfl) | with_reducible refine u_isInt ?_)))
local macro_rules | `(tactic| walk_at "w+u_cdiv") => `(tactic| (repeat (first | with_reducible refine w_seq ?_ | with_reducible refine w_ret ?_ | with_reducible refine w_asg ?_ | with_reducible refine w_ifs ?_ | with_reducible refine w_drop ?_ | with_reducible refine w_next ?_ | with_reducible refine w_cont ?_ | with_reducible refine w_par ?_ | with_reducible refine w_par3 ?_ | with_reducible refine w_three ?_ | with_reducible refine w_two ?_ | with_reducible refine w_name ?_ | with_reducible refine w_c ?_ | with_reducible refine w_op ?_ | with_reducible refine w_un ?_ | with_reducible refine w_cb ?_ | with_reducible refine w_cons ?_ | with_reducible refine w_nil ?_ | with_reducible refine w_tup ?_ | with_reducible refine w_lst ?_ | with_reducible refine w_test ?_ | with_reducible refine w_B ?_ | with_reducible refine w_k ?_ | with_reducible refine w_ki ?_ | with_reducible refine w_and ?_ | with_reducible refine w_or ?_ | with_reducible refine w_not ?_ | with_reducible refine w_andV ?_ | with_reducible refine w_orV ?_ | with_reducible refine w_notV ?_ | with_reducible refine w_if ?_ | with_reducible refine w_yes ?_ | with_reducible refine w_isN ?_ | with_reducible refine w_chain ?_ | with_reducible refine w_sl ?_ | with_reducible refine w_noPart ?_ | with_reducible refine w_part ?_ | with_reducible refine w_fld ?_ | with_reducible refine w_dget ?_ | with_reducible refine w_din ?_ | with_reducible refine w_dnotin ?_ | with_reducible refine w_dput ?_ | with_reducible refine w_newK ?_ | with_reducible refine w_sfld ?_ | with_reducible refine w_methR ?_ | with_reducible refine w_propR ?_ | with_reducible refine w_sl2 ?_ | with_reducible refine w_star ?_ | with_reducible refine w_retN ?_ | with_reducible refine w_gcons ?_ | with_reducible refine w_gnil ?_ | with_reducible refine r_i0 ?_ | with_reducible refine r_u ?_ | with_reducible refine r_eqi ?_ | with_reducible refine r_nei ?_ | with_reducible refine r_eqs ?_ | with_reducible refine r_nes ?_ | with_reducible refine iteT ?_ | with_reducible refine iteF ?_ | with_reducible refine w_lc ?_ | with_reducible refine w_dc ?_ | with_reducible refine w_for ?_ | with_reducible refine w_istr ?_ | with_reducible refine w_ilist ?_ | with_reducible refine w_itup ?_ | with_reducible refine w_irng1 ?_ | with_reducible refine w_irng2 ?_ | with_reducible refine w_ienum ?_ | with_reducible refine w_iitems ?_ | with_reducible refine w_ikeysT ?_ | with_reducible refine w_makeK ?_ | with_reducible refine w_methSN ?_ | with_reducible refine w_makeR ?_ | with_reducible refine w_callR ?_ | with_reducible refine w_dmerge ?_ | with_reducible refine w_ks ?_ | with_reducible refine w_kr ?_ | with_reducible refine isi_int_int ?_ | with_reducible refine isi_int_bool ?_ | with_reducible refine isi_str_str ?_ | with_reducible refine w_1i ?_ | with_reducible refine w_nn ?_ | with_reducible refine w_int_i ?_ | with_reducible refine w_int_b ?_ | ((with_reducible apply w_var); rfl) | ((with_reducible apply r_ixT); assumption; rfl) | ((with_reducible apply r_ixL); assumption; rfl) | ((with_reducible apply isi_tup_tup); assumption) | ((with_reducible apply isi_dict_dict); assumption) | ((with_reducible apply r_lenD); assumption) | ((with_reducible apply r_lenT); assumption) | ((with_reducible apply r_lenL); assumption) | ((with_reducible refine r_all (SqL.of ?_) ?_); assumption) | ((with_reducible apply r_fld); assumption; exact Cn.cls (by assumption) _; exact Cn.noat (by assumption) _ _; first | rfl | assumption) | ((with_reducible apply ite_t); rfl) | ((with_reducible apply ite_f); rfl) | with_reducible refine u_cdiv ?_)))
local macro_rules | `(tactic| walk_at "w") => `(tactic| (repeat (first | with_reducible refine w_seq ?_ | with_reducible refine w_ret ?_ | with_reducible refine w_asg ?_ | with_reducible refine w_ifs ?_ | with_reducible refine w_drop ?_ | with_reducible refine w_next ?_ | with_reducible refine w_cont ?_ | with_reducible refine w_par ?_ | with_reducible refine w_par3 ?_ | with_reducible refine w_three ?_ | with_reducible refine w_two ?_ | with_reducible refine w_name ?_ | with_reducible refine w_c ?_ | with_reducible refine w_op ?_ | with_reducible refine w_un ?_ | with_reducible refine w_cb ?_ | with_reducible refine w_cons ?_ | with_reducible refine w_nil ?_ | with_reducible refine w_tup ?_ | with_reducible refine w_lst ?_ | with_reducible refine w_test ?_ | with_reducible refine w_B ?_ | with_reducible refine w_k ?_ | with_reducible refine w_ki ?_ | with_reducible refine w_and ?_ | with_reducible refine w_or ?_ | with_reducible refine w_not ?_ | with_reducible refine w_andV ?_ | with_reducible refine w_orV ?_ | with_reducible refine w_notV ?_ | with_reducible refine w_if ?_ | with_reducible refine w_yes ?_ | with_reducible refine w_isN ?_ | with_reducible refine w_chain ?_ | with_reducible refine w_sl ?_ | with_reducible refine w_noPart ?_ | with_reducible refine w_part ?_ | with_reducible refine w_fld ?_ | with_reducible refine w_dget ?_ | with_reducible refine w_din ?_ | with_reducible refine w_dnotin ?_ | with_reducible refine w_dput ?_ | with_reducible refine w_newK ?_ | with_reducible refine w_sfld ?_ | with_reducible refine w_methR ?_ | with_reducible refine w_propR ?_ | with_reducible refine w_sl2 ?_ | with_reducible refine w_star ?_ | with_reducible refine w_retN ?_ | with_reducible refine w_gcons ?_ | with_reducible refine w_gnil ?_ | with_reducible refine r_i0 ?_ | with_reducible refine r_u ?_ | with_reducible refine r_eqi ?_ | with_reducible refine r_nei ?_ | with_reducible refine r_eqs ?_ | with_reducible refine r_nes ?_ | with_reducible refine iteT ?_ | with_reducible refine iteF ?_ | with_reducible refine w_lc ?_ | with_reducible refine w_dc ?_ | with_reducible refine w_for ?_ | with_reducible refine w_istr ?_ | with_reducible refine w_ilist ?_ | with_reducible refine w_itup ?_ | with_reducible refine w_irng1 ?_ | with_reducible refine w_irng2 ?_ | with_reducible refine w_ienum ?_ | with_reducible refine w_iitems ?_ | with_reducible refine w_ikeysT ?_ | with_reducible refine w_makeK ?_ | with_reducible refine w_methSN ?_ | with_reducible refine w_makeR ?_ | with_reducible refine w_callR ?_ | with_reducible refine w_dmerge ?_ | with_reducible refine w_ks ?_ | with_reducible refine w_kr ?_ | with_reducible refine isi_int_int ?_ | with_reducible refine isi_int_bool ?_ | with_reducible refine isi_str_str ?_ | with_reducible refine w_1i ?_ | with_reducible refine w_nn ?_ | with_reducible refine w_int_i ?_ | with_reducible refine w_int_b ?_ | ((with_reducible apply w_var); rfl) | ((with_reducible apply r_ixT); assumption; rfl) | ((with_reducible apply r_ixL); assumption; rfl) | ((with_reducible apply isi_tup_tup); assumption) | ((with_reducible apply isi_dict_dict); assumption) | ((with_reducible apply r_lenD); assumption) | ((with_reducible apply r_lenT); assumption) | ((with_reducible apply r_lenL); assumption) | ((with_reducible refine r_all (SqL.of ?_) ?_); assumption) | ((with_reducible apply r_fld); assumption; exact Cn.cls (by assumption) _; exact Cn.noat (by assumption) _ _; first | rfl | assumption) | ((with_reducible apply ite_t); rfl) | ((with_reducible apply ite_f); rfl))))
section
variable {P : Program} {w : World} {K : PySem.W.Frag} {mg : Str → Option Value} {base : Heap}
theorem F_is_integer (C : Cn P K mg) : FnR P w K mg base (L2.CX P w) 1 (ga K "is_integer") spIsInt := by
  obtain ⟨fd, F⟩ := C.d_is_integer
  have sc : FnScope ["value"] ["value"] (defScope (top 12)) := ⟨rfl, rfl, rfl, by decide +kernel, rfl, by decide +kernel, by decide +kernel⟩
  refine fnR_nox F sc ?len (fun _ _ _ _ _ _ us hl => match us, hl with | [_], _ => rfl) ?body
  case len => exact fun vs H Q E h => by obtain ⟨_, rfl, _⟩ := h; rfl
  case body =>
    intro cdv A outer s H vs Q E hr h
    obtain ⟨i, rfl, q⟩ := h
    refine ⟨_, (pss_one (ps_ret (pe_and (pe_callB (call_isi : CallR _ _ (rIsi K)) (by rfl) (C.free "isinstance") b_isinstance (pa_cons (pv 0) (pa_cons (pe_bltn (by rfl) (C.free "int") b_int (v := .ty "int") rfl) pa_nil))) (pe_one (pe_not (pe_callB (call_isi : CallR _ _ (rIsi K)) (by rfl) (C.free "isinstance") b_isinstance (pa_cons (pv 0) (pa_cons (pe_bltn (by rfl) (C.free "bool") b_bool (v := .ty "bool") rfl) pa_nil)))))))), ?_⟩
    walk_at "w"
    exact q
theorem F_common_divisor (C : Cn P K mg) : FnR P w K mg base (L2.CX P w) 1 (ga K "common_divisor") spCdiv := by
  obtain ⟨fd, F⟩ := C.d_common_divisor
  have sc : FnScope ["one", "other"] ["one", "other"] (defScope (top 13)) := ⟨rfl, rfl, rfl, by decide +kernel, rfl, by decide +kernel, by decide +kernel⟩
  refine fnR_nox F sc ?len (fun _ _ _ _ _ _ us hl => match us, hl with | [_, _], _ => rfl) ?body
  case len => exact fun vs H Q E h => by obtain ⟨_, _, rfl, _⟩ := h; rfl
  case body =>
    intro cdv A outer s H vs Q E hr h
    obtain ⟨i, j, rfl, q⟩ := h
    refine ⟨_, (pss_cons (ps_par (i := 0) (j := 1) (by rfl) sc.nd rfl rfl (by decide) rfl rfl (pa_cons (pe_callB call_abs (by rfl) (C.free "abs") b_abs (pa_cons (pv 0) pa_nil)) (pa_cons (pe_callB call_abs (by rfl) (C.free "abs") b_abs (pa_cons (pv 1) pa_nil)) pa_nil)) (by rfl)) (pss_cons (ps_while PassesOwn.never (pt_cmpR op_gt (pv 1) pe_int (nomark _)) (pss_one (ps_par (i := 0) (j := 1) (by rfl) sc.nd rfl rfl (by decide) rfl rfl (pa_cons (pv 1) (pa_cons (pe_op op_modN (pv 0) (pv 1)) pa_nil)) (by rfl)))) (pss_one (ps_ret (pv 0))))), ?_⟩
    walk_at "w"
    have ab : ∀ z : Int, (if z < 0 then -z else z) = ((z.natAbs : Nat) : Int) := fun z => by split <;> omega
    rw [ab, ab]
    refine w_while (fun σ' H' => H' = H ∧ ∃ x y : Nat, σ' = [some (.int x), some (.int y)] ∧ Nat.gcd x y = Int.gcd i j) (fun σ' _ => match σ' with | [_, some (.int y)] => y.toNat | _ => 0) ⟨rfl, i.natAbs, j.natAbs, rfl, rfl⟩ ?_ ?_
    · rintro σ' H' ⟨rfl, x, y, rfl, hg⟩
      walk_at "w"
      refine ite2 (fun hc => ?_) (fun hc => ?_)
      · have hy : 0 < y := by have := of_decide_eq_true hc; omega
        walk_at "w"
        refine r_i (by omega) ?_
        walk_at "w"
        refine ⟨⟨rfl, y, x % y, ?_, ?_⟩, ?_⟩
        · show [some (V.int y), some (V.int ((x : Int).fmod y))] = _
          rw [Int.fmod_eq_emod_of_nonneg _ (by omega)]
          rfl
        · rw [← hg, Nat.gcd_comm x y, Nat.gcd_rec y x, Nat.gcd_comm]
        · show ((x : Int).fmod y).toNat < (y : Int).toNat
          rw [Int.fmod_eq_emod_of_nonneg _ (by omega)]
          have := Nat.mod_lt x hy
          omega
      · have hy : y = 0 := by
          have : ¬ (0 : Int) < y := fun z => hc (decide_eq_true z)
          omega
        subst hy
        walk_at "w"
        rw [Nat.gcd_zero_right] at hg
        show Q (.int (x : Int)) _
        rw [hg]
        exact q
    · intro σ H Q Q' hq h
      obtain ⟨v, e, h⟩ := h
      obtain ⟨a, b, e1, e2, k, e3, h⟩ := h
      exact ⟨v, e, a, b, e1, e2, k, e3, hq _ _ h⟩
theorem F_is_fraction (C : Cn P K mg) : FnR P w K mg base (L2.CX P w) 2 (ga K "is_fraction") (spIsFr K) := by
  obtain ⟨fd, F⟩ := C.d_is_fraction
  have sc : FnScope ["value"] ["value"] (defScope (top 15)) := ⟨rfl, rfl, rfl, by decide +kernel, rfl, by decide +kernel, by decide +kernel⟩
  refine fnR_nox F sc ?len (fun _ _ _ _ _ _ us hl => match us, hl with | [_], _ => rfl) ?body
  case len => exact fun vs H Q E h => by obtain ⟨_, _, _, rfl, _⟩ := h; rfl
  case body =>
    intro cdv A outer s H vs Q E hr h
    obtain ⟨a, n, m, rfl, hS, q⟩ := h
    have F_is_integer := F_is_integer (w := w) (base := base) C
    have F_common_divisor := F_common_divisor (w := w) (base := base) C
    refine ⟨_, (pss_cons (ps_if (PW.pt (pw_or (pt_not (pt_val (pe_callB (call_isi : CallR _ _ (rIsi K)) (by rfl) (C.free "isinstance") b_isinstance (pa_cons (pv 0) (pa_cons (pe_bltn (by rfl) (C.free "tuple") b_tuple (v := .ty "tuple") rfl) pa_nil))))) (pw_or1 (pt_cmpR op_ne (pe_callB (call_lenSq : CallR _ _ (rLenSq K)) (by rfl) (C.free "len") b_len (pa_cons (pv 0) pa_nil)) pe_int (nomark _))))) (pss_one (ps_ret pe_bl)) pss_nil) (pss_cons (ps_if (PW.pt (pw_or (pt_not (pt_val (pe_callR F_is_integer (hr.mono (by decide)) (by rfl) (C.g "is_integer") (C.keep "is_integer") passL (pa_cons (pe_ix (ix_tup : IxR _ (rIxT K)) (pv 0) pe_int (fun _ _ => rfl)) pa_nil)))) (pw_or (pt_not (pt_val (pe_callR F_is_integer (hr.mono (by decide)) (by rfl) (C.g "is_integer") (C.keep "is_integer") passL (pa_cons (pe_ix (ix_tup : IxR _ (rIxT K)) (pv 0) pe_int (fun _ _ => rfl)) pa_nil)))) (pw_or1 (pt_cmpR op_lt (pe_ix (ix_tup : IxR _ (rIxT K)) (pv 0) pe_int (fun _ _ => rfl)) pe_int (nomark _)))))) (pss_one (ps_ret pe_bl)) pss_nil) (pss_one (ps_ret (pe_cmpR op_eq (pe_callR F_common_divisor (hr.mono (by decide)) (by rfl) (C.g "common_divisor") (C.keep "common_divisor") passL (pa_cons (pe_ix (ix_tup : IxR _ (rIxT K)) (pv 0) pe_int (fun _ _ => rfl)) (pa_cons (pe_ix (ix_tup : IxR _ (rIxT K)) (pv 0) pe_int (fun _ _ => rfl)) pa_nil))) pe_int (nomark _)))))), ?_⟩
    walk_at "w+u_isInt"
    refine ite2 (fun hc => ?_) (fun hc => ?_)
    · have hm : ¬ (1 ≤ m) := by have := of_decide_eq_true hc; omega
      walk_at "w"
      rw [frOk, decide_eq_false hm] at q
      exact q
    · have hm : 1 ≤ m := by
        have : ¬ (m < 1) := fun z => hc (decide_eq_true z)
        omega
      walk_at "w+u_cdiv"
      rw [frOk, decide_eq_true hm, Bool.true_and] at q
      have e : decide (((Int.gcd n m : Nat) : Int) = 1) = decide (Int.gcd n m = 1) := decide_eq_decide.mpr (by omega)
      rw [e]
      exact q
theorem F_is_load (C : Cn P K mg) : FnR P w K mg base (L2.CX P w) 3 (ga K "is_load") (spIsLoad K) := by
  obtain ⟨fd, F⟩ := C.d_is_load
  have sc : FnScope ["value"] ["value"] (defScope (top 16)) := ⟨rfl, rfl, rfl, by decide +kernel, rfl, by decide +kernel, by decide +kernel⟩
  refine fnR_nox F sc ?len (fun _ _ _ _ _ _ us hl => match us, hl with | [_], _ => rfl) ?body
  case len => exact fun vs H Q E h => by obtain ⟨_, _, _, rfl, _⟩ := h; rfl
  case body =>
    intro cdv A outer s H vs Q E hr h
    obtain ⟨a, n, m, rfl, hS, q⟩ := h
    have F_is_fraction := F_is_fraction (w := w) (base := base) C
    refine ⟨_, (pss_one (ps_ret (pe_and (pe_callR F_is_fraction (hr.mono (by decide)) (by rfl) (C.g "is_fraction") (C.keep "is_fraction") passL (pa_cons (pv 0) pa_nil)) (pe_one (pe_cmpR op_ge (pe_ix (ix_tup : IxR _ (rIxT K)) (pv 0) pe_int (fun _ _ => rfl)) pe_int (nomark _)))))), ?_⟩
    repeat (first | with_reducible refine w_seq ?_ | with_reducible refine w_ret ?_ | with_reducible refine w_asg ?_ | with_reducible refine w_ifs ?_ | with_reducible refine w_drop ?_ | with_reducible refine w_next ?_ | with_reducible refine w_cont ?_ | with_reducible refine w_par ?_ | with_reducible refine w_par3 ?_ | with_reducible refine w_three ?_ | with_reducible refine w_two ?_ | with_reducible refine w_name ?_ | with_reducible refine w_c ?_ | with_reducible refine w_op ?_ | with_reducible refine w_un ?_ | with_reducible refine w_cb ?_ | with_reducible refine w_cons ?_ | with_reducible refine w_nil ?_ | with_reducible refine w_tup ?_ | with_reducible refine w_lst ?_ | with_reducible refine w_test ?_ | with_reducible refine w_B ?_ | with_reducible refine w_k ?_ | with_reducible refine w_ki ?_ | with_reducible refine w_and ?_ | with_reducible refine w_or ?_ | with_reducible refine w_not ?_ | with_reducible refine w_andV ?_ | with_reducible refine w_orV ?_ | with_reducible refine w_notV ?_ | with_reducible refine w_if ?_ | with_reducible refine w_yes ?_ | with_reducible refine w_isN ?_ | with_reducible refine w_chain ?_ | with_reducible refine w_sl ?_ | with_reducible refine w_noPart ?_ | with_reducible refine w_part ?_ | with_reducible refine w_fld ?_ | with_reducible refine w_dget ?_ | with_reducible refine w_din ?_ | with_reducible refine w_dnotin ?_ | with_reducible refine w_dput ?_ | with_reducible refine w_newK ?_ | with_reducible refine w_sfld ?_ | with_reducible refine w_methR ?_ | with_reducible refine w_propR ?_ | with_reducible refine w_sl2 ?_ | with_reducible refine w_star ?_ | with_reducible refine w_retN ?_ | with_reducible refine w_gcons ?_ | with_reducible refine w_gnil ?_ | with_reducible refine r_i0 ?_ | with_reducible refine r_u ?_ | with_reducible refine r_eqi ?_ | with_reducible refine r_nei ?_ | with_reducible refine r_eqs ?_ | with_reducible refine r_nes ?_ | with_reducible refine iteT ?_ | with_reducible refine iteF ?_ | with_reducible refine w_lc ?_ | with_reducible refine w_dc ?_ | with_reducible refine w_for ?_ | with_reducible refine w_istr ?_ | with_reducible refine w_ilist ?_ | with_reducible refine w_itup ?_ | with_reducible refine w_irng1 ?_ | with_reducible refine w_irng2 ?_ | with_reducible refine w_ienum ?_ | with_reducible refine w_iitems ?_ | with_reducible refine w_ikeysT ?_ | with_reducible refine w_makeK ?_ | with_reducible refine w_methSN ?_ | with_reducible refine w_makeR ?_ | with_reducible refine w_callR ?_ | with_reducible refine w_dmerge ?_ | with_reducible refine w_ks ?_ | with_reducible refine w_kr ?_ | with_reducible refine isi_int_int ?_ | with_reducible refine isi_int_bool ?_ | with_reducible refine isi_str_str ?_ | with_reducible refine w_1i ?_ | with_reducible refine w_nn ?_ | with_reducible refine w_int_i ?_ | with_reducible refine w_int_b ?_ | ((with_reducible apply w_var); rfl) | ((with_reducible apply r_ixT); assumption; rfl) | ((with_reducible apply r_ixL); assumption; rfl) | ((with_reducible apply isi_tup_tup); assumption) | ((with_reducible apply isi_dict_dict); assumption) | ((with_reducible apply r_lenD); assumption) | ((with_reducible apply r_lenT); assumption) | ((with_reducible apply r_lenL); assumption) | ((with_reducible refine r_all (SqL.of ?_) ?_); assumption) | ((with_reducible apply r_fld); assumption; exact C.cls _; exact C.noat _ _; first | rfl | assumption) | ((with_reducible apply ite_t); rfl) | ((with_reducible apply ite_f); rfl) | with_reducible refine u_isFr hS ?_)
    cases hb : frOk n m
    · rw [hb] at q
      refine iteF ?_
      exact q
    · rw [hb] at q
      walk_at "w"
      exact q
end
end PW

/-! ##### PS -/
set_option Elab.async false
set_option linter.all false
set_option maxRecDepth 100000
set_option maxHeartbeats 2000000
namespace PW
open PySem PySem.Spec PyProof.Rows L2 He PWL

/-! ### words -/
def inB (z l : Str) : Bool := (signs z).all fun c => match c.cps[0]? with | some n => decide (n ∈ l.cps.toList) | none => false
def wordOk (z l : Str) : Bool := decide (1 ≤ z.length) && (decide (z.length ≤ 8) && (z.cps.toList.all fun n => decide (n ∈ l.cps.toList)))
def spIsWord : Sp := fun vs H Q _ => ∃ z l : Str, vs = [.str z, .str l] ∧ z.length ≤ 100000 ∧ ∀ H', Same H H' → Q (.bl (wordOk z l)) H'
def spIsName : Sp := fun vs H Q _ => ∃ z : Str, vs = [.str z] ∧ z.length ≤ 100000 ∧ ∀ H', Same H H' → Q (.bl (wordOk z "abcdefghijklmnopqrstuvwxyz")) H'
theorem u_isWord {z l : Str} {H : Hp} {Q : VK} {E : XK} (hz : z.length ≤ 100000) (h : ∀ H', Same H H' → Q (.bl (wordOk z l)) H') : spIsWord [.str z, .str l] H Q E := ⟨z, l, rfl, hz, h⟩
theorem u_isName {z : Str} {H : Hp} {Q : VK} {E : XK} (hz : z.length ≤ 100000) (h : ∀ H', Same H H' → Q (.bl (wordOk z "abcdefghijklmnopqrstuvwxyz")) H') : spIsName [.str z] H Q E := ⟨z, rfl, hz, h⟩
local macro_rules | `(tactic| walk_at "w") => `(tactic| (repeat (first | with_reducible refine w_seq ?_ | with_reducible refine w_ret ?_ | with_reducible refine w_asg ?_ | with_reducible refine w_ifs ?_ | with_reducible refine w_drop ?_ | with_reducible refine w_next ?_ | with_reducible refine w_cont ?_ | with_reducible refine w_par ?_ | with_reducible refine w_par3 ?_ | with_reducible refine w_three ?_ | with_reducible refine w_two ?_ | with_reducible refine w_name ?_ | with_reducible refine w_c ?_ | with_reducible refine w_op ?_ | with_reducible refine w_un ?_ | with_reducible refine w_cb ?_ | with_reducible refine w_cons ?_ | with_reducible refine w_nil ?_ | with_reducible refine w_tup ?_ | with_reducible refine w_lst ?_ | with_reducible refine w_test ?_ | with_reducible refine w_B ?_ | with_reducible refine w_k ?_ | with_reducible refine w_ki ?_ | with_reducible refine w_and ?_ | with_reducible refine w_or ?_ | with_reducible refine w_not ?_ | with_reducible refine w_andV ?_ | with_reducible refine w_orV ?_ | with_reducible refine w_notV ?_ | with_reducible refine w_if ?_ | with_reducible refine w_yes ?_ | with_reducible refine w_isN ?_ | with_reducible refine w_chain ?_ | with_reducible refine w_sl ?_ | with_reducible refine w_noPart ?_ | with_reducible refine w_part ?_ | with_reducible refine w_fld ?_ | with_reducible refine w_dget ?_ | with_reducible refine w_din ?_ | with_reducible refine w_dnotin ?_ | with_reducible refine w_dput ?_ | with_reducible refine w_newK ?_ | with_reducible refine w_sfld ?_ | with_reducible refine w_methR ?_ | with_reducible refine w_propR ?_ | with_reducible refine w_sl2 ?_ | with_reducible refine w_star ?_ | with_reducible refine w_retN ?_ | with_reducible refine w_gcons ?_ | with_reducible refine w_gnil ?_ | with_reducible refine r_i0 ?_ | with_reducible refine r_u ?_ | with_reducible refine r_eqi ?_ | with_reducible refine r_nei ?_ | with_reducible refine r_eqs ?_ | with_reducible refine r_nes ?_ | with_reducible refine iteT ?_ | with_reducible refine iteF ?_ | with_reducible refine w_lc ?_ | with_reducible refine w_dc ?_ | with_reducible refine w_for ?_ | with_reducible refine w_istr ?_ | with_reducible refine w_ilist ?_ | with_reducible refine w_itup ?_ | with_reducible refine w_irng1 ?_ | with_reducible refine w_irng2 ?_ | with_reducible refine w_ienum ?_ | with_reducible refine w_iitems ?_ | with_reducible refine w_ikeysT ?_ | with_reducible refine w_makeK ?_ | with_reducible refine w_methSN ?_ | with_reducible refine w_makeR ?_ | with_reducible refine w_callR ?_ | with_reducible refine w_dmerge ?_ | with_reducible refine w_ks ?_ | with_reducible refine w_kr ?_ | with_reducible refine isi_int_int ?_ | with_reducible refine isi_int_bool ?_ | with_reducible refine isi_str_str ?_ | with_reducible refine w_1i ?_ | with_reducible refine w_nn ?_ | with_reducible refine w_int_i ?_ | with_reducible refine w_int_b ?_ | ((with_reducible apply w_var); rfl) | ((with_reducible apply r_ixT); assumption; rfl) | ((with_reducible apply r_ixL); assumption; rfl) | ((with_reducible apply isi_tup_tup); assumption) | ((with_reducible apply isi_dict_dict); assumption) | ((with_reducible apply r_lenD); assumption) | ((with_reducible apply r_lenT); assumption) | ((with_reducible apply r_lenL); assumption) | ((with_reducible refine r_all (SqL.of ?_) ?_); assumption) | ((with_reducible apply r_fld); assumption; exact Cn.cls (by assumption) _; exact Cn.noat (by assumption) _ _; first | rfl | assumption) | ((with_reducible apply ite_t); rfl) | ((with_reducible apply ite_f); rfl))))
section
variable {P : Program} {w : World} {K : PySem.W.Frag} {mg : Str → Option Value} {base : Heap}
theorem F_is_word (C : Cn P K mg) : FnR P w K mg base (L2.CX P w) 1 (ga K "is_word") spIsWord := by
  obtain ⟨fd, F⟩ := C.d_is_word
  have sc : FnScope ["value", "letters", "letter"] ["value", "letters"] (defScope (top 27)) := ⟨rfl, rfl, rfl, by decide +kernel, rfl, by decide +kernel, by decide +kernel⟩
  refine fnR_nox F sc ?len (fun _ _ _ _ _ _ us hl => match us, hl with | [_, _], _ => rfl) ?body
  case len => exact fun vs H Q E h => by obtain ⟨_, _, rfl, _⟩ := h; rfl
  case body =>
    intro cdv A outer s H vs Q E hr h
    obtain ⟨z, l, rfl, hz, q⟩ := h
    refine ⟨_, (pss_cons (ps_if (PW.pt (pw_or (pt_not (pt_val (pe_callB (call_isi : CallR _ _ (rIsi K)) (by rfl) (C.free "isinstance") b_isinstance (pa_cons (pv 0) (pa_cons (pe_bltn (by rfl) (C.free "str") b_str (v := .ty "str") rfl) pa_nil))))) (pw_or1 (pt_not (pt_chain op_le op_le pe_int (pe_callB call_len_str (by rfl) (C.free "len") b_len (pa_cons (pv 0) pa_nil)) (pe_globI (x := "MAX_LETTERS") (i := 8) C (by rfl) (by rfl))))))) (pss_one (ps_ret pe_bl)) pss_nil) (pss_one (ps_ret (pe_callB (cr_all rfl) (by rfl) (C.free "all") b_all (pa_cons (pe_lc (own := [("letter", 2)]) rfl sc.nd (pi_str (pv 0)) (blkOk_by (N := ["value", "letters", "letter"]) (sc := defScope (top 27)) (by decide +kernel)) (fun _ _ _ _ _ => (pg_name (i := 2) sc.nd rfl (Or.inl rfl))) (fun _ _ _ _ _ => pts_nil) (fun _ _ _ _ _ => (pe_cmpR op_in_sign (pv 2) (pv 1) (by rfl)))) pa_nil))))), ?_⟩
    walk_at "w"
    refine r_lenS (Nat.le_trans hz (by decide)) ?_
    walk_at "w"
    refine ite2 (fun c1 => ?_) (fun c1 => ?_)
    · have h1 : 1 ≤ z.length := by have := of_decide_eq_true c1; omega
      walk_at "w"
      refine ite2 (fun c2 => ?_) (fun c2 => ?_)
      · have h2 : ¬ z.length ≤ 8 := by
          intro z8
          rw [decide_eq_true (by omega : ((z.length : Nat) : Int) ≤ 8)] at c2
          cases c2
        walk_at "w"
        have e : wordOk z l = false := by rw [wordOk, decide_eq_true h1, decide_eq_false h2]; rfl
        rw [e] at q
        exact q H (Same.refl _)
      · have h2 : z.length ≤ 8 := by
          have : decide (((z.length : Nat) : Int) ≤ 8) = true := by
            cases hb : decide (((z.length : Nat) : Int) ≤ 8) with
            | true => rfl
            | false => rw [hb] at c2; exact absurd rfl c2
          have := of_decide_eq_true this
          omega
        walk_at "w"
        intro Da hD
        refine lc_it walk_str (PvA H Da fun i => ((z.cps.toList.take i).map fun n => V.bl (decide (n ∈ l.cps.toList)))) (pva_0 hD rfl) (fun _ _ _ _ => True.intro) (fun i x H1 H2 hi p y => ?_) (fun H1 p => ?_)
        · obtain ⟨rfl, c, hc, rfl⟩ := y
          walk_at "w"
          refine ⟨rfl, ?_⟩
          walk_at "w"
          refine ⟨c, l, rfl, rfl, ?_⟩
          refine pva_step p (Same.refl _) ?_ ?_
          · have hc2 : z.cps.toList[i]? = some c := by rw [Array.getElem?_toList]; exact hc
            rw [List.take_add_one, hc2]
            simp
          · rw [List.length_map, List.length_take]
            have : z.cps.toList.length = z.length := by simp [Str.length]
            omega
        · have el : z.cps.toList.take z.cps.size = z.cps.toList := by rw [← Array.length_toList, List.take_length]
          refine w_nil ?_
          refine ⟨Da, z.cps.toList.map fun n => decide (n ∈ l.cps.toList), rfl, SqL.of ?_, ?_⟩
          · rw [p.2.2]
            show some (HO.lst (List.map (fun n => V.bl (decide (n ∈ l.cps.toList))) (List.take z.cps.size z.cps.toList))) = _
            rw [el, List.map_map]
            rfl
          · have e : wordOk z l = (z.cps.toList.map fun n => decide (n ∈ l.cps.toList)).all id := by
              rw [wordOk, decide_eq_true h1, decide_eq_true h2, Bool.true_and, Bool.true_and, List.all_map]
              rfl
            rw [← e]
            exact q H1 p.2.1
    · have h1 : ¬ 1 ≤ z.length := by
        intro z1
        exact c1 (decide_eq_true (by omega))
      walk_at "w"
      have e : wordOk z l = false := by rw [wordOk, decide_eq_false h1]; rfl
      rw [e] at q
      exact q H (Same.refl _)
theorem F_is_name (C : Cn P K mg) : FnR P w K mg base (L2.CX P w) 2 (ga K "is_name") spIsName := by
  obtain ⟨fd, F⟩ := C.d_is_name
  have sc : FnScope ["value"] ["value"] (defScope (top 28)) := ⟨rfl, rfl, rfl, by decide +kernel, rfl, by decide +kernel, by decide +kernel⟩
  refine fnR_nox F sc ?len (fun _ _ _ _ _ _ us hl => match us, hl with | [_], _ => rfl) ?body
  case len => exact fun vs H Q E h => by obtain ⟨_, rfl, _⟩ := h; rfl
  case body =>
    intro cdv A outer s H vs Q E hr h
    obtain ⟨z, rfl, hz, q⟩ := h
    have F_is_word := F_is_word (w := w) (base := base) C
    refine ⟨_, (pss_one (ps_ret (pe_callR F_is_word (hr.mono (by decide)) (by rfl) (C.g "is_word") (C.keep "is_word") passL (pa_cons (pv 0) (pa_cons (pe_globS (x := "SMALL") (z := "abcdefghijklmnopqrstuvwxyz") C (by rfl) (by rfl)) pa_nil))))), ?_⟩
    walk_at "w"
    exact u_isWord hz q
end
end PW

/-! ##### PD -/
set_option Elab.async false
set_option linter.all false
set_option maxRecDepth 100000
set_option maxHeartbeats 2000000
namespace PW
open PySem PySem.Spec PyProof.Rows L2 He PWL

/-! ### data, and what keeps it -/
def frD (f : Int × Int) : PyData := .tuple [.int f.1, .int f.2]
def pathD (p : List Str) : PyData := .tuple (p.map .str)
abbrev Rope : Type := List Str × (Int × Int)
def ropeD (r : Rope) : PyData := .tuple [pathD r.1, frD r.2]
mutual
/-- data whose lists hold texts alone -/
def np : PyData → Bool
  | .list ds => ds.all fun d => match d with | .str _ => true | _ => false
  | .tuple ds => npL ds
  | _ => true
def npL : List PyData → Bool
  | [] => true
  | d :: ds => np d && npL ds
end
structure Kd (H H' : Hp) : Prop where
  t : ∀ b xs, Rd H b (.tup xs) → Rd H' b (.tup xs)
  l : ∀ b xs, (∀ x ∈ xs, ∃ z, x = V.str z) → Rd H b (.lst xs) → Rd H' b (.lst xs)
theorem Kd.refl (H : Hp) : Kd H H := ⟨fun _ _ h => h, fun _ _ _ h => h⟩
theorem Kd.trans {H H1 H2 : Hp} (a : Kd H H1) (b : Kd H1 H2) : Kd H H2 := ⟨fun c xs h => b.t c xs (a.t c xs h), fun c xs hx h => b.l c xs hx (a.l c xs hx h)⟩
theorem rd_same {H H' : Hp} {a : Addr} {u : HO} (e : Same H H') (h : Rd H a u) : Rd H' a u := h.elim (fun h => .inl (e _ _ h)) fun ⟨o, h⟩ => .inr ⟨o, e _ _ h⟩
theorem same_kd {H H' : Hp} (e : Same H H') : Kd H H' := ⟨fun _ _ h => rd_same e h, fun _ _ _ h => rd_same e h⟩
/-- what stands at d is neither a tuple nor a list of texts -/
def NoDat (o : Option HO) : Prop := match o with
  | some (.tup _) => False
  | some (.lst xs) => ∃ x ∈ xs, ∀ z, x ≠ V.str z
  | some (.frz _ (.tup _)) => False
  | some (.frz _ (.lst xs)) => ∃ x ∈ xs, ∀ z, x ≠ V.str z
  | _ => True
theorem kd_upd {H : Hp} {d : Addr} {o : HO} (h : NoDat (H d)) : Kd H (L2.upd H d o) := by
  have key : ∀ b u, Rd H b u → b ≠ d → Rd (L2.upd H d o) b u := fun b u hb hne => by
    unfold Rd at hb ⊢
    rw [upd_ne hne]
    exact hb
  refine ⟨fun b xs hb => key b _ hb fun e => ?_, fun b xs hx hb => key b _ hb fun e => ?_⟩
  · subst e
    rcases hb with hb | ⟨o', hb⟩ <;> (rw [hb] at h; exact h)
  · subst e
    rcases hb with hb | ⟨o', hb⟩ <;> (rw [hb] at h; obtain ⟨x, hm, hn⟩ := h; obtain ⟨z, rfl⟩ := hx x hm; exact hn z rfl)
theorem sqT_kd {K : PySem.W.Frag} {H H' : Hp} {a : Addr} {xs : List V} (e : Kd H H') (h : SqT K H a xs) : SqT K H' a xs := h.elim (fun h => .inl (e.t _ _ h)) .inr
theorem sqL_kd {K : PySem.W.Frag} {H H' : Hp} {a : Addr} {xs : List V} (e : Kd H H') (hx : ∀ x ∈ xs, ∃ z, x = V.str z) (h : SqL K H a xs) : SqL K H' a xs := h.elim (fun h => .inl (e.l _ _ hx h)) .inr
theorem sqL_same {K : PySem.W.Frag} {H H' : Hp} {a : Addr} {xs : List V} (e : Same H H') (h : SqL K H a xs) : SqL K H' a xs := h.elim (fun h => .inl (rd_same e h)) .inr
theorem sqT_same {K : PySem.W.Frag} {H H' : Hp} {a : Addr} {xs : List V} (e : Same H H') (h : SqT K H a xs) : SqT K H' a xs := h.elim (fun h => .inl (rd_same e h)) .inr
theorem dpAll_strs {K : PySem.W.Frag} {H : Hp} : ∀ {xs : List V} {ds : List PyData}, DpAll K H xs ds → (ds.all fun d => match d with | .str _ => true | _ => false) = true → ∀ x ∈ xs, ∃ z, x = V.str z
  | _, _, .nil, _ => fun x hx => absurd hx (by simp)
  | _, _, .cons h t, ha => by
    rw [List.all_cons, Bool.and_eq_true] at ha
    intro x hx
    rcases List.mem_cons.mp hx with rfl | hx
    · cases h with
      | str z => exact ⟨z, rfl⟩
      | _ => cases ha.1
    · exact dpAll_strs t ha.2 x hx
theorem dpAll_str_kd {K : PySem.W.Frag} {H H' : Hp} : ∀ {xs : List V} {ds : List PyData}, DpAll K H xs ds → (ds.all fun d => match d with | .str _ => true | _ => false) = true → DpAll K H' xs ds
  | _, _, .nil, _ => .nil
  | _, _, .cons h t, ha => by
    rw [List.all_cons, Bool.and_eq_true] at ha
    refine .cons ?_ (dpAll_str_kd t ha.2)
    cases h with
    | str z => exact .str z
    | _ => cases ha.1
mutual
theorem dp_kd {K : PySem.W.Frag} {H H' : Hp} (e : Kd H H') : ∀ {d : PyData} {v : V}, np d = true → Dp K H v d → Dp K H' v d
  | _, _, _, .non => .non
  | _, _, _, .bl b => .bl b
  | _, _, _, .int i => .int i
  | _, _, _, .str z => .str z
  | _, _, hn, .lst hx ha => by
    rw [np] at hn
    exact .lst (sqL_kd e (dpAll_strs ha hn) hx) (dpAll_str_kd ha hn)
  | _, _, hn, .tup hx ha => by
    rw [np] at hn
    exact .tup (sqT_kd e hx) (dpAll_kd e hn ha)
theorem dpAll_kd {K : PySem.W.Frag} {H H' : Hp} (e : Kd H H') : ∀ {ds : List PyData} {vs : List V}, npL ds = true → DpAll K H vs ds → DpAll K H' vs ds
  | _, _, _, .nil => .nil
  | _, _, hn, .cons h t => by
    rw [npL, Bool.and_eq_true] at hn
    exact .cons (dp_kd e hn.1 h) (dpAll_kd e hn.2 t)
end
theorem np_fr (f : Int × Int) : np (frD f) = true := rfl
theorem npL_strs : ∀ p : List Str, npL (p.map .str) = true
  | [] => rfl
  | z :: p => by rw [List.map_cons, npL, npL_strs p]; rfl
theorem np_path (p : List Str) : np (pathD p) = true := by rw [pathD, np]; exact npL_strs p
theorem np_rope (r : Rope) : np (ropeD r) = true := by rw [ropeD, np, npL, np_path, npL, np_fr]; rfl
theorem dp_fr {K : PySem.W.Frag} {H : Hp} {a : Addr} {n m : Int} (h : SqT K H a [.int n, .int m]) : Dp K H (.ref a) (frD (n, m)) := .tup h (.cons (.int n) (.cons (.int m) .nil))
theorem dp_fr_inv {K : PySem.W.Frag} {H : Hp} {v : V} {f : Int × Int} (h : Dp K H v (frD f)) : ∃ a, v = .ref a ∧ SqT K H a [.int f.1, .int f.2] := by
  cases h with
  | tup hx ha =>
    cases ha with
    | cons h1 t1 =>
      cases h1
      cases t1 with
      | cons h2 t2 =>
        cases h2
        cases t2
        exact ⟨_, rfl, hx⟩
theorem dpAll_of_strs {K : PySem.W.Frag} {H : Hp} : ∀ p : List Str, DpAll K H (p.map .str) (p.map .str)
  | [] => .nil
  | z :: p => .cons (.str z) (dpAll_of_strs p)
theorem strs_of_dpAll {K : PySem.W.Frag} {H : Hp} : ∀ {p : List Str} {xs : List V}, DpAll K H xs (p.map .str) → xs = p.map .str
  | [], _, h => by cases h; rfl
  | z :: p, _, h => by
    rw [List.map_cons] at h
    cases h with
    | cons h1 t => cases h1; rw [strs_of_dpAll t]; rfl
theorem dp_path {K : PySem.W.Frag} {H : Hp} {a : Addr} {p : List Str} (h : SqT K H a (p.map .str)) : Dp K H (.ref a) (pathD p) := .tup h (dpAll_of_strs p)
theorem dp_path_inv {K : PySem.W.Frag} {H : Hp} {v : V} {p : List Str} (h : Dp K H v (pathD p)) : ∃ a, v = .ref a ∧ SqT K H a (p.map .str) := by
  cases h with
  | tup hx ha => rw [strs_of_dpAll ha] at hx; exact ⟨_, rfl, hx⟩
theorem dp_rope {K : PySem.W.Frag} {H : Hp} {a : Addr} {x y : V} {r : Rope} (h : SqT K H a [x, y]) (hx : Dp K H x (pathD r.1)) (hy : Dp K H y (frD r.2)) : Dp K H (.ref a) (ropeD r) := .tup h (.cons hx (.cons hy .nil))
theorem dp_rope_inv {K : PySem.W.Frag} {H : Hp} {v : V} {r : Rope} (h : Dp K H v (ropeD r)) : ∃ a x y, v = .ref a ∧ SqT K H a [x, y] ∧ Dp K H x (pathD r.1) ∧ Dp K H y (frD r.2) := by
  cases h with
  | tup hx ha =>
    cases ha with
    | cons h1 t1 =>
      cases t1 with
      | cons h2 t2 =>
        cases t2
        exact ⟨_, _, _, rfl, hx, h1, h2⟩
/-- all but x kept -/
def SX (x : Addr) (H H' : Hp) : Prop := ∀ b o, b ≠ x → H b = some o → H' b = some o
theorem SX.refl (x : Addr) (H : Hp) : SX x H H := fun _ _ _ h => h
theorem SX.trans {x : Addr} {H H1 H2 : Hp} (a : SX x H H1) (b : SX x H1 H2) : SX x H H2 := fun c o hc h => b c o hc (a c o hc h)
theorem sx_same {x : Addr} {H H' : Hp} (e : Same H H') : SX x H H' := fun b o _ h => e b o h
theorem sx_upd {x : Addr} {H : Hp} {o : HO} : SX x H (L2.upd H x o) := fun b u hb h => by rw [upd_ne hb]; exact h
theorem sx_kd {x : Addr} {H H' : Hp} (e : SX x H H') (hn : NoDat (H x)) : Kd H H' := by
  have key : ∀ b u, Rd H b u → b ≠ x → Rd H' b u := fun b u hb hne => hb.elim (fun h => .inl (e _ _ hne h)) fun ⟨o, h⟩ => .inr ⟨o, e _ _ hne h⟩
  refine ⟨fun b xs hb => key b _ hb fun e => ?_, fun b xs hx hb => key b _ hb fun e => ?_⟩
  · subst e
    rcases hb with hb | ⟨o', hb⟩ <;> (rw [hb] at hn; exact hn)
  · subst e
    rcases hb with hb | ⟨o', hb⟩ <;> (rw [hb] at hn; obtain ⟨x, hm, hn⟩ := hn; obtain ⟨z, rfl⟩ := hx x hm; exact hn z rfl)
/-! ### dicts of data -/
section
variable {α : Type}
def putA (es : List (Str × α)) (k : Str) (v : α) : List (Str × α) := if (es.any fun e => decide (e.1 = k)) = true then es.map (fun e => if e.1 = k then (e.1, v) else e) else es ++ [(k, v)]
def getA (es : List (Str × α)) (k : Str) : Option α := (es.find? fun e => decide (e.1 = k)).map (·.2)
def dropA (es : List (Str × α)) (k : Str) : List (Str × α) := es.filter fun e => decide (e.1 ≠ k)
def hasA (es : List (Str × α)) (k : Str) : Bool := es.any fun e => decide (e.1 = k)
/-- a dict's pairs against data -/
def DatK (K : PySem.W.Frag) (H : Hp) (f : α → PyData) (kvs : List (Key × V)) (es : List (Str × α)) : Prop := Paired (fun (p : Key × V) (q : Str × α) => p.1 = .inr q.1 ∧ Dp K H p.2 (f q.2)) kvs es
def DictE (K : PySem.W.Frag) (H : Hp) (f : α → PyData) (a : Addr) (es : List (Str × α)) : Prop := ∃ kvs, H a = some (.dK kvs) ∧ DatK K H f kvs es
variable {K : PySem.W.Frag} {H H' : Hp} {f : α → PyData} {kvs : List (Key × V)} {es : List (Str × α)} {a : Addr} {k : Str} {v : V} {d : α}
theorem DatK.kd (e : Kd H H') (hn : ∀ d, np (f d) = true) (h : DatK K H f kvs es) : DatK K H' f kvs es := Paired.mapP h fun _ _ z => ⟨z.1, dp_kd e (hn _) z.2⟩
theorem DictE.same (e : Same H H') (hn : ∀ d, np (f d) = true) (h : DictE K H f a es) : DictE K H' f a es := let ⟨kvs, h1, h2⟩ := h; ⟨kvs, e _ _ h1, h2.kd (same_kd e) hn⟩
theorem DictE.sx {x : Addr} {C dx : Addr} {fs : List (Str × V)} (e : SX x H H') (hx : H x = some (.ins C dx fs)) (hn : ∀ d, np (f d) = true) (h : DictE K H f a es) : DictE K H' f a es := let ⟨kvs, h1, h2⟩ := h; ⟨kvs, e _ _ (ne_of h1 hx (fun z => nomatch z)) h1, h2.kd (sx_kd e (by rw [hx]; exact True.intro)) hn⟩
theorem DatK.length (h : DatK K H f kvs es) : kvs.length = es.length := Paired.length h
theorem DatK.keys (h : DatK K H f kvs es) : kvs.map (·.1) = (es.map (·.1)).map Sum.inr := by
  unfold DatK at h
  induction h with
  | nil => rfl
  | cons h t ih => rw [List.map_cons, List.map_cons, List.map_cons, ih, h.1]
theorem DatK.val (h : DatK K H f kvs es) (k : Str) : match getA es k with
    | some d => ∃ v, valV kvs (.inr k) = some v ∧ Dp K H v (f d)
    | none => valV kvs (.inr k) = none := by
  unfold DatK at h
  induction h with
  | nil => rfl
  | @cons p q kvs es h t ih =>
    by_cases hk : q.1 = k
    · have e1 : getA (q :: es) k = some q.2 := by simp [getA, List.find?_cons, hk]
      rw [e1]
      exact ⟨p.2, valV_pos (by rw [h.1, hk]), h.2⟩
    · have e1 : getA (q :: es) k = getA es k := by simp [getA, List.find?_cons, hk]
      have hk2 : ¬ p.1 = (Sum.inr k : Key) := by rw [h.1]; intro e; exact hk (Sum.inr.inj e)
      rw [e1, valV_neg hk2]
      exact ih
theorem DatK.any (h : DatK K H f kvs es) (k : Str) : (kvs.any fun kv => decide (kv.1 = (Sum.inr k : Key))) = es.any fun e => decide (e.1 = k) := by
  unfold DatK at h
  induction h with
  | nil => rfl
  | @cons p q kvs es h t ih =>
    rw [List.any_cons, List.any_cons, ih]
    congr 1
    rw [h.1]
    exact decide_eq_decide.mpr ⟨fun e => Sum.inr.inj e, fun e => congrArg _ e⟩
theorem DatK.snoc (h : DatK K H f kvs es) (hd : Dp K H v (f d)) : DatK K H f (kvs ++ [(.inr k, v)]) (es ++ [(k, d)]) := Paired.snoc h ⟨rfl, hd⟩
theorem DatK.put (h : DatK K H f kvs es) (hd : Dp K H v (f d)) : DatK K H f (putK kvs (.inr k) v) (putA es k d) := by
  unfold putK putA
  rw [h.any k]
  by_cases q : (es.any fun e => decide (e.1 = k)) = true
  · rw [if_pos q, if_pos q]
    clear q
    unfold DatK at h ⊢
    induction h with
    | nil => exact .nil
    | @cons p q kvs es h t ih =>
      rw [List.map_cons, List.map_cons]
      refine .cons ?_ ih
      by_cases hk : q.1 = k
      · have hk2 : p.1 = (Sum.inr k : Key) := by rw [h.1, hk]
        rw [if_pos hk, if_pos hk2]
        exact ⟨h.1, hd⟩
      · have hk2 : ¬ p.1 = (Sum.inr k : Key) := by rw [h.1]; intro e; exact hk (Sum.inr.inj e)
        rw [if_neg hk, if_neg hk2]
        exact h
  · rw [if_neg q, if_neg q]
    exact h.snoc hd
theorem DatK.at_ (h : DatK K H f kvs es) {i : Nat} {e : Str × α} (he : es[i]? = some e) : ∃ v, kvs[i]? = some (.inr e.1, v) ∧ Dp K H v (f e.2) := by
  unfold DatK at h
  induction h generalizing i with
  | nil => simp at he
  | @cons p q kvs es h t ih =>
    cases i with
    | zero =>
      simp at he
      subst he
      refine ⟨p.2, ?_, h.2⟩
      simp
      rw [← h.1]
    | succ i =>
      simp at he
      obtain ⟨v, h1, h2⟩ := ih he
      exact ⟨v, by simpa using h1, h2⟩
theorem DatK.drop (h : DatK K H f kvs es) : DatK K H f (dropK kvs (.inr k)) (dropA es k) := by
  unfold DatK at h ⊢
  unfold dropK dropA
  induction h with
  | nil => exact .nil
  | @cons p q kvs es h t ih =>
    rw [List.filter_cons, List.filter_cons]
    by_cases hk : q.1 = k
    · have hk2 : p.1 = (Sum.inr k : Key) := by rw [h.1, hk]
      rw [decide_eq_false (fun z => z hk2), decide_eq_false (fun z => z hk)]
      exact ih
    · have hk2 : ¬ p.1 = (Sum.inr k : Key) := by rw [h.1]; intro e; exact hk (Sum.inr.inj e)
      rw [decide_eq_true hk2, decide_eq_true hk]
      exact .cons h ih
/-! lists of pairs alone -/
theorem getA_mem {es : List (Str × α)} {k : Str} {d : α} (h : getA es k = some d) : (k, d) ∈ es := by
  unfold getA at h
  cases hf : es.find? fun e => decide (e.1 = k) with
  | none => rw [hf] at h; cases h
  | some e =>
    rw [hf] at h
    have h1 := List.mem_of_find?_eq_some hf
    have h2 : e.1 = k := by simpa using List.find?_some hf
    have h3 : e.2 = d := Option.some.inj h
    rw [← h2, ← h3]
    exact h1
theorem getA_some {es : List (Str × α)} {k : Str} (h : hasA es k = true) : ∃ d, getA es k = some d := by
  unfold hasA at h
  unfold getA
  cases hf : es.find? fun e => decide (e.1 = k) with
  | some e => exact ⟨e.2, rfl⟩
  | none =>
    rw [List.any_eq_true] at h
    obtain ⟨e, he, h2⟩ := h
    have := List.find?_eq_none.mp hf e he
    exact absurd h2 this
theorem getA_none {es : List (Str × α)} {k : Str} (h : hasA es k = false) : getA es k = none := by
  cases hg : getA es k with
  | none => rfl
  | some d =>
    have : hasA es k = true := List.any_eq_true.mpr ⟨_, getA_mem hg, by simp⟩
    rw [h] at this
    cases this
theorem hasA_iff {es : List (Str × α)} {k : Str} : hasA es k = true ↔ k ∈ es.map (·.1) := by
  unfold hasA
  rw [List.any_eq_true, List.mem_map]
  exact ⟨fun ⟨e, h1, h2⟩ => ⟨e, h1, of_decide_eq_true h2⟩, fun ⟨e, h1, h2⟩ => ⟨e, h1, decide_eq_true h2⟩⟩
theorem hasA_perm {es fs : List (Str × α)} (h : es.Perm fs) (k : Str) : hasA es k = hasA fs k := by
  rw [Bool.eq_iff_iff, hasA_iff, hasA_iff]
  exact (h.map _).mem_iff
theorem putA_perm {es fs : List (Str × α)} (h : es.Perm fs) (k : Str) (d : α) : (putA es k d).Perm (putA fs k d) := by
  have e : (es.any fun e => decide (e.1 = k)) = fs.any fun e => decide (e.1 = k) := hasA_perm h k
  unfold putA
  rw [e]
  split
  · exact h.map _
  · exact h.append_right _
theorem dropA_perm {es fs : List (Str × α)} (h : es.Perm fs) (k : Str) : (dropA es k).Perm (dropA fs k) := h.filter _
theorem putA_keys {es : List (Str × α)} {k : Str} {d : α} : (putA es k d).map (·.1) = if hasA es k = true then es.map (·.1) else es.map (·.1) ++ [k] := by
  unfold putA hasA
  split
  · rw [List.map_map]
    refine List.map_congr_left fun e _ => ?_
    show (if e.1 = k then (e.1, d) else e).1 = e.1
    split <;> rfl
  · rw [List.map_append]
    rfl
theorem putA_nodup {es : List (Str × α)} {k : Str} {d : α} (h : (es.map (·.1)).Nodup) : ((putA es k d).map (·.1)).Nodup := by
  rw [putA_keys]
  split
  · exact h
  · rename_i hn
    rw [List.nodup_append]
    refine ⟨h, by simp, ?_⟩
    intro a ha b hb
    simp only [List.mem_singleton] at hb
    subst hb
    intro e
    subst e
    exact hn (hasA_iff.mpr ha)
theorem dropA_nodup {es : List (Str × α)} {k : Str} (h : (es.map (·.1)).Nodup) : ((dropA es k).map (·.1)).Nodup := (List.filter_sublist.map _).nodup h
theorem putA_mem {es : List (Str × α)} {k : Str} {d : α} {e : Str × α} (h : e ∈ putA es k d) : e = (k, d) ∨ (e ∈ es ∧ e.1 ≠ k) ∨ (e ∈ es) := by
  unfold putA at h
  split at h
  · obtain ⟨e0, h0, h1⟩ := List.mem_map.mp h
    by_cases hk : e0.1 = k
    · rw [if_pos hk] at h1
      left
      rw [← h1, hk]
    · rw [if_neg hk] at h1
      subst h1
      exact .inr (.inl ⟨h0, hk⟩)
  · rcases List.mem_append.mp h with h | h
    · exact .inr (.inr h)
    · exact .inl (List.mem_singleton.mp h)
theorem putA_length {es : List (Str × α)} {k : Str} {d : α} : (putA es k d).length = if hasA es k = true then es.length else es.length + 1 := by
  have h := congrArg List.length (putA_keys (es := es) (k := k) (d := d))
  rw [List.length_map] at h
  rw [h]
  split <;> simp
theorem getA_of_mem {es : List (Str × α)} (hn : (es.map (·.1)).Nodup) {k : Str} {d : α} (h : (k, d) ∈ es) : getA es k = some d := by
  induction es with
  | nil => simp at h
  | cons e es ih =>
    rw [List.map_cons, List.nodup_cons] at hn
    rcases List.mem_cons.mp h with h | h
    · subst h
      simp [getA, List.find?_cons]
    · have hne : e.1 ≠ k := fun z => hn.1 (z ▸ List.mem_map.mpr ⟨_, h, rfl⟩)
      have : getA (e :: es) k = getA es k := by simp [getA, List.find?_cons, hne]
      rw [this]
      exact ih hn.2 h
theorem getA_perm {es fs : List (Str × α)} (h : es.Perm fs) (hn : (es.map (·.1)).Nodup) (k : Str) : getA es k = getA fs k := by
  have hn2 : (fs.map (·.1)).Nodup := (h.map _).nodup_iff.mp hn
  cases hg : getA fs k with
  | some d => exact getA_of_mem hn (h.mem_iff.mpr (getA_mem hg))
  | none =>
    cases hg2 : getA es k with
    | none => rfl
    | some d =>
      have := getA_of_mem hn2 (h.mem_iff.mp (getA_mem hg2))
      rw [hg] at this
      cases this
end
end PW

/-! ##### PP -/
set_option Elab.async false
set_option linter.all false
set_option maxRecDepth 100000
set_option maxHeartbeats 2000000
namespace PW
open PySem PySem.Spec PyProof.Rows L2 He PWL

/-! ### paths, ropes -/
theorem take_map_succ {α β : Type} {l : List α} {f : α → β} {i : Nat} {x : α} (h : l[i]? = some x) : (l.take (i + 1)).map f = (l.take i).map f ++ [f x] := by
  rw [List.take_add_one, h]
  simp
theorem eqV_str (y x : Str) : eqV (.str y) (.str x) = decide (y = x) := by
  first | rfl | (unfold eqV; simp) | simp [eqV]
theorem inV_strs (z : Str) (l : List Str) : inV (.str z) (l.map .str) = decide (z ∈ l) := by
  unfold inV
  induction l with
  | nil => rfl
  | cons y l ih =>
    rw [List.map_cons, List.any_cons, ih, eqV_str, ← Bool.decide_or]
    refine decide_eq_decide.mpr ?_
    rw [List.mem_cons]
    exact ⟨fun h => h.elim (fun h => .inl h.symm) .inr, fun h => h.elim (fun h => .inl h.symm) .inr⟩
theorem flat_strs (l : List Str) : (l.map V.str).all flatV = true := by
  rw [List.all_eq_true]
  intro x hx
  obtain ⟨z, _, rfl⟩ := List.mem_map.mp hx
  rfl
theorem r_all {K : PySem.W.Frag} {H : Hp} {Q : VK} {a : Addr} {bs : List Bool} (hx : SqL K H a (bs.map V.bl)) (h : Q (.bl (bs.all id)) H) : rAll K [V.ref a] H Q := ⟨a, bs, rfl, hx, h⟩
theorem every2_map {α β : Type} (f : α → β) : ∀ l : List α, every2 (l.map f) = (every2 l).map f
  | [] => rfl
  | [x] => rfl
  | x :: y :: r => by simp only [List.map_cons, every2, every2_map f r]
def isDir (z : Str) : Bool := decide (z = "up") || decide (z = "down")
def pathOk (p pts : List Str) : Bool := decide (p.length % 2 = 1) && (decide (3 ≤ p.length) && (decide (p.length ≤ 23) && ((every2 p).all (fun z => decide (z ∈ pts)) && (every2 (p.drop 1)).all isDir)))
def spIsPath (K : PySem.W.Frag) : Sp := fun vs H Q _ => ∃ (v : V) (b : Addr) (pts : List Str), vs = [v, .ref b] ∧ SqL K H b (pts.map .str) ∧
  ((∃ a p, v = .ref a ∧ SqT K H a (p.map V.str) ∧ p.length ≤ 1000 ∧ ∀ H', Same H H' → Q (.bl (pathOk p pts)) H') ∨ ∃ a xs, v = .ref a ∧ SqL K H a xs ∧ ∀ H', Same H H' → Q (.bl false) H')
local macro_rules | `(tactic| walk_at "w") => `(tactic| (repeat (first | with_reducible refine w_seq ?_ | with_reducible refine w_ret ?_ | with_reducible refine w_asg ?_ | with_reducible refine w_ifs ?_ | with_reducible refine w_drop ?_ | with_reducible refine w_next ?_ | with_reducible refine w_cont ?_ | with_reducible refine w_par ?_ | with_reducible refine w_par3 ?_ | with_reducible refine w_three ?_ | with_reducible refine w_two ?_ | with_reducible refine w_name ?_ | with_reducible refine w_c ?_ | with_reducible refine w_op ?_ | with_reducible refine w_un ?_ | with_reducible refine w_cb ?_ | with_reducible refine w_cons ?_ | with_reducible refine w_nil ?_ | with_reducible refine w_tup ?_ | with_reducible refine w_lst ?_ | with_reducible refine w_test ?_ | with_reducible refine w_B ?_ | with_reducible refine w_k ?_ | with_reducible refine w_ki ?_ | with_reducible refine w_and ?_ | with_reducible refine w_or ?_ | with_reducible refine w_not ?_ | with_reducible refine w_andV ?_ | with_reducible refine w_orV ?_ | with_reducible refine w_notV ?_ | with_reducible refine w_if ?_ | with_reducible refine w_yes ?_ | with_reducible refine w_isN ?_ | with_reducible refine w_chain ?_ | with_reducible refine w_sl ?_ | with_reducible refine w_noPart ?_ | with_reducible refine w_part ?_ | with_reducible refine w_fld ?_ | with_reducible refine w_dget ?_ | with_reducible refine w_din ?_ | with_reducible refine w_dnotin ?_ | with_reducible refine w_dput ?_ | with_reducible refine w_newK ?_ | with_reducible refine w_sfld ?_ | with_reducible refine w_methR ?_ | with_reducible refine w_propR ?_ | with_reducible refine w_sl2 ?_ | with_reducible refine w_star ?_ | with_reducible refine w_retN ?_ | with_reducible refine w_gcons ?_ | with_reducible refine w_gnil ?_ | with_reducible refine r_i0 ?_ | with_reducible refine r_u ?_ | with_reducible refine r_eqi ?_ | with_reducible refine r_nei ?_ | with_reducible refine r_eqs ?_ | with_reducible refine r_nes ?_ | with_reducible refine iteT ?_ | with_reducible refine iteF ?_ | with_reducible refine w_lc ?_ | with_reducible refine w_dc ?_ | with_reducible refine w_for ?_ | with_reducible refine w_istr ?_ | with_reducible refine w_ilist ?_ | with_reducible refine w_itup ?_ | with_reducible refine w_irng1 ?_ | with_reducible refine w_irng2 ?_ | with_reducible refine w_ienum ?_ | with_reducible refine w_iitems ?_ | with_reducible refine w_ikeysT ?_ | with_reducible refine w_makeK ?_ | with_reducible refine w_methSN ?_ | with_reducible refine w_makeR ?_ | with_reducible refine w_callR ?_ | with_reducible refine w_dmerge ?_ | with_reducible refine w_ks ?_ | with_reducible refine w_kr ?_ | with_reducible refine isi_int_int ?_ | with_reducible refine isi_int_bool ?_ | with_reducible refine isi_str_str ?_ | with_reducible refine w_1i ?_ | with_reducible refine w_nn ?_ | with_reducible refine w_int_i ?_ | with_reducible refine w_int_b ?_ | ((with_reducible apply w_var); rfl) | ((with_reducible apply r_ixT); assumption; rfl) | ((with_reducible apply r_ixL); assumption; rfl) | ((with_reducible apply isi_tup_tup); assumption) | ((with_reducible apply isi_dict_dict); assumption) | ((with_reducible apply r_lenD); assumption) | ((with_reducible apply r_lenT); assumption) | ((with_reducible apply r_lenL); assumption) | ((with_reducible refine r_all (SqL.of ?_) ?_); assumption) | ((with_reducible apply r_fld); assumption; exact Cn.cls (by assumption) _; exact Cn.noat (by assumption) _ _; first | rfl | assumption) | ((with_reducible apply ite_t); rfl) | ((with_reducible apply ite_f); rfl))))
section
variable {P : Program} {w : World} {K : PySem.W.Frag} {mg : Str → Option Value} {base : Heap}
theorem F_is_path (C : Cn P K mg) : FnR P w K mg base (L2.CX P w) 1 (ga K "is_path") (spIsPath K) := by
  obtain ⟨fd, F⟩ := C.d_is_path
  have sc : FnScope ["value", "points", "word"] ["value", "points"] (defScope (top 31)) := ⟨rfl, rfl, rfl, by decide +kernel, rfl, by decide +kernel, by decide +kernel⟩
  refine fnR_nox F sc ?len (fun _ _ _ _ _ _ us hl => match us, hl with | [_, _], _ => rfl) ?body
  case len => exact fun vs H Q E h => by obtain ⟨_, _, _, rfl, _⟩ := h; rfl
  case body =>
    intro cdv A outer s H vs Q E hr h
    obtain ⟨v, b, pts, rfl, hP, h⟩ := h
    refine ⟨_, (pss_cons (ps_if (PW.pt (pw_or (pt_not (pt_val (pe_callB (call_isi : CallR _ _ (rIsi K)) (by rfl) (C.free "isinstance") b_isinstance (pa_cons (pv 0) (pa_cons (pe_bltn (by rfl) (C.free "tuple") b_tuple (v := .ty "tuple") rfl) pa_nil))))) (pw_or (pt_cmpR op_ne (pe_op op_modN (pe_callB (call_lenSq : CallR _ _ (rLenSq K)) (by rfl) (C.free "len") b_len (pa_cons (pv 0) pa_nil)) pe_int) pe_int (nomark _)) (pw_or1 (pt_not (pt_chain op_le op_le pe_int (pe_callB (call_lenSq : CallR _ _ (rLenSq K)) (by rfl) (C.free "len") b_len (pa_cons (pv 0) pa_nil)) (pe_op op_sub (pe_op op_mulW pe_int (pe_globI (x := "MAX_POINTS") (i := 12) C (by rfl) (by rfl))) pe_int))))))) (pss_one (ps_ret pe_bl)) pss_nil) (pss_cons (ps_if (pt_not (pt_val (pe_callB (cr_all rfl) (by rfl) (C.free "all") b_all (pa_cons (pe_lc (own := [("word", 2)]) rfl sc.nd (pi_tup (pv 0)) (blkOk_by (N := ["value", "points", "word"]) (sc := defScope (top 31)) (by decide +kernel)) (fun _ _ _ _ _ => (pg_name (i := 2) sc.nd rfl (Or.inl rfl))) (fun _ _ _ _ _ => pts_nil) (fun _ _ _ _ _ => (pe_callB (call_isi : CallR _ _ (rIsi K)) (by rfl) (C.free "isinstance") b_isinstance (pa_cons (pv 2) (pa_cons (pe_bltn (by rfl) (C.free "str") b_str (v := .ty "str") rfl) pa_nil))))) pa_nil)))) (pss_one (ps_ret pe_bl)) pss_nil) (pss_one (ps_ret (pe_and (pe_callB (cr_all rfl) (by rfl) (C.free "all") b_all (pa_cons (pe_lc (own := [("word", 2)]) rfl sc.nd (pi_tup (pe_sl2 (pv 0) po_none : PE _ _ (tSl2 K _ _))) (blkOk_by (N := ["value", "points", "word"]) (sc := defScope (top 31)) (by decide +kernel)) (fun _ _ _ _ _ => (pg_name (i := 2) sc.nd rfl (Or.inl rfl))) (fun _ _ _ _ _ => pts_nil) (fun _ _ _ _ _ => (pe_cmpR (op_in_seq : OpR _ _ (rIn K false)) (pv 2) (pv 1) (by rfl)))) pa_nil)) (pe_one (pe_callB (cr_all rfl) (by rfl) (C.free "all") b_all (pa_cons (pe_lc (own := [("word", 2)]) rfl sc.nd (pi_tup (pe_sl2 (pv 0) (po_some pe_int) : PE _ _ (tSl2 K _ _))) (blkOk_by (N := ["value", "points", "word"]) (sc := defScope (top 31)) (by decide +kernel)) (fun _ _ _ _ _ => (pg_name (i := 2) sc.nd rfl (Or.inl rfl))) (fun _ _ _ _ _ => pts_nil) (fun _ _ _ _ _ => (pe_cmpR (op_in_seq : OpR _ _ (rIn K false)) (pv 2) (pe_globR (x := "DIRECTIONS") C (by rfl) (by rfl)) (by rfl)))) pa_nil)))))))), ?_⟩
    rcases h with ⟨a, p, rfl, hS, hz, q⟩ | ⟨a, xs, rfl, hS, q⟩
    · walk_at "w"
      refine r_i (by decide) ?_
      walk_at "w"
      have hl : (List.map V.str p).length = p.length := List.length_map ..
      rw [hl]
      have hm : ((p.length : Nat) : Int).fmod 2 = ((p.length % 2 : Nat) : Int) := by
        rw [Int.fmod_eq_emod_of_nonneg _ (by decide)]
        rfl
      rw [hm]
      by_cases h1 : p.length % 2 = 1
      case neg =>
        refine ite_t (by rw [decide_eq_false (by omega)]; rfl) ?_
        walk_at "w"
        have e : pathOk p pts = false := by rw [pathOk, decide_eq_false h1]; rfl
        rw [e] at q
        exact q H (Same.refl _)
      refine ite_f (by rw [decide_eq_true (by omega)]; rfl) ?_
      walk_at "w"
      rw [hl]
      by_cases h2 : 3 ≤ p.length
      case neg =>
        refine ite_f (decide_eq_false (by omega)) ?_
        walk_at "w"
        have e : pathOk p pts = false := by rw [pathOk, decide_eq_false h2, Bool.false_and, Bool.and_false]
        rw [e] at q
        exact q H (Same.refl _)
      refine ite_t (decide_eq_true (by omega)) ?_
      walk_at "w"
      refine r_i (wide_mul (a := 64) (b := 64) (by decide) (by decide) (by decide) (by decide) (by decide)) ?_
      walk_at "w"
      by_cases h3 : p.length ≤ 23
      case neg =>
        refine ite_t (by rw [decide_eq_false (by omega)]; rfl) ?_
        walk_at "w"
        have e : pathOk p pts = false := by rw [pathOk, decide_eq_false h3, Bool.false_and, Bool.and_false, Bool.and_false]
        rw [e] at q
        exact q H (Same.refl _)
      refine ite_f (by rw [decide_eq_true (by omega)]; rfl) ?_
      walk_at "w"
      refine ⟨⟨_, hS⟩, ?_⟩
      intro D1 hD1
      refine lc_it walk_tup (PvA H D1 fun i => ((p.take i).map fun _ => V.bl true)) (pva_0 hD1 rfl) (fun i H1 _ pv => sqT_same pv.2.1 hS) (fun i x H1 H2 hi pv y => ?_) (fun H1 pv1 => ?_)
      · obtain ⟨rfl, hx⟩ := y
        rw [List.getElem?_map] at hx
        obtain ⟨c, hc, rfl⟩ := Option.map_eq_some_iff.mp hx
        walk_at "w"
        refine ⟨rfl, ?_⟩
        walk_at "w"
        refine pva_step pv (Same.refl _) (take_map_succ hc) ?_
        rw [List.length_map, List.length_take]
        omega
      have e1 : (p.take (p.map V.str).length).map (fun _ => V.bl true) = (p.map fun _ => true).map V.bl := by rw [List.length_map, List.take_length, List.map_map]; rfl
      refine w_nil ?_
      refine r_all (bs := p.map fun _ => true) (SqL.of (by rw [pv1.2.2]; exact congrArg (fun z => some (HO.lst z)) e1)) ?_
      have e2 : (p.map fun _ => true).all id = true := by rw [List.all_map]; simp
      rw [e2]
      walk_at "w"
      refine ⟨_, _, 0, rfl, sqT_same pv1.2.1 hS, Nat.zero_le _, .inl ⟨rfl, rfl⟩, fun t ht => ?_⟩
      walk_at "w"
      have hT : SqT K (upd H1 t (.tup (every2 (List.drop 0 (p.map V.str))))) t ((every2 p).map V.str) := by
        rw [List.drop_zero, every2_map]
        exact SqT.of upd_same
      have sT : Same H (upd H1 t (.tup (every2 (List.drop 0 (p.map V.str))))) := pv1.2.1.trans (same_upd_fresh ht (Same.refl _))
      refine ⟨⟨_, hT⟩, ?_⟩
      intro D2 hD2
      refine lc_it walk_tup (PvA _ D2 fun i => (((every2 p).take i).map fun z => V.bl (decide (z ∈ pts)))) (pva_0 hD2 rfl) (fun i H1 _ pv => sqT_same pv.2.1 hT) (fun i x H1 H2 hi pv y => ?_) (fun H2 pv2 => ?_)
      · obtain ⟨rfl, hx⟩ := y
        rw [List.getElem?_map] at hx
        obtain ⟨c, hc, rfl⟩ := Option.map_eq_some_iff.mp hx
        walk_at "w"
        refine ⟨rfl, ?_⟩
        walk_at "w"
        refine r_in (.inl (sqL_same (sT.trans pv.2.1) hP)) rfl (flat_strs _) ?_
        rw [inV_strs]
        refine pva_step pv (Same.refl _) (take_map_succ hc) ?_
        rw [List.length_map, List.length_take]
        have := every2_length p
        omega
      have e3 : ((every2 p).take ((every2 p).map V.str).length).map (fun z => V.bl (decide (z ∈ pts))) = ((every2 p).map fun z => decide (z ∈ pts)).map V.bl := by rw [List.length_map, List.take_length, List.map_map]; rfl
      refine w_nil ?_
      refine r_all (bs := (every2 p).map fun z => decide (z ∈ pts)) (SqL.of (by rw [pv2.2.2]; exact congrArg (fun z => some (HO.lst z)) e3)) ?_
      have e4 : ((every2 p).map fun z => decide (z ∈ pts)).all id = (every2 p).all fun z => decide (z ∈ pts) := by rw [List.all_map]; rfl
      rw [e4]
      refine w_k ?_
      have s2 : Same H H2 := sT.trans pv2.2.1
      cases h4 : (every2 p).all fun z => decide (z ∈ pts) with
      | false =>
        refine iteF ?_
        have e : pathOk p pts = false := by rw [pathOk, h4, Bool.false_and, Bool.and_false, Bool.and_false, Bool.and_false]
        rw [e] at q
        exact q H2 s2
      | true =>
        refine iteT ?_
        walk_at "w"
        refine ⟨_, _, 1, rfl, sqT_same s2 hS, by rw [hl]; omega, .inr rfl, fun t3 ht3 => ?_⟩
        walk_at "w"
        have hT3 : SqT K (upd H2 t3 (.tup (every2 (List.drop 1 (p.map V.str))))) t3 ((every2 (p.drop 1)).map V.str) := by
          rw [← List.map_drop, every2_map]
          exact SqT.of upd_same
        have sT3 : Same H (upd H2 t3 (.tup (every2 (List.drop 1 (p.map V.str))))) := s2.trans (same_upd_fresh ht3 (Same.refl _))
        refine ⟨⟨_, hT3⟩, ?_⟩
        intro D3 hD3
        refine lc_it walk_tup (PvA _ D3 fun i => (((every2 (p.drop 1)).take i).map fun z => V.bl (isDir z))) (pva_0 hD3 rfl) (fun i H1 _ pv => sqT_same pv.2.1 hT3) (fun i x H1 H2 hi pv y => ?_) (fun H3 pv3 => ?_)
        · obtain ⟨rfl, hx⟩ := y
          rw [List.getElem?_map] at hx
          obtain ⟨c, hc, rfl⟩ := Option.map_eq_some_iff.mp hx
          walk_at "w"
          refine ⟨rfl, ?_⟩
          walk_at "w"
          refine r_in (.inr (C.dirs _)) rfl rfl ?_
          have ed : inV (V.str c) [V.str "up", V.str "down"] = isDir c := by
            have := inV_strs c ["up", "down"]
            show inV (V.str c) (List.map V.str ["up", "down"]) = _
            rw [this, isDir, ← Bool.decide_or]
            exact decide_eq_decide.mpr (by simp)
          rw [ed]
          refine pva_step pv (Same.refl _) (take_map_succ hc) ?_
          rw [List.length_map, List.length_take]
          have := every2_length (p.drop 1)
          rw [List.length_drop] at this
          omega
        have e5 : ((every2 (p.drop 1)).take ((every2 (p.drop 1)).map V.str).length).map (fun z => V.bl (isDir z)) = ((every2 (p.drop 1)).map isDir).map V.bl := by rw [List.length_map, List.take_length, List.map_map]; rfl
        refine w_nil ?_
        refine r_all (bs := (every2 (p.drop 1)).map isDir) (SqL.of (by rw [pv3.2.2]; exact congrArg (fun z => some (HO.lst z)) e5)) ?_
        have e6 : ((every2 (p.drop 1)).map isDir).all id = (every2 (p.drop 1)).all isDir := by rw [List.all_map]; rfl
        rw [e6]
        have e : pathOk p pts = (every2 (p.drop 1)).all isDir := by rw [pathOk, h4, decide_eq_true h1, decide_eq_true h2, decide_eq_true h3]; simp only [Bool.true_and]
        rw [e] at q
        exact q H3 (sT3.trans pv3.2.1)
    · walk_at "w"
      refine isi_lst_tup hS ?_
      walk_at "w"
      exact q H (Same.refl _)
end
end PW

/-! ##### PH -/
set_option Elab.async false
set_option linter.all false
set_option maxRecDepth 100000
set_option maxHeartbeats 2000000
namespace PW
open PySem PySem.Spec PyProof.Rows L2 He PWL

/-! ### a rope; loads, anchors; ordered -/
inductive PVal where
  | tup (p : List Str)
  | lst (p : List Str)
def pvD : PVal → PyData
  | .tup p => pathD p
  | .lst p => .list (p.map .str)
def pvOk (x : PVal) (pts : List Str) : Bool := match x with
  | .tup p => pathOk p pts
  | .lst _ => false
def pvLen : PVal → Nat
  | .tup p => p.length
  | .lst p => p.length
theorem dp_pv_cases {K : PySem.W.Frag} {H : Hp} {v : V} {x : PVal} (h : Dp K H v (pvD x)) : (∃ a p, x = .tup p ∧ v = .ref a ∧ SqT K H a (p.map .str)) ∨ ∃ a p, x = .lst p ∧ v = .ref a ∧ SqL K H a (p.map .str) := by
  cases x with
  | tup p => obtain ⟨a, e, h1⟩ := dp_path_inv h; exact .inl ⟨a, p, rfl, e, h1⟩
  | lst p =>
    cases h with
    | lst hx ha => rw [strs_of_dpAll ha] at hx; exact .inr ⟨_, p, rfl, rfl, hx⟩
theorem np_pv (x : PVal) : np (pvD x) = true := by
  cases x with
  | tup p => exact np_path p
  | lst p =>
    rw [pvD, np, List.all_map]
    simp
def ldOk (f : Int × Int) : Bool := frOk f.1 f.2 && decide (0 ≤ f.1)
def frOk' (f : Int × Int) : Bool := frOk f.1 f.2
abbrev SMALL : Str := "abcdefghijklmnopqrstuvwxyz"
abbrev GREAT : Str := "ABCDEFGHIJKLMNOPQRSTUVWXYZ"
theorem word_len {z l : Str} (h : wordOk z l = true) : 1 ≤ z.length ∧ z.length ≤ 8 := by
  rw [wordOk, Bool.and_eq_true, Bool.and_eq_true] at h
  exact ⟨of_decide_eq_true h.1, of_decide_eq_true h.2.1⟩
def spIsRope (K : PySem.W.Frag) : Sp := fun vs H Q _ => ∃ (a b : Addr) (x y : V) (p : PVal) (f : Int × Int) (pts : List Str), vs = [.ref a, .ref b] ∧ SqT K H a [x, y] ∧ Dp K H x (pvD p) ∧ pvLen p ≤ 1000 ∧ Dp K H y (frD f) ∧ SqL K H b (pts.map .str) ∧
  ∀ H', Same H H' → Q (.bl (pvOk p pts && frOk' f)) H'
def spAreHooks (K : PySem.W.Frag) : Sp := fun vs H Q _ => ∃ (a : Addr) (es : List (Str × (Int × Int))), vs = [.ref a] ∧ DictE K H frD a es ∧ 1 ≤ es.length ∧ es.length ≤ 8 ∧ (∀ e ∈ es, wordOk e.1 SMALL = true ∧ ldOk e.2 = true) ∧ ∀ H', Same H H' → Q (.bl true) H'
def spAreAnchors (K : PySem.W.Frag) : Sp := fun vs H Q _ => ∃ (a : Addr) (es : List (Str × (Int × Int))), vs = [.ref a] ∧ DictE K H frD a es ∧ es.length ≤ 8 ∧ (∀ e ∈ es, wordOk e.1 GREAT = true ∧ frOk' e.2 = true) ∧ ∀ H', Same H H' → Q (.bl true) H'
def spOrdered : Sp := fun vs H Q _ => ∃ (a : Addr) (kvs : List (Key × V)) (ks : List Str), vs = [.ref a] ∧ H a = some (.dK kvs) ∧ kvs.map (·.1) = ks.map Sum.inr ∧ ks.Nodup ∧ ks.length < 64 ∧
  ∀ r kvs' ys H', H r = none → Same H H' → H' r = some (.dK kvs') → kvs'.Perm kvs → kvs'.map (·.1) = ys.map Sum.inr → sortedS ys = true → Q (.ref r) H'
theorem kvs_of_keys {kvs : List (Key × V)} {ks : List Str} (h : kvs.map (·.1) = ks.map Sum.inr) (hn : ks.Nodup) : kvs = ks.map fun n => ((Sum.inr n : Key), (valV kvs (.inr n)).getD .non) := by
  induction kvs generalizing ks with
  | nil =>
    cases ks with
    | nil => rfl
    | cons k ks => cases h
  | cons p r ih =>
    cases ks with
    | nil => cases h
    | cons k ks =>
      rw [List.map_cons, List.map_cons] at h
      injection h with h1 h2
      rw [List.nodup_cons] at hn
      rw [List.map_cons]
      have e1 : valV (p :: r) (.inr k) = some p.2 := valV_pos h1
      congr 1
      · rw [e1, ← h1]
        rfl
      · have := ih h2 hn.2
        refine this.trans (List.map_congr_left fun n hm => ?_)
        have hne : ¬ p.1 = (Sum.inr n : Key) := by
          rw [h1]
          intro e
          exact hn.1 (Sum.inr.inj e ▸ hm)
        rw [valV_neg hne]
local macro_rules | `(tactic| walk_at "w") => `(tactic| (repeat (first | with_reducible refine w_seq ?_ | with_reducible refine w_ret ?_ | with_reducible refine w_asg ?_ | with_reducible refine w_ifs ?_ | with_reducible refine w_drop ?_ | with_reducible refine w_next ?_ | with_reducible refine w_cont ?_ | with_reducible refine w_par ?_ | with_reducible refine w_par3 ?_ | with_reducible refine w_three ?_ | with_reducible refine w_two ?_ | with_reducible refine w_name ?_ | with_reducible refine w_c ?_ | with_reducible refine w_op ?_ | with_reducible refine w_un ?_ | with_reducible refine w_cb ?_ | with_reducible refine w_cons ?_ | with_reducible refine w_nil ?_ | with_reducible refine w_tup ?_ | with_reducible refine w_lst ?_ | with_reducible refine w_test ?_ | with_reducible refine w_B ?_ | with_reducible refine w_k ?_ | with_reducible refine w_ki ?_ | with_reducible refine w_and ?_ | with_reducible refine w_or ?_ | with_reducible refine w_not ?_ | with_reducible refine w_andV ?_ | with_reducible refine w_orV ?_ | with_reducible refine w_notV ?_ | with_reducible refine w_if ?_ | with_reducible refine w_yes ?_ | with_reducible refine w_isN ?_ | with_reducible refine w_chain ?_ | with_reducible refine w_sl ?_ | with_reducible refine w_noPart ?_ | with_reducible refine w_part ?_ | with_reducible refine w_fld ?_ | with_reducible refine w_dget ?_ | with_reducible refine w_din ?_ | with_reducible refine w_dnotin ?_ | with_reducible refine w_dput ?_ | with_reducible refine w_newK ?_ | with_reducible refine w_sfld ?_ | with_reducible refine w_methR ?_ | with_reducible refine w_propR ?_ | with_reducible refine w_sl2 ?_ | with_reducible refine w_star ?_ | with_reducible refine w_retN ?_ | with_reducible refine w_gcons ?_ | with_reducible refine w_gnil ?_ | with_reducible refine r_i0 ?_ | with_reducible refine r_u ?_ | with_reducible refine r_eqi ?_ | with_reducible refine r_nei ?_ | with_reducible refine r_eqs ?_ | with_reducible refine r_nes ?_ | with_reducible refine iteT ?_ | with_reducible refine iteF ?_ | with_reducible refine w_lc ?_ | with_reducible refine w_dc ?_ | with_reducible refine w_for ?_ | with_reducible refine w_istr ?_ | with_reducible refine w_ilist ?_ | with_reducible refine w_itup ?_ | with_reducible refine w_irng1 ?_ | with_reducible refine w_irng2 ?_ | with_reducible refine w_ienum ?_ | with_reducible refine w_iitems ?_ | with_reducible refine w_ikeysT ?_ | with_reducible refine w_makeK ?_ | with_reducible refine w_methSN ?_ | with_reducible refine w_makeR ?_ | with_reducible refine w_callR ?_ | with_reducible refine w_dmerge ?_ | with_reducible refine w_ks ?_ | with_reducible refine w_kr ?_ | with_reducible refine isi_int_int ?_ | with_reducible refine isi_int_bool ?_ | with_reducible refine isi_str_str ?_ | with_reducible refine w_1i ?_ | with_reducible refine w_nn ?_ | with_reducible refine w_int_i ?_ | with_reducible refine w_int_b ?_ | ((with_reducible apply w_var); rfl) | ((with_reducible apply r_ixT); assumption; rfl) | ((with_reducible apply r_ixL); assumption; rfl) | ((with_reducible apply isi_tup_tup); assumption) | ((with_reducible apply isi_dict_dict); assumption) | ((with_reducible apply r_lenD); assumption) | ((with_reducible apply r_lenT); assumption) | ((with_reducible apply r_lenL); assumption) | ((with_reducible refine r_all (SqL.of ?_) ?_); assumption) | ((with_reducible apply r_fld); assumption; exact Cn.cls (by assumption) _; exact Cn.noat (by assumption) _ _; first | rfl | assumption) | ((with_reducible apply ite_t); rfl) | ((with_reducible apply ite_f); rfl))))
section
variable {P : Program} {w : World} {K : PySem.W.Frag} {mg : Str → Option Value} {base : Heap}
theorem F_is_rope (C : Cn P K mg) : FnR P w K mg base (L2.CX P w) 3 (ga K "is_rope") (spIsRope K) := by
  obtain ⟨fd, F⟩ := C.d_is_rope
  have sc : FnScope ["value", "points"] ["value", "points"] (defScope (top 32)) := ⟨rfl, rfl, rfl, by decide +kernel, rfl, by decide +kernel, by decide +kernel⟩
  refine fnR_nox F sc ?len (fun _ _ _ _ _ _ us hl => match us, hl with | [_, _], _ => rfl) ?body
  case len => exact fun vs H Q E h => by obtain ⟨_, _, _, _, _, _, _, rfl, _⟩ := h; rfl
  case body =>
    intro cdv A outer s H vs Q E hr h
    obtain ⟨a, b, x, y, p, f, pts, rfl, hS, hx, hz, hy, hP, q⟩ := h
    have F_is_path := F_is_path (w := w) (base := base) C
    have F_is_fraction := F_is_fraction (w := w) (base := base) C
    refine ⟨_, (pss_cons (ps_if (PW.pt (pw_or (pt_not (pt_val (pe_callB (call_isi : CallR _ _ (rIsi K)) (by rfl) (C.free "isinstance") b_isinstance (pa_cons (pv 0) (pa_cons (pe_bltn (by rfl) (C.free "tuple") b_tuple (v := .ty "tuple") rfl) pa_nil))))) (pw_or1 (pt_cmpR op_ne (pe_callB (call_lenSq : CallR _ _ (rLenSq K)) (by rfl) (C.free "len") b_len (pa_cons (pv 0) pa_nil)) pe_int (nomark _))))) (pss_one (ps_ret pe_bl)) pss_nil) (pss_one (ps_ret (pe_and (pe_callR F_is_path (hr.mono (by decide)) (by rfl) (C.g "is_path") (C.keep "is_path") passL (pa_cons (pe_ix (ix_tup : IxR _ (rIxT K)) (pv 0) pe_int (fun _ _ => rfl)) (pa_cons (pv 1) pa_nil))) (pe_one (pe_callR F_is_fraction (hr.mono (by decide)) (by rfl) (C.g "is_fraction") (C.keep "is_fraction") passL (pa_cons (pe_ix (ix_tup : IxR _ (rIxT K)) (pv 0) pe_int (fun _ _ => rfl)) pa_nil))))))), ?_⟩
    walk_at "w"
    refine ⟨x, b, pts, rfl, hP, ?_⟩
    have rest : ∀ H', Same H H' → ∃ k, V.bl (pvOk p pts) = .bl k ∧ if k = true then (tOp (rIxT K) (tVar 0) (tC (V.int 1))) (L2.start ["value", "points"] [V.ref a, V.ref b]) H' (fun x H1 => tNil (L2.start ["value", "points"] [V.ref a, V.ref b]) H1 fun xs H2 => spIsFr K (x :: xs) H2 Q E0) else Q (.bl false) H' := by
      intro H' e
      have hS' := sqT_same e hS
      refine w_k ?_
      cases hb : pvOk p pts with
      | false =>
        refine iteF ?_
        rw [hb, Bool.false_and] at q
        exact q H' e
      | true =>
        refine iteT ?_
        rw [hb, Bool.true_and] at q
        obtain ⟨c, rfl, hc⟩ := dp_fr_inv (dp_kd (same_kd e) (np_fr f) hy)
        walk_at "w"
        exact u_isFr hc (q H' e)
    rcases dp_pv_cases hx with ⟨c, l, rfl, rfl, hl⟩ | ⟨c, l, rfl, rfl, hl⟩
    · exact .inl ⟨c, l, rfl, hl, hz, rest⟩
    · exact .inr ⟨c, _, rfl, hl, rest⟩
theorem F_are_hooks (C : Cn P K mg) : FnR P w K mg base (L2.CX P w) 4 (ga K "are_hooks") (spAreHooks K) := by
  obtain ⟨fd, F⟩ := C.d_are_hooks
  have sc : FnScope ["value", "name", "load"] ["value"] (defScope (top 29)) := ⟨rfl, rfl, rfl, by decide +kernel, rfl, by decide +kernel, by decide +kernel⟩
  refine fnR_nox F sc ?len (fun _ _ _ _ _ _ us hl => match us, hl with | [_], _ => rfl) ?body
  case len => exact fun vs H Q E h => by obtain ⟨_, _, rfl, _⟩ := h; rfl
  case body =>
    intro cdv A outer s H vs Q E hr h
    obtain ⟨a, es, rfl, ⟨kvs, hS, hd⟩, h1, h8, hok, q⟩ := h
    have F_is_name := F_is_name (w := w) (base := base) C
    have F_is_load := F_is_load (w := w) (base := base) C
    have hl : kvs.length = es.length := hd.length
    refine ⟨_, (pss_cons (ps_if (PW.pt (pw_or (pt_not (pt_val (pe_callB (call_isi : CallR _ _ (rIsi K)) (by rfl) (C.free "isinstance") b_isinstance (pa_cons (pv 0) (pa_cons (pe_bltn (by rfl) (C.free "dict") b_dict (v := .ty "dict") rfl) pa_nil))))) (pw_or1 (pt_not (pt_chain op_le op_le pe_int (pe_callB call_lenD (by rfl) (C.free "len") b_len (pa_cons (pv 0) pa_nil)) (pe_globI (x := "MAX_HOOKS") (i := 8) C (by rfl) (by rfl))))))) (pss_one (ps_ret pe_bl)) pss_nil) (pss_one (ps_ret (pe_callB (cr_all rfl) (by rfl) (C.free "all") b_all (pa_cons (pe_lock (pe_lc (own := [("name", 1), ("load", 2)]) rfl sc.nd (pi_items (pv 0)) (blkOk_by (N := ["value", "name", "load"]) (sc := defScope (top 29)) (by decide +kernel)) (fun _ _ _ _ _ => (pg_tup rfl (pgs_cons (pg_name (i := 1) sc.nd rfl (Or.inl rfl)) (pgs_cons (pg_name (i := 2) sc.nd rfl (Or.inl rfl)) pgs_nil)) : PG _ _ (gTup K 2 _))) (fun _ _ _ _ _ => pts_nil) (fun _ _ _ _ _ => (pe_and (pe_callR F_is_name (hr.mono (by decide)) (by rfl) (C.g "is_name") (C.keep "is_name") passL (pa_cons (pv 1) pa_nil)) (pe_one (pe_callR F_is_load (hr.mono (by decide)) (by rfl) (C.g "is_load") (C.keep "is_load") passL (pa_cons (pv 2) pa_nil))))))) pa_nil))))), ?_⟩
    walk_at "w"
    rw [hl]
    refine ite_t (decide_eq_true (by omega)) ?_
    walk_at "w"
    refine ite_f (by rw [decide_eq_true (by omega)]; rfl) ?_
    walk_at "w"
    refine w_lockE hS True.intro fun od => ?_
    walk_at "w"
    refine ⟨a, od, kvs, rfl, upd_same, fun D1 hD1 => ?_⟩
    have kd0 : Kd H (upd H a (.frz od (.dK kvs))) := kd_upd (by rw [hS]; exact True.intro)
    refine lc_it walk_items (PvA _ D1 fun i => ((es.take i).map fun _ => V.bl true)) (pva_0 hD1 rfl) (fun i H1 _ pv => pv.2.1 _ _ upd_same) (fun i x H1 H2 hi pv y => ?_) (fun H1 pv1 => ?_)
    · obtain ⟨T, x1, y1, rfl, hT, rfl, e1, e2⟩ := y
      have he : es[i]? = some (es[i]'(by omega)) := List.getElem?_eq_getElem _
      obtain ⟨v, hv, dv⟩ := hd.at_ he
      dsimp only at e1 e2
      rw [hv] at e1 e2
      cases e1
      cases e2
      have hmem := hok _ (List.getElem_mem (by omega : i < es.length))
      have kd1 : Kd H (upd H1 T (.tup [V.str (es[i]'(by omega)).1, v])) := (kd0.trans (same_kd pv.2.1)).trans (same_kd (same_upd_fresh hT (Same.refl _)))
      refine w_gtup (SqT.of upd_same) rfl ?_
      walk_at "w"
      refine ⟨rfl, ?_⟩
      walk_at "w"
      refine u_isName (by have := word_len hmem.1; omega) fun H3 s3 => ?_
      rw [hmem.1]
      walk_at "w"
      obtain ⟨c, rfl, hc⟩ := dp_fr_inv (dp_kd (kd1.trans (same_kd s3)) (np_fr _) dv)
      refine u_isLoad hc ?_
      have e3 : (frOk (es[i]'(by omega)).2.1 (es[i]'(by omega)).2.2 && decide (0 ≤ (es[i]'(by omega)).2.1)) = true := hmem.2
      rw [e3]
      refine pva_step pv ((same_upd_fresh hT (Same.refl _)).trans s3) (take_map_succ he) ?_
      rw [List.length_map, List.length_take]
      omega
    have e1 : (es.take kvs.length).map (fun _ => V.bl true) = (es.map fun _ => true).map V.bl := by rw [hl, List.take_length, List.map_map]; rfl
    obtain ⟨u1, u2⟩ := same_unlock hS True.intro pv1.2.1
    refine ⟨u1, ?_⟩
    refine w_nil ?_
    have hne : D1 ≠ a := ne_of pv1.2.2 u1 (fun z => nomatch z)
    refine r_all (bs := es.map fun _ => true) (SqL.of (by rw [upd_ne hne, pv1.2.2]; exact congrArg (fun z => some (HO.lst z)) e1)) ?_
    have e2 : (es.map fun _ => true).all id = true := by rw [List.all_map]; simp
    rw [e2]
    exact q _ u2
theorem F_are_anchors (C : Cn P K mg) : FnR P w K mg base (L2.CX P w) 4 (ga K "are_anchors") (spAreAnchors K) := by
  obtain ⟨fd, F⟩ := C.d_are_anchors
  have sc : FnScope ["value", "name", "height"] ["value"] (defScope (top 30)) := ⟨rfl, rfl, rfl, by decide +kernel, rfl, by decide +kernel, by decide +kernel⟩
  refine fnR_nox F sc ?len (fun _ _ _ _ _ _ us hl => match us, hl with | [_], _ => rfl) ?body
  case len => exact fun vs H Q E h => by obtain ⟨_, _, rfl, _⟩ := h; rfl
  case body =>
    intro cdv A outer s H vs Q E hr h
    obtain ⟨a, es, rfl, ⟨kvs, hS, hd⟩, h8, hok, q⟩ := h
    have F_is_word := F_is_word (w := w) (base := base) C
    have F_is_fraction := F_is_fraction (w := w) (base := base) C
    have hl : kvs.length = es.length := hd.length
    refine ⟨_, (pss_cons (ps_if (PW.pt (pw_or (pt_not (pt_val (pe_callB (call_isi : CallR _ _ (rIsi K)) (by rfl) (C.free "isinstance") b_isinstance (pa_cons (pv 0) (pa_cons (pe_bltn (by rfl) (C.free "dict") b_dict (v := .ty "dict") rfl) pa_nil))))) (pw_or1 (pt_cmpR op_gt (pe_callB call_lenD (by rfl) (C.free "len") b_len (pa_cons (pv 0) pa_nil)) (pe_globI (x := "MAX_ANCHORS") (i := 8) C (by rfl) (by rfl)) (nomark _))))) (pss_one (ps_ret pe_bl)) pss_nil) (pss_one (ps_ret (pe_callB (cr_all rfl) (by rfl) (C.free "all") b_all (pa_cons (pe_lock (pe_lc (own := [("name", 1), ("height", 2)]) rfl sc.nd (pi_items (pv 0)) (blkOk_by (N := ["value", "name", "height"]) (sc := defScope (top 30)) (by decide +kernel)) (fun _ _ _ _ _ => (pg_tup rfl (pgs_cons (pg_name (i := 1) sc.nd rfl (Or.inl rfl)) (pgs_cons (pg_name (i := 2) sc.nd rfl (Or.inl rfl)) pgs_nil)) : PG _ _ (gTup K 2 _))) (fun _ _ _ _ _ => pts_nil) (fun _ _ _ _ _ => (pe_and (pe_callR F_is_word (hr.mono (by decide)) (by rfl) (C.g "is_word") (C.keep "is_word") passL (pa_cons (pv 1) (pa_cons (pe_globS (x := "GREAT") (z := "ABCDEFGHIJKLMNOPQRSTUVWXYZ") C (by rfl) (by rfl)) pa_nil))) (pe_one (pe_callR F_is_fraction (hr.mono (by decide)) (by rfl) (C.g "is_fraction") (C.keep "is_fraction") passL (pa_cons (pv 2) pa_nil))))))) pa_nil))))), ?_⟩
    walk_at "w"
    rw [hl]
    refine ite_f (decide_eq_false (by omega)) ?_
    walk_at "w"
    refine w_lockE hS True.intro fun od => ?_
    walk_at "w"
    refine ⟨a, od, kvs, rfl, upd_same, fun D1 hD1 => ?_⟩
    have kd0 : Kd H (upd H a (.frz od (.dK kvs))) := kd_upd (by rw [hS]; exact True.intro)
    refine lc_it walk_items (PvA _ D1 fun i => ((es.take i).map fun _ => V.bl true)) (pva_0 hD1 rfl) (fun i H1 _ pv => pv.2.1 _ _ upd_same) (fun i x H1 H2 hi pv y => ?_) (fun H1 pv1 => ?_)
    · obtain ⟨T, x1, y1, rfl, hT, rfl, e1, e2⟩ := y
      have he : es[i]? = some (es[i]'(by omega)) := List.getElem?_eq_getElem _
      obtain ⟨v, hv, dv⟩ := hd.at_ he
      dsimp only at e1 e2
      rw [hv] at e1 e2
      cases e1
      cases e2
      have hmem := hok _ (List.getElem_mem (by omega : i < es.length))
      have kd1 : Kd H (upd H1 T (.tup [V.str (es[i]'(by omega)).1, v])) := (kd0.trans (same_kd pv.2.1)).trans (same_kd (same_upd_fresh hT (Same.refl _)))
      refine w_gtup (SqT.of upd_same) rfl ?_
      walk_at "w"
      refine ⟨rfl, ?_⟩
      walk_at "w"
      refine u_isWord (by have := word_len hmem.1; omega) fun H3 s3 => ?_
      rw [hmem.1]
      walk_at "w"
      obtain ⟨c, rfl, hc⟩ := dp_fr_inv (dp_kd (kd1.trans (same_kd s3)) (np_fr _) dv)
      refine u_isFr hc ?_
      have e3 : frOk (es[i]'(by omega)).2.1 (es[i]'(by omega)).2.2 = true := hmem.2
      rw [e3]
      refine pva_step pv ((same_upd_fresh hT (Same.refl _)).trans s3) (take_map_succ he) ?_
      rw [List.length_map, List.length_take]
      omega
    have e1 : (es.take kvs.length).map (fun _ => V.bl true) = (es.map fun _ => true).map V.bl := by rw [hl, List.take_length, List.map_map]; rfl
    obtain ⟨u1, u2⟩ := same_unlock hS True.intro pv1.2.1
    refine ⟨u1, ?_⟩
    refine w_nil ?_
    have hne : D1 ≠ a := ne_of pv1.2.2 u1 (fun z => nomatch z)
    refine r_all (bs := es.map fun _ => true) (SqL.of (by rw [upd_ne hne, pv1.2.2]; exact congrArg (fun z => some (HO.lst z)) e1)) ?_
    have e2 : (es.map fun _ => true).all id = true := by rw [List.all_map]; simp
    rw [e2]
    exact q _ u2
theorem F_ordered (C : Cn P K mg) : FnR P w K mg base (L2.CX P w) 1 (ga K "ordered") spOrdered := by
  obtain ⟨fd, F⟩ := C.d_ordered
  have sc : FnScope ["parts", "name"] ["parts"] (defScope (top 33)) := ⟨rfl, rfl, rfl, by decide +kernel, rfl, by decide +kernel, by decide +kernel⟩
  refine fnR_nox F sc ?len (fun _ _ _ _ _ _ us hl => match us, hl with | [_], _ => rfl) ?body
  case len => exact fun vs H Q E h => by obtain ⟨_, _, _, rfl, _⟩ := h; rfl
  case body =>
    intro cdv A outer s H vs Q E hr h
    obtain ⟨a, kvs, ks, rfl, hS, hk, hn, hz, q⟩ := h
    refine ⟨_, (pss_one (ps_ret (pe_dc (own := [("name", 1)]) rfl sc.nd (pi_list (pe_callB (call_sortedD rfl) (by rfl) (C.free "sorted") b_sorted (pa_cons (pv 0) pa_nil))) (blkOk_by (N := ["parts", "name"]) (sc := defScope (top 33)) (by decide +kernel)) (fun _ _ _ _ _ => (pg_name (i := 1) sc.nd rfl (Or.inl rfl))) (fun _ _ _ _ _ => pts_nil) (fun _ _ _ _ _ => (pv 1)) (fun _ _ _ _ _ => (pe_dget (hu_of hr) (pv 0) (pv 1) (fun _ _ => rfl))) (fun _ => rfl)))), ?_⟩
    walk_at "w"
    refine ⟨a, kvs, ks, rfl, .inl hS, hk, hz, fun ys p hp hs hf => ?_⟩
    walk_at "w"
    refine ⟨⟨_, SqL.of upd_same⟩, fun D1 hD1 => ?_⟩
    have hall : ∀ n ∈ ys, ∃ v, valV kvs (.inr n) = some v := by
      intro n hm
      have h1 : n ∈ ks := hp.mem_iff.mp hm
      have h2 : (Sum.inr n : Key) ∈ kvs.map (·.1) := by rw [hk]; exact List.mem_map.mpr ⟨n, h1, rfl⟩
      have h3 := valV_any (Sum.inr n : Key) kvs
      have h4 : (kvs.any fun kv => decide (kv.1 = (Sum.inr n : Key))) = true := by
        obtain ⟨e, he, e2⟩ := List.mem_map.mp h2
        exact List.any_eq_true.mpr ⟨e, he, decide_eq_true e2⟩
      rw [h4] at h3
      exact Option.isSome_iff_exists.mp h3.symm
    have hny : ys.Nodup := hp.nodup_iff.mpr hn
    have hly : ys.length = ks.length := hp.length_eq
    refine dc_it walk_list (PvD _ D1 fun i => ((ys.take i).map fun n => ((Sum.inr n : Key), (valV kvs (.inr n)).getD .non))) (pvd_0 hD1 rfl) (fun i H1 _ pv => SqL.of (pv.2.1 _ _ upd_same)) (fun i x H1 H2 hi pv y => ?_) (fun H1 pv1 => ?_)
    · obtain ⟨rfl, hx⟩ := y
      rw [List.getElem?_map] at hx
      obtain ⟨n, hc, rfl⟩ := Option.map_eq_some_iff.mp hx
      obtain ⟨v, hv⟩ := hall n (List.mem_of_getElem? hc)
      walk_at "w"
      refine ⟨rfl, ?_⟩
      walk_at "w"
      have ha : H2 a = some (.dK kvs) := pv.2.1 _ _ (by rw [upd_ne (ne_of_none hS hf)]; exact hS)
      refine r_dgetS (.inl ha) hv ?_
      refine pvd_step (k := .inr n) pv (Same.refl _) rfl ?_ ?_
      · rw [take_map_succ hc, hv]
        refine (putK_new _ ?_).symm
        have hnot : n ∉ ys.take i := by
          intro hm
          obtain ⟨j, hj, hj2⟩ := List.mem_iff_getElem.mp hm
          have hj3 : j < i := by rw [List.length_take] at hj; omega
          have h5 : ys[j]? = some n := by
            rw [List.getElem_take] at hj2
            rw [← hj2]
            exact List.getElem?_eq_getElem _
          have := (List.getElem?_inj (by rw [List.length_take] at hj; omega : j < ys.length) hny).mp (h5.trans hc.symm)
          omega
        have h6 := valV_any (Sum.inr n : Key) ((ys.take i).map fun n => ((Sum.inr n : Key), (valV kvs (.inr n)).getD .non))
        have h7 : (((ys.take i).map fun n => ((Sum.inr n : Key), (valV kvs (.inr n)).getD .non)).any fun kv => decide (kv.1 = (Sum.inr n : Key))) = false := by
          rw [List.any_map, List.any_eq_false]
          intro z hz2 hz3
          have : z = n := by simpa using hz3
          exact hnot (this ▸ hz2)
        rw [h7] at h6
        cases h8 : valV ((ys.take i).map fun n => ((Sum.inr n : Key), (valV kvs (.inr n)).getD .non)) (Sum.inr n : Key) with
        | none => rfl
        | some z => rw [h8] at h6; cases h6
      · rw [List.length_map, List.length_take]
        omega
    have e1 : ys.take (ys.map V.str).length = ys := by rw [List.length_map, List.take_length]
    refine q D1 (ys.map fun n => ((Sum.inr n : Key), (valV kvs (.inr n)).getD .non)) ys H1 ?_ ?_ ?_ ?_ ?_ hs
    · have := (Same.free (same_upd_fresh hf (Same.refl H)) hD1)
      exact this
    · exact (same_upd_fresh hf (Same.refl H)).trans pv1.2.1
    · rw [pv1.2.2]
      exact congrArg (fun z => some (HO.dK (z.map fun n => ((Sum.inr n : Key), (valV kvs (.inr n)).getD .non)))) e1
    · have := kvs_of_keys hk hn
      rw [this]
      have e2 : ∀ n, valV (ks.map fun n => ((Sum.inr n : Key), (valV kvs (.inr n)).getD .non)) (.inr n) = valV kvs (.inr n) := fun n => by rw [← this]
      simp only [e2]
      exact hp.map _
    · rw [List.map_map]
      rfl
end
end PW

/-! ##### PK -/
set_option Elab.async false
set_option linter.all false
set_option maxRecDepth 100000
set_option maxHeartbeats 2000000
namespace PW
open PySem PySem.Spec PyProof.Rows L2 He PWL

/-! ### checks -/
def exX (K : PySem.W.Frag) (E : XK) (H : Hp) (x fld : Str) (v : V) : Prop := ∀ d, H d = none → E (.ref (ga K x)) (some d) (upd H d (.xd [(fld, v)]))
def spKnown (K : PySem.W.Frag) : Sp := fun vs H Q E => ∃ (z : Str) (a : Addr) (kvs : List (Key × V)), vs = [.str z, .ref a] ∧ Rd H a (.dK kvs) ∧ (if (valV kvs (.inr z)).isSome = true then Q .non H else exX K E H "UnknownName" "name" (.str z))
def spSize (K : PySem.W.Frag) : Sp := fun vs H Q E => ∃ (n m : Int), vs = [.int n, .int m] ∧ (if n ≤ m then Q .non H else exX K E H "LimitExceeded" "count" (.int n))
local macro_rules | `(tactic| walk_at "w") => `(tactic| (repeat (first | with_reducible refine w_seq ?_ | with_reducible refine w_ret ?_ | with_reducible refine w_asg ?_ | with_reducible refine w_ifs ?_ | with_reducible refine w_drop ?_ | with_reducible refine w_next ?_ | with_reducible refine w_cont ?_ | with_reducible refine w_par ?_ | with_reducible refine w_par3 ?_ | with_reducible refine w_three ?_ | with_reducible refine w_two ?_ | with_reducible refine w_name ?_ | with_reducible refine w_c ?_ | with_reducible refine w_op ?_ | with_reducible refine w_un ?_ | with_reducible refine w_cb ?_ | with_reducible refine w_cons ?_ | with_reducible refine w_nil ?_ | with_reducible refine w_tup ?_ | with_reducible refine w_lst ?_ | with_reducible refine w_test ?_ | with_reducible refine w_B ?_ | with_reducible refine w_k ?_ | with_reducible refine w_ki ?_ | with_reducible refine w_and ?_ | with_reducible refine w_or ?_ | with_reducible refine w_not ?_ | with_reducible refine w_andV ?_ | with_reducible refine w_orV ?_ | with_reducible refine w_notV ?_ | with_reducible refine w_if ?_ | with_reducible refine w_yes ?_ | with_reducible refine w_isN ?_ | with_reducible refine w_chain ?_ | with_reducible refine w_sl ?_ | with_reducible refine w_noPart ?_ | with_reducible refine w_part ?_ | with_reducible refine w_fld ?_ | with_reducible refine w_dget ?_ | with_reducible refine w_din ?_ | with_reducible refine w_dnotin ?_ | with_reducible refine w_dput ?_ | with_reducible refine w_newK ?_ | with_reducible refine w_sfld ?_ | with_reducible refine w_methR ?_ | with_reducible refine w_propR ?_ | with_reducible refine w_sl2 ?_ | with_reducible refine w_star ?_ | with_reducible refine w_retN ?_ | with_reducible refine w_gcons ?_ | with_reducible refine w_gnil ?_ | with_reducible refine r_i0 ?_ | with_reducible refine r_u ?_ | with_reducible refine r_eqi ?_ | with_reducible refine r_nei ?_ | with_reducible refine r_eqs ?_ | with_reducible refine r_nes ?_ | with_reducible refine iteT ?_ | with_reducible refine iteF ?_ | with_reducible refine w_lc ?_ | with_reducible refine w_dc ?_ | with_reducible refine w_for ?_ | with_reducible refine w_istr ?_ | with_reducible refine w_ilist ?_ | with_reducible refine w_itup ?_ | with_reducible refine w_irng1 ?_ | with_reducible refine w_irng2 ?_ | with_reducible refine w_ienum ?_ | with_reducible refine w_iitems ?_ | with_reducible refine w_ikeysT ?_ | with_reducible refine w_makeK ?_ | with_reducible refine w_methSN ?_ | with_reducible refine w_makeR ?_ | with_reducible refine w_callR ?_ | with_reducible refine w_dmerge ?_ | with_reducible refine w_ks ?_ | with_reducible refine w_kr ?_ | with_reducible refine isi_int_int ?_ | with_reducible refine isi_int_bool ?_ | with_reducible refine isi_str_str ?_ | with_reducible refine w_1i ?_ | with_reducible refine w_nn ?_ | with_reducible refine w_int_i ?_ | with_reducible refine w_int_b ?_ | ((with_reducible apply w_var); rfl) | ((with_reducible apply r_ixT); assumption; rfl) | ((with_reducible apply r_ixL); assumption; rfl) | ((with_reducible apply isi_tup_tup); assumption) | ((with_reducible apply isi_dict_dict); assumption) | ((with_reducible apply r_lenD); assumption) | ((with_reducible apply r_lenT); assumption) | ((with_reducible apply r_lenL); assumption) | ((with_reducible refine r_all (SqL.of ?_) ?_); assumption) | ((with_reducible apply r_fld); assumption; exact Cn.cls (by assumption) _; exact Cn.noat (by assumption) _ _; first | rfl | assumption) | ((with_reducible apply ite_t); rfl) | ((with_reducible apply ite_f); rfl))))
section
variable {P : Program} {w : World} {K : PySem.W.Frag} {mg : Str → Option Value} {base : Heap}
theorem w_raiseX {C : Addr} {fld : Str} {W : WX} {ta : TA} {D : Ends} {σ : L2.St} {H : Hp} (h : ta σ H fun vs H1 => ∃ v, vs = [v] ∧ ∀ d, H1 d = none → W (.ref C) (some d) σ (upd H1 d (.xd [(fld, v)]))) : tRaiseX C fld W ta D σ H := h
theorem w_one {v : V} {PP : V → Prop} (h : PP v) : ∃ v', [v] = [v'] ∧ PP v' := ⟨v, rfl, h⟩
theorem F_check_known (C : Cn P K mg) : FnR P w K mg base (L2.CX P w) 1 (ga K "check_known") (spKnown K) := by
  obtain ⟨fd, F⟩ := C.d_check_known
  have sc : FnScope ["name", "names"] ["name", "names"] (defScope (top 34)) := ⟨rfl, rfl, rfl, by decide +kernel, rfl, by decide +kernel, by decide +kernel⟩
  refine fnR_of F sc ?len (fun _ _ _ _ _ _ us hl => match us, hl with | [_, _], _ => rfl) ?body
  case len => exact fun vs H Q E h => by obtain ⟨_, _, _, rfl, _⟩ := h; rfl
  case body =>
    intro cdv A outer s H vs Q E hr h
    obtain ⟨z, a, kvs, rfl, hS, q⟩ := h
    refine ⟨_, (pss_one (ps_if (PW.pt (pw_or (pt_not (pt_val (pe_callB (call_isi : CallR _ _ (rIsi K)) (by rfl) (C.free "isinstance") b_isinstance (pa_cons (pv 0) (pa_cons (pe_bltn (by rfl) (C.free "str") b_str (v := .ty "str") rfl) pa_nil))))) (pw_or1 (pt_cmp (pc_dnotin (hu_of hr) (pv 0) (pv 1)))))) (pss_one (ps_raiseX rfl C.x_UnknownName hr (takes_of rfl rfl rfl rfl) (pa_cons (pv 0) pa_nil))) pss_nil)), ?_⟩
    walk_at "w"
    refine ⟨a, _, rfl, .inl ⟨kvs, .inr z, hS, rfl, rfl⟩, ?_⟩
    walk_at "w"
    cases hb : (valV kvs (.inr z)).isSome with
    | true =>
      rw [hb] at q
      refine ite_f rfl ?_
      walk_at "w"
      exact q
    | false =>
      rw [hb] at q
      refine ite_t rfl ?_
      walk_at "w"
      refine w_raiseX ?_
      walk_at "w"
      exact w_one q
theorem F_check_size (C : Cn P K mg) : FnR P w K mg base (L2.CX P w) 1 (ga K "check_size") (spSize K) := by
  obtain ⟨fd, F⟩ := C.d_check_size
  have sc : FnScope ["count", "most"] ["count", "most"] (defScope (top 35)) := ⟨rfl, rfl, rfl, by decide +kernel, rfl, by decide +kernel, by decide +kernel⟩
  refine fnR_of F sc ?len (fun _ _ _ _ _ _ us hl => match us, hl with | [_, _], _ => rfl) ?body
  case len => exact fun vs H Q E h => by obtain ⟨_, _, rfl, _⟩ := h; rfl
  case body =>
    intro cdv A outer s H vs Q E hr h
    obtain ⟨n, m, rfl, q⟩ := h
    refine ⟨_, (pss_one (ps_if (pt_cmpR op_gt (pv 0) (pv 1) (nomark _)) (pss_one (ps_raiseX rfl C.x_LimitExceeded hr (takes_of rfl rfl rfl rfl) (pa_cons (pv 0) pa_nil))) pss_nil)), ?_⟩
    walk_at "w"
    by_cases hc : n ≤ m
    · rw [if_pos hc] at q
      refine ite_f (decide_eq_false (by omega)) ?_
      walk_at "w"
      exact q
    · rw [if_neg hc] at q
      refine ite_t (decide_eq_true (by omega)) ?_
      walk_at "w"
      refine w_raiseX ?_
      walk_at "w"
      exact w_one q
def spWorkIs (K : PySem.W.Frag) : Sp := fun vs H Q _ => ∃ (a dx : Addr) (fs : List (Str × V)), vs = [.ref a] ∧ H a = some (.ins (ga K "Work") dx fs) ∧ Q .non H
theorem F_check_work (C : Cn P K mg) : FnR P w K mg base (L2.CX P w) 1 (ga K "check_work") (spWorkIs K) := by
  obtain ⟨fd, F⟩ := C.d_check_work
  have sc : FnScope ["value"] ["value"] (defScope (top 38)) := ⟨rfl, rfl, rfl, by decide +kernel, rfl, by decide +kernel, by decide +kernel⟩
  refine fnR_nox F sc ?len (fun _ _ _ _ _ _ us hl => match us, hl with | [_], _ => rfl) ?body
  case len => exact fun vs H Q E h => by obtain ⟨_, _, _, rfl, _⟩ := h; rfl
  case body =>
    intro cdv A outer s H vs Q E hr h
    obtain ⟨a, dx, fs, rfl, hS, q⟩ := h
    refine ⟨_, (pss_one (ps_if (pt_not (pt_val (pe_callB (C8.call_isC (C.isC "Work")) (by rfl) (C.free "isinstance") b_isinstance (pa_cons (pv 0) (pa_cons (pe_globR (x := "Work") C (by rfl) (by rfl)) pa_nil))))) (pss_one ps_never) pss_nil)), ?_⟩
    walk_at "w"
    refine ⟨a, dx, fs, rfl, hS, ?_⟩
    walk_at "w"
    exact q
end
end PW

/-! ##### WK -/
set_option Elab.async false
set_option linter.all false
set_option maxRecDepth 100000
set_option maxHeartbeats 2000000
namespace PW
open PySem PySem.Spec PyProof.Rows L2 He PWL

/-! ### works -/
def wkFs (l h r : Addr) : List (Str × V) := [("own_loads", .ref l), ("own_heights", .ref h), ("own_ropes", .ref r)]
structure Giv where
  loads : List (Str × (Int × Int))
  ropes : List (Str × Rope)
  fixed : List (Str × (Int × Int))
def Giv.pts (g : Giv) : List Str := g.loads.map (·.1) ++ g.fixed.map (·.1)
structure GOk (g : Giv) : Prop where
  l1 : 1 ≤ g.loads.length
  l8 : g.loads.length ≤ 8
  ln : (g.loads.map (·.1)).Nodup
  lw : ∀ e ∈ g.loads, wordOk e.1 SMALL = true ∧ ldOk e.2 = true
  f8 : g.fixed.length ≤ 8
  fn : (g.fixed.map (·.1)).Nodup
  fw : ∀ e ∈ g.fixed, wordOk e.1 GREAT = true ∧ frOk' e.2 = true
  r10 : g.ropes.length ≤ 10
  rn : (g.ropes.map (·.1)).Nodup
  rw_ : ∀ e ∈ g.ropes, wordOk e.1 SMALL = true ∧ pathOk e.2.1 g.pts = true ∧ frOk' e.2.2 = true
/-- a Work object with the parts of g, in any order -/
def WorkAt (K : PySem.W.Frag) (H : Hp) (v : V) (g : Giv) : Prop := ∃ a dx l h r ls hs rs, v = .ref a ∧ H a = some (.ins (ga K "Work") dx (wkFs l h r)) ∧ DictE K H frD l ls ∧ ls.Perm g.loads ∧ DictE K H frD h hs ∧ hs.Perm g.fixed ∧ DictE K H ropeD r rs ∧ rs.Perm g.ropes
theorem WorkAt.same {K : PySem.W.Frag} {H H' : Hp} {v : V} {g : Giv} (e : Same H H') (h : WorkAt K H v g) : WorkAt K H' v g := by
  obtain ⟨a, dx, l, hh, r, ls, hs, rs, h1, h2, h3, h4, h5, h6, h7, h8⟩ := h
  exact ⟨a, dx, l, hh, r, ls, hs, rs, h1, e _ _ h2, h3.same e np_fr, h4, h5.same e np_fr, h6, h7.same e np_rope, h8⟩
theorem pathOk_congr {p a b : List Str} (h : ∀ z, z ∈ a ↔ z ∈ b) : pathOk p a = pathOk p b := by
  have e : (fun z => decide (z ∈ a)) = fun z => decide (z ∈ b) := funext fun z => decide_eq_decide.mpr (h z)
  rw [pathOk, pathOk, e]
def spPoints (K : PySem.W.Frag) : Sp := fun vs H Q _ => ∃ (a dx l h : Addr) (fs : List (Str × V)) (kl kh : List (Key × V)) (nl nh : List Str), vs = [.ref a] ∧ H a = some (.ins (ga K "Work") dx fs) ∧ fs.lookup ("own_loads" : Str) = some (V.ref l) ∧ fs.lookup ("own_heights" : Str) = some (V.ref h) ∧
  H l = some (.dK kl) ∧ kl.map (·.1) = nl.map Sum.inr ∧ H h = some (.dK kh) ∧ kh.map (·.1) = nh.map Sum.inr ∧ nl.length + nh.length ≤ 1000 ∧ ∀ p H', H p = none → Same H H' → H' p = some (.lst ((nl ++ nh).map V.str)) → Q (.ref p) H'
theorem keys_map {kl : List (Key × V)} {nl : List Str} (h : kl.map (·.1) = nl.map Sum.inr) : (kl.map fun kv => kV kv.1) = nl.map V.str := by
  have := congrArg (List.map kV) h
  rw [List.map_map, List.map_map] at this
  exact this
local macro_rules | `(tactic| walk_at "w") => `(tactic| (repeat (first | with_reducible refine w_seq ?_ | with_reducible refine w_ret ?_ | with_reducible refine w_asg ?_ | with_reducible refine w_ifs ?_ | with_reducible refine w_drop ?_ | with_reducible refine w_next ?_ | with_reducible refine w_cont ?_ | with_reducible refine w_par ?_ | with_reducible refine w_par3 ?_ | with_reducible refine w_three ?_ | with_reducible refine w_two ?_ | with_reducible refine w_name ?_ | with_reducible refine w_c ?_ | with_reducible refine w_op ?_ | with_reducible refine w_un ?_ | with_reducible refine w_cb ?_ | with_reducible refine w_cons ?_ | with_reducible refine w_nil ?_ | with_reducible refine w_tup ?_ | with_reducible refine w_lst ?_ | with_reducible refine w_test ?_ | with_reducible refine w_B ?_ | with_reducible refine w_k ?_ | with_reducible refine w_ki ?_ | with_reducible refine w_and ?_ | with_reducible refine w_or ?_ | with_reducible refine w_not ?_ | with_reducible refine w_andV ?_ | with_reducible refine w_orV ?_ | with_reducible refine w_notV ?_ | with_reducible refine w_if ?_ | with_reducible refine w_yes ?_ | with_reducible refine w_isN ?_ | with_reducible refine w_chain ?_ | with_reducible refine w_sl ?_ | with_reducible refine w_noPart ?_ | with_reducible refine w_part ?_ | with_reducible refine w_fld ?_ | with_reducible refine w_dget ?_ | with_reducible refine w_din ?_ | with_reducible refine w_dnotin ?_ | with_reducible refine w_dput ?_ | with_reducible refine w_newK ?_ | with_reducible refine w_sfld ?_ | with_reducible refine w_methR ?_ | with_reducible refine w_propR ?_ | with_reducible refine w_sl2 ?_ | with_reducible refine w_star ?_ | with_reducible refine w_retN ?_ | with_reducible refine w_gcons ?_ | with_reducible refine w_gnil ?_ | with_reducible refine r_i0 ?_ | with_reducible refine r_u ?_ | with_reducible refine r_eqi ?_ | with_reducible refine r_nei ?_ | with_reducible refine r_eqs ?_ | with_reducible refine r_nes ?_ | with_reducible refine iteT ?_ | with_reducible refine iteF ?_ | with_reducible refine w_lc ?_ | with_reducible refine w_dc ?_ | with_reducible refine w_for ?_ | with_reducible refine w_istr ?_ | with_reducible refine w_ilist ?_ | with_reducible refine w_itup ?_ | with_reducible refine w_irng1 ?_ | with_reducible refine w_irng2 ?_ | with_reducible refine w_ienum ?_ | with_reducible refine w_iitems ?_ | with_reducible refine w_ikeysT ?_ | with_reducible refine w_makeK ?_ | with_reducible refine w_methSN ?_ | with_reducible refine w_makeR ?_ | with_reducible refine w_callR ?_ | with_reducible refine w_dmerge ?_ | with_reducible refine w_ks ?_ | with_reducible refine w_kr ?_ | with_reducible refine isi_int_int ?_ | with_reducible refine isi_int_bool ?_ | with_reducible refine isi_str_str ?_ | with_reducible refine w_1i ?_ | with_reducible refine w_nn ?_ | with_reducible refine w_int_i ?_ | with_reducible refine w_int_b ?_ | ((with_reducible apply w_var); rfl) | ((with_reducible apply r_ixT); assumption; rfl) | ((with_reducible apply r_ixL); assumption; rfl) | ((with_reducible apply isi_tup_tup); assumption) | ((with_reducible apply isi_dict_dict); assumption) | ((with_reducible apply r_lenD); assumption) | ((with_reducible apply r_lenT); assumption) | ((with_reducible apply r_lenL); assumption) | ((with_reducible refine r_all (SqL.of ?_) ?_); assumption) | ((with_reducible apply r_fld); assumption; exact Cn.cls (by assumption) _; exact Cn.noat (by assumption) _ _; first | rfl | assumption) | ((with_reducible apply ite_t); rfl) | ((with_reducible apply ite_f); rfl))))
section
variable {P : Program} {w : World} {K : PySem.W.Frag} {mg : Str → Option Value} {base : Heap}
theorem F_Work_points (C : Cn P K mg) : FnR P w K mg base (L2.CX P w) 1 (ma K (ga K "Work") "points") (spPoints K) := by
  obtain ⟨fd, F⟩ := C.d_Work_points
  have sc : FnScope ["self"] ["self"] (defScope (inClass (top 37) 4)) := ⟨rfl, rfl, rfl, by decide +kernel, rfl, by decide +kernel, by decide +kernel⟩
  refine fnR_nox F sc ?len (fun _ _ _ _ _ _ us hl => match us, hl with | [_], _ => rfl) ?body
  case len => exact fun vs H Q E h => by obtain ⟨_, _, _, _, _, _, _, _, _, rfl, _⟩ := h; rfl
  case body =>
    intro cdv A outer s H vs Q E hr h
    obtain ⟨a, dx, l, h, fs, kl, kh, nl, nh, rfl, ha, hl, hh, h1, k1, h2, k2, hz, q⟩ := h
    refine ⟨_, (pss_one (ps_ret (pe_op op_cat (pe_callTy (call_listD rfl) (by rfl) (C.free "list") b_list (pa_cons (pe_fld (pv 0) rfl : PE _ _ (tFld K _ _)) pa_nil)) (pe_callTy (call_listD rfl) (by rfl) (C.free "list") b_list (pa_cons (pe_fld (pv 0) rfl : PE _ _ (tFld K _ _)) pa_nil))))), ?_⟩
    walk_at "w"
    refine ⟨l, kl, rfl, .inl h1, fun p1 f1 => ?_⟩
    rw [keys_map k1]
    walk_at "w"
    have s1 : Same H (upd H p1 (.lst (nl.map V.str))) := same_upd_fresh f1 (Same.refl _)
    refine r_fld (s1 _ _ ha) (C.cls _) (C.noat _ _) hh ?_
    walk_at "w"
    refine ⟨h, kh, rfl, .inl (s1 _ _ h2), fun p2 f2 => ?_⟩
    rw [keys_map k2]
    walk_at "w"
    refine r_cat (xs := nl.map V.str) (zs := nh.map V.str) (same_upd_fresh f2 (Same.refl _) _ _ upd_same) upd_same (by rw [List.length_map, List.length_map]; omega) fun p f => ?_
    have s2 := s1.trans (same_upd_fresh (o := .lst (nh.map V.str)) f2 (Same.refl _))
    refine q p _ (Same.free s2 f) (s2.trans (same_upd_fresh f (Same.refl _))) ?_
    rw [upd_same, List.map_append]
/-- the parts of a new work are new -/
def NewW (K : PySem.W.Frag) (H H' : Hp) (x : Addr) : Prop := ∃ dx l h r, H' x = some (.ins (ga K "Work") dx (wkFs l h r)) ∧ H l = none ∧ H h = none ∧ H r = none
theorem free_ins {H H' : Hp} {x b : Addr} {u : HO} (t : SX x H H') (hx : H' x = some u) (f : H' b = none) : H b = none := by
  cases hb : H b with
  | none => rfl
  | some o =>
    have : b ≠ x := fun e => by rw [e, hx] at f; cases f
    rw [t b o this hb] at f
    cases f
def spWInit (K : PySem.W.Frag) : Sp := fun vs H Q _ => ∃ (x dx l r h : Addr) (g : Giv) (ls hs : List (Str × (Int × Int))) (rs : List (Str × Rope)), vs = [.ref x, .ref l, .ref r, .ref h] ∧ H x = some (.ins (ga K "Work") dx []) ∧ GOk g ∧
  DictE K H frD l ls ∧ ls.Perm g.loads ∧ DictE K H frD h hs ∧ hs.Perm g.fixed ∧ DictE K H ropeD r rs ∧ rs.Perm g.ropes ∧ ∀ H', (∀ b o, b ≠ x → H b = some o → H' b = some o) → WorkAt K H' (.ref x) g → NewW K H H' x → Q .non H'
theorem keys_of_dat {α : Type} {K : PySem.W.Frag} {H : Hp} {f : α → PyData} {kvs : List (Key × V)} {es : List (Str × α)} (h : DatK K H f kvs es) : kvs.map (·.1) = (es.map (·.1)).map Sum.inr := h.keys
theorem DatK.perm {α : Type} {K : PySem.W.Frag} {H : Hp} {f : α → PyData} {kvs kvs' : List (Key × V)} (hp : kvs'.Perm kvs) : ∀ {es : List (Str × α)}, DatK K H f kvs es → ∃ es' : List (Str × α), es'.Perm es ∧ DatK K H f kvs' es' := by
  unfold DatK
  have hp2 := hp.symm
  clear hp
  induction hp2 with
  | nil => intro es h; cases h; exact ⟨[], .nil, .nil⟩
  | cons x _ ih =>
    intro es h
    cases h with
    | cons h t =>
      obtain ⟨es', p1, p2⟩ := ih t
      exact ⟨_ :: es', p1.cons _, .cons h p2⟩
  | swap x y l =>
    intro es h
    cases h with
    | cons h t =>
      cases t with
      | cons h2 t2 => exact ⟨_ :: _ :: _, List.Perm.swap .., .cons h2 (.cons h t2)⟩
  | trans _ _ ih1 ih2 =>
    intro es h
    obtain ⟨e1, p1, p2⟩ := ih1 h
    obtain ⟨e2, p3, p4⟩ := ih2 p2
    exact ⟨e2, p3.trans p1, p4⟩
theorem F_Work___init__ (C : Cn P K mg) : ∃ fd, FnOk P w K mg base (L2.CX P w) 5 (ma K (ga K "Work") "__init__") fd ["self", "hooks", "ropes", "anchors"] (spWInit K) ∧ KBn K fd ["self", "hooks", "ropes", "anchors"] 3 ["anchors"] (fun us ws => us ++ ws) (fun vs zs => vs ++ zs) := by
  obtain ⟨fd, F⟩ := C.d_Work___init__
  refine ⟨fd, ?_, ?kb⟩
  case kb =>
    obtain ⟨mv, kb⟩ := F.kbinds0 (ps := ["self", "hooks", "ropes", "anchors"]) 3 ["anchors"] [] (fun us mv ws => us ++ ws) (by simp) (by simp) (fun r1 _ r2 => r1.append r2) (fun D doc pm an cdv ct us mv ws h1 h2 h3 => match us, ws, mv, h1, h2, h3 with | [_, _, _], [_], [], _, _, _ => rfl)
    exact kb
  have sc : FnScope ["self", "hooks", "ropes", "anchors", "name"] ["self", "hooks", "ropes", "anchors"] (defScope (inClass (top 37) 0)) := ⟨rfl, rfl, rfl, by decide +kernel, rfl, by decide +kernel, by decide +kernel⟩
  refine F.ok sc (fun vs H Q E h => by obtain ⟨_, _, _, _, _, _, _, _, _, rfl, _⟩ := h; rfl) fun cdv A outer s H vs Q E hr h => ?_
  obtain ⟨x, dx, l, r, h, g, ls, hs, rs, rfl, hx, G, ⟨kl, hl, dl⟩, pl, ⟨kh, hh, dh⟩, ph, ⟨kr, hrr, dr⟩, pr, q⟩ := h
  have F_are_hooks := F_are_hooks (w := w) (base := base) C
  have F_are_anchors := F_are_anchors (w := w) (base := base) C
  have F_is_name := F_is_name (w := w) (base := base) C
  have F_ordered := F_ordered (w := w) (base := base) C
  have F_is_rope := F_is_rope (w := w) (base := base) C
  have F_Work_points := F_Work_points (w := w) (base := base) C
  refine ⟨_, PSs.nox (by exact (pss_cons (ps_if (pt_not (pt_val (pe_callR F_are_hooks (hr.mono (by decide)) (by rfl) (C.g "are_hooks") (C.keep "are_hooks") passL (pa_cons (pv 1) pa_nil)))) (pss_one ps_never) pss_nil) (pss_cons (ps_if (PW.pt (pw_and (pt_cmpR op_notN (pv 3) pe_non (nomark _)) (pw_and1 (pt_not (pt_val (pe_callR F_are_anchors (hr.mono (by decide)) (by rfl) (C.g "are_anchors") (C.keep "are_anchors") passL (pa_cons (pv 3) pa_nil))))))) (pss_one ps_never) pss_nil) (pss_cons (ps_if (PW.pt (pw_or (pt_not (pt_val (pe_callB (call_isi : CallR _ _ (rIsi K)) (by rfl) (C.free "isinstance") b_isinstance (pa_cons (pv 2) (pa_cons (pe_bltn (by rfl) (C.free "dict") b_dict (v := .ty "dict") rfl) pa_nil))))) (pw_or (pt_cmpR op_gt (pe_callB call_lenD (by rfl) (C.free "len") b_len (pa_cons (pv 2) pa_nil)) (pe_globI (x := "MAX_ROPES") (i := 10) C (by rfl) (by rfl)) (nomark _)) (pw_or1 (pt_not (pt_val (pe_callB (cr_all rfl) (by rfl) (C.free "all") b_all (pa_cons (pe_lock (pe_lc (own := [("name", 4)]) rfl sc.nd (pi_keys (pv 2)) (blkOk_by (N := ["self", "hooks", "ropes", "anchors", "name"]) (sc := defScope (inClass (top 37) 0)) (by decide +kernel)) (fun _ _ _ _ _ => (pg_name (i := 4) sc.nd rfl (Or.inl rfl))) (fun _ _ _ _ _ => pts_nil) (fun _ _ _ _ _ => (pe_callR F_is_name (hr.mono (by decide)) (by rfl) (C.g "is_name") (C.keep "is_name") passL (pa_cons (pv 4) pa_nil))))) pa_nil)))))))) (pss_one ps_never) pss_nil) (pss_cons (ps_fld (pv 0) (pe_callR F_ordered (hr.mono (by decide)) (by rfl) (C.g "ordered") (C.keep "ordered") passL (pa_cons (pv 1) pa_nil)) rfl) (pss_cons (ps_fld (pv 0) (pe_callR F_ordered (hr.mono (by decide)) (by rfl) (C.g "ordered") (C.keep "ordered") passL (pa_cons (pe_ifExp (pt_cmpR op_notN (pv 3) pe_non (nomark _)) (pv 3) pe_dnewK) pa_nil)) rfl) (pss_cons (ps_for PassesOwn.never rfl (pi_list (pe_callB (call_sortedD rfl) (by rfl) (C.free "sorted") b_sorted (pa_cons (pv 2) pa_nil))) (pg_name (i := 4) sc.nd rfl (Or.inl rfl)) (pss_one (ps_if (pt_not (pt_val (pe_callR F_is_rope (hr.mono (by decide)) (by rfl) (C.g "is_rope") (C.keep "is_rope") passL (pa_cons (pe_dget (hu_of hr) (pv 2) (pv 4) (fun _ _ => rfl)) (pa_cons (pe_methR0 (pv 0) (C.cls "Work") (C.meth "Work" "points") F_Work_points (hr.mono (by decide)) passL) pa_nil))))) (pss_one ps_never) pss_nil))) (pss_one (ps_fld (pv 0) (pe_callR F_ordered (hr.mono (by decide)) (by rfl) (C.g "ordered") (C.keep "ordered") passL (pa_cons (pv 2) pa_nil)) rfl))))))))), ?_⟩
  walk_at "w"
  refine ⟨l, ls, rfl, ⟨kl, hl, dl⟩, by have := pl.length_eq; have := G.l1; omega, by have := pl.length_eq; have := G.l8; omega, fun e he => G.lw e (pl.mem_iff.mp he), fun H1 s1 => ?_⟩
  have hh1 := s1 _ _ hh
  have hr1 := s1 _ _ hrr
  walk_at "w"
  refine ⟨h, hs, rfl, ⟨kh, hh1, dh.kd (same_kd s1) np_fr⟩, by have := ph.length_eq; have := G.f8; omega, fun e he => G.fw e (ph.mem_iff.mp he), fun H2 s2 => ?_⟩
  have s02 := s1.trans s2
  have hr2 := s02 _ _ hrr
  have lr : kr.length = rs.length := dr.length
  have lr2 : rs.length = g.ropes.length := pr.length_eq
  walk_at "w"
  refine ite_f (decide_eq_false (by have := G.r10; omega)) ?_
  walk_at "w"
  refine w_lockE hr2 True.intro fun od => ?_
  walk_at "w"
  refine ⟨r, od, rfl, .inl ⟨kr, upd_same, fun D1 hD1 => ?_⟩⟩
  refine lc_it walk_keys (PvA _ D1 fun i => ((rs.take i).map fun _ => V.bl true)) (pva_0 hD1 rfl) (fun i H1 _ pv => pv.2.1 _ _ upd_same) (fun i y H3 H4 hi pv yy => ?_) (fun H3 pv1 => ?_)
  · obtain ⟨rfl, k, v, hkv, rfl⟩ := yy
    have he : rs[i]? = some (rs[i]'(by omega)) := List.getElem?_eq_getElem _
    obtain ⟨v2, hv, dv⟩ := dr.at_ he
    rw [hkv] at hv
    cases hv
    have hmem := G.rw_ _ (pr.mem_iff.mp (List.getElem_mem (by omega : i < rs.length)))
    walk_at "w"
    refine ⟨rfl, ?_⟩
    walk_at "w"
    refine u_isName (by have := word_len hmem.1; omega) fun H5 s5 => ?_
    rw [hmem.1]
    refine pva_step pv s5 (take_map_succ he) ?_
    rw [List.length_map, List.length_take]
    have := G.r10
    omega
  have e1 : (rs.take kr.length).map (fun _ => V.bl true) = (rs.map fun _ => true).map V.bl := by rw [lr, List.take_length, List.map_map]; rfl
  obtain ⟨u1, u2⟩ := same_unlock hr2 True.intro pv1.2.1
  refine ⟨u1, ?_⟩
  refine w_nil ?_
  have hne : D1 ≠ r := ne_of pv1.2.2 u1 (fun z => nomatch z)
  refine r_all (bs := rs.map fun _ => true) (SqL.of (by rw [upd_ne hne, pv1.2.2]; exact congrArg (fun z => some (HO.lst z)) e1)) ?_
  have e2 : (rs.map fun _ => true).all id = true := by rw [List.all_map]; simp
  rw [e2]
  have s03 := s02.trans u2
  generalize upd H3 r (.dK kr) = H3' at s03 ⊢
  walk_at "w"
  have ln : (ls.map (·.1)).Nodup := (pl.map _).nodup_iff.mpr G.ln
  have hn : (hs.map (·.1)).Nodup := (ph.map _).nodup_iff.mpr G.fn
  have rn : (rs.map (·.1)).Nodup := (pr.map _).nodup_iff.mpr G.rn
  refine ⟨l, kl, ls.map (·.1), rfl, s03 _ _ hl, dl.keys, ln, by rw [List.length_map]; have := pl.length_eq; have := G.l8; omega, fun l' kl' yl H4 f4 s4 e4 p4 k4 so4 => ?_⟩
  have s04 := s03.trans s4
  obtain ⟨ls', pls', dls4⟩ := DatK.perm p4 (dl.kd (same_kd s04) np_fr)
  have hx4 := s04 _ _ hx
  walk_at "w"
  refine r_sfld hx4 (C.cls _) (C.noat _ _) (by decide) ?_
  generalize hH5 : upd H4 x (.ins (ga K "Work") dx (putF "own_loads" (.ref l') [])) = H5
  have hx5 : H5 x = some (.ins (ga K "Work") dx [("own_loads", .ref l')]) := by rw [← hH5]; exact upd_same
  have t5 : SX x H H5 := (sx_same s04).trans (hH5 ▸ sx_upd)
  have t45 : SX x H4 H5 := hH5 ▸ sx_upd
  have nx : ∀ {Hh : Hp} {b : Addr} {k : List (Key × V)} {fs : List (Str × V)}, Hh b = some (.dK k) → Hh x = some (.ins (ga K "Work") dx fs) → b ≠ x := fun e1 e2 => ne_of e1 e2 (fun z => nomatch z)
  have hl5 : H5 l' = some (.dK kl') := t45 _ _ (nx e4 hx4) e4
  have dls5 := dls4.kd (sx_kd t45 (by rw [hx4]; exact True.intro)) np_fr
  have hh5 : H5 h = some (.dK kh) := t5 _ _ (nx hh hx) hh
  have hr5 : H5 r = some (.dK kr) := t5 _ _ (nx hrr hx) hrr
  have kd5 : Kd H H5 := sx_kd t5 (by rw [hx]; exact True.intro)
  walk_at "w"
  refine ⟨h, kh, hs.map (·.1), rfl, hh5, dh.keys, hn, by rw [List.length_map]; have := ph.length_eq; have := G.f8; omega, fun h' kh' yh H6 f6 s6 e6 p6 k6 so6 => ?_⟩
  obtain ⟨hs', phs', dhs6⟩ := DatK.perm p6 (dh.kd (kd5.trans (same_kd s6)) np_fr)
  have hx6 := s6 _ _ hx5
  walk_at "w"
  refine r_sfld hx6 (C.cls _) (C.noat _ _) (by simp) ?_
  generalize hH7 : upd H6 x (.ins (ga K "Work") dx (putF "own_heights" (.ref h') [("own_loads", .ref l')])) = H7
  have hx7 : H7 x = some (.ins (ga K "Work") dx [("own_loads", .ref l'), ("own_heights", .ref h')]) := by rw [← hH7]; exact upd_same
  have t67 : SX x H6 H7 := hH7 ▸ sx_upd
  have t7 : SX x H H7 := (t5.trans (sx_same s6)).trans t67
  have hl7 : H7 l' = some (.dK kl') := t67 _ _ (nx (s6 _ _ hl5) hx6) (s6 _ _ hl5)
  have hh7 : H7 h' = some (.dK kh') := t67 _ _ (nx e6 hx6) e6
  have kd67 : Kd H6 H7 := sx_kd t67 (by rw [hx6]; exact True.intro)
  have dls7 := dls5.kd ((same_kd s6).trans kd67) np_fr
  have dhs7 := dhs6.kd kd67 np_fr
  have hr7 : H7 r = some (.dK kr) := t7 _ _ (nx hrr hx) hrr
  have kd7 : Kd H H7 := sx_kd t7 (by rw [hx]; exact True.intro)
  have lrs : (rs.map (·.1)).length < 64 := by rw [List.length_map]; have := G.r10; omega
  walk_at "w"
  refine ⟨r, kr, rs.map (·.1), rfl, .inl hr7, dr.keys, lrs, fun ys p hp hso hf => ?_⟩
  walk_at "w"
  generalize hH8 : upd H7 p (.lst (ys.map V.str)) = H8
  have s78 : Same H7 H8 := hH8 ▸ same_upd_fresh hf (Same.refl _)
  have hp8 : H8 p = some (.lst (ys.map V.str)) := by rw [← hH8]; exact upd_same
  refine ⟨⟨_, SqL.of hp8⟩, ?_⟩
  refine for_it walk_list (fun _ σ' H' => Same H8 H' ∧ ∃ y, σ' = [some (.ref x), some (.ref l), some (.ref r), some (.ref h), y]) ⟨Same.refl _, none, rfl⟩ (fun i σ' H' _ pv => SqL.of (pv.1 _ _ hp8)) (fun i y σ' H9 H9' hi pv yy => ?_) (fun σ' H9 pv => ?_)
  · obtain ⟨rfl, hy⟩ := yy
    obtain ⟨s89, y0, rfl⟩ := pv
    rw [List.getElem?_map] at hy
    obtain ⟨n, hc, rfl⟩ := Option.map_eq_some_iff.mp hy
    have hmem : n ∈ rs.map (·.1) := hp.mem_iff.mp (List.mem_of_getElem? hc)
    obtain ⟨rp, hrp⟩ := getA_some (hasA_iff.mpr hmem)
    have dv := dr.val n
    rw [hrp] at dv
    obtain ⟨v, hv, dpv⟩ := dv
    have s79 := s78.trans s89
    have good := G.rw_ _ (pr.mem_iff.mp (getA_mem hrp))
    walk_at "w"
    refine r_dgetS (.inl (s79 _ _ hr7)) hv ?_
    walk_at "w"
    refine ⟨x, dx, _, rfl, s79 _ _ hx7, rfl, ?_⟩
    walk_at "w"
    refine ⟨x, dx, l', h', _, kl', kh', ls'.map (·.1), hs'.map (·.1), rfl, s79 _ _ hx7, rfl, rfl, s79 _ _ hl7, dls7.keys, s79 _ _ hh7, dhs7.keys, ?_, fun pp H10 f10 s10 e10 => ?_⟩
    · rw [List.length_map, List.length_map]
      have := (pls'.trans pl).length_eq
      have := (phs'.trans ph).length_eq
      have := G.l8
      have := G.f8
      omega
    walk_at "w"
    obtain ⟨ra, rx, ry, rfl, rS, rX, rY⟩ := dp_rope_inv (dp_kd (kd7.trans (same_kd (s79.trans s10))) (np_rope _) dpv)
    have okp : pvOk (.tup rp.1) (ls'.map (·.1) ++ hs'.map (·.1)) = true := by
      have e : pathOk rp.1 (ls'.map (·.1) ++ hs'.map (·.1)) = pathOk rp.1 g.pts := pathOk_congr fun z => by
        rw [Giv.pts, List.mem_append, List.mem_append, ((pls'.trans pl).map _).mem_iff, ((phs'.trans ph).map _).mem_iff]
      show pathOk _ _ = true
      rw [e]
      exact good.2.1
    have lenp : rp.1.length ≤ 1000 := by
      have := good.2.1
      rw [pathOk, Bool.and_eq_true, Bool.and_eq_true, Bool.and_eq_true] at this
      have h23 : rp.1.length ≤ 23 := of_decide_eq_true this.2.2.1
      omega
    refine ⟨ra, pp, rx, ry, .tup rp.1, rp.2, ls'.map (·.1) ++ hs'.map (·.1), rfl, rS, rX, lenp, rY, SqL.of e10, fun H11 s11 => ?_⟩
    rw [okp, good.2.2]
    walk_at "w"
    exact ⟨(s89.trans s10).trans s11, some (.str n), rfl⟩
  · obtain ⟨s89, y0, rfl⟩ := pv
    have s79 := s78.trans s89
    walk_at "w"
    refine ⟨r, kr, rs.map (·.1), rfl, s79 _ _ hr7, dr.keys, rn, lrs, fun r' kr' yr H10 f10 s10 e10 p10 k10 so10 => ?_⟩
    have s710 := s79.trans s10
    obtain ⟨rs', prs', drs10⟩ := DatK.perm p10 (dr.kd (kd7.trans (same_kd s710)) np_rope)
    have hx10 := s710 _ _ hx7
    walk_at "w"
    refine r_sfld hx10 (C.cls _) (C.noat _ _) (by simp) ?_
    generalize hH11 : upd H10 x (.ins (ga K "Work") dx (putF "own_ropes" (.ref r') [("own_loads", .ref l'), ("own_heights", .ref h')])) = H11
    have hx11 : H11 x = some (.ins (ga K "Work") dx (wkFs l' h' r')) := by rw [← hH11]; exact upd_same
    have t1011 : SX x H10 H11 := hH11 ▸ sx_upd
    have kd11 : Kd H10 H11 := sx_kd t1011 (by rw [hx10]; exact True.intro)
    walk_at "w"
    refine q H11 ((t7.trans (sx_same s710)).trans t1011) ?_ ⟨dx, l', h', r', hx11, Same.free s03 f4, free_ins t5 hx5 f6, free_ins (t7.trans (sx_same s79)) (s79 _ _ hx7) f10⟩
    have g1 := s710 _ _ hl7
    have g2 := s710 _ _ hh7
    exact ⟨x, dx, l', h', r', ls', hs', rs', rfl, hx11, ⟨kl', t1011 _ _ (nx g1 hx10) g1, dls7.kd ((same_kd s710).trans kd11) np_fr⟩, pls'.trans pl, ⟨kh', t1011 _ _ (nx g2 hx10) g2, dhs7.kd ((same_kd s710).trans kd11) np_fr⟩, phs'.trans ph,
      ⟨kr', t1011 _ _ (nx e10 hx10) e10, drs10.kd kd11 np_rope⟩, prs'.trans pr⟩
end
end PW

/-! ##### WM -/
set_option Elab.async false
set_option linter.all false
set_option maxRecDepth 100000
set_option maxHeartbeats 2000000
namespace PW
open PySem PySem.Spec PyProof.Rows L2 He PWL

/-! ### the methods of Work -/
def exS (K : PySem.W.Frag) (E : XK) (H : Hp) (x fld : Str) (v : V) : Prop := ∀ H', Same H H' → exX K E H' x fld v
theorem u_makeW {K : PySem.W.Frag} {H : Hp} {Q : VK} {E : XK} {l r h : Addr} {g : Giv} {ls hs : List (Str × (Int × Int))} {rs : List (Str × Rope)} (G : GOk g) (dl : DictE K H frD l ls) (pl : ls.Perm g.loads) (dh : DictE K H frD h hs) (ph : hs.Perm g.fixed) (dr : DictE K H ropeD r rs) (pr : rs.Perm g.ropes)
    (q : ∀ x H', H x = none → Same H H' → WorkAt K H' (.ref x) g → Q (.ref x) H') : [V.ref l, V.ref r].length = 2 ∧ [V.ref h].length = 1 ∧ ∀ x dx, H x = none → H dx = none → dx ≠ x →
      spWInit K ((fun vs zs => vs ++ zs) (V.ref x :: [V.ref l, V.ref r]) [V.ref h]) (upd (upd H dx (.own x)) x (.ins (ga K "Work") dx [])) (fun v H3 => v = .non ∧ Q (.ref x) H3) E := by
  refine ⟨rfl, rfl, fun x dx hx hdx hne => ?_⟩
  have s1 : Same H (upd (upd H dx (.own x)) x (.ins (ga K "Work") dx [])) := (same_upd_fresh hdx (Same.refl H)).trans (same_upd_fresh (by rw [upd_ne (Ne.symm hne)]; exact hx) (Same.refl _))
  refine ⟨x, dx, l, r, h, g, ls, hs, rs, rfl, upd_same, G, dl.same s1 np_fr, pl, dh.same s1 np_fr, ph, dr.same s1 np_rope, pr, fun H' sx wa _ => ⟨rfl, q x H' hx (fun b o hb => ?_) wa⟩⟩
  exact sx b o (ne_of_none hb hx) (s1 b o hb)
theorem Giv.pts_load {g : Giv} {z : Str} {f : Int × Int} (h : hasA g.loads z = true) : ({ g with loads := putA g.loads z f } : Giv).pts = g.pts := by
  show (putA g.loads z f).map (·.1) ++ _ = _
  rw [putA_keys, if_pos h]
  rfl
theorem GOk.load {g : Giv} (G : GOk g) {z : Str} {f : Int × Int} (h : hasA g.loads z = true) (hf : ldOk f = true) : GOk { g with loads := putA g.loads z f } := by
  have hl : (putA g.loads z f).length = g.loads.length := by rw [putA_length, if_pos h]
  refine ⟨by show 1 ≤ (putA g.loads z f).length; rw [hl]; exact G.l1, by show (putA g.loads z f).length ≤ 8; rw [hl]; exact G.l8, putA_nodup G.ln, fun e he => ?_, G.f8, G.fn, G.fw, G.r10, G.rn, fun e he => ?_⟩
  · rcases putA_mem he with rfl | ⟨he, _⟩ | he
    · obtain ⟨d, hd⟩ := getA_some h
      exact ⟨(G.lw _ (getA_mem hd)).1, hf⟩
    · exact G.lw e he
    · exact G.lw e he
  · rw [Giv.pts_load h]
    exact G.rw_ e he
theorem GOk.rope {g : Giv} (G : GOk g) {z : Str} {p : Rope} (h1 : wordOk z SMALL = true) (h2 : pathOk p.1 g.pts = true) (h3 : frOk' p.2 = true) (h4 : (putA g.ropes z p).length ≤ 10) : GOk { g with ropes := putA g.ropes z p } := by
  refine ⟨G.l1, G.l8, G.ln, G.lw, G.f8, G.fn, G.fw, h4, putA_nodup G.rn, fun e he => ?_⟩
  rcases putA_mem he with rfl | ⟨he, _⟩ | he
  · exact ⟨h1, h2, h3⟩
  · exact G.rw_ e he
  · exact G.rw_ e he
theorem GOk.drop {g : Giv} (G : GOk g) {z : Str} : GOk { g with ropes := dropA g.ropes z } := by
  refine ⟨G.l1, G.l8, G.ln, G.lw, G.f8, G.fn, G.fw, Nat.le_trans (List.length_filter_le _ _) G.r10, dropA_nodup G.rn, fun e he => G.rw_ e (List.mem_filter.mp he).1⟩
def spWithLoad (K : PySem.W.Frag) : Sp := fun vs H Q E => ∃ (v y : V) (z : Str) (f : Int × Int) (g : Giv), vs = [v, .str z, y] ∧ WorkAt K H v g ∧ GOk g ∧ Dp K H y (frD f) ∧
  if hasA g.loads z = true then (if ldOk f = true then ∀ x H', H x = none → Same H H' → WorkAt K H' (.ref x) { g with loads := putA g.loads z f } → Q (.ref x) H' else exS K E H "InvalidNumber" "value" y) else exS K E H "UnknownName" "name" (.str z)
def spWithRope (K : PySem.W.Frag) : Sp := fun vs H Q E => ∃ (v x y : V) (z : Str) (p : PVal) (f : Int × Int) (g : Giv), vs = [v, .str z, x, y] ∧ WorkAt K H v g ∧ GOk g ∧ z.length ≤ 1000 ∧ pvLen p ≤ 1000 ∧ Dp K H x (pvD p) ∧ Dp K H y (frD f) ∧
  if wordOk z SMALL = true then (match p with
    | .tup p => if (pathOk p g.pts && frOk' f) = true then (if (putA g.ropes z (p, f)).length ≤ 10 then ∀ x H', H x = none → Same H H' → WorkAt K H' (.ref x) { g with ropes := putA g.ropes z (p, f) } → Q (.ref x) H' else exS K E H "LimitExceeded" "count" (.int (putA g.ropes z (p, f)).length)) else exS K E H "InvalidRope" "name" (.str z)
    | .lst _ => exS K E H "InvalidRope" "name" (.str z)) else exS K E H "InvalidName" "value" (.str z)
def spWithout (K : PySem.W.Frag) : Sp := fun vs H Q E => ∃ (v : V) (z : Str) (g : Giv), vs = [v, .str z] ∧ WorkAt K H v g ∧ GOk g ∧
  if hasA g.ropes z = true then ∀ x H', H x = none → Same H H' → WorkAt K H' (.ref x) { g with ropes := dropA g.ropes z } → Q (.ref x) H' else exS K E H "UnknownName" "name" (.str z)
theorem isSome_val {α : Type} {K : PySem.W.Frag} {H : Hp} {f : α → PyData} {kvs : List (Key × V)} {es : List (Str × α)} (h : DatK K H f kvs es) (k : Str) : (valV kvs (.inr k)).isSome = hasA es k := by
  rw [← valV_any]
  exact h.any k
local macro_rules | `(tactic| walk_at "w") => `(tactic| (repeat (first | with_reducible refine w_seq ?_ | with_reducible refine w_ret ?_ | with_reducible refine w_asg ?_ | with_reducible refine w_ifs ?_ | with_reducible refine w_drop ?_ | with_reducible refine w_next ?_ | with_reducible refine w_cont ?_ | with_reducible refine w_par ?_ | with_reducible refine w_par3 ?_ | with_reducible refine w_three ?_ | with_reducible refine w_two ?_ | with_reducible refine w_name ?_ | with_reducible refine w_c ?_ | with_reducible refine w_op ?_ | with_reducible refine w_un ?_ | with_reducible refine w_cb ?_ | with_reducible refine w_cons ?_ | with_reducible refine w_nil ?_ | with_reducible refine w_tup ?_ | with_reducible refine w_lst ?_ | with_reducible refine w_test ?_ | with_reducible refine w_B ?_ | with_reducible refine w_k ?_ | with_reducible refine w_ki ?_ | with_reducible refine w_and ?_ | with_reducible refine w_or ?_ | with_reducible refine w_not ?_ | with_reducible refine w_andV ?_ | with_reducible refine w_orV ?_ | with_reducible refine w_notV ?_ | with_reducible refine w_if ?_ | with_reducible refine w_yes ?_ | with_reducible refine w_isN ?_ | with_reducible refine w_chain ?_ | with_reducible refine w_sl ?_ | with_reducible refine w_noPart ?_ | with_reducible refine w_part ?_ | with_reducible refine w_fld ?_ | with_reducible refine w_dget ?_ | with_reducible refine w_din ?_ | with_reducible refine w_dnotin ?_ | with_reducible refine w_dput ?_ | with_reducible refine w_newK ?_ | with_reducible refine w_sfld ?_ | with_reducible refine w_methR ?_ | with_reducible refine w_propR ?_ | with_reducible refine w_sl2 ?_ | with_reducible refine w_star ?_ | with_reducible refine w_retN ?_ | with_reducible refine w_gcons ?_ | with_reducible refine w_gnil ?_ | with_reducible refine r_i0 ?_ | with_reducible refine r_u ?_ | with_reducible refine r_eqi ?_ | with_reducible refine r_nei ?_ | with_reducible refine r_eqs ?_ | with_reducible refine r_nes ?_ | with_reducible refine iteT ?_ | with_reducible refine iteF ?_ | with_reducible refine w_lc ?_ | with_reducible refine w_dc ?_ | with_reducible refine w_for ?_ | with_reducible refine w_istr ?_ | with_reducible refine w_ilist ?_ | with_reducible refine w_itup ?_ | with_reducible refine w_irng1 ?_ | with_reducible refine w_irng2 ?_ | with_reducible refine w_ienum ?_ | with_reducible refine w_iitems ?_ | with_reducible refine w_ikeysT ?_ | with_reducible refine w_makeK ?_ | with_reducible refine w_methSN ?_ | with_reducible refine w_makeR ?_ | with_reducible refine w_callR ?_ | with_reducible refine w_dmerge ?_ | with_reducible refine w_ks ?_ | with_reducible refine w_kr ?_ | with_reducible refine isi_int_int ?_ | with_reducible refine isi_int_bool ?_ | with_reducible refine isi_str_str ?_ | with_reducible refine w_1i ?_ | with_reducible refine w_nn ?_ | with_reducible refine w_int_i ?_ | with_reducible refine w_int_b ?_ | ((with_reducible apply w_var); rfl) | ((with_reducible apply r_ixT); assumption; rfl) | ((with_reducible apply r_ixL); assumption; rfl) | ((with_reducible apply isi_tup_tup); assumption) | ((with_reducible apply isi_dict_dict); assumption) | ((with_reducible apply r_lenD); assumption) | ((with_reducible apply r_lenT); assumption) | ((with_reducible apply r_lenL); assumption) | ((with_reducible refine r_all (SqL.of ?_) ?_); assumption) | ((with_reducible apply r_fld); assumption; exact Cn.cls (by assumption) _; exact Cn.noat (by assumption) _ _; first | rfl | assumption) | ((with_reducible apply ite_t); rfl) | ((with_reducible apply ite_f); rfl))))
section
variable {P : Program} {w : World} {K : PySem.W.Frag} {mg : Str → Option Value} {base : Heap}
theorem F_Work_with_load (C : Cn P K mg) : FnR P w K mg base (L2.CX P w) 7 (ma K (ga K "Work") "with_load") (spWithLoad K) := by
  obtain ⟨fd, F⟩ := C.d_Work_with_load
  have sc : FnScope ["self", "hook", "load"] ["self", "hook", "load"] (defScope (inClass (top 37) 11)) := ⟨rfl, rfl, rfl, by decide +kernel, rfl, by decide +kernel, by decide +kernel⟩
  refine fnR_of F sc ?len (fun _ _ _ _ _ _ us hl => match us, hl with | [_, _, _], _ => rfl) ?body
  case len => exact fun vs H Q E h => by obtain ⟨_, _, _, _, _, rfl, _⟩ := h; rfl
  case body =>
    intro cdv A outer s H vs Q E hr h0
    obtain ⟨v, y, z, f, g, rfl, ⟨a, dx, l, h, r, ls, hs, rs, rfl, ha, ⟨kl, hl, dl⟩, pl, dh, ph, dr, pr⟩, G, hy, q⟩ := h0
    obtain ⟨fdW, F_Work___init__⟩ := F_Work___init__ (w := w) (base := base) C
    have F_check_known := F_check_known (w := w) (base := base) C
    have F_is_load := F_is_load (w := w) (base := base) C
    obtain ⟨c, rfl, hc⟩ := dp_fr_inv hy
    refine ⟨_, (pss_cons (ps_expr (pe_callR F_check_known (hr.mono (by decide)) (by rfl) (C.g "check_known") (C.keep "check_known") (passes_call (takes_of rfl rfl rfl rfl) (fun _ _ _ _ h => h)) (pa_cons (pv 1) (pa_cons (pe_fld (pv 0) rfl : PE _ _ (tFld K _ _)) pa_nil)))) (pss_cons (ps_if (pt_not (pt_val (pe_callR F_is_load (hr.mono (by decide)) (by rfl) (C.g "is_load") (C.keep "is_load") (passes_call (takes_of rfl rfl rfl rfl) (fun _ _ _ _ h => h)) (pa_cons (pv 2) pa_nil)))) (pss_one (ps_raiseX rfl C.x_InvalidNumber hr (takes_of rfl rfl rfl rfl) (pa_cons (pv 2) pa_nil))) pss_nil) (pss_one (ps_ret (pe_makeK (C.mkr "Work") F_Work___init__.1 (hr.mono (by decide)) (by rfl) (C.g "Work") F_Work___init__.2 (passes_call (takes_of rfl rfl rfl rfl) (fun _ _ _ _ h => h)) (pa_cons (pe_dmerge (pe_fld (pv 0) rfl : PE _ _ (tFld K _ _)) (pv 1) (pv 2)) (pa_cons (pe_fld (pv 0) rfl : PE _ _ (tFld K _ _)) pa_nil)) (pk_cons (pe_fld (pv 0) rfl : PE _ _ (tFld K _ _)) pk_nil)))))), ?_⟩
    walk_at "w"
    refine ⟨z, l, kl, rfl, .inl hl, ?_⟩
    rw [isSome_val dl, hasA_perm pl]
    cases hb : hasA g.loads z with
    | false =>
      rw [hb] at q
      exact q H (Same.refl _)
    | true =>
      rw [hb] at q
      refine iteT ?_
      walk_at "w"
      refine u_isLoad hc ?_
      walk_at "w"
      have e0 : (frOk f.1 f.2 && decide (0 ≤ f.1)) = ldOk f := rfl
      rw [e0]
      cases hf : ldOk f with
      | false =>
        rw [hf] at q
        refine iteT ?_
        walk_at "w"
        refine w_raiseX ?_
        walk_at "w"
        exact w_one (q H (Same.refl _))
      | true =>
        rw [hf] at q
        refine iteF ?_
        walk_at "w"
        intro d fd
        have s1 : Same H (upd H d (.dK [])) := same_upd_fresh fd (Same.refl _)
        walk_at "w"
        refine r_fld (s1 _ _ ha) (C.cls _) (C.noat _ _) rfl ?_
        have hne : l ≠ d := ne_of_none hl fd
        have kn : (kl.map (·.1)).Nodup := by
          rw [dl.keys]
          exact List.Pairwise.map _ (fun a b hab e => hab (Sum.inr.inj e)) ((pl.map _).nodup_iff.mpr G.ln)
        have kz : kl.length ≤ 8 := by rw [dl.length, pl.length_eq]; exact G.l8
        refine ⟨l, kl, rfl, .inl (s1 _ _ hl), hne, Nat.lt_of_le_of_lt kz (by decide), kn, upd_same, fun p fp => ?_⟩
        have fp1 : upd H d (.dK []) p = none := by
          by_cases e : p = d
          · subst e; rw [upd_same] at fp; cases fp
          · rw [upd_ne e] at fp; exact fp
        have hpd : d ≠ p := by
          intro e
          subst e
          rw [upd_same] at fp
          cases fp
        walk_at "w"
        refine ⟨.inr z, rfl, upd_same, by rw [upd_ne hpd]; exact upd_same, hpd, ?_⟩
        generalize hH1 : upd (upd (upd (upd (upd H d (.dK [])) d (.dK kl)) p (.dK [])) p (.dK [(.inr z, .ref c)])) d (.dK (putK kl (.inr z) (.ref c))) = H1
        have fpH : H p = none := by rw [upd_ne (Ne.symm hpd)] at fp1; exact fp1
        have s2 : Same H H1 := by
          rw [← hH1]
          intro b o hb
          rw [upd_ne (ne_of_none hb fd), upd_ne (ne_of_none hb fpH), upd_ne (ne_of_none hb fpH), upd_ne (ne_of_none hb fd), upd_ne (ne_of_none hb fd)]
          exact hb
        have hd1 : H1 d = some (.dK (putK kl (.inr z) (.ref c))) := by rw [← hH1]; exact upd_same
        walk_at "w"
        refine r_fld (s2 _ _ ha) (C.cls _) (C.noat _ _) rfl ?_
        walk_at "w"
        refine r_fld (s2 _ _ ha) (C.cls _) (C.noat _ _) rfl ?_
        refine w_nil ?_
        exact u_makeW (G.load hb hf) ⟨_, hd1, (dl.kd (same_kd s2) np_fr).put (dp_kd (same_kd s2) (np_fr f) hy)⟩ (putA_perm pl z f) (dh.same s2 np_fr) ph (dr.same s2 np_rope) pr (fun x H' hx s wa => q x H' (Same.free s2 hx) (s2.trans s) wa)
theorem F_Work_with_rope (C : Cn P K mg) : FnR P w K mg base (L2.CX P w) 7 (ma K (ga K "Work") "with_rope") (spWithRope K) := by
  obtain ⟨fd, F⟩ := C.d_Work_with_rope
  have sc : FnScope ["self", "name", "path", "length", "ropes"] ["self", "name", "path", "length"] (defScope (inClass (top 37) 12)) := ⟨rfl, rfl, rfl, by decide +kernel, rfl, by decide +kernel, by decide +kernel⟩
  refine fnR_of F sc ?len (fun _ _ _ _ _ _ us hl => match us, hl with | [_, _, _, _], _ => rfl) ?body
  case len => exact fun vs H Q E h => by obtain ⟨_, _, _, _, _, _, _, rfl, _⟩ := h; rfl
  case body =>
    intro cdv A outer s H vs Q E hr h0
    obtain ⟨v, x, y, z, p, f, g, rfl, ⟨a, dx, l, h, r, ls, hs, rs, rfl, ha, ⟨kl, hl, dl⟩, pl, ⟨kh, hh, dh⟩, ph, ⟨kr, hrr, dr⟩, pr⟩, G, hz, hpl, hx, hy, q⟩ := h0
    obtain ⟨fdW, F_Work___init__⟩ := F_Work___init__ (w := w) (base := base) C
    have F_is_name := F_is_name (w := w) (base := base) C
    have F_is_rope := F_is_rope (w := w) (base := base) C
    have F_check_size := F_check_size (w := w) (base := base) C
    have F_Work_points := F_Work_points (w := w) (base := base) C
    refine ⟨_, (pss_cons (ps_if (pt_not (pt_val (pe_callR F_is_name (hr.mono (by decide)) (by rfl) (C.g "is_name") (C.keep "is_name") (passes_call (takes_of rfl rfl rfl rfl) (fun _ _ _ _ h => h)) (pa_cons (pv 1) pa_nil)))) (pss_one (ps_raiseX rfl C.x_InvalidName hr (takes_of rfl rfl rfl rfl) (pa_cons (pv 1) pa_nil))) pss_nil) (pss_cons (ps_if (pt_not (pt_val (pe_callR F_is_rope (hr.mono (by decide)) (by rfl) (C.g "is_rope") (C.keep "is_rope") (passes_call (takes_of rfl rfl rfl rfl) (fun _ _ _ _ h => h)) (pa_cons (pe_tup (pa_cons (pv 2) (pa_cons (pv 3) pa_nil))) (pa_cons (pe_methR0 (pv 0) (C.cls "Work") (C.meth "Work" "points") F_Work_points (hr.mono (by decide)) (passes_call (takes_of rfl rfl rfl rfl) (fun _ _ _ _ h => h))) pa_nil))))) (pss_one (ps_raiseX rfl C.x_InvalidRope hr (takes_of rfl rfl rfl rfl) (pa_cons (pv 1) pa_nil))) pss_nil) (pss_cons (ps_set (i := 4) sc.nd rfl (Or.inl rfl) (pe_dmerge (pe_fld (pv 0) rfl : PE _ _ (tFld K _ _)) (pv 1) (pe_tup (pa_cons (pv 2) (pa_cons (pv 3) pa_nil))))) (pss_cons (ps_expr (pe_callR F_check_size (hr.mono (by decide)) (by rfl) (C.g "check_size") (C.keep "check_size") (passes_call (takes_of rfl rfl rfl rfl) (fun _ _ _ _ h => h)) (pa_cons (pe_callB call_lenD (by rfl) (C.free "len") b_len (pa_cons (pv 4) pa_nil)) (pa_cons (pe_globI (x := "MAX_ROPES") (i := 10) C (by rfl) (by rfl)) pa_nil)))) (pss_one (ps_ret (pe_makeK (C.mkr "Work") F_Work___init__.1 (hr.mono (by decide)) (by rfl) (C.g "Work") F_Work___init__.2 (passes_call (takes_of rfl rfl rfl rfl) (fun _ _ _ _ h => h)) (pa_cons (pe_fld (pv 0) rfl : PE _ _ (tFld K _ _)) (pa_cons (pv 4) pa_nil)) (pk_cons (pe_fld (pv 0) rfl : PE _ _ (tFld K _ _)) pk_nil)))))))), ?_⟩
    walk_at "w"
    refine u_isName (by omega) fun H1 s1 => ?_
    walk_at "w"
    cases hb : wordOk z "abcdefghijklmnopqrstuvwxyz" with
    | false =>
      have hb' : wordOk z SMALL = false := hb
      rw [hb'] at q
      refine iteT ?_
      walk_at "w"
      refine w_raiseX ?_
      walk_at "w"
      exact w_one (q H1 s1)
    | true =>
      have hb' : wordOk z SMALL = true := hb
      rw [hb', if_pos rfl] at q
      refine iteF ?_
      walk_at "w"
      refine w_fresh (by simp) fun t ht => ?_
      have s2 : Same H (upd H1 t (.tup [x, y])) := s1.trans (same_upd_fresh ht (Same.refl _))
      walk_at "w"
      refine ⟨a, dx, _, rfl, s2 _ _ ha, rfl, ?_⟩
      walk_at "w"
      refine ⟨a, dx, l, h, _, kl, kh, ls.map (·.1), hs.map (·.1), rfl, s2 _ _ ha, rfl, rfl, s2 _ _ hl, dl.keys, s2 _ _ hh, dh.keys, ?_, fun pp H3 f3 s3 e3 => ?_⟩
      · rw [List.length_map, List.length_map]
        have := pl.length_eq
        have := ph.length_eq
        have := G.l8
        have := G.f8
        omega
      have s03 := s2.trans s3
      have hx3 := dp_kd (same_kd s03) (np_pv p) hx
      have hy3 := dp_kd (same_kd s03) (np_fr f) hy
      have ht3 : SqT K H3 t [x, y] := SqT.of (s3 _ _ upd_same)
      walk_at "w"
      refine ⟨t, pp, x, y, p, f, ls.map (·.1) ++ hs.map (·.1), rfl, ht3, hx3, hpl, hy3, SqL.of e3, fun H4 s4 => ?_⟩
      have s04 := s03.trans s4
      have epts : ∀ p, pathOk p (ls.map (·.1) ++ hs.map (·.1)) = pathOk p g.pts := fun p => pathOk_congr fun z => by
        rw [Giv.pts, List.mem_append, List.mem_append, (pl.map _).mem_iff, (ph.map _).mem_iff]
      cases p with
      | lst p =>
        have e0 : (pvOk (.lst p) (ls.map (·.1) ++ hs.map (·.1)) && frOk' f) = false := rfl
        rw [e0]
        walk_at "w"
        refine w_raiseX ?_
        walk_at "w"
        exact w_one (q H4 s04)
      | tup p =>
        have e0 : (pvOk (.tup p) (ls.map (·.1) ++ hs.map (·.1)) && frOk' f) = (pathOk p g.pts && frOk' f) := by rw [← epts]; rfl
        rw [e0]
        cases hok : (pathOk p g.pts && frOk' f) with
        | false =>
          dsimp only at q
          rw [hok] at q
          walk_at "w"
          refine w_raiseX ?_
          walk_at "w"
          exact w_one (q H4 s04)
        | true =>
          dsimp only at q
          rw [hok, if_pos rfl] at q
          walk_at "w"
          intro d fd
          have s5 : Same H4 (upd H4 d (.dK [])) := same_upd_fresh fd (Same.refl _)
          walk_at "w"
          refine r_fld (s5 _ _ (s04 _ _ ha)) (C.cls _) (C.noat _ _) rfl ?_
          have hr4 := s04 _ _ hrr
          have hne : r ≠ d := ne_of_none hr4 fd
          have kn : (kr.map (·.1)).Nodup := by
            rw [dr.keys]
            exact List.Pairwise.map _ (fun a b hab e => hab (Sum.inr.inj e)) ((pr.map _).nodup_iff.mpr G.rn)
          have kz : kr.length ≤ 10 := by rw [dr.length, pr.length_eq]; exact G.r10
          refine ⟨r, kr, rfl, .inl (s5 _ _ hr4), hne, Nat.lt_of_le_of_lt kz (by decide), kn, upd_same, fun pd fp => ?_⟩
          have hpd : d ≠ pd := by
            intro e
            subst e
            rw [upd_same] at fp
            cases fp
          have fp4 : H4 pd = none := by rw [upd_ne (Ne.symm hpd), upd_ne (Ne.symm hpd)] at fp; exact fp
          have hd2 : ∀ o : HO, upd (upd (upd H4 d (.dK [])) d (.dK kr)) pd o d = some (.dK kr) := fun o => by rw [upd_ne hpd]; exact upd_same
          walk_at "w"
          refine w_fresh (by simp) fun t2 ht2 => ?_
          have htd : t2 ≠ d := fun e => by subst e; rw [hd2] at ht2; cases ht2
          have htp : t2 ≠ pd := fun e => by subst e; rw [upd_same] at ht2; cases ht2
          have ft4 : H4 t2 = none := by rw [upd_ne htp, upd_ne htd, upd_ne htd] at ht2; exact ht2
          refine ⟨.inr z, rfl, by rw [upd_ne (Ne.symm htp)]; exact upd_same, by rw [upd_ne (Ne.symm htd)]; exact hd2 _, hpd, ?_⟩
          generalize hH5 : upd (upd (upd (upd (upd (upd H4 d (.dK [])) d (.dK kr)) pd (.dK [])) t2 (.tup [x, y])) pd (.dK [(.inr z, .ref t2)])) d (.dK (putK kr (.inr z) (.ref t2))) = H5
          have s45 : Same H4 H5 := by
            rw [← hH5]
            intro b o hb
            rw [upd_ne (ne_of_none hb fd), upd_ne (ne_of_none hb fp4), upd_ne (ne_of_none hb ft4), upd_ne (ne_of_none hb fp4), upd_ne (ne_of_none hb fd), upd_ne (ne_of_none hb fd)]
            exact hb
          have s06 := s04.trans s45
          have hd5 : H5 d = some (.dK (putK kr (.inr z) (.ref t2))) := by rw [← hH5]; exact upd_same
          have ht5 : H5 t2 = some (.tup [x, y]) := by rw [← hH5, upd_ne htd, upd_ne htp]; exact upd_same
          have dv : Dp K H5 (.ref t2) (ropeD (p, f)) := dp_rope (SqT.of ht5) (dp_kd (same_kd s06) (np_path p) hx) (dp_kd (same_kd s06) (np_fr f) hy)
          have dr5 := (dr.kd (same_kd s06) np_rope).put (k := z) (d := (p, f)) dv
          walk_at "w"
          have hlen : (putK kr (.inr z) (.ref t2)).length = (putA g.ropes z (p, f)).length := by rw [dr5.length, (putA_perm pr z (p, f)).length_eq]
          refine ⟨_, _, rfl, ?_⟩
          rw [hlen]
          by_cases h10 : (putA g.ropes z (p, f)).length ≤ 10
          · rw [if_pos (by omega)]
            rw [if_pos h10] at q
            walk_at "w"
            refine r_fld (s06 _ _ ha) (C.cls _) (C.noat _ _) rfl ?_
            walk_at "w"
            refine r_fld (s06 _ _ ha) (C.cls _) (C.noat _ _) rfl ?_
            refine w_nil ?_
            rw [Bool.and_eq_true] at hok
            exact u_makeW (G.rope hb' hok.1 hok.2 h10) ⟨kl, s06 _ _ hl, dl.kd (same_kd s06) np_fr⟩ pl ⟨kh, s06 _ _ hh, dh.kd (same_kd s06) np_fr⟩ ph ⟨_, hd5, dr5⟩ (putA_perm pr z (p, f)) (fun x H' hx s wa => q x H' (Same.free s06 hx) (s06.trans s) wa)
          · rw [if_neg (by omega)]
            rw [if_neg h10] at q
            exact q H5 s06
theorem F_Work_without_rope (C : Cn P K mg) : FnR P w K mg base (L2.CX P w) 7 (ma K (ga K "Work") "without_rope") (spWithout K) := by
  obtain ⟨fd, F⟩ := C.d_Work_without_rope
  have sc : FnScope ["self", "rope", "ropes", "name", "told"] ["self", "rope"] (defScope (inClass (top 37) 13)) := ⟨rfl, rfl, rfl, by decide +kernel, rfl, by decide +kernel, by decide +kernel⟩
  refine fnR_of F sc ?len (fun _ _ _ _ _ _ us hl => match us, hl with | [_, _], _ => rfl) ?body
  case len => exact fun vs H Q E h => by obtain ⟨_, _, _, rfl, _⟩ := h; rfl
  case body =>
    intro cdv A outer s H vs Q E hr h0
    obtain ⟨v, z, g, rfl, ⟨a, dx, l, h, r, ls, hs, rs, rfl, ha, dl, pl, dh, ph, ⟨kr, hrr, dr⟩, pr⟩, G, q⟩ := h0
    obtain ⟨fdW, F_Work___init__⟩ := F_Work___init__ (w := w) (base := base) C
    have F_check_known := F_check_known (w := w) (base := base) C
    refine ⟨_, (pss_cons (ps_expr (pe_callR F_check_known (hr.mono (by decide)) (by rfl) (C.g "check_known") (C.keep "check_known") (passes_call (takes_of rfl rfl rfl rfl) (fun _ _ _ _ h => h)) (pa_cons (pv 1) (pa_cons (pe_fld (pv 0) rfl : PE _ _ (tFld K _ _)) pa_nil)))) (pss_cons (ps_lock (ps_setDc (i := 2) (own := [("name", 3), ("told", 4)]) rfl sc.nd rfl rfl (sw_trueD rfl rfl rfl (by decide +kernel)) (pi_items (pe_fld (pv 0) rfl : PE _ _ (tFld K _ _))) (blkOk_by (N := ["self", "rope", "ropes", "name", "told"]) (sc := defScope (inClass (top 37) 13)) (by decide +kernel)) (fun _ _ _ _ _ => (pg_tup rfl (pgs_cons (pg_name (i := 3) sc.nd rfl (Or.inl rfl)) (pgs_cons (pg_name (i := 4) sc.nd rfl (Or.inl rfl)) pgs_nil)) : PG _ _ (gTup K 2 _))) (fun _ _ _ _ _ => pts_one (pt_cmpR op_ne (pv 3) (pv 1) (nomark _))) (fun _ _ _ _ _ => (pv 3)) (fun _ _ _ _ _ => (pv 4)) (fun _ => rfl))) (pss_one (ps_ret (pe_makeK (C.mkr "Work") F_Work___init__.1 (hr.mono (by decide)) (by rfl) (C.g "Work") F_Work___init__.2 (passes_call (takes_of rfl rfl rfl rfl) (fun _ _ _ _ h => h)) (pa_cons (pe_fld (pv 0) rfl : PE _ _ (tFld K _ _)) (pa_cons (pv 2) pa_nil)) (pk_cons (pe_fld (pv 0) rfl : PE _ _ (tFld K _ _)) pk_nil)))))), ?_⟩
    walk_at "w"
    refine ⟨z, r, kr, rfl, .inl hrr, ?_⟩
    rw [isSome_val dr, hasA_perm pr]
    cases hb : hasA g.ropes z with
    | false =>
      rw [hb] at q
      exact q H (Same.refl _)
    | true =>
      rw [hb] at q
      refine iteT ?_
      walk_at "w"
      refine w_lockS hrr True.intro fun od => ?_
      have kd0 : Kd H (upd H r (.frz od (.dK kr))) := kd_upd (by rw [hrr]; exact True.intro)
      have ha1 : upd H r (.frz od (.dK kr)) a = some (.ins (ga K "Work") dx (wkFs l h r)) := by rw [upd_ne (ne_of ha hrr (fun z => nomatch z))]; exact ha
      walk_at "w"
      refine ⟨r, od, kr, rfl, upd_same, fun D1 hD1 => ?_⟩
      have rkn : (rs.map (·.1)).Nodup := (pr.map _).nodup_iff.mpr G.rn
      have kn : (kr.map (·.1)).Nodup := by
        rw [dr.keys]
        exact List.Pairwise.map _ (fun a b hab e => hab (Sum.inr.inj e)) rkn
      have kz : kr.length ≤ 10 := by rw [dr.length, pr.length_eq]; exact G.r10
      refine dc_it walk_items (PvD _ D1 fun i => ((kr.take i).filter fun kv => decide (kv.1 ≠ (Sum.inr z : Key)))) (pvd_0 hD1 rfl) (fun i H1 _ pv => pv.2.1 _ _ upd_same) (fun i x H1 H2 hi pv y => ?_) (fun H1 pv1 => ?_)
      · obtain ⟨T, x1, y1, rfl, hT, rfl, e1, e2⟩ := y
        have hir : i < rs.length := by rw [← dr.length]; exact hi
        have he : rs[i]? = some (rs[i]'hir) := List.getElem?_eq_getElem _
        obtain ⟨v, hv, dv⟩ := dr.at_ he
        dsimp only at e1 e2
        rw [hv] at e1 e2
        cases e1
        cases e2
        have sT : Same H1 (upd H1 T (.tup [V.str (rs[i]'hir).1, v])) := same_upd_fresh hT (Same.refl _)
        have hTT : SqT K (upd H1 T (.tup [V.str (rs[i]'hir).1, v])) T [V.str (rs[i]'hir).1, v] := SqT.of upd_same
        refine w_gtup hTT rfl ?_
        walk_at "w"
        refine ⟨rfl, ?_⟩
        walk_at "w"
        by_cases hz : (rs[i]'hir).1 = z
        · refine ite_f (by rw [decide_eq_true hz]; rfl) ?_
          refine pvd_skip pv sT ?_
          rw [List.take_add_one, hv, Option.toList_some, List.filter_append, List.filter_cons, decide_eq_false (by rw [hz]; exact fun z => z rfl)]
          simp
        · refine ite_t (by rw [decide_eq_false hz]; rfl) ?_
          walk_at "w"
          refine pvd_step (k := .inr (rs[i]'hir).1) pv sT rfl ?_ ?_
          · rw [List.take_add_one, hv, Option.toList_some, List.filter_append, List.filter_cons, decide_eq_true (by intro e; exact hz (Sum.inr.inj e)), if_pos rfl, List.filter_nil]
            refine (putK_new _ ?_).symm
            have hnot : (Sum.inr (rs[i]'hir).1 : Key) ∉ ((kr.take i).filter fun kv => decide (kv.1 ≠ (Sum.inr z : Key))).map (·.1) := by
              intro hm
              obtain ⟨e, he2, he3⟩ := List.mem_map.mp hm
              obtain ⟨j, hj, hj2⟩ := List.mem_iff_getElem.mp (List.mem_filter.mp he2).1
              have hj3 : j < i := by rw [List.length_take] at hj; omega
              have h5 : (kr.map (·.1))[j]? = some (Sum.inr (rs[i]'hir).1 : Key) := by
                rw [List.getElem_take] at hj2
                rw [List.getElem?_map, List.getElem?_eq_getElem (by omega), hj2]
                exact congrArg some he3
              have h6 : (kr.map (·.1))[i]? = some (Sum.inr (rs[i]'hir).1 : Key) := by rw [List.getElem?_map, hv]; rfl
              have := (List.getElem?_inj (by rw [List.length_map]; omega) kn).mp (h5.trans h6.symm)
              omega
            have h7 := valV_any (Sum.inr (rs[i]'hir).1 : Key) ((kr.take i).filter fun kv => decide (kv.1 ≠ (Sum.inr z : Key)))
            have h8 : (((kr.take i).filter fun kv => decide (kv.1 ≠ (Sum.inr z : Key))).any fun kv => decide (kv.1 = (Sum.inr (rs[i]'hir).1 : Key))) = false := by
              rw [List.any_eq_false]
              intro e he2 he3
              exact hnot (List.mem_map.mpr ⟨e, he2, of_decide_eq_true he3⟩)
            rw [h8] at h7
            cases h9 : valV ((kr.take i).filter fun kv => decide (kv.1 ≠ (Sum.inr z : Key))) (Sum.inr (rs[i]'hir).1 : Key) with
            | none => rfl
            | some _ => rw [h9] at h7; cases h7
          · have h1 := List.length_filter_le (fun kv : Key × V => decide (kv.1 ≠ (Sum.inr z : Key))) (kr.take i)
            rw [List.length_take] at h1
            omega
      obtain ⟨u1, u2⟩ := same_unlock hrr True.intro pv1.2.1
      have hD2 : H1 D1 = some (.dK (dropK kr (.inr z))) := by
        rw [pv1.2.2]
        show some (HO.dK ((kr.take kr.length).filter _)) = _
        rw [List.take_length]
        rfl
      have hne : D1 ≠ r := ne_of hD2 u1 (fun z => nomatch z)
      refine ⟨u1, ?_⟩
      have hD3 : upd H1 r (.dK kr) D1 = some (.dK (dropK kr (.inr z))) := by rw [upd_ne hne]; exact hD2
      generalize upd H1 r (.dK kr) = H2 at u2 hD3 ⊢
      walk_at "w"
      refine r_fld (u2 _ _ ha) (C.cls _) (C.noat _ _) rfl ?_
      walk_at "w"
      refine r_fld (u2 _ _ ha) (C.cls _) (C.noat _ _) rfl ?_
      refine w_nil ?_
      exact u_makeW G.drop (dl.same u2 np_fr) pl (dh.same u2 np_fr) ph ⟨_, hD3, (dr.kd (same_kd u2) np_rope).drop⟩ (dropA_perm pr z) (fun x H' hx s wa => q x H' (Same.free u2 hx) (u2.trans s) wa)
end
end PW

/-! ##### SH -/
set_option Elab.async false
set_option linter.all false
set_option maxRecDepth 100000
set_option maxHeartbeats 2000000
namespace PW
open PySem PySem.Spec PyProof.Rows L2 He PWL

/-! ### the shop: pure -/
structure W2 where
  one : Giv
  two : Giv
def W2.get (w : W2) (n : Str) : Giv := if n = "one" then w.one else w.two
def W2.put (w : W2) (n : Str) (g : Giv) : W2 := if n = "one" then { w with one := g } else { w with two := g }
inductive En where
  | load (u n h : Str) (f : Int × Int)
  | rope (u n r : Str) (p : PVal) (f : Int × Int)
  | drop (u n r : Str)
def En.u : En → Str
  | .load u _ _ _ => u
  | .rope u _ _ _ _ => u
  | .drop u _ _ => u
def En.n : En → Str
  | .load _ n _ _ => n
  | .rope _ n _ _ _ => n
  | .drop _ n _ => n
def enD : En → PyData
  | .load u n h f => .tuple [.str u, .str n, .str "load", .str h, frD f]
  | .rope u n r p f => .tuple [.str u, .str n, .str "rope", .str r, pvD p, frD f]
  | .drop u n r => .tuple [.str u, .str n, .str "drop", .str r]
theorem np_en (e : En) : np (enD e) = true := by
  cases e with
  | load u n h f => rfl
  | rope u n r p f =>
    show np (.tuple [.str u, .str n, .str "rope", .str r, pvD p, frD f]) = true
    rw [np, npL, npL, npL, npL, npL, np_pv, npL, np_fr, npL]
    rfl
  | drop u n r => rfl
/-- sizes that the walks ask for -/
def enOk : En → Prop
  | .load u n _ _ => u.length ≤ 1000 ∧ n.length ≤ 1000
  | .rope u n r p _ => u.length ≤ 1000 ∧ n.length ≤ 1000 ∧ r.length ≤ 1000 ∧ pvLen p ≤ 1000
  | .drop u n _ => u.length ≤ 1000 ∧ n.length ≤ 1000
inductive Er where
  | unknown (z : Str) | number (f : Int × Int) | name (z : Str) | rope (z : Str) | limit (n : Int) | nothing
def doG (g : Giv) : En → Except Er Giv
  | .load _ _ h f => if hasA g.loads h = true then (if ldOk f = true then .ok { g with loads := putA g.loads h f } else .error (.number f)) else .error (.unknown h)
  | .rope _ _ r p f => if wordOk r SMALL = true then (match p with
    | .tup p => if (pathOk p g.pts && frOk' f) = true then (if (putA g.ropes r (p, f)).length ≤ 10 then .ok { g with ropes := putA g.ropes r (p, f) } else .error (.limit (putA g.ropes r (p, f)).length)) else .error (.rope r)
    | .lst _ => .error (.rope r)) else .error (.name r)
  | .drop _ _ r => if hasA g.ropes r = true then .ok { g with ropes := dropA g.ropes r } else .error (.unknown r)
def doW (w : W2) (e : En) : Except Er W2 := match doG (w.get e.n) e with
  | .ok g => .ok (w.put e.n g)
  | .error x => .error x
structure WOk (w : W2) : Prop where
  one : GOk w.one
  two : GOk w.two
theorem WOk.get {w : W2} (h : WOk w) (n : Str) : GOk (w.get n) := by
  unfold W2.get
  split
  · exact h.one
  · exact h.two
theorem WOk.put {w : W2} (h : WOk w) {n : Str} {g : Giv} (G : GOk g) : WOk (w.put n g) := by
  unfold W2.put
  split
  · exact ⟨G, h.two⟩
  · exact ⟨h.one, G⟩
theorem doG_ok {g g' : Giv} {e : En} (G : GOk g) (h : doG g e = .ok g') : GOk g' := by
  cases e with
  | load u n z f =>
    simp only [doG] at h
    split at h
    · split at h
      · cases h
        exact G.load (by assumption) (by assumption)
      · cases h
    · cases h
  | rope u n r p f =>
    simp only [doG] at h
    split at h
    · cases p with
      | lst p => cases h
      | tup p =>
        dsimp only at h
        split at h
        · rename_i h1 h2
          rw [Bool.and_eq_true] at h2
          split at h
          · cases h
            exact G.rope h1 h2.1 h2.2 (by assumption)
          · cases h
        · cases h
    · cases h
  | drop u n r =>
    simp only [doG] at h
    split at h
    · cases h
      exact G.drop
    · cases h
theorem doW_ok {w w' : W2} {e : En} (h : WOk w) (hd : doW w e = .ok w') : WOk w' := by
  unfold doW at hd
  cases hg : doG (w.get e.n) e with
  | error x => rw [hg] at hd; cases hd
  | ok g => rw [hg] at hd; cases hd; exact h.put (doG_ok (h.get _) hg)
/-- what is wished for of an error -/
def exEr (K : PySem.W.Frag) (E : XK) (H : Hp) : Er → Prop
  | .unknown z => exX K E H "UnknownName" "name" (.str z)
  | .number f => ∀ y, Dp K H y (frD f) → exX K E H "InvalidNumber" "value" y
  | .name z => exX K E H "InvalidName" "value" (.str z)
  | .rope z => exX K E H "InvalidRope" "name" (.str z)
  | .limit n => exX K E H "LimitExceeded" "count" (.int n)
  | .nothing => E (.ref (ga K "NothingToUndo")) none H
def wkv (w1 w2 : V) : List (Key × V) := [(.inr "one", w1), (.inr "two", w2)]
def WorksAt (K : PySem.W.Frag) (H : Hp) (v : V) (w : W2) : Prop := ∃ d w1 w2, v = .ref d ∧ H d = some (.dK (wkv w1 w2)) ∧ WorkAt K H w1 w.one ∧ WorkAt K H w2 w.two
theorem WorksAt.same {K : PySem.W.Frag} {H H' : Hp} {v : V} {w : W2} (e : Same H H') (h : WorksAt K H v w) : WorksAt K H' v w := let ⟨d, w1, w2, h1, h2, h3, h4⟩ := h; ⟨d, w1, w2, h1, e _ _ h2, h3.same e, h4.same e⟩
def isN (n : Str) : Prop := n = "one" ∨ n = "two"
theorem val_one {a b : V} : valV (wkv a b) (.inr "one") = some a := valV_pos rfl
theorem val_two {a b : V} : valV (wkv a b) (.inr "two") = some b := (valV_neg (by intro e; exact absurd (Sum.inr.inj e) (by decide))).trans (valV_pos rfl)
theorem put_one {a b v : V} : putK (wkv a b) (.inr "one") v = wkv v b := by
  unfold putK wkv
  rfl
theorem put_two {a b v : V} : putK (wkv a b) (.inr "two") v = wkv a v := by
  unfold putK wkv
  rfl
theorem get_one (w : W2) : w.get "one" = w.one := if_pos rfl
theorem get_two (w : W2) : w.get "two" = w.two := if_neg (by decide)
theorem put1 (w : W2) (g : Giv) : w.put "one" g = { w with one := g } := if_pos rfl
theorem put2 (w : W2) (g : Giv) : w.put "two" g = { w with two := g } := if_neg (by decide)
theorem WorksAt.val {K : PySem.W.Frag} {H : Hp} {d : Addr} {w1 w2 : V} {w : W2} {n : Str} (hn : isN n) (h1 : WorkAt K H w1 w.one) (h2 : WorkAt K H w2 w.two) : ∃ v, valV (wkv w1 w2) (.inr n) = some v ∧ WorkAt K H v (w.get n) ∧
    ∀ {H' : Hp} {d' : Addr} {v' : V} {g' : Giv}, Same H H' → WorkAt K H' v' g' → H' d' = some (.dK (putK (wkv w1 w2) (.inr n) v')) → WorksAt K H' (.ref d') (w.put n g') := by
  rcases hn with rfl | rfl
  · refine ⟨w1, val_one, by rw [get_one]; exact h1, fun e hw hd => ?_⟩
    rw [put_one] at hd
    rw [put1]
    exact ⟨_, _, _, rfl, hd, hw, h2.same e⟩
  · refine ⟨w2, val_two, by rw [get_two]; exact h2, fun e hw hd => ?_⟩
    rw [put_two] at hd
    rw [put2]
    exact ⟨_, _, _, rfl, hd, h1.same e, hw⟩
theorem wkv_nodup {a b : V} : ((wkv a b).map (·.1)).Nodup := by
  show [(Sum.inr ("one" : Str) : Key), Sum.inr "two"].Nodup
  rw [List.nodup_cons]
  refine ⟨?_, by simp⟩
  intro h
  have := List.mem_singleton.mp h
  exact absurd (Sum.inr.inj this) (by decide)
theorem m_dmerge {i j k : Nat} {σ : L2.St} {H : Hp} {Q : VK} {a : Addr} {kvs : List (Key × V)} {key : Key} {v : V} (hi : σ[i]? = some (some (.ref a))) (hj : σ[j]? = some (some (kV key))) (hk : σ[k]? = some (some v)) (ha : H a = some (.dK kvs)) (hn : (kvs.map (·.1)).Nodup) (hz : kvs.length ≤ 1000)
    (q : ∀ d H', H d = none → Same H H' → H' d = some (.dK (putK kvs key v)) → Q (.ref d) H') : tDmerge (tVar i) (tVar j) (tVar k) σ H Q := by
  intro d fd
  refine ⟨_, hi, a, kvs, rfl, .inl (by rw [upd_ne (ne_of_none ha fd)]; exact ha), ne_of_none ha fd, Nat.lt_of_le_of_lt hz (by decide), hn, upd_same, fun p fp => ?_⟩
  have hpd : d ≠ p := by
    intro e
    subst e
    rw [upd_same] at fp
    cases fp
  have fp4 : H p = none := by rw [upd_ne (Ne.symm hpd), upd_ne (Ne.symm hpd)] at fp; exact fp
  refine ⟨_, hj, _, hk, key, rfl, upd_same, by rw [upd_ne hpd]; exact upd_same, hpd, q d _ fd (fun b o hb => ?_) upd_same⟩
  rw [upd_ne (ne_of_none hb fd), upd_ne (ne_of_none hb fp4), upd_ne (ne_of_none hb fp4), upd_ne (ne_of_none hb fd), upd_ne (ne_of_none hb fd)]
  exact hb
theorem w_par3 {i j l : Nat} {ta : TA} {D : Ends} {σ : L2.St} {H : Hp} (h : ta σ H fun vs H1 => ∃ u v w, vs = [u, v, w] ∧ D.nx (((σ.set i (some u)).set j (some v)).set l (some w)) H1) : tPar3 i j l ta D σ H := h
theorem w_three {u v w : V} {P : V → V → V → Prop} (h : P u v w) : ∃ u' v' w', [u, v, w] = [u', v', w'] ∧ P u' v' w' := ⟨u, v, w, rfl, h⟩
def spApplied (K : PySem.W.Frag) : Sp := fun vs H Q E => ∃ (v y : V) (w : W2) (e : En), vs = [v, y] ∧ WorksAt K H v w ∧ WOk w ∧ Dp K H y (enD e) ∧ enOk e ∧ isN e.n ∧ match doW w e with
  | .ok w' => ∀ r H', H r = none → Same H H' → WorksAt K H' (.ref r) w' → Q (.ref r) H'
  | .error x => ∀ H', Same H H' → exEr K E H' x
theorem dp_load_inv {K : PySem.W.Frag} {H : Hp} {v : V} {u n h : Str} {f : Int × Int} (hd : Dp K H v (enD (.load u n h f))) : ∃ a y, v = .ref a ∧ SqT K H a [.str u, .str n, .str "load", .str h, y] ∧ Dp K H y (frD f) := by
  cases hd with
  | tup hx ha =>
    cases ha with
    | cons h1 ha => cases h1; cases ha with
      | cons h2 ha => cases h2; cases ha with
        | cons h3 ha => cases h3; cases ha with
          | cons h4 ha => cases h4; cases ha with
            | cons h5 ha => cases ha; exact ⟨_, _, rfl, hx, h5⟩
theorem dp_rope_inv' {K : PySem.W.Frag} {H : Hp} {v : V} {u n h : Str} {p : PVal} {f : Int × Int} (hd : Dp K H v (enD (.rope u n h p f))) : ∃ a x y, v = .ref a ∧ SqT K H a [.str u, .str n, .str "rope", .str h, x, y] ∧ Dp K H x (pvD p) ∧ Dp K H y (frD f) := by
  cases hd with
  | tup hx ha =>
    cases ha with
    | cons h1 ha => cases h1; cases ha with
      | cons h2 ha => cases h2; cases ha with
        | cons h3 ha => cases h3; cases ha with
          | cons h4 ha => cases h4; cases ha with
            | cons h5 ha => cases ha with
              | cons h6 ha => cases ha; exact ⟨_, _, _, rfl, hx, h5, h6⟩
theorem dp_drop_inv {K : PySem.W.Frag} {H : Hp} {v : V} {u n h : Str} (hd : Dp K H v (enD (.drop u n h))) : ∃ a, v = .ref a ∧ SqT K H a [.str u, .str n, .str "drop", .str h] := by
  cases hd with
  | tup hx ha =>
    cases ha with
    | cons h1 ha => cases h1; cases ha with
      | cons h2 ha => cases h2; cases ha with
        | cons h3 ha => cases h3; cases ha with
          | cons h4 ha => cases h4; cases ha; exact ⟨_, rfl, hx⟩
theorem dp_en (e : En) {K : PySem.W.Frag} {H : Hp} {v : V} (hd : Dp K H v (enD e)) : ∃ a, v = .ref a := by
  cases e with
  | load u n h f => obtain ⟨a, _, e, _⟩ := dp_load_inv hd; exact ⟨a, e⟩
  | rope u n r p f => obtain ⟨a, _, _, e, _⟩ := dp_rope_inv' hd; exact ⟨a, e⟩
  | drop u n r => obtain ⟨a, e, _⟩ := dp_drop_inv hd; exact ⟨a, e⟩
theorem doG_rope {g : Giv} {u n z : Str} {p : List Str} {f : Int × Int} (c1 : wordOk z SMALL = true) : doG g (.rope u n z (.tup p) f) = if (pathOk p g.pts && frOk' f) = true then (if (putA g.ropes z (p, f)).length ≤ 10 then .ok { g with ropes := putA g.ropes z (p, f) } else .error (.limit (putA g.ropes z (p, f)).length)) else .error (.rope z) := by
  show (if wordOk z SMALL = true then _ else _) = _
  rw [if_pos c1]
theorem doW_of {w : W2} {e : En} {g : Giv} (h : doG (w.get e.n) e = .ok g) : doW w e = .ok (w.put e.n g) := by unfold doW; rw [h]
theorem doW_er {w : W2} {e : En} {x : Er} (h : doG (w.get e.n) e = .error x) : doW w e = .error x := by unfold doW; rw [h]
theorem ifT {c : Prop} [Decidable c] {A B : Prop} (h : c) (a : A) : if c then A else B := by rw [if_pos h]; exact a
theorem ifF {c : Prop} [Decidable c] {A B : Prop} (h : ¬ c) (b : B) : if c then A else B := by rw [if_neg h]; exact b
theorem r_slT3 {K : PySem.W.Frag} {H : Hp} {Q : VK} {a : Addr} {x0 x1 x2 x3 : V} {r : List V} (hS : SqT K H a (x0 :: x1 :: x2 :: x3 :: r)) (h : ∀ p, H p = none → Q (.ref p) (upd H p (.tup (x3 :: r)))) : rSlA K (.ref a) (some 3) none H Q := by
  have e1 : HT.sIx (x0 :: x1 :: x2 :: x3 :: r).length 0 (some 3) = 3 := by
    show (if (3 : Int) < 0 then ((3 : Int) + ((x0 :: x1 :: x2 :: x3 :: r).length : Int)).toNat else min (3 : Int).toNat (x0 :: x1 :: x2 :: x3 :: r).length) = 3
    rw [if_neg (by decide)]
    simp only [List.length_cons]
    show min 3 _ = 3
    omega
  have e2 : cutV (x0 :: x1 :: x2 :: x3 :: r) (some 3) none = x3 :: r := by
    unfold cutV
    rw [e1]
    show List.take (HT.sIx _ _ none - 3) (x3 :: r) = _
    have e3 : HT.sIx (x0 :: x1 :: x2 :: x3 :: r).length (x0 :: x1 :: x2 :: x3 :: r).length none = (x0 :: x1 :: x2 :: x3 :: r).length := rfl
    rw [e3]
    refine List.take_of_length_le ?_
    simp only [List.length_cons]
    omega
  refine ⟨a, _, rfl, hS, fun hw => ?_, fun _ p hp => by rw [e2]; exact h p hp⟩
  rw [e1] at hw
  exact absurd hw.1 (by decide)
local macro_rules | `(tactic| walk_at "w") => `(tactic| (repeat (first | with_reducible refine w_seq ?_ | with_reducible refine w_ret ?_ | with_reducible refine w_asg ?_ | with_reducible refine w_ifs ?_ | with_reducible refine w_drop ?_ | with_reducible refine w_next ?_ | with_reducible refine w_cont ?_ | with_reducible refine w_par ?_ | with_reducible refine w_par3 ?_ | with_reducible refine w_three ?_ | with_reducible refine w_two ?_ | with_reducible refine w_name ?_ | with_reducible refine w_c ?_ | with_reducible refine w_op ?_ | with_reducible refine w_un ?_ | with_reducible refine w_cb ?_ | with_reducible refine w_cons ?_ | with_reducible refine w_nil ?_ | with_reducible refine w_tup ?_ | with_reducible refine w_lst ?_ | with_reducible refine w_test ?_ | with_reducible refine w_B ?_ | with_reducible refine w_k ?_ | with_reducible refine w_ki ?_ | with_reducible refine w_and ?_ | with_reducible refine w_or ?_ | with_reducible refine w_not ?_ | with_reducible refine w_andV ?_ | with_reducible refine w_orV ?_ | with_reducible refine w_notV ?_ | with_reducible refine w_if ?_ | with_reducible refine w_yes ?_ | with_reducible refine w_isN ?_ | with_reducible refine w_chain ?_ | with_reducible refine w_sl ?_ | with_reducible refine w_noPart ?_ | with_reducible refine w_part ?_ | with_reducible refine w_fld ?_ | with_reducible refine w_dget ?_ | with_reducible refine w_din ?_ | with_reducible refine w_dnotin ?_ | with_reducible refine w_dput ?_ | with_reducible refine w_newK ?_ | with_reducible refine w_sfld ?_ | with_reducible refine w_methR ?_ | with_reducible refine w_propR ?_ | with_reducible refine w_sl2 ?_ | with_reducible refine w_star ?_ | with_reducible refine w_retN ?_ | with_reducible refine w_gcons ?_ | with_reducible refine w_gnil ?_ | with_reducible refine r_i0 ?_ | with_reducible refine r_u ?_ | with_reducible refine r_eqi ?_ | with_reducible refine r_nei ?_ | with_reducible refine r_eqs ?_ | with_reducible refine r_nes ?_ | with_reducible refine iteT ?_ | with_reducible refine iteF ?_ | with_reducible refine w_lc ?_ | with_reducible refine w_dc ?_ | with_reducible refine w_for ?_ | with_reducible refine w_istr ?_ | with_reducible refine w_ilist ?_ | with_reducible refine w_itup ?_ | with_reducible refine w_irng1 ?_ | with_reducible refine w_irng2 ?_ | with_reducible refine w_ienum ?_ | with_reducible refine w_iitems ?_ | with_reducible refine w_ikeysT ?_ | with_reducible refine w_makeK ?_ | with_reducible refine w_methSN ?_ | with_reducible refine w_makeR ?_ | with_reducible refine w_callR ?_ | with_reducible refine w_dmerge ?_ | with_reducible refine w_ks ?_ | with_reducible refine w_kr ?_ | with_reducible refine isi_int_int ?_ | with_reducible refine isi_int_bool ?_ | with_reducible refine isi_str_str ?_ | with_reducible refine w_1i ?_ | with_reducible refine w_nn ?_ | with_reducible refine w_int_i ?_ | with_reducible refine w_int_b ?_ | ((with_reducible apply w_var); rfl) | ((with_reducible apply r_ixT); assumption; rfl) | ((with_reducible apply r_ixL); assumption; rfl) | ((with_reducible apply isi_tup_tup); assumption) | ((with_reducible apply isi_dict_dict); assumption) | ((with_reducible apply r_lenD); assumption) | ((with_reducible apply r_lenT); assumption) | ((with_reducible apply r_lenL); assumption) | ((with_reducible refine r_all (SqL.of ?_) ?_); assumption) | ((with_reducible apply r_fld); assumption; exact Cn.cls (by assumption) _; exact Cn.noat (by assumption) _ _; first | rfl | assumption) | ((with_reducible apply ite_t); rfl) | ((with_reducible apply ite_f); rfl))))
section
variable {P : Program} {w : World} {K : PySem.W.Frag} {mg : Str → Option Value} {base : Heap}
theorem F_applied (C : Cn P K mg) : FnR P w K mg base (L2.CX P w) 8 (ga K "applied") (spApplied K) := by
  obtain ⟨fd, F⟩ := C.d_applied
  have sc : FnScope ["works", "entry", "name", "word", "rest", "work", "changed"] ["works", "entry"] (defScope (top 41)) := ⟨rfl, rfl, rfl, by decide +kernel, rfl, by decide +kernel, by decide +kernel⟩
  refine fnR_of F sc ?len (fun _ _ _ _ _ _ us hl => match us, hl with | [_, _], _ => rfl) ?body
  case len => exact fun vs H Q E h => by obtain ⟨_, _, _, _, rfl, _⟩ := h; rfl
  case body =>
    intro cdv A outer s H vs Q E hr h0
    obtain ⟨v, y, w2, e, rfl, ⟨d, w1, wv2, rfl, hd, hw1, hw2⟩, W, hy, hz, hn, q⟩ := h0
    have F_Work_with_load := F_Work_with_load (w := w) (base := base) C
    have F_Work_with_rope := F_Work_with_rope (w := w) (base := base) C
    have F_Work_without_rope := F_Work_without_rope (w := w) (base := base) C
    obtain ⟨wv, hval, hwv, hput⟩ := WorksAt.val (d := d) hn hw1 hw2
    refine ⟨_, (pss_cons (ps_par3 (i := 2) (j := 3) (l := 4) (by rfl) sc.nd rfl rfl rfl (by decide) (by decide) (by decide) rfl rfl rfl (pa_cons (pe_ix (ix_tup : IxR _ (rIxT K)) (pv 1) pe_int (fun _ _ => rfl)) (pa_cons (pe_ix (ix_tup : IxR _ (rIxT K)) (pv 1) pe_int (fun _ _ => rfl)) (pa_cons (pe_slice (sl_tupA : SlR _ (rSlA K)) (pv 1) (po_some pe_int) po_none) pa_nil))) (by rfl)) (pss_cons (ps_set (i := 5) sc.nd rfl (Or.inl rfl) (pe_dget (hu_of hr) (pv 0) (pv 2) (fun _ _ => rfl))) (pss_cons (ps_if (pt_cmpR op_eq (pv 3) pe_str (nomark _)) (pss_one (ps_set (i := 6) sc.nd rfl (Or.inl rfl) (pe_methR (pv 5) (C.cls "Work") (C.meth "Work" "with_load") F_Work_with_load (hr.mono (by decide)) (passes_call (takes_of rfl rfl rfl rfl) (fun _ _ _ _ h => h)) (pa_cons (pe_ix (ix_tup : IxR _ (rIxT K)) (pv 4) pe_int (fun _ _ => rfl)) (pa_cons (pe_ix (ix_tup : IxR _ (rIxT K)) (pv 4) pe_int (fun _ _ => rfl)) pa_nil))))) (pss_one (ps_if (pt_cmpR op_eq (pv 3) pe_str (nomark _)) (pss_one (ps_set (i := 6) sc.nd rfl (Or.inl rfl) (pe_methR (pv 5) (C.cls "Work") (C.meth "Work" "with_rope") F_Work_with_rope (hr.mono (by decide)) (passes_call (takes_of rfl rfl rfl rfl) (fun _ _ _ _ h => h)) (pa_cons (pe_ix (ix_tup : IxR _ (rIxT K)) (pv 4) pe_int (fun _ _ => rfl)) (pa_cons (pe_ix (ix_tup : IxR _ (rIxT K)) (pv 4) pe_int (fun _ _ => rfl)) (pa_cons (pe_ix (ix_tup : IxR _ (rIxT K)) (pv 4) pe_int (fun _ _ => rfl)) pa_nil)))))) (pss_one (ps_set (i := 6) sc.nd rfl (Or.inl rfl) (pe_methR (pv 5) (C.cls "Work") (C.meth "Work" "without_rope") F_Work_without_rope (hr.mono (by decide)) (passes_call (takes_of rfl rfl rfl rfl) (fun _ _ _ _ h => h)) (pa_cons (pe_ix (ix_tup : IxR _ (rIxT K)) (pv 4) pe_int (fun _ _ => rfl)) pa_nil))))))) (pss_one (ps_ret (pe_dmerge (pv 0) (pv 2) (pv 6))))))), ?_⟩
    cases e with
    | load u n z f =>
      obtain ⟨a, fv, rfl, hS, hf⟩ := dp_load_inv hy
      walk_at "w"
      refine r_slT3 hS fun t ht => ?_
      have s1 : Same H (upd H t (.tup [.str z, fv])) := same_upd_fresh ht (Same.refl _)
      have ht1 : SqT K (upd H t (.tup [.str z, fv])) t [.str z, fv] := SqT.of upd_same
      generalize upd H t (.tup [.str z, fv]) = H1 at s1 ht1 ⊢
      walk_at "w"
      refine r_dgetS (.inl (s1 _ _ hd)) hval ?_
      walk_at "w"
      have hwv1 := hwv.same s1
      obtain ⟨wa, wdx, wl, wh, wr, wls, whs, wrs, rfl, hwa, hrest⟩ := id hwv1
      refine ⟨wa, wdx, _, rfl, hwa, rfl, ?_⟩
      walk_at "w"
      have hf1 := dp_kd (same_kd s1) (np_fr f) hf
      refine ⟨_, fv, z, f, _, rfl, hwv1, W.get _, hf1, ?_⟩
      by_cases c1 : hasA (w2.get n).loads z = true
      · by_cases c2 : ldOk f = true
        · rw [show doW w2 (.load u n z f) = .ok (w2.put n { w2.get n with loads := putA (w2.get n).loads z f }) by simp [doW, doG, En.n, c1, c2]] at q
          refine ifT c1 (ifT c2 ?_)
          intro x H2 fx s2 wx
          walk_at "w"
          refine m_dmerge rfl rfl rfl (key := .inr n) ((s1.trans s2) _ _ hd) wkv_nodup (by simp [wkv]) fun d3 H3 f3 s3 e3 => ?_
          exact q d3 H3 (Same.free (s1.trans s2) f3) ((s1.trans s2).trans s3) (hput ((s1.trans s2).trans s3) (wx.same s3) e3)
        · rw [show doW w2 (.load u n z f) = .error (.number f) by simp [doW, doG, En.n, c1, c2]] at q
          refine ifT c1 (ifF c2 ?_)
          exact fun H' s => q H' (s1.trans s) fv (dp_kd (same_kd (s1.trans s)) (np_fr f) hf)
      · rw [show doW w2 (.load u n z f) = .error (.unknown z) by simp [doW, doG, En.n, c1]] at q
        refine ifF c1 ?_
        exact fun H' s => q H' (s1.trans s)
    | rope u n z p f =>
      obtain ⟨a, pv, fv, rfl, hS, hp, hf⟩ := dp_rope_inv' hy
      walk_at "w"
      refine r_slT3 hS fun t ht => ?_
      have s1 : Same H (upd H t (.tup [.str z, pv, fv])) := same_upd_fresh ht (Same.refl _)
      have ht1 : SqT K (upd H t (.tup [.str z, pv, fv])) t [.str z, pv, fv] := SqT.of upd_same
      generalize upd H t (.tup [.str z, pv, fv]) = H1 at s1 ht1 ⊢
      walk_at "w"
      refine r_dgetS (.inl (s1 _ _ hd)) hval ?_
      walk_at "w"
      have hwv1 := hwv.same s1
      obtain ⟨wa, wdx, wl, wh, wr, wls, whs, wrs, rfl, hwa, hrest⟩ := id hwv1
      refine ⟨wa, wdx, _, rfl, hwa, rfl, ?_⟩
      walk_at "w"
      have hf1 := dp_kd (same_kd s1) (np_fr f) hf
      have hp1 := dp_kd (same_kd s1) (np_pv p) hp
      refine ⟨_, pv, fv, z, p, f, _, rfl, hwv1, W.get _, hz.2.2.1, hz.2.2.2, hp1, hf1, ?_⟩
      by_cases c1 : wordOk z SMALL = true
      · refine ifT c1 ?_
        cases p with
        | lst p =>
          rw [show doW w2 (.rope u n z (.lst p) f) = .error (.rope z) by simp [doW, doG, En.n, c1]] at q
          exact fun H' s => q H' (s1.trans s)
        | tup p =>
          by_cases c2 : (pathOk p (w2.get n).pts && frOk' f) = true
          · by_cases c3 : (putA (w2.get n).ropes z (p, f)).length ≤ 10
            · rw [show doW w2 (.rope u n z (.tup p) f) = .ok (w2.put n { w2.get n with ropes := putA (w2.get n).ropes z (p, f) }) from doW_of (by rw [doG_rope c1]; exact (if_pos c2).trans (if_pos c3))] at q
              refine ifT c2 (ifT c3 ?_)
              intro x H2 fx s2 wx
              walk_at "w"
              refine m_dmerge rfl rfl rfl (key := .inr n) ((s1.trans s2) _ _ hd) wkv_nodup (by simp [wkv]) fun d3 H3 f3 s3 e3 => ?_
              exact q d3 H3 (Same.free (s1.trans s2) f3) ((s1.trans s2).trans s3) (hput ((s1.trans s2).trans s3) (wx.same s3) e3)
            · rw [show doW w2 (.rope u n z (.tup p) f) = .error (.limit (putA (w2.get n).ropes z (p, f)).length) from doW_er (by rw [doG_rope c1]; exact (if_pos c2).trans (if_neg c3))] at q
              refine ifT c2 (ifF c3 ?_)
              exact fun H' s => q H' (s1.trans s)
          · rw [show doW w2 (.rope u n z (.tup p) f) = .error (.rope z) from doW_er (by rw [doG_rope c1]; exact if_neg c2)] at q
            refine ifF c2 ?_
            exact fun H' s => q H' (s1.trans s)
      · rw [show doW w2 (.rope u n z p f) = .error (.name z) from doW_er (if_neg c1)] at q
        refine ifF c1 ?_
        exact fun H' s => q H' (s1.trans s)
    | drop u n z =>
      obtain ⟨a, rfl, hS⟩ := dp_drop_inv hy
      walk_at "w"
      refine r_slT3 hS fun t ht => ?_
      have s1 : Same H (upd H t (.tup [.str z])) := same_upd_fresh ht (Same.refl _)
      have ht1 : SqT K (upd H t (.tup [.str z])) t [.str z] := SqT.of upd_same
      generalize upd H t (.tup [.str z]) = H1 at s1 ht1 ⊢
      walk_at "w"
      refine r_dgetS (.inl (s1 _ _ hd)) hval ?_
      walk_at "w"
      have hwv1 := hwv.same s1
      obtain ⟨wa, wdx, wl, wh, wr, wls, whs, wrs, rfl, hwa, hrest⟩ := id hwv1
      refine ⟨wa, wdx, _, rfl, hwa, rfl, ?_⟩
      walk_at "w"
      refine ⟨_, z, _, rfl, hwv1, W.get _, ?_⟩
      by_cases c1 : hasA (w2.get n).ropes z = true
      · rw [show doW w2 (.drop u n z) = .ok (w2.put n { w2.get n with ropes := dropA (w2.get n).ropes z }) from doW_of (if_pos c1)] at q
        refine ifT c1 ?_
        intro x H2 fx s2 wx
        walk_at "w"
        refine m_dmerge rfl rfl rfl (key := .inr n) ((s1.trans s2) _ _ hd) wkv_nodup (by simp [wkv]) fun d3 H3 f3 s3 e3 => ?_
        exact q d3 H3 (Same.free (s1.trans s2) f3) ((s1.trans s2).trans s3) (hput ((s1.trans s2).trans s3) (wx.same s3) e3)
      · rw [show doW w2 (.drop u n z) = .error (.unknown z) from doW_er (if_neg c1)] at q
        refine ifF c1 ?_
        exact fun H' s => q H' (s1.trans s)
end
end PW

/-! ##### WS -/
set_option Elab.async false
set_option linter.all false
set_option maxRecDepth 100000
set_option maxHeartbeats 2000000
namespace PW
open PySem PySem.Spec PyProof.Rows L2 He PWL

/-! ### the workshop -/
structure Shop where
  first : W2
  works : W2
  es : List En
  ad : Addr × V
structure ShOk (s : Shop) : Prop where
  f : WOk s.first
  w : WOk s.works
  e : ∀ e ∈ s.es, enOk e ∧ isN e.n
  z : s.es.length ≤ 1000
def shFs (fw ow oe : V) : List (Str × V) := [("first_works", fw), ("own_works", ow), ("own_entries", oe)]
def ShopAt (K : PySem.W.Frag) (H : Hp) (s : Addr) (st : Shop) : Prop := ∃ dx fw ow oe evs, H s = some (.ins (ga K "Workshop") dx (shFs fw ow (.ref oe))) ∧ WorksAt K H fw st.first ∧ WorksAt K H ow st.works ∧ H oe = some (.lst evs) ∧ DpAll K H evs (st.es.map enD) ∧ st.ad = (dx, fw)
def isNb (n : Str) : Bool := decide (n = "one") || decide (n = "two")
theorem isNb_iff {n : Str} : isNb n = true ↔ isN n := by
  unfold isNb isN
  rw [Bool.or_eq_true, decide_eq_true_iff, decide_eq_true_iff]
def doS (st : Shop) (e : En) : Except Er Shop := if wordOk e.u SMALL = true then (if isNb e.n = true then (match doW st.works e with
  | .ok w => .ok { st with works := w, es := st.es ++ [e] }
  | .error x => .error x) else .error (.unknown e.n)) else .error (.name e.u)
theorem npL_en : ∀ es : List En, npL (es.map enD) = true
  | [] => rfl
  | e :: es => by rw [List.map_cons, npL, np_en, npL_en es]; rfl
theorem WorkAt.sx {K : PySem.W.Frag} {H H' : Hp} {s C dx : Addr} {fs : List (Str × V)} {v : V} {g : Giv} (e : SX s H H') (hs : H s = some (.ins C dx fs)) (hf : ∀ l h r, fs ≠ wkFs l h r) (h : WorkAt K H v g) : WorkAt K H' v g := by
  obtain ⟨a, d, l, hh, r, ls, hs', rs, h1, h2, h3, h4, h5, h6, h7, h8⟩ := h
  refine ⟨a, d, l, hh, r, ls, hs', rs, h1, e _ _ (ne_of h2 hs (fun z => ?_)) h2, h3.sx e hs np_fr, h4, h5.sx e hs np_fr, h6, h7.sx e hs np_rope, h8⟩
  injection z with z1 z2 z3
  exact hf _ _ _ z3.symm
theorem WorksAt.sx {K : PySem.W.Frag} {H H' : Hp} {s C dx : Addr} {fs : List (Str × V)} {v : V} {w : W2} (e : SX s H H') (hs : H s = some (.ins C dx fs)) (hf : ∀ l h r, fs ≠ wkFs l h r) (h : WorksAt K H v w) : WorksAt K H' v w := by
  obtain ⟨d, w1, w2, h1, h2, h3, h4⟩ := h
  exact ⟨d, w1, w2, h1, e _ _ (ne_of h2 hs (fun z => nomatch z)) h2, h3.sx e hs hf, h4.sx e hs hf⟩
theorem ShopAt.same {K : PySem.W.Frag} {H H' : Hp} {s : Addr} {st : Shop} (e : Same H H') (h : ShopAt K H s st) : ShopAt K H' s st := by
  obtain ⟨dx, fw, ow, oe, evs, h1, h2, h3, h4, h5, h6⟩ := h
  exact ⟨dx, fw, ow, oe, evs, e _ _ h1, h2.same e, h3.same e, e _ _ h4, dpAll_kd (same_kd e) (npL_en _) h5, h6⟩
theorem shFs_ne {fw ow oe : V} : ∀ l h r, shFs fw ow oe ≠ wkFs l h r := fun l h r e => by
  injection e with e1 e2
  injection e1 with e3 e4
  exact absurd e3 (by decide)
def spCheck (K : PySem.W.Frag) : Sp := fun vs H Q E => ∃ (s dx : Addr) (u n : Str) (fw ow oe : V) (w : W2), vs = [.ref s, .str u, .str n] ∧ H s = some (.ins (ga K "Workshop") dx (shFs fw ow oe)) ∧ WorksAt K H ow w ∧ u.length ≤ 1000 ∧
  if wordOk u SMALL = true then (if isNb n = true then ∀ H', Same H H' → Q .non H' else ∀ H', Same H H' → exEr K E H' (.unknown n)) else ∀ H', Same H H' → exEr K E H' (.name u)
def spRecord (K : PySem.W.Frag) : Sp := fun vs H Q E => ∃ (s : Addr) (y : V) (st : Shop) (e : En), vs = [.ref s, y] ∧ ShopAt K H s st ∧ ShOk st ∧ Dp K H y (enD e) ∧ enOk e ∧ isN e.n ∧ match doW st.works e with
  | .ok w => ∀ H', SX s H H' → ShopAt K H' s { st with works := w, es := st.es ++ [e] } → Q .non H'
  | .error x => ∀ H', Same H H' → exEr K E H' x
def shRes (K : PySem.W.Frag) (H : Hp) (Q : VK) (E : XK) (s : Addr) (st : Shop) (e : En) : Prop := match doS st e with
  | .ok st' => ∀ H', SX s H H' → ShopAt K H' s st' → Q .non H'
  | .error x => ∀ H', Same H H' → exEr K E H' x
def spSetLoad (K : PySem.W.Frag) : Sp := fun vs H Q E => ∃ (s : Addr) (u n h : Str) (y : V) (f : Int × Int) (st : Shop), vs = [.ref s, .str u, .str n, .str h, y] ∧ ShopAt K H s st ∧ ShOk st ∧ Dp K H y (frD f) ∧ enOk (.load u n h f) ∧ shRes K H Q E s st (.load u n h f)
def spSetRope (K : PySem.W.Frag) : Sp := fun vs H Q E => ∃ (s : Addr) (u n h : Str) (x y : V) (p : PVal) (f : Int × Int) (st : Shop), vs = [.ref s, .str u, .str n, .str h, x, y] ∧ ShopAt K H s st ∧ ShOk st ∧ Dp K H x (pvD p) ∧ Dp K H y (frD f) ∧ enOk (.rope u n h p f) ∧ shRes K H Q E s st (.rope u n h p f)
def spDrop (K : PySem.W.Frag) : Sp := fun vs H Q E => ∃ (s : Addr) (u n h : Str) (st : Shop), vs = [.ref s, .str u, .str n, .str h] ∧ ShopAt K H s st ∧ ShOk st ∧ enOk (.drop u n h) ∧ shRes K H Q E s st (.drop u n h)
theorem dpAll_snoc {K : PySem.W.Frag} {H : Hp} {v : V} {d : PyData} : ∀ {vs : List V} {ds : List PyData}, DpAll K H vs ds → Dp K H v d → DpAll K H (vs ++ [v]) (ds ++ [d])
  | _, _, .nil, h => .cons h .nil
  | _, _, .cons h1 t, h => .cons h1 (dpAll_snoc t h)
theorem val_wkv {a b : V} {n : Str} : (valV (wkv a b) (.inr n)).isSome = isNb n := by
  by_cases h1 : n = "one"
  · subst h1
    rw [val_one]
    rfl
  · by_cases h2 : n = "two"
    · subst h2
      rw [val_two]
      rfl
    · have e : valV (wkv a b) (.inr n) = none := (valV_neg (by intro e; exact h1 (Sum.inr.inj e).symm)).trans ((valV_neg (by intro e; exact h2 (Sum.inr.inj e).symm)).trans rfl)
      rw [e, isNb, decide_eq_false h1, decide_eq_false h2]
      rfl
theorem dpAll_len {K : PySem.W.Frag} {H : Hp} : ∀ {vs : List V} {ds : List PyData}, DpAll K H vs ds → vs.length = ds.length
  | _, _, .nil => rfl
  | _, _, .cons _ t => by rw [List.length_cons, List.length_cons, dpAll_len t]
local macro_rules | `(tactic| walk_at "w") => `(tactic| (repeat (first | with_reducible refine w_seq ?_ | with_reducible refine w_ret ?_ | with_reducible refine w_asg ?_ | with_reducible refine w_ifs ?_ | with_reducible refine w_drop ?_ | with_reducible refine w_next ?_ | with_reducible refine w_cont ?_ | with_reducible refine w_par ?_ | with_reducible refine w_par3 ?_ | with_reducible refine w_three ?_ | with_reducible refine w_two ?_ | with_reducible refine w_name ?_ | with_reducible refine w_c ?_ | with_reducible refine w_op ?_ | with_reducible refine w_un ?_ | with_reducible refine w_cb ?_ | with_reducible refine w_cons ?_ | with_reducible refine w_nil ?_ | with_reducible refine w_tup ?_ | with_reducible refine w_lst ?_ | with_reducible refine w_test ?_ | with_reducible refine w_B ?_ | with_reducible refine w_k ?_ | with_reducible refine w_ki ?_ | with_reducible refine w_and ?_ | with_reducible refine w_or ?_ | with_reducible refine w_not ?_ | with_reducible refine w_andV ?_ | with_reducible refine w_orV ?_ | with_reducible refine w_notV ?_ | with_reducible refine w_if ?_ | with_reducible refine w_yes ?_ | with_reducible refine w_isN ?_ | with_reducible refine w_chain ?_ | with_reducible refine w_sl ?_ | with_reducible refine w_noPart ?_ | with_reducible refine w_part ?_ | with_reducible refine w_fld ?_ | with_reducible refine w_dget ?_ | with_reducible refine w_din ?_ | with_reducible refine w_dnotin ?_ | with_reducible refine w_dput ?_ | with_reducible refine w_newK ?_ | with_reducible refine w_sfld ?_ | with_reducible refine w_methR ?_ | with_reducible refine w_propR ?_ | with_reducible refine w_sl2 ?_ | with_reducible refine w_star ?_ | with_reducible refine w_retN ?_ | with_reducible refine w_gcons ?_ | with_reducible refine w_gnil ?_ | with_reducible refine r_i0 ?_ | with_reducible refine r_u ?_ | with_reducible refine r_eqi ?_ | with_reducible refine r_nei ?_ | with_reducible refine r_eqs ?_ | with_reducible refine r_nes ?_ | with_reducible refine iteT ?_ | with_reducible refine iteF ?_ | with_reducible refine w_lc ?_ | with_reducible refine w_dc ?_ | with_reducible refine w_for ?_ | with_reducible refine w_istr ?_ | with_reducible refine w_ilist ?_ | with_reducible refine w_itup ?_ | with_reducible refine w_irng1 ?_ | with_reducible refine w_irng2 ?_ | with_reducible refine w_ienum ?_ | with_reducible refine w_iitems ?_ | with_reducible refine w_ikeysT ?_ | with_reducible refine w_makeK ?_ | with_reducible refine w_methSN ?_ | with_reducible refine w_makeR ?_ | with_reducible refine w_callR ?_ | with_reducible refine w_dmerge ?_ | with_reducible refine w_ks ?_ | with_reducible refine w_kr ?_ | with_reducible refine isi_int_int ?_ | with_reducible refine isi_int_bool ?_ | with_reducible refine isi_str_str ?_ | with_reducible refine w_1i ?_ | with_reducible refine w_nn ?_ | with_reducible refine w_int_i ?_ | with_reducible refine w_int_b ?_ | ((with_reducible apply w_var); rfl) | ((with_reducible apply r_ixT); assumption; rfl) | ((with_reducible apply r_ixL); assumption; rfl) | ((with_reducible apply isi_tup_tup); assumption) | ((with_reducible apply isi_dict_dict); assumption) | ((with_reducible apply r_lenD); assumption) | ((with_reducible apply r_lenT); assumption) | ((with_reducible apply r_lenL); assumption) | ((with_reducible refine r_all (SqL.of ?_) ?_); assumption) | ((with_reducible apply r_fld); assumption; exact Cn.cls (by assumption) _; exact Cn.noat (by assumption) _ _; first | rfl | assumption) | ((with_reducible apply ite_t); rfl) | ((with_reducible apply ite_f); rfl))))
section
variable {P : Program} {w : World} {K : PySem.W.Frag} {mg : Str → Option Value} {base : Heap}
theorem F_Workshop_check (C : Cn P K mg) : FnR P w K mg base (L2.CX P w) 3 (ma K (ga K "Workshop") "check") (spCheck K) := by
  obtain ⟨fd, F⟩ := C.d_Workshop_check
  have sc : FnScope ["self", "user", "name"] ["self", "user", "name"] (defScope (inClass (top 43) 3)) := ⟨rfl, rfl, rfl, by decide +kernel, rfl, by decide +kernel, by decide +kernel⟩
  refine fnR_of F sc ?len (fun _ _ _ _ _ _ us hl => match us, hl with | [_, _, _], _ => rfl) ?body
  case len => exact fun vs H Q E h => by obtain ⟨_, _, _, _, _, _, _, _, rfl, _⟩ := h; rfl
  case body =>
    intro cdv A outer s H vs Q E hr h0
    obtain ⟨sh, dx, u, n, fw, ow, oe, w2, rfl, hs, ⟨d, w1, wv2, rfl, hd, _, _⟩, hu, q⟩ := h0
    have F_is_name := F_is_name (w := w) (base := base) C
    have F_check_known := F_check_known (w := w) (base := base) C
    refine ⟨_, (pss_cons (ps_if (pt_not (pt_val (pe_callR F_is_name (hr.mono (by decide)) (by rfl) (C.g "is_name") (C.keep "is_name") (passes_call (takes_of rfl rfl rfl rfl) (fun _ _ _ _ h => h)) (pa_cons (pv 1) pa_nil)))) (pss_one (ps_raiseX rfl C.x_InvalidName hr (takes_of rfl rfl rfl rfl) (pa_cons (pv 1) pa_nil))) pss_nil) (pss_one (ps_expr (pe_callR F_check_known (hr.mono (by decide)) (by rfl) (C.g "check_known") (C.keep "check_known") (passes_call (takes_of rfl rfl rfl rfl) (fun _ _ _ _ h => h)) (pa_cons (pv 2) (pa_cons (pe_fld (pv 0) rfl : PE _ _ (tFld K _ _)) pa_nil)))))), ?_⟩
    walk_at "w"
    refine u_isName (by omega) fun H1 s1 => ?_
    have hs1 := s1 _ _ hs
    cases hb : wordOk u "abcdefghijklmnopqrstuvwxyz" with
    | false =>
      have hb' : wordOk u SMALL = false := hb
      rw [hb'] at q
      walk_at "w"
      refine w_raiseX ?_
      walk_at "w"
      exact w_one (q H1 s1)
    | true =>
      have hb' : wordOk u SMALL = true := hb
      rw [hb', if_pos rfl] at q
      walk_at "w"
      refine ⟨n, d, _, rfl, .inl (s1 _ _ hd), ?_⟩
      rw [val_wkv]
      cases hn : isNb n with
      | false =>
        rw [hn] at q
        exact q H1 s1
      | true =>
        rw [hn, if_pos rfl] at q
        exact iteT (q H1 s1)
theorem F_Workshop_record (C : Cn P K mg) : FnR P w K mg base (L2.CX P w) 9 (ma K (ga K "Workshop") "record") (spRecord K) := by
  obtain ⟨fd, F⟩ := C.d_Workshop_record
  have sc : FnScope ["self", "entry"] ["self", "entry"] (defScope (inClass (top 43) 4)) := ⟨rfl, rfl, rfl, by decide +kernel, rfl, by decide +kernel, by decide +kernel⟩
  refine fnR_of F sc ?len (fun _ _ _ _ _ _ us hl => match us, hl with | [_, _], _ => rfl) ?body
  case len => exact fun vs H Q E h => by obtain ⟨_, _, _, _, rfl, _⟩ := h; rfl
  case body =>
    intro cdv A outer s H vs Q E hr h0
    obtain ⟨sh, y, st, e, rfl, ⟨dx, fw, ow, oe, evs, hs, hfw, how, hoe, hev, had⟩, ok, hy, he, hn, q⟩ := h0
    have F_applied := F_applied (w := w) (base := base) C
    refine ⟨_, (pss_cons (ps_fld (pv 0) (pe_callR F_applied (hr.mono (by decide)) (by rfl) (C.g "applied") (C.keep "applied") (passes_call (takes_of rfl rfl rfl rfl) (fun _ _ _ _ h => h)) (pa_cons (pe_fld (pv 0) rfl : PE _ _ (tFld K _ _)) (pa_cons (pv 1) pa_nil))) rfl) (pss_one (ps_fld (pv 0) (pe_op op_cat (pe_fld (pv 0) rfl : PE _ _ (tFld K _ _)) (pe_lst (pa_cons (pv 1) pa_nil))) rfl))), ?_⟩
    walk_at "w"
    refine ⟨ow, y, st.works, e, rfl, how, ok.w, hy, he, hn, ?_⟩
    cases hq : doW st.works e with
    | error x =>
      rw [hq] at q
      exact q
    | ok w' =>
      rw [hq] at q
      intro r H1 f1 s1 hw'
      have hs1 := s1 _ _ hs
      walk_at "w"
      refine r_sfld hs1 (C.cls _) (C.noat _ _) (by simp [shFs]) ?_
      generalize hH2 : upd H1 sh (.ins (ga K "Workshop") dx (putF "own_works" (.ref r) (shFs fw ow (.ref oe)))) = H2
      have hs2 : H2 sh = some (.ins (ga K "Workshop") dx (shFs fw (.ref r) (.ref oe))) := by rw [← hH2]; exact upd_same
      have t12 : SX sh H1 H2 := hH2 ▸ sx_upd
      have noe : oe ≠ sh := ne_of (s1 _ _ hoe) hs1 (fun z => nomatch z)
      have hoe2 : H2 oe = some (.lst evs) := t12 _ _ noe (s1 _ _ hoe)
      have hfw2 : WorksAt K H2 fw st.first := (hfw.same s1).sx t12 hs1 shFs_ne
      have how2 : WorksAt K H2 (.ref r) w' := hw'.sx t12 hs1 shFs_ne
      have kd2 : Kd H H2 := (same_kd s1).trans (sx_kd t12 (by rw [hs1]; exact True.intro))
      walk_at "w"
      refine w_fresh (by simp) fun l hl => ?_
      have s23 : Same H2 (upd H2 l (.lst [y])) := same_upd_fresh hl (Same.refl _)
      have levs : evs.length ≤ 1000 := by rw [dpAll_len hev, List.length_map]; exact ok.z
      refine r_cat (s23 _ _ hoe2) upd_same (by simp; omega) fun l2 hl2 => ?_
      generalize hH4 : upd (upd H2 l (.lst [y])) l2 (.lst (evs ++ [y])) = H4
      have s24 : Same H2 H4 := hH4 ▸ s23.trans (same_upd_fresh hl2 (Same.refl _))
      have hl4 : H4 l2 = some (.lst (evs ++ [y])) := by rw [← hH4]; exact upd_same
      have hs4 := s24 _ _ hs2
      walk_at "w"
      refine r_sfld hs4 (C.cls _) (C.noat _ _) (by simp [shFs]) ?_
      generalize hH5 : upd H4 sh (.ins (ga K "Workshop") dx (putF "own_entries" (.ref l2) (shFs fw (.ref r) (.ref oe)))) = H5
      have hs5 : H5 sh = some (.ins (ga K "Workshop") dx (shFs fw (.ref r) (.ref l2))) := by rw [← hH5]; exact upd_same
      have t45 : SX sh H4 H5 := hH5 ▸ sx_upd
      have kd5 : Kd H H5 := (kd2.trans (same_kd s24)).trans (sx_kd t45 (by rw [hs4]; exact True.intro))
      walk_at "w"
      refine q H5 ((((sx_same s1).trans t12).trans (sx_same s24)).trans t45) ⟨dx, fw, .ref r, l2, evs ++ [y], hs5, (hfw2.same s24).sx t45 hs4 shFs_ne, (how2.same s24).sx t45 hs4 shFs_ne, t45 _ _ (ne_of hl4 hs4 (fun z => nomatch z)) hl4, ?_, had⟩
      rw [List.map_append]
      exact dpAll_snoc (dpAll_kd kd5 (npL_en _) hev) (dp_kd kd5 (np_en _) hy)
theorem F_Workshop_set_load (C : Cn P K mg) : FnR P w K mg base (L2.CX P w) 10 (ma K (ga K "Workshop") "set_load") (spSetLoad K) := by
  obtain ⟨fd, F⟩ := C.d_Workshop_set_load
  have sc : FnScope ["self", "user", "name", "hook", "load"] ["self", "user", "name", "hook", "load"] (defScope (inClass (top 43) 5)) := ⟨rfl, rfl, rfl, by decide +kernel, rfl, by decide +kernel, by decide +kernel⟩
  refine fnR_of F sc ?len (fun _ _ _ _ _ _ us hl => match us, hl with | [_, _, _, _, _], _ => rfl) ?body
  case len => exact fun vs H Q E h => by obtain ⟨_, _, _, _, _, _, _, rfl, _⟩ := h; rfl
  case body =>
    intro cdv A outer s H vs Q E hr h0
    obtain ⟨sh, u, n, h, y, f, st, rfl, hsh, ok, hy, he, q⟩ := h0
    obtain ⟨dx, fw, ow, oe, evs, hs, hfw, how, hoe, hev, had⟩ := id hsh
    have F_Workshop_check := F_Workshop_check (w := w) (base := base) C
    have F_Workshop_record := F_Workshop_record (w := w) (base := base) C
    refine ⟨_, (pss_cons (ps_expr (pe_methR (pv 0) (C.cls "Workshop") (C.meth "Workshop" "check") F_Workshop_check (hr.mono (by decide)) (passes_call (takes_of rfl rfl rfl rfl) (fun _ _ _ _ h => h)) (pa_cons (pv 1) (pa_cons (pv 2) pa_nil)))) (pss_one (ps_expr (pe_methR (pv 0) (C.cls "Workshop") (C.meth "Workshop" "record") F_Workshop_record (hr.mono (by decide)) (passes_call (takes_of rfl rfl rfl rfl) (fun _ _ _ _ h => h)) (pa_cons (pe_tup (pa_cons (pv 1) (pa_cons (pv 2) (pa_cons pe_str (pa_cons (pv 3) (pa_cons (pv 4) pa_nil)))))) pa_nil))))), ?_⟩
    walk_at "w"
    refine ⟨sh, dx, _, rfl, hs, rfl, ?_⟩
    walk_at "w"
    unfold shRes doS at q
    refine ⟨sh, dx, u, n, fw, ow, .ref oe, st.works, rfl, hs, how, he.1, ?_⟩
    by_cases c1 : wordOk u SMALL = true
    · refine ifT c1 ?_
      by_cases c2 : isNb n = true
      · refine ifT c2 fun H1 s1 => ?_
        walk_at "w"
        refine ⟨sh, dx, _, rfl, s1 _ _ hs, rfl, ?_⟩
        walk_at "w"
        refine w_fresh (by simp) fun t ht => ?_
        have s2 := s1.trans (same_upd_fresh (o := .tup [.str u, .str n, .str "load", .str h, y]) ht (Same.refl _))
        walk_at "w"
        have hy2 := dp_kd (same_kd s2) (np_fr f) hy
        refine ⟨sh, _, st, .load u n h f, rfl, hsh.same s2, ok, .tup (SqT.of upd_same) (.cons (.str _) (.cons (.str _) (.cons (.str _) (.cons (.str _) (.cons hy2 .nil))))), he, isNb_iff.mp c2, ?_⟩
        rw [if_pos (show wordOk (En.load u n h f).u SMALL = true from c1), if_pos (show isNb (En.load u n h f).n = true from c2)] at q
        cases hq : doW st.works (.load u n h f) with
        | ok w' =>
          rw [hq] at q
          exact fun H' t h => q H' ((sx_same s2).trans t) h
        | error x =>
          rw [hq] at q
          exact fun H' t => q H' (s2.trans t)
      · refine ifF c2 ?_
        rw [if_pos (show wordOk (En.load u n h f).u SMALL = true from c1), if_neg (show ¬ isNb (En.load u n h f).n = true from c2)] at q
        exact q
    · refine ifF c1 ?_
      rw [if_neg (show ¬ wordOk (En.load u n h f).u SMALL = true from c1)] at q
      exact q
end
end PW

/-! ##### WT -/
set_option Elab.async false
set_option linter.all false
set_option maxRecDepth 100000
set_option maxHeartbeats 2000000
namespace PW
open PySem PySem.Spec PyProof.Rows L2 He PWL

/-! ### more of the workshop -/
def spWork (K : PySem.W.Frag) : Sp := fun vs H Q _ => ∃ (s dx : Addr) (n : Str) (fw oe : V) (d : Addr) (w1 w2 v : V), vs = [.ref s, .str n] ∧ H s = some (.ins (ga K "Workshop") dx (shFs fw (.ref d) oe)) ∧ H d = some (.dK (wkv w1 w2)) ∧ valV (wkv w1 w2) (.inr n) = some v ∧ Q v H
def spNames (K : PySem.W.Frag) : Sp := fun vs H Q _ => ∃ (s dx : Addr) (fw oe : V) (d : Addr) (w1 w2 : V), vs = [.ref s] ∧ H s = some (.ins (ga K "Workshop") dx (shFs fw (.ref d) oe)) ∧ H d = some (.dK (wkv w1 w2)) ∧ ∀ p H', H p = none → Same H H' → H' p = some (.lst [.str "one", .str "two"]) → Q (.ref p) H'
def spEntries (K : PySem.W.Frag) : Sp := fun vs H Q _ => ∃ (s dx : Addr) (fw ow : V) (oe : Addr) (evs : List V), vs = [.ref s] ∧ H s = some (.ins (ga K "Workshop") dx (shFs fw ow (.ref oe))) ∧ H oe = some (.lst evs) ∧ ∀ p H', H p = none → Same H H' → H' p = some (.lst evs) → Q (.ref p) H'
def spLenS (K : PySem.W.Frag) : Sp := fun vs H Q _ => ∃ (s dx : Addr) (fw ow : V) (oe : Addr) (evs : List V), vs = [.ref s] ∧ H s = some (.ins (ga K "Workshop") dx (shFs fw ow (.ref oe))) ∧ H oe = some (.lst evs) ∧ Q (.int evs.length) H
def trFs (s : Addr) (a b : V) : List (Str × V) := [("shop", .ref s), ("kept_works", a), ("kept_entries", b)]
def spTrInit (K : PySem.W.Frag) : Sp := fun vs H Q _ => ∃ (t dx s : Addr), vs = [.ref t, .ref s] ∧ H t = some (.ins (ga K "Trial") dx []) ∧ ∀ H', SX t H H' → H' t = some (.ins (ga K "Trial") dx (trFs s .non .non)) → Q .non H'
def spTrEnter (K : PySem.W.Frag) : Sp := fun vs H Q _ => ∃ (t dt s dx : Addr) (a b fw ow oe : V), vs = [.ref t] ∧ t ≠ s ∧ H t = some (.ins (ga K "Trial") dt (trFs s a b)) ∧ H s = some (.ins (ga K "Workshop") dx (shFs fw ow oe)) ∧
  ∀ H', SX t H H' → H' t = some (.ins (ga K "Trial") dt (trFs s ow oe)) → Q (.ref s) H'
def spTrExit (K : PySem.W.Frag) : Sp := fun vs H Q _ => ∃ (t dt s dx : Addr) (a b fw ow oe v1 v2 v3 : V), vs = [.ref t, v1, v2, v3] ∧ t ≠ s ∧ H t = some (.ins (ga K "Trial") dt (trFs s a b)) ∧ H s = some (.ins (ga K "Workshop") dx (shFs fw ow oe)) ∧
  ∀ H', SX s H H' → H' s = some (.ins (ga K "Workshop") dx (shFs fw a b)) → Q .non H'
def spTrial (K : PySem.W.Frag) : Sp := fun vs H Q _ => ∃ (s : Addr), vs = [.ref s] ∧ ∀ t dt H', H t = none → Same H H' → H' t = some (.ins (ga K "Trial") dt (trFs s .non .non)) → Q (.ref t) H'
theorem u_make {K : PySem.W.Frag} {C : Addr} {H : Hp} {x dx : Addr} (hx : H x = none) (hdx : H dx = none) (hne : dx ≠ x) : Same H (upd (upd H dx (.own x)) x (.ins C dx [])) := (same_upd_fresh hdx (Same.refl H)).trans (same_upd_fresh (by rw [upd_ne (Ne.symm hne)]; exact hx) (Same.refl _))
theorem sx_make {C : Addr} {H H' : Hp} {x dx : Addr} (hx : H x = none) (hdx : H dx = none) (hne : dx ≠ x) (t : SX x (upd (upd H dx (.own x)) x (.ins C dx [])) H') : Same H H' := fun b o hb => t b o (ne_of_none hb hx) (u_make (K := []) hx hdx hne b o hb)
local macro_rules | `(tactic| walk_at "w") => `(tactic| (repeat (first | with_reducible refine w_seq ?_ | with_reducible refine w_ret ?_ | with_reducible refine w_asg ?_ | with_reducible refine w_ifs ?_ | with_reducible refine w_drop ?_ | with_reducible refine w_next ?_ | with_reducible refine w_cont ?_ | with_reducible refine w_par ?_ | with_reducible refine w_par3 ?_ | with_reducible refine w_three ?_ | with_reducible refine w_two ?_ | with_reducible refine w_name ?_ | with_reducible refine w_c ?_ | with_reducible refine w_op ?_ | with_reducible refine w_un ?_ | with_reducible refine w_cb ?_ | with_reducible refine w_cons ?_ | with_reducible refine w_nil ?_ | with_reducible refine w_tup ?_ | with_reducible refine w_lst ?_ | with_reducible refine w_test ?_ | with_reducible refine w_B ?_ | with_reducible refine w_k ?_ | with_reducible refine w_ki ?_ | with_reducible refine w_and ?_ | with_reducible refine w_or ?_ | with_reducible refine w_not ?_ | with_reducible refine w_andV ?_ | with_reducible refine w_orV ?_ | with_reducible refine w_notV ?_ | with_reducible refine w_if ?_ | with_reducible refine w_yes ?_ | with_reducible refine w_isN ?_ | with_reducible refine w_chain ?_ | with_reducible refine w_sl ?_ | with_reducible refine w_noPart ?_ | with_reducible refine w_part ?_ | with_reducible refine w_fld ?_ | with_reducible refine w_dget ?_ | with_reducible refine w_din ?_ | with_reducible refine w_dnotin ?_ | with_reducible refine w_dput ?_ | with_reducible refine w_newK ?_ | with_reducible refine w_sfld ?_ | with_reducible refine w_methR ?_ | with_reducible refine w_propR ?_ | with_reducible refine w_sl2 ?_ | with_reducible refine w_star ?_ | with_reducible refine w_retN ?_ | with_reducible refine w_gcons ?_ | with_reducible refine w_gnil ?_ | with_reducible refine r_i0 ?_ | with_reducible refine r_u ?_ | with_reducible refine r_eqi ?_ | with_reducible refine r_nei ?_ | with_reducible refine r_eqs ?_ | with_reducible refine r_nes ?_ | with_reducible refine iteT ?_ | with_reducible refine iteF ?_ | with_reducible refine w_lc ?_ | with_reducible refine w_dc ?_ | with_reducible refine w_for ?_ | with_reducible refine w_istr ?_ | with_reducible refine w_ilist ?_ | with_reducible refine w_itup ?_ | with_reducible refine w_irng1 ?_ | with_reducible refine w_irng2 ?_ | with_reducible refine w_ienum ?_ | with_reducible refine w_iitems ?_ | with_reducible refine w_ikeysT ?_ | with_reducible refine w_makeK ?_ | with_reducible refine w_methSN ?_ | with_reducible refine w_makeR ?_ | with_reducible refine w_callR ?_ | with_reducible refine w_dmerge ?_ | with_reducible refine w_ks ?_ | with_reducible refine w_kr ?_ | with_reducible refine isi_int_int ?_ | with_reducible refine isi_int_bool ?_ | with_reducible refine isi_str_str ?_ | with_reducible refine w_1i ?_ | with_reducible refine w_nn ?_ | with_reducible refine w_int_i ?_ | with_reducible refine w_int_b ?_ | ((with_reducible apply w_var); rfl) | ((with_reducible apply r_ixT); assumption; rfl) | ((with_reducible apply r_ixL); assumption; rfl) | ((with_reducible apply isi_tup_tup); assumption) | ((with_reducible apply isi_dict_dict); assumption) | ((with_reducible apply r_lenD); assumption) | ((with_reducible apply r_lenT); assumption) | ((with_reducible apply r_lenL); assumption) | ((with_reducible refine r_all (SqL.of ?_) ?_); assumption) | ((with_reducible apply r_fld); assumption; exact Cn.cls (by assumption) _; exact Cn.noat (by assumption) _ _; first | rfl | assumption) | ((with_reducible apply ite_t); rfl) | ((with_reducible apply ite_f); rfl))))
section
variable {P : Program} {w : World} {K : PySem.W.Frag} {mg : Str → Option Value} {base : Heap}
theorem F_Workshop_set_rope (C : Cn P K mg) : FnR P w K mg base (L2.CX P w) 10 (ma K (ga K "Workshop") "set_rope") (spSetRope K) := by
  obtain ⟨fd, F⟩ := C.d_Workshop_set_rope
  have sc : FnScope ["self", "user", "name", "rope", "path", "length"] ["self", "user", "name", "rope", "path", "length"] (defScope (inClass (top 43) 6)) := ⟨rfl, rfl, rfl, by decide +kernel, rfl, by decide +kernel, by decide +kernel⟩
  refine fnR_of F sc ?len (fun _ _ _ _ _ _ us hl => match us, hl with | [_, _, _, _, _, _], _ => rfl) ?body
  case len => exact fun vs H Q E h => by obtain ⟨_, _, _, _, _, _, _, _, _, rfl, _⟩ := h; rfl
  case body =>
    intro cdv A outer s H vs Q E hr h0
    obtain ⟨sh, u, n, h, x, y, p, f, st, rfl, hsh, ok, hx, hy, he, q⟩ := h0
    obtain ⟨dx, fw, ow, oe, evs, hs, hfw, how, hoe, hev, had⟩ := id hsh
    have F_Workshop_check := F_Workshop_check (w := w) (base := base) C
    have F_Workshop_record := F_Workshop_record (w := w) (base := base) C
    refine ⟨_, (pss_cons (ps_expr (pe_methR (pv 0) (C.cls "Workshop") (C.meth "Workshop" "check") F_Workshop_check (hr.mono (by decide)) (passes_call (takes_of rfl rfl rfl rfl) (fun _ _ _ _ h => h)) (pa_cons (pv 1) (pa_cons (pv 2) pa_nil)))) (pss_one (ps_expr (pe_methR (pv 0) (C.cls "Workshop") (C.meth "Workshop" "record") F_Workshop_record (hr.mono (by decide)) (passes_call (takes_of rfl rfl rfl rfl) (fun _ _ _ _ h => h)) (pa_cons (pe_tup (pa_cons (pv 1) (pa_cons (pv 2) (pa_cons pe_str (pa_cons (pv 3) (pa_cons (pv 4) (pa_cons (pv 5) pa_nil))))))) pa_nil))))), ?_⟩
    walk_at "w"
    refine ⟨sh, dx, _, rfl, hs, rfl, ?_⟩
    walk_at "w"
    unfold shRes doS at q
    refine ⟨sh, dx, u, n, fw, ow, .ref oe, st.works, rfl, hs, how, he.1, ?_⟩
    by_cases c1 : wordOk u SMALL = true
    · refine ifT c1 ?_
      by_cases c2 : isNb n = true
      · refine ifT c2 fun H1 s1 => ?_
        walk_at "w"
        refine ⟨sh, dx, _, rfl, s1 _ _ hs, rfl, ?_⟩
        walk_at "w"
        refine w_fresh (by simp) fun t ht => ?_
        have s2 := s1.trans (same_upd_fresh (o := .tup [.str u, .str n, .str "rope", .str h, x, y]) ht (Same.refl _))
        walk_at "w"
        have hx2 := dp_kd (same_kd s2) (np_pv p) hx
        have hy2 := dp_kd (same_kd s2) (np_fr f) hy
        refine ⟨sh, _, st, .rope u n h p f, rfl, hsh.same s2, ok, .tup (SqT.of upd_same) (.cons (.str _) (.cons (.str _) (.cons (.str _) (.cons (.str _) (.cons hx2 (.cons hy2 .nil)))))), he, isNb_iff.mp c2, ?_⟩
        rw [if_pos (show wordOk (En.rope u n h p f).u SMALL = true from c1), if_pos (show isNb (En.rope u n h p f).n = true from c2)] at q
        cases hq : doW st.works (.rope u n h p f) with
        | ok w' =>
          rw [hq] at q
          exact fun H' t h => q H' ((sx_same s2).trans t) h
        | error x =>
          rw [hq] at q
          exact fun H' t => q H' (s2.trans t)
      · refine ifF c2 ?_
        rw [if_pos (show wordOk (En.rope u n h p f).u SMALL = true from c1), if_neg (show ¬ isNb (En.rope u n h p f).n = true from c2)] at q
        exact q
    · refine ifF c1 ?_
      rw [if_neg (show ¬ wordOk (En.rope u n h p f).u SMALL = true from c1)] at q
      exact q
theorem F_Workshop_drop_rope (C : Cn P K mg) : FnR P w K mg base (L2.CX P w) 10 (ma K (ga K "Workshop") "drop_rope") (spDrop K) := by
  obtain ⟨fd, F⟩ := C.d_Workshop_drop_rope
  have sc : FnScope ["self", "user", "name", "rope"] ["self", "user", "name", "rope"] (defScope (inClass (top 43) 7)) := ⟨rfl, rfl, rfl, by decide +kernel, rfl, by decide +kernel, by decide +kernel⟩
  refine fnR_of F sc ?len (fun _ _ _ _ _ _ us hl => match us, hl with | [_, _, _, _], _ => rfl) ?body
  case len => exact fun vs H Q E h => by obtain ⟨_, _, _, _, _, rfl, _⟩ := h; rfl
  case body =>
    intro cdv A outer s H vs Q E hr h0
    obtain ⟨sh, u, n, h, st, rfl, hsh, ok, he, q⟩ := h0
    obtain ⟨dx, fw, ow, oe, evs, hs, hfw, how, hoe, hev, had⟩ := id hsh
    have F_Workshop_check := F_Workshop_check (w := w) (base := base) C
    have F_Workshop_record := F_Workshop_record (w := w) (base := base) C
    refine ⟨_, (pss_cons (ps_expr (pe_methR (pv 0) (C.cls "Workshop") (C.meth "Workshop" "check") F_Workshop_check (hr.mono (by decide)) (passes_call (takes_of rfl rfl rfl rfl) (fun _ _ _ _ h => h)) (pa_cons (pv 1) (pa_cons (pv 2) pa_nil)))) (pss_one (ps_expr (pe_methR (pv 0) (C.cls "Workshop") (C.meth "Workshop" "record") F_Workshop_record (hr.mono (by decide)) (passes_call (takes_of rfl rfl rfl rfl) (fun _ _ _ _ h => h)) (pa_cons (pe_tup (pa_cons (pv 1) (pa_cons (pv 2) (pa_cons pe_str (pa_cons (pv 3) pa_nil))))) pa_nil))))), ?_⟩
    walk_at "w"
    refine ⟨sh, dx, _, rfl, hs, rfl, ?_⟩
    walk_at "w"
    unfold shRes doS at q
    refine ⟨sh, dx, u, n, fw, ow, .ref oe, st.works, rfl, hs, how, he.1, ?_⟩
    by_cases c1 : wordOk u SMALL = true
    · refine ifT c1 ?_
      by_cases c2 : isNb n = true
      · refine ifT c2 fun H1 s1 => ?_
        walk_at "w"
        refine ⟨sh, dx, _, rfl, s1 _ _ hs, rfl, ?_⟩
        walk_at "w"
        refine w_fresh (by simp) fun t ht => ?_
        have s2 := s1.trans (same_upd_fresh (o := .tup [.str u, .str n, .str "drop", .str h]) ht (Same.refl _))
        walk_at "w"
        refine ⟨sh, _, st, .drop u n h, rfl, hsh.same s2, ok, .tup (SqT.of upd_same) (.cons (.str _) (.cons (.str _) (.cons (.str _) (.cons (.str _) .nil)))), he, isNb_iff.mp c2, ?_⟩
        rw [if_pos (show wordOk (En.drop u n h).u SMALL = true from c1), if_pos (show isNb (En.drop u n h).n = true from c2)] at q
        cases hq : doW st.works (.drop u n h) with
        | ok w' =>
          rw [hq] at q
          exact fun H' t h => q H' ((sx_same s2).trans t) h
        | error x =>
          rw [hq] at q
          exact fun H' t => q H' (s2.trans t)
      · refine ifF c2 ?_
        rw [if_pos (show wordOk (En.drop u n h).u SMALL = true from c1), if_neg (show ¬ isNb (En.drop u n h).n = true from c2)] at q
        exact q
    · refine ifF c1 ?_
      rw [if_neg (show ¬ wordOk (En.drop u n h).u SMALL = true from c1)] at q
      exact q
theorem F_Workshop_work (C : Cn P K mg) : FnR P w K mg base (L2.CX P w) 2 (ma K (ga K "Workshop") "work") (spWork K) := by
  obtain ⟨fd, F⟩ := C.d_Workshop_work
  have sc : FnScope ["self", "name"] ["self", "name"] (defScope (inClass (top 43) 9)) := ⟨rfl, rfl, rfl, by decide +kernel, rfl, by decide +kernel, by decide +kernel⟩
  refine fnR_of F sc ?len (fun _ _ _ _ _ _ us hl => match us, hl with | [_, _], _ => rfl) ?body
  case len => exact fun vs H Q E h => by obtain ⟨_, _, _, _, _, _, _, _, _, rfl, _⟩ := h; rfl
  case body =>
    intro cdv A outer s H vs Q E hr h0
    obtain ⟨sh, dx, n, fw, oe, d, w1, w2, v, rfl, hs, hd, hv, q⟩ := h0
    have F_check_known := F_check_known (w := w) (base := base) C
    refine ⟨_, (pss_cons (ps_expr (pe_callR F_check_known (hr.mono (by decide)) (by rfl) (C.g "check_known") (C.keep "check_known") (passes_call (takes_of rfl rfl rfl rfl) (fun _ _ _ _ h => h)) (pa_cons (pv 1) (pa_cons (pe_fld (pv 0) rfl : PE _ _ (tFld K _ _)) pa_nil)))) (pss_one (ps_ret (pe_dget (hu_of hr) (pe_fld (pv 0) rfl : PE _ _ (tFld K _ _)) (pv 1) (fun _ _ => rfl))))), ?_⟩
    walk_at "w"
    refine ⟨n, d, _, rfl, .inl hd, ?_⟩
    rw [hv]
    refine iteT ?_
    walk_at "w"
    exact r_dgetS (.inl hd) hv q
theorem F_Trial___init__ (C : Cn P K mg) : FnR P w K mg base (L2.CX P w) 1 (ma K (ga K "Trial") "__init__") (spTrInit K) := by
  obtain ⟨fd, F⟩ := C.d_Trial___init__
  have sc : FnScope ["self", "shop"] ["self", "shop"] (defScope (inClass (top 42) 0)) := ⟨rfl, rfl, rfl, by decide +kernel, rfl, by decide +kernel, by decide +kernel⟩
  refine fnR_nox F sc ?len (fun _ _ _ _ _ _ us hl => match us, hl with | [_, _], _ => rfl) ?body
  case len => exact fun vs H Q E h => by obtain ⟨_, _, _, rfl, _⟩ := h; rfl
  case body =>
    intro cdv A outer s H vs Q E hr h0
    obtain ⟨t, dx, sh, rfl, ht, q⟩ := h0
    refine ⟨_, (pss_cons (ps_fld (pv 0) (pv 1) rfl) (pss_cons (ps_fld (pv 0) pe_non rfl) (pss_one (ps_fld (pv 0) pe_non rfl)))), ?_⟩
    walk_at "w"
    refine r_sfld ht (C.cls _) (C.noat _ _) (by simp) ?_
    walk_at "w"
    refine r_sfld upd_same (C.cls _) (C.noat _ _) (by first | (show 1 < 1000; decide) | (show 2 < 1000; decide) | (show 3 < 1000; decide)) ?_
    walk_at "w"
    refine r_sfld upd_same (C.cls _) (C.noat _ _) (by first | (show 1 < 1000; decide) | (show 2 < 1000; decide) | (show 3 < 1000; decide)) ?_
    walk_at "w"
    rw [upd_upd, upd_upd]
    exact q _ sx_upd upd_same
theorem F_Trial___enter__ (C : Cn P K mg) : FnR P w K mg base (L2.CX P w) 1 (ma K (ga K "Trial") "__enter__") (spTrEnter K) := by
  obtain ⟨fd, F⟩ := C.d_Trial___enter__
  have sc : FnScope ["self"] ["self"] (defScope (inClass (top 42) 1)) := ⟨rfl, rfl, rfl, by decide +kernel, rfl, by decide +kernel, by decide +kernel⟩
  refine fnR_nox F sc ?len (fun _ _ _ _ _ _ us hl => match us, hl with | [_], _ => rfl) ?body
  case len => exact fun vs H Q E h => by obtain ⟨_, _, _, _, _, _, _, _, _, rfl, _⟩ := h; rfl
  case body =>
    intro cdv A outer s H vs Q E hr h0
    obtain ⟨t, dt, sh, dx, a, b, fw, ow, oe, rfl, hne, ht, hs, q⟩ := h0
    refine ⟨_, (pss_cons (ps_fld (pv 0) (pe_fld (pe_fld (pv 0) rfl : PE _ _ (tFld K _ _)) rfl : PE _ _ (tFld K _ _)) rfl) (pss_cons (ps_fld (pv 0) (pe_fld (pe_fld (pv 0) rfl : PE _ _ (tFld K _ _)) rfl : PE _ _ (tFld K _ _)) rfl) (pss_one (ps_ret (pe_fld (pv 0) rfl : PE _ _ (tFld K _ _)))))), ?_⟩
    walk_at "w"
    refine r_sfld ht (C.cls _) (C.noat _ _) (by first | (show 1 < 1000; decide) | (show 2 < 1000; decide) | (show 3 < 1000; decide)) ?_
    walk_at "w"
    refine r_fld upd_same (C.cls _) (C.noat _ _) rfl ?_
    walk_at "w"
    refine r_fld (by rw [upd_ne (Ne.symm hne)]; exact hs) (C.cls _) (C.noat _ _) rfl ?_
    walk_at "w"
    refine r_sfld upd_same (C.cls _) (C.noat _ _) (by first | (show 1 < 1000; decide) | (show 2 < 1000; decide) | (show 3 < 1000; decide)) ?_
    walk_at "w"
    refine r_fld upd_same (C.cls _) (C.noat _ _) rfl ?_
    rw [upd_upd]
    exact q _ sx_upd upd_same
theorem ne_trsh {H : Hp} {t s dt dx : Addr} {C C' : Addr} {sh : Addr} {a b fw ow oe : V} (ht : H t = some (.ins C dt (trFs sh a b))) (hs : H s = some (.ins C' dx (shFs fw ow oe))) : t ≠ s := ne_of ht hs (fun z => by
  injection z with z1 z2 z3
  injection z3 with z4 z5
  injection z4 with z6 z7
  exact absurd z6 (by decide))
theorem F_Trial___exit__ (C : Cn P K mg) : FnR P w K mg base (L2.CX P w) 1 (ma K (ga K "Trial") "__exit__") (spTrExit K) := by
  obtain ⟨fd, F⟩ := C.d_Trial___exit__
  have sc : FnScope ["self", "kind", "value", "trace"] ["self", "kind", "value", "trace"] (defScope (inClass (top 42) 2)) := ⟨rfl, rfl, rfl, by decide +kernel, rfl, by decide +kernel, by decide +kernel⟩
  refine fnR_nox F sc ?len (fun _ _ _ _ _ _ us hl => match us, hl with | [_, _, _, _], _ => rfl) ?body
  case len => exact fun vs H Q E h => by obtain ⟨_, _, _, _, _, _, _, _, _, _, _, _, rfl, _⟩ := h; rfl
  case body =>
    intro cdv A outer s H vs Q E hr h0
    obtain ⟨t, dt, sh, dx, a, b, fw, ow, oe, v1, v2, v3, rfl, hne, ht, hs, q⟩ := h0
    refine ⟨_, (pss_cons (ps_fld (pe_fld (pv 0) rfl : PE _ _ (tFld K _ _)) (pe_fld (pv 0) rfl : PE _ _ (tFld K _ _)) rfl) (pss_one (ps_fld (pe_fld (pv 0) rfl : PE _ _ (tFld K _ _)) (pe_fld (pv 0) rfl : PE _ _ (tFld K _ _)) rfl))), ?_⟩
    walk_at "w"
    refine r_sfld hs (C.cls _) (C.noat _ _) (by show 3 < 1000; decide) ?_
    have ht2 : ∀ o, upd H sh o t = some (.ins (ga K "Trial") dt (trFs sh a b)) := fun o => by rw [upd_ne hne]; exact ht
    walk_at "w"
    refine r_fld (ht2 _) (C.cls _) (C.noat _ _) rfl ?_
    walk_at "w"
    refine r_fld (ht2 _) (C.cls _) (C.noat _ _) rfl ?_
    walk_at "w"
    refine r_sfld upd_same (C.cls _) (C.noat _ _) (by show 3 < 1000; decide) ?_
    rw [upd_upd]
    exact q _ sx_upd upd_same
theorem F_Workshop_trial (C : Cn P K mg) : FnR P w K mg base (L2.CX P w) 3 (ma K (ga K "Workshop") "trial") (spTrial K) := by
  obtain ⟨fd, F⟩ := C.d_Workshop_trial
  have sc : FnScope ["self"] ["self"] (defScope (inClass (top 43) 10)) := ⟨rfl, rfl, rfl, by decide +kernel, rfl, by decide +kernel, by decide +kernel⟩
  refine fnR_nox F sc ?len (fun _ _ _ _ _ _ us hl => match us, hl with | [_], _ => rfl) ?body
  case len => exact fun vs H Q E h => by obtain ⟨_, rfl, _⟩ := h; rfl
  case body =>
    intro cdv A outer s H vs Q E hr h0
    obtain ⟨sh, rfl, q⟩ := h0
    have F_Trial___init__ := F_Trial___init__ (w := w) (base := base) C
    refine ⟨_, (pss_one (ps_ret (StX.pe_makeR (C.mkr "Trial") F_Trial___init__ (hr.mono (by decide)) (by rfl) (C.g "Trial") passL (pa_cons (pv 0) pa_nil)))), ?_⟩
    walk_at "w"
    intro t dt ht hdt hne
    refine ⟨t, dt, sh, rfl, upd_same, fun H' sx e => ⟨rfl, ?_⟩⟩
    exact q t dt H' ht (sx_make ht hdt hne sx) e
theorem F_Workshop___len__ (C : Cn P K mg) : FnR P w K mg base (L2.CX P w) 1 (ma K (ga K "Workshop") "__len__") (spLenS K) := by
  obtain ⟨fd, F⟩ := C.d_Workshop___len__
  have sc : FnScope ["self"] ["self"] (defScope (inClass (top 43) 13)) := ⟨rfl, rfl, rfl, by decide +kernel, rfl, by decide +kernel, by decide +kernel⟩
  refine fnR_nox F sc ?len (fun _ _ _ _ _ _ us hl => match us, hl with | [_], _ => rfl) ?body
  case len => exact fun vs H Q E h => by obtain ⟨_, _, _, _, _, _, rfl, _⟩ := h; rfl
  case body =>
    intro cdv A outer s H vs Q E hr h0
    obtain ⟨sh, dx, fw, ow, oe, evs, rfl, hs, hoe, q⟩ := h0
    refine ⟨_, (pss_one (ps_ret (pe_callB (call_lenSq : CallR _ _ (rLenSq K)) (by rfl) (C.free "len") b_len (pa_cons (pe_fld (pv 0) rfl : PE _ _ (tFld K _ _)) pa_nil)))), ?_⟩
    walk_at "w"
    refine r_lenL (SqL.of hoe) q
end
end PW

/-! ##### WU -/
set_option Elab.async false
set_option linter.all false
set_option maxRecDepth 100000
set_option maxHeartbeats 2000000
namespace PW
open PySem PySem.Spec PyProof.Rows L2 He PWL

/-! ### undo -/
def foldW (w : W2) : List En → Except Er W2
  | [] => .ok w
  | e :: r => match doW w e with
    | .ok w' => foldW w' r
    | .error x => .error x
def plc (es : List En) (u : Str) (n : Nat) : List Nat := (List.range n).filter fun j => match es[j]? with | some e => decide (e.u = u) | none => false
def places (es : List En) (u : Str) : List Nat := plc es u es.length
def undoS (st : Shop) (u : Str) : Except Er Shop := if wordOk u SMALL = true then (match (places st.es u).getLast? with
  | none => .error .nothing
  | some k => match foldW st.first (st.es.take k ++ st.es.drop (k + 1)) with
    | .ok w => .ok { st with works := w, es := st.es.take k ++ st.es.drop (k + 1) }
    | .error x => .error x) else .error (.name u)
theorem plc_succ {es : List En} {u : Str} {i : Nat} {e : En} (h : es[i]? = some e) : plc es u (i + 1) = if decide (e.u = u) = true then plc es u i ++ [i] else plc es u i := by
  unfold plc
  rw [List.range_succ, List.filter_append, List.filter_cons, h, List.filter_nil]
  dsimp only
  split
  · rfl
  · rw [List.append_nil]
theorem plc_lt {es : List En} {u : Str} {n k : Nat} (h : k ∈ plc es u n) : k < n := List.mem_range.mp (List.mem_filter.mp h).1
theorem plc_len {es : List En} {u : Str} {n : Nat} : (plc es u n).length ≤ n := by
  have := List.length_filter_le (fun j => match es[j]? with | some e => decide (e.u = u) | none => false) (List.range n)
  rw [List.length_range] at this
  exact this
theorem dp_en_head {K : PySem.W.Frag} {H : Hp} {v : V} : ∀ {e : En}, Dp K H v (enD e) → ∃ a r, v = .ref a ∧ SqT K H a (.str e.u :: r)
  | .load u n h f, hd => let ⟨a, y, e, hx, _⟩ := dp_load_inv hd; ⟨a, _, e, hx⟩
  | .rope u n r p f, hd => let ⟨a, x, y, e, hx, _⟩ := dp_rope_inv' hd; ⟨a, _, e, hx⟩
  | .drop u n r, hd => let ⟨a, e, hx⟩ := dp_drop_inv hd; ⟨a, _, e, hx⟩
theorem dpAll_at {K : PySem.W.Frag} {H : Hp} : ∀ {vs : List V} {ds : List PyData} {i : Nat} {d : PyData}, DpAll K H vs ds → ds[i]? = some d → ∃ v, vs[i]? = some v ∧ Dp K H v d
  | _, _, _, _, .nil, h => by simp at h
  | _, _, 0, _, .cons h t, e => by simp at e; subst e; exact ⟨_, rfl, h⟩
  | _, _, i + 1, _, .cons h t, e => by
    simp at e
    obtain ⟨v, h1, h2⟩ := dpAll_at t e
    exact ⟨v, by simpa using h1, h2⟩
theorem dpAll_take {K : PySem.W.Frag} {H : Hp} : ∀ {vs : List V} {ds : List PyData} (n : Nat), DpAll K H vs ds → DpAll K H (vs.take n) (ds.take n)
  | _, _, 0, _ => .nil
  | _, _, _ + 1, .nil => .nil
  | _, _, n + 1, .cons h t => .cons h (dpAll_take n t)
theorem dpAll_drop {K : PySem.W.Frag} {H : Hp} : ∀ {vs : List V} {ds : List PyData} (n : Nat), DpAll K H vs ds → DpAll K H (vs.drop n) (ds.drop n)
  | _, _, 0, h => h
  | _, _, _ + 1, .nil => .nil
  | _, _, n + 1, .cons _ t => dpAll_drop n t
theorem dpAll_app {K : PySem.W.Frag} {H : Hp} : ∀ {vs ws : List V} {ds es : List PyData}, DpAll K H vs ds → DpAll K H ws es → DpAll K H (vs ++ ws) (ds ++ es)
  | _, _, _, _, .nil, h => h
  | _, _, _, _, .cons h t, h2 => .cons h (dpAll_app t h2)
theorem dpAll_ints {K : PySem.W.Frag} {H : Hp} : ∀ ns : List Int, DpAll K H (ns.map .int) (ns.map .int)
  | [] => .nil
  | n :: ns => .cons (.int n) (dpAll_ints ns)
theorem lay_ints : ∀ ns : List Int, PyData.canLayAll0 (ns.map .int) = true
  | [] => by simp [PyData.canLayAll0]
  | n :: ns => by simp [PyData.canLayAll0, PyData.canLay0, lay_ints ns]
theorem depth_ints : ∀ ns : List Int, PyData.depthAll (ns.map .int) ≤ 1
  | [] => by simp [PyData.depthAll]
  | n :: ns => by
    have := depth_ints ns
    simp [PyData.depthAll, PyData.depth]
    omega
theorem shaped_ints (ns : List Int) : SeqAt.shaped (.list (ns.map .int)) = true := by
  unfold SeqAt.shaped
  have h1 : (PyData.list (ns.map .int)).canLay0 = true := by simpa [PyData.canLay0] using lay_ints ns
  have h2 : (PyData.list (ns.map .int)).depth ≤ 64 := by
    have := depth_ints ns
    simp [PyData.depth]
    omega
  rw [h1, decide_eq_true h2]
  rfl
theorem cut_take {xs : List V} {k : Nat} (h : k ≤ xs.length) : cutV xs none (some (k : Int)) = xs.take k := by
  have e1 : HT.sIx xs.length xs.length (some (k : Int)) = k := by
    show (if (k : Int) < 0 then ((k : Int) + (xs.length : Int)).toNat else min (k : Int).toNat xs.length) = k
    rw [if_neg (by omega)]
    have : (k : Int).toNat = k := by omega
    omega
  unfold cutV
  rw [e1]
  rfl
theorem cut_drop {xs : List V} {k : Nat} (h : k ≤ xs.length) : cutV xs (some (k : Int)) none = xs.drop k := by
  have e1 : HT.sIx xs.length 0 (some (k : Int)) = k := by
    show (if (k : Int) < 0 then ((k : Int) + (xs.length : Int)).toNat else min (k : Int).toNat xs.length) = k
    rw [if_neg (by omega)]
    have : (k : Int).toNat = k := by omega
    omega
  have e2 : HT.sIx xs.length xs.length none = xs.length := rfl
  unfold cutV
  rw [e1, e2]
  exact List.take_of_length_le (by rw [List.length_drop]; omega)
theorem foldW_snoc {w : W2} {es : List En} {e : En} : foldW w (es ++ [e]) = match foldW w es with
    | .ok w' => doW w' e
    | .error x => .error x := by
  induction es generalizing w with
  | nil =>
    show (match doW w e with | .ok w' => foldW w' [] | .error x => .error x) = doW w e
    cases doW w e <;> rfl
  | cons a r ih =>
    show (match doW w a with | .ok w' => foldW w' (r ++ [e]) | .error x => .error x) = _
    show _ = match (match doW w a with | .ok w' => foldW w' r | .error x => .error x) with | .ok w' => doW w' e | .error x => .error x
    cases doW w a with
    | ok w' => exact ih
    | error x => rfl
theorem foldW_pre {w : W2} {es : List En} {i : Nat} {x : Er} (h : foldW w (es.take i) = .error x) : foldW w es = .error x := by
  have e : es = es.take i ++ es.drop i := (List.take_append_drop i es).symm
  rw [e]
  have gen : ∀ (r pre : List En) (w : W2), foldW w pre = .error x → foldW w (pre ++ r) = .error x := by
    intro r
    induction r with
    | nil => intro pre w h; rw [List.append_nil]; exact h
    | cons a r ih =>
      intro pre w h
      have : pre ++ a :: r = (pre ++ [a]) ++ r := by simp
      rw [this]
      refine ih _ _ ?_
      rw [foldW_snoc, h]
  exact gen _ _ _ h
theorem foldW_ok {w w' : W2} {es : List En} (h : WOk w) (hf : foldW w es = .ok w') : WOk w' := by
  induction es generalizing w with
  | nil => cases hf; exact h
  | cons a r ih =>
    have hf : (match doW w a with | .ok w' => foldW w' r | .error x => .error x) = .ok w' := hf
    cases hd : doW w a with
    | ok w1 => rw [hd] at hf; exact ih (doW_ok h hd) hf
    | error x => rw [hd] at hf; cases hf
def spUndo (K : PySem.W.Frag) : Sp := fun vs H Q E => ∃ (s : Addr) (u : Str) (st : Shop), vs = [.ref s, .str u] ∧ ShopAt K H s st ∧ ShOk st ∧ u.length ≤ 1000 ∧ match undoS st u with
  | .ok st' => ∀ y H', SX s H H' → ShopAt K H' s st' → Q y H'
  | .error x => ∀ H', Same H H' → exEr K E H' x
local macro_rules | `(tactic| walk_at "w") => `(tactic| (repeat (first | with_reducible refine w_seq ?_ | with_reducible refine w_ret ?_ | with_reducible refine w_asg ?_ | with_reducible refine w_ifs ?_ | with_reducible refine w_drop ?_ | with_reducible refine w_next ?_ | with_reducible refine w_cont ?_ | with_reducible refine w_par ?_ | with_reducible refine w_par3 ?_ | with_reducible refine w_three ?_ | with_reducible refine w_two ?_ | with_reducible refine w_name ?_ | with_reducible refine w_c ?_ | with_reducible refine w_op ?_ | with_reducible refine w_un ?_ | with_reducible refine w_cb ?_ | with_reducible refine w_cons ?_ | with_reducible refine w_nil ?_ | with_reducible refine w_tup ?_ | with_reducible refine w_lst ?_ | with_reducible refine w_test ?_ | with_reducible refine w_B ?_ | with_reducible refine w_k ?_ | with_reducible refine w_ki ?_ | with_reducible refine w_and ?_ | with_reducible refine w_or ?_ | with_reducible refine w_not ?_ | with_reducible refine w_andV ?_ | with_reducible refine w_orV ?_ | with_reducible refine w_notV ?_ | with_reducible refine w_if ?_ | with_reducible refine w_yes ?_ | with_reducible refine w_isN ?_ | with_reducible refine w_chain ?_ | with_reducible refine w_sl ?_ | with_reducible refine w_noPart ?_ | with_reducible refine w_part ?_ | with_reducible refine w_fld ?_ | with_reducible refine w_dget ?_ | with_reducible refine w_din ?_ | with_reducible refine w_dnotin ?_ | with_reducible refine w_dput ?_ | with_reducible refine w_newK ?_ | with_reducible refine w_sfld ?_ | with_reducible refine w_methR ?_ | with_reducible refine w_propR ?_ | with_reducible refine w_sl2 ?_ | with_reducible refine w_star ?_ | with_reducible refine w_retN ?_ | with_reducible refine w_gcons ?_ | with_reducible refine w_gnil ?_ | with_reducible refine r_i0 ?_ | with_reducible refine r_u ?_ | with_reducible refine r_eqi ?_ | with_reducible refine r_nei ?_ | with_reducible refine r_eqs ?_ | with_reducible refine r_nes ?_ | with_reducible refine iteT ?_ | with_reducible refine iteF ?_ | with_reducible refine w_lc ?_ | with_reducible refine w_dc ?_ | with_reducible refine w_for ?_ | with_reducible refine w_istr ?_ | with_reducible refine w_ilist ?_ | with_reducible refine w_itup ?_ | with_reducible refine w_irng1 ?_ | with_reducible refine w_irng2 ?_ | with_reducible refine w_ienum ?_ | with_reducible refine w_iitems ?_ | with_reducible refine w_ikeysT ?_ | with_reducible refine w_makeK ?_ | with_reducible refine w_methSN ?_ | with_reducible refine w_makeR ?_ | with_reducible refine w_callR ?_ | with_reducible refine w_dmerge ?_ | with_reducible refine w_ks ?_ | with_reducible refine w_kr ?_ | with_reducible refine isi_int_int ?_ | with_reducible refine isi_int_bool ?_ | with_reducible refine isi_str_str ?_ | with_reducible refine w_1i ?_ | with_reducible refine w_nn ?_ | with_reducible refine w_int_i ?_ | with_reducible refine w_int_b ?_ | ((with_reducible apply w_var); rfl) | ((with_reducible apply r_ixT); assumption; rfl) | ((with_reducible apply r_ixL); assumption; rfl) | ((with_reducible apply isi_tup_tup); assumption) | ((with_reducible apply isi_dict_dict); assumption) | ((with_reducible apply r_lenD); assumption) | ((with_reducible apply r_lenT); assumption) | ((with_reducible apply r_lenL); assumption) | ((with_reducible refine r_all (SqL.of ?_) ?_); assumption) | ((with_reducible apply r_fld); assumption; exact Cn.cls (by assumption) _; exact Cn.noat (by assumption) _ _; first | rfl | assumption) | ((with_reducible apply ite_t); rfl) | ((with_reducible apply ite_f); rfl))))
section
variable {P : Program} {w : World} {K : PySem.W.Frag} {mg : Str → Option Value} {base : Heap}
theorem F_Workshop_undo (C2 : Cn2 P K mg) : FnR P w K mg base (L2.CX P w) 10 (ma K (ga K "Workshop") "undo") (spUndo K) := by
  have C : Cn P K mg := C2.toCn
  obtain ⟨fd, F⟩ := C.d_Workshop_undo
  have sc : FnScope ["self", "user", "places", "entries", "works", "entry", "removed", "index"] ["self", "user"] (defScope (inClass (top 43) 8)) := ⟨rfl, rfl, rfl, by decide +kernel, rfl, by decide +kernel, by decide +kernel⟩
  refine fnR_of F sc ?len (fun _ _ _ _ _ _ us hl => match us, hl with | [_, _], _ => rfl) ?body
  case len => exact fun vs H Q E h => by obtain ⟨_, _, _, rfl, _⟩ := h; rfl
  case body =>
    intro cdv A outer s H vs Q E hr h0
    obtain ⟨sh, u, st, rfl, hsh, ok, hu, q⟩ := h0
    obtain ⟨dx, fw, ow, oe, evs, hs, hfw, how, hoe, hev, had⟩ := id hsh
    have F_is_name := F_is_name (w := w) (base := base) C
    have F_applied := F_applied (w := w) (base := base) C
    refine ⟨_, (pss_cons (ps_if (pt_not (pt_val (pe_callR F_is_name (hr.mono (by decide)) (by rfl) (C.g "is_name") (C.keep "is_name") (passes_call (takes_of rfl rfl rfl rfl) (fun _ _ _ _ h => h)) (pa_cons (pv 1) pa_nil)))) (pss_one (ps_raiseX rfl C.x_InvalidName hr (takes_of rfl rfl rfl rfl) (pa_cons (pv 1) pa_nil))) pss_nil) (pss_cons (ps_setLc (i := 2) (own := [("index", 7), ("entry", 5)]) rfl sc.nd rfl rfl (sw_true rfl rfl rfl (by decide +kernel)) (pi_enum (by rfl) (C.free "enumerate") (pa_cons (pe_fld (pv 0) rfl : PE _ _ (tFld K _ _)) pa_nil)) (blkOk_by (N := ["self", "user", "places", "entries", "works", "entry", "removed", "index"]) (sc := defScope (inClass (top 43) 8)) (by decide +kernel)) (fun _ _ _ _ _ => (pg_tup rfl (pgs_cons (pg_name (i := 7) sc.nd rfl (Or.inl rfl)) (pgs_cons (pg_name (i := 5) sc.nd rfl (Or.inl rfl)) pgs_nil)) : PG _ _ (gTup K 2 _))) (fun _ _ _ _ _ => pts_one (pt_cmpR op_eq (pe_ix (ix_tup : IxR _ (rIxT K)) (pv 5) pe_int (fun _ _ => rfl)) (pv 1) (nomark _))) (fun _ _ _ _ _ => (pv 7))) (pss_cons (ps_if (pt_cmpR (op_eqD hr.units : OpR _ _ (rEqD K)) (pv 2) (pe_lst pa_nil) (nomark _)) (pss_one (ps_raise0 C2.x_NothingToUndo rfl (takes_of rfl rfl rfl rfl))) pss_nil) (pss_cons (ps_set (i := 3) sc.nd rfl (Or.inl rfl) (pe_op op_cat (pe_slice (sl_list : SlR _ (rSlL K)) (pe_fld (pv 0) rfl : PE _ _ (tFld K _ _)) po_none (po_some (pe_ix (ix_list : IxR _ (rIxL K)) (pv 2) (pe_un un_neg pe_int) (fun _ _ => rfl)))) (pe_slice (sl_list : SlR _ (rSlL K)) (pe_fld (pv 0) rfl : PE _ _ (tFld K _ _)) (po_some (pe_op op_add (pe_ix (ix_list : IxR _ (rIxL K)) (pv 2) (pe_un un_neg pe_int) (fun _ _ => rfl)) pe_int)) po_none))) (pss_cons (ps_set (i := 4) sc.nd rfl (Or.inl rfl) (pe_fld (pv 0) rfl : PE _ _ (tFld K _ _))) (pss_cons (ps_for (passes_of rfl) rfl (pi_list (pv 3)) (pg_name (i := 5) sc.nd rfl (Or.inl rfl)) (pss_one (ps_set (i := 4) sc.nd rfl (Or.inl rfl) (pe_callR F_applied (hr.mono (by decide)) (by rfl) (C.g "applied") (C.keep "applied") (passes_call (takes_of rfl rfl rfl rfl) (fun _ _ _ _ h => h)) (pa_cons (pv 4) (pa_cons (pv 5) pa_nil)))))) (pss_cons (ps_set (i := 6) sc.nd rfl (Or.inl rfl) (pe_ix (ix_list : IxR _ (rIxL K)) (pe_fld (pv 0) rfl : PE _ _ (tFld K _ _)) (pe_ix (ix_list : IxR _ (rIxL K)) (pv 2) (pe_un un_neg pe_int) (fun _ _ => rfl)) (fun _ _ => rfl))) (pss_cons (ps_fld (pv 0) (pv 4) rfl) (pss_cons (ps_fld (pv 0) (pv 3) rfl) (pss_one (ps_ret (pv 6)))))))))))), ?_⟩
    walk_at "w"
    refine u_isName (by omega) fun H1 s1 => ?_
    have hs1 := s1 _ _ hs
    unfold undoS at q
    cases hb : wordOk u "abcdefghijklmnopqrstuvwxyz" with
    | false =>
      have hb' : wordOk u SMALL = false := hb
      rw [hb'] at q
      walk_at "w"
      refine w_raiseX ?_
      walk_at "w"
      exact w_one (q H1 s1)
    | true =>
      have hb' : wordOk u SMALL = true := hb
      rw [hb', if_pos rfl] at q
      have lev : evs.length = st.es.length := by rw [dpAll_len hev, List.length_map]
      have hoe1 := s1 _ _ hoe
      walk_at "w"
      refine ⟨oe, evs, rfl, SqL.of hoe1, fun D1 hD1 => ?_⟩
      refine lc_it walk_enum (PvA _ D1 fun i => (plc st.es u i).map fun j => V.int ((j : Nat) : Int)) (pva_0 hD1 rfl) (fun i H2 _ pv => SqL.of (pv.2.1 _ _ hoe1)) (fun i x H2 H3 hi pv y => ?_) (fun H2 pv1 => ?_)
      · obtain ⟨T, x1, y1, rfl, hT, rfl, e1, e2⟩ := y
        dsimp only at e1 e2
        cases e1
        have hie : i < st.es.length := by omega
        have he : st.es[i]? = some (st.es[i]'hie) := List.getElem?_eq_getElem _
        obtain ⟨v, hv, dv⟩ := dpAll_at hev (i := i) (d := enD (st.es[i]'hie)) (by rw [List.getElem?_map, he]; rfl)
        rw [hv] at e2
        cases e2
        have sT : Same H2 (upd H2 T (.tup [V.int ((i : Nat) : Int), y1])) := same_upd_fresh hT (Same.refl _)
        have hTT : SqT K (upd H2 T (.tup [V.int ((i : Nat) : Int), y1])) T [V.int ((i : Nat) : Int), y1] := SqT.of upd_same
        obtain ⟨a, r, rfl, ha⟩ := dp_en_head (dp_kd (same_kd ((s1.trans pv.2.1).trans sT)) (np_en _) dv)
        refine w_gtup hTT rfl ?_
        walk_at "w"
        refine ⟨rfl, ?_⟩
        walk_at "w"
        refine r_ixT ha (atI_nat (j := 0) rfl) ?_
        walk_at "w"
        by_cases hz : (st.es[i]'hie).u = u
        · refine ite_t (decide_eq_true hz) ?_
          walk_at "w"
          refine pva_step pv sT ?_ ?_
          · rw [plc_succ he, if_pos (decide_eq_true hz), List.map_append]
            rfl
          · rw [List.length_map]
            have := plc_len (es := st.es) (u := u) (n := i)
            have := ok.z
            omega
        · refine ite_f (decide_eq_false hz) ?_
          refine pva_skip pv sT ?_
          rw [plc_succ he, if_neg (by rw [decide_eq_false hz]; decide)]
      have hpl : H2 D1 = some (.lst ((places st.es u).map fun j => V.int ((j : Nat) : Int))) := by
        rw [pv1.2.2, lev]
        rfl
      have s12 := s1.trans pv1.2.1
      have hs2 := s12 _ _ hs
      have hoe2 := s12 _ _ hoe
      walk_at "w"
      refine w_fresh (by simp) fun t0 ht0 => ?_
      have s23 : Same H2 (upd H2 t0 (.lst [])) := same_upd_fresh ht0 (Same.refl _)
      have dpl : Dp K (upd H2 t0 (.lst [])) (.ref D1) (.list (((places st.es u).map fun j => ((j : Nat) : Int)).map .int)) := .lst (SqL.of (s23 _ _ hpl)) (by
        have := dpAll_ints (K := K) (H := upd H2 t0 (.lst [])) ((places st.es u).map fun j => ((j : Nat) : Int))
        rw [List.map_map] at this
        exact this)
      refine r_eqD dpl (.lst (SqL.of upd_same) .nil) (shaped_ints _) (shaped_ints []) ?_
      generalize hH3 : upd H2 t0 (.lst []) = H3 at s23 dpl ⊢
      have s3 := s12.trans s23
      cases hpp : (places st.es u).getLast? with
      | none =>
        rw [hpp] at q
        have e0 : places st.es u = [] := List.getLast?_eq_none_iff.mp hpp
        rw [e0]
        refine w_k (iteT ?_)
        walk_at "w"
        exact q H3 s3
      | some k =>
        rw [hpp] at q
        dsimp only at q
        have hne : places st.es u ≠ [] := fun e0 => by rw [e0] at hpp; cases hpp
        have e0 : PyData.eqv (.list (((places st.es u).map fun j => ((j : Nat) : Int)).map .int)) (.list []) = false := by
          cases hp : places st.es u with
          | nil => exact absurd hp hne
          | cons a r => rfl
        rw [e0]
        refine w_k (iteF ?_)
        have hk : k < st.es.length := plc_lt (List.mem_of_getLast? hpp)
        have hat : atI ((places st.es u).map fun j => V.int ((j : Nat) : Int)) (-1) = some (.int (k : Int)) := by
          obtain ⟨pre, hpre⟩ := List.getLast?_eq_some_iff.mp hpp
          rw [hpre, List.map_append]
          exact atI_last _ _
        have hpl3 := s23 _ _ hpl
        walk_at "w"
        have hs3 := s3 _ _ hs
        have hoe3 := s3 _ _ hoe
        refine r_fld hs3 (C.cls _) (C.noat _ _) rfl ?_
        walk_at "w"
        refine r_ixL (SqL.of hpl3) hat ?_
        walk_at "w"
        refine ⟨oe, evs, rfl, SqL.of hoe3, fun p4 f4 => ?_⟩
        rw [cut_take (by omega)]
        have s34 : Same H3 (upd H3 p4 (.lst (evs.take k))) := same_upd_fresh f4 (Same.refl _)
        have e4 : upd H3 p4 (.lst (evs.take k)) p4 = some (.lst (evs.take k)) := upd_same
        generalize upd H3 p4 (.lst (evs.take k)) = H4 at s34 e4 ⊢
        walk_at "w"
        refine r_fld (s34 _ _ hs3) (C.cls _) (C.noat _ _) rfl ?_
        walk_at "w"
        refine r_ixL (SqL.of (s34 _ _ hpl3)) hat ?_
        walk_at "w"
        have ek : ((k : Nat) : Int) + 1 = ((k + 1 : Nat) : Int) := by omega
        rw [ek]
        refine ⟨oe, evs, rfl, SqL.of (s34 _ _ hoe3), fun p5 f5 => ?_⟩
        rw [cut_drop (by omega)]
        have s45 : Same H4 (upd H4 p5 (.lst (evs.drop (k + 1)))) := same_upd_fresh f5 (Same.refl _)
        have e5 : upd H4 p5 (.lst (evs.drop (k + 1))) p5 = some (.lst (evs.drop (k + 1))) := upd_same
        generalize upd H4 p5 (.lst (evs.drop (k + 1))) = H5 at s45 e5 ⊢
        refine r_cat (s45 _ _ e4) e5 (by rw [List.length_take, List.length_drop]; have := ok.z; omega) fun p6 f6 => ?_
        have s56 : Same H5 (upd H5 p6 (.lst (evs.take k ++ evs.drop (k + 1)))) := same_upd_fresh f6 (Same.refl _)
        have e6 : upd H5 p6 (.lst (evs.take k ++ evs.drop (k + 1))) p6 = some (.lst (evs.take k ++ evs.drop (k + 1))) := upd_same
        generalize upd H5 p6 (.lst (evs.take k ++ evs.drop (k + 1))) = H6 at s56 e6 ⊢
        have s36 : Same H3 H6 := (s34.trans s45).trans s56
        have s6 : Same H H6 := s3.trans s36
        have hs6 := s6 _ _ hs
        have dev : DpAll K H (evs.take k ++ evs.drop (k + 1)) ((st.es.take k ++ st.es.drop (k + 1)).map enD) := by
          rw [List.map_append, List.map_take, List.map_drop]
          exact dpAll_app (dpAll_take k hev) (dpAll_drop (k + 1) hev)
        have hmem : ∀ e ∈ st.es.take k ++ st.es.drop (k + 1), e ∈ st.es := fun e he => (List.mem_append.mp he).elim List.mem_of_mem_take List.mem_of_mem_drop
        have llen : (evs.take k ++ evs.drop (k + 1)).length = (st.es.take k ++ st.es.drop (k + 1)).length := by rw [dpAll_len dev, List.length_map]
        generalize st.es.take k ++ st.es.drop (k + 1) = es' at q dev hmem llen
        generalize evs.take k ++ evs.drop (k + 1) = evs' at e6 dev llen
        walk_at "w"
        refine ⟨⟨_, SqL.of e6⟩, ?_⟩
        refine for_it walk_list (fun i σ' H' => Same H6 H' ∧ ∃ wv y5 wi, σ' = [some (.ref sh), some (.str u), some (.ref D1), some (.ref p6), some wv, y5, none, none] ∧ foldW st.first (es'.take i) = .ok wi ∧ WorksAt K H' wv wi) ⟨Same.refl _, fw, none, st.first, rfl, rfl, hfw.same s6⟩ (fun i σ' H' _ pv => SqL.of (pv.1 _ _ e6)) (fun i y σ' H7 H7' hi pv yy => ?_) (fun σ' H7 pv => ?_)
        · obtain ⟨rfl, hy⟩ := yy
          obtain ⟨s67, wv, y5, wi, rfl, hfi, hwv⟩ := pv
          have hie : i < es'.length := by omega
          have he : es'[i]? = some (es'[i]'hie) := List.getElem?_eq_getElem _
          obtain ⟨v, hv, dv⟩ := dpAll_at dev (i := i) (d := enD (es'[i]'hie)) (by rw [List.getElem?_map, he]; rfl)
          rw [hy] at hv
          cases hv
          have hin := ok.e _ (hmem _ (List.getElem_mem hie))
          have ftake : foldW st.first (es'.take (i + 1)) = doW wi (es'[i]'hie) := by
            rw [List.take_add_one, he, Option.toList_some, foldW_snoc, hfi]
          walk_at "w"
          refine ⟨wv, y, wi, es'[i]'hie, rfl, hwv, foldW_ok ok.f hfi, dp_kd (same_kd (s6.trans s67)) (np_en _) dv, hin.1, hin.2, ?_⟩
          cases hd : doW wi (es'[i]'hie) with
          | ok w' =>
            intro r H8 f8 s78 hw8
            walk_at "w"
            exact ⟨s67.trans s78, .ref r, some y, w', rfl, by rw [ftake, hd], hw8⟩
          | error x =>
            rw [foldW_pre (i := i + 1) (by rw [ftake, hd])] at q
            exact fun H' t => q H' ((s6.trans s67).trans t)
        · obtain ⟨s67, wv, y5, w', rfl, hfi, hwv⟩ := pv
          have hfull : foldW st.first es' = .ok w' := by
            rw [← hfi, llen, List.take_length]
          rw [hfull] at q
          dsimp only at q
          have s7 := s6.trans s67
          have hs7 := s7 _ _ hs
          walk_at "w"
          refine r_ixL (SqL.of (s67 _ _ (s36 _ _ hpl3))) hat ?_
          obtain ⟨yk, hyk⟩ : ∃ yk, evs[k]? = some yk := ⟨_, List.getElem?_eq_getElem (by omega)⟩
          refine r_ixL (SqL.of (s7 _ _ hoe)) (atI_nat hyk) ?_
          walk_at "w"
          refine r_sfld (f := "own_works") hs7 (C.cls "Workshop") (C.noat "Workshop" "own_works") (by show 3 < 1000; decide) ?_
          walk_at "w"
          refine r_sfld upd_same (C.cls "Workshop") (C.noat "Workshop" "own_entries") (by show 3 < 1000; decide) ?_
          rw [upd_upd]
          generalize hH9 : upd H7 sh (.ins (ga K "Workshop") dx (putF "own_entries" (.ref p6) (putF "own_works" wv (shFs fw ow (.ref oe))))) = H9
          have hs9 : H9 sh = some (.ins (ga K "Workshop") dx (shFs fw wv (.ref p6))) := by rw [← hH9]; exact upd_same
          have t79 : SX sh H7 H9 := hH9 ▸ sx_upd
          have e67 := s67 _ _ e6
          walk_at "w"
          exact q yk H9 ((sx_same s7).trans t79) ⟨dx, fw, wv, p6, evs', hs9, (hfw.same s7).sx t79 hs7 shFs_ne, hwv.sx t79 hs7 shFs_ne, t79 _ _ (ne_of e67 hs7 (fun z => nomatch z)) e67, dpAll_kd ((same_kd s7).trans (sx_kd t79 (by rw [hs7]; exact True.intro))) (npL_en _) dev, had⟩
end
end PW

/-! ##### WV -/
set_option Elab.async false
set_option linter.all false
set_option maxRecDepth 100000
set_option maxHeartbeats 2000000
namespace PW
open PySem PySem.Spec PyProof.Rows L2 He PWL

/-! ### make_entry -/
inductive Rq where
  | ent (e : En)
  | undo (u : Str)
def rqD : Rq → PyData
  | .ent e => enD e
  | .undo u => .tuple [.str u, .str "undo"]
def rqOk : Rq → Prop
  | .ent e => enOk e
  | .undo u => u.length ≤ 1000
theorem np_rq (r : Rq) : np (rqD r) = true := by
  cases r with
  | ent e => exact np_en e
  | undo u => rfl
def doQ (st : Shop) : Rq → Except Er Shop
  | .ent e => doS st e
  | .undo u => undoS st u
theorem dp_undo_inv {K : PySem.W.Frag} {H : Hp} {v : V} {u : Str} (hd : Dp K H v (rqD (.undo u))) : ∃ a, v = .ref a ∧ SqT K H a [.str u, .str "undo"] := by
  cases hd with
  | tup hx ha =>
    cases ha with
    | cons h1 ha => cases h1; cases ha with
      | cons h2 ha => cases h2; cases ha; exact ⟨_, rfl, hx⟩
def spMakeEntry (K : PySem.W.Frag) : Sp := fun vs H Q E => ∃ (s : Addr) (y : V) (st : Shop) (r : Rq), vs = [.ref s, y] ∧ ShopAt K H s st ∧ ShOk st ∧ Dp K H y (rqD r) ∧ rqOk r ∧ match doQ st r with
  | .ok st' => ∀ H', SX s H H' → ShopAt K H' s st' → Q .non H'
  | .error x => ∀ H', Same H H' → exEr K E H' x
theorem w_star3 {K : PySem.W.Frag} {H : Hp} {σ : L2.St} {t : TGs} {Q : L2.St → Hp → Prop} {a : Addr} {x0 x1 x2 : V} {r : List V} (hS : SqT K H a (x0 :: x1 :: x2 :: r)) (hz : r.length ≤ 100) (h : ∀ d, H d = none → t [x0, x1, x2, .ref d] σ (upd H d (.lst r)) Q) : gStar K 3 t (.ref a) σ H Q :=
  ⟨a, _, rfl, hS, by simp only [List.length_cons]; omega, by simp only [List.length_cons]; omega, h⟩
local macro_rules | `(tactic| walk_at "w") => `(tactic| (repeat (first | with_reducible refine w_seq ?_ | with_reducible refine w_ret ?_ | with_reducible refine w_asg ?_ | with_reducible refine w_ifs ?_ | with_reducible refine w_drop ?_ | with_reducible refine w_next ?_ | with_reducible refine w_cont ?_ | with_reducible refine w_par ?_ | with_reducible refine w_par3 ?_ | with_reducible refine w_three ?_ | with_reducible refine w_two ?_ | with_reducible refine w_name ?_ | with_reducible refine w_c ?_ | with_reducible refine w_op ?_ | with_reducible refine w_un ?_ | with_reducible refine w_cb ?_ | with_reducible refine w_cons ?_ | with_reducible refine w_nil ?_ | with_reducible refine w_tup ?_ | with_reducible refine w_lst ?_ | with_reducible refine w_test ?_ | with_reducible refine w_B ?_ | with_reducible refine w_k ?_ | with_reducible refine w_ki ?_ | with_reducible refine w_and ?_ | with_reducible refine w_or ?_ | with_reducible refine w_not ?_ | with_reducible refine w_andV ?_ | with_reducible refine w_orV ?_ | with_reducible refine w_notV ?_ | with_reducible refine w_if ?_ | with_reducible refine w_yes ?_ | with_reducible refine w_isN ?_ | with_reducible refine w_chain ?_ | with_reducible refine w_sl ?_ | with_reducible refine w_noPart ?_ | with_reducible refine w_part ?_ | with_reducible refine w_fld ?_ | with_reducible refine w_dget ?_ | with_reducible refine w_din ?_ | with_reducible refine w_dnotin ?_ | with_reducible refine w_dput ?_ | with_reducible refine w_newK ?_ | with_reducible refine w_sfld ?_ | with_reducible refine w_methR ?_ | with_reducible refine w_propR ?_ | with_reducible refine w_sl2 ?_ | with_reducible refine w_star ?_ | with_reducible refine w_retN ?_ | with_reducible refine w_gcons ?_ | with_reducible refine w_gnil ?_ | with_reducible refine r_i0 ?_ | with_reducible refine r_u ?_ | with_reducible refine r_eqi ?_ | with_reducible refine r_nei ?_ | with_reducible refine r_eqs ?_ | with_reducible refine r_nes ?_ | with_reducible refine iteT ?_ | with_reducible refine iteF ?_ | with_reducible refine w_lc ?_ | with_reducible refine w_dc ?_ | with_reducible refine w_for ?_ | with_reducible refine w_istr ?_ | with_reducible refine w_ilist ?_ | with_reducible refine w_itup ?_ | with_reducible refine w_irng1 ?_ | with_reducible refine w_irng2 ?_ | with_reducible refine w_ienum ?_ | with_reducible refine w_iitems ?_ | with_reducible refine w_ikeysT ?_ | with_reducible refine w_makeK ?_ | with_reducible refine w_methSN ?_ | with_reducible refine w_makeR ?_ | with_reducible refine w_callR ?_ | with_reducible refine w_dmerge ?_ | with_reducible refine w_ks ?_ | with_reducible refine w_kr ?_ | with_reducible refine isi_int_int ?_ | with_reducible refine isi_int_bool ?_ | with_reducible refine isi_str_str ?_ | with_reducible refine w_1i ?_ | with_reducible refine w_nn ?_ | with_reducible refine w_int_i ?_ | with_reducible refine w_int_b ?_ | ((with_reducible apply w_var); rfl) | ((with_reducible apply r_ixT); assumption; rfl) | ((with_reducible apply r_ixL); assumption; rfl) | ((with_reducible apply isi_tup_tup); assumption) | ((with_reducible apply isi_dict_dict); assumption) | ((with_reducible apply r_lenD); assumption) | ((with_reducible apply r_lenT); assumption) | ((with_reducible apply r_lenL); assumption) | ((with_reducible refine r_all (SqL.of ?_) ?_); assumption) | ((with_reducible apply r_fld); assumption; exact Cn.cls (by assumption) _; exact Cn.noat (by assumption) _ _; first | rfl | assumption) | ((with_reducible apply ite_t); rfl) | ((with_reducible apply ite_f); rfl))))
section
variable {P : Program} {w : World} {K : PySem.W.Frag} {mg : Str → Option Value} {base : Heap}
theorem F_make_entry (C2 : Cn2 P K mg) : FnR P w K mg base (L2.CX P w) 11 (ga K "make_entry") (spMakeEntry K) := by
  have C : Cn P K mg := C2.toCn
  obtain ⟨fd, F⟩ := C.d_make_entry
  have sc : FnScope ["shop", "entry", "user", "name", "word", "rest"] ["shop", "entry"] (defScope (top 44)) := ⟨rfl, rfl, rfl, by decide +kernel, rfl, by decide +kernel, by decide +kernel⟩
  refine fnR_of F sc ?len (fun _ _ _ _ _ _ us hl => match us, hl with | [_, _], _ => rfl) ?body
  case len => exact fun vs H Q E h => by obtain ⟨_, _, _, _, rfl, _⟩ := h; rfl
  case body =>
    intro cdv A outer s H vs Q E hr h0
    obtain ⟨sh, y, st, r, rfl, hsh, ok, hy, hz, q⟩ := h0
    obtain ⟨dx, fw, ow, oe, evs, hs, hfw, how, hoe, hev, had⟩ := id hsh
    have F_Workshop_undo := F_Workshop_undo (w := w) (base := base) C2
    have F_Workshop_set_load := F_Workshop_set_load (w := w) (base := base) C
    have F_Workshop_set_rope := F_Workshop_set_rope (w := w) (base := base) C
    have F_Workshop_drop_rope := F_Workshop_drop_rope (w := w) (base := base) C
    refine ⟨_, (pss_cons (ps_if (pt_cmpR op_eq (pe_callB (call_lenSq : CallR _ _ (rLenSq K)) (by rfl) (C.free "len") b_len (pa_cons (pv 1) pa_nil)) pe_int (nomark _)) (pss_cons (ps_expr (pe_methR (pv 0) (C.cls "Workshop") (C.meth "Workshop" "undo") F_Workshop_undo (hr.mono (by decide)) (passes_call (takes_of rfl rfl rfl rfl) (fun _ _ _ _ h => h)) (pa_cons (pe_ix (ix_tup : IxR _ (rIxT K)) (pv 1) pe_int (fun _ _ => rfl)) pa_nil))) (pss_one ps_retN)) pss_nil) (pss_cons (ps_asg (pv 1) (pg_star rfl (pgs_cons (pg_name (i := 2) sc.nd rfl (Or.inl rfl)) (pgs_cons (pg_name (i := 3) sc.nd rfl (Or.inl rfl)) (pgs_cons (pg_name (i := 4) sc.nd rfl (Or.inl rfl)) (pgs_star (pg_name (i := 5) sc.nd rfl (Or.inl rfl)) pgs_nil)))) : PG _ _ (gStar K 3 _))) (pss_one (ps_if (pt_cmpR op_eq (pv 4) pe_str (nomark _)) (pss_one (ps_expr (pe_methSN (pv 0) (C.cls "Workshop") (C.bmeth "Workshop" "set_load") F_Workshop_set_load (hr.mono (by decide)) (passes_call (takes_of rfl rfl rfl rfl) (fun _ _ _ _ h => h)) (pa_cons (pv 2) (pa_cons (pv 3) (StX.pa_star (pv 5) pa_nil)))))) (pss_one (ps_if (pt_cmpR op_eq (pv 4) pe_str (nomark _)) (pss_one (ps_expr (pe_methSN (pv 0) (C.cls "Workshop") (C.bmeth "Workshop" "set_rope") F_Workshop_set_rope (hr.mono (by decide)) (passes_call (takes_of rfl rfl rfl rfl) (fun _ _ _ _ h => h)) (pa_cons (pv 2) (pa_cons (pv 3) (StX.pa_star (pv 5) pa_nil)))))) (pss_one (ps_expr (pe_methSN (pv 0) (C.cls "Workshop") (C.bmeth "Workshop" "drop_rope") F_Workshop_drop_rope (hr.mono (by decide)) (passes_call (takes_of rfl rfl rfl rfl) (fun _ _ _ _ h => h)) (pa_cons (pv 2) (pa_cons (pv 3) (StX.pa_star (pv 5) pa_nil)))))))))))), ?_⟩
    cases r with
    | undo u =>
      obtain ⟨a, rfl, hS⟩ := dp_undo_inv hy
      walk_at "w"
      refine ⟨sh, dx, _, rfl, hs, rfl, ?_⟩
      walk_at "w"
      refine ⟨sh, u, st, rfl, hsh, ok, hz, ?_⟩
      have q : match undoS st u with
        | .ok st' => ∀ H', SX sh H H' → ShopAt K H' sh st' → Q .non H'
        | .error x => ∀ H', Same H H' → exEr K E H' x := q
      cases hq : undoS st u with
      | ok st' =>
        rw [hq] at q
        intro y H' t hh
        walk_at "w"
        exact q H' t hh
      | error x =>
        rw [hq] at q
        exact q
    | ent e =>
      have q : shRes K H Q E sh st e := q
      cases e with
      | load u n z f =>
        obtain ⟨a, fv, rfl, hS, hf⟩ := dp_load_inv hy
        walk_at "w"
        refine w_star3 hS (by simp) fun d fd => ?_
        have s1 : Same H (upd H d (.lst [.str z, fv])) := same_upd_fresh fd (Same.refl _)
        have e1 : upd H d (.lst [.str z, fv]) d = some (.lst [.str z, fv]) := upd_same
        generalize upd H d (.lst [.str z, fv]) = H1 at s1 e1 ⊢
        walk_at "w"
        refine ⟨sh, dx, _, rfl, s1 _ _ hs, rfl, fun qm fq => ?_⟩
        have s2 : Same H1 (upd H1 qm (.met (ma K (ga K "Workshop") "set_load") sh)) := same_upd_fresh fq (Same.refl _)
        have eq2 : upd H1 qm (.met (ma K (ga K "Workshop") "set_load") sh) qm = some (.met (ma K (ga K "Workshop") "set_load") sh) := upd_same
        generalize upd H1 qm (.met (ma K (ga K "Workshop") "set_load") sh) = H2 at s2 eq2 ⊢
        walk_at "w"
        refine ⟨d, [.str z, fv], rfl, .inr (SqL.of (s2 _ _ e1)), ?_⟩
        walk_at "w"
        refine ⟨eq2, ?_⟩
        have s02 := s1.trans s2
        refine ⟨sh, u, n, z, fv, f, st, rfl, hsh.same s02, ok, dp_kd (same_kd s02) (np_fr f) hf, hz, ?_⟩
        unfold shRes at q ⊢
        cases hq : doS st (.load u n z f) with
        | ok st' =>
          rw [hq] at q
          intro H' t hh
          walk_at "w"
          exact q H' ((sx_same s02).trans t) hh
        | error x =>
          rw [hq] at q
          exact fun H' t => q H' (s02.trans t)
      | rope u n z p f =>
        obtain ⟨a, pv, fv, rfl, hS, hp, hf⟩ := dp_rope_inv' hy
        walk_at "w"
        refine w_star3 hS (by simp) fun d fd => ?_
        have s1 : Same H (upd H d (.lst [.str z, pv, fv])) := same_upd_fresh fd (Same.refl _)
        have e1 : upd H d (.lst [.str z, pv, fv]) d = some (.lst [.str z, pv, fv]) := upd_same
        generalize upd H d (.lst [.str z, pv, fv]) = H1 at s1 e1 ⊢
        walk_at "w"
        refine ⟨sh, dx, _, rfl, s1 _ _ hs, rfl, fun qm fq => ?_⟩
        have s2 : Same H1 (upd H1 qm (.met (ma K (ga K "Workshop") "set_rope") sh)) := same_upd_fresh fq (Same.refl _)
        have eq2 : upd H1 qm (.met (ma K (ga K "Workshop") "set_rope") sh) qm = some (.met (ma K (ga K "Workshop") "set_rope") sh) := upd_same
        generalize upd H1 qm (.met (ma K (ga K "Workshop") "set_rope") sh) = H2 at s2 eq2 ⊢
        walk_at "w"
        refine ⟨d, [.str z, pv, fv], rfl, .inr (SqL.of (s2 _ _ e1)), ?_⟩
        walk_at "w"
        refine ⟨eq2, ?_⟩
        have s02 := s1.trans s2
        refine ⟨sh, u, n, z, pv, fv, p, f, st, rfl, hsh.same s02, ok, dp_kd (same_kd s02) (np_pv p) hp, dp_kd (same_kd s02) (np_fr f) hf, hz, ?_⟩
        unfold shRes at q ⊢
        cases hq : doS st (.rope u n z p f) with
        | ok st' =>
          rw [hq] at q
          intro H' t hh
          walk_at "w"
          exact q H' ((sx_same s02).trans t) hh
        | error x =>
          rw [hq] at q
          exact fun H' t => q H' (s02.trans t)
      | drop u n z =>
        obtain ⟨a, rfl, hS⟩ := dp_drop_inv hy
        walk_at "w"
        refine w_star3 hS (by simp) fun d fd => ?_
        have s1 : Same H (upd H d (.lst [.str z])) := same_upd_fresh fd (Same.refl _)
        have e1 : upd H d (.lst [.str z]) d = some (.lst [.str z]) := upd_same
        generalize upd H d (.lst [.str z]) = H1 at s1 e1 ⊢
        walk_at "w"
        refine ⟨sh, dx, _, rfl, s1 _ _ hs, rfl, fun qm fq => ?_⟩
        have s2 : Same H1 (upd H1 qm (.met (ma K (ga K "Workshop") "drop_rope") sh)) := same_upd_fresh fq (Same.refl _)
        have eq2 : upd H1 qm (.met (ma K (ga K "Workshop") "drop_rope") sh) qm = some (.met (ma K (ga K "Workshop") "drop_rope") sh) := upd_same
        generalize upd H1 qm (.met (ma K (ga K "Workshop") "drop_rope") sh) = H2 at s2 eq2 ⊢
        walk_at "w"
        refine ⟨d, [.str z], rfl, .inr (SqL.of (s2 _ _ e1)), ?_⟩
        walk_at "w"
        refine ⟨eq2, ?_⟩
        have s02 := s1.trans s2
        refine ⟨sh, u, n, z, st, rfl, hsh.same s02, ok, hz, ?_⟩
        unfold shRes at q ⊢
        cases hq : doS st (.drop u n z) with
        | ok st' =>
          rw [hq] at q
          intro H' t hh
          walk_at "w"
          exact q H' ((sx_same s02).trans t) hh
        | error x =>
          rw [hq] at q
          exact fun H' t => q H' (s02.trans t)
end
end PW

/-! ##### WR -/
set_option Elab.async false
set_option linter.all false
set_option maxRecDepth 100000
set_option maxHeartbeats 2000000
namespace PW
open PySem PySem.Spec PyProof.Rows L2 He PWL

open PWW
/-! ### rehearse -/
def foldQ (st : Shop) : List Rq → Except Er Shop
  | [] => .ok st
  | r :: rs => match doQ st r with
    | .ok st' => foldQ st' rs
    | .error x => .error x
theorem foldQ_snoc {st : Shop} {rs : List Rq} {r : Rq} : foldQ st (rs ++ [r]) = match foldQ st rs with
    | .ok st' => doQ st' r
    | .error x => .error x := by
  induction rs generalizing st with
  | nil =>
    show (match doQ st r with | .ok w' => foldQ w' [] | .error x => .error x) = doQ st r
    cases doQ st r <;> rfl
  | cons a t ih =>
    show (match doQ st a with | .ok w' => foldQ w' (t ++ [r]) | .error x => .error x) = _
    show _ = match (match doQ st a with | .ok w' => foldQ w' t | .error x => .error x) with | .ok w' => doQ w' r | .error x => .error x
    cases doQ st a with
    | ok w' => exact ih
    | error x => rfl
theorem foldQ_pre {st : Shop} {rs : List Rq} {i : Nat} {x : Er} (h : foldQ st (rs.take i) = .error x) : foldQ st rs = .error x := by
  rw [← List.take_append_drop i rs]
  have gen : ∀ (r pre : List Rq), foldQ st pre = .error x → foldQ st (pre ++ r) = .error x := by
    intro r
    induction r with
    | nil => intro pre h; rw [List.append_nil]; exact h
    | cons a r ih =>
      intro pre h
      have : pre ++ a :: r = (pre ++ [a]) ++ r := by simp
      rw [this]
      exact ih _ (by rw [foldQ_snoc, h])
  exact gen _ _ h
/-- what one request keeps -/
structure ShStep (st st' : Shop) : Prop where
  f : WOk st.first → WOk st'.first
  w : WOk st.first → WOk st.works → WOk st'.works
  e : (∀ e ∈ st.es, enOk e ∧ isN e.n) → ∀ e ∈ st'.es, enOk e ∧ isN e.n
  z : st'.es.length ≤ st.es.length + 1
  fst : st'.first = st.first
  ad : st'.ad = st.ad
theorem doQ_step {st st' : Shop} {r : Rq} (hz : rqOk r) (h : doQ st r = .ok st') : ShStep st st' := by
  cases r with
  | ent e =>
    have h : doS st e = .ok st' := h
    unfold doS at h
    split at h
    · split at h
      · rename_i h1 h2
        cases hd : doW st.works e with
        | error x => rw [hd] at h; cases h
        | ok w' =>
          rw [hd] at h
          cases h
          refine ⟨fun z => z, fun _ z => doW_ok z hd, fun z e' he => ?_, by simp, rfl, rfl⟩
          rcases List.mem_append.mp he with he | he
          · exact z _ he
          · rw [List.mem_singleton.mp he]
            exact ⟨hz, isNb_iff.mp h2⟩
      · cases h
    · cases h
  | undo u =>
    have h : undoS st u = .ok st' := h
    unfold undoS at h
    split at h
    · cases hp : (places st.es u).getLast? with
      | none => rw [hp] at h; cases h
      | some k =>
        rw [hp] at h
        dsimp only at h
        cases hf : foldW st.first (st.es.take k ++ st.es.drop (k + 1)) with
        | error x => rw [hf] at h; cases h
        | ok w' =>
          rw [hf] at h
          cases h
          refine ⟨fun z => z, fun z _ => foldW_ok z hf, fun z e' he => ?_, ?_, rfl, rfl⟩
          · exact z _ ((List.mem_append.mp he).elim List.mem_of_mem_take List.mem_of_mem_drop)
          · rw [List.length_append, List.length_take, List.length_drop]
            omega
    · cases h
theorem foldQ_ok {st st' : Shop} {rs : List Rq} (hr : ∀ r ∈ rs, rqOk r) (ok : ShOk st) (hz : st.es.length + rs.length ≤ 1000) (h : foldQ st rs = .ok st') : ShOk st' ∧ st'.es.length ≤ st.es.length + rs.length ∧ st'.first = st.first ∧ st'.ad = st.ad := by
  induction rs generalizing st with
  | nil => cases h; exact ⟨ok, Nat.le_refl _, rfl, rfl⟩
  | cons r rs ih =>
    have h : (match doQ st r with | .ok w' => foldQ w' rs | .error x => .error x) = .ok st' := h
    cases hd : doQ st r with
    | error x => rw [hd] at h; cases h
    | ok s1 =>
      rw [hd] at h
      have k := doQ_step (hr r List.mem_cons_self) hd
      have kz := k.z
      rw [List.length_cons] at hz ⊢
      obtain ⟨a, b, c, d⟩ := ih (fun r h => hr r (List.mem_cons_of_mem _ h)) ⟨k.f ok.f, k.w ok.f ok.w, k.e ok.e, by omega⟩ (by omega) h
      exact ⟨a, by omega, c.trans k.fst, d.trans k.ad⟩
def spRehearse (K : PySem.W.Frag) : Sp := fun vs H Q E =>
  (∃ (s : Addr) (ys : List V) (st : Shop) (rs : List Rq), vs = .ref s :: ys ∧ ShopAt K H s st ∧ ShOk st ∧ DpAll K H ys (rs.map rqD) ∧ (∀ r ∈ rs, rqOk r) ∧ st.es.length + rs.length ≤ 1000 ∧ match foldQ st rs with
    | .ok st' => ∀ r H', H r = none → Same H H' → WorksAt K H' (.ref r) st'.works → Q (.ref r) H'
    | .error x => ∀ H', Same H H' → exEr K E H' x) ∨
  ∃ (v : V) (ys : List V), vs = v :: ys ∧ ys.length ≤ 1000 ∧ (v = .non ∨ (∃ i, v = .int i) ∨ ∃ z, v = .str z) ∧ ∀ H', Same H H' → exX K E H' "InvalidName" "value" v
theorem npL_rq : ∀ rs : List Rq, npL (rs.map rqD) = true
  | [] => rfl
  | r :: rs => by rw [List.map_cons, npL, np_rq, npL_rq rs]; rfl
/-- an error is let through the manager's exit -/
theorem lift_er {K : PySem.W.Frag} {E : XK} {H Herr : Hp} {t dt s dx : Addr} {fw ow oe ow' oe' : V} {x : Er} {E' : XK} (hne : t ≠ s) (hs0 : H s = some (.ins (ga K "Workshop") dx (shFs fw ow oe))) (hs : Herr s = some (.ins (ga K "Workshop") dx (shFs fw ow' oe'))) (ht : Herr t = some (.ins (ga K "Trial") dt (trFs s ow oe)))
    (sx : SX s H Herr) (q : ∀ H', Same H H' → exEr K E H' x)
    (hE : ∀ C d H1 dx', H1 t = some (.ins (ga K "Trial") dt (trFs s ow oe)) → H1 s = some (.ins (ga K "Workshop") dx' (shFs fw ow' oe')) → (∀ H', SX s H1 H' → H' s = some (.ins (ga K "Workshop") dx' (shFs fw ow oe)) → E (.ref C) d H') → E' (.ref C) d H1) : exEr K E' Herr x := by
  have gen : ∀ {C d : Addr} {fld : Str} {v : V}, Herr d = none → (∀ H'', Same H H'' → Kd Herr H'' → ∀ d, H'' d = none → E (.ref C) (some d) (upd H'' d (.xd [(fld, v)]))) → E' (.ref C) (some d) (upd Herr d (.xd [(fld, v)])) := by
    intro C d fld v hd hq
    have hts : t ≠ d := ne_of_none ht hd
    have hss : s ≠ d := ne_of_none hs hd
    refine hE C (some d) _ dx (by rw [upd_ne hts]; exact ht) (by rw [upd_ne hss]; exact hs) fun H' sx' hs' => ?_
    have ed : H' d = some (.xd [(fld, v)]) := sx' d _ (Ne.symm hss) upd_same
    have eH : H' = upd (fun b => if b = d then none else H' b) d (.xd [(fld, v)]) := by
      funext b
      unfold upd
      by_cases hb : b = d
      · rw [if_pos hb, hb, ed]
      · rw [if_neg hb]
        show H' b = if b = d then none else H' b
        rw [if_neg hb]
    rw [eH]
    have key : ∀ b o, b ≠ s → Herr b = some o → (fun b => if b = d then none else H' b) b = some o := fun b o hb h => by
      have hbd : b ≠ d := ne_of_none h hd
      show (if b = d then none else H' b) = some o
      rw [if_neg hbd]
      exact sx' b o hb (by rw [upd_ne hbd]; exact h)
    refine hq _ (fun b o hb => ?_) ?_ d (by show (if d = d then none else H' d) = none; rw [if_pos rfl])
    · by_cases hbs : b = s
      · subst hbs
        rw [hs0] at hb
        show (if b = d then none else H' b) = some o
        rw [if_neg hss, hs', hb]
      · exact key b o hbs (sx b o hbs hb)
    · exact sx_kd (fun b o hb h => key b o hb h) (by rw [hs]; exact True.intro)
  cases x with
  | unknown z => exact fun d hd => gen hd fun H'' s k => q H'' s
  | name z => exact fun d hd => gen hd fun H'' s k => q H'' s
  | rope z => exact fun d hd => gen hd fun H'' s k => q H'' s
  | limit n => exact fun d hd => gen hd fun H'' s k => q H'' s
  | number f => exact fun y hy d hd => gen hd fun H'' s k => q H'' s y (dp_kd k (np_fr f) hy)
  | nothing =>
    refine hE _ none _ dx ht hs fun H' sx' hs' => q H' fun b o hb => ?_
    by_cases hbs : b = s
    · subst hbs
      rw [hs0] at hb
      rw [hs', hb]
    · exact sx' b o hbs (sx b o hbs hb)
local macro_rules | `(tactic| walk_at "w") => `(tactic| (repeat (first | with_reducible refine w_seq ?_ | with_reducible refine w_ret ?_ | with_reducible refine w_asg ?_ | with_reducible refine w_ifs ?_ | with_reducible refine w_drop ?_ | with_reducible refine w_next ?_ | with_reducible refine w_cont ?_ | with_reducible refine w_par ?_ | with_reducible refine w_par3 ?_ | with_reducible refine w_three ?_ | with_reducible refine w_two ?_ | with_reducible refine w_name ?_ | with_reducible refine w_c ?_ | with_reducible refine w_op ?_ | with_reducible refine w_un ?_ | with_reducible refine w_cb ?_ | with_reducible refine w_cons ?_ | with_reducible refine w_nil ?_ | with_reducible refine w_tup ?_ | with_reducible refine w_lst ?_ | with_reducible refine w_test ?_ | with_reducible refine w_B ?_ | with_reducible refine w_k ?_ | with_reducible refine w_ki ?_ | with_reducible refine w_and ?_ | with_reducible refine w_or ?_ | with_reducible refine w_not ?_ | with_reducible refine w_andV ?_ | with_reducible refine w_orV ?_ | with_reducible refine w_notV ?_ | with_reducible refine w_if ?_ | with_reducible refine w_yes ?_ | with_reducible refine w_isN ?_ | with_reducible refine w_chain ?_ | with_reducible refine w_sl ?_ | with_reducible refine w_noPart ?_ | with_reducible refine w_part ?_ | with_reducible refine w_fld ?_ | with_reducible refine w_dget ?_ | with_reducible refine w_din ?_ | with_reducible refine w_dnotin ?_ | with_reducible refine w_dput ?_ | with_reducible refine w_newK ?_ | with_reducible refine w_sfld ?_ | with_reducible refine w_methR ?_ | with_reducible refine w_propR ?_ | with_reducible refine w_sl2 ?_ | with_reducible refine w_star ?_ | with_reducible refine w_retN ?_ | with_reducible refine w_gcons ?_ | with_reducible refine w_gnil ?_ | with_reducible refine r_i0 ?_ | with_reducible refine r_u ?_ | with_reducible refine r_eqi ?_ | with_reducible refine r_nei ?_ | with_reducible refine r_eqs ?_ | with_reducible refine r_nes ?_ | with_reducible refine iteT ?_ | with_reducible refine iteF ?_ | with_reducible refine w_lc ?_ | with_reducible refine w_dc ?_ | with_reducible refine w_for ?_ | with_reducible refine w_istr ?_ | with_reducible refine w_ilist ?_ | with_reducible refine w_itup ?_ | with_reducible refine w_irng1 ?_ | with_reducible refine w_irng2 ?_ | with_reducible refine w_ienum ?_ | with_reducible refine w_iitems ?_ | with_reducible refine w_ikeysT ?_ | with_reducible refine w_makeK ?_ | with_reducible refine w_methSN ?_ | with_reducible refine w_makeR ?_ | with_reducible refine w_callR ?_ | with_reducible refine w_dmerge ?_ | with_reducible refine w_ks ?_ | with_reducible refine w_kr ?_ | with_reducible refine isi_int_int ?_ | with_reducible refine isi_int_bool ?_ | with_reducible refine isi_str_str ?_ | with_reducible refine w_1i ?_ | with_reducible refine w_nn ?_ | with_reducible refine w_int_i ?_ | with_reducible refine w_int_b ?_ | ((with_reducible apply w_var); rfl) | ((with_reducible apply r_ixT); assumption; rfl) | ((with_reducible apply r_ixL); assumption; rfl) | ((with_reducible apply isi_tup_tup); assumption) | ((with_reducible apply isi_dict_dict); assumption) | ((with_reducible apply r_lenD); assumption) | ((with_reducible apply r_lenT); assumption) | ((with_reducible apply r_lenL); assumption) | ((with_reducible refine r_all (SqL.of ?_) ?_); assumption) | ((with_reducible apply r_fld); assumption; exact Cn.cls (by assumption) _; exact Cn.noat (by assumption) _ _; first | rfl | assumption) | ((with_reducible apply ite_t); rfl) | ((with_reducible apply ite_f); rfl))))
section
variable {P : Program} {w : World} {K : PySem.W.Frag} {mg : Str → Option Value} {base : Heap}
theorem F_names (C : Cn P K mg) : FnR P w K mg base (L2.CX P w) 1 (pAd K ("Workshop", "names")) (spNames K) := by
  obtain ⟨fd, F⟩ := C.f_names
  have sc : FnScope ["self"] ["self"] (defScope (inClass (top 43) 1)) := ⟨rfl, rfl, rfl, by decide +kernel, rfl, by decide +kernel, by decide +kernel⟩
  refine fnR_nox F sc ?len (fun _ _ _ _ _ _ us hl => match us, hl with | [_], _ => rfl) ?body
  case len => exact fun vs H Q E h => by obtain ⟨_, _, _, _, _, _, _, rfl, _⟩ := h; rfl
  case body =>
    intro cdv A outer s H vs Q E hr h0
    obtain ⟨sh, dx, fw, oe, d, w1, w2, rfl, hs, hd, q⟩ := h0
    refine ⟨_, (pss_one (ps_ret (pe_callTy (call_listD rfl) (by rfl) (C.free "list") b_list (pa_cons (pe_fld (pv 0) rfl : PE _ _ (tFld K _ _)) pa_nil)))), ?_⟩
    walk_at "w"
    refine ⟨d, _, rfl, .inl hd, fun p hp => ?_⟩
    exact q p _ hp (same_upd_fresh hp (Same.refl _)) upd_same
theorem F_entries (C : Cn P K mg) : FnR P w K mg base (L2.CX P w) 1 (pAd K ("Workshop", "entries")) (spEntries K) := by
  obtain ⟨fd, F⟩ := C.f_entries
  have sc : FnScope ["self"] ["self"] (defScope (inClass (top 43) 2)) := ⟨rfl, rfl, rfl, by decide +kernel, rfl, by decide +kernel, by decide +kernel⟩
  refine fnR_nox F sc ?len (fun _ _ _ _ _ _ us hl => match us, hl with | [_], _ => rfl) ?body
  case len => exact fun vs H Q E h => by obtain ⟨_, _, _, _, _, _, rfl, _⟩ := h; rfl
  case body =>
    intro cdv A outer s H vs Q E hr h0
    obtain ⟨sh, dx, fw, ow, oe, evs, rfl, hs, hoe, q⟩ := h0
    refine ⟨_, (pss_one (ps_ret (pe_callTy (call_listOf : CallR _ _ (rListOf K)) (by rfl) (C.free "list") b_list (pa_cons (pe_fld (pv 0) rfl : PE _ _ (tFld K _ _)) pa_nil)))), ?_⟩
    walk_at "w"
    refine r_listOf (.inl (SqL.of hoe)) fun p hp => ?_
    exact q p _ hp (same_upd_fresh hp (Same.refl _)) upd_same
theorem FW_exit (C : Cn P K mg) : FnW P w K mg base 1 (ma K (ga K "Trial") "__exit__") (spTrExit K) := by
  obtain ⟨fd, F⟩ := C.d_Trial___exit__
  have sc : FnScope ["self", "kind", "value", "trace"] ["self", "kind", "value", "trace"] (defScope (inClass (top 42) 2)) := ⟨rfl, rfl, rfl, by decide +kernel, rfl, by decide +kernel, by decide +kernel⟩
  refine fnW_of F sc (fun vs H Q E h => by obtain ⟨_, _, _, _, _, _, _, _, _, _, _, _, rfl, _⟩ := h; rfl) (fun _ _ _ _ _ _ us hl => match us, hl with | [_, _, _, _], _ => rfl) fun cdv A outer s H vs Q p hr h0 => ?_
  obtain ⟨t, dt, sh, dx, a, b, fw, ow, oe, v1, v2, v3, rfl, hne, ht, hs, q⟩ := h0
  refine ⟨_, (pss_cons (ps_fld (pe_fld (pv 0) rfl : PE _ _ (tFld K _ _)) (pe_fld (pv 0) rfl : PE _ _ (tFld K _ _)) rfl) (pss_one (ps_fld (pe_fld (pv 0) rfl : PE _ _ (tFld K _ _)) (pe_fld (pv 0) rfl : PE _ _ (tFld K _ _)) rfl))), ?_⟩
  walk_at "w"
  refine r_sfld hs (C.cls _) (C.noat _ _) (by show 3 < 1000; decide) ?_
  have ht2 : ∀ o, upd H sh o t = some (.ins (ga K "Trial") dt (trFs sh a b)) := fun o => by rw [upd_ne hne]; exact ht
  walk_at "w"
  refine r_fld (ht2 _) (C.cls _) (C.noat _ _) rfl ?_
  walk_at "w"
  refine r_fld (ht2 _) (C.cls _) (C.noat _ _) rfl ?_
  walk_at "w"
  refine r_sfld upd_same (C.cls _) (C.noat _ _) (by show 3 < 1000; decide) ?_
  rw [upd_upd]
  exact q _ sx_upd upd_same
theorem isi_C {Hh : Hp} {Q : VK} {x : V} {t : Value} {Ca : Addr} {k : Bool} (ht : TyX K Hh x t) (hk : PySem.W.kitOne K t (.ref Ca) = some k) (h : Q (.bl k) Hh) : rIsi K [x, .ref Ca] Hh Q := ⟨x, .ref Ca, t, .ref Ca, k, rfl, .own Ca, ht, hk, h⟩
theorem w_callRS {sp : Sp} {E : L2.St → XK} {t : TA} {σ : L2.St} {H : Hp} {Q : VK} (h : t σ H fun vs H1 => sp vs H1 Q (E σ)) : tCallRS sp E t σ H Q := h
theorem w_with {spE spX : Sp} {te : TE} {tb : WX → TS} {i : Nat} {Wout : WX} {Cl : Addr} {D : Ends} {σ : L2.St} {H : Hp} (h : te σ H fun x H1 => ∃ a dx fs, x = .ref a ∧ H1 a = some (.ins Cl dx fs) ∧ spE [.ref a] H1 (fun v H2 =>
  tb (wWith spX a Wout) { nx := fun σ' H' => spX [.ref a, .non, .non, .non] H' (fun _ H3 => D.nx σ' H3) E0, rt := fun r H' => spX [.ref a, .non, .non, .non] H' (fun _ H3 => D.rt r H3) E0, bk := fun σ' H' => spX [.ref a, .non, .non, .non] H' (fun _ H3 => D.bk σ' H3) E0, ct := fun σ' H' => spX [.ref a, .non, .non, .non] H' (fun _ H3 => D.ct σ' H3) E0 } (σ.set i (some v)) H2) E0) : tWith Cl spE spX te i tb Wout D σ H := h
theorem F_rehearse (C2 : Cn2 P K mg) : FnR P w K mg base (L2.CX P w) 13 (ga K "rehearse") (spRehearse K) := by
  have C : Cn P K mg := C2.toCn
  obtain ⟨fd, F⟩ := C.d_rehearse
  have sc : FnScope ["workshop", "entries", "shop", "entry", "name"] ["workshop", "entries"] (defScope (top 45)) := ⟨rfl, rfl, rfl, by decide +kernel, rfl, by decide +kernel, by decide +kernel⟩
  obtain ⟨oc, od, dV, kV, doc, pm, an, cdv, ct, osl, rfl, lk, hcd, hdV, _⟩ := F.ex
  obtain rfl : dV = Value.none := by
    rcases hdV with ⟨_, e⟩ | ⟨n, _⟩
    · exact e
    · exact absurd rfl n
  have F_make_entry := F_make_entry (w := w) (base := base) C2
  have F_Workshop_trial := F_Workshop_trial (w := w) (base := base) C
  have F_Trial___enter__ := F_Trial___enter__ (w := w) (base := base) C
  have F_Trial___exit__ := F_Trial___exit__ (w := w) (base := base) C
  have FW_exit := FW_exit (w := w) (base := base) C
  have F_names := F_names (w := w) (base := base) C
  have F_Workshop_work := F_Workshop_work (w := w) (base := base) C
  refine FnR.imp (StX.fn_star (ps := ["workshop"]) (pv := "entries") (N := ["workshop", "entries", "shop", "entry", "name"]) (k := 12) (sp := fun vs H Q E => ∃ v p ys, vs = [v, .ref p] ∧ H p = some (.tup ys) ∧ ∃ H0, H0 p = none ∧ H = upd H0 p (.tup ys) ∧ spRehearse K (v :: ys) H0 Q E) lk hcd sc StX.cxUp ?hb ?body) ?imp
  case hb => exact StX.bind_star1 (B := fun us => bindArgs (PySem.W.fnOf "rehearse" "rehearse" (defArgs (top 45)) (defBody (top 45)) (defScope (top 45)) .none kV doc pm an cdv ct) ⟨us, []⟩) (p1 := "workshop") (pv := "entries") (fun a => rfl) (fun a r rs => rfl)
  case imp =>
    intro vs H Q E h
    have key : ∀ v ys, ys.length ≤ 1000 → spRehearse K (v :: ys) H Q E → ∃ ws rest, v :: ys = ws ++ rest ∧ ws.length = ["workshop"].length ∧ rest.length ≤ sizeLine ∧ ∀ p, H p = none → ∃ v' p' ys', ws ++ [V.ref p] = [v', .ref p'] ∧ (upd H p (.tup rest)) p' = some (.tup ys') ∧ ∃ H0, H0 p' = none ∧ upd H p (.tup rest) = upd H0 p' (.tup ys') ∧ spRehearse K (v' :: ys') H0 Q E :=
      fun v ys hz h => ⟨[v], ys, rfl, rfl, Nat.le_trans hz (by decide), fun p hp => ⟨v, p, ys, rfl, upd_same, H, hp, rfl, h⟩⟩
    rcases id h with ⟨s, ys, st, rs, rfl, _, _, hd, _, hz, _⟩ | ⟨v, ys, rfl, hz, _⟩
    · exact key _ _ (by rw [dpAll_len hd, List.length_map]; omega) h
    · exact key _ _ hz h
  case body =>
    intro A outer s H vs Q E hr h0
    obtain ⟨v, pt, ys, rfl, hpt, H0, hp0, hHe, h0⟩ := h0
    have s0 : Same H0 H := by rw [hHe]; exact same_upd_fresh hp0 (Same.refl _)
    refine ⟨_, (pss_cons (ps_if (pt_not (pt_val (pe_callB (call_isi : CallR _ _ (rIsi K)) (by rfl) (C.free "isinstance") b_isinstance (pa_cons (pv 0) (pa_cons (pe_globR (x := "Workshop") C (by rfl) (by rfl)) pa_nil))))) (pss_one (ps_raiseX rfl C.x_InvalidName hr (takes_of rfl rfl rfl rfl) (pa_cons (pv 0) pa_nil))) pss_nil) (pss_one (ps_with (i := 2) rfl rfl rfl (takes_of rfl rfl rfl rfl) (pe_methR0 (pv 0) (C.cls "Workshop") (C.meth "Workshop" "trial") F_Workshop_trial (hr.mono (by decide)) (passes_call (takes_of rfl rfl rfl rfl) (fun _ _ _ _ h => h))) C2.trE C2.trX F_Trial___enter__ F_Trial___exit__ FW_exit (hr.mono (by decide)) sc.nd rfl (Or.inr rfl) (fun W pn xe tk po => by exact (pss_cons (ps_for po rfl (pi_tup (pv 1) : PI _ _ _ (iTup K _)) (pg_name (i := 3) sc.nd rfl (Or.inl rfl)) (pss_one (ps_expr (pe_callRS F_make_entry (hr.mono (by decide)) (by rfl) (C.g "make_entry") (C.keep "make_entry") (fun σ => passAt tk σ) (pa_cons (pv 2) (pa_cons (pv 3) pa_nil)))))) (pss_one (ps_ret (pe_dc (own := [("name", 4)]) rfl sc.nd (pi_list (pe_propR (pv 2) (C.cls "Workshop") C.p_names F_names (hr.mono (by decide)) passL) : PI _ _ _ (iList K _)) (blkOk_by (N := ["workshop", "entries", "shop", "entry", "name"]) (sc := defScope (top 45)) (by decide +kernel)) (fun _ _ _ _ _ => (pg_name (i := 4) sc.nd rfl (Or.inl rfl))) (fun _ _ _ _ _ => pts_nil) (fun _ _ _ _ _ => (pv 4)) (fun _ _ _ _ _ => (pe_methR (pv 2) (C.cls "Workshop") (C.meth "Workshop" "work") F_Workshop_work (hr.mono (by decide)) passL (pa_cons (pv 4) pa_nil))) (fun _ => rfl))))))))), ?_⟩
    walk_at "w"
    rcases h0 with ⟨sh, ys', st, rs, e, hsh, ok, hd, hrq, hz, q⟩ | ⟨v', ys', e, _, hv, q⟩
    · injection e with e1 e2
      subst e1 e2
      have hsh1 := hsh.same s0
      obtain ⟨dx, fw, ow, oe, evs, hs, hfw, how, hoe, hev, had⟩ := id hsh1
      have hd1 := dpAll_kd (same_kd s0) (npL_rq rs) hd
      refine isi_C (.base (.ins hs (C.cls _) (C.isC "Workshop").ha (C.isC "Workshop").hn (C.isC "Workshop").htk (C.isC "Workshop").hm)) (C.isC "Workshop").me ?_
      walk_at "w"
      dsimp only
      refine w_with ?_
      walk_at "w"
      refine ⟨sh, dx, _, rfl, hs, rfl, ?_⟩
      walk_at "w"
      refine ⟨sh, rfl, fun t dt H1 ht s1 hit => ⟨t, dt, _, rfl, hit, ?_⟩⟩
      have hts : t ≠ sh := Ne.symm (ne_of_none hs ht)
      refine ⟨t, dt, sh, dx, .non, .non, fw, ow, .ref oe, rfl, hts, hit, s1 _ _ hs, fun H2 sx2 ht2 => ?_⟩
      have hs2 : H2 sh = some (.ins (ga K "Workshop") dx (shFs fw ow (.ref oe))) := sx2 _ _ (Ne.symm hts) (s1 _ _ hs)
      have s02 : Same H H2 := fun b o hb => sx2 b o (ne_of_none hb ht) (s1 b o hb)
      have s02h := s02
      have s02' : Same H0 H2 := s0.trans s02
      obtain ⟨_, _, _, _, _, hs0', _⟩ := id hsh
      have hs0 : H0 sh = some (.ins (ga K "Workshop") dx (shFs fw ow (.ref oe))) := by rw [hs0', ← s0 _ _ hs0', hs]
      have hpts : pt ≠ sh := fun e => by rw [e, hs] at hpt; cases hpt
      walk_at "w"
      have hpt2 : SqT K H2 pt ys := SqT.of (s02 _ _ hpt)
      refine ⟨⟨_, hpt2⟩, ?_⟩
      have hlen : ys.length = rs.length := by rw [dpAll_len hd, List.length_map]
      refine for_it walk_tup (fun i σ' H' => SX sh H2 H' ∧ ∃ x3 st', σ' = [some (.ref sh), some (.ref pt), some (.ref sh), x3, none] ∧ foldQ st (rs.take i) = .ok st' ∧ ShopAt K H' sh st') ⟨SX.refl _ _, none, st, rfl, rfl, hsh.same s02'⟩ (fun i σ' H' _ pv => SqT.of (pv.1 _ _ hpts (s02 _ _ hpt))) (fun i y σ' H3' H3 hi pv yy => ?_) (fun σ' H3 pv => ?_)
      · obtain ⟨rfl, hy⟩ := yy
        obtain ⟨t23, x3, st', rfl, hfi, hsh3⟩ := pv
        have hir : i < rs.length := by omega
        have hr1 : rs[i]? = some (rs[i]'hir) := List.getElem?_eq_getElem _
        obtain ⟨v, hv, dv⟩ := dpAll_at hd1 (i := i) (d := rqD (rs[i]'hir)) (by rw [List.getElem?_map, hr1]; rfl)
        rw [hy] at hv
        cases hv
        have ftake : foldQ st (rs.take (i + 1)) = doQ st' (rs[i]'hir) := by
          rw [List.take_add_one, hr1, Option.toList_some, foldQ_snoc, hfi]
        obtain ⟨ok', hz', hf', had'⟩ := foldQ_ok (fun r hr => hrq r (List.mem_of_mem_take hr)) ok (by rw [List.length_take]; omega) hfi
        have kd3 : Kd H H3 := (same_kd s02h).trans (sx_kd t23 (by rw [hs2]; exact True.intro))
        walk_at "w"
        refine w_callRS ?_
        walk_at "w"
        refine ⟨sh, y, st', rs[i]'hir, rfl, hsh3, ok', dp_kd kd3 (np_rq _) dv, hrq _ (List.getElem_mem hir), ?_⟩
        cases hd4 : doQ st' (rs[i]'hir) with
        | ok st4 =>
          intro H4 t34 hsh4
          walk_at "w"
          exact ⟨t23.trans t34, some y, st4, rfl, by rw [ftake, hd4], hsh4⟩
        | error x =>
          rw [foldQ_pre (i := i + 1) (by rw [ftake, hd4])] at q
          intro H4 s34
          obtain ⟨dx3, fw3, ow3, oe3, evs3, hs3, _, _, _, _, had3⟩ := hsh3
          rw [had', had] at had3
          have hs3 : H3 sh = some (.ins (ga K "Workshop") dx (shFs fw ow3 (.ref oe3))) := by
            have e1 : dx = dx3 := congrArg Prod.fst had3
            have e2 : fw = fw3 := congrArg Prod.snd had3
            rw [hs3, e1, e2]
          refine lift_er hts hs0 (s34 _ _ hs3) (s34 _ _ (t23 _ _ hts ht2)) (fun b o hb h => s34 _ _ (t23 _ _ hb (s02' _ _ h))) q ?_
          intro Cc d H5 dx5 ht5 hs5 hE
          refine ⟨⟨_, rfl⟩, fun v1 v2 v3 => ⟨t, dt, sh, dx5, ow, .ref oe, fw, ow3, .ref oe3, v1, v2, v3, rfl, hts, ht5, hs5, fun H6 t56 hs6 => ⟨rfl, hE H6 t56 hs6⟩⟩⟩
      · obtain ⟨t23, x3, st', rfl, hfi, hsh3⟩ := pv
        have hfull : foldQ st rs = .ok st' := by
          rw [← hfi, hlen, List.take_length]
        rw [hfull] at q
        dsimp only at q
        obtain ⟨ok', hz', hf', had'⟩ := foldQ_ok hrq ok hz hfull
        obtain ⟨dx3, fw3, ow3, oe3, evs3, hs3, _, ⟨dd, w1, w2, rfl, hdd, hw1, hw2⟩, _, _, had3⟩ := hsh3
        rw [had', had] at had3
        have hs3 : H3 sh = some (.ins (ga K "Workshop") dx (shFs fw (.ref dd) (.ref oe3))) := by
            have e1 : dx = dx3 := congrArg Prod.fst had3
            have e2 : fw = fw3 := congrArg Prod.snd had3
            rw [hs3, e1, e2]
        walk_at "w"
        refine ⟨sh, dx, _, rfl, hs3, ?_⟩
        refine ⟨sh, dx, fw, _, dd, w1, w2, rfl, hs3, hdd, fun p H4 fp s34 hp4 => ?_⟩
        walk_at "w"
        refine ⟨⟨_, SqL.of hp4⟩, fun D1 hD1 => ?_⟩
        refine dc_it walk_list (PvD _ D1 fun i => (wkv w1 w2).take i) (pvd_0 hD1 rfl) (fun i H5 _ pv => SqL.of (pv.2.1 _ _ hp4)) (fun i x H5' H5 hi pv y => ?_) (fun H5 pv5 => ?_)
        · obtain ⟨rfl, hx⟩ := y
          have hs5 := pv.2.1 _ _ (s34 _ _ hs3)
          have hd5 := pv.2.1 _ _ (s34 _ _ hdd)
          have hi2 : i < 2 := hi
          obtain ⟨n, z, rfl, hv, hput⟩ : ∃ n z, x = .str n ∧ valV (wkv w1 w2) (.inr n) = some z ∧ (wkv w1 w2).take (i + 1) = putK ((wkv w1 w2).take i) (.inr n) z := by
            rcases Nat.lt_or_ge i 1 with h | h
            · obtain rfl : i = 0 := by omega
              cases hx
              exact ⟨"one", w1, rfl, val_one, rfl⟩
            · obtain rfl : i = 1 := by omega
              cases hx
              exact ⟨"two", w2, rfl, val_two, (putK_new (kvs := [((.inr "one" : Key), w1)]) _ ((valV_neg (by intro e; exact absurd (Sum.inr.inj e) (by decide))).trans rfl)).symm⟩
          walk_at "w"
          refine ⟨rfl, ?_⟩
          walk_at "w"
          refine ⟨sh, dx, _, rfl, hs5, rfl, ?_⟩
          walk_at "w"
          refine ⟨sh, dx, n, fw, _, dd, w1, w2, z, rfl, hs5, hd5, hv, ?_⟩
          exact pvd_step (k := .inr n) pv (Same.refl _) rfl hput (by rw [List.length_take]; show min i 2 < 100000; omega)
        · have hd5 : H5 D1 = some (.dK (wkv w1 w2)) := pv5.2.2
          have s45 := pv5.2.1
          have s35 := s34.trans s45
          refine ⟨t, dt, sh, dx, ow, .ref oe, fw, .ref dd, .ref oe3, .non, .non, .non, rfl, hts, s35 _ _ (t23 _ _ hts ht2), s35 _ _ hs3, fun H6 t56 hs6 => ?_⟩
          have hd1s : D1 ≠ sh := fun e => by rw [e, s34 _ _ hs3] at hD1; cases hD1
          refine q D1 H6 (by
            cases h0 : H0 D1 with
            | none => rfl
            | some o => rw [s34 _ _ (t23 _ _ hd1s (s02' _ _ h0))] at hD1; cases hD1) (fun b o hb => ?_) ⟨D1, w1, w2, rfl, t56 _ _ hd1s hd5, (hw1.same s35).sx t56 (s35 _ _ hs3) shFs_ne, (hw2.same s35).sx t56 (s35 _ _ hs3) shFs_ne⟩
          by_cases hbs : b = sh
          · subst hbs
            rw [hs0] at hb
            rw [hs6, hb]
          · exact t56 b o hbs (s35 b o (t23 b o hbs (s02' b o hb)))
    · injection e with e1 e2
      subst e1 e2
      have fin : ∀ {t : Value}, TyX K H v t → PySem.W.kitOne K t (.ref (ga K "Workshop")) = some false → True := fun _ _ => True.intro
      rcases hv with rfl | ⟨i, rfl⟩ | ⟨z, rfl⟩
      · refine isi_C (.base .non) C.kn ?_
        walk_at "w"
        refine w_raiseX ?_
        walk_at "w"
        exact w_one (q H s0)
      · refine isi_C (.base (.int i)) C.ki ?_
        walk_at "w"
        refine w_raiseX ?_
        walk_at "w"
        exact w_one (q H s0)
      · refine isi_C (.base (.str z)) C.ks ?_
        walk_at "w"
        refine w_raiseX ?_
        walk_at "w"
        exact w_one (q H s0)
end
end PW

/-! ##### WI -/
set_option Elab.async false
set_option linter.all false
set_option maxRecDepth 100000
set_option maxHeartbeats 2000000
namespace PW
open PySem PySem.Spec PyProof.Rows L2 He PWL

open PWW
/-! ### Workshop.__init__, copy -/
def spShInit (K : PySem.W.Frag) : Sp := fun vs H Q _ => ∃ (x dx d : Addr) (kvs : List (Key × V)) (w1 w2 : V) (ww : W2), vs = [.ref x, .ref d] ∧ H x = some (.ins (ga K "Workshop") dx []) ∧ H d = some (.dK kvs) ∧ kvs.Perm (wkv w1 w2) ∧ WorkAt K H w1 ww.one ∧ WorkAt K H w2 ww.two ∧
  ∀ H' d' oe, H d' = none → SX x H H' → H' x = some (.ins (ga K "Workshop") dx (shFs (.ref d') (.ref d') (.ref oe))) → H' d' = some (.dK (wkv w1 w2)) → H' oe = some (.lst []) → Q .non H'
def spCopy (K : PySem.W.Frag) : Sp := fun vs H Q _ => ∃ (sh : Addr) (st : Shop), vs = [.ref sh] ∧ ShopAt K H sh st ∧ ∀ r H' ad, H r = none → Same H H' → ad.2 ≠ st.ad.2 → ShopAt K H' r { st with ad := ad } → Q (.ref r) H'
theorem perm_wkv {kvs : List (Key × V)} {w1 w2 : V} (h : kvs.Perm (wkv w1 w2)) : kvs = wkv w1 w2 ∨ kvs = [(.inr "two", w2), (.inr "one", w1)] := by
  have hl : kvs.length = 2 := h.length_eq
  obtain ⟨a, b, rfl⟩ : ∃ a b, kvs = [a, b] := by
    match kvs, hl with
    | [a, b], _ => exact ⟨a, b, rfl⟩
  have ha : a ∈ wkv w1 w2 := h.mem_iff.mp (by simp)
  have hb : b ∈ wkv w1 w2 := h.mem_iff.mp (by simp)
  have hn : ([a, b].map (·.1)).Nodup := (h.map _).nodup_iff.mpr (show ([(.inr "one" : Key), .inr "two"]).Nodup by decide)
  have hab : a.1 ≠ b.1 := by
    have := (List.nodup_cons.mp hn).1
    intro e
    exact this (by show a.1 ∈ [b.1]; rw [e]; simp)
  unfold wkv at ha hb
  rcases List.mem_cons.mp ha with rfl | ha
  · rcases List.mem_cons.mp hb with rfl | hb
    · exact absurd rfl hab
    · rw [List.mem_singleton.mp hb]; exact .inl rfl
  · obtain rfl := List.mem_singleton.mp ha
    rcases List.mem_cons.mp hb with rfl | hb
    · exact .inr rfl
    · rw [List.mem_singleton.mp hb] at hab; exact absurd rfl hab
theorem sorted_wkv {kvs : List (Key × V)} {w1 w2 : V} {ys : List Str} (h : kvs.Perm (wkv w1 w2)) (hk : kvs.map (·.1) = ys.map Sum.inr) (hs : sortedS ys = true) : kvs = wkv w1 w2 := by
  rcases perm_wkv h with h | rfl
  · exact h
  · obtain rfl : ys = [("two" : Str), "one"] := by
      have hk : ([("two" : Str), "one"].map (Sum.inr : Str → Key)) = ys.map Sum.inr := hk
      match ys, hk with
      | [a, b], hk =>
        injection hk with e1 e2
        injection e2 with e2 _
        rw [← Sum.inr.inj e1, ← Sum.inr.inj e2]
    exact absurd hs (by decide)
theorem w_lock {t : TS} {D : Ends} {σ : L2.St} {H : Hp} {d : Addr} {u : HO} (hd : H d = some u) (hm : Mut (some u)) (h : ∀ od rt bk ct, t ⟨fun σ' H' => H' d = some (.frz od u) ∧ D.nx σ' (upd H' d u), rt, bk, ct⟩ σ (upd H d (.frz od u))) : tLock t D σ H := ⟨d, u, hd, hm, fun od => h od _ _ _⟩
local macro_rules | `(tactic| walk_at "w") => `(tactic| (repeat (first | with_reducible refine w_seq ?_ | with_reducible refine w_ret ?_ | with_reducible refine w_asg ?_ | with_reducible refine w_ifs ?_ | with_reducible refine w_drop ?_ | with_reducible refine w_next ?_ | with_reducible refine w_cont ?_ | with_reducible refine w_par ?_ | with_reducible refine w_par3 ?_ | with_reducible refine w_three ?_ | with_reducible refine w_two ?_ | with_reducible refine w_name ?_ | with_reducible refine w_c ?_ | with_reducible refine w_op ?_ | with_reducible refine w_un ?_ | with_reducible refine w_cb ?_ | with_reducible refine w_cons ?_ | with_reducible refine w_nil ?_ | with_reducible refine w_tup ?_ | with_reducible refine w_lst ?_ | with_reducible refine w_test ?_ | with_reducible refine w_B ?_ | with_reducible refine w_k ?_ | with_reducible refine w_ki ?_ | with_reducible refine w_and ?_ | with_reducible refine w_or ?_ | with_reducible refine w_not ?_ | with_reducible refine w_andV ?_ | with_reducible refine w_orV ?_ | with_reducible refine w_notV ?_ | with_reducible refine w_if ?_ | with_reducible refine w_yes ?_ | with_reducible refine w_isN ?_ | with_reducible refine w_chain ?_ | with_reducible refine w_sl ?_ | with_reducible refine w_noPart ?_ | with_reducible refine w_part ?_ | with_reducible refine w_fld ?_ | with_reducible refine w_dget ?_ | with_reducible refine w_din ?_ | with_reducible refine w_dnotin ?_ | with_reducible refine w_dput ?_ | with_reducible refine w_newK ?_ | with_reducible refine w_sfld ?_ | with_reducible refine w_methR ?_ | with_reducible refine w_propR ?_ | with_reducible refine w_sl2 ?_ | with_reducible refine w_star ?_ | with_reducible refine w_retN ?_ | with_reducible refine w_gcons ?_ | with_reducible refine w_gnil ?_ | with_reducible refine r_i0 ?_ | with_reducible refine r_u ?_ | with_reducible refine r_eqi ?_ | with_reducible refine r_nei ?_ | with_reducible refine r_eqs ?_ | with_reducible refine r_nes ?_ | with_reducible refine iteT ?_ | with_reducible refine iteF ?_ | with_reducible refine w_lc ?_ | with_reducible refine w_dc ?_ | with_reducible refine w_for ?_ | with_reducible refine w_istr ?_ | with_reducible refine w_ilist ?_ | with_reducible refine w_itup ?_ | with_reducible refine w_irng1 ?_ | with_reducible refine w_irng2 ?_ | with_reducible refine w_ienum ?_ | with_reducible refine w_iitems ?_ | with_reducible refine w_ikeysT ?_ | with_reducible refine w_makeK ?_ | with_reducible refine w_methSN ?_ | with_reducible refine w_makeR ?_ | with_reducible refine w_callR ?_ | with_reducible refine w_dmerge ?_ | with_reducible refine w_ks ?_ | with_reducible refine w_kr ?_ | with_reducible refine isi_int_int ?_ | with_reducible refine isi_int_bool ?_ | with_reducible refine isi_str_str ?_ | with_reducible refine w_1i ?_ | with_reducible refine w_nn ?_ | with_reducible refine w_int_i ?_ | with_reducible refine w_int_b ?_ | ((with_reducible apply w_var); rfl) | ((with_reducible apply r_ixT); assumption; rfl) | ((with_reducible apply r_ixL); assumption; rfl) | ((with_reducible apply isi_tup_tup); assumption) | ((with_reducible apply isi_dict_dict); assumption) | ((with_reducible apply r_lenD); assumption) | ((with_reducible apply r_lenT); assumption) | ((with_reducible apply r_lenL); assumption) | ((with_reducible refine r_all (SqL.of ?_) ?_); assumption) | ((with_reducible apply r_fld); assumption; exact Cn.cls (by assumption) _; exact Cn.noat (by assumption) _ _; first | rfl | assumption) | ((with_reducible apply ite_t); rfl) | ((with_reducible apply ite_f); rfl))))
section
variable {P : Program} {w : World} {K : PySem.W.Frag} {mg : Str → Option Value} {base : Heap}
theorem F_Workshop___init__ (C : Cn P K mg) : FnR P w K mg base (L2.CX P w) 5 (ma K (ga K "Workshop") "__init__") (spShInit K) := by
  obtain ⟨fd, F⟩ := C.d_Workshop___init__
  have sc : FnScope ["self", "works", "name"] ["self", "works"] (defScope (inClass (top 43) 0)) := ⟨rfl, rfl, rfl, by decide +kernel, rfl, by decide +kernel, by decide +kernel⟩
  refine fnR_nox F sc ?len (fun _ _ _ _ _ _ us hl => match us, hl with | [_, _], _ => rfl) ?body
  case len => exact fun vs H Q E h => by obtain ⟨_, _, _, _, _, _, _, rfl, _⟩ := h; rfl
  case body =>
    intro cdv A outer s H vs Q E hr h0
    obtain ⟨x, dx, d, kvs, w1, w2, ww, rfl, hx, hd, hp, hw1, hw2, q⟩ := h0
    have F_is_name := F_is_name (w := w) (base := base) C
    have F_ordered := F_ordered (w := w) (base := base) C
    have F_check_work := F_check_work (w := w) (base := base) C
    refine ⟨_, (pss_cons (ps_if (PW.pt (pw_or (pt_not (pt_val (pe_callB (call_isi : CallR _ _ (rIsi K)) (by rfl) (C.free "isinstance") b_isinstance (pa_cons (pv 1) (pa_cons (pe_bltn (by rfl) (C.free "dict") b_dict (v := .ty "dict") rfl) pa_nil))))) (pw_or1 (pt_not (pt_chain op_le op_le pe_int (pe_callB call_lenD (by rfl) (C.free "len") b_len (pa_cons (pv 1) pa_nil)) (pe_globI (x := "MAX_WORKS") (i := 10) C (by rfl) (by rfl))))))) (pss_one ps_never) pss_nil) (pss_cons (ps_lock (ps_for PassesOwn.never rfl (pi_keys (pv 1)) (pg_name (i := 2) sc.nd rfl (Or.inl rfl)) (pss_one (ps_if (pt_not (pt_val (pe_callR F_is_name (hr.mono (by decide)) (by rfl) (C.g "is_name") (C.keep "is_name") passL (pa_cons (pv 2) pa_nil)))) (pss_one ps_never) pss_nil)))) (pss_cons (ps_lock (ps_for PassesOwn.never rfl (pi_keys (pv 1)) (pg_name (i := 2) sc.nd rfl (Or.inl rfl)) (pss_one (ps_expr (pe_callR F_check_work (hr.mono (by decide)) (by rfl) (C.g "check_work") (C.keep "check_work") passL (pa_cons (pe_dget (hu_of hr) (pv 1) (pv 2) (fun _ _ => rfl)) pa_nil)))))) (pss_cons (ps_fld (pv 0) (pe_callR F_ordered (hr.mono (by decide)) (by rfl) (C.g "ordered") (C.keep "ordered") passL (pa_cons (pv 1) pa_nil)) rfl) (pss_cons (ps_fld (pv 0) (pe_fld (pv 0) rfl : PE _ _ (tFld K _ _)) rfl) (pss_one (ps_fld (pv 0) (pe_lst pa_nil) rfl))))))), ?_⟩
    walk_at "w"
    have hl : kvs.length = 2 := hp.length_eq
    have hall : ∀ (i : Nat) (k : Key) (v : V), kvs[i]? = some (k, v) → ∃ n, k = .inr n ∧ isN n ∧ valV kvs (.inr n) = some v ∧ (v = w1 ∨ v = w2) := by
      intro i k v hk
      rcases perm_wkv hp with rfl | rfl
      · match i, hk with
        | 0, hk => cases hk; exact ⟨"one", rfl, .inl rfl, val_one, .inl rfl⟩
        | 1, hk => cases hk; exact ⟨"two", rfl, .inr rfl, val_two, .inr rfl⟩
      · match i, hk with
        | 0, hk => cases hk; exact ⟨"two", rfl, .inr rfl, valV_pos rfl, .inr rfl⟩
        | 1, hk => cases hk; exact ⟨"one", rfl, .inl rfl, (valV_neg (by intro e; exact absurd (Sum.inr.inj e) (by decide))).trans (valV_pos rfl), .inl rfl⟩
    rw [hl]
    refine ite_t (by decide) ?_
    walk_at "w"
    refine w_lock hd True.intro fun od rt bk ct => ?_
    walk_at "w"
    refine ⟨d, od, rfl, .inl ⟨kvs, upd_same, ?_⟩⟩
    refine for_it walk_keys (fun _ σ' H' => Same (upd H d (.frz od (.dK kvs))) H' ∧ ∃ y, σ' = [some (.ref x), some (.ref d), y]) ⟨Same.refl _, none, rfl⟩ (fun i σ' H' _ pv => pv.1 _ _ upd_same) (fun i y σ' H2' H2 hi pv yy => ?_) (fun σ' H2 pv => ?_)
    · obtain ⟨rfl, k, v, hk, rfl⟩ := yy
      obtain ⟨s2, y0, rfl⟩ := pv
      obtain ⟨n, rfl, hn, hv, _⟩ := hall i k v hk
      have hw : wordOk n SMALL = true ∧ n.length ≤ 100000 := by rcases hn with rfl | rfl <;> exact ⟨by decide, by decide⟩
      walk_at "w"
      refine u_isName hw.2 fun H3 s3 => ?_
      rw [hw.1]
      walk_at "w"
      exact ⟨s2.trans s3, some (.str n), rfl⟩
    obtain ⟨s2, y0, rfl⟩ := pv
    obtain ⟨hd2, s02⟩ := same_unlock hd True.intro s2
    refine ⟨hd2, ?_⟩
    generalize upd H2 d (.dK kvs) = H3 at s02 ⊢
    walk_at "w"
    refine w_lock (s02 _ _ hd) True.intro fun od rt bk ct => ?_
    walk_at "w"
    refine ⟨d, od, rfl, .inl ⟨kvs, upd_same, ?_⟩⟩
    refine for_it walk_keys (fun _ σ' H' => Same (upd H3 d (.frz od (.dK kvs))) H' ∧ ∃ y, σ' = [some (.ref x), some (.ref d), y]) ⟨Same.refl _, y0, rfl⟩ (fun i σ' H' _ pv => pv.1 _ _ upd_same) (fun i y σ' H2' H4 hi pv yy => ?_) (fun σ' H4 pv => ?_)
    · obtain ⟨rfl, k, v, hk, rfl⟩ := yy
      obtain ⟨s34, y0, rfl⟩ := pv
      obtain ⟨n, rfl, hn, hv, hvw⟩ := hall i k v hk
      have hd4 : H4 d = some (.frz od (.dK kvs)) := s34 _ _ upd_same
      walk_at "w"
      refine r_dgetS (.inr ⟨od, hd4⟩) hv ?_
      have hwk : ∃ a dx fs, v = .ref a ∧ H4 a = some (.ins (ga K "Work") dx fs) := by
        have : ∃ g, WorkAt K H v g := by
          rcases hvw with rfl | rfl
          · exact ⟨_, hw1⟩
          · exact ⟨_, hw2⟩
        obtain ⟨g, a, dx, _, _, _, _, _, _, rfl, ha, _⟩ := this
        have had : a ≠ d := fun e => by rw [e, hd] at ha; cases ha
        exact ⟨a, dx, _, rfl, s34 _ _ (by rw [upd_ne had]; exact s02 _ _ ha)⟩
      obtain ⟨a, dxa, fsa, rfl, ha⟩ := hwk
      walk_at "w"
      refine ⟨a, dxa, fsa, rfl, ha, ?_⟩
      walk_at "w"
      exact ⟨s34, some (.str n), rfl⟩
    obtain ⟨s34, y1, rfl⟩ := pv
    obtain ⟨hd4, s03⟩ := same_unlock (s02 _ _ hd) True.intro s34
    refine ⟨hd4, ?_⟩
    have s04 := s02.trans s03
    generalize upd H4 d (.dK kvs) = H5 at s04 ⊢
    have hd5 := s04 _ _ hd
    obtain ⟨ks, hks, hkn, hkl⟩ : ∃ ks : List Str, kvs.map (·.1) = ks.map Sum.inr ∧ ks.Nodup ∧ ks.length < 64 := by
      rcases perm_wkv hp with rfl | rfl
      · exact ⟨["one", "two"], rfl, by decide, by decide⟩
      · exact ⟨["two", "one"], rfl, by decide, by decide⟩
    walk_at "w"
    refine ⟨d, kvs, ks, rfl, hd5, hks, hkn, hkl, fun d' kvs' ys H6 f6 s6 e6 p6 k6 so6 => ?_⟩
    obtain rfl := sorted_wkv (p6.trans hp) k6 so6
    have hx6 := s6 _ _ (s04 _ _ hx)
    walk_at "w"
    refine r_sfld hx6 (C.cls "Workshop") (C.noat "Workshop" "first_works") (by decide) ?_
    generalize hH7 : upd H6 x (.ins (ga K "Workshop") dx (putF "first_works" (.ref d') [])) = H7
    have hx7 : H7 x = some (.ins (ga K "Workshop") dx [("first_works", .ref d')]) := by rw [← hH7]; exact upd_same
    have t67 : SX x H6 H7 := hH7 ▸ sx_upd
    have hd6x : d' ≠ x := fun e => by rw [e, hx6] at e6; cases e6
    have hd7 := t67 _ _ hd6x e6
    walk_at "w"
    refine r_sfld (f := "own_works") hx7 (C.cls "Workshop") (C.noat "Workshop" "own_works") (by show 1 < 1000; decide) ?_
    generalize hH8 : upd H7 x (.ins (ga K "Workshop") dx (putF "own_works" (.ref d') [("first_works", .ref d')])) = H8
    have hx8 : H8 x = some (.ins (ga K "Workshop") dx [("first_works", .ref d'), ("own_works", .ref d')]) := by rw [← hH8]; exact upd_same
    have t78 : SX x H7 H8 := hH8 ▸ sx_upd
    have hd8 := t78 _ _ hd6x hd7
    walk_at "w"
    refine ⟨by decide, fun p fp => ?_⟩
    generalize hH9 : upd H8 p (.lst []) = H9
    have s89 : Same H8 H9 := hH9 ▸ same_upd_fresh fp (Same.refl _)
    have hp9 : H9 p = some (.lst []) := by rw [← hH9]; exact upd_same
    have hx9 := s89 _ _ hx8
    walk_at "w"
    refine r_sfld (f := "own_entries") hx9 (C.cls "Workshop") (C.noat "Workshop" "own_entries") (by show 2 < 1000; decide) ?_
    generalize hH10 : upd H9 x (.ins (ga K "Workshop") dx (putF "own_entries" (.ref p) [("first_works", .ref d'), ("own_works", .ref d')])) = H10
    have hx10 : H10 x = some (.ins (ga K "Workshop") dx (shFs (.ref d') (.ref d') (.ref p))) := by rw [← hH10]; exact upd_same
    have t910 : SX x H9 H10 := hH10 ▸ sx_upd
    have hpx : p ≠ x := fun e => by rw [e, hx9] at hp9; cases hp9
    walk_at "w"
    exact q H10 d' p (Same.free s04 f6) ((((((sx_same s04).trans (sx_same s6)).trans t67).trans t78).trans (sx_same s89)).trans t910) hx10 (t910 _ _ hd6x (s89 _ _ hd8)) (t910 _ _ hpx hp9)
theorem F_Workshop_copy (C : Cn P K mg) : FnR P w K mg base (L2.CX P w) 7 (ma K (ga K "Workshop") "copy") (spCopy K) := by
  obtain ⟨fd, F⟩ := C.d_Workshop_copy
  have sc : FnScope ["self", "other"] ["self"] (defScope (inClass (top 43) 11)) := ⟨rfl, rfl, rfl, by decide +kernel, rfl, by decide +kernel, by decide +kernel⟩
  refine fnR_nox F sc ?len (fun _ _ _ _ _ _ us hl => match us, hl with | [_], _ => rfl) ?body
  case len => exact fun vs H Q E h => by obtain ⟨_, _, rfl, _⟩ := h; rfl
  case body =>
    intro cdv A outer s H vs Q E hr h0
    obtain ⟨sh, st, rfl, hsh, q⟩ := h0
    obtain ⟨dx, fw, ow, oe, evs, hs, hfw, how, hoe, hev, had⟩ := id hsh
    have F_Workshop___init__ := F_Workshop___init__ (w := w) (base := base) C
    refine ⟨_, (pss_cons (ps_set (i := 1) sc.nd rfl (Or.inl rfl) (StX.pe_makeR (C.mkr "Workshop") F_Workshop___init__ (hr.mono (by decide)) (by rfl) (C.g "Workshop") passL (pa_cons (pe_fld (pv 0) rfl : PE _ _ (tFld K _ _)) pa_nil))) (pss_cons (ps_fld (pv 1) (pe_fld (pv 0) rfl : PE _ _ (tFld K _ _)) rfl) (pss_cons (ps_fld (pv 1) (pe_fld (pv 0) rfl : PE _ _ (tFld K _ _)) rfl) (pss_one (ps_ret (pv 1)))))), ?_⟩
    walk_at "w"
    obtain ⟨d, w1, w2, rfl, hd, hw1, hw2⟩ := hfw
    intro r dr hr0 hdr hne
    have u1 : Same H (upd (upd H dr (.own r)) r (.ins (ga K "Workshop") dr [])) := u_make (K := K) hr0 hdr hne
    refine ⟨r, dr, d, _, w1, w2, st.first, rfl, upd_same, u1 _ _ hd, .refl _, hw1.same u1, hw2.same u1, fun H1 d' oe' fd1 t1 hr1 hd1 hoe1 => ⟨rfl, ?_⟩⟩
    have s1 : Same H H1 := sx_make hr0 hdr hne t1
    have hsr : sh ≠ r := ne_of_none hs hr0
    walk_at "w"
    refine r_fld (s1 _ _ hs) (C.cls _) (C.noat _ _) rfl ?_
    walk_at "w"
    refine r_sfld (f := "own_works") hr1 (C.cls "Workshop") (C.noat "Workshop" "own_works") (by show 3 < 1000; decide) ?_
    walk_at "w"
    refine r_fld (by rw [upd_ne hsr]; exact s1 _ _ hs) (C.cls _) (C.noat _ _) rfl ?_
    walk_at "w"
    refine r_sfld (f := "own_entries") upd_same (C.cls "Workshop") (C.noat "Workshop" "own_entries") (by show 3 < 1000; decide) ?_
    rw [upd_upd]
    generalize hH2 : upd H1 r (.ins (ga K "Workshop") dr (putF "own_entries" (.ref oe) (putF "own_works" ow (shFs (.ref d') (.ref d') (.ref oe'))))) = H2
    have hr2 : H2 r = some (.ins (ga K "Workshop") dr (shFs (.ref d') ow (.ref oe))) := by rw [← hH2]; exact upd_same
    have t12 : SX r H1 H2 := hH2 ▸ sx_upd
    have s2 : Same H H2 := fun b o hb => t12 b o (ne_of_none hb hr0) (s1 b o hb)
    walk_at "w"
    refine q r H2 (dr, .ref d') hr0 s2 (fun e => ?_) ⟨dr, .ref d', ow, oe, evs, hr2, ⟨d', w1, w2, rfl, t12 _ _ (fun e => by rw [e, hr1] at hd1; cases hd1) hd1, hw1.same s2, hw2.same s2⟩, how.same s2, s2 _ _ hoe, dpAll_kd (same_kd s2) (npL_en _) hev, rfl⟩
    rw [had] at e
    injection e with e
    rw [e, u1 _ _ hd] at fd1
    cases fd1
end
end PW

/-! ##### LA -/
set_option Elab.async false
set_option linter.all false
set_option maxRecDepth 100000
set_option maxHeartbeats 2000000
namespace PW
open PySem PySem.Spec PyProof.Rows L2 He PWL

open PWW
/-! ### the law's pools -/
theorem op_mulO {X : Cx} : OpR X (binaryOp .Mult) (rI IntMulOk fun i j => .int (i * j)) := opI fun _ _ _ _ _ _ _ hc q => mul_int q hc
def PoolAt (H : Hp) (p : Addr) : Prop := ∃ a b : Int, H p = some (.lst [.int a, .int b])
theorem bits_small {i : Int} (h : i.natAbs < 2 ^ 60) : Builtin.Int.intBits i ≤ 64 := by
  unfold Builtin.Int.intBits
  split
  · omega
  · have := PySem.Flt.log2_lt_of (by decide : 0 < 60) h
    omega
theorem mulL {i j : Int} (h : i.natAbs < 2 ^ 60) : IntMulOk i j := .of_left (bits_small h)
theorem mulR {i j : Int} (h : j.natAbs < 2 ^ 60) : IntMulOk i j := .of_right (bits_small h)
theorem cut_ints (ns : List Int) (lo hi : Option Int) : ∃ ns' : List Int, cutV (ns.map V.int) lo hi = ns'.map V.int := by
  unfold cutV
  rw [← List.map_drop, ← List.map_take]
  exact ⟨_, rfl⟩
theorem w_sub {to ti : TE} {t : TSet} {v : V} {σ : L2.St} {H : Hp} {Q : L2.St → Hp → Prop} (h : to σ H fun o H1 => ti σ H1 fun i H2 => t o i v H2 fun H3 => Q σ H3) : gSub to ti t v σ H Q := h
def spPool (K : PySem.W.Frag) : Sp := fun vs H Q _ => ∃ (l : Addr) (ns : List Int) (k : Nat), vs = [.ref l, .int k] ∧ SqL K H l (ns.map .int) ∧ k < 1000 ∧ ∀ p H', H p = none → Same H H' → PoolAt H' p → Q (.ref p) H'
def spDraw : Sp := fun vs H Q _ => ∃ (p : Addr) (m : Nat), vs = [.ref p, .int m] ∧ PoolAt H p ∧ 0 < m ∧ m < 2 ^ 62 ∧ ∀ (n : Nat) H', n < m → SX p H H' → PoolAt H' p → Q (.int n) H'
local macro_rules | `(tactic| walk_at "w") => `(tactic| (repeat (first | with_reducible refine w_seq ?_ | with_reducible refine w_ret ?_ | with_reducible refine w_asg ?_ | with_reducible refine w_ifs ?_ | with_reducible refine w_drop ?_ | with_reducible refine w_next ?_ | with_reducible refine w_cont ?_ | with_reducible refine w_par ?_ | with_reducible refine w_par3 ?_ | with_reducible refine w_three ?_ | with_reducible refine w_two ?_ | with_reducible refine w_name ?_ | with_reducible refine w_c ?_ | with_reducible refine w_op ?_ | with_reducible refine w_un ?_ | with_reducible refine w_cb ?_ | with_reducible refine w_cons ?_ | with_reducible refine w_nil ?_ | with_reducible refine w_tup ?_ | with_reducible refine w_lst ?_ | with_reducible refine w_test ?_ | with_reducible refine w_B ?_ | with_reducible refine w_k ?_ | with_reducible refine w_ki ?_ | with_reducible refine w_and ?_ | with_reducible refine w_or ?_ | with_reducible refine w_not ?_ | with_reducible refine w_andV ?_ | with_reducible refine w_orV ?_ | with_reducible refine w_notV ?_ | with_reducible refine w_if ?_ | with_reducible refine w_yes ?_ | with_reducible refine w_isN ?_ | with_reducible refine w_chain ?_ | with_reducible refine w_sl ?_ | with_reducible refine w_noPart ?_ | with_reducible refine w_part ?_ | with_reducible refine w_fld ?_ | with_reducible refine w_dget ?_ | with_reducible refine w_din ?_ | with_reducible refine w_dnotin ?_ | with_reducible refine w_dput ?_ | with_reducible refine w_newK ?_ | with_reducible refine w_sfld ?_ | with_reducible refine w_methR ?_ | with_reducible refine w_propR ?_ | with_reducible refine w_sl2 ?_ | with_reducible refine w_star ?_ | with_reducible refine w_retN ?_ | with_reducible refine w_gcons ?_ | with_reducible refine w_gnil ?_ | with_reducible refine r_i0 ?_ | with_reducible refine r_u ?_ | with_reducible refine r_eqi ?_ | with_reducible refine r_nei ?_ | with_reducible refine r_eqs ?_ | with_reducible refine r_nes ?_ | with_reducible refine iteT ?_ | with_reducible refine iteF ?_ | with_reducible refine w_lc ?_ | with_reducible refine w_dc ?_ | with_reducible refine w_for ?_ | with_reducible refine w_istr ?_ | with_reducible refine w_ilist ?_ | with_reducible refine w_itup ?_ | with_reducible refine w_irng1 ?_ | with_reducible refine w_irng2 ?_ | with_reducible refine w_ienum ?_ | with_reducible refine w_iitems ?_ | with_reducible refine w_ikeysT ?_ | with_reducible refine w_makeK ?_ | with_reducible refine w_methSN ?_ | with_reducible refine w_makeR ?_ | with_reducible refine w_callR ?_ | with_reducible refine w_dmerge ?_ | with_reducible refine w_ks ?_ | with_reducible refine w_kr ?_ | with_reducible refine isi_int_int ?_ | with_reducible refine isi_int_bool ?_ | with_reducible refine isi_str_str ?_ | with_reducible refine w_1i ?_ | with_reducible refine w_nn ?_ | with_reducible refine w_int_i ?_ | with_reducible refine w_int_b ?_ | ((with_reducible apply w_var); rfl) | ((with_reducible apply r_ixT); assumption; rfl) | ((with_reducible apply r_ixL); assumption; rfl) | ((with_reducible apply isi_tup_tup); assumption) | ((with_reducible apply isi_dict_dict); assumption) | ((with_reducible apply r_lenD); assumption) | ((with_reducible apply r_lenT); assumption) | ((with_reducible apply r_lenL); assumption) | ((with_reducible refine r_all (SqL.of ?_) ?_); assumption) | ((with_reducible apply r_fld); assumption; exact Cn.cls (by assumption) _; exact Cn.noat (by assumption) _ _; first | rfl | assumption) | ((with_reducible apply ite_t); rfl) | ((with_reducible apply ite_f); rfl))))
section
variable {P : Program} {w : World} {K : PySem.W.Frag} {mg : Str → Option Value} {base : Heap}
theorem F__law_pool (C : Cn P K mg) : FnR P w K mg base (L2.CX P w) 1 (ga K "_law_pool") (spPool K) := by
  obtain ⟨fd, F⟩ := C.d__law_pool
  have sc : FnScope ["_law_script", "_law_k", "_law_cell", "_law_great", "_law_mixed"] ["_law_script", "_law_k"] (defScope (top 47)) := ⟨rfl, rfl, rfl, by decide +kernel, rfl, by decide +kernel, by decide +kernel⟩
  refine fnR_nox F sc ?len (fun _ _ _ _ _ _ us hl => match us, hl with | [_, _], _ => rfl) ?body
  case len => exact fun vs H Q E h => by obtain ⟨_, _, _, rfl, _⟩ := h; rfl
  case body =>
    intro cdv A outer s H vs Q E hr h0
    obtain ⟨l, ns, k, rfl, hl, hk, q⟩ := h0
    refine ⟨_, (pss_cons (ps_set (i := 2) sc.nd rfl (Or.inl rfl) (pe_op op_add (pe_op op_mulO pe_int (pe_callB (cr_sum rfl) (by rfl) (C.free "sum") b_sum (pa_cons (pe_slice (sl_list : SlR _ (rSlL K)) (pv 0) po_none (po_some pe_int)) pa_nil))) (pv 1))) (pss_cons (ps_if (pt_cmpR op_lt (pv 1) (pe_callB (call_lenSq : CallR _ _ (rLenSq K)) (by rfl) (C.free "len") b_len (pa_cons (pv 0) pa_nil)) (nomark _)) (pss_one (ps_set (i := 2) sc.nd rfl (Or.inl rfl) (pe_ix (ix_list : IxR _ (rIxL K)) (pv 0) (pv 1) (fun _ _ => rfl)))) pss_nil) (pss_cons (ps_set (i := 3) sc.nd rfl (Or.inl rfl) (pe_callB call_abs (by rfl) (C.free "abs") b_abs (pa_cons (pv 2) pa_nil))) (pss_cons (ps_set (i := 4) sc.nd rfl (Or.inl rfl) (pe_op op_modN (pe_op op_mulO (pe_op op_add (pe_op op_add (pe_op op_add (pe_op op_modN (pv 3) pe_int) (pe_op op_mulO (pe_op op_mulO pe_int (pv 1)) (pv 1))) (pe_op op_mulO pe_int (pv 1))) pe_int) pe_int) pe_int)) (pss_one (ps_ret (pe_lst (pa_cons (pe_op op_mulO (pv 3) (pe_callTy call_int1 (by rfl) (C.free "int") b_int (pa_cons (pe_cmpR op_ge (pv 3) (pe_op op_pow pe_int pe_int) (nomark _)) pa_nil))) (pa_cons (pe_op op_modN (pe_op op_mulO (pv 4) (pv 4)) pe_int) pa_nil))))))))), ?_⟩
    walk_at "w"
    refine ⟨l, ns.map V.int, rfl, hl, fun p1 f1 => ?_⟩
    obtain ⟨ns1, e1⟩ := cut_ints ns none (some 63)
    rw [e1]
    have s1 : Same H (upd H p1 (.lst (ns1.map V.int))) := same_upd_fresh f1 (Same.refl _)
    have h1 : upd H p1 (.lst (ns1.map V.int)) p1 = some (.lst (ns1.map V.int)) := upd_same
    generalize upd H p1 (.lst (ns1.map V.int)) = H1 at s1 h1 ⊢
    walk_at "w"
    refine ⟨p1, ns1, rfl, SqL.of h1, ?_⟩
    refine r_i (mulL (by decide)) ?_
    walk_at "w"
    have hl1 := sqL_same s1 hl
    refine r_lenL hl1 ?_
    walk_at "w"
    generalize 11 * ns1.sum + (k : Int) = c0
    refine ite2 (fun hc => ?ca) (fun hc => ?cb)
    case' ca =>
      have hkl : k < ns.length := by
        have := of_decide_eq_true hc
        rw [List.length_map] at this
        omega
      walk_at "w"
      refine r_ixL hl1 (atI_nat (by rw [List.getElem?_map, List.getElem?_eq_getElem hkl]; rfl)) ?_
      walk_at "w"
      generalize ns[k] = c
      generalize (if c < 0 then -c else c) = g
      clear hc hkl
    case' cb =>
      walk_at "w"
      obtain ⟨c, hcc⟩ : ∃ c, c0 = c := ⟨_, rfl⟩
      rw [hcc]
      generalize (if c < 0 then -c else c) = g
      clear hc hcc
    all_goals
      refine r_i (by decide) ?_
      walk_at "w"
      have hm : ((g.fmod 2147483629).natAbs) < 2 ^ 60 := by
        rw [Int.fmod_eq_emod_of_nonneg _ (by decide)]
        have := Int.emod_lt_of_pos g (b := 2147483629) (by decide)
        have := Int.emod_nonneg g (b := 2147483629) (by decide)
        omega
      generalize g.fmod 2147483629 = m at hm ⊢
      have hk2 : ((k : Int)).natAbs < 2 ^ 60 := by rw [Int.natAbs_natCast]; omega
      refine r_i (mulR hk2) ?_
      walk_at "w"
      refine r_i (mulR hk2) ?_
      walk_at "w"
      refine r_i (mulR hk2) ?_
      walk_at "w"
      refine r_i (mulR (by decide)) ?_
      walk_at "w"
      refine r_i (by decide) ?_
      generalize (m + 7919 * (k : Int) * k + 31 * k + 17) * 48271 = y
      have hy : ((y.fmod 2147483647).natAbs) < 2 ^ 60 := by
        rw [Int.fmod_eq_emod_of_nonneg _ (by decide)]
        have := Int.emod_lt_of_pos y (b := 2147483647) (by decide)
        have := Int.emod_nonneg y (b := 2147483647) (by decide)
        omega
      generalize y.fmod 2147483647 = z at hy ⊢
      walk_at "w"
      refine r_i ⟨by decide, by decide, by decide⟩ ?_
      walk_at "w"
      refine r_i (mulR (by split <;> decide)) ?_
      walk_at "w"
      refine r_i (mulL hy) ?_
      walk_at "w"
      refine r_i (by decide) ?_
      walk_at "w"
      refine ⟨by show 2 ≤ sizeLine; decide, fun p fp => ?_⟩
      have fp0 : H p = none := by
        cases h0 : H p with
        | none => rfl
        | some o => rw [s1 _ _ h0] at fp; cases fp
      exact q p _ fp0 (same_upd_fresh fp0 s1) ⟨_, _, upd_same⟩
theorem F__law_draw (C : Cn P K mg) : FnR P w K mg base (L2.CX P w) 1 (ga K "_law_draw") spDraw := by
  obtain ⟨fd, F⟩ := C.d__law_draw
  have sc : FnScope ["_law_pool_here", "_law_many", "_law_found"] ["_law_pool_here", "_law_many"] (defScope (top 48)) := ⟨rfl, rfl, rfl, by decide +kernel, rfl, by decide +kernel, by decide +kernel⟩
  refine fnR_nox F sc ?len (fun _ _ _ _ _ _ us hl => match us, hl with | [_, _], _ => rfl) ?body
  case len => exact fun vs H Q E h => by obtain ⟨_, _, rfl, _⟩ := h; rfl
  case body =>
    intro cdv A outer s H vs Q E hr h0
    obtain ⟨p, m, rfl, ⟨a, b, hp⟩, hm0, hm, q⟩ := h0
    refine ⟨_, (pss_cons (ps_if (pt_cmpR op_gt (pe_ix (ix_list : IxR _ (rIxL K)) (pv 0) pe_int (fun _ _ => rfl)) pe_int (nomark _)) (pss_cons (ps_set (i := 2) sc.nd rfl (Or.inl rfl) (pe_op op_modN (pe_ix (ix_list : IxR _ (rIxL K)) (pv 0) pe_int (fun _ _ => rfl)) (pv 1))) (pss_cons (ps_asg (pe_op op_fdivW (pe_ix (ix_list : IxR _ (rIxL K)) (pv 0) pe_int (fun _ _ => rfl)) (pv 1)) (pg_sub (pv 0) pe_int set_list)) (pss_one (ps_ret (pv 2))))) pss_nil) (pss_cons (ps_asg (pe_op op_modN (pe_op op_add (pe_op op_mulO (pe_ix (ix_list : IxR _ (rIxL K)) (pv 0) pe_int (fun _ _ => rfl)) pe_int) pe_int) pe_int) (pg_sub (pv 0) pe_int set_list)) (pss_one (ps_ret (pe_op op_modN (pe_op op_fdivW (pe_op op_modN (pe_op op_mulO (pe_ix (ix_list : IxR _ (rIxL K)) (pv 0) pe_int (fun _ _ => rfl)) (pe_ix (ix_list : IxR _ (rIxL K)) (pv 0) pe_int (fun _ _ => rfl))) pe_int) pe_int) (pv 1)))))), ?_⟩
    walk_at "w"
    refine r_ixL (SqL.of hp) (v := .int a) rfl ?_
    walk_at "w"
    refine ite2 (fun hc => ?_) (fun hc => ?_)
    · walk_at "w"
      refine r_ixL (SqL.of hp) (v := .int a) rfl ?_
      walk_at "w"
      refine r_i (by omega) ?_
      walk_at "w"
      refine r_ixL (SqL.of hp) (v := .int a) rfl ?_
      walk_at "w"
      refine r_i (wide_div (b := 62) (by omega) (by rw [Int.natAbs_natCast]; exact hm) (by decide) (by decide)) ?_
      walk_at "w"
      refine w_sub ?_
      walk_at "w"
      refine ⟨p, _, 0, 0, rfl, rfl, hp, rfl, ?_⟩
      walk_at "w"
      have e : a.fmod (m : Int) = (((a.emod m).toNat : Nat) : Int) := by
        rw [Int.fmod_eq_emod_of_nonneg _ (by omega)]
        have := Int.emod_nonneg a (b := (m : Int)) (by omega)
        exact (Int.toNat_of_nonneg this).symm
      rw [e]
      refine q _ _ ?_ sx_upd ⟨_, _, upd_same⟩
      have := Int.emod_lt_of_pos a (b := (m : Int)) (by omega)
      have := Int.emod_nonneg a (b := (m : Int)) (by omega)
      show (a % (m : Int)).toNat < m
      omega
    · walk_at "w"
      refine r_ixL (SqL.of hp) (v := .int b) rfl ?_
      walk_at "w"
      refine r_i (mulR (by decide)) ?_
      walk_at "w"
      refine r_i (by decide) ?_
      walk_at "w"
      refine w_sub ?_
      walk_at "w"
      have hz : ((b * 48271 + 11).fmod 2147483647).natAbs < 2 ^ 60 := by
        rw [Int.fmod_eq_emod_of_nonneg _ (by decide)]
        have := Int.emod_lt_of_pos (b * 48271 + 11) (b := 2147483647) (by decide)
        have := Int.emod_nonneg (b * 48271 + 11) (b := 2147483647) (by decide)
        omega
      generalize (b * 48271 + 11).fmod 2147483647 = z at hz ⊢
      refine ⟨p, _, 1, 1, rfl, rfl, hp, rfl, ?_⟩
      generalize hH1 : upd H p (.lst ([V.int a, V.int b].set 1 (.int z))) = H1
      have hp1 : H1 p = some (.lst [.int a, .int z]) := by rw [← hH1]; exact upd_same
      have t1 : SX p H H1 := hH1 ▸ sx_upd
      walk_at "w"
      refine r_ixL (SqL.of hp1) (v := .int z) rfl ?_
      walk_at "w"
      refine r_ixL (SqL.of hp1) (v := .int z) rfl ?_
      refine r_i (mulL hz) ?_
      walk_at "w"
      refine r_i (by decide) ?_
      walk_at "w"
      refine r_i (wide_div (b := 62) (by decide) (by decide) (by decide) (by decide)) ?_
      walk_at "w"
      refine r_i (by omega) ?_
      generalize (z * z).fmod 2147483629 / 16 = c
      walk_at "w"
      have e : c.fmod (m : Int) = (((c.emod m).toNat : Nat) : Int) := by
        rw [Int.fmod_eq_emod_of_nonneg _ (by omega)]
        have := Int.emod_nonneg c (b := (m : Int)) (by omega)
        exact (Int.toNat_of_nonneg this).symm
      rw [e]
      refine q _ _ ?_ t1 ⟨_, _, hp1⟩
      have := Int.emod_lt_of_pos c (b := (m : Int)) (by omega)
      have := Int.emod_nonneg c (b := (m : Int)) (by omega)
      show (c % (m : Int)).toNat < m
      omega
end
end PW

/-! ##### LB -/
set_option Elab.async false
set_option linter.all false
set_option maxRecDepth 100000
set_option maxHeartbeats 2000000
namespace PW
open PySem PySem.Spec PyProof.Rows L2 He PWL

open PWW
/-! ### the law's fractions -/
def spGcd : Sp := fun vs H Q _ => ∃ (i : Int) (j : Nat), vs = [.int i, .int j] ∧ Q (.int (Int.gcd i j)) H
/-- a fraction in lowest terms with a small denominator -/
def FrB (B : Nat) (f : Int × Int) : Prop := frOk' f = true ∧ f.2 ≤ B
def spMade (K : PySem.W.Frag) : Sp := fun vs H Q _ => ∃ (n : Int) (d : Nat), vs = [.int n, .int d] ∧ 0 < d ∧ d < 2 ^ 200 ∧ ∀ y f H', Same H H' → Dp K H' y (frD f) → FrB d f → (0 ≤ n → 0 ≤ f.1) → Q y H'
def spAdd (K : PySem.W.Frag) : Sp := fun vs H Q _ => ∃ (x y : V) (f g : Int × Int) (b c : Nat), vs = [x, y] ∧ Dp K H x (frD f) ∧ Dp K H y (frD g) ∧ FrB b f ∧ FrB c g ∧ b * c < 2 ^ 59 ∧ ∀ y h H', Same H H' → Dp K H' y (frD h) → FrB (b * c) h → Q y H'
def spMul (K : PySem.W.Frag) : Sp := fun vs H Q _ => ∃ (x y : V) (n : Int) (g : Int × Int) (c : Nat), vs = [x, y] ∧ Dp K H x (frD (n, 1)) ∧ n.natAbs < 1000 ∧ Dp K H y (frD g) ∧ FrB c g ∧ c < 2 ^ 59 ∧ ∀ y h H', Same H H' → Dp K H' y (frD h) → FrB c h → Q y H'
def spSum (K : PySem.W.Frag) : Sp := fun vs H Q _ => ∃ (l : Addr) (xs : List V) (fs : List (Int × Int)), vs = [.ref l] ∧ H l = some (.lst xs) ∧ DpAll K H xs (fs.map frD) ∧ (∀ f ∈ fs, FrB 16 f) ∧ fs.length ≤ 12 ∧ ∀ y h H', Same H H' → Dp K H' y (frD h) → frOk' h = true → Q y H'
def spNumber (K : PySem.W.Frag) : Sp := fun vs H Q _ => ∃ p : Addr, vs = [.ref p] ∧ PoolAt H p ∧ ∀ y f H', SX p H H' → PoolAt H' p → Dp K H' y (frD f) → FrB 16 f → ldOk f = true → Q y H'
def spSigned (K : PySem.W.Frag) : Sp := fun vs H Q _ => ∃ p : Addr, vs = [.ref p] ∧ PoolAt H p ∧ ∀ y f H', SX p H H' → PoolAt H' p → Dp K H' y (frD f) → frOk' f = true → Q y H'
theorem PoolAt.same {H H' : Hp} {p : Addr} (e : Same H H') (h : PoolAt H p) : PoolAt H' p := by
  obtain ⟨a, b, h⟩ := h
  exact ⟨a, b, e _ _ h⟩
theorem pool_kd {H H' : Hp} {p : Addr} (h : PoolAt H p) (e : SX p H H') : Kd H H' := by
  obtain ⟨a, b, h⟩ := h
  exact sx_kd e (by rw [h]; exact ⟨.int a, by simp, fun z e => nomatch e⟩)
theorem ld_of {f : Int × Int} (h : frOk' f = true) (h0 : 0 ≤ f.1) : ldOk f = true := by
  unfold ldOk
  rw [decide_eq_true h0, Bool.and_true]
  exact h
local macro_rules | `(tactic| walk_at "w") => `(tactic| (repeat (first | with_reducible refine w_seq ?_ | with_reducible refine w_ret ?_ | with_reducible refine w_asg ?_ | with_reducible refine w_ifs ?_ | with_reducible refine w_drop ?_ | with_reducible refine w_next ?_ | with_reducible refine w_cont ?_ | with_reducible refine w_par ?_ | with_reducible refine w_par3 ?_ | with_reducible refine w_three ?_ | with_reducible refine w_two ?_ | with_reducible refine w_name ?_ | with_reducible refine w_c ?_ | with_reducible refine w_op ?_ | with_reducible refine w_un ?_ | with_reducible refine w_cb ?_ | with_reducible refine w_cons ?_ | with_reducible refine w_nil ?_ | with_reducible refine w_tup ?_ | with_reducible refine w_lst ?_ | with_reducible refine w_test ?_ | with_reducible refine w_B ?_ | with_reducible refine w_k ?_ | with_reducible refine w_ki ?_ | with_reducible refine w_and ?_ | with_reducible refine w_or ?_ | with_reducible refine w_not ?_ | with_reducible refine w_andV ?_ | with_reducible refine w_orV ?_ | with_reducible refine w_notV ?_ | with_reducible refine w_if ?_ | with_reducible refine w_yes ?_ | with_reducible refine w_isN ?_ | with_reducible refine w_chain ?_ | with_reducible refine w_sl ?_ | with_reducible refine w_noPart ?_ | with_reducible refine w_part ?_ | with_reducible refine w_fld ?_ | with_reducible refine w_dget ?_ | with_reducible refine w_din ?_ | with_reducible refine w_dnotin ?_ | with_reducible refine w_dput ?_ | with_reducible refine w_newK ?_ | with_reducible refine w_sfld ?_ | with_reducible refine w_methR ?_ | with_reducible refine w_propR ?_ | with_reducible refine w_sl2 ?_ | with_reducible refine w_star ?_ | with_reducible refine w_retN ?_ | with_reducible refine w_gcons ?_ | with_reducible refine w_gnil ?_ | with_reducible refine r_i0 ?_ | with_reducible refine r_u ?_ | with_reducible refine r_eqi ?_ | with_reducible refine r_nei ?_ | with_reducible refine r_eqs ?_ | with_reducible refine r_nes ?_ | with_reducible refine iteT ?_ | with_reducible refine iteF ?_ | with_reducible refine w_lc ?_ | with_reducible refine w_dc ?_ | with_reducible refine w_for ?_ | with_reducible refine w_istr ?_ | with_reducible refine w_ilist ?_ | with_reducible refine w_itup ?_ | with_reducible refine w_irng1 ?_ | with_reducible refine w_irng2 ?_ | with_reducible refine w_ienum ?_ | with_reducible refine w_iitems ?_ | with_reducible refine w_ikeysT ?_ | with_reducible refine w_makeK ?_ | with_reducible refine w_methSN ?_ | with_reducible refine w_makeR ?_ | with_reducible refine w_callR ?_ | with_reducible refine w_dmerge ?_ | with_reducible refine w_ks ?_ | with_reducible refine w_kr ?_ | with_reducible refine isi_int_int ?_ | with_reducible refine isi_int_bool ?_ | with_reducible refine isi_str_str ?_ | with_reducible refine w_1i ?_ | with_reducible refine w_nn ?_ | with_reducible refine w_int_i ?_ | with_reducible refine w_int_b ?_ | ((with_reducible apply w_var); rfl) | ((with_reducible apply r_ixT); assumption; rfl) | ((with_reducible apply r_ixL); assumption; rfl) | ((with_reducible apply isi_tup_tup); assumption) | ((with_reducible apply isi_dict_dict); assumption) | ((with_reducible apply r_lenD); assumption) | ((with_reducible apply r_lenT); assumption) | ((with_reducible apply r_lenL); assumption) | ((with_reducible refine r_all (SqL.of ?_) ?_); assumption) | ((with_reducible apply r_fld); assumption; exact Cn.cls (by assumption) _; exact Cn.noat (by assumption) _ _; first | rfl | assumption) | ((with_reducible apply ite_t); rfl) | ((with_reducible apply ite_f); rfl))))
section
variable {P : Program} {w : World} {K : PySem.W.Frag} {mg : Str → Option Value} {base : Heap}
theorem F__law_gcd (C : Cn P K mg) : FnR P w K mg base (L2.CX P w) 1 (ga K "_law_gcd") spGcd := by
  obtain ⟨fd, F⟩ := C.d__law_gcd
  have sc : FnScope ["_law_a", "_law_b"] ["_law_a", "_law_b"] (defScope (top 49)) := ⟨rfl, rfl, rfl, by decide +kernel, rfl, by decide +kernel, by decide +kernel⟩
  refine fnR_nox F sc ?len (fun _ _ _ _ _ _ us hl => match us, hl with | [_, _], _ => rfl) ?body
  case len => exact fun vs H Q E h => by obtain ⟨_, _, rfl, _⟩ := h; rfl
  case body =>
    intro cdv A outer s H vs Q E hr h
    obtain ⟨i, j, rfl, q⟩ := h
    refine ⟨_, (pss_cons (ps_while PassesOwn.never (pt_cmpR op_ne (pv 1) pe_int (nomark _)) (pss_one (ps_par (i := 0) (j := 1) (by rfl) sc.nd rfl rfl (by decide) rfl rfl (pa_cons (pv 1) (pa_cons (pe_op op_modN (pv 0) (pv 1)) pa_nil)) (by rfl)))) (pss_one (ps_ret (pe_callB call_abs (by rfl) (C.free "abs") b_abs (pa_cons (pv 0) pa_nil))))), ?_⟩
    walk_at "w"
    refine w_while (fun σ' H' => H' = H ∧ ∃ (x : Int) (y : Nat), σ' = [some (.int x), some (.int y)] ∧ Int.gcd x y = Int.gcd i j) (fun σ' _ => match σ' with | [_, some (.int y)] => y.toNat | _ => 0) ⟨rfl, i, j, rfl, rfl⟩ ?_ ?_
    · rintro σ' H' ⟨rfl, x, y, rfl, hg⟩
      walk_at "w"
      refine ite2 (fun hc => ?_) (fun hc => ?_)
      · have hy : 0 < y := by
          rcases Nat.eq_zero_or_pos y with rfl | h
          · exact absurd hc (by decide)
          · exact h
        walk_at "w"
        refine r_i (by omega) ?_
        walk_at "w"
        have e : x.fmod (y : Int) = (((x % (y : Int)).toNat : Nat) : Int) := by
          rw [Int.fmod_eq_emod_of_nonneg _ (by omega)]
          exact (Int.toNat_of_nonneg (Int.emod_nonneg x (by omega))).symm
        refine ⟨⟨rfl, (y : Int), (x % (y : Int)).toNat, ?_, ?_⟩, ?_⟩
        · show [some (V.int y), some (V.int (x.fmod y))] = _
          rw [e]
        · rw [← hg, Int.toNat_of_nonneg (Int.emod_nonneg x (by omega)), Int.gcd_comm x]
          rw [Int.emod_def]
          exact Int.gcd_sub_right_right_of_dvd _ (Int.dvd_mul_right ..)
        · show (x.fmod (y : Int)).toNat < (y : Int).toNat
          rw [Int.fmod_eq_emod_of_nonneg _ (by omega)]
          have := Int.emod_lt_of_pos x (b := (y : Int)) (by omega)
          omega
      · have hy : y = 0 := by
          rcases Nat.eq_zero_or_pos y with h | h
          · exact h
          · exact absurd (by rw [decide_eq_false (by omega)]; rfl) hc
        subst hy
        walk_at "w"
        have e : (if x < 0 then -x else x) = ((Int.gcd i j : Nat) : Int) := by
          rw [← hg]
          have : Int.gcd x ((0 : Nat) : Int) = x.natAbs := Int.gcd_zero_right x
          rw [this]
          split <;> omega
        rw [e]
        exact q
    · intro σ H Q Q' hq h
      obtain ⟨v, e, hsc, k, e4, h⟩ := h
      exact ⟨v, e, hsc, k, e4, hq _ _ h⟩
theorem F__law_made (C : Cn P K mg) : FnR P w K mg base (L2.CX P w) 2 (ga K "_law_made") (spMade K) := by
  obtain ⟨fd, F⟩ := C.d__law_made
  have sc : FnScope ["_law_numerator", "_law_denominator", "_law_divisor"] ["_law_numerator", "_law_denominator"] (defScope (top 50)) := ⟨rfl, rfl, rfl, by decide +kernel, rfl, by decide +kernel, by decide +kernel⟩
  refine fnR_nox F sc ?len (fun _ _ _ _ _ _ us hl => match us, hl with | [_, _], _ => rfl) ?body
  case len => exact fun vs H Q E h => by obtain ⟨_, _, rfl, _⟩ := h; rfl
  case body =>
    intro cdv A outer s H vs Q E hr h
    obtain ⟨n, d, rfl, hd, hb, q⟩ := h
    have F__law_gcd := F__law_gcd (w := w) (base := base) C
    refine ⟨_, (pss_cons (ps_set (i := 2) sc.nd rfl (Or.inl rfl) (pe_op op_mulO (pe_callR F__law_gcd (hr.mono (by decide)) (by rfl) (C.g "_law_gcd") (C.keep "_law_gcd") passL (pa_cons (pv 0) (pa_cons (pv 1) pa_nil))) (pe_ifExp (pt_cmpR op_gt (pv 1) pe_int (nomark _)) pe_int (pe_un un_neg pe_int)))) (pss_one (ps_ret (pe_tup (pa_cons (pe_op op_fdivW (pv 0) (pv 2)) (pa_cons (pe_op op_fdivW (pv 1) (pv 2)) pa_nil)))))), ?_⟩
    walk_at "w"
    refine ⟨n, d, rfl, ?_⟩
    walk_at "w"
    refine ite_t (decide_eq_true (by omega)) ?_
    walk_at "w"
    refine r_i (mulR (by decide)) ?_
    rw [Int.mul_one]
    have hg0 : 0 < Int.gcd n d := Int.gcd_pos_of_ne_zero_right _ (by omega)
    have hgd : Int.gcd n d ≤ d := Nat.le_of_dvd hd (by have := Int.gcd_dvd_natAbs_right n (d : Int); rwa [Int.natAbs_natCast] at this)
    have hw : CDivW n ((Int.gcd n d : Nat) : Int) := wide_div (b := 200) (by omega) (by rw [Int.natAbs_natCast]; omega) (by decide) (by decide)
    walk_at "w"
    refine r_i hw ?_
    walk_at "w"
    refine r_i hw ?_
    walk_at "w"
    refine ⟨by show 2 ≤ sizeLine; decide, fun p fp => ?_⟩
    have h1 : (1 : Int) ≤ (d : Int) / ((Int.gcd n d : Nat) : Int) := by
      apply Int.le_ediv_of_mul_le (by omega)
      omega
    refine q (.ref p) (n / ((Int.gcd n d : Nat) : Int), (d : Int) / ((Int.gcd n d : Nat) : Int)) _ (same_upd_fresh fp (Same.refl _)) (dp_fr (SqT.of upd_same)) ⟨?_, ?_⟩ fun h => Int.ediv_nonneg h (by omega)
    · show frOk _ _ = true
      unfold frOk
      rw [decide_eq_true h1, Int.gcd_ediv_gcd_ediv_gcd hg0]
      rfl
    · exact Int.ediv_le_self _ (by omega)
theorem F__law_add (C : Cn P K mg) : FnR P w K mg base (L2.CX P w) 3 (ga K "_law_add") (spAdd K) := by
  obtain ⟨fd, F⟩ := C.d__law_add
  have sc : FnScope ["_law_a", "_law_b"] ["_law_a", "_law_b"] (defScope (top 51)) := ⟨rfl, rfl, rfl, by decide +kernel, rfl, by decide +kernel, by decide +kernel⟩
  refine fnR_nox F sc ?len (fun _ _ _ _ _ _ us hl => match us, hl with | [_, _], _ => rfl) ?body
  case len => exact fun vs H Q E h => by obtain ⟨_, _, _, _, _, _, rfl, _⟩ := h; rfl
  case body =>
    intro cdv A outer s H vs Q E hr h
    obtain ⟨x, y, f, g, b, c, rfl, hx, hy, ⟨hf, hfb⟩, ⟨hg, hgc⟩, hbc, q⟩ := h
    have F__law_made := F__law_made (w := w) (base := base) C
    obtain ⟨a1, rfl, sx1⟩ := dp_fr_inv hx
    obtain ⟨a2, rfl, sy1⟩ := dp_fr_inv hy
    have hf1 : 1 ≤ f.2 := by
      have : frOk f.1 f.2 = true := hf
      rw [frOk, Bool.and_eq_true] at this
      exact of_decide_eq_true this.1
    have hg1 : 1 ≤ g.2 := by
      have : frOk g.1 g.2 = true := hg
      rw [frOk, Bool.and_eq_true] at this
      exact of_decide_eq_true this.1
    have hb1 : b ≤ b * c := Nat.le_mul_of_pos_right b (by omega)
    have hc1 : c ≤ b * c := Nat.le_mul_of_pos_left c (by omega)
    refine ⟨_, (pss_one (ps_ret (pe_callR F__law_made (hr.mono (by decide)) (by rfl) (C.g "_law_made") (C.keep "_law_made") passL (pa_cons (pe_op op_add (pe_op op_mulO (pe_ix (ix_tup : IxR _ (rIxT K)) (pv 0) pe_int (fun _ _ => rfl)) (pe_ix (ix_tup : IxR _ (rIxT K)) (pv 1) pe_int (fun _ _ => rfl))) (pe_op op_mulO (pe_ix (ix_tup : IxR _ (rIxT K)) (pv 1) pe_int (fun _ _ => rfl)) (pe_ix (ix_tup : IxR _ (rIxT K)) (pv 0) pe_int (fun _ _ => rfl)))) (pa_cons (pe_op op_mulO (pe_ix (ix_tup : IxR _ (rIxT K)) (pv 0) pe_int (fun _ _ => rfl)) (pe_ix (ix_tup : IxR _ (rIxT K)) (pv 1) pe_int (fun _ _ => rfl))) pa_nil))))), ?_⟩
    walk_at "w"
    refine r_i (mulR (by omega)) ?_
    walk_at "w"
    refine r_i (mulR (by omega)) ?_
    walk_at "w"
    refine r_i (mulR (by omega)) ?_
    walk_at "w"
    have hm : ∃ d : Nat, f.2 * g.2 = (d : Int) ∧ 0 < d ∧ d ≤ b * c := by
      refine ⟨(f.2 * g.2).toNat, (Int.toNat_of_nonneg (Int.mul_nonneg (by omega) (by omega))).symm, ?_, ?_⟩
      · have : 0 < f.2 * g.2 := Int.mul_pos (by omega) (by omega)
        omega
      · have h1 : f.2 * g.2 ≤ (b : Int) * (c : Int) := Int.mul_le_mul hfb hgc (by omega) (by omega)
        have h2 : ((b * c : Nat) : Int) = (b : Int) * c := Int.natCast_mul b c
        omega
    obtain ⟨d, hd, hd0, hdb⟩ := hm
    rw [hd]
    refine ⟨_, d, rfl, hd0, by omega, fun y h H' s1 dy ⟨o1, o2⟩ _ => ?_⟩
    exact q y h H' s1 dy ⟨o1, by omega⟩
theorem F__law_mul (C : Cn P K mg) : FnR P w K mg base (L2.CX P w) 3 (ga K "_law_mul") (spMul K) := by
  obtain ⟨fd, F⟩ := C.d__law_mul
  have sc : FnScope ["_law_a", "_law_b"] ["_law_a", "_law_b"] (defScope (top 52)) := ⟨rfl, rfl, rfl, by decide +kernel, rfl, by decide +kernel, by decide +kernel⟩
  refine fnR_nox F sc ?len (fun _ _ _ _ _ _ us hl => match us, hl with | [_, _], _ => rfl) ?body
  case len => exact fun vs H Q E h => by obtain ⟨_, _, _, _, _, rfl, _⟩ := h; rfl
  case body =>
    intro cdv A outer s H vs Q E hr h
    obtain ⟨x, y, n, g, c, rfl, hx, hn, hy, ⟨hg, hgc⟩, hc, q⟩ := h
    have F__law_made := F__law_made (w := w) (base := base) C
    obtain ⟨a1, rfl, sx1⟩ := dp_fr_inv hx
    obtain ⟨a2, rfl, sy1⟩ := dp_fr_inv hy
    have hg1 : 1 ≤ g.2 := by
      have : frOk g.1 g.2 = true := hg
      rw [frOk, Bool.and_eq_true] at this
      exact of_decide_eq_true this.1
    refine ⟨_, (pss_one (ps_ret (pe_callR F__law_made (hr.mono (by decide)) (by rfl) (C.g "_law_made") (C.keep "_law_made") passL (pa_cons (pe_op op_mulO (pe_ix (ix_tup : IxR _ (rIxT K)) (pv 0) pe_int (fun _ _ => rfl)) (pe_ix (ix_tup : IxR _ (rIxT K)) (pv 1) pe_int (fun _ _ => rfl))) (pa_cons (pe_op op_mulO (pe_ix (ix_tup : IxR _ (rIxT K)) (pv 0) pe_int (fun _ _ => rfl)) (pe_ix (ix_tup : IxR _ (rIxT K)) (pv 1) pe_int (fun _ _ => rfl))) pa_nil))))), ?_⟩
    walk_at "w"
    refine r_i (mulL (by show n.natAbs < 2 ^ 60; omega)) ?_
    walk_at "w"
    refine r_i (mulL (by show (1 : Int).natAbs < 2 ^ 60; decide)) ?_
    walk_at "w"
    refine ⟨_, g.2.toNat, by rw [Int.toNat_of_nonneg (by omega)]; show [V.int _, V.int (1 * g.2)] = _; rw [Int.one_mul], by omega, by omega, fun y h H' s1 dy ⟨o1, o2⟩ _ => ?_⟩
    exact q y h H' s1 dy ⟨o1, by omega⟩
theorem F__law_sum (C : Cn P K mg) : FnR P w K mg base (L2.CX P w) 4 (ga K "_law_sum") (spSum K) := by
  obtain ⟨fd, F⟩ := C.d__law_sum
  have sc : FnScope ["_law_numbers", "_law_result", "_law_number_here"] ["_law_numbers"] (defScope (top 53)) := ⟨rfl, rfl, rfl, by decide +kernel, rfl, by decide +kernel, by decide +kernel⟩
  refine fnR_nox F sc ?len (fun _ _ _ _ _ _ us hl => match us, hl with | [_], _ => rfl) ?body
  case len => exact fun vs H Q E h => by obtain ⟨_, _, _, rfl, _⟩ := h; rfl
  case body =>
    intro cdv A outer s H vs Q E hr h
    obtain ⟨l, xs, fs, rfl, hl, hd, hb, hz, q⟩ := h
    have F__law_add := F__law_add (w := w) (base := base) C
    refine ⟨_, (pss_cons (ps_set (i := 1) sc.nd rfl (Or.inl rfl) (pe_tup (pa_cons pe_int (pa_cons pe_int pa_nil)))) (pss_cons (ps_for PassesOwn.never rfl (pi_list (pv 0)) (pg_name (i := 2) sc.nd rfl (Or.inl rfl)) (pss_one (ps_set (i := 1) sc.nd rfl (Or.inl rfl) (pe_callR F__law_add (hr.mono (by decide)) (by rfl) (C.g "_law_add") (C.keep "_law_add") passL (pa_cons (pv 1) (pa_cons (pv 2) pa_nil)))))) (pss_one (ps_ret (pv 1))))), ?_⟩
    walk_at "w"
    refine ⟨by show 2 ≤ sizeLine; decide, fun p fp => ?_⟩
    generalize hH1 : upd H p (.tup [V.int 0, V.int 1]) = H1
    have s1 : Same H H1 := hH1 ▸ same_upd_fresh fp (Same.refl _)
    have hp1 : H1 p = some (.tup [V.int 0, V.int 1]) := by rw [← hH1]; exact upd_same
    walk_at "w"
    have hl1 := s1 _ _ hl
    have hxl : xs.length = fs.length := by rw [dpAll_len hd, List.length_map]
    refine ⟨⟨_, SqL.of hl1⟩, ?_⟩
    refine for_it walk_list (fun i σ' H' => Same H1 H' ∧ ∃ y e h, σ' = [some (.ref l), some y, e] ∧ Dp K H' y (frD h) ∧ FrB (16 ^ i) h) ⟨Same.refl _, .ref p, none, (0, 1), rfl, dp_fr (SqT.of hp1), by decide, by decide⟩ (fun i σ' H' _ pv => SqL.of (pv.1 _ _ hl1)) (fun i y σ' H2' H2 hi pv yy => ?_) (fun σ' H2 pv => ?_)
    · obtain ⟨rfl, hy⟩ := yy
      obtain ⟨s2, y0, e0, h0, rfl, dy, hb0⟩ := pv
      have hir : i < fs.length := by omega
      obtain ⟨v, hv, dv⟩ := dpAll_at hd (i := i) (d := frD (fs[i]'hir)) (by rw [List.getElem?_map, List.getElem?_eq_getElem hir]; rfl)
      rw [hy] at hv
      cases hv
      walk_at "w"
      refine ⟨y0, y, h0, fs[i]'hir, 16 ^ i, 16, rfl, dy, dp_kd (same_kd (s1.trans s2)) (np_fr _) dv, hb0, hb _ (List.getElem_mem hir), ?_, fun y3 h3 H3 s3 d3 b3 => ?_⟩
      · have : 16 ^ i ≤ 16 ^ 11 := Nat.pow_le_pow_right (by decide) (by omega)
        have : (16 : Nat) ^ 11 * 16 < 2 ^ 59 := by decide
        omega
      walk_at "w"
      exact ⟨s2.trans s3, y3, some y, h3, rfl, d3, by rw [Nat.pow_succ]; exact b3⟩
    obtain ⟨s2, y0, e0, h0, rfl, dy, hb0⟩ := pv
    walk_at "w"
    exact q y0 h0 H2 (s1.trans s2) dy hb0.1
theorem F__law_number (C : Cn P K mg) : FnR P w K mg base (L2.CX P w) 3 (ga K "_law_number") (spNumber K) := by
  obtain ⟨fd, F⟩ := C.d__law_number
  have sc : FnScope ["_law_pool_here", "_law_choice"] ["_law_pool_here"] (defScope (top 54)) := ⟨rfl, rfl, rfl, by decide +kernel, rfl, by decide +kernel, by decide +kernel⟩
  refine fnR_nox F sc ?len (fun _ _ _ _ _ _ us hl => match us, hl with | [_], _ => rfl) ?body
  case len => exact fun vs H Q E h => by obtain ⟨_, rfl, _⟩ := h; rfl
  case body =>
    intro cdv A outer s H vs Q E hr h
    obtain ⟨p, rfl, hp, q⟩ := h
    have F__law_draw := F__law_draw (w := w) (base := base) C
    have F__law_made := F__law_made (w := w) (base := base) C
    refine ⟨_, (pss_cons (ps_set (i := 1) sc.nd rfl (Or.inl rfl) (pe_callR F__law_draw (hr.mono (by decide)) (by rfl) (C.g "_law_draw") (C.keep "_law_draw") passL (pa_cons (pv 0) (pa_cons pe_int pa_nil)))) (pss_cons (ps_if (pt_cmpR op_eq (pv 1) pe_int (nomark _)) (pss_one (ps_ret (pe_tup (pa_cons pe_int (pa_cons pe_int pa_nil))))) pss_nil) (pss_cons (ps_if (pt_cmpR op_eq (pv 1) pe_int (nomark _)) (pss_one (ps_ret (pe_callR F__law_made (hr.mono (by decide)) (by rfl) (C.g "_law_made") (C.keep "_law_made") passL (pa_cons (pe_callR F__law_draw (hr.mono (by decide)) (by rfl) (C.g "_law_draw") (C.keep "_law_draw") passL (pa_cons (pv 0) (pa_cons (pe_op op_pow pe_int pe_int) pa_nil))) (pa_cons (pe_op op_add pe_int (pe_callR F__law_draw (hr.mono (by decide)) (by rfl) (C.g "_law_draw") (C.keep "_law_draw") passL (pa_cons (pv 0) (pa_cons pe_int pa_nil)))) pa_nil))))) pss_nil) (pss_one (ps_ret (pe_callR F__law_made (hr.mono (by decide)) (by rfl) (C.g "_law_made") (C.keep "_law_made") passL (pa_cons (pe_callR F__law_draw (hr.mono (by decide)) (by rfl) (C.g "_law_draw") (C.keep "_law_draw") passL (pa_cons (pv 0) (pa_cons pe_int pa_nil))) (pa_cons (pe_op op_add pe_int (pe_callR F__law_draw (hr.mono (by decide)) (by rfl) (C.g "_law_draw") (C.keep "_law_draw") passL (pa_cons (pv 0) (pa_cons pe_int pa_nil)))) pa_nil)))))))), ?_⟩
    walk_at "w"
    refine ⟨p, 6, rfl, hp, by decide, by decide, fun n H1 hn t1 hp1 => ?_⟩
    walk_at "w"
    refine ite2 (fun hc => ?_) (fun hc => ?_)
    · walk_at "w"
      refine ⟨by show 2 ≤ sizeLine; decide, fun p2 fp => ?_⟩
      have u := same_upd_fresh (o := .tup [V.int 0, V.int 1]) fp (Same.refl _)
      exact q _ (0, 1) _ (t1.trans (sx_same u)) (hp1.same u) (dp_fr (SqT.of upd_same)) ⟨by decide, by decide⟩ (by decide)
    walk_at "w"
    refine ite2 (fun hc => ?_) (fun hc => ?_)
    · walk_at "w"
      refine r_i ⟨by decide, by decide, by decide⟩ ?_
      walk_at "w"
      refine ⟨p, 10 ^ 18, rfl, hp1, by decide, by decide, fun a H2 ha t2 hp2 => ?_⟩
      walk_at "w"
      refine ⟨p, 12, rfl, hp2, by decide, by decide, fun b H3 hb t3 hp3 => ?_⟩
      walk_at "w"
      refine ⟨a, 1 + b, by rw [Int.natCast_add]; rfl, by omega, by omega, fun y f H4 s4 d4 b4 n4 => ?_⟩
      exact q y f H4 (((t1.trans t2).trans t3).trans (sx_same s4)) (hp3.same s4) d4 ⟨b4.1, by have := b4.2; omega⟩ (ld_of b4.1 (n4 (by omega)))
    · walk_at "w"
      refine ⟨p, 9, rfl, hp1, by decide, by decide, fun a H2 ha t2 hp2 => ?_⟩
      walk_at "w"
      refine ⟨p, 3, rfl, hp2, by decide, by decide, fun b H3 hb t3 hp3 => ?_⟩
      walk_at "w"
      refine ⟨a, 1 + b, by rw [Int.natCast_add]; rfl, by omega, by omega, fun y f H4 s4 d4 b4 n4 => ?_⟩
      exact q y f H4 (((t1.trans t2).trans t3).trans (sx_same s4)) (hp3.same s4) d4 ⟨b4.1, by have := b4.2; omega⟩ (ld_of b4.1 (n4 (by omega)))
theorem F__law_signed (C : Cn P K mg) : FnR P w K mg base (L2.CX P w) 4 (ga K "_law_signed") (spSigned K) := by
  obtain ⟨fd, F⟩ := C.d__law_signed
  have sc : FnScope ["_law_pool_here", "_law_number_here"] ["_law_pool_here"] (defScope (top 55)) := ⟨rfl, rfl, rfl, by decide +kernel, rfl, by decide +kernel, by decide +kernel⟩
  refine fnR_nox F sc ?len (fun _ _ _ _ _ _ us hl => match us, hl with | [_], _ => rfl) ?body
  case len => exact fun vs H Q E h => by obtain ⟨_, rfl, _⟩ := h; rfl
  case body =>
    intro cdv A outer s H vs Q E hr h
    obtain ⟨p, rfl, hp, q⟩ := h
    have F__law_draw := F__law_draw (w := w) (base := base) C
    have F__law_number := F__law_number (w := w) (base := base) C
    refine ⟨_, (pss_cons (ps_set (i := 1) sc.nd rfl (Or.inl rfl) (pe_callR F__law_number (hr.mono (by decide)) (by rfl) (C.g "_law_number") (C.keep "_law_number") passL (pa_cons (pv 0) pa_nil))) (pss_one (ps_ret (pe_ifExp (pt_cmpR op_eq (pe_callR F__law_draw (hr.mono (by decide)) (by rfl) (C.g "_law_draw") (C.keep "_law_draw") passL (pa_cons (pv 0) (pa_cons pe_int pa_nil))) pe_int (nomark _)) (pe_tup (pa_cons (pe_un un_neg (pe_ix (ix_tup : IxR _ (rIxT K)) (pv 1) pe_int (fun _ _ => rfl))) (pa_cons (pe_ix (ix_tup : IxR _ (rIxT K)) (pv 1) pe_int (fun _ _ => rfl)) pa_nil))) (pv 1))))), ?_⟩
    walk_at "w"
    refine ⟨p, rfl, hp, fun y f H1 t1 hp1 d1 b1 l1 => ?_⟩
    walk_at "w"
    refine ⟨p, 2, rfl, hp1, by decide, by decide, fun n H2 hn t2 hp2 => ?_⟩
    have d2 := dp_kd (pool_kd hp1 t2) (np_fr _) d1
    walk_at "w"
    refine ite2 (fun hc => ?_) (fun hc => ?_)
    · obtain ⟨a, rfl, sa⟩ := dp_fr_inv d2
      walk_at "w"
      refine ⟨by show 2 ≤ sizeLine; decide, fun p2 fp => ?_⟩
      have u := same_upd_fresh (o := .tup [V.int (-f.1), V.int f.2]) fp (Same.refl _)
      refine q _ (-f.1, f.2) _ ((t1.trans t2).trans (sx_same u)) (hp2.same u) (dp_fr (SqT.of upd_same)) ?_
      have := b1.1
      show frOk _ _ = true
      rw [frOk, Int.neg_gcd]
      exact this
    · walk_at "w"
      exact q y f H2 (t1.trans t2) hp2 d2 b1.1
end
end PW

/-! ##### LC -/
set_option Elab.async false
set_option linter.all false
set_option maxRecDepth 100000
set_option maxHeartbeats 2000000
namespace PW
open PySem PySem.Spec PyProof.Rows L2 He PWL

open PWW
/-! ### the law's paths -/
def mkP (z : Str) (ps : List (Str × Str)) : List Str := z :: (ps.map fun e => [e.1, e.2]).flatten
def spLPath (K : PySem.W.Frag) : Sp := fun vs H Q _ => ∃ (p b : Addr) (pts : List Str), vs = [.ref p, .ref b] ∧ PoolAt H p ∧ p ≠ b ∧ H b = some (.lst (pts.map .str)) ∧ 0 < pts.length ∧ pts.length ≤ 1000 ∧ (∀ z ∈ pts, z.length ≤ 1000) ∧
  ∀ y z ps H', SX p H H' → PoolAt H' p → Dp K H' y (pathD (mkP z ps)) → z ∈ pts → (∀ e ∈ ps, (e.1 = "up" ∨ e.1 = "down") ∧ e.2 ∈ pts) → 1 ≤ ps.length → ps.length ≤ 4 → Q y H'
theorem pool_ne {H H' : Hp} {p a : Addr} {xs : List V} {z : Str} (h : PoolAt H p) (s : Same H H') (ha : H' a = some (.lst xs)) (hz : V.str z ∈ xs) : a ≠ p := by
  rintro rfl
  obtain ⟨i, j, h⟩ := h
  rw [s _ _ h] at ha
  cases ha
  simp at hz
theorem pool_ne' {H : Hp} {p a : Addr} {z : Str} {ps : List (Str × Str)} (h : PoolAt H p) (ha : H a = some (.lst ((mkP z ps).map .str))) : a ≠ p := pool_ne h (Same.refl _) ha (by unfold mkP; rw [List.map_cons]; exact List.mem_cons_self)
theorem last_mkP {pts : List Str} (z : Str) (ps : List (Str × Str)) (hz : z ∈ pts) (h : ∀ e ∈ ps, e.2 ∈ pts) : ∃ zl, atI ((mkP z ps).map V.str) (-1) = some (.str zl) ∧ zl ∈ pts := by
  rcases List.eq_nil_or_concat ps with rfl | ⟨pre, e, rfl⟩
  · exact ⟨z, (show atI ([] ++ [V.str z]) (-1) = _ from atI_last [] _), hz⟩
  · refine ⟨e.2, ?_, h e (by simp)⟩
    have : mkP z (pre ++ [e]) = (mkP z pre ++ [e.1]) ++ [e.2] := by
      unfold mkP
      rw [List.map_append, List.flatten_append]
      simp
    rw [List.concat_eq_append, this, List.map_append]
    exact atI_last _ _
theorem w_m0 {r : V → List V → Hp → VK → Prop} {te : TE} {σ : L2.St} {H : Hp} {Q : VK} (h : te σ H fun x H1 => (∃ a, x = .str a) ∧ r x [] H1 Q) : tM0 r te σ H Q := h
theorem mkP_snoc {z : Str} {ps : List (Str × Str)} {d e : Str} : mkP z (ps ++ [(d, e)]) = mkP z ps ++ [d, e] := by
  unfold mkP
  rw [List.map_append, List.flatten_append]
  simp
theorem len_mkP (z : Str) (ps : List (Str × Str)) : (mkP z ps).length = 1 + 2 * ps.length := by
  induction ps with
  | nil => rfl
  | cons e ps ih =>
    unfold mkP at ih ⊢
    simp only [List.map_cons, List.flatten_cons, List.length_cons, List.length_append, List.length_nil] at ih ⊢
    omega
local macro_rules | `(tactic| walk_at "w") => `(tactic| (repeat (first | with_reducible refine w_seq ?_ | with_reducible refine w_ret ?_ | with_reducible refine w_asg ?_ | with_reducible refine w_ifs ?_ | with_reducible refine w_drop ?_ | with_reducible refine w_next ?_ | with_reducible refine w_cont ?_ | with_reducible refine w_par ?_ | with_reducible refine w_par3 ?_ | with_reducible refine w_three ?_ | with_reducible refine w_two ?_ | with_reducible refine w_name ?_ | with_reducible refine w_c ?_ | with_reducible refine w_op ?_ | with_reducible refine w_un ?_ | with_reducible refine w_cb ?_ | with_reducible refine w_cons ?_ | with_reducible refine w_nil ?_ | with_reducible refine w_tup ?_ | with_reducible refine w_lst ?_ | with_reducible refine w_test ?_ | with_reducible refine w_B ?_ | with_reducible refine w_k ?_ | with_reducible refine w_ki ?_ | with_reducible refine w_and ?_ | with_reducible refine w_or ?_ | with_reducible refine w_not ?_ | with_reducible refine w_andV ?_ | with_reducible refine w_orV ?_ | with_reducible refine w_notV ?_ | with_reducible refine w_if ?_ | with_reducible refine w_yes ?_ | with_reducible refine w_isN ?_ | with_reducible refine w_chain ?_ | with_reducible refine w_sl ?_ | with_reducible refine w_noPart ?_ | with_reducible refine w_part ?_ | with_reducible refine w_fld ?_ | with_reducible refine w_dget ?_ | with_reducible refine w_din ?_ | with_reducible refine w_dnotin ?_ | with_reducible refine w_dput ?_ | with_reducible refine w_newK ?_ | with_reducible refine w_sfld ?_ | with_reducible refine w_methR ?_ | with_reducible refine w_propR ?_ | with_reducible refine w_sl2 ?_ | with_reducible refine w_star ?_ | with_reducible refine w_retN ?_ | with_reducible refine w_gcons ?_ | with_reducible refine w_gnil ?_ | with_reducible refine r_i0 ?_ | with_reducible refine r_u ?_ | with_reducible refine r_eqi ?_ | with_reducible refine r_nei ?_ | with_reducible refine r_eqs ?_ | with_reducible refine r_nes ?_ | with_reducible refine iteT ?_ | with_reducible refine iteF ?_ | with_reducible refine w_lc ?_ | with_reducible refine w_dc ?_ | with_reducible refine w_for ?_ | with_reducible refine w_istr ?_ | with_reducible refine w_ilist ?_ | with_reducible refine w_itup ?_ | with_reducible refine w_irng1 ?_ | with_reducible refine w_irng2 ?_ | with_reducible refine w_ienum ?_ | with_reducible refine w_iitems ?_ | with_reducible refine w_ikeysT ?_ | with_reducible refine w_makeK ?_ | with_reducible refine w_methSN ?_ | with_reducible refine w_makeR ?_ | with_reducible refine w_callR ?_ | with_reducible refine w_dmerge ?_ | with_reducible refine w_ks ?_ | with_reducible refine w_kr ?_ | with_reducible refine isi_int_int ?_ | with_reducible refine isi_int_bool ?_ | with_reducible refine isi_str_str ?_ | with_reducible refine w_1i ?_ | with_reducible refine w_nn ?_ | with_reducible refine w_int_i ?_ | with_reducible refine w_int_b ?_ | ((with_reducible apply w_var); rfl) | ((with_reducible apply r_ixT); assumption; rfl) | ((with_reducible apply r_ixL); assumption; rfl) | ((with_reducible apply isi_tup_tup); assumption) | ((with_reducible apply isi_dict_dict); assumption) | ((with_reducible apply r_lenD); assumption) | ((with_reducible apply r_lenT); assumption) | ((with_reducible apply r_lenL); assumption) | ((with_reducible refine r_all (SqL.of ?_) ?_); assumption) | ((with_reducible apply r_fld); assumption; exact Cn.cls (by assumption) _; exact Cn.noat (by assumption) _ _; first | rfl | assumption) | ((with_reducible apply ite_t); rfl) | ((with_reducible apply ite_f); rfl))))
section
variable {P : Program} {w : World} {K : PySem.W.Frag} {mg : Str → Option Value} {base : Heap}
theorem F__law_path (C : Cn P K mg) : FnR P w K mg base (L2.CX P w) 2 (ga K "_law_path") (spLPath K) := by
  obtain ⟨fd, F⟩ := C.d__law_path
  have sc : FnScope ["_law_pool_here", "_law_points", "_law_found", "_law_turn", "_law_other", "_law_is_great", "_law_direction"] ["_law_pool_here", "_law_points"] (defScope (top 56)) := ⟨rfl, rfl, rfl, by decide +kernel, rfl, by decide +kernel, by decide +kernel⟩
  refine fnR_nox F sc ?len (fun _ _ _ _ _ _ us hl => match us, hl with | [_, _], _ => rfl) ?body
  case len => exact fun vs H Q E h => by obtain ⟨_, _, _, rfl, _⟩ := h; rfl
  case body =>
    intro cdv A outer s H vs Q E hr h
    obtain ⟨p, b, pts, rfl, hp, hpb, hb, hl0, hl, hz, q⟩ := h
    have F__law_draw := F__law_draw (w := w) (base := base) C
    refine ⟨_, (pss_cons (ps_set (i := 2) sc.nd rfl (Or.inl rfl) (pe_lst (pa_cons (pe_ix (ix_list : IxR _ (rIxL K)) (pv 1) (pe_callR F__law_draw (hr.mono (by decide)) (by rfl) (C.g "_law_draw") (C.keep "_law_draw") passL (pa_cons (pv 0) (pa_cons (pe_callB (call_lenSq : CallR _ _ (rLenSq K)) (by rfl) (C.free "len") b_len (pa_cons (pv 1) pa_nil)) pa_nil))) (fun _ _ => rfl)) pa_nil))) (pss_cons (ps_for PassesOwn.never rfl (pi_range1 (by rfl) (C.free "range") (pa_cons (pe_op op_add pe_int (pe_callR F__law_draw (hr.mono (by decide)) (by rfl) (C.g "_law_draw") (C.keep "_law_draw") passL (pa_cons (pv 0) (pa_cons pe_int pa_nil)))) pa_nil)) (pg_name (i := 3) sc.nd rfl (Or.inl rfl)) (pss_cons (ps_set (i := 4) sc.nd rfl (Or.inl rfl) (pe_ix (ix_list : IxR _ (rIxL K)) (pv 1) (pe_callR F__law_draw (hr.mono (by decide)) (by rfl) (C.g "_law_draw") (C.keep "_law_draw") passL (pa_cons (pv 0) (pa_cons (pe_callB (call_lenSq : CallR _ _ (rLenSq K)) (by rfl) (C.free "len") b_len (pa_cons (pv 1) pa_nil)) pa_nil))) (fun _ _ => rfl))) (pss_cons (ps_set (i := 5) sc.nd rfl (Or.inl rfl) (pe_cmpR op_eq (pe_ix (ix_list : IxR _ (rIxL K)) (pv 2) (pe_un un_neg pe_int) (fun _ _ => rfl)) (pe_upper (pe_ix (ix_list : IxR _ (rIxL K)) (pv 2) (pe_un un_neg pe_int) (fun _ _ => rfl))) (nomark _))) (pss_cons (ps_set (i := 6) sc.nd rfl (Or.inl rfl) (pe_ix (ix_list : IxR _ (rIxL K)) (pe_lst (pa_cons (pe_ifExp (pt_val (pv 5)) pe_str pe_str) (pa_cons (pe_ifExp (pt_val (pv 5)) pe_str pe_str) pa_nil))) (pe_callTy call_int1 (by rfl) (C.free "int") b_int (pa_cons (pe_cmpR op_eq (pe_callR F__law_draw (hr.mono (by decide)) (by rfl) (C.g "_law_draw") (C.keep "_law_draw") passL (pa_cons (pv 0) (pa_cons pe_int pa_nil))) pe_int (nomark _)) pa_nil)) (fun _ _ => rfl))) (pss_one (ps_set (i := 2) sc.nd rfl (Or.inl rfl) (pe_op op_cat (pv 2) (pe_lst (pa_cons (pv 6) (pa_cons (pv 4) pa_nil)))))))))) (pss_one (ps_ret (pe_callTy call_tuple_of (by rfl) (C.free "tuple") b_tuple (pa_cons (pv 2) pa_nil)))))), ?_⟩
    walk_at "w"
    refine r_lenL (SqL.of hb) ?_
    walk_at "w"
    rw [List.length_map]
    refine ⟨p, pts.length, rfl, hp, hl0, by omega, fun n H1 hn t1 hp1 => ?_⟩
    have hb1 := t1 _ _ (Ne.symm hpb) hb
    refine r_ixL (SqL.of hb1) (atI_nat (v := .str (pts[n]'hn)) (by rw [List.getElem?_map, List.getElem?_eq_getElem hn]; rfl)) ?_
    walk_at "w"
    refine ⟨by show 1 ≤ sizeLine; decide, fun p1 f1 => ?_⟩
    generalize hH2 : upd H1 p1 (.lst [V.str (pts[n]'hn)]) = H2
    have s2 : Same H1 H2 := hH2 ▸ same_upd_fresh f1 (Same.refl _)
    have h2 : H2 p1 = some (.lst [V.str (pts[n]'hn)]) := by rw [← hH2]; exact upd_same
    walk_at "w"
    refine ⟨p, 4, rfl, hp1.same s2, by decide, by decide, fun m H3 hm t3 hp3 => ?_⟩
    walk_at "w"
    refine ⟨by omega, by omega, ?_⟩
    have hmn : (1 + (m : Int)).toNat = 1 + m := by omega
    rw [hmn]
    have hb3 : H3 b = some (.lst (pts.map .str)) := t3 _ _ (Ne.symm hpb) (s2 _ _ hb1)
    have h3 : H3 p1 = some (.lst [V.str (pts[n]'hn)]) := t3 _ _ (pool_ne hp1 s2 h2 (List.mem_singleton.mpr rfl)) h2
    have t03 : SX p H H3 := (t1.trans (sx_same s2)).trans t3
    refine for_it walk_range (fun i σ' H' => SX p H3 H' ∧ PoolAt H' p ∧ ∃ a ps x3 x4 x5 x6, σ' = [some (.ref p), some (.ref b), some (.ref a), x3, x4, x5, x6] ∧ H' a = some (.lst ((mkP (pts[n]'hn) ps).map .str)) ∧ ps.length = i ∧ ∀ e ∈ ps, (e.1 = "up" ∨ e.1 = "down") ∧ e.2 ∈ pts) ⟨SX.refl _ _, hp3, p1, [], none, none, none, none, rfl, h3, rfl, fun e he => nomatch he⟩ (fun _ _ _ _ _ => True.intro) (fun i y σ' H4' H4 hi pv yy => ?_) (fun σ' H4 pv => ?_)
    · obtain ⟨rfl, rfl⟩ := yy
      obtain ⟨t4, hp4, a, ps, x3, x4, x5, x6, rfl, ha, hps, hall⟩ := pv
      have hb4 := t4 _ _ (Ne.symm hpb) hb3
      walk_at "w"
      refine r_lenL (SqL.of hb4) ?_
      walk_at "w"
      rw [List.length_map]
      refine ⟨p, pts.length, rfl, hp4, hl0, by omega, fun n2 H5 hn2 t5 hp5 => ?_⟩
      refine r_ixL (SqL.of (t5 _ _ (Ne.symm hpb) hb4)) (atI_nat (v := .str (pts[n2]'hn2)) (by rw [List.getElem?_map, List.getElem?_eq_getElem hn2]; rfl)) ?_
      have ha5 := t5 _ _ (pool_ne' hp4 ha) ha
      obtain ⟨zl, hzl, hzp⟩ := last_mkP (pts[n]'hn) ps (List.getElem_mem hn) fun e he => (hall e he).2
      walk_at "w"
      refine r_ixL (SqL.of ha5) hzl ?_
      walk_at "w"
      refine w_m0 ?_
      walk_at "w"
      refine r_ixL (SqL.of ha5) hzl ?_
      refine ⟨⟨zl, rfl⟩, zl, rfl, rfl, by have := hz zl hzp; omega, ?_⟩
      walk_at "w"
      generalize decide (zl = Txt.upper zl) = g
      have dirs : ∀ (d0 d1 : Str) (k : Nat), (d0 = "up" ∨ d0 = "down") → (d1 = "up" ∨ d1 = "down") → k < 2 → ∃ d : Str, atI [V.str d0, V.str d1] ((k : Nat) : Int) = some (.str d) ∧ (d = "up" ∨ d = "down") := by
        intro d0 d1 k h0 h1 hk
        match k, hk with
        | 0, _ => exact ⟨d0, rfl, h0⟩
        | 1, _ => exact ⟨d1, rfl, h1⟩
      have hp5n := pool_ne' hp4 ha
      rcases g
      case false =>
        walk_at "w"
        refine ⟨by show 2 ≤ sizeLine; decide, fun p2 f2 => ?_⟩
        generalize hH6 : upd H5 p2 (.lst [V.str "up", V.str "down"]) = H6
        have s56 : Same H5 H6 := hH6 ▸ same_upd_fresh f2 (Same.refl _)
        have e6 : H6 p2 = some (.lst [.str "up", .str "down"]) := by rw [← hH6]; exact upd_same
        walk_at "w"
        refine ⟨p, 6, rfl, hp5.same s56, by decide, by decide, fun m6 H7 hm6 t7 hp7 => ?_⟩
        walk_at "w"
        obtain ⟨kd, hkd, hkd2⟩ : ∃ kd : Nat, (if decide ((m6 : Int) = 0) = true then 1 else 0 : Int) = (kd : Int) ∧ kd < 2 := by
          by_cases h : (m6 : Int) = 0
          · exact ⟨1, by rw [decide_eq_true h]; rfl, by decide⟩
          · exact ⟨0, by rw [decide_eq_false h]; rfl, by decide⟩
        rw [hkd]
        obtain ⟨d, hd, hdd⟩ := dirs "up" "down" kd (.inl rfl) (.inr rfl) hkd2
        have e7 := t7 _ _ (pool_ne hp5 s56 e6 List.mem_cons_self) e6
        refine r_ixL (SqL.of e7) hd ?_
        walk_at "w"
        have ha7 := t7 _ _ hp5n (s56 _ _ ha5)
        refine ⟨by show 2 ≤ sizeLine; decide, fun p3 f3 => ?_⟩
        have s73 : Same H7 (upd H7 p3 (.lst [V.str d, V.str (pts[n2]'hn2)])) := same_upd_fresh f3 (Same.refl _)
        have e3 : upd H7 p3 (.lst [V.str d, V.str (pts[n2]'hn2)]) p3 = some (.lst [V.str d, V.str (pts[n2]'hn2)]) := upd_same
        generalize upd H7 p3 (.lst [V.str d, V.str (pts[n2]'hn2)]) = H8 at s73 e3 ⊢
        refine r_cat (s73 _ _ ha7) e3 (by rw [List.length_map, len_mkP]; show 1 + 2 * ps.length + 2 ≤ _; omega) fun p9 f9 => ?_
        have s89 := same_upd_fresh (o := .lst ((mkP (pts[n]'hn) ps).map V.str ++ [V.str d, V.str (pts[n2]'hn2)])) f9 (Same.refl H8)
        have s79 := s73.trans s89
        walk_at "w"
        refine ⟨((t4.trans t5).trans (sx_same s56)).trans (t7.trans (sx_same s79)), hp7.same s79, p9, ps ++ [(d, pts[n2]'hn2)], _, _, _, _, rfl, ?_, by rw [List.length_append, hps]; rfl, fun e he => ?_⟩
        · rw [mkP_snoc, List.map_append]
          exact upd_same
        · rcases List.mem_append.mp he with he | he
          · exact hall e he
          · obtain rfl := List.mem_singleton.mp he
            exact ⟨hdd, List.getElem_mem hn2⟩
      case true =>
        walk_at "w"
        refine ⟨by show 2 ≤ sizeLine; decide, fun p2 f2 => ?_⟩
        generalize hH6 : upd H5 p2 (.lst [V.str "down", V.str "up"]) = H6
        have s56 : Same H5 H6 := hH6 ▸ same_upd_fresh f2 (Same.refl _)
        have e6 : H6 p2 = some (.lst [.str "down", .str "up"]) := by rw [← hH6]; exact upd_same
        walk_at "w"
        refine ⟨p, 6, rfl, hp5.same s56, by decide, by decide, fun m6 H7 hm6 t7 hp7 => ?_⟩
        walk_at "w"
        obtain ⟨kd, hkd, hkd2⟩ : ∃ kd : Nat, (if decide ((m6 : Int) = 0) = true then 1 else 0 : Int) = (kd : Int) ∧ kd < 2 := by
          by_cases h : (m6 : Int) = 0
          · exact ⟨1, by rw [decide_eq_true h]; rfl, by decide⟩
          · exact ⟨0, by rw [decide_eq_false h]; rfl, by decide⟩
        rw [hkd]
        obtain ⟨d, hd, hdd⟩ := dirs "down" "up" kd (.inr rfl) (.inl rfl) hkd2
        have e7 := t7 _ _ (pool_ne hp5 s56 e6 List.mem_cons_self) e6
        refine r_ixL (SqL.of e7) hd ?_
        walk_at "w"
        have ha7 := t7 _ _ hp5n (s56 _ _ ha5)
        refine ⟨by show 2 ≤ sizeLine; decide, fun p3 f3 => ?_⟩
        have s73 : Same H7 (upd H7 p3 (.lst [V.str d, V.str (pts[n2]'hn2)])) := same_upd_fresh f3 (Same.refl _)
        have e3 : upd H7 p3 (.lst [V.str d, V.str (pts[n2]'hn2)]) p3 = some (.lst [V.str d, V.str (pts[n2]'hn2)]) := upd_same
        generalize upd H7 p3 (.lst [V.str d, V.str (pts[n2]'hn2)]) = H8 at s73 e3 ⊢
        refine r_cat (s73 _ _ ha7) e3 (by rw [List.length_map, len_mkP]; show 1 + 2 * ps.length + 2 ≤ _; omega) fun p9 f9 => ?_
        have s89 := same_upd_fresh (o := .lst ((mkP (pts[n]'hn) ps).map V.str ++ [V.str d, V.str (pts[n2]'hn2)])) f9 (Same.refl H8)
        have s79 := s73.trans s89
        walk_at "w"
        refine ⟨((t4.trans t5).trans (sx_same s56)).trans (t7.trans (sx_same s79)), hp7.same s79, p9, ps ++ [(d, pts[n2]'hn2)], _, _, _, _, rfl, ?_, by rw [List.length_append, hps]; rfl, fun e he => ?_⟩
        · rw [mkP_snoc, List.map_append]
          exact upd_same
        · rcases List.mem_append.mp he with he | he
          · exact hall e he
          · obtain rfl := List.mem_singleton.mp he
            exact ⟨hdd, List.getElem_mem hn2⟩
    · obtain ⟨t4, hp4, a, ps, x3, x4, x5, x6, rfl, ha, hps, hall⟩ := pv
      walk_at "w"
      refine ⟨a, _, rfl, .inl ⟨SqL.of ha, fun p9 f9 => ?_⟩⟩
      have s9 := same_upd_fresh (o := .tup ((mkP (pts[n]'hn) ps).map V.str)) f9 (Same.refl H4)
      exact q _ (pts[n]'hn) ps _ ((t03.trans t4).trans (sx_same s9)) (hp4.same s9) (dp_path (SqT.of upd_same)) (List.getElem_mem hn) hall (by omega) (by omega)
end
end PW

/-! ##### LD -/
set_option Elab.async false
set_option linter.all false
set_option maxRecDepth 100000
set_option maxHeartbeats 2000000
namespace PW
open PySem PySem.Spec PyProof.Rows L2 He PWL

open PWW
/-! ### coefficients, carried loads -/
def spCoef (K : PySem.W.Frag) : Sp := fun vs H Q _ => ∃ (x : V) (z h : Str) (ps : List (Str × Str)), vs = [x, .str h] ∧ Dp K H x (pathD (mkP z ps)) ∧ ps.length ≤ 100 ∧ ∀ n : Int, n.natAbs ≤ ps.length → Q (.int n) H
def isMk (r : Rope) : Prop := ∃ z ps, r.1 = mkP z ps ∧ ps.length ≤ 100
def spCarried (K : PySem.W.Frag) : Sp := fun vs H Q _ => ∃ (r u : Addr) (h : Str) (es : List (Str × Rope)) (fs : List (Str × (Int × Int))), vs = [.ref r, .ref u, .str h] ∧ DictE K H ropeD r es ∧ DictE K H frD u fs ∧ (∀ e ∈ es, isMk e.2 ∧ hasA fs e.1 = true) ∧ (∀ e ∈ fs, FrB 16 e.2) ∧ es.length ≤ 12 ∧
  ∀ y f H', Same H H' → Dp K H' y (frD f) → frOk' f = true → Q y H'
theorem w_irng3 {ta : TA} {σ : L2.St} {H : Hp} {R : It → Hp → Prop} (h : ta σ H fun vs H1 => ∃ (i j c : Int) (n : Nat), vs = [.int i, .int j, .int c] ∧ RgC i j c n ∧ R (Itc i c n) H1) : iRng3 ta σ H R := h
theorem rg_size {n : Nat} : Builtin.Range.rangeSize 0 (((1 + 2 * n : Nat) : Int) - 2) 2 = n := by
  unfold Builtin.Range.rangeSize
  rw [if_pos (by decide)]
  split <;> omega
theorem rg_small {n : Nat} (hn : n ≤ 100) : Builtin.Range.small 0 (((1 + 2 * n : Nat) : Int) - 2) 2 = true := by
  unfold Builtin.Range.small
  rw [rg_size]
  simp only [Builtin.Range.rangeFitsLong, Bool.and_eq_true, Bool.or_eq_true, decide_eq_true_eq, beq_iff_eq, show ((2 : Int) > 0) by decide, if_true]
  omega
theorem npL_frs : ∀ gs : List (Int × Int), npL (gs.map frD) = true
  | [] => rfl
  | g :: gs => by rw [List.map_cons, npL, np_fr, npL_frs gs]; rfl
theorem sqT_sx {K : PySem.W.Frag} {H H' : Hp} {d a : Addr} {xs ys : List V} (e : SX d H H') (hd : H d = some (.lst ys)) (h : SqT K H a xs) : SqT K H' a xs := by
  refine h.elim (fun h => .inl ?_) .inr
  have hne : a ≠ d := fun e => by
    subst e
    rcases h with h | ⟨o, h⟩ <;> (rw [hd] at h; cases h)
  exact h.elim (fun h => .inl (e _ _ hne h)) fun ⟨o, h⟩ => .inr ⟨o, e _ _ hne h⟩
theorem fr_sx {K : PySem.W.Frag} {H H' : Hp} {d : Addr} {v : V} {f : Int × Int} {ys : List V} (e : SX d H H') (hd : H d = some (.lst ys)) (h : Dp K H v (frD f)) : Dp K H' v (frD f) := by
  obtain ⟨a, rfl, sa⟩ := dp_fr_inv h
  exact dp_fr (sqT_sx e hd sa)
theorem frs_sx {K : PySem.W.Frag} {H H' : Hp} {d : Addr} {ys : List V} (e : SX d H H') (hd : H d = some (.lst ys)) : ∀ {vs : List V} {fs : List (Int × Int)}, DpAll K H vs (fs.map frD) → DpAll K H' vs (fs.map frD)
  | _, [], h => by cases h; exact .nil
  | _, f :: fs, h => by
    rw [List.map_cons] at h ⊢
    cases h with
    | cons h1 t => exact .cons (fr_sx e hd h1) (frs_sx e hd t)
local macro_rules | `(tactic| walk_at "w") => `(tactic| (repeat (first | with_reducible refine w_seq ?_ | with_reducible refine w_ret ?_ | with_reducible refine w_asg ?_ | with_reducible refine w_ifs ?_ | with_reducible refine w_drop ?_ | with_reducible refine w_next ?_ | with_reducible refine w_cont ?_ | with_reducible refine w_par ?_ | with_reducible refine w_par3 ?_ | with_reducible refine w_three ?_ | with_reducible refine w_two ?_ | with_reducible refine w_name ?_ | with_reducible refine w_c ?_ | with_reducible refine w_op ?_ | with_reducible refine w_un ?_ | with_reducible refine w_cb ?_ | with_reducible refine w_cons ?_ | with_reducible refine w_nil ?_ | with_reducible refine w_tup ?_ | with_reducible refine w_lst ?_ | with_reducible refine w_test ?_ | with_reducible refine w_B ?_ | with_reducible refine w_k ?_ | with_reducible refine w_ki ?_ | with_reducible refine w_and ?_ | with_reducible refine w_or ?_ | with_reducible refine w_not ?_ | with_reducible refine w_andV ?_ | with_reducible refine w_orV ?_ | with_reducible refine w_notV ?_ | with_reducible refine w_if ?_ | with_reducible refine w_yes ?_ | with_reducible refine w_isN ?_ | with_reducible refine w_chain ?_ | with_reducible refine w_sl ?_ | with_reducible refine w_noPart ?_ | with_reducible refine w_part ?_ | with_reducible refine w_fld ?_ | with_reducible refine w_dget ?_ | with_reducible refine w_din ?_ | with_reducible refine w_dnotin ?_ | with_reducible refine w_dput ?_ | with_reducible refine w_newK ?_ | with_reducible refine w_sfld ?_ | with_reducible refine w_methR ?_ | with_reducible refine w_propR ?_ | with_reducible refine w_sl2 ?_ | with_reducible refine w_star ?_ | with_reducible refine w_retN ?_ | with_reducible refine w_gcons ?_ | with_reducible refine w_gnil ?_ | with_reducible refine r_i0 ?_ | with_reducible refine r_u ?_ | with_reducible refine r_eqi ?_ | with_reducible refine r_nei ?_ | with_reducible refine r_eqs ?_ | with_reducible refine r_nes ?_ | with_reducible refine iteT ?_ | with_reducible refine iteF ?_ | with_reducible refine w_lc ?_ | with_reducible refine w_dc ?_ | with_reducible refine w_for ?_ | with_reducible refine w_istr ?_ | with_reducible refine w_ilist ?_ | with_reducible refine w_itup ?_ | with_reducible refine w_irng1 ?_ | with_reducible refine w_irng2 ?_ | with_reducible refine w_ienum ?_ | with_reducible refine w_iitems ?_ | with_reducible refine w_ikeysT ?_ | with_reducible refine w_makeK ?_ | with_reducible refine w_methSN ?_ | with_reducible refine w_makeR ?_ | with_reducible refine w_callR ?_ | with_reducible refine w_dmerge ?_ | with_reducible refine w_ks ?_ | with_reducible refine w_kr ?_ | with_reducible refine isi_int_int ?_ | with_reducible refine isi_int_bool ?_ | with_reducible refine isi_str_str ?_ | with_reducible refine w_1i ?_ | with_reducible refine w_nn ?_ | with_reducible refine w_int_i ?_ | with_reducible refine w_int_b ?_ | ((with_reducible apply w_var); rfl) | ((with_reducible apply r_ixT); assumption; rfl) | ((with_reducible apply r_ixL); assumption; rfl) | ((with_reducible apply isi_tup_tup); assumption) | ((with_reducible apply isi_dict_dict); assumption) | ((with_reducible apply r_lenD); assumption) | ((with_reducible apply r_lenT); assumption) | ((with_reducible apply r_lenL); assumption) | ((with_reducible refine r_all (SqL.of ?_) ?_); assumption) | ((with_reducible apply r_fld); assumption; exact Cn.cls (by assumption) _; exact Cn.noat (by assumption) _ _; first | rfl | assumption) | ((with_reducible apply ite_t); rfl) | ((with_reducible apply ite_f); rfl))))
section
variable {P : Program} {w : World} {K : PySem.W.Frag} {mg : Str → Option Value} {base : Heap}
theorem F__law_coefficient (C : Cn P K mg) : FnR P w K mg base (L2.CX P w) 1 (ga K "_law_coefficient") (spCoef K) := by
  obtain ⟨fd, F⟩ := C.d__law_coefficient
  have sc : FnScope ["_law_path_here", "_law_point", "_law_found", "_law_index", "_law_lower", "_law_upper"] ["_law_path_here", "_law_point"] (defScope (top 57)) := ⟨rfl, rfl, rfl, by decide +kernel, rfl, by decide +kernel, by decide +kernel⟩
  refine fnR_nox F sc ?len (fun _ _ _ _ _ _ us hl => match us, hl with | [_, _], _ => rfl) ?body
  case len => exact fun vs H Q E h => by obtain ⟨_, _, _, _, rfl, _⟩ := h; rfl
  case body =>
    intro cdv A outer s H vs Q E hr h
    obtain ⟨x, z, h, ps, rfl, dx, hps, q⟩ := h
    obtain ⟨a, rfl, sa⟩ := dp_path_inv dx
    refine ⟨_, (pss_cons (ps_set (i := 2) sc.nd rfl (Or.inl rfl) pe_int) (pss_cons (ps_for PassesOwn.never rfl (pi_range3 (by rfl) (C.free "range") (pa_cons pe_int (pa_cons (pe_op op_sub (pe_callB (call_lenSq : CallR _ _ (rLenSq K)) (by rfl) (C.free "len") b_len (pa_cons (pv 0) pa_nil)) pe_int) (pa_cons pe_int pa_nil)))) (pg_name (i := 3) sc.nd rfl (Or.inl rfl)) (pss_cons (ps_par (i := 4) (j := 5) (by rfl) sc.nd rfl rfl (by decide) rfl rfl (pa_cons (pe_ix (ix_tup : IxR _ (rIxT K)) (pv 0) (pv 3) (fun _ _ => rfl)) (pa_cons (pe_ix (ix_tup : IxR _ (rIxT K)) (pv 0) (pe_op op_add (pv 3) pe_int) (fun _ _ => rfl)) pa_nil)) (by rfl)) (pss_cons (ps_if (pt_cmpR op_eq (pe_ix (ix_tup : IxR _ (rIxT K)) (pv 0) (pe_op op_add (pv 3) pe_int) (fun _ _ => rfl)) pe_str (nomark _)) (pss_one (ps_par (i := 4) (j := 5) (by rfl) sc.nd rfl rfl (by decide) rfl rfl (pa_cons (pv 5) (pa_cons (pv 4) pa_nil)) (by rfl))) pss_nil) (pss_one (ps_set (i := 2) sc.nd rfl (Or.inl rfl) (pe_op op_sub (pe_op op_add (pv 2) (pe_callTy call_int1 (by rfl) (C.free "int") b_int (pa_cons (pe_cmpR op_eq (pv 5) (pv 1) (nomark _)) pa_nil))) (pe_callTy call_int1 (by rfl) (C.free "int") b_int (pa_cons (pe_cmpR op_eq (pv 4) (pv 1) (nomark _)) pa_nil)))))))) (pss_one (ps_ret (pv 2))))), ?_⟩
    walk_at "w"
    refine w_irng3 ?_
    walk_at "w"
    rw [List.length_map, len_mkP]
    refine ⟨0, _, 2, ps.length, rfl, ⟨by decide, by decide, rg_small hps, rg_size⟩, ?_⟩
    refine for_it walk_rangeC (fun i σ' H' => H' = H ∧ ∃ (n : Int) (x3 x4 x5 : Option V), σ' = [some (.ref a), some (.str h), some (.int n), x3, x4, x5] ∧ n.natAbs ≤ i) ⟨rfl, 0, none, none, none, rfl, by decide⟩ (fun _ _ _ _ _ => True.intro) (fun i y σ' H4' H4 hi pv yy => ?_) (fun σ' H4 pv => ?_)
    · obtain ⟨rfl, rfl⟩ := yy
      obtain ⟨rfl, n, x3, x4, x5, rfl, hn⟩ := pv
      have hlen : ((mkP z ps).map V.str).length = 1 + 2 * ps.length := by rw [List.length_map, len_mkP]
      have atk : ∀ k : Nat, k < 1 + 2 * ps.length → ∃ zk : Str, atI ((mkP z ps).map V.str) ((k : Nat) : Int) = some (.str zk) := by
        intro k hk
        refine ⟨(mkP z ps)[k]'(by rw [len_mkP]; exact hk), atI_nat (by rw [List.getElem?_map, List.getElem?_eq_getElem (by rw [len_mkP]; exact hk)]; rfl)⟩
      obtain ⟨z0, h0⟩ := atk (2 * i) (by omega)
      obtain ⟨z1, h1⟩ := atk (2 * i + 1) (by omega)
      obtain ⟨z2, h2⟩ := atk (2 * i + 2) (by omega)
      have ei : (0 : Int) + (i : Nat) * 2 = ((2 * i : Nat) : Int) := by omega
      have e1 : ((2 * i : Nat) : Int) + 1 = ((2 * i + 1 : Nat) : Int) := by omega
      have e2 : ((2 * i : Nat) : Int) + 2 = ((2 * i + 2 : Nat) : Int) := by omega
      dsimp only
      rw [ei]
      walk_at "w"
      refine r_ixT sa h0 ?_
      walk_at "w"
      refine r_ixT sa (by rw [e2]; exact h2) ?_
      walk_at "w"
      refine r_ixT sa (by rw [e1]; exact h1) ?_
      walk_at "w"
      refine ite2 (fun hc => ?_) (fun hc => ?_)
      all_goals
        walk_at "w"
        refine ⟨rfl, _, _, _, _, rfl, ?_⟩
        split <;> split <;> omega
    · obtain ⟨rfl, n, x3, x4, x5, rfl, hn⟩ := pv
      walk_at "w"
      exact q n hn
theorem F__law_carried (C : Cn P K mg) : FnR P w K mg base (L2.CX P w) 5 (ga K "_law_carried") (spCarried K) := by
  obtain ⟨fd, F⟩ := C.d__law_carried
  have sc : FnScope ["_law_ropes", "_law_pulls", "_law_hook", "_law_name"] ["_law_ropes", "_law_pulls", "_law_hook"] (defScope (top 58)) := ⟨rfl, rfl, rfl, by decide +kernel, rfl, by decide +kernel, by decide +kernel⟩
  refine fnR_nox F sc ?len (fun _ _ _ _ _ _ us hl => match us, hl with | [_, _, _], _ => rfl) ?body
  case len => exact fun vs H Q E h => by obtain ⟨_, _, _, _, _, rfl, _⟩ := h; rfl
  case body =>
    intro cdv A outer s H vs Q E hr h
    obtain ⟨r, u, h, es, fs, rfl, ⟨kr, hrr, dr⟩, ⟨ku, hu, du⟩, he, hf, hz, q⟩ := h
    have F__law_sum := F__law_sum (w := w) (base := base) C
    have F__law_mul := F__law_mul (w := w) (base := base) C
    have F__law_coefficient := F__law_coefficient (w := w) (base := base) C
    refine ⟨_, (pss_one (ps_ret (pe_callR F__law_sum (hr.mono (by decide)) (by rfl) (C.g "_law_sum") (C.keep "_law_sum") passL (pa_cons (pe_lock (pe_lc (own := [("_law_name", 3)]) rfl sc.nd (pi_keys (pv 0)) (blkOk_by (N := ["_law_ropes", "_law_pulls", "_law_hook", "_law_name"]) (sc := defScope (top 58)) (by decide +kernel)) (fun _ _ _ _ _ => (pg_name (i := 3) sc.nd rfl (Or.inl rfl))) (fun _ _ _ _ _ => pts_nil) (fun _ _ _ _ _ => (pe_callR F__law_mul (hr.mono (by decide)) (by rfl) (C.g "_law_mul") (C.keep "_law_mul") passL (pa_cons (pe_tup (pa_cons (pe_un un_neg (pe_callR F__law_coefficient (hr.mono (by decide)) (by rfl) (C.g "_law_coefficient") (C.keep "_law_coefficient") passL (pa_cons (pe_ix (ix_tup : IxR _ (rIxT K)) (pe_dget (hu_of hr) (pv 0) (pv 3) (fun _ _ => rfl)) pe_int (fun _ _ => rfl)) (pa_cons (pv 2) pa_nil)))) (pa_cons pe_int pa_nil))) (pa_cons (pe_dget (hu_of hr) (pv 1) (pv 3) (fun _ _ => rfl)) pa_nil)))))) pa_nil)))), ?_⟩
    walk_at "w"
    refine w_lockE hrr True.intro fun od => ?_
    have lr : kr.length = es.length := dr.length
    generalize hH1 : upd H r (.frz od (.dK kr)) = H1
    have hr1 : H1 r = some (.frz od (.dK kr)) := by rw [← hH1]; exact upd_same
    have t1 : SX r H H1 := hH1 ▸ sx_upd
    have hu1 : Rd H1 u (.dK ku) := by
      by_cases e : u = r
      · subst e
        rw [hrr] at hu
        cases hu
        exact .inr ⟨od, hr1⟩
      · exact .inl (t1 _ _ e hu)
    have kd1 : Kd H H1 := sx_kd t1 (by rw [hrr]; exact True.intro)
    walk_at "w"
    refine ⟨r, od, rfl, .inl ⟨kr, hr1, fun D1 hD1 => ?_⟩⟩
    refine lc_it walk_keys (fun i H' => Same H1 H' ∧ ∃ (xs : List V) (gs : List (Int × Int)), H' D1 = some (.lst xs) ∧ DpAll K H' xs (gs.map frD) ∧ (∀ g ∈ gs, FrB 16 g) ∧ gs.length = i) ⟨same_upd_fresh hD1 (Same.refl _), [], [], upd_same, .nil, fun g hg => absurd hg (by simp), rfl⟩ (fun i H' _ pv => pv.1 _ _ hr1) (fun i y H3 H4 hi pv yy => ?_) (fun H3 pv => ?_)
    · obtain ⟨rfl, k, v, hkv, rfl⟩ := yy
      obtain ⟨s4, xs, gs, hD4, dxs, hgs, hgl⟩ := pv
      have hie : i < es.length := by omega
      have hei : es[i]? = some (es[i]'hie) := List.getElem?_eq_getElem _
      obtain ⟨v2, hv, dv⟩ := dr.at_ hei
      rw [hkv] at hv
      cases hv
      have hem : es[i]'hie ∈ es := List.getElem_mem hie
      obtain ⟨n, hn⟩ : ∃ n, n = (es[i]'hie).1 := ⟨_, rfl⟩
      have hin := (he _ hem).2
      rw [← hn] at hin hkv ⊢
      obtain ⟨rp, hrp⟩ := getA_some (hasA_iff.mpr (List.mem_map.mpr ⟨_, hem, hn.symm⟩))
      have hrv := dr.val n
      rw [hrp] at hrv
      obtain ⟨rv, hrv, drv⟩ := hrv
      obtain ⟨⟨zp, ps, hpe, hpl⟩, _⟩ := he _ (getA_mem hrp)
      obtain ⟨g, hg⟩ := getA_some hin
      have hgv := du.val n
      rw [hg] at hgv
      obtain ⟨gv, hgvv, dgv⟩ := hgv
      obtain ⟨ra, rx, ry, rfl, rS, rX, rY⟩ := dp_rope_inv drv
      rw [hpe] at rX
      have kd4 : Kd H H4 := kd1.trans (same_kd s4)
      have hr4 := s4 _ _ hr1
      walk_at "w"
      refine ⟨rfl, ?_⟩
      walk_at "w"
      refine r_dgetS (.inr ⟨od, hr4⟩) hrv ?_
      walk_at "w"
      refine r_ixT (sqT_kd kd4 rS) (v := rx) rfl ?_
      walk_at "w"
      refine ⟨rx, zp, h, ps, rfl, dp_kd kd4 (np_path _) rX, hpl, fun c hc => ?_⟩
      walk_at "w"
      refine ⟨by show 2 ≤ sizeLine; decide, fun p5 f5 => ?_⟩
      generalize hH5 : upd H4 p5 (.tup [V.int (-c), V.int 1]) = H5
      have s45 : Same H4 H5 := hH5 ▸ same_upd_fresh f5 (Same.refl _)
      have h5 : H5 p5 = some (.tup [V.int (-c), V.int 1]) := by rw [← hH5]; exact upd_same
      walk_at "w"
      refine r_dgetS (rd_same (s4.trans s45) hu1) hgvv ?_
      walk_at "w"
      refine ⟨_, gv, -c, g, 16, rfl, dp_fr (SqT.of h5), by rw [Int.natAbs_neg]; omega, dp_kd (kd4.trans (same_kd s45)) (np_fr _) dgv, hf _ (getA_mem hg), by decide, fun y f H6 s6 d6 b6 => ?_⟩
      have hD6 := s6 _ _ (s45 _ _ hD4)
      have hxl : xs.length = gs.length := by rw [dpAll_len dxs, List.length_map]
      refine ⟨xs, hD6, by rw [hxl]; have : (12 : Nat) < sizeLine := by decide
                          omega, same_upd_fresh hD1 ((s4.trans s45).trans s6), xs ++ [y], gs ++ [f], upd_same, ?_, ?_, by rw [List.length_append, hgl]; rfl⟩
      · rw [List.map_append]
        exact dpAll_snoc (frs_sx sx_upd hD6 (dpAll_kd (same_kd (s45.trans s6)) (npL_frs gs) dxs)) (fr_sx sx_upd hD6 d6)
      · intro g' hg'
        rcases List.mem_append.mp hg' with hg' | hg'
        · exact hgs _ hg'
        · rw [List.mem_singleton.mp hg']; exact b6
    · obtain ⟨s4, xs, gs, hD4, dxs, hgs, hgl⟩ := pv
      rw [← hH1] at s4
      obtain ⟨u1, u2⟩ := same_unlock hrr True.intro s4
      refine ⟨u1, ?_⟩
      have hne : D1 ≠ r := fun e => by rw [e, u1] at hD4; cases hD4
      have kd5 : Kd H3 (upd H3 r (.dK kr)) := sx_kd sx_upd (by rw [u1]; exact True.intro)
      walk_at "w"
      refine ⟨D1, xs, gs, rfl, by rw [upd_ne hne]; exact hD4, dpAll_kd kd5 (npL_frs gs) dxs, hgs, by omega, fun y f H5 s5 d5 o5 => ?_⟩
      exact q y f H5 (u2.trans s5) d5 o5
end
end PW

/-! ##### LE -/
set_option Elab.async false
set_option linter.all false
set_option maxRecDepth 100000
set_option maxHeartbeats 2000000
namespace PW
open PySem PySem.Spec PyProof.Rows L2 He PWL

open PWW
/-! ### the law's given works -/
structure L3 where
  loads : List (Str × (Int × Int))
  ropes : List (Str × Rope)
  fixed : List (Str × (Int × Int))
def GivAt (K : PySem.W.Frag) (H : Hp) (a : Addr) (d : L3) : Prop := ∃ l r h, H a = some (.lst [.ref l, .ref r, .ref h]) ∧ DictE K H frD l d.loads ∧ DictE K H ropeD r d.ropes ∧ DictE K H frD h d.fixed
structure Rel (d : L3) (g : Giv) : Prop where
  l : d.loads.Perm g.loads
  r : d.ropes.Perm g.ropes
  f : d.fixed.Perm g.fixed
def spBuilt (K : PySem.W.Frag) : Sp := fun vs H Q _ => ∃ (a : Addr) (d : L3) (g : Giv), vs = [.ref a] ∧ GivAt K H a d ∧ GOk g ∧ Rel d g ∧ ∀ x H', H x = none → Same H H' → WorkAt K H' (.ref x) g → NewW K H H' x → Q (.ref x) H'
def spAddRope (K : PySem.W.Frag) : Sp := fun vs H Q _ => ∃ (a l r h : Addr) (n : Str) (x : V) (p : List Str) (rs : List (Str × Rope)), vs = [.ref a, .str n, x] ∧ H a = some (.lst [.ref l, .ref r, .ref h]) ∧ DictE K H ropeD r rs ∧ Dp K H x (pathD p) ∧ rs.length ≤ 100 ∧ (rs.map (·.1)).Nodup ∧
  ∀ H', SX r H H' → DictE K H' ropeD r (if hasA rs n = true then rs else putA rs n (p, (1, 3))) → Q .non H'
theorem putK_id {kvs : List (Key × V)} {k : Key} {v : V} (hn : (kvs.map (·.1)).Nodup) (h : valV kvs k = some v) : putK kvs k v = kvs := by
  unfold putK
  rw [valV_any, if_pos (by rw [h]; rfl)]
  induction kvs with
  | nil => rfl
  | cons e t ih =>
    rw [List.map_cons] at hn ⊢
    have hn1 := List.nodup_cons.mp hn
    by_cases he : e.1 = k
    · rw [valV_pos he] at h
      cases h
      rw [if_pos he]
      refine congrArg (e :: ·) ?_
      refine (List.map_congr_left fun f hf => ?_).trans (List.map_id _)
      rw [if_neg]
      · rfl
      · intro e2
        exact hn1.1 (List.mem_map.mpr ⟨f, hf, e2.trans he.symm⟩)
    · rw [valV_neg he] at h
      rw [if_neg he, ih hn1.2 h]
theorem nodup_inr {ks : List Str} (h : ks.Nodup) : (ks.map (Sum.inr : Str → Key)).Nodup := by
  induction ks with
  | nil => exact .nil
  | cons a t ih =>
    rw [List.map_cons]
    have h1 := List.nodup_cons.mp h
    refine List.nodup_cons.mpr ⟨fun hm => ?_, ih h1.2⟩
    obtain ⟨b, hb, e⟩ := List.mem_map.mp hm
    rw [Sum.inr.inj e] at hb
    exact h1.1 hb
local macro_rules | `(tactic| walk_at "w") => `(tactic| (repeat (first | with_reducible refine w_seq ?_ | with_reducible refine w_ret ?_ | with_reducible refine w_asg ?_ | with_reducible refine w_ifs ?_ | with_reducible refine w_drop ?_ | with_reducible refine w_next ?_ | with_reducible refine w_cont ?_ | with_reducible refine w_par ?_ | with_reducible refine w_par3 ?_ | with_reducible refine w_three ?_ | with_reducible refine w_two ?_ | with_reducible refine w_name ?_ | with_reducible refine w_c ?_ | with_reducible refine w_op ?_ | with_reducible refine w_un ?_ | with_reducible refine w_cb ?_ | with_reducible refine w_cons ?_ | with_reducible refine w_nil ?_ | with_reducible refine w_tup ?_ | with_reducible refine w_lst ?_ | with_reducible refine w_test ?_ | with_reducible refine w_B ?_ | with_reducible refine w_k ?_ | with_reducible refine w_ki ?_ | with_reducible refine w_and ?_ | with_reducible refine w_or ?_ | with_reducible refine w_not ?_ | with_reducible refine w_andV ?_ | with_reducible refine w_orV ?_ | with_reducible refine w_notV ?_ | with_reducible refine w_if ?_ | with_reducible refine w_yes ?_ | with_reducible refine w_isN ?_ | with_reducible refine w_chain ?_ | with_reducible refine w_sl ?_ | with_reducible refine w_noPart ?_ | with_reducible refine w_part ?_ | with_reducible refine w_fld ?_ | with_reducible refine w_dget ?_ | with_reducible refine w_din ?_ | with_reducible refine w_dnotin ?_ | with_reducible refine w_dput ?_ | with_reducible refine w_newK ?_ | with_reducible refine w_sfld ?_ | with_reducible refine w_methR ?_ | with_reducible refine w_propR ?_ | with_reducible refine w_sl2 ?_ | with_reducible refine w_star ?_ | with_reducible refine w_retN ?_ | with_reducible refine w_gcons ?_ | with_reducible refine w_gnil ?_ | with_reducible refine r_i0 ?_ | with_reducible refine r_u ?_ | with_reducible refine r_eqi ?_ | with_reducible refine r_nei ?_ | with_reducible refine r_eqs ?_ | with_reducible refine r_nes ?_ | with_reducible refine iteT ?_ | with_reducible refine iteF ?_ | with_reducible refine w_lc ?_ | with_reducible refine w_dc ?_ | with_reducible refine w_for ?_ | with_reducible refine w_istr ?_ | with_reducible refine w_ilist ?_ | with_reducible refine w_itup ?_ | with_reducible refine w_irng1 ?_ | with_reducible refine w_irng2 ?_ | with_reducible refine w_ienum ?_ | with_reducible refine w_iitems ?_ | with_reducible refine w_ikeysT ?_ | with_reducible refine w_makeK ?_ | with_reducible refine w_methSN ?_ | with_reducible refine w_makeR ?_ | with_reducible refine w_callR ?_ | with_reducible refine w_dmerge ?_ | with_reducible refine w_ks ?_ | with_reducible refine w_kr ?_ | with_reducible refine isi_int_int ?_ | with_reducible refine isi_int_bool ?_ | with_reducible refine isi_str_str ?_ | with_reducible refine w_1i ?_ | with_reducible refine w_nn ?_ | with_reducible refine w_int_i ?_ | with_reducible refine w_int_b ?_ | ((with_reducible apply w_var); rfl) | ((with_reducible apply r_ixT); assumption; rfl) | ((with_reducible apply r_ixL); assumption; rfl) | ((with_reducible apply isi_tup_tup); assumption) | ((with_reducible apply isi_dict_dict); assumption) | ((with_reducible apply r_lenD); assumption) | ((with_reducible apply r_lenT); assumption) | ((with_reducible apply r_lenL); assumption) | ((with_reducible refine r_all (SqL.of ?_) ?_); assumption) | ((with_reducible apply r_fld); assumption; exact Cn.cls (by assumption) _; exact Cn.noat (by assumption) _ _; first | rfl | assumption) | ((with_reducible apply ite_t); rfl) | ((with_reducible apply ite_f); rfl))))
section
variable {P : Program} {w : World} {K : PySem.W.Frag} {mg : Str → Option Value} {base : Heap}
theorem F__law_built (C : Cn P K mg) : FnR P w K mg base (L2.CX P w) 7 (ga K "_law_built") (spBuilt K) := by
  obtain ⟨fd, F⟩ := C.d__law_built
  have sc : FnScope ["_law_given_here"] ["_law_given_here"] (defScope (top 60)) := ⟨rfl, rfl, rfl, by decide +kernel, rfl, by decide +kernel, by decide +kernel⟩
  refine fnR_nox F sc ?len (fun _ _ _ _ _ _ us hl => match us, hl with | [_], _ => rfl) ?body
  case len => exact fun vs H Q E h => by obtain ⟨_, _, _, rfl, _⟩ := h; rfl
  case body =>
    intro cdv A outer s H vs Q E hr h
    obtain ⟨a, d, g, rfl, ⟨l, r, hh, ha, hl, hro, hf⟩, G, R, q⟩ := h
    obtain ⟨fdI, F_Work___init__⟩ := F_Work___init__ (w := w) (base := base) C
    refine ⟨_, (pss_one (ps_ret (pe_makeK (C.mkr "Work") F_Work___init__.1 (hr.mono (by decide)) (by rfl) (C.g "Work") F_Work___init__.2 passL (pa_cons (pe_ix (ix_list : IxR _ (rIxL K)) (pv 0) pe_int (fun _ _ => rfl)) (pa_cons (pe_ix (ix_list : IxR _ (rIxL K)) (pv 0) pe_int (fun _ _ => rfl)) pa_nil)) (pk_cons (pe_ix (ix_list : IxR _ (rIxL K)) (pv 0) pe_int (fun _ _ => rfl)) pk_nil)))), ?_⟩
    walk_at "w"
    refine r_ixL (SqL.of ha) (v := .ref l) rfl ?_
    walk_at "w"
    refine r_ixL (SqL.of ha) (v := .ref r) rfl ?_
    walk_at "w"
    refine r_ixL (SqL.of ha) (v := .ref hh) rfl ?_
    walk_at "w"
    refine ⟨rfl, rfl, fun x dx hx hdx hne => ?_⟩
    have u1 : Same H (upd (upd H dx (.own x)) x (.ins (ga K "Work") dx [])) := u_make (K := K) hx hdx hne
    refine ⟨x, dx, l, r, hh, g, d.loads, d.fixed, d.ropes, rfl, upd_same, G, hl.same u1 np_fr, R.l, hf.same u1 np_fr, R.f, hro.same u1 np_rope, R.r, fun H' t wk nw => ⟨rfl, ?_⟩⟩
    obtain ⟨dx', l', h', r', e, n1, n2, n3⟩ := nw
    exact q x H' hx (sx_make hx hdx hne t) wk ⟨dx', l', h', r', e, Same.free u1 n1, Same.free u1 n2, Same.free u1 n3⟩
theorem F__law_add_rope (C : Cn P K mg) : FnR P w K mg base (L2.CX P w) 1 (ga K "_law_add_rope") (spAddRope K) := by
  obtain ⟨fd, F⟩ := C.d__law_add_rope
  have sc : FnScope ["_law_given_here", "_law_name", "_law_path_here", "_law_ropes"] ["_law_given_here", "_law_name", "_law_path_here"] (defScope (top 61)) := ⟨rfl, rfl, rfl, by decide +kernel, rfl, by decide +kernel, by decide +kernel⟩
  refine fnR_nox F sc ?len (fun _ _ _ _ _ _ us hl => match us, hl with | [_, _, _], _ => rfl) ?body
  case len => exact fun vs H Q E h => by obtain ⟨_, _, _, _, _, _, _, _, rfl, _⟩ := h; rfl
  case body =>
    intro cdv A outer s H vs Q E hr h
    obtain ⟨a, l, r, hh, n, x, p, rs, rfl, ha, ⟨kr, hrr, dr⟩, dx, hz, hnd, q⟩ := h
    refine ⟨_, (pss_cons (ps_set (i := 3) sc.nd rfl (Or.inl rfl) (pe_ix (ix_list : IxR _ (rIxL K)) (pv 0) pe_int (fun _ _ => rfl))) (pss_one (ps_dput (hu_of hr) (pv 3) (pv 1) (pe_ifExp (pt_cmp (pc_dnotin (hu_of hr) (pv 1) (pv 3))) (pe_tup (pa_cons (pv 2) (pa_cons (pe_tup (pa_cons pe_int (pa_cons pe_int pa_nil))) pa_nil))) (pe_dget (hu_of hr) (pv 3) (pv 1) (fun _ _ => rfl))) rfl))), ?_⟩
    walk_at "w"
    refine r_ixL (SqL.of ha) (v := .ref r) rfl ?_
    walk_at "w"
    refine ⟨r, valV kr (.inr n), rfl, .inl ⟨kr, .inr n, .inl hrr, rfl, rfl⟩, ?_⟩
    have hin := isSome_val dr n
    refine w_k ?_
    have lr : kr.length = rs.length := dr.length
    have hsz : kr.length < sizeLine := by
      have : (100 : Nat) < sizeLine := by decide
      omega
    cases hv : valV kr (.inr n) with
    | none =>
      rw [hv] at hin
      have hno : hasA rs n = false := hin.symm
      rw [hno] at q
      refine iteT ?_
      walk_at "w"
      refine ⟨by show 2 ≤ sizeLine; decide, fun p1 f1 => ?_⟩
      generalize hH1 : upd H p1 (.tup [V.int 1, V.int 3]) = H1
      have s1 : Same H H1 := hH1 ▸ same_upd_fresh f1 (Same.refl _)
      have h1 : H1 p1 = some (.tup [V.int 1, V.int 3]) := by rw [← hH1]; exact upd_same
      walk_at "w"
      refine ⟨by show 2 ≤ sizeLine; decide, fun p2 f2 => ?_⟩
      generalize hH2 : upd H1 p2 (.tup [x, V.ref p1]) = H2
      have s2 : Same H1 H2 := hH2 ▸ same_upd_fresh f2 (Same.refl _)
      have h2 : H2 p2 = some (.tup [x, V.ref p1]) := by rw [← hH2]; exact upd_same
      have s02 := s1.trans s2
      have hr2 := s02 _ _ hrr
      walk_at "w"
      refine ⟨r, _, rfl, DPut.k (k := .inr n) hr2 hsz, ?_⟩
      have kd : Kd H2 (upd H2 r (.dK (putK kr (.inr n) (.ref p2)))) := sx_kd sx_upd (by rw [hr2]; exact True.intro)
      have dp : Dp K H2 (.ref p2) (ropeD (p, (1, 3))) := dp_rope (SqT.of h2) (dp_kd (same_kd s02) (np_path _) dx) (dp_fr (SqT.of (s2 _ _ h1)))
      walk_at "w"
      exact q _ ((sx_same s02).trans sx_upd) ⟨_, upd_same, (((dr.kd (same_kd s02) np_rope).put dp).kd kd np_rope)⟩
    | some v =>
      rw [hv] at hin
      have hno : hasA rs n = true := hin.symm
      rw [hno] at q
      refine iteF ?_
      walk_at "w"
      refine r_dgetS (.inl hrr) hv ?_
      walk_at "w"
      refine ⟨r, _, rfl, DPut.k (k := .inr n) hrr hsz, ?_⟩
      have kd : Kd H (upd H r (.dK (putK kr (.inr n) v))) := sx_kd sx_upd (by rw [hrr]; exact True.intro)
      walk_at "w"
      refine q _ sx_upd ⟨_, upd_same, ?_⟩
      rw [putK_id (by rw [dr.keys]; exact nodup_inr hnd) hv]
      have kd : Kd H (upd H r (.dK (putK kr (.inr n) v))) := sx_kd sx_upd (by rw [hrr]; exact True.intro)
      exact dr.kd (sx_kd sx_upd (by rw [hrr]; exact True.intro)) np_rope
end
end PW

/-! ##### LF0 -/
set_option Elab.async false
set_option linter.all false
set_option maxRecDepth 100000
set_option maxHeartbeats 2000000
namespace PW
open PySem PySem.Spec PyProof.Rows L2 He PWL

open PWW
/-! ### tuples kept; dicts of pairs -/
def TK (H H' : Hp) : Prop := ∀ a xs, Rd H a (.tup xs) → Rd H' a (.tup xs)
theorem TK.trans {H H1 H2 : Hp} (a : TK H H1) (b : TK H1 H2) : TK H H2 := fun c xs h => b c xs (a c xs h)
theorem tk_same {H H' : Hp} (e : Same H H') : TK H H' := fun _ _ h => rd_same e h
theorem tk_kd {H H' : Hp} (e : Kd H H') : TK H H' := fun a xs h => e.t a xs h
theorem tk_sx {H H' : Hp} {d : Addr} {ys : List V} (e : SX d H H') (hd : H d = some (.lst ys)) : TK H H' := fun a xs h => by
  have hne : a ≠ d := fun e => by
    subst e
    rcases h with h | ⟨o, h⟩ <;> (rw [hd] at h; cases h)
  exact h.elim (fun h => .inl (e _ _ hne h)) fun ⟨o, h⟩ => .inr ⟨o, e _ _ hne h⟩
theorem tk_pool {H H' : Hp} {p : Addr} (h : PoolAt H p) (e : SX p H H') : TK H H' := by
  obtain ⟨a, b, h⟩ := h
  exact tk_sx e h
theorem sqT_tk {K : PySem.W.Frag} {H H' : Hp} {a : Addr} {xs : List V} (e : TK H H') (h : SqT K H a xs) : SqT K H' a xs := h.elim (fun h => .inl (e _ _ h)) .inr
/-- data of tuples alone -/
def TD (f : PyData) : Prop := ∀ (K : PySem.W.Frag) (H H' : Hp) (v : V), TK H H' → Dp K H v f → Dp K H' v f
theorem td_fr (f : Int × Int) : TD (frD f) := fun K H H' v e h => by
  obtain ⟨a, rfl, sa⟩ := dp_fr_inv h
  exact dp_fr (sqT_tk e sa)
theorem td_path (p : List Str) : TD (pathD p) := fun K H H' v e h => by
  obtain ⟨a, rfl, sa⟩ := dp_path_inv h
  exact dp_path (sqT_tk e sa)
theorem td_rope (r : Rope) : TD (ropeD r) := fun K H H' v e h => by
  obtain ⟨a, x, y, rfl, sa, hx, hy⟩ := dp_rope_inv h
  exact dp_rope (sqT_tk e sa) (td_path _ K H H' x e hx) (td_fr _ K H H' y e hy)
theorem DatK.tk {α : Type} {K : PySem.W.Frag} {H H' : Hp} {f : α → PyData} {kvs : List (Key × V)} {es : List (Str × α)} (e : TK H H') (hn : ∀ d, TD (f d)) (h : DatK K H f kvs es) : DatK K H' f kvs es := Paired.mapP h fun _ _ z => ⟨z.1, hn _ K H H' _ e z.2⟩
section
variable {α : Type} {K : PySem.W.Frag} {H H' : Hp} {D : Addr} {f : α → PyData} {ks : List Str} {ok : α → Prop} {i : Nat}
/-- a list of pairs so far -/
def Acc (K : PySem.W.Frag) (H : Hp) (D : Addr) (f : α → PyData) (ks : List Str) (ok : α → Prop) (i : Nat) : Prop := ∃ (ps : List Addr) (kvs : List (Key × V)) (es : List (Str × α)), H D = some (.lst (ps.map .ref)) ∧ Paired (fun p kv => SqT K H p [kV kv.1, kv.2]) ps kvs ∧ DatK K H f kvs es ∧ es.map (·.1) = ks.take i ∧ ∀ e ∈ es, ok e.2
theorem acc_0 : Acc K (upd H D (.lst [])) D f ks ok 0 := ⟨[], [], [], upd_same, .nil, .nil, rfl, fun e he => absurd he (by simp)⟩
theorem Acc.tk (e : TK H H') (hD : ∀ o, H D = some o → H' D = some o) (hn : ∀ d, TD (f d)) (h : Acc K H D f ks ok i) : Acc K H' D f ks ok i := by
  obtain ⟨ps, kvs, es, h1, h2, h3, h4, h5⟩ := h
  exact ⟨ps, kvs, es, hD _ h1, Paired.mapP h2 fun _ _ z => sqT_tk e z, h3.tk e hn, h4, h5⟩
theorem Acc.step {t : Addr} {n : Str} {v : V} {d : α} (hn : ∀ d, TD (f d)) (hk : ks[i]? = some n) (h : Acc K H D f ks ok i) (ht : SqT K H t [.str n, v]) (hd : Dp K H v (f d)) (hok : ok d) :
    ∃ acc, H D = some (.lst acc) ∧ acc.length = i ∧ Acc K (upd H D (.lst (acc ++ [.ref t]))) D f ks ok (i + 1) := by
  obtain ⟨ps, kvs, es, h1, h2, h3, h4, h5⟩ := h
  have hi : i < ks.length := (List.getElem?_eq_some_iff.mp hk).1
  have hl : ps.length = i := by
    rw [Paired.length h2, h3.length]
    have := congrArg List.length h4
    rw [List.length_map, List.length_take] at this
    omega
  have e : TK H (upd H D (.lst (ps.map V.ref ++ [.ref t]))) := tk_sx sx_upd h1
  refine ⟨_, h1, by rw [List.length_map]; exact hl, ps ++ [t], kvs ++ [(.inr n, v)], es ++ [(n, d)], by rw [List.map_append]; exact upd_same, Paired.snoc (Paired.mapP h2 fun _ _ z => sqT_tk e z) (show SqT K _ t [kV (Sum.inr n : Key), v] from sqT_tk e ht), (h3.tk e hn).snoc (hn d K _ _ v e hd), ?_, fun x hx => ?_⟩
  · rw [List.map_append, h4, List.take_add_one, hk]
    rfl
  · rcases List.mem_append.mp hx with hx | hx
    · exact h5 x hx
    · rw [List.mem_singleton.mp hx]; exact hok
theorem mergeK_new : ∀ (more kvs : List (Key × V)), ((kvs ++ more).map (·.1)).Nodup → mergeK kvs more = kvs ++ more
  | [], kvs, _ => by rw [List.append_nil]; rfl
  | p :: r, kvs, h => by
    have hno : valV kvs p.1 = none := by
      have h1 := valV_any p.1 kvs
      have h2 : (kvs.any fun kv => decide (kv.1 = p.1)) = false := by
        rw [List.any_eq_false]
        intro x hx hx2
        have hx3 : x.1 = p.1 := of_decide_eq_true hx2
        rw [List.map_append, List.nodup_append] at h
        exact h.2.2 x.1 (List.mem_map.mpr ⟨x, hx, rfl⟩) p.1 (by simp) hx3
      rw [h2] at h1
      cases hv : valV kvs p.1 with
      | none => rfl
      | some z => rw [hv] at h1; cases h1
    show mergeK (putK kvs p.1 p.2) r = _
    rw [putK_new _ hno, mergeK_new r (kvs ++ [(p.1, p.2)]) (by rw [List.append_assoc]; exact h), List.append_assoc]
    rfl
theorem r_dictP {Q : VK} (hf : ∀ d, TD (f d)) (hnd : ks.Nodup) (h : Acc K H D f ks ok ks.length) (q : ∀ p es H', H p = none → Same H H' → DictE K H' f p es → es.map (·.1) = ks → (∀ e ∈ es, ok e.2) → Q (.ref p) H') :
    ∃ (a : Addr) (ps : List Addr) (kvs : List (Key × V)), [V.ref D] = [.ref a] ∧ SqL K H a (ps.map V.ref) ∧ Paired (fun p kv => SqT K H p [kV kv.1, kv.2]) ps kvs ∧ ∀ p, H p = none → Q (.ref p) (upd H p (.dK (mergeK [] kvs))) := by
  obtain ⟨ps, kvs, es, h1, h2, h3, h4, h5⟩ := h
  rw [List.take_length] at h4
  refine ⟨D, ps, kvs, rfl, SqL.of h1, h2, fun p hp => ?_⟩
  have e : mergeK [] kvs = kvs := mergeK_new kvs [] (by rw [List.nil_append, h3.keys, h4]; exact nodup_inr hnd)
  rw [e]
  exact q p es _ hp (same_upd_fresh hp (Same.refl _)) ⟨kvs, upd_same, h3.tk (tk_same (same_upd_fresh hp (Same.refl _))) hf⟩ h4 h5
theorem acc_dict (hf : ∀ d, TD (f d)) (hnd : ks.Nodup) (h : Acc K H D f ks ok ks.length) :
    ∃ (ps : List Addr) (kvs : List (Key × V)), SqL K H D (ps.map V.ref) ∧ Paired (fun p kv => SqT K H p [kV kv.1, kv.2]) ps kvs ∧ ∀ p, H p = none → ∃ es, Same H (upd H p (.dK (mergeK [] kvs))) ∧ DictE K (upd H p (.dK (mergeK [] kvs))) f p es ∧ es.map (·.1) = ks ∧ ∀ e ∈ es, ok e.2 := by
  obtain ⟨ps, kvs, es, h1, h2, h3, h4, h5⟩ := h
  rw [List.take_length] at h4
  refine ⟨ps, kvs, SqL.of h1, h2, fun p hp => ?_⟩
  have e : mergeK [] kvs = kvs := mergeK_new kvs [] (by rw [List.nil_append, h3.keys, h4]; exact nodup_inr hnd)
  rw [e]
  exact ⟨es, same_upd_fresh hp (Same.refl _), ⟨kvs, upd_same, h3.tk (tk_same (same_upd_fresh hp (Same.refl _))) hf⟩, h4, h5⟩
end
end PW

/-! ##### LF1 -/
set_option Elab.async false
set_option linter.all false
set_option maxRecDepth 100000
set_option maxHeartbeats 2000000
namespace PW
open PySem PySem.Spec PyProof.Rows L2 He PWL

open PWW
/-! ### paths made of stretches; the pool's accumulators; the given work is right -/
theorem mkP_cons (z : Str) (e : Str × Str) (ps : List (Str × Str)) : mkP z (e :: ps) = z :: e.1 :: mkP e.2 ps := by
  unfold mkP
  rw [List.map_cons, List.flatten_cons]
  rfl
theorem every2_mkP : ∀ (z : Str) (ps : List (Str × Str)), every2 (mkP z ps) = z :: ps.map (·.2)
  | z, [] => rfl
  | z, e :: ps => by rw [mkP_cons, every2, every2_mkP e.2 ps, List.map_cons]
theorem every2_mkP1 : ∀ (z : Str) (ps : List (Str × Str)), every2 ((mkP z ps).drop 1) = ps.map (·.1)
  | z, [] => rfl
  | z, [e] => rfl
  | z, e :: e2 :: ps => by
    have ih := every2_mkP1 e.2 (e2 :: ps)
    rw [mkP_cons, mkP_cons] at *
    rw [List.map_cons, ← ih]
    rfl
theorem pathOk_mkP {z : Str} {ps : List (Str × Str)} {pts : List Str} (hd : ∀ e ∈ ps, e.1 = "up" ∨ e.1 = "down") (hl : ps.length ≤ 11) : pathOk (mkP z ps) pts = (decide (1 ≤ ps.length) && (z :: ps.map (·.2)).all (fun z => decide (z ∈ pts))) := by
  unfold pathOk
  rw [every2_mkP, every2_mkP1, len_mkP]
  have h1 : decide ((1 + 2 * ps.length) % 2 = 1) = true := decide_eq_true (by omega)
  have h2 : decide (3 ≤ 1 + 2 * ps.length) = decide (1 ≤ ps.length) := decide_eq_decide.mpr (by omega)
  have h3 : decide (1 + 2 * ps.length ≤ 23) = true := decide_eq_true (by omega)
  have h4 : (ps.map (·.1)).all isDir = true := by
    rw [List.all_eq_true]
    intro x hx
    obtain ⟨e, he, rfl⟩ := List.mem_map.mp hx
    unfold isDir
    rcases hd e he with h | h <;> rw [h] <;> rfl
  rw [h1, h2, h3, h4, Bool.true_and, Bool.true_and, Bool.and_true]
def hookN (k : Nat) : List Str := [("a" : Str), "b"].take k
def fixN (k : Nat) : List Str := [("P" : Str), "Q", "R"].take k
def ropeN (k : Nat) : List Str := [("r" : Str), "s", "t", "u", "v", "w", "x", "y", "z"].take k
def RpOk (pts : List Str) (r : Rope) : Prop := frOk' r.2 = true ∧ ∃ z ps, r.1 = mkP z ps ∧ z ∈ pts ∧ (∀ e ∈ ps, (e.1 = "up" ∨ e.1 = "down") ∧ e.2 ∈ pts) ∧ 1 ≤ ps.length ∧ ps.length ≤ 4
theorem RpOk.path {pts : List Str} {r : Rope} (h : RpOk pts r) : pathOk r.1 pts = true := by
  obtain ⟨_, z, ps, e, hz, hp, h1, h4⟩ := h
  rw [e, pathOk_mkP (fun e he => (hp e he).1) (by omega), decide_eq_true h1, Bool.true_and, List.all_eq_true]
  intro x hx
  rcases List.mem_cons.mp hx with rfl | hx
  · exact decide_eq_true hz
  · obtain ⟨e, he, rfl⟩ := List.mem_map.mp hx
    exact decide_eq_true (hp e he).2
theorem RpOk.mk {pts : List Str} {r : Rope} (h : RpOk pts r) : isMk r := by
  obtain ⟨_, z, ps, e, _, _, _, h4⟩ := h
  exact ⟨z, ps, e, by omega⟩
theorem given_ok {ls fs : List (Str × (Int × Int))} {es : List (Str × Rope)} {n1 n2 n3 : Nat} (hl : ls.map (·.1) = hookN (1 + n1)) (hlo : ∀ e ∈ ls, ldOk e.2 = true) (hf : fs.map (·.1) = fixN (1 + n2)) (hfo : ∀ e ∈ fs, frOk' e.2 = true)
    (hr : es.map (·.1) = ropeN n3) (hro : ∀ e ∈ es, RpOk (hookN (1 + n1) ++ fixN (1 + n2)) e.2) : GOk ⟨ls, es, fs⟩ := by
  have ll := congrArg List.length hl
  have lf := congrArg List.length hf
  have lr := congrArg List.length hr
  unfold hookN at ll
  unfold fixN at lf
  unfold ropeN at lr
  rw [List.length_map, List.length_take] at ll lf lr
  simp only [List.length_cons, List.length_nil] at ll lf lr
  refine ⟨by show 1 ≤ ls.length; omega, by show ls.length ≤ 8; omega, by show (ls.map (·.1)).Nodup; rw [hl]; exact List.Nodup.sublist (List.take_sublist _ _) (by decide), fun e he => ⟨?_, hlo e he⟩, by show fs.length ≤ 8; omega, by show (fs.map (·.1)).Nodup; rw [hf]; exact List.Nodup.sublist (List.take_sublist _ _) (by decide), fun e he => ⟨?_, hfo e he⟩, by show es.length ≤ 10; omega, by show (es.map (·.1)).Nodup; rw [hr]; exact List.Nodup.sublist (List.take_sublist _ _) (by decide), fun e he => ⟨?_, ?_, (hro e he).1⟩⟩
  · have : e.1 ∈ hookN (1 + n1) := by rw [← hl]; exact List.mem_map.mpr ⟨e, he, rfl⟩
    exact (by decide +kernel : ∀ z ∈ ([("a" : Str), "b"]), wordOk z SMALL = true) _ (List.mem_of_mem_take this)
  · have : e.1 ∈ fixN (1 + n2) := by rw [← hf]; exact List.mem_map.mpr ⟨e, he, rfl⟩
    exact (by decide +kernel : ∀ z ∈ ([("P" : Str), "Q", "R"]), wordOk z GREAT = true) _ (List.mem_of_mem_take this)
  · have : e.1 ∈ ropeN n3 := by rw [← hr]; exact List.mem_map.mpr ⟨e, he, rfl⟩
    exact (by decide +kernel : ∀ z ∈ ([("r" : Str), "s", "t", "u", "v", "w", "x", "y", "z"]), wordOk z SMALL = true) _ (List.mem_of_mem_take this)
  · show pathOk e.2.1 (ls.map (·.1) ++ fs.map (·.1)) = true
    rw [hl, hf]
    exact (hro e he).path
theorem PoolAt.upd {H : Hp} {p D : Addr} {o : HO} (h : PoolAt H p) (hne : D ≠ p) : PoolAt (L2.upd H D o) p := by
  obtain ⟨a, b, h⟩ := h
  exact ⟨a, b, by rw [upd_ne (Ne.symm hne)]; exact h⟩
theorem PoolAt.ne {H : Hp} {p D : Addr} (h : PoolAt H p) (hD : H D = none) : D ≠ p := fun e => by obtain ⟨_, _, h⟩ := h; rw [e, h] at hD; cases hD
theorem PoolAt.neK {H : Hp} {p D : Addr} {kvs : List (Key × V)} (h : PoolAt H p) (hD : H D = some (.dK kvs)) : D ≠ p := fun e => by obtain ⟨_, _, h⟩ := h; rw [e, h] at hD; cases hD
theorem DictE.pool {α : Type} {K : PySem.W.Frag} {H H' : Hp} {p a : Addr} {f : α → PyData} {es : List (Str × α)} (hn : ∀ d, TD (f d)) (hp : PoolAt H p) (t : SX p H H') (h : DictE K H f a es) : DictE K H' f a es := by
  obtain ⟨kvs, h1, h2⟩ := h
  exact ⟨kvs, t _ _ (hp.neK h1) h1, h2.tk (tk_pool hp t) hn⟩
theorem tk_updK {H : Hp} {d : Addr} {o : HO} {kvs : List (Key × V)} (h : H d = some (.dK kvs) ∨ ∃ o, H d = some (.frz o (.dK kvs))) : TK H (L2.upd H d o) := fun b xs hb => by
  have hne : b ≠ d := fun e => by
    subst e
    rcases h with h | ⟨_, h⟩ <;> rcases hb with hb | ⟨_, hb⟩ <;> (rw [h] at hb; cases hb)
  exact hb.elim (fun h => .inl (by rw [upd_ne hne]; exact h)) fun ⟨o, h⟩ => .inr ⟨o, by rw [upd_ne hne]; exact h⟩
theorem sx_unlock {p d : Addr} {H H' : Hp} {u : HO} {od : Obj} (hd : H d = some u) (hne : d ≠ p) (e : SX p (L2.upd H d (.frz od u)) H') : H' d = some (.frz od u) ∧ SX p H (L2.upd H' d u) := by
  refine ⟨e d _ hne upd_same, fun b o hbp hb => ?_⟩
  by_cases h : b = d
  · subst h
    rw [upd_same, ← hb, hd]
  · rw [upd_ne h]
    exact e b o hbp (by rw [upd_ne h]; exact hb)
section
variable {α : Type} {K : PySem.W.Frag} {H0 H9 H10 : Hp} {p D p6 : Addr} {f : α → PyData} {ks : List Str} {ok : α → Prop} {i : Nat} {n : Str} {y : V} {d : α}
/-- what a comprehension of pairs keeps when it draws -/
def PA_ (K : PySem.W.Frag) (p : Addr) (H0 : Hp) (D : Addr) (f : α → PyData) (ks : List Str) (ok : α → Prop) (i : Nat) (H : Hp) : Prop := SX p H0 H ∧ PoolAt H p ∧ Acc K H D f ks ok i
theorem pa_0 (hp : PoolAt H0 p) (hD : H0 D = none) : PA_ K p H0 D f ks ok 0 (upd H0 D (.lst [])) := ⟨sx_same (same_upd_fresh hD (Same.refl _)), hp.same (same_upd_fresh hD (Same.refl _)), acc_0⟩
theorem pa_turn (hf : ∀ d, TD (f d)) (hk : ks[i]? = some n) (hz : ks.length ≤ 100) (hp0 : PoolAt H0 p) (hD0 : H0 D = none) (pv : PA_ K p H0 D f ks ok i H9) (t : SX p H9 H10) (hp : PoolAt H10 p) (dd : Dp K H10 y (f d)) (o : ok d) (f6 : H10 p6 = none) :
    ∃ acc, upd H10 p6 (.tup [.str n, y]) D = some (.lst acc) ∧ acc.length < sizeLine ∧ PA_ K p H0 D f ks ok (i + 1) (upd (upd H10 p6 (.tup [.str n, y])) D (.lst (acc ++ [.ref p6]))) := by
  obtain ⟨t9, hp9, acc⟩ := pv
  have hDp : D ≠ p := hp0.ne hD0
  have s6 : Same H10 (upd H10 p6 (.tup [.str n, y])) := same_upd_fresh f6 (Same.refl _)
  obtain ⟨xs, hx, hxl, acc6⟩ := Acc.step hf hk (acc.tk ((tk_pool hp9 t).trans (tk_same s6)) (fun o h => s6 _ _ (t _ _ hDp h)) hf) (SqT.of upd_same) (hf _ K _ _ y (tk_same s6) dd) o
  have hi : i < ks.length := (List.getElem?_eq_some_iff.mp hk).1
  exact ⟨xs, hx, by rw [hxl]; have : (1000 : Nat) < sizeLine := by decide
                    omega, fun b o hb h => by rw [upd_ne (ne_of_none h hD0)]; exact s6 _ _ (t _ _ hb (t9 _ _ hb h)), (hp.same s6).upd hDp, acc6⟩
end
/-- the law's given work, with the parts of g in their order -/
def Giv.l3 (g : Giv) : L3 := ⟨g.loads, g.ropes, g.fixed⟩
def GivG (K : PySem.W.Frag) (H : Hp) (a : Addr) (g : Giv) : Prop := GivAt K H a g.l3
/-- the parts of a new given work are new, and its ropes stand apart -/
def NewG (H H' : Hp) (a : Addr) : Prop := ∃ l r h, H' a = some (.lst [.ref l, .ref r, .ref h]) ∧ H l = none ∧ H r = none ∧ H h = none ∧ l ≠ r ∧ h ≠ r
theorem free_sx {H H' : Hp} {p q : Addr} (t : SX p H H') (hp : PoolAt H' p) (f : H' q = none) : H q = none := by
  cases hq : H q with
  | none => rfl
  | some o =>
    have : q ≠ p := fun e => by obtain ⟨_, _, h⟩ := hp; rw [e, h] at f; cases f
    rw [t q o this hq] at f
    cases f
theorem relG (g : Giv) : Rel g.l3 g := ⟨.refl _, .refl _, .refl _⟩
theorem hook_a (k : Nat) : ("a" : Str) ∈ hookN (1 + k) := by
  unfold hookN
  rw [Nat.add_comm, List.take_succ_cons]
  exact List.mem_cons_self
theorem fix_P (k : Nat) : ("P" : Str) ∈ fixN (1 + k) := by
  unfold fixN
  rw [Nat.add_comm, List.take_succ_cons]
  exact List.mem_cons_self
theorem w_ivals {td : TE} {σ : L2.St} {H : Hp} {R : It → Hp → Prop} (h : td σ H fun x H1 => ∃ d o kvs, x = .ref d ∧ H1 d = some (.frz o (.dK kvs)) ∧ R (Itd d o kvs) H1) : iVals td σ H R := h
theorem at_strs {ks : List Str} {i : Nat} {y : V} (h : (ks.map V.str)[i]? = some y) : ∃ z, ks[i]? = some z ∧ y = .str z := by
  rw [List.getElem?_map] at h
  cases hk : ks[i]? with
  | none => rw [hk] at h; cases h
  | some z => rw [hk] at h; exact ⟨z, rfl, (Option.some.inj h).symm⟩
theorem hook_len (k : Nat) : (hookN k).length ≤ 100 := by
  unfold hookN
  rw [List.length_take]
  simp only [List.length_cons, List.length_nil]
  omega
theorem rope_len' (k : Nat) : (ropeN k).length ≤ 9 := by
  unfold ropeN
  rw [List.length_take]
  simp only [List.length_cons, List.length_nil]
  omega
theorem hook_nd (k : Nat) : (hookN k).Nodup := List.Nodup.sublist (List.take_sublist k _) (by decide)
theorem hook_pos (k : Nat) : 0 < (hookN (1 + k)).length := by
  unfold hookN
  rw [List.length_take]
  simp only [List.length_cons, List.length_nil]
  omega
end PW

/-! ##### LF -/
set_option Elab.async false
set_option linter.all false
set_option maxRecDepth 100000
set_option maxHeartbeats 2000000
namespace PW
open PySem PySem.Spec PyProof.Rows L2 He PWL

open PWW
/-! ### the law's given works: _law_given -/
def spGiven (K : PySem.W.Frag) : Sp := fun vs H Q _ => ∃ (p : Addr) (m1 m2 : Nat), vs = [.ref p, .int m1, .int m2] ∧ PoolAt H p ∧ 1 ≤ m1 ∧ m1 ≤ 2 ∧ m2 ≤ 9 ∧
  ∀ a g H', H a = none → SX p H H' → PoolAt H' p → GivG K H' a g → NewG H H' a → GOk g → (("a" : Str) ∈ g.pts ∧ ("P" : Str) ∈ g.pts) → (∃ k, g.ropes.map (·.1) = ropeN k) → Q (.ref a) H'
theorem hook_sz {k : Nat} (h : k < 2) : (cutS "abcdefgh" none (some (1 + (k : Int)))).length ≤ sizeLine := by
  match k, h with
  | 0, _ => decide +kernel
  | 1, _ => decide +kernel
theorem hook_sg {k : Nat} (h : k < 2) : signs (cutS "abcdefgh" none (some (1 + (k : Int)))) = hookN (1 + k) := by
  match k, h with
  | 0, _ => decide +kernel
  | 1, _ => decide +kernel
theorem fix_sg {k : Nat} (h : k < 3) : signs (cutS "PQR" none (some (1 + (k : Int)))) = fixN (1 + k) := by
  match k, h with
  | 0, _ => decide +kernel
  | 1, _ => decide +kernel
  | 2, _ => decide +kernel
theorem rope_sg {k : Nat} (h : k < 10) : signs (cutS "rstuvwxyz" none (some (k : Int))) = ropeN k := by
  match k, h with
  | 0, _ => decide +kernel
  | 1, _ => decide +kernel
  | 2, _ => decide +kernel
  | 3, _ => decide +kernel
  | 4, _ => decide +kernel
  | 5, _ => decide +kernel
  | 6, _ => decide +kernel
  | 7, _ => decide +kernel
  | 8, _ => decide +kernel
  | 9, _ => decide +kernel
theorem signs_at {z : Str} {i c : Nat} (h : z.cps[i]? = some c) : (signs z)[i]? = some ⟨#[c]⟩ := by
  unfold signs
  rw [List.getElem?_map, Array.getElem?_toList, h]
  rfl
theorem signs_len (z : Str) : z.cps.size = (signs z).length := by
  unfold signs
  rw [List.length_map, Array.length_toList]
theorem fix_len (k : Nat) {i : Nat} {z : Str} (h : (fixN (1 + k))[i]? = some z) : i < 10 := by
  have := (List.getElem?_eq_some_iff.mp h).1
  unfold fixN at this
  rw [List.length_take] at this
  have : i < 3 := by simp at this; omega
  omega
theorem fix_nd (k : Nat) : (fixN k).Nodup := List.Nodup.sublist (List.take_sublist k _) (by decide)
theorem names_len10 (a b : Nat) : (hookN a ++ fixN b).length ≤ 10 := by
  unfold hookN fixN
  rw [List.length_append, List.length_take, List.length_take]
  simp only [List.length_cons, List.length_nil]
  omega
theorem names_len (a b : Nat) : (hookN a).length + (fixN b).length ≤ 100000 := by
  have := names_len10 a b
  rw [List.length_append] at this
  omega
theorem names_pos (a b : Nat) : 0 < (hookN (1 + a) ++ fixN b).length := by
  unfold hookN
  rw [List.length_append, List.length_take]
  simp only [List.length_cons, List.length_nil]
  omega
theorem names_short (a b : Nat) : ∀ z ∈ hookN a ++ fixN b, z.length ≤ 1000 := by
  intro z hz
  have : z ∈ ([("a" : Str), "b", "P", "Q", "R"]) := by
    rcases List.mem_append.mp hz with h | h
    · have := List.mem_of_mem_take h
      simp only [List.mem_cons, List.not_mem_nil, or_false] at this ⊢
      rcases this with h | h <;> simp [h]
    · have := List.mem_of_mem_take h
      simp only [List.mem_cons, List.not_mem_nil, or_false] at this ⊢
      rcases this with h | h | h <;> simp [h]
  exact (by decide : ∀ z ∈ ([("a" : Str), "b", "P", "Q", "R"]), z.length ≤ 1000) z this
theorem rope_nd (k : Nat) : (ropeN k).Nodup := List.Nodup.sublist (List.take_sublist k _) (by decide)
theorem rope_len (k : Nat) {i : Nat} {z : Str} (h : (ropeN k)[i]? = some z) : i < 10 := by
  have := (List.getElem?_eq_some_iff.mp h).1
  unfold ropeN at this
  rw [List.length_take] at this
  have : i < 9 := by simp at this; omega
  omega
theorem not_mem_take {ks : List Str} {i : Nat} {n : Str} (hn : ks.Nodup) (h : ks[i]? = some n) : n ∉ ks.take i := by
  intro hm
  obtain ⟨j, hj, hj2⟩ := List.mem_iff_getElem.mp hm
  have hj3 : j < i := by rw [List.length_take] at hj; omega
  have hi := (List.getElem?_eq_some_iff.mp h).1
  have h5 : ks[j]? = some n := by
    rw [List.getElem_take] at hj2
    rw [← hj2]
    exact List.getElem?_eq_getElem _
  have := (List.getElem?_inj (by omega : j < ks.length) hn).mp (h5.trans h.symm)
  omega
theorem putA_new {α : Type} {es : List (Str × α)} {k : Str} {v : α} (h : hasA es k = false) : putA es k v = es ++ [(k, v)] := by
  unfold putA
  unfold hasA at h
  rw [h]
  rfl
local macro_rules | `(tactic| walk_at "w") => `(tactic| (repeat (first | with_reducible refine w_seq ?_ | with_reducible refine w_ret ?_ | with_reducible refine w_asg ?_ | with_reducible refine w_ifs ?_ | with_reducible refine w_drop ?_ | with_reducible refine w_next ?_ | with_reducible refine w_cont ?_ | with_reducible refine w_par ?_ | with_reducible refine w_par3 ?_ | with_reducible refine w_three ?_ | with_reducible refine w_two ?_ | with_reducible refine w_name ?_ | with_reducible refine w_c ?_ | with_reducible refine w_op ?_ | with_reducible refine w_un ?_ | with_reducible refine w_cb ?_ | with_reducible refine w_cons ?_ | with_reducible refine w_nil ?_ | with_reducible refine w_tup ?_ | with_reducible refine w_lst ?_ | with_reducible refine w_test ?_ | with_reducible refine w_B ?_ | with_reducible refine w_k ?_ | with_reducible refine w_ki ?_ | with_reducible refine w_and ?_ | with_reducible refine w_or ?_ | with_reducible refine w_not ?_ | with_reducible refine w_andV ?_ | with_reducible refine w_orV ?_ | with_reducible refine w_notV ?_ | with_reducible refine w_if ?_ | with_reducible refine w_yes ?_ | with_reducible refine w_isN ?_ | with_reducible refine w_chain ?_ | with_reducible refine w_sl ?_ | with_reducible refine w_noPart ?_ | with_reducible refine w_part ?_ | with_reducible refine w_fld ?_ | with_reducible refine w_dget ?_ | with_reducible refine w_din ?_ | with_reducible refine w_dnotin ?_ | with_reducible refine w_dput ?_ | with_reducible refine w_newK ?_ | with_reducible refine w_sfld ?_ | with_reducible refine w_methR ?_ | with_reducible refine w_propR ?_ | with_reducible refine w_sl2 ?_ | with_reducible refine w_star ?_ | with_reducible refine w_retN ?_ | with_reducible refine w_gcons ?_ | with_reducible refine w_gnil ?_ | with_reducible refine r_i0 ?_ | with_reducible refine r_u ?_ | with_reducible refine r_eqi ?_ | with_reducible refine r_nei ?_ | with_reducible refine r_eqs ?_ | with_reducible refine r_nes ?_ | with_reducible refine iteT ?_ | with_reducible refine iteF ?_ | with_reducible refine w_lc ?_ | with_reducible refine w_dc ?_ | with_reducible refine w_for ?_ | with_reducible refine w_istr ?_ | with_reducible refine w_ilist ?_ | with_reducible refine w_itup ?_ | with_reducible refine w_irng1 ?_ | with_reducible refine w_irng2 ?_ | with_reducible refine w_ienum ?_ | with_reducible refine w_iitems ?_ | with_reducible refine w_ikeysT ?_ | with_reducible refine w_makeK ?_ | with_reducible refine w_methSN ?_ | with_reducible refine w_makeR ?_ | with_reducible refine w_callR ?_ | with_reducible refine w_dmerge ?_ | with_reducible refine w_ks ?_ | with_reducible refine w_kr ?_ | with_reducible refine isi_int_int ?_ | with_reducible refine isi_int_bool ?_ | with_reducible refine isi_str_str ?_ | with_reducible refine w_1i ?_ | with_reducible refine w_nn ?_ | with_reducible refine w_int_i ?_ | with_reducible refine w_int_b ?_ | ((with_reducible apply w_var); rfl) | ((with_reducible apply r_ixT); assumption; rfl) | ((with_reducible apply r_ixL); assumption; rfl) | ((with_reducible apply isi_tup_tup); assumption) | ((with_reducible apply isi_dict_dict); assumption) | ((with_reducible apply r_lenD); assumption) | ((with_reducible apply r_lenT); assumption) | ((with_reducible apply r_lenL); assumption) | ((with_reducible refine r_all (SqL.of ?_) ?_); assumption) | ((with_reducible apply r_fld); assumption; exact Cn.cls (by assumption) _; exact Cn.noat (by assumption) _ _; first | rfl | assumption) | ((with_reducible apply ite_t); rfl) | ((with_reducible apply ite_f); rfl))))
section
variable {P : Program} {w : World} {K : PySem.W.Frag} {mg : Str → Option Value} {base : Heap}
theorem F__law_given (C : Cn P K mg) : FnR P w K mg base (L2.CX P w) 6 (ga K "_law_given") (spGiven K) := by
  obtain ⟨fd, F⟩ := C.d__law_given
  have sc : FnScope ["_law_pool_here", "_law_most_hooks", "_law_most_ropes", "_law_hooks", "_law_fixed", "_law_ropes", "_law_name", "_law_loads", "_law_length", "_law_pulls", "_law_carried_here", "_law_hook", "_law_load"] ["_law_pool_here", "_law_most_hooks", "_law_most_ropes"] (defScope (top 59)) := ⟨rfl, rfl, rfl, by decide +kernel, rfl, by decide +kernel, by decide +kernel⟩
  refine fnR_nox F sc ?len (fun _ _ _ _ _ _ us hl => match us, hl with | [_, _, _], _ => rfl) ?body
  case len => exact fun vs H Q E h => by obtain ⟨_, _, _, rfl, _⟩ := h; rfl
  case body =>
    intro cdv A outer s H vs Q E hr h
    obtain ⟨p, m1, m2, rfl, hp, h1, h2, h9, q⟩ := h
    have F__law_draw := F__law_draw (w := w) (base := base) C
    have F__law_signed := F__law_signed (w := w) (base := base) C
    have F__law_number := F__law_number (w := w) (base := base) C
    have F__law_path := F__law_path (w := w) (base := base) C
    have F__law_carried := F__law_carried (w := w) (base := base) C
    refine ⟨_, (pss_cons (ps_set (i := 3) sc.nd rfl (Or.inl rfl) (pe_callTy (call_listStr rfl) (by rfl) (C.free "list") b_list (pa_cons (pe_slice sl_str pe_str po_none (po_some (pe_op op_add pe_int (pe_callR F__law_draw (hr.mono (by decide)) (by rfl) (C.g "_law_draw") (C.keep "_law_draw") passL (pa_cons (pv 0) (pa_cons (pv 1) pa_nil)))))) pa_nil))) (pss_cons (ps_set (i := 4) sc.nd rfl (Or.inl rfl) (pe_callTy (call_dictP rfl) (by rfl) (C.free "dict") b_dict (pa_cons (pe_lc (own := [("_law_name", 6)]) rfl sc.nd (pi_str (pe_slice sl_str pe_str po_none (po_some (pe_op op_add pe_int (pe_callR F__law_draw (hr.mono (by decide)) (by rfl) (C.g "_law_draw") (C.keep "_law_draw") passL (pa_cons (pv 0) (pa_cons pe_int pa_nil))))))) (blkOk_by (N := ["_law_pool_here", "_law_most_hooks", "_law_most_ropes", "_law_hooks", "_law_fixed", "_law_ropes", "_law_name", "_law_loads", "_law_length", "_law_pulls", "_law_carried_here", "_law_hook", "_law_load"]) (sc := defScope (top 59)) (by decide +kernel)) (fun _ _ _ _ _ => (pg_name (i := 6) sc.nd rfl (Or.inl rfl))) (fun _ _ _ _ _ => pts_nil) (fun _ _ _ _ _ => (pe_tup (pa_cons (pv 6) (pa_cons (pe_callR F__law_signed (hr.mono (by decide)) (by rfl) (C.g "_law_signed") (C.keep "_law_signed") passL (pa_cons (pv 0) pa_nil)) pa_nil))))) pa_nil))) (pss_cons (ps_set (i := 5) sc.nd rfl (Or.inr rfl) pe_dnewK) (pss_cons (ps_for PassesOwn.never rfl (pi_str (pe_slice sl_str pe_str po_none (po_some (pe_callR F__law_draw (hr.mono (by decide)) (by rfl) (C.g "_law_draw") (C.keep "_law_draw") passL (pa_cons (pv 0) (pa_cons (pe_op op_add (pv 2) pe_int) pa_nil)))))) (pg_name (i := 6) sc.nd rfl (Or.inl rfl)) (pss_cons (ps_set (i := 8) sc.nd rfl (Or.inl rfl) (pe_callR F__law_signed (hr.mono (by decide)) (by rfl) (C.g "_law_signed") (C.keep "_law_signed") passL (pa_cons (pv 0) pa_nil))) (pss_one (ps_dput (hu_of hr) (pv 5) (pv 6) (pe_tup (pa_cons (pe_callR F__law_path (hr.mono (by decide)) (by rfl) (C.g "_law_path") (C.keep "_law_path") passL (pa_cons (pv 0) (pa_cons (pe_op op_cat (pv 3) (pe_callTy (call_listD rfl) (by rfl) (C.free "list") b_list (pa_cons (pv 4) pa_nil))) pa_nil))) (pa_cons (pv 8) pa_nil))) rfl)))) (pss_cons (ps_set (i := 7) sc.nd rfl (Or.inl rfl) (pe_callTy (call_dictP rfl) (by rfl) (C.free "dict") b_dict (pa_cons (pe_lc (own := [("_law_hook", 11)]) rfl sc.nd (pi_list (pv 3)) (blkOk_by (N := ["_law_pool_here", "_law_most_hooks", "_law_most_ropes", "_law_hooks", "_law_fixed", "_law_ropes", "_law_name", "_law_loads", "_law_length", "_law_pulls", "_law_carried_here", "_law_hook", "_law_load"]) (sc := defScope (top 59)) (by decide +kernel)) (fun _ _ _ _ _ => (pg_name (i := 11) sc.nd rfl (Or.inl rfl))) (fun _ _ _ _ _ => pts_nil) (fun _ _ _ _ _ => (pe_tup (pa_cons (pv 11) (pa_cons (pe_callR F__law_number (hr.mono (by decide)) (by rfl) (C.g "_law_number") (C.keep "_law_number") passL (pa_cons (pv 0) pa_nil)) pa_nil))))) pa_nil))) (pss_cons (ps_if (pt_cmpR op_gt (pe_callR F__law_draw (hr.mono (by decide)) (by rfl) (C.g "_law_draw") (C.keep "_law_draw") passL (pa_cons (pv 0) (pa_cons pe_int pa_nil))) pe_int (nomark _)) (pss_cons (ps_set (i := 9) sc.nd rfl (Or.inr rfl) (pe_callTy (call_dictP rfl) (by rfl) (C.free "dict") b_dict (pa_cons (pe_lock (pe_lc (own := [("_law_name", 6)]) rfl sc.nd (pi_keys (pv 5)) (blkOk_by (N := ["_law_pool_here", "_law_most_hooks", "_law_most_ropes", "_law_hooks", "_law_fixed", "_law_ropes", "_law_name", "_law_loads", "_law_length", "_law_pulls", "_law_carried_here", "_law_hook", "_law_load"]) (sc := defScope (top 59)) (by decide +kernel)) (fun _ _ _ _ _ => (pg_name (i := 6) sc.nd rfl (Or.inl rfl))) (fun _ _ _ _ _ => pts_nil) (fun _ _ _ _ _ => (pe_tup (pa_cons (pv 6) (pa_cons (pe_callR F__law_number (hr.mono (by decide)) (by rfl) (C.g "_law_number") (C.keep "_law_number") passL (pa_cons (pv 0) pa_nil)) pa_nil)))))) pa_nil))) (pss_cons (ps_set (i := 10) sc.nd rfl (Or.inl rfl) (pe_callTy (call_dictP rfl) (by rfl) (C.free "dict") b_dict (pa_cons (pe_lc (own := [("_law_hook", 11)]) rfl sc.nd (pi_list (pv 3)) (blkOk_by (N := ["_law_pool_here", "_law_most_hooks", "_law_most_ropes", "_law_hooks", "_law_fixed", "_law_ropes", "_law_name", "_law_loads", "_law_length", "_law_pulls", "_law_carried_here", "_law_hook", "_law_load"]) (sc := defScope (top 59)) (by decide +kernel)) (fun _ _ _ _ _ => (pg_name (i := 11) sc.nd rfl (Or.inl rfl))) (fun _ _ _ _ _ => pts_nil) (fun _ _ _ _ _ => (pe_tup (pa_cons (pv 11) (pa_cons (pe_callR F__law_carried (hr.mono (by decide)) (by rfl) (C.g "_law_carried") (C.keep "_law_carried") passL (pa_cons (pv 5) (pa_cons (pv 9) (pa_cons (pv 11) pa_nil)))) pa_nil))))) pa_nil))) (pss_one (ps_if (pt_cmpR op_ge (pe_callB (cr_min rfl) (by rfl) (C.free "min") b_min (pa_cons (pe_lock (pe_lc (own := [("_law_load", 12)]) rfl sc.nd (pi_values (pv 10)) (blkOk_by (N := ["_law_pool_here", "_law_most_hooks", "_law_most_ropes", "_law_hooks", "_law_fixed", "_law_ropes", "_law_name", "_law_loads", "_law_length", "_law_pulls", "_law_carried_here", "_law_hook", "_law_load"]) (sc := defScope (top 59)) (by decide +kernel)) (fun _ _ _ _ _ => (pg_name (i := 12) sc.nd rfl (Or.inl rfl))) (fun _ _ _ _ _ => pts_nil) (fun _ _ _ _ _ => (pe_ix (ix_tup : IxR _ (rIxT K)) (pv 12) pe_int (fun _ _ => rfl))))) pa_nil)) pe_int (nomark _)) (pss_one (ps_set (i := 7) sc.nd rfl (Or.inl rfl) (pv 10))) pss_nil)))) pss_nil) (pss_one (ps_ret (pe_lst (pa_cons (pv 7) (pa_cons (pv 5) (pa_cons (pv 4) pa_nil)))))))))))), ?_⟩
    walk_at "w"
    refine ⟨p, m1, rfl, hp, by omega, by omega, fun n1 H1 hn1 t1 hp1 => ?_⟩
    walk_at "w"
    refine ⟨"abcdefgh", rfl, by decide, ?_⟩
    walk_at "w"
    refine ⟨_, rfl, hook_sz (by omega), fun a1 f1 => ?_⟩
    rw [hook_sg (by omega)]
    generalize hH2 : upd H1 a1 (.lst ((hookN (1 + n1)).map V.str)) = H2
    have s2 : Same H1 H2 := hH2 ▸ same_upd_fresh f1 (Same.refl _)
    have h2 : H2 a1 = some (.lst ((hookN (1 + n1)).map V.str)) := by rw [← hH2]; exact upd_same
    have hp2 := hp1.same s2
    walk_at "w"
    refine ⟨p, 3, rfl, hp2, by decide, by decide, fun n2 H3 hn2 t3 hp3 => ?_⟩
    walk_at "w"
    refine ⟨"PQR", rfl, by decide, ?_⟩
    refine ⟨_, rfl, fun D1 hD1 => ?_⟩
    refine lc_it walk_str (fun i H' => SX p H3 H' ∧ PoolAt H' p ∧ Acc K H' D1 frD (fixN (1 + n2)) (fun f => frOk' f = true) i) ⟨sx_same (same_upd_fresh hD1 (Same.refl _)), hp3.same (same_upd_fresh hD1 (Same.refl _)), acc_0⟩ (fun _ _ _ _ => True.intro) (fun i y H4 H4' hi pv yy => ?_) (fun H4 pv => ?_)
    · obtain ⟨rfl, c, hc, rfl⟩ := yy
      obtain ⟨t4, hp4, acc⟩ := pv
      have hn : (fixN (1 + n2))[i]? = some ⟨#[c]⟩ := by rw [← fix_sg hn2]; exact signs_at hc
      walk_at "w"
      refine ⟨rfl, ?_⟩
      walk_at "w"
      refine ⟨p, rfl, hp4, fun y f H5 t5 hp5 d5 o5 => ?_⟩
      walk_at "w"
      refine ⟨by show 2 ≤ sizeLine; decide, fun p6 f6 => ?_⟩
      have hDp : D1 ≠ p := fun e => by obtain ⟨_, _, h⟩ := hp3; rw [e, h] at hD1; cases hD1
      generalize hH6 : upd H5 p6 (.tup [V.str ⟨#[c]⟩, y]) = H6
      have s6 : Same H5 H6 := hH6 ▸ same_upd_fresh f6 (Same.refl _)
      have h6 : H6 p6 = some (.tup [V.str ⟨#[c]⟩, y]) := by rw [← hH6]; exact upd_same
      obtain ⟨xs, hx, hxl, acc6⟩ := Acc.step td_fr hn (acc.tk ((tk_pool hp4 t5).trans (tk_same s6)) (fun o h => s6 _ _ (t5 _ _ hDp h)) td_fr) (SqT.of h6) (td_fr f K H5 H6 y (tk_same s6) d5) o5
      refine ⟨xs, hx, by rw [hxl]; have : (1000 : Nat) < sizeLine := by decide
                         have := fix_len n2 hn
                         omega, fun b o hb h => by rw [upd_ne (ne_of_none h hD1)]; exact s6 _ _ (t5 _ _ hb (t4 _ _ hb h)), (hp5.same s6).upd hDp, acc6⟩
    obtain ⟨t4, hp4, acc⟩ := pv
    walk_at "w"
    rw [signs_len, fix_sg hn2] at acc
    obtain ⟨ps, kvs, hl, hpp, hx⟩ := acc_dict td_fr (fix_nd _) acc
    refine ⟨D1, ps, kvs, rfl, hl, hpp, fun pf fpf => ?_⟩
    obtain ⟨fs, s5, hfx, hfk, hfo⟩ := hx pf fpf
    generalize upd H4 pf (.dK (mergeK [] kvs)) = H5 at s5 hfx ⊢
    walk_at "w"
    refine fun pr fpr => ?_
    generalize hH6 : upd H5 pr (.dK []) = H6
    have s6 : Same H5 H6 := hH6 ▸ same_upd_fresh fpr (Same.refl _)
    have h6 : H6 pr = some (.dK []) := by rw [← hH6]; exact upd_same
    have hp6 := (hp4.same s5).same s6
    walk_at "w"
    refine ⟨p, m2 + 1, by rw [Int.natCast_add]; rfl, hp6, by omega, by omega, fun n3 H7 hn3 t7 hp7 => ?_⟩
    walk_at "w"
    refine ⟨"rstuvwxyz", rfl, by decide, ?_⟩
    refine ⟨_, rfl, ?_⟩
    have hppr : pr ≠ p := fun e => by obtain ⟨_, _, h⟩ := hp4.same s5; rw [e, h] at fpr; cases fpr
    have s57 : SX p H5 H7 := fun b o hb h => t7 _ _ hb (s6 _ _ h)
    have h7 : H7 pr = some (.dK []) := t7 _ _ hppr h6
    have ha1p : a1 ≠ p := fun e => by obtain ⟨_, _, h⟩ := hp1; rw [e, h] at f1; cases f1
    have h5a : H5 a1 = some (.lst ((hookN (1 + n1)).map V.str)) := s5 _ _ (t4 _ _ ha1p (t3 _ _ ha1p h2))
    have hpfp : pf ≠ p := fun e => by obtain ⟨_, _, h⟩ := hp4; rw [e, h] at fpf; cases fpf
    refine for_it walk_str (fun i σ' H' => SX p H5 H' ∧ PoolAt H' p ∧ (∃ x6 x8, σ' = [some (.ref p), some (.int m1), some (.int m2), some (.ref a1), some (.ref pf), some (.ref pr), x6, none, x8, none, none, none, none]) ∧ ∃ es, DictE K H' ropeD pr es ∧ es.map (·.1) = (ropeN n3).take i ∧ ∀ e ∈ es, RpOk (hookN (1 + n1) ++ fixN (1 + n2)) e.2) ⟨s57, hp7, ⟨none, none, rfl⟩, [], ⟨[], h7, .nil⟩, rfl, fun e he => absurd he (by simp)⟩ (fun _ _ _ _ _ => True.intro) (fun i y σ' H8' H8 hi pv yy => ?_) (fun σ' H8 pv => ?_)
    · obtain ⟨rfl, c, hc, rfl⟩ := yy
      obtain ⟨t8, hp8, ⟨x6, x8, rfl⟩, es, he, hek, heo⟩ := pv
      have hn : (ropeN n3)[i]? = some ⟨#[c]⟩ := by rw [← rope_sg (by omega)]; exact signs_at hc
      walk_at "w"
      refine ⟨p, rfl, hp8, fun y f H9 t9 hp9 d9 o9 => ?_⟩
      walk_at "w"
      have t59 := t8.trans t9
      obtain ⟨kf, hkf, dkf⟩ := id hfx
      have hf9 : H9 pf = some (.dK kf) := t59 _ _ hpfp hkf
      have ha9 : H9 a1 = some (.lst ((hookN (1 + n1)).map V.str)) := t59 _ _ ha1p h5a
      refine ⟨pf, kf, rfl, .inl hf9, fun q1 g1 => ?_⟩
      rw [keys_map dkf.keys, hfk]
      generalize hH10 : upd H9 q1 (.lst ((fixN (1 + n2)).map V.str)) = H10
      have s910 : Same H9 H10 := hH10 ▸ same_upd_fresh g1 (Same.refl _)
      have h10 : H10 q1 = some (.lst ((fixN (1 + n2)).map V.str)) := by rw [← hH10]; exact upd_same
      refine r_cat (s910 _ _ ha9) h10 (by rw [List.length_map, List.length_map]; exact names_len _ _) fun q2 g2 => ?_
      rw [← List.map_append]
      generalize hpts : hookN (1 + n1) ++ fixN (1 + n2) = pts at heo ⊢
      generalize hH11 : upd H10 q2 (.lst (pts.map V.str)) = H11
      have s1011 : Same H10 H11 := hH11 ▸ same_upd_fresh g2 (Same.refl _)
      have h11 : H11 q2 = some (.lst (pts.map V.str)) := by rw [← hH11]; exact upd_same
      have hp10 := hp9.same s910
      have hq2p : p ≠ q2 := fun e => by obtain ⟨_, _, h⟩ := hp10; rw [← e, h] at g2; cases g2
      walk_at "w"
      refine ⟨p, q2, pts, rfl, hp10.same s1011, hq2p, h11, ?_, ?_, ?_, fun x z ps H12 t12 hp12 d12 hz hps hl1 hl4 => ?_⟩
      · rw [← hpts]; exact names_pos _ _
      · rw [← hpts]; exact Nat.le_trans (names_len10 _ _) (by decide)
      · rw [← hpts]; exact names_short _ _
      walk_at "w"
      refine ⟨by show 2 ≤ sizeLine; decide, fun q3 g3 => ?_⟩
      generalize hH13 : upd H12 q3 (.tup [x, y]) = H13
      have s1213 : Same H12 H13 := hH13 ▸ same_upd_fresh g3 (Same.refl _)
      have h13 : H13 q3 = some (.tup [x, y]) := by rw [← hH13]; exact upd_same
      obtain ⟨kr, hkr, dkr⟩ := he
      have hr13 : H13 pr = some (.dK kr) := s1213 _ _ (t12 _ _ hppr (s1011 _ _ (s910 _ _ (t9 _ _ hppr hkr))))
      have tk : TK H9 H13 := ((tk_same (s910.trans s1011)).trans (tk_pool (hp10.same s1011) t12)).trans (tk_same s1213)
      have hel : es.length = i := by
        have := congrArg List.length hek
        have hi9 := (List.getElem?_eq_some_iff.mp hn).1
        rw [List.length_map, List.length_take] at this
        omega
      have hi10 := rope_len n3 hn
      walk_at "w"
      refine ⟨pr, _, rfl, DPut.k (k := .inr ⟨#[c]⟩) hr13 (by rw [dkr.length, hel]; have : (1000 : Nat) < sizeLine := by decide
                                                             omega), ?_⟩
      have kd : TK H13 (upd H13 pr (.dK (putK kr (.inr ⟨#[c]⟩) (.ref q3)))) := fun b xs h => by
        have hne : b ≠ pr := fun e => by
          subst e
          rcases h with h | ⟨o, h⟩ <;> (rw [hr13] at h; cases h)
        exact h.elim (fun h => .inl (by rw [upd_ne hne]; exact h)) fun ⟨o, h⟩ => .inr ⟨o, by rw [upd_ne hne]; exact h⟩
      have dp : Dp K H13 (.ref q3) (ropeD (mkP z ps, f)) := dp_rope (SqT.of h13) (td_path _ K H12 H13 x (tk_same s1213) d12) (td_fr _ K H9 H13 y tk d9)
      have hno : hasA es ⟨#[c]⟩ = false := by
        cases hb : hasA es ⟨#[c]⟩ with
        | false => rfl
        | true =>
          have := hasA_iff.mp hb
          rw [hek] at this
          exact absurd this (not_mem_take (rope_nd n3) hn)
      walk_at "w"
      refine ⟨fun b o hb h => ?_, ((hp12.same s1213)).upd hppr, ⟨_, _, rfl⟩, es ++ [(⟨#[c]⟩, (mkP z ps, f))], ⟨_, upd_same, ?_⟩, ?_, fun e he => ?_⟩
      · have hbr : b ≠ pr := ne_of_none h fpr
        rw [upd_ne hbr]
        exact s1213 _ _ (t12 _ _ hb (s1011 _ _ (s910 _ _ (t59 _ _ hb h))))
      · rw [← putA_new hno]
        exact (((dkr.tk ((tk_pool hp8 t9).trans tk) td_rope).put dp).tk kd td_rope)
      · rw [List.map_append, hek, List.take_add_one, hn]
        rfl
      · rcases List.mem_append.mp he with he | he
        · exact heo e he
        · rw [List.mem_singleton.mp he]
          exact ⟨o9, z, ps, rfl, hz, hps, hl1, hl4⟩
    · obtain ⟨t8, hp8, ⟨x6, x8, rfl⟩, es, he, hek, heo⟩ := pv
      have hek2 : es.map (·.1) = ropeN n3 := by
        rw [signs_len, rope_sg (by omega), List.take_length] at hek
        exact hek
      have h8a : H8 a1 = some (.lst ((hookN (1 + n1)).map V.str)) := t8 _ _ ha1p h5a
      have hfx8 : DictE K H8 frD pf fs := hfx.pool td_fr (hp4.same s5) t8
      have t08 : SX p H H8 := (((((t1.trans (sx_same s2)).trans t3).trans t4).trans (sx_same s5))).trans t8
      have t04 : SX p H H4 := ((t1.trans (sx_same s2)).trans t3).trans t4
      have t05 : SX p H H5 := t04.trans (sx_same s5)
      have hf0 : H pf = none := free_sx t04 hp4 fpf
      have hr0 : H pr = none := free_sx t05 (hp4.same s5) fpr
      have hfr : pf ≠ pr := by
        obtain ⟨kf, hkf, _⟩ := id hfx
        exact ne_of_none hkf fpr
      have hpr8 : ∃ kr, H8 pr = some (.dK kr) := let ⟨kr, hkr, _⟩ := he; ⟨kr, hkr⟩
      have hnr : ∀ {H' : Hp} {L : Addr}, SX p H8 H' → H' L = none → L ≠ pr := fun t f => by
        obtain ⟨kr, hkr⟩ := hpr8
        exact Ne.symm (ne_of_none (t _ _ hppr hkr) f)
      have fin : ∀ (L : Addr) (ls : List (Str × (Int × Int))) (H9 : Hp), SX p H8 H9 → PoolAt H9 p → DictE K H9 frD L ls → ls.map (·.1) = hookN (1 + n1) → (∀ e ∈ ls, ldOk e.2 = true) → H L = none → L ≠ pr → ∀ q1, H9 q1 = none → Q (.ref q1) (upd H9 q1 (.lst [.ref L, .ref pr, .ref pf])) := by
        intro L ls H9 t9 hp9 hL hlk hlo hL0 hLr q1 g1
        have s9 : Same H9 (upd H9 q1 (.lst [.ref L, .ref pr, .ref pf])) := same_upd_fresh g1 (Same.refl _)
        have t09 := t08.trans t9
        refine q q1 ⟨ls, es, fs⟩ _ ?_ (fun b o hb h => s9 _ _ (t09 b o hb h)) (hp9.same s9) ⟨L, pr, pf, upd_same, hL.same s9 np_fr, (he.pool td_rope hp8 t9).same s9 np_rope, (hfx8.pool td_fr hp8 t9).same s9 np_fr⟩ ⟨L, pr, pf, upd_same, hL0, hr0, hf0, hLr, hfr⟩ (given_ok hlk hlo hfk hfo hek2 heo) ⟨?_, ?_⟩ ⟨n3, hek2⟩
        · cases hq : H q1 with
          | none => rfl
          | some o =>
            rw [t09 q1 o (hp9.ne g1) hq] at g1
            cases g1
        · show _ ∈ ls.map (·.1) ++ fs.map (·.1)
          rw [hlk]
          exact List.mem_append_left _ (hook_a _)
        · show _ ∈ ls.map (·.1) ++ fs.map (·.1)
          rw [hfk]
          exact List.mem_append_right _ (fix_P _)
      clear q
      walk_at "w"
      refine ⟨⟨_, SqL.of h8a⟩, fun D2 hD2 => ?_⟩
      refine lc_it walk_list (PA_ K p H8 D2 frD (hookN (1 + n1)) (fun f => ldOk f = true)) (pa_0 hp8 hD2) (fun i H' _ pv => SqL.of (pv.1 _ _ ha1p h8a)) (fun i y H9' H9 hi pv yy => ?_) (fun H9 pv => ?_)
      · obtain ⟨rfl, hy⟩ := yy
        obtain ⟨z, hz, rfl⟩ := at_strs hy
        walk_at "w"
        refine ⟨rfl, ?_⟩
        walk_at "w"
        refine ⟨p, rfl, pv.2.1, fun y f H10 t10 hp10 d10 b10 l10 => ?_⟩
        walk_at "w"
        exact ⟨by show 2 ≤ sizeLine; decide, fun p6 f6 => pa_turn td_fr hz (hook_len _) hp8 hD2 pv t10 hp10 d10 l10 f6⟩
      obtain ⟨t9, hp9, acc⟩ := pv
      rw [List.length_map] at acc
      obtain ⟨ps9, kvs9, hl9, hpp9, hx9⟩ := acc_dict td_fr (hook_nd _) acc
      walk_at "w"
      refine ⟨D2, ps9, kvs9, rfl, hl9, hpp9, fun pl fpl => ?_⟩
      obtain ⟨ls, s10, hls, hlk, hlo⟩ := hx9 pl fpl
      generalize upd H9 pl (.dK (mergeK [] kvs9)) = H10 at s10 hls ⊢
      have t10 : SX p H8 H10 := t9.trans (sx_same s10)
      have hp10 := hp9.same s10
      walk_at "w"
      refine ⟨p, 3, rfl, hp10, by decide, by decide, fun n4 H11 hn4 t11 hp11 => ?_⟩
      have t811 := t10.trans t11
      have hls11 : DictE K H11 frD pl ls := hls.pool td_fr hp10 t11
      walk_at "w"
      refine ite2 (fun hc => ?_) (fun hc => ?_)
      · clear hc
        obtain ⟨kr, hkr, dkr⟩ := he.pool td_rope hp8 t811
        walk_at "w"
        refine w_lockE hkr True.intro fun od => ?_
        generalize hH12 : upd H11 pr (.frz od (.dK kr)) = H12
        have hr12 : H12 pr = some (.frz od (.dK kr)) := by rw [← hH12]; exact upd_same
        have hp12 : PoolAt H12 p := hH12 ▸ hp11.upd hppr
        walk_at "w"
        refine ⟨pr, od, rfl, .inl ⟨kr, hr12, fun D3 hD3 => ?_⟩⟩
        refine lc_it walk_keys (PA_ K p H12 D3 frD (ropeN n3) (fun f => FrB 16 f)) (pa_0 hp12 hD3) (fun i H' _ pv => pv.1 _ _ hppr hr12) (fun i y H13' H13 hi pv yy => ?_) (fun H13 pv => ?_)
        · obtain ⟨rfl, k, v, hkv, rfl⟩ := yy
          have hks : (kr.map (·.1))[i]? = some k := by rw [List.getElem?_map, hkv]; rfl
          rw [dkr.keys, hek2, List.getElem?_map] at hks
          obtain ⟨n, hn, rfl⟩ : ∃ n, (ropeN n3)[i]? = some n ∧ k = .inr n := by
            cases hk : (ropeN n3)[i]? with
            | none => rw [hk] at hks; cases hks
            | some n => rw [hk] at hks; exact ⟨n, rfl, (Option.some.inj hks).symm⟩
          walk_at "w"
          refine ⟨rfl, ?_⟩
          walk_at "w"
          refine ⟨p, rfl, pv.2.1, fun y f H14 t14 hp14 d14 b14 l14 => ?_⟩
          walk_at "w"
          exact ⟨by show 2 ≤ sizeLine; decide, fun p6 f6 => pa_turn td_fr hn (Nat.le_trans (rope_len' _) (by decide)) hp12 hD3 pv t14 hp14 d14 b14 f6⟩
        obtain ⟨t13, hp13, acc⟩ := pv
        have hkl : kr.length = (ropeN n3).length := by
          have := congrArg List.length dkr.keys
          rw [List.length_map, List.length_map, hek2] at this
          exact this
        rw [hkl] at acc
        rw [← hH12] at t13
        obtain ⟨u1, u2⟩ := sx_unlock hkr hppr t13
        refine ⟨u1, ?_⟩
        have hDpr : D3 ≠ pr := fun e => by rw [e, hr12] at hD3; cases hD3
        have acc2 : Acc K (upd H13 pr (.dK kr)) D3 frD (ropeN n3) (fun f => FrB 16 f) (ropeN n3).length := acc.tk (tk_updK (.inr ⟨od, u1⟩)) (fun o h => by rw [upd_ne hDpr]; exact h) td_fr
        have hp14 : PoolAt (upd H13 pr (.dK kr)) p := hp13.upd hppr
        generalize upd H13 pr (.dK kr) = H14 at u2 acc2 hp14 ⊢
        obtain ⟨ps14, kvs14, hl14, hpp14, hx14⟩ := acc_dict td_fr (rope_nd _) acc2
        walk_at "w"
        refine ⟨D3, ps14, kvs14, rfl, hl14, hpp14, fun pu fpu => ?_⟩
        obtain ⟨us, s15, hus, huk, huo⟩ := hx14 pu fpu
        generalize upd H14 pu (.dK (mergeK [] kvs14)) = H15 at s15 hus ⊢
        have t15 : SX p H8 H15 := (t811.trans u2).trans (sx_same s15)
        have hp15 := hp14.same s15
        walk_at "w"
        have h15a : H15 a1 = some (.lst ((hookN (1 + n1)).map V.str)) := t15 _ _ ha1p h8a
        refine ⟨⟨_, SqL.of h15a⟩, fun D4 hD4 => ?_⟩
        have hro15 : DictE K H15 ropeD pr es := he.pool td_rope hp8 t15
        refine lc_it walk_list (PA_ K p H15 D4 frD (hookN (1 + n1)) (fun f => frOk' f = true)) (pa_0 hp15 hD4) (fun i H' _ pv => SqL.of (pv.1 _ _ ha1p h15a)) (fun i y H16' H16 hi pv yy => ?_) (fun H16 pv => ?_)
        · obtain ⟨rfl, hy⟩ := yy
          obtain ⟨z, hz, rfl⟩ := at_strs hy
          walk_at "w"
          refine ⟨rfl, ?_⟩
          walk_at "w"
          refine ⟨pr, pu, z, es, us, rfl, hro15.pool td_rope hp15 pv.1, hus.pool td_fr hp15 pv.1, fun e he => ⟨(heo e he).mk, ?_⟩, huo, ?_, fun y f H17 s17 d17 o17 => ?_⟩
          · rw [hasA_iff, huk, ← hek2]
            exact List.mem_map.mpr ⟨e, he, rfl⟩
          · have := congrArg List.length hek2
            rw [List.length_map] at this
            have := rope_len' n3
            omega
          walk_at "w"
          exact ⟨by show 2 ≤ sizeLine; decide, fun p6 f6 => pa_turn td_fr hz (hook_len _) hp15 hD4 pv (sx_same s17) (pv.2.1.same s17) d17 o17 f6⟩
        obtain ⟨t16, hp16, acc⟩ := pv
        rw [List.length_map] at acc
        obtain ⟨ps16, kvs16, hl16, hpp16, hx16⟩ := acc_dict td_fr (hook_nd _) acc
        walk_at "w"
        refine ⟨D4, ps16, kvs16, rfl, hl16, hpp16, fun pc fpc => ?_⟩
        obtain ⟨cs, s17, hcs, hck, hco⟩ := hx16 pc fpc
        generalize upd H16 pc (.dK (mergeK [] kvs16)) = H17 at s17 hcs ⊢
        have t17 : SX p H8 H17 := (t15.trans t16).trans (sx_same s17)
        have hp17 := hp16.same s17
        obtain ⟨kc, hkc, dkc⟩ := id hcs
        have hcl : kc.length = cs.length := dkc.length
        have hcl2 : cs.length = (hookN (1 + n1)).length := by rw [← hck, List.length_map]
        walk_at "w"
        refine w_lockE hkc True.intro fun od2 => ?_
        generalize hH18 : upd H17 pc (.frz od2 (.dK kc)) = H18
        have hc18 : H18 pc = some (.frz od2 (.dK kc)) := by rw [← hH18]; exact upd_same
        walk_at "w"
        refine w_ivals ?_
        walk_at "w"
        refine ⟨pc, od2, kc, rfl, hc18, fun D5 hD5 => ?_⟩
        refine lc_it walk_values (fun i H' => Same H18 H' ∧ H' D5 = some (.lst (((cs.map (·.2.1)).take i).map V.int))) ⟨same_upd_fresh hD5 (Same.refl _), upd_same⟩ (fun i H' _ pv => pv.1 _ _ hc18) (fun i y H19' H19 hi pv yy => ?_) (fun H19 pv => ?_)
        · obtain ⟨rfl, k, hkv⟩ := yy
          obtain ⟨s19, hD19⟩ := pv
          have hic : i < cs.length := by omega
          have hci : cs[i]? = some (cs[i]'hic) := List.getElem?_eq_getElem _
          obtain ⟨v2, hv, dv⟩ := dkc.at_ hci
          rw [hkv] at hv
          obtain rfl : y = v2 := by cases hv; rfl
          obtain ⟨ya, rfl, sy⟩ := dp_fr_inv dv
          have sy19 : SqT K H19 ya [.int (cs[i]'hic).2.1, .int (cs[i]'hic).2.2] := sqT_tk ((hH18 ▸ tk_updK (.inl hkc) : TK H17 H18).trans (tk_same s19)) sy
          walk_at "w"
          refine ⟨rfl, ?_⟩
          walk_at "w"
          refine ⟨_, hD19, ?_, same_upd_fresh hD5 s19, ?_⟩
          · rw [List.length_map, List.length_take, List.length_map]
            have : (1000 : Nat) < sizeLine := by decide
            have := hook_len (1 + n1)
            omega
          · rw [upd_same, List.take_add_one, List.getElem?_map, hci, List.map_append]
            rfl
        obtain ⟨s19, hD19⟩ := pv
        rw [← hH18] at s19
        obtain ⟨v1, v2⟩ := same_unlock hkc True.intro s19
        refine ⟨v1, ?_⟩
        have hDpc : D5 ≠ pc := fun e => by rw [e, hc18] at hD5; cases hD5
        have hD20 : upd H19 pc (.dK kc) D5 = some (.lst ((cs.map (·.2.1)).map V.int)) := by
          rw [upd_ne hDpc, hD19, hcl, List.take_of_length_le (by rw [List.length_map]; exact Nat.le_refl _)]
        generalize upd H19 pc (.dK kc) = H20 at v2 hD20 ⊢
        have t20 : SX p H8 H20 := t17.trans (sx_same v2)
        have hp20 := hp17.same v2
        walk_at "w"
        refine ⟨D5, cs.map (·.2.1), rfl, SqL.of hD20, by rw [List.length_map, hcl2]; exact hook_pos _, fun m hm hle => ?_⟩
        walk_at "w"
        refine ite2 (fun hc => ?_) (fun hc => ?_)
        · walk_at "w"
          refine ⟨by show 3 ≤ sizeLine; decide, fin pc cs H20 t20 hp20 (hcs.same v2 np_fr) hck (fun e he => ld_of (hco e he) ?_) (free_sx (t08.trans (t15.trans t16)) hp16 fpc) (hnr (t15.trans t16) fpc)⟩
          have := hle e.2.1 (List.mem_map.mpr ⟨e, he, rfl⟩)
          have := of_decide_eq_true hc
          omega
        · walk_at "w"
          exact ⟨by show 3 ≤ sizeLine; decide, fin pl ls H20 t20 hp20 (((hls11.pool td_fr hp11 u2).same s15 np_fr |>.pool td_fr hp15 t16).same (s17.trans v2) np_fr) hlk hlo (free_sx (t08.trans t9) hp9 fpl) (hnr t9 fpl)⟩
      · walk_at "w"
        exact ⟨by show 3 ≤ sizeLine; decide, fin pl ls H11 t811 hp11 hls11 hlk hlo (free_sx (t08.trans t9) hp9 fpl) (hnr t9 fpl)⟩
end
end PW

/-! ##### EA -/
set_option Elab.async false
set_option linter.all false
set_option maxRecDepth 100000
set_option maxHeartbeats 2000000
namespace PW
open PySem PySem.Spec PyProof.Rows L2 He PWL

open PWW
/-! ### == of works and workshops: facts -/
theorem room65 {A : Around} {k : Nat} (hr : Room k A) : A.units + 65 < cLine := by have := hr.un; omega
structure Cn3 (P : Program) (K : PySem.W.Frag) (mg : Str → Option Value) : Prop extends Cn2 P K mg where
  wEq : Meth K (ga K "Work") "__eq__" (ma K (ga K "Work") "__eq__")
  sEq : Meth K (ga K "Workshop") "__eq__" (ma K (ga K "Workshop") "__eq__")
  wNe : neIn K (ga K "Work") (ma K (ga K "Work") "__eq__") = true
  sNe : neIn K (ga K "Workshop") (ma K (ga K "Workshop") "__eq__") = true
/-! data that can be compared -/
def Sh (n : Nat) (d : PyData) : Prop := d.canLay0 = true ∧ d.depth ≤ n
theorem Sh.ok {n : Nat} {d : PyData} (h : Sh n d) (hn : n ≤ 64) : SeqAt.shaped d = true := by
  unfold SeqAt.shaped
  rw [h.1, decide_eq_true (Nat.le_trans h.2 hn)]
  rfl
theorem Sh.mono {n m : Nat} {d : PyData} (h : Sh n d) (hm : n ≤ m) : Sh m d := ⟨h.1, Nat.le_trans h.2 hm⟩
theorem sh_all : ∀ {ds : List PyData} {n : Nat}, (∀ d ∈ ds, Sh n d) → PyData.canLayAll0 ds = true ∧ PyData.depthAll ds ≤ n
  | [], n, _ => ⟨by rw [PyData.canLayAll0], by rw [PyData.depthAll]; exact Nat.zero_le _⟩
  | d :: ds, n, h => by
    obtain ⟨a, b⟩ := sh_all fun e he => h e (List.mem_cons_of_mem _ he)
    obtain ⟨c, e⟩ := h d List.mem_cons_self
    exact ⟨by rw [PyData.canLayAll0, a, c]; rfl, by rw [PyData.depthAll]; exact Nat.max_le.mpr ⟨e, b⟩⟩
theorem sh_tup {ds : List PyData} {n : Nat} (h : ∀ d ∈ ds, Sh n d) : Sh (n + 1) (.tuple ds) := by
  obtain ⟨a, b⟩ := sh_all h
  exact ⟨by rw [PyData.canLay0]; exact a, by rw [PyData.depth]; omega⟩
theorem sh_lst {ds : List PyData} {n : Nat} (h : ∀ d ∈ ds, Sh n d) : Sh (n + 1) (.list ds) := by
  obtain ⟨a, b⟩ := sh_all h
  exact ⟨by rw [PyData.canLay0]; exact a, by rw [PyData.depth]; omega⟩
theorem sh_int (i : Int) : Sh 0 (.int i) := ⟨by rw [PyData.canLay0], by rw [PyData.depth]; exact Nat.le_refl _⟩
theorem sh_non : Sh 0 .none := ⟨by rw [PyData.canLay0], by rw [PyData.depth]; exact Nat.le_refl _⟩
theorem sh_str {z : Str} (h : PyData.strOk z = true) : Sh 0 (.str z) := ⟨by rw [PyData.canLay0]; exact h, by rw [PyData.depth]; exact Nat.le_refl _⟩
theorem sh_fr (f : Int × Int) : Sh 1 (frD f) := sh_tup fun d hd => by
  rcases List.mem_cons.mp hd with rfl | hd
  · exact sh_int _
  · rw [List.mem_singleton.mp hd]; exact sh_int _
theorem sh_strs {p : List Str} (h : ∀ z ∈ p, PyData.strOk z = true) : ∀ d ∈ p.map PyData.str, Sh 0 d := fun d hd => by
  obtain ⟨z, hz, rfl⟩ := List.mem_map.mp hd
  exact sh_str (h z hz)
theorem sh_path {p : List Str} (h : ∀ z ∈ p, PyData.strOk z = true) : Sh 1 (pathD p) := sh_tup (sh_strs h)
theorem sh_rope {r : Rope} (h : ∀ z ∈ r.1, PyData.strOk z = true) : Sh 2 (ropeD r) := sh_tup fun d hd => by
  rcases List.mem_cons.mp hd with rfl | hd
  · exact sh_path h
  · rw [List.mem_singleton.mp hd]; exact sh_fr _
theorem eqv_sh {n : Nat} {d : PyData} (h : Sh n d) : PyData.eqv d d = true := SeqAt.eqv_refl d h.1
theorem strOk_word {z l : Str} (hl : ∀ c ∈ l.cps.toList, c < 1114112) (h : wordOk z l = true) : PyData.strOk z = true := by
  unfold wordOk at h
  rw [Bool.and_eq_true, Bool.and_eq_true, List.all_eq_true] at h
  unfold PyData.strOk
  rw [Array.all_eq_true]
  intro i hi
  have := h.2.2 (z.cps[i]) (by rw [Array.mem_toList_iff]; exact Array.getElem_mem hi)
  exact decide_eq_true (hl _ (of_decide_eq_true this))
theorem strOk_small {z : Str} (h : wordOk z SMALL = true) : PyData.strOk z = true := strOk_word (l := SMALL) (by decide +kernel) h
theorem strOk_great {z : Str} (h : wordOk z GREAT = true) : PyData.strOk z = true := strOk_word (l := GREAT) (by decide +kernel) h
theorem every2_mem {α : Type} {x : α} : ∀ {xs : List α}, x ∈ xs → x ∈ every2 xs ∨ x ∈ every2 (xs.drop 1)
  | [_], h => .inl h
  | [a, b], h => by
    rcases List.mem_cons.mp h with rfl | h
    · exact .inl List.mem_cons_self
    · exact .inr h
  | a :: b :: c :: r, h => by
    rcases List.mem_cons.mp h with rfl | h
    · exact .inl List.mem_cons_self
    rcases List.mem_cons.mp h with rfl | h
    · exact .inr List.mem_cons_self
    rcases every2_mem h with h | h
    · exact .inl (List.mem_cons_of_mem _ h)
    · exact .inr (List.mem_cons_of_mem _ h)
theorem GOk.ptsOk {g : Giv} (G : GOk g) : ∀ z ∈ g.pts, PyData.strOk z = true := fun z hz => by
  rcases List.mem_append.mp hz with h | h
  · obtain ⟨e, he, rfl⟩ := List.mem_map.mp h
    exact strOk_small (G.lw e he).1
  · obtain ⟨e, he, rfl⟩ := List.mem_map.mp h
    exact strOk_great (G.fw e he).1
theorem GOk.shr {g : Giv} (G : GOk g) : ∀ e ∈ g.ropes, Sh 2 (ropeD e.2) := fun e he => sh_rope fun z hz => by
  have h := (G.rw_ e he).2.1
  unfold pathOk at h
  simp only [Bool.and_eq_true, List.all_eq_true, decide_eq_true_eq] at h
  rcases every2_mem hz with hz | hz
  · exact G.ptsOk _ (h.2.2.2.1 z hz)
  · have := h.2.2.2.2 z hz
    unfold isDir at this
    rw [Bool.or_eq_true, decide_eq_true_eq, decide_eq_true_eq] at this
    rcases this with rfl | rfl <;> decide +kernel
/-! dicts of data compared -/
section
variable {X : Cx} {pins : List (Addr × Obj)} {σ : L2.St} {H : Hp} {s : Shared}
theorem hits_dat (I : Inv X pins σ H s) {A : Around} (hu : A.in1.units + 64 < cLine) {kb : List (Key × V)} {vb : List (Key × Value)} (rb : KV kb vb) {ka : List (Key × V)} {va : List (Key × Value)} (ra : KV ka va) :
    (∀ p ∈ ka, ∃ u d, valV kb p.1 = some u ∧ Dp X.K H p.2 d ∧ Dp X.K H u d ∧ SeqAt.shaped d = true) → PySem.W.KeqHits A.in1 s vb va true := by
  unfold KV at ra
  induction ra with
  | nil => intro _; exact .nil
  | @cons p q ps qs h t k =>
    intro hp
    obtain ⟨h1, h2⟩ := h
    obtain ⟨u, d, e, dx, dy, sd⟩ := hp p List.mem_cons_self
    have rr : RelO (some u) (PySem.valueAt vb p.1) := by rw [← e]; exact rb.val p.1
    obtain ⟨y, hy, ry⟩ := rr.some_of
    obtain ⟨key, v⟩ := q
    have h1' : p.1 = key := h1
    rw [h1'] at hy
    obtain ⟨as, r1⟩ := Dp.reads I d _ v dx h2
    obtain ⟨bs, r2⟩ := Dp.reads I d _ y dy ry
    have hit := PySem.W.keq_at (A := A) r1 r2 sd sd hu
    rw [SeqAt.eqv_refl d (SeqAt.canLay_of_shaped sd)] at hit
    show PySem.W.KeqHits A.in1 s vb ((key, v) :: qs) (true && true)
    exact .hit hy hit (k fun p' hm => hp p' (List.mem_cons_of_mem _ hm))
/-- two dicts of the same data -/
def DatEq (K : PySem.W.Frag) (x y : V) (H : Hp) : Prop := ∃ a b ka kb, x = .ref a ∧ y = .ref b ∧ Rd H a (.dK ka) ∧ Rd H b (.dK kb) ∧ ka.length = kb.length ∧ ∀ p ∈ ka, ∃ u d, valV kb p.1 = some u ∧ Dp K H p.2 d ∧ Dp K H u d ∧ SeqAt.shaped d = true
def rEqDat (K : PySem.W.Frag) : R2 := fun x y H Q => DatEq K x y H ∧ Q (.bl true) H
def rNeDat (K : PySem.W.Frag) : R2 := fun x y H Q => DatEq K x y H ∧ Q (.bl false) H
theorem obj_rd (I : Inv X pins σ H s) {a : Addr} {ka : List (Key × V)} (h : Rd H a (.dK ka)) : ObjOk X.prog X.w H s.heap a (.dK ka) := by
  rcases h with h | ⟨o, h⟩
  · exact I.hok a _ h
  · exact (show ObjOk X.prog X.w H s.heap a (.frz o (.dK ka)) from I.hok a _ h).2
theorem op_eqDat (hu : X.A.units + 65 < cLine) : OpR X (compareOp .Eq) (rEqDat X.K) := by
  intro pins s σ H x y v u Q I rx ry h
  obtain ⟨⟨a, b, ks, ls, rfl, rfl, ea, eb, hlen, hp⟩, q⟩ := h
  obtain rfl : v = Value.ref a := rx
  obtain rfl : u = Value.ref b := ry
  obtain ⟨_, ya, va, ra, da⟩ := obj_rd I ea
  obtain ⟨_, yb, vb, rb, db⟩ := obj_rd I eb
  have hl : va.length = vb.length := by rw [← ra.length, ← rb.length]; exact hlen
  refine PySem.W.keq_eq (knd := mixKind X.prog X.w) (r := true) ya yb da db (by omega) (fun _ => hits_dat I (by show X.A.units + 1 + 64 < cLine; omega) rb ra hp) ⟨.bl true, H, I, ?_, q⟩
  rw [show (va.length == vb.length && true) = true from by rw [hl]; simp]
  rfl
theorem op_neDat (hu : X.A.units + 65 < cLine) : OpR X (compareOp .NotEq) (rNeDat X.K) := by
  intro pins s σ H x y v u Q I rx ry h
  obtain ⟨⟨a, b, ks, ls, rfl, rfl, ea, eb, hlen, hp⟩, q⟩ := h
  obtain rfl : v = Value.ref a := rx
  obtain rfl : u = Value.ref b := ry
  obtain ⟨_, ya, va, ra, da⟩ := obj_rd I ea
  obtain ⟨_, yb, vb, rb, db⟩ := obj_rd I eb
  have hl : va.length = vb.length := by rw [← ra.length, ← rb.length]; exact hlen
  refine PySem.W.keq_ne (knd := mixKind X.prog X.w) (r := true) ya yb da db (by omega) (fun _ => hits_dat I (by show X.A.units + 1 + 64 < cLine; omega) rb ra hp) ⟨.bl false, H, I, ?_, q⟩
  rw [show (!(va.length == vb.length && true)) = false from by rw [hl]; simp]
  rfl
end
/-! works whose dicts may be locked -/
def DictR {α : Type} (K : PySem.W.Frag) (H : Hp) (f : α → PyData) (a : Addr) (es : List (Str × α)) : Prop := ∃ kvs, Rd H a (.dK kvs) ∧ DatK K H f kvs es
def WorkRd (K : PySem.W.Frag) (H : Hp) (v : V) (g : Giv) : Prop := ∃ a dx l h r ls hs rs, v = .ref a ∧ H a = some (.ins (ga K "Work") dx (wkFs l h r)) ∧ DictR K H frD l ls ∧ ls.Perm g.loads ∧ DictR K H frD h hs ∧ hs.Perm g.fixed ∧ DictR K H ropeD r rs ∧ rs.Perm g.ropes
section
variable {α : Type} {K : PySem.W.Frag} {H H' : Hp} {f : α → PyData} {a d : Addr} {es fs : List (Str × α)} {kvs : List (Key × V)} {v : V} {g : Giv} {od : Obj}
theorem DictR.same (e : Same H H') (hn : ∀ d, TD (f d)) (h : DictR K H f a es) : DictR K H' f a es := let ⟨kvs, h1, h2⟩ := h; ⟨kvs, rd_same e h1, h2.tk (tk_same e) hn⟩
theorem DictR.lock (hd : H d = some (.dK kvs)) (hn : ∀ d, TD (f d)) (h : DictR K H f a es) : DictR K (upd H d (.frz od (.dK kvs))) f a es := by
  obtain ⟨ka, h1, h2⟩ := h
  refine ⟨ka, ?_, h2.tk (tk_updK (.inl hd)) hn⟩
  by_cases e : a = d
  · subst e
    rcases h1 with h1 | ⟨o, h1⟩
    · rw [hd] at h1
      cases h1
      exact .inr ⟨od, upd_same⟩
    · rw [hd] at h1
      cases h1
  · exact h1.elim (fun h => .inl (by rw [upd_ne e]; exact h)) fun ⟨o, h⟩ => .inr ⟨o, by rw [upd_ne e]; exact h⟩
theorem WorkRd.same (e : Same H H') (h : WorkRd K H v g) : WorkRd K H' v g := by
  obtain ⟨a, dx, l, hh, r, ls, hs, rs, h1, h2, h3, h4, h5, h6, h7, h8⟩ := h
  exact ⟨a, dx, l, hh, r, ls, hs, rs, h1, e _ _ h2, h3.same e td_fr, h4, h5.same e td_fr, h6, h7.same e td_rope, h8⟩
theorem WorkRd.lock (hd : H d = some (.dK kvs)) (h : WorkRd K H v g) : WorkRd K (upd H d (.frz od (.dK kvs))) v g := by
  obtain ⟨a, dx, l, hh, r, ls, hs, rs, h1, h2, h3, h4, h5, h6, h7, h8⟩ := h
  refine ⟨a, dx, l, hh, r, ls, hs, rs, h1, ?_, h3.lock hd td_fr, h4, h5.lock hd td_fr, h6, h7.lock hd td_rope, h8⟩
  rw [upd_ne (fun e => by rw [e, hd] at h2; cases h2)]
  exact h2
theorem WorkAt.rd (h : WorkAt K H v g) : WorkRd K H v g := by
  obtain ⟨a, dx, l, hh, r, ls, hs, rs, h1, h2, ⟨k3, h3, h3'⟩, h4, ⟨k5, h5, h5'⟩, h6, ⟨k7, h7, h7'⟩, h8⟩ := h
  exact ⟨a, dx, l, hh, r, ls, hs, rs, h1, h2, ⟨k3, .inl h3, h3'⟩, h4, ⟨k5, .inl h5, h5'⟩, h6, ⟨k7, .inl h7, h7'⟩, h8⟩
theorem getA_nodup {es : List (Str × α)} {n : Str} {d : α} (hn : (es.map (·.1)).Nodup) (h : (n, d) ∈ es) : getA es n = some d := by
  unfold getA
  induction es with
  | nil => cases h
  | cons e t ih =>
    rw [List.map_cons, List.nodup_cons] at hn
    by_cases he : e.1 = n
    · rw [List.find?_cons, decide_eq_true he]
      rcases List.mem_cons.mp h with h | h
      · rw [← h]; rfl
      · exact absurd (List.mem_map.mpr ⟨_, h, he.symm⟩) hn.1
    · rw [List.find?_cons, decide_eq_false he]
      rcases List.mem_cons.mp h with h | h
      · rw [← h] at he; exact absurd rfl he
      · exact ih hn.2 h
theorem datEq_of {a b : Addr} {es fs gs : List (Str × α)} (h1 : DictR K H f a es) (p1 : es.Perm gs) (h2 : DictR K H f b fs) (p2 : fs.Perm gs) (hn : (gs.map (·.1)).Nodup) {n : Nat} (hs : ∀ e ∈ gs, Sh n (f e.2)) (hz : n ≤ 64) : DatEq K (.ref a) (.ref b) H := by
  obtain ⟨ka, ha, da⟩ := h1
  obtain ⟨kb, hb, db⟩ := h2
  refine ⟨a, b, ka, kb, rfl, rfl, ha, hb, by rw [da.length, db.length]; exact (p1.trans p2.symm).length_eq, fun p hp => ?_⟩
  have key : ∀ {ks : List (Key × V)} {es : List (Str × α)}, DatK K H f ks es → ∀ p ∈ ks, ∃ e ∈ es, p.1 = .inr e.1 ∧ Dp K H p.2 (f e.2) := by
    intro ks es h
    unfold DatK at h
    induction h with
    | nil => intro p hp; cases hp
    | @cons p q ks es h t ih =>
      intro x hx
      rcases List.mem_cons.mp hx with rfl | hx
      · exact ⟨q, List.mem_cons_self, h.1, h.2⟩
      · obtain ⟨e, he, h3⟩ := ih x hx
        exact ⟨e, List.mem_cons_of_mem _ he, h3⟩
  obtain ⟨e, he, ek, dv⟩ := key da p hp
  have hg := p1.mem_iff.mp he
  have hf := p2.mem_iff.mpr hg
  have hfn : (fs.map (·.1)).Nodup := ((p2.map (·.1)).nodup_iff).mpr hn
  have hget : getA fs e.1 = some e.2 := getA_nodup hfn hf
  have hv := db.val e.1
  rw [hget] at hv
  obtain ⟨u, hu, du⟩ := hv
  exact ⟨u, f e.2, by rw [ek]; exact hu, dv, du, (hs e hg).ok hz⟩
end
/-! ### the two own __eq__ -/
def spWEq (K : PySem.W.Frag) : Sp := fun vs H Q _ => ∃ (a b : Addr) (g : Giv), vs = [.ref a, .ref b] ∧ WorkRd K H (.ref a) g ∧ WorkRd K H (.ref b) g ∧ GOk g ∧ Q (.bl true) H
local macro_rules | `(tactic| walk_at "w") => `(tactic| (repeat (first | with_reducible refine w_seq ?_ | with_reducible refine w_ret ?_ | with_reducible refine w_asg ?_ | with_reducible refine w_ifs ?_ | with_reducible refine w_drop ?_ | with_reducible refine w_next ?_ | with_reducible refine w_cont ?_ | with_reducible refine w_par ?_ | with_reducible refine w_par3 ?_ | with_reducible refine w_three ?_ | with_reducible refine w_two ?_ | with_reducible refine w_name ?_ | with_reducible refine w_c ?_ | with_reducible refine w_op ?_ | with_reducible refine w_un ?_ | with_reducible refine w_cb ?_ | with_reducible refine w_cons ?_ | with_reducible refine w_nil ?_ | with_reducible refine w_tup ?_ | with_reducible refine w_lst ?_ | with_reducible refine w_test ?_ | with_reducible refine w_B ?_ | with_reducible refine w_k ?_ | with_reducible refine w_ki ?_ | with_reducible refine w_and ?_ | with_reducible refine w_or ?_ | with_reducible refine w_not ?_ | with_reducible refine w_andV ?_ | with_reducible refine w_orV ?_ | with_reducible refine w_notV ?_ | with_reducible refine w_if ?_ | with_reducible refine w_yes ?_ | with_reducible refine w_isN ?_ | with_reducible refine w_chain ?_ | with_reducible refine w_sl ?_ | with_reducible refine w_noPart ?_ | with_reducible refine w_part ?_ | with_reducible refine w_fld ?_ | with_reducible refine w_dget ?_ | with_reducible refine w_din ?_ | with_reducible refine w_dnotin ?_ | with_reducible refine w_dput ?_ | with_reducible refine w_newK ?_ | with_reducible refine w_sfld ?_ | with_reducible refine w_methR ?_ | with_reducible refine w_propR ?_ | with_reducible refine w_sl2 ?_ | with_reducible refine w_star ?_ | with_reducible refine w_retN ?_ | with_reducible refine w_gcons ?_ | with_reducible refine w_gnil ?_ | with_reducible refine r_i0 ?_ | with_reducible refine r_u ?_ | with_reducible refine r_eqi ?_ | with_reducible refine r_nei ?_ | with_reducible refine r_eqs ?_ | with_reducible refine r_nes ?_ | with_reducible refine iteT ?_ | with_reducible refine iteF ?_ | with_reducible refine w_lc ?_ | with_reducible refine w_dc ?_ | with_reducible refine w_for ?_ | with_reducible refine w_istr ?_ | with_reducible refine w_ilist ?_ | with_reducible refine w_itup ?_ | with_reducible refine w_irng1 ?_ | with_reducible refine w_irng2 ?_ | with_reducible refine w_ienum ?_ | with_reducible refine w_iitems ?_ | with_reducible refine w_ikeysT ?_ | with_reducible refine w_makeK ?_ | with_reducible refine w_methSN ?_ | with_reducible refine w_makeR ?_ | with_reducible refine w_callR ?_ | with_reducible refine w_dmerge ?_ | with_reducible refine w_ks ?_ | with_reducible refine w_kr ?_ | with_reducible refine isi_int_int ?_ | with_reducible refine isi_int_bool ?_ | with_reducible refine isi_str_str ?_ | with_reducible refine w_1i ?_ | with_reducible refine w_nn ?_ | with_reducible refine w_int_i ?_ | with_reducible refine w_int_b ?_ | ((with_reducible apply w_var); rfl) | ((with_reducible apply r_ixT); assumption; rfl) | ((with_reducible apply r_ixL); assumption; rfl) | ((with_reducible apply isi_tup_tup); assumption) | ((with_reducible apply isi_dict_dict); assumption) | ((with_reducible apply r_lenD); assumption) | ((with_reducible apply r_lenT); assumption) | ((with_reducible apply r_lenL); assumption) | ((with_reducible refine r_all (SqL.of ?_) ?_); assumption) | ((with_reducible apply r_fld); assumption; exact Cn.cls (by assumption) _; exact Cn.noat (by assumption) _ _; first | rfl | assumption) | ((with_reducible apply ite_t); rfl) | ((with_reducible apply ite_f); rfl))))
section
variable {P : Program} {w : World} {K : PySem.W.Frag} {mg : Str → Option Value} {base : Heap}
theorem F_Work___eq__ (C : Cn P K mg) : FnR P w K mg base (L2.CX P w) 1 (ma K (ga K "Work") "__eq__") (spWEq K) := by
  obtain ⟨fd, F⟩ := C.d_Work___eq__
  have sc : FnScope ["self", "other"] ["self", "other"] (defScope (inClass (top 37) 18)) := ⟨rfl, rfl, rfl, by decide +kernel, rfl, by decide +kernel, by decide +kernel⟩
  refine fnR_nox F sc ?len (fun _ _ _ _ _ _ us hl => match us, hl with | [_, _], _ => rfl) ?body
  case len => exact fun vs H Q E h => by obtain ⟨_, _, _, rfl, _⟩ := h; rfl
  case body =>
    intro cdv A outer s H vs Q E hr h0
    obtain ⟨a, b, g, rfl, h1, h2, G, q⟩ := h0
    obtain ⟨_, dx, l1, h1', r1, ls1, hs1, rs1, rfl', ha, hl1, pl1, hh1, ph1, hr1, pr1⟩ := h1
    cases rfl'
    obtain ⟨_, dy, l2, h2', r2, ls2, hs2, rs2, rfl', hb, hl2, pl2, hh2, ph2, hr2, pr2⟩ := h2
    cases rfl'
    refine ⟨_, (pss_cons (ps_if (PW.pt (pw_or (pt_not (pt_val (pe_callB (C8.call_isC (C.isC "Work")) (by rfl) (C.free "isinstance") b_isinstance (pa_cons (pv 1) (pa_cons (pe_globR (x := "Work") C (by rfl) (by rfl)) pa_nil))))) (pw_or1 (pt_cmpR (op_neDat (room65 hr) : OpR _ _ (rNeDat K)) (pe_fld (pv 0) rfl : PE _ _ (tFld K _ _)) (pe_fld (pv 1) rfl : PE _ _ (tFld K _ _)) (nomark _))))) (pss_one (ps_ret pe_bl)) pss_nil) (pss_one (ps_ret (pe_and (pe_cmpR (op_eqDat (room65 hr) : OpR _ _ (rEqDat K)) (pe_fld (pv 0) rfl : PE _ _ (tFld K _ _)) (pe_fld (pv 1) rfl : PE _ _ (tFld K _ _)) (nomark _)) (pe_one (pe_cmpR (op_eqDat (room65 hr) : OpR _ _ (rEqDat K)) (pe_fld (pv 0) rfl : PE _ _ (tFld K _ _)) (pe_fld (pv 1) rfl : PE _ _ (tFld K _ _)) (nomark _))))))), ?_⟩
    walk_at "w"
    refine ⟨b, dy, _, rfl, hb, ?_⟩
    walk_at "w"
    refine ⟨datEq_of hl1 pl1 hl2 pl2 G.ln (fun e _ => sh_fr _) (by decide), ?_⟩
    walk_at "w"
    refine ⟨datEq_of hr1 pr1 hr2 pr2 G.rn G.shr (by decide), ?_⟩
    walk_at "w"
    refine ⟨datEq_of hh1 ph1 hh2 ph2 G.fn (fun e _ => sh_fr _) (by decide), ?_⟩
    walk_at "w"
    exact q
end
end PW

/-! ##### LG -/
set_option Elab.async false
set_option linter.all false
set_option maxRecDepth 100000
set_option maxHeartbeats 2000000
namespace PW
open PySem PySem.Spec PyProof.Rows L2 He PWL

open PWW
/-! ### the law's entries -/
def sOk (z : Str) : Prop := z.length ≤ 1000 ∧ PyData.strOk z = true
def uL (u : Str) : Prop := u = "ann" ∨ u = "bo" ∨ u = "Ann"
def nL (n : Str) : Prop := n = "one" ∨ n = "two" ∨ n = "zz"
def rL (r : Str) : Prop := r ∈ ([("r" : Str), "s", "p", "q", "t", "y", "z", "pq", "P", ""])
def pL : PVal → Prop
  | .tup p => ∃ z ps, p = mkP z ps ∧ (∀ e ∈ ps, e.1 = "up" ∨ e.1 = "down") ∧ ps.length ≤ 4 ∧ ∀ x ∈ p, sOk x
  | .lst p => p = [("a" : Str), "up", "P"]
def fL (f : Int × Int) : Prop := f ∈ ([(1, 2), (-3, 1), (0, 1), (2, 1), (1, 0)] : List (Int × Int))
def ldL (f : Int × Int) : Prop := ldOk f = true ∨ f = (-1, 2) ∨ f = (2, 4)
def enL : En → Prop
  | .load u n h f => uL u ∧ nL n ∧ sOk h ∧ ldL f
  | .rope u n r p f => uL u ∧ nL n ∧ rL r ∧ pL p ∧ fL f
  | .drop u n r => uL u ∧ nL n ∧ sOk r
/-- an entry, or an undo of it -/
inductive LEn where
  | en (e : En)
  | undo (u n : Str)
def leD : LEn → PyData
  | .en e => enD e
  | .undo u n => .tuple [.str u, .str n, .str "undo"]
def leL : LEn → Prop
  | .en e => enL e
  | .undo u n => uL u ∧ nL n
theorem np_le (e : LEn) : np (leD e) = true := by
  cases e with
  | en e => exact np_en e
  | undo u n => rfl
/-- the parts of a given work stand apart from d -/
def ApD (H : Hp) (d a : Addr) : Prop := ∃ l r h, H a = some (.lst [.ref l, .ref r, .ref h]) ∧ l ≠ d ∧ r ≠ d ∧ h ≠ d
def LawW (K : PySem.W.Frag) (H : Hp) (v : V) (w : W2) : Prop := ∃ d a1 a2, v = .ref d ∧ H d = some (.dK (wkv (.ref a1) (.ref a2))) ∧ GivG K H a1 w.one ∧ GivG K H a2 w.two ∧ ApD H d a1 ∧ ApD H d a2
section
variable {K : PySem.W.Frag} {H H' : Hp} {a p : Addr} {g : Giv} {v : V} {w : W2}
theorem GivG.same (e : Same H H') (h : GivG K H a g) : GivG K H' a g := by
  obtain ⟨l, r, hh, h1, h2, h3, h4⟩ := h
  exact ⟨l, r, hh, e _ _ h1, h2.same e np_fr, h3.same e np_rope, h4.same e np_fr⟩
theorem PoolAt.neR {x y z : Addr} (hp : PoolAt H p) (h : H a = some (.lst [.ref x, .ref y, .ref z])) : a ≠ p := fun e => by
  obtain ⟨_, _, h'⟩ := hp
  rw [e, h'] at h
  cases h
theorem GivG.pool (hp : PoolAt H p) (t : SX p H H') (h : GivG K H a g) : GivG K H' a g := by
  obtain ⟨l, r, hh, h1, h2, h3, h4⟩ := h
  exact ⟨l, r, hh, t _ _ (hp.neR h1) h1, h2.pool td_fr hp t, h3.pool td_rope hp t, h4.pool td_fr hp t⟩
theorem ApD.same {d : Addr} (e : Same H H') (h : ApD H d a) : ApD H' d a := let ⟨l, r, hh, h1, h2⟩ := h; ⟨l, r, hh, e _ _ h1, h2⟩
theorem ApD.pool {d : Addr} (hp : PoolAt H p) (t : SX p H H') (h : ApD H d a) : ApD H' d a := let ⟨l, r, hh, h1, h2⟩ := h; ⟨l, r, hh, t _ _ (hp.neR h1) h1, h2⟩
theorem LawW.same (e : Same H H') (h : LawW K H v w) : LawW K H' v w := let ⟨d, a1, a2, h1, h2, h3, h4, h5, h6⟩ := h; ⟨d, a1, a2, h1, e _ _ h2, h3.same e, h4.same e, h5.same e, h6.same e⟩
theorem LawW.pool (hp : PoolAt H p) (t : SX p H H') (h : LawW K H v w) : LawW K H' v w := let ⟨d, a1, a2, h1, h2, h3, h4, h5, h6⟩ := h; ⟨d, a1, a2, h1, t _ _ (hp.neK h2) h2, h3.pool hp t, h4.pool hp t, h5.pool hp t, h6.pool hp t⟩
theorem LawW.val {d a1 a2 : Addr} {n : Str} (hn : isN n) (h1 : GivG K H a1 w.one) (h2 : GivG K H a2 w.two) : ∃ a, valV (wkv (.ref a1) (.ref a2)) (.inr n) = some (.ref a) ∧ GivG K H a (w.get n) := by
  rcases hn with rfl | rfl
  · exact ⟨a1, val_one, by rw [get_one]; exact h1⟩
  · exact ⟨a2, val_two, by rw [get_two]; exact h2⟩
/-- a draw picks an item of a list -/
theorem pick_lst {b : Addr} {xs : List V} {m : Int} {Q : VK} {E : XK} (hp : PoolAt H p) (hb : H b = some (.lst xs)) (hne : b ≠ p) (hm : m = (xs.length : Nat)) (h0 : 0 < xs.length) (hz : xs.length ≤ 1000) (q : ∀ x H2, x ∈ xs → SX p H H2 → PoolAt H2 p → Kd H H2 → Q x H2) :
    spDraw [.ref p, .int m] H (fun y H2 => rIxL K (.ref b) y H2 Q) E := by
  refine ⟨p, xs.length, by rw [hm], hp, h0, by omega, fun n H2 hn t2 hp2 => ?_⟩
  exact r_ixL (SqL.of (t2 _ _ hne hb)) (atI_nat (List.getElem?_eq_getElem hn)) (q _ H2 (List.getElem_mem hn) t2 hp2 (pool_kd hp t2))
theorem pick_at {b : Addr} {xs : List V} {m : Int} {Q : VK} {E : XK} (hp : PoolAt H p) (hb : H b = none) (hm : m = (xs.length : Nat)) (h0 : 0 < xs.length) (hz : xs.length ≤ 1000) (q : ∀ x H2, x ∈ xs → SX p H H2 → PoolAt H2 p → Kd H H2 → Q x H2) :
    spDraw [.ref p, .int m] (upd H b (.lst xs)) (fun y H2 => rIxL K (.ref b) y H2 Q) E := by
  have s1 : Same H (upd H b (.lst xs)) := same_upd_fresh hb (Same.refl _)
  exact pick_lst (hp.same s1) upd_same (hp.ne hb) hm h0 hz fun x H2 hx t h2 k => q x H2 hx ((sx_same s1).trans t) h2 ((same_kd s1).trans k)
end
/-- a choice of two values, joined again -/
theorem w_ifJ {t : TT} {ta tb : TE} {σ : L2.St} {H : Hp} {Q : VK} (x y : V) (ht : ∀ R : Bool → Hp → Prop, (∀ b H', Same H H' → R b H') → t σ H R) (ha : ∀ H' (R : VK), R x H' → ta σ H' R) (hb : ∀ H' (R : VK), R y H' → tb σ H' R) (h : ∀ z H', (z = x ∨ z = y) → Same H H' → Q z H') : tIf t ta tb σ H Q :=
  ht _ fun b H' s => by
    cases b with
    | true => exact iteT (ha H' Q (h x H' (.inl rfl) s))
    | false => exact iteF (hb H' Q (h y H' (.inr rfl) s))
/-- what a path value of the law looks like -/
def PX (K : PySem.W.Frag) (H : Hp) (x : V) : Prop := ∃ pv, pL pv ∧ Dp K H x (pvD pv)
theorem PX.kd {K : PySem.W.Frag} {H H' : Hp} {x : V} (e : Kd H H') (h : PX K H x) : PX K H' x := let ⟨pv, h1, h2⟩ := h; ⟨pv, h1, dp_kd e (np_pv pv) h2⟩
def FX (K : PySem.W.Frag) (H : Hp) (x : V) : Prop := ∃ f, fL f ∧ Dp K H x (frD f)
def LX (K : PySem.W.Frag) (H : Hp) (x : V) : Prop := ∃ f, ldL f ∧ Dp K H x (frD f)
theorem FX.kd {K : PySem.W.Frag} {H H' : Hp} {x : V} (e : Kd H H') (h : FX K H x) : FX K H' x := let ⟨f, h1, h2⟩ := h; ⟨f, h1, dp_kd e (np_fr f) h2⟩
theorem LX.kd {K : PySem.W.Frag} {H H' : Hp} {x : V} (e : Kd H H') (h : LX K H x) : LX K H' x := let ⟨f, h1, h2⟩ := h; ⟨f, h1, dp_kd e (np_fr f) h2⟩
theorem sOk_small {z : Str} (h : wordOk z SMALL = true) : sOk z := by
  refine ⟨?_, strOk_small h⟩
  unfold wordOk at h
  rw [Bool.and_eq_true, Bool.and_eq_true] at h
  have := of_decide_eq_true h.2.1
  omega
theorem sOk_great {z : Str} (h : wordOk z GREAT = true) : sOk z := by
  refine ⟨?_, strOk_great h⟩
  unfold wordOk at h
  rw [Bool.and_eq_true, Bool.and_eq_true] at h
  have := of_decide_eq_true h.2.1
  omega
theorem GOk.ptsS {g : Giv} (G : GOk g) : ∀ z ∈ g.pts, sOk z := fun z hz => by
  rcases List.mem_append.mp hz with h | h
  · obtain ⟨e, he, rfl⟩ := List.mem_map.mp h
    exact sOk_small (G.lw e he).1
  · obtain ⟨e, he, rfl⟩ := List.mem_map.mp h
    exact sOk_great (G.fw e he).1
theorem mem_mkP {x : Str} : ∀ {z : Str} {ps : List (Str × Str)}, x ∈ mkP z ps → x = z ∨ ∃ e ∈ ps, x = e.1 ∨ x = e.2
  | z, [], h => .inl (List.mem_singleton.mp h)
  | z, e :: ps, h => by
    rw [mkP_cons] at h
    rcases List.mem_cons.mp h with h | h
    · exact .inl h
    rcases List.mem_cons.mp h with h | h
    · exact .inr ⟨e, List.mem_cons_self, .inl h⟩
    rcases mem_mkP h with h | ⟨e', he, h⟩
    · exact .inr ⟨e, List.mem_cons_self, .inr h⟩
    · exact .inr ⟨e', List.mem_cons_of_mem _ he, h⟩
theorem sOk_dir {z : Str} (h : z = "up" ∨ z = "down") : sOk z := by
  rcases h with rfl | rfl <;> exact ⟨by decide, by decide +kernel⟩
theorem w_ifSK {t : TT} {ts us : TS} {D : Ends} {σ : L2.St} {H : Hp} (J : L2.St → Hp → Prop) (hJ : ∀ σ' H', J σ' H' → D.nx σ' H') (h : (∀ σ' H', J σ' H' → D.nx σ' H') → t σ H fun b H1 => if b = true then ts D σ H1 else us D σ H1) : tIfS t ts us D σ H := h hJ
def spLEntry (K : PySem.W.Frag) : Sp := fun vs H Q _ => ∃ (p : Addr) (v : V) (w : W2), vs = [.ref p, v] ∧ PoolAt H p ∧ LawW K H v w ∧ WOk w ∧ ∀ y e H', SX p H H' → PoolAt H' p → Dp K H' y (leD e) → leL e → Q y H'
local macro_rules | `(tactic| walk_at "w-w_if") => `(tactic| (repeat (first | with_reducible refine w_seq ?_ | with_reducible refine w_ret ?_ | with_reducible refine w_asg ?_ | with_reducible refine w_ifs ?_ | with_reducible refine w_drop ?_ | with_reducible refine w_next ?_ | with_reducible refine w_cont ?_ | with_reducible refine w_par ?_ | with_reducible refine w_par3 ?_ | with_reducible refine w_three ?_ | with_reducible refine w_two ?_ | with_reducible refine w_name ?_ | with_reducible refine w_c ?_ | with_reducible refine w_op ?_ | with_reducible refine w_un ?_ | with_reducible refine w_cb ?_ | with_reducible refine w_cons ?_ | with_reducible refine w_nil ?_ | with_reducible refine w_tup ?_ | with_reducible refine w_lst ?_ | with_reducible refine w_test ?_ | with_reducible refine w_B ?_ | with_reducible refine w_k ?_ | with_reducible refine w_ki ?_ | with_reducible refine w_and ?_ | with_reducible refine w_or ?_ | with_reducible refine w_not ?_ | with_reducible refine w_andV ?_ | with_reducible refine w_orV ?_ | with_reducible refine w_notV ?_ | with_reducible refine w_yes ?_ | with_reducible refine w_isN ?_ | with_reducible refine w_chain ?_ | with_reducible refine w_sl ?_ | with_reducible refine w_noPart ?_ | with_reducible refine w_part ?_ | with_reducible refine w_fld ?_ | with_reducible refine w_dget ?_ | with_reducible refine w_din ?_ | with_reducible refine w_dnotin ?_ | with_reducible refine w_dput ?_ | with_reducible refine w_newK ?_ | with_reducible refine w_sfld ?_ | with_reducible refine w_methR ?_ | with_reducible refine w_propR ?_ | with_reducible refine w_sl2 ?_ | with_reducible refine w_star ?_ | with_reducible refine w_retN ?_ | with_reducible refine w_gcons ?_ | with_reducible refine w_gnil ?_ | with_reducible refine r_i0 ?_ | with_reducible refine r_u ?_ | with_reducible refine r_eqi ?_ | with_reducible refine r_nei ?_ | with_reducible refine r_eqs ?_ | with_reducible refine r_nes ?_ | with_reducible refine iteT ?_ | with_reducible refine iteF ?_ | with_reducible refine w_lc ?_ | with_reducible refine w_dc ?_ | with_reducible refine w_for ?_ | with_reducible refine w_istr ?_ | with_reducible refine w_ilist ?_ | with_reducible refine w_itup ?_ | with_reducible refine w_irng1 ?_ | with_reducible refine w_irng2 ?_ | with_reducible refine w_ienum ?_ | with_reducible refine w_iitems ?_ | with_reducible refine w_ikeysT ?_ | with_reducible refine w_makeK ?_ | with_reducible refine w_methSN ?_ | with_reducible refine w_makeR ?_ | with_reducible refine w_callR ?_ | with_reducible refine w_dmerge ?_ | with_reducible refine w_ks ?_ | with_reducible refine w_kr ?_ | with_reducible refine isi_int_int ?_ | with_reducible refine isi_int_bool ?_ | with_reducible refine isi_str_str ?_ | with_reducible refine w_1i ?_ | with_reducible refine w_nn ?_ | with_reducible refine w_int_i ?_ | with_reducible refine w_int_b ?_ | ((with_reducible apply w_var); rfl) | ((with_reducible apply r_ixT); assumption; rfl) | ((with_reducible apply r_ixL); assumption; rfl) | ((with_reducible apply isi_tup_tup); assumption) | ((with_reducible apply isi_dict_dict); assumption) | ((with_reducible apply r_lenD); assumption) | ((with_reducible apply r_lenT); assumption) | ((with_reducible apply r_lenL); assumption) | ((with_reducible refine r_all (SqL.of ?_) ?_); assumption) | ((with_reducible apply r_fld); assumption; exact Cn.cls (by assumption) _; exact Cn.noat (by assumption) _ _; first | rfl | assumption) | ((with_reducible apply ite_t); rfl) | ((with_reducible apply ite_f); rfl))))
local macro_rules | `(tactic| walk_at "w-w_ifs") => `(tactic| (repeat (first | with_reducible refine w_seq ?_ | with_reducible refine w_ret ?_ | with_reducible refine w_asg ?_ | with_reducible refine w_drop ?_ | with_reducible refine w_next ?_ | with_reducible refine w_cont ?_ | with_reducible refine w_par ?_ | with_reducible refine w_par3 ?_ | with_reducible refine w_three ?_ | with_reducible refine w_two ?_ | with_reducible refine w_name ?_ | with_reducible refine w_c ?_ | with_reducible refine w_op ?_ | with_reducible refine w_un ?_ | with_reducible refine w_cb ?_ | with_reducible refine w_cons ?_ | with_reducible refine w_nil ?_ | with_reducible refine w_tup ?_ | with_reducible refine w_lst ?_ | with_reducible refine w_test ?_ | with_reducible refine w_B ?_ | with_reducible refine w_k ?_ | with_reducible refine w_ki ?_ | with_reducible refine w_and ?_ | with_reducible refine w_or ?_ | with_reducible refine w_not ?_ | with_reducible refine w_andV ?_ | with_reducible refine w_orV ?_ | with_reducible refine w_notV ?_ | with_reducible refine w_if ?_ | with_reducible refine w_yes ?_ | with_reducible refine w_isN ?_ | with_reducible refine w_chain ?_ | with_reducible refine w_sl ?_ | with_reducible refine w_noPart ?_ | with_reducible refine w_part ?_ | with_reducible refine w_fld ?_ | with_reducible refine w_dget ?_ | with_reducible refine w_din ?_ | with_reducible refine w_dnotin ?_ | with_reducible refine w_dput ?_ | with_reducible refine w_newK ?_ | with_reducible refine w_sfld ?_ | with_reducible refine w_methR ?_ | with_reducible refine w_propR ?_ | with_reducible refine w_sl2 ?_ | with_reducible refine w_star ?_ | with_reducible refine w_retN ?_ | with_reducible refine w_gcons ?_ | with_reducible refine w_gnil ?_ | with_reducible refine r_i0 ?_ | with_reducible refine r_u ?_ | with_reducible refine r_eqi ?_ | with_reducible refine r_nei ?_ | with_reducible refine r_eqs ?_ | with_reducible refine r_nes ?_ | with_reducible refine iteT ?_ | with_reducible refine iteF ?_ | with_reducible refine w_lc ?_ | with_reducible refine w_dc ?_ | with_reducible refine w_for ?_ | with_reducible refine w_istr ?_ | with_reducible refine w_ilist ?_ | with_reducible refine w_itup ?_ | with_reducible refine w_irng1 ?_ | with_reducible refine w_irng2 ?_ | with_reducible refine w_ienum ?_ | with_reducible refine w_iitems ?_ | with_reducible refine w_ikeysT ?_ | with_reducible refine w_makeK ?_ | with_reducible refine w_methSN ?_ | with_reducible refine w_makeR ?_ | with_reducible refine w_callR ?_ | with_reducible refine w_dmerge ?_ | with_reducible refine w_ks ?_ | with_reducible refine w_kr ?_ | with_reducible refine isi_int_int ?_ | with_reducible refine isi_int_bool ?_ | with_reducible refine isi_str_str ?_ | with_reducible refine w_1i ?_ | with_reducible refine w_nn ?_ | with_reducible refine w_int_i ?_ | with_reducible refine w_int_b ?_ | ((with_reducible apply w_var); rfl) | ((with_reducible apply r_ixT); assumption; rfl) | ((with_reducible apply r_ixL); assumption; rfl) | ((with_reducible apply isi_tup_tup); assumption) | ((with_reducible apply isi_dict_dict); assumption) | ((with_reducible apply r_lenD); assumption) | ((with_reducible apply r_lenT); assumption) | ((with_reducible apply r_lenL); assumption) | ((with_reducible refine r_all (SqL.of ?_) ?_); assumption) | ((with_reducible apply r_fld); assumption; exact Cn.cls (by assumption) _; exact Cn.noat (by assumption) _ _; first | rfl | assumption) | ((with_reducible apply ite_t); rfl) | ((with_reducible apply ite_f); rfl))))
local macro_rules | `(tactic| walk_at "w") => `(tactic| (repeat (first | with_reducible refine w_seq ?_ | with_reducible refine w_ret ?_ | with_reducible refine w_asg ?_ | with_reducible refine w_ifs ?_ | with_reducible refine w_drop ?_ | with_reducible refine w_next ?_ | with_reducible refine w_cont ?_ | with_reducible refine w_par ?_ | with_reducible refine w_par3 ?_ | with_reducible refine w_three ?_ | with_reducible refine w_two ?_ | with_reducible refine w_name ?_ | with_reducible refine w_c ?_ | with_reducible refine w_op ?_ | with_reducible refine w_un ?_ | with_reducible refine w_cb ?_ | with_reducible refine w_cons ?_ | with_reducible refine w_nil ?_ | with_reducible refine w_tup ?_ | with_reducible refine w_lst ?_ | with_reducible refine w_test ?_ | with_reducible refine w_B ?_ | with_reducible refine w_k ?_ | with_reducible refine w_ki ?_ | with_reducible refine w_and ?_ | with_reducible refine w_or ?_ | with_reducible refine w_not ?_ | with_reducible refine w_andV ?_ | with_reducible refine w_orV ?_ | with_reducible refine w_notV ?_ | with_reducible refine w_if ?_ | with_reducible refine w_yes ?_ | with_reducible refine w_isN ?_ | with_reducible refine w_chain ?_ | with_reducible refine w_sl ?_ | with_reducible refine w_noPart ?_ | with_reducible refine w_part ?_ | with_reducible refine w_fld ?_ | with_reducible refine w_dget ?_ | with_reducible refine w_din ?_ | with_reducible refine w_dnotin ?_ | with_reducible refine w_dput ?_ | with_reducible refine w_newK ?_ | with_reducible refine w_sfld ?_ | with_reducible refine w_methR ?_ | with_reducible refine w_propR ?_ | with_reducible refine w_sl2 ?_ | with_reducible refine w_star ?_ | with_reducible refine w_retN ?_ | with_reducible refine w_gcons ?_ | with_reducible refine w_gnil ?_ | with_reducible refine r_i0 ?_ | with_reducible refine r_u ?_ | with_reducible refine r_eqi ?_ | with_reducible refine r_nei ?_ | with_reducible refine r_eqs ?_ | with_reducible refine r_nes ?_ | with_reducible refine iteT ?_ | with_reducible refine iteF ?_ | with_reducible refine w_lc ?_ | with_reducible refine w_dc ?_ | with_reducible refine w_for ?_ | with_reducible refine w_istr ?_ | with_reducible refine w_ilist ?_ | with_reducible refine w_itup ?_ | with_reducible refine w_irng1 ?_ | with_reducible refine w_irng2 ?_ | with_reducible refine w_ienum ?_ | with_reducible refine w_iitems ?_ | with_reducible refine w_ikeysT ?_ | with_reducible refine w_makeK ?_ | with_reducible refine w_methSN ?_ | with_reducible refine w_makeR ?_ | with_reducible refine w_callR ?_ | with_reducible refine w_dmerge ?_ | with_reducible refine w_ks ?_ | with_reducible refine w_kr ?_ | with_reducible refine isi_int_int ?_ | with_reducible refine isi_int_bool ?_ | with_reducible refine isi_str_str ?_ | with_reducible refine w_1i ?_ | with_reducible refine w_nn ?_ | with_reducible refine w_int_i ?_ | with_reducible refine w_int_b ?_ | ((with_reducible apply w_var); rfl) | ((with_reducible apply r_ixT); assumption; rfl) | ((with_reducible apply r_ixL); assumption; rfl) | ((with_reducible apply isi_tup_tup); assumption) | ((with_reducible apply isi_dict_dict); assumption) | ((with_reducible apply r_lenD); assumption) | ((with_reducible apply r_lenT); assumption) | ((with_reducible apply r_lenL); assumption) | ((with_reducible refine r_all (SqL.of ?_) ?_); assumption) | ((with_reducible apply r_fld); assumption; exact Cn.cls (by assumption) _; exact Cn.noat (by assumption) _ _; first | rfl | assumption) | ((with_reducible apply ite_t); rfl) | ((with_reducible apply ite_f); rfl))))
section
variable {P : Program} {w : World} {K : PySem.W.Frag} {mg : Str → Option Value} {base : Heap}
theorem F__law_entry (C : Cn P K mg) : FnR P w K mg base (L2.CX P w) 4 (ga K "_law_entry") (spLEntry K) := by
  obtain ⟨fd, F⟩ := C.d__law_entry
  have sc : FnScope ["_law_pool_here", "_law_states", "_law_user", "_law_name", "_law_given_here", "_law_odd", "_law_choice", "_law_hook", "_law_names", "_law_points", "_law_paths", "_law_length"] ["_law_pool_here", "_law_states"] (defScope (top 62)) := ⟨rfl, rfl, rfl, by decide +kernel, rfl, by decide +kernel, by decide +kernel⟩
  refine fnR_nox F sc ?len (fun _ _ _ _ _ _ us hl => match us, hl with | [_, _], _ => rfl) ?body
  case len => exact fun vs H Q E h => by obtain ⟨_, _, _, rfl, _⟩ := h; rfl
  case body =>
    intro cdv A outer s H vs Q E hr h
    obtain ⟨p, v, w2, rfl, hp, hW, W, q⟩ := h
    have F__law_draw := F__law_draw (w := w) (base := base) C
    have F__law_number := F__law_number (w := w) (base := base) C
    have F__law_path := F__law_path (w := w) (base := base) C
    refine ⟨_, (pss_cons (ps_par (i := 2) (j := 3) (by rfl) sc.nd rfl rfl (by decide) rfl rfl (pa_cons (pe_ix (ix_list : IxR _ (rIxL K)) (pe_lst (pa_cons pe_str (pa_cons pe_str pa_nil))) (pe_callR F__law_draw (hr.mono (by decide)) (by rfl) (C.g "_law_draw") (C.keep "_law_draw") passL (pa_cons (pv 0) (pa_cons pe_int pa_nil))) (fun _ _ => rfl)) (pa_cons (pe_ix (ix_list : IxR _ (rIxL K)) (pe_lst (pa_cons pe_str (pa_cons pe_str pa_nil))) (pe_callR F__law_draw (hr.mono (by decide)) (by rfl) (C.g "_law_draw") (C.keep "_law_draw") passL (pa_cons (pv 0) (pa_cons pe_int pa_nil))) (fun _ _ => rfl)) pa_nil)) (by rfl)) (pss_cons (ps_par (i := 4) (j := 5) (by rfl) sc.nd rfl rfl (by decide) rfl rfl (pa_cons (pe_dget (hu_of hr) (pv 1) (pv 3) (fun _ _ => rfl)) (pa_cons (pe_callR F__law_draw (hr.mono (by decide)) (by rfl) (C.g "_law_draw") (C.keep "_law_draw") passL (pa_cons (pv 0) (pa_cons pe_int pa_nil))) pa_nil)) (by rfl)) (pss_cons (ps_par (i := 2) (j := 3) (by rfl) sc.nd rfl rfl (by decide) rfl rfl (pa_cons (pe_ifExp (pt_cmpR op_eq (pv 5) pe_int (nomark _)) pe_str (pv 2)) (pa_cons (pe_ifExp (pt_cmpR (op_in_seq : OpR _ _ (rIn K false)) (pv 5) (pe_tup (pa_cons pe_int (pa_cons pe_int pa_nil))) (by rfl)) pe_str (pv 3)) pa_nil)) (by rfl)) (pss_cons (ps_set (i := 6) sc.nd rfl (Or.inl rfl) (pe_callR F__law_draw (hr.mono (by decide)) (by rfl) (C.g "_law_draw") (C.keep "_law_draw") passL (pa_cons (pv 0) (pa_cons pe_int pa_nil)))) (pss_cons (ps_if (pt_cmpR op_eq (pv 6) pe_int (nomark _)) (pss_cons (ps_set (i := 7) sc.nd rfl (Or.inl rfl) (pe_ix (ix_list : IxR _ (rIxL K)) (pe_op op_cat (pe_callTy (call_listD rfl) (by rfl) (C.free "list") b_list (pa_cons (pe_ix (ix_list : IxR _ (rIxL K)) (pv 4) pe_int (fun _ _ => rfl)) pa_nil)) (pe_lst (pa_cons pe_str pa_nil))) (pe_callR F__law_draw (hr.mono (by decide)) (by rfl) (C.g "_law_draw") (C.keep "_law_draw") passL (pa_cons (pv 0) (pa_cons (pe_op op_add (pe_callB call_lenD (by rfl) (C.free "len") b_len (pa_cons (pe_ix (ix_list : IxR _ (rIxL K)) (pv 4) pe_int (fun _ _ => rfl)) pa_nil)) pe_int) pa_nil))) (fun _ _ => rfl))) (pss_one (ps_ret (pe_tup (pa_cons (pv 2) (pa_cons (pv 3) (pa_cons pe_str (pa_cons (pv 7) (pa_cons (pe_ix (ix_list : IxR _ (rIxL K)) (pe_lst (pa_cons (pe_callR F__law_number (hr.mono (by decide)) (by rfl) (C.g "_law_number") (C.keep "_law_number") passL (pa_cons (pv 0) pa_nil)) (pa_cons (pe_callR F__law_number (hr.mono (by decide)) (by rfl) (C.g "_law_number") (C.keep "_law_number") passL (pa_cons (pv 0) pa_nil)) (pa_cons (pe_tup (pa_cons (pe_un un_neg pe_int) (pa_cons pe_int pa_nil))) (pa_cons (pe_tup (pa_cons pe_int (pa_cons pe_int pa_nil))) pa_nil))))) (pe_callR F__law_draw (hr.mono (by decide)) (by rfl) (C.g "_law_draw") (C.keep "_law_draw") passL (pa_cons (pv 0) (pa_cons pe_int pa_nil))) (fun _ _ => rfl)) pa_nil))))))))) pss_nil) (pss_cons (ps_if (pt_cmpR op_eq (pv 6) pe_int (nomark _)) (pss_cons (ps_set (i := 8) sc.nd rfl (Or.inl rfl) (pe_lst (pa_cons pe_str (pa_cons pe_str (pa_cons pe_str (pa_cons pe_str (pa_cons pe_str (pa_cons pe_str (pa_cons pe_str (pa_cons pe_str (pa_cons pe_str (pa_cons pe_str pa_nil)))))))))))) (pss_cons (ps_if (pt_cmpR op_ge (pe_callB call_lenD (by rfl) (C.free "len") b_len (pa_cons (pe_ix (ix_list : IxR _ (rIxL K)) (pv 4) pe_int (fun _ _ => rfl)) pa_nil)) pe_int (nomark _)) (pss_one (ps_set (i := 8) sc.nd rfl (Or.inl rfl) (pe_lst (pa_cons pe_str (pa_cons pe_str (pa_cons pe_str (pa_cons pe_str (pa_cons pe_str (pa_cons pe_str (pa_cons pe_str (pa_cons pe_str (pa_cons pe_str (pa_cons pe_str pa_nil))))))))))))) pss_nil) (pss_cons (ps_set (i := 9) sc.nd rfl (Or.inl rfl) (pe_op op_cat (pe_callTy (call_listD rfl) (by rfl) (C.free "list") b_list (pa_cons (pe_ix (ix_list : IxR _ (rIxL K)) (pv 4) pe_int (fun _ _ => rfl)) pa_nil)) (pe_callTy (call_listD rfl) (by rfl) (C.free "list") b_list (pa_cons (pe_ix (ix_list : IxR _ (rIxL K)) (pv 4) pe_int (fun _ _ => rfl)) pa_nil)))) (pss_cons (ps_set (i := 10) sc.nd rfl (Or.inl rfl) (pe_lst (pa_cons (pe_callR F__law_path (hr.mono (by decide)) (by rfl) (C.g "_law_path") (C.keep "_law_path") passL (pa_cons (pv 0) (pa_cons (pv 9) pa_nil))) (pa_cons (pe_callR F__law_path (hr.mono (by decide)) (by rfl) (C.g "_law_path") (C.keep "_law_path") passL (pa_cons (pv 0) (pa_cons (pv 9) pa_nil))) (pa_cons (pe_tup (pa_cons pe_str (pa_cons pe_str (pa_cons pe_str pa_nil)))) (pa_cons (pe_lst (pa_cons pe_str (pa_cons pe_str (pa_cons pe_str pa_nil)))) (pa_cons (pe_tup (pa_cons pe_str pa_nil)) pa_nil))))))) (pss_cons (ps_set (i := 10) sc.nd rfl (Or.inl rfl) (pe_lst (pa_cons (pe_ix (ix_list : IxR _ (rIxL K)) (pv 10) pe_int (fun _ _ => rfl)) (pa_cons (pe_ix (ix_list : IxR _ (rIxL K)) (pv 10) pe_int (fun _ _ => rfl)) (pa_cons (pe_ix (ix_list : IxR _ (rIxL K)) (pv 10) pe_int (fun _ _ => rfl)) (pa_cons (pe_ix (ix_list : IxR _ (rIxL K)) (pv 10) pe_int (fun _ _ => rfl)) (pa_cons (pe_ix (ix_list : IxR _ (rIxL K)) (pv 10) (pe_op op_add pe_int (pe_callR F__law_draw (hr.mono (by decide)) (by rfl) (C.g "_law_draw") (C.keep "_law_draw") passL (pa_cons (pv 0) (pa_cons pe_int pa_nil)))) (fun _ _ => rfl)) pa_nil))))))) (pss_cons (ps_set (i := 11) sc.nd rfl (Or.inl rfl) (pe_ix (ix_list : IxR _ (rIxL K)) (pe_lst (pa_cons (pe_tup (pa_cons pe_int (pa_cons pe_int pa_nil))) (pa_cons (pe_tup (pa_cons (pe_un un_neg pe_int) (pa_cons pe_int pa_nil))) (pa_cons (pe_tup (pa_cons pe_int (pa_cons pe_int pa_nil))) (pa_cons (pe_tup (pa_cons pe_int (pa_cons pe_int pa_nil))) (pa_cons (pe_tup (pa_cons pe_int (pa_cons pe_int pa_nil))) (pa_cons (pe_tup (pa_cons pe_int (pa_cons pe_int pa_nil))) pa_nil))))))) (pe_callR F__law_draw (hr.mono (by decide)) (by rfl) (C.g "_law_draw") (C.keep "_law_draw") passL (pa_cons (pv 0) (pa_cons pe_int pa_nil))) (fun _ _ => rfl))) (pss_one (ps_ret (pe_tup (pa_cons (pv 2) (pa_cons (pv 3) (pa_cons pe_str (pa_cons (pe_ix (ix_list : IxR _ (rIxL K)) (pv 8) (pe_callR F__law_draw (hr.mono (by decide)) (by rfl) (C.g "_law_draw") (C.keep "_law_draw") passL (pa_cons (pv 0) (pa_cons pe_int pa_nil))) (fun _ _ => rfl)) (pa_cons (pe_ix (ix_list : IxR _ (rIxL K)) (pv 10) (pe_callR F__law_draw (hr.mono (by decide)) (by rfl) (C.g "_law_draw") (C.keep "_law_draw") passL (pa_cons (pv 0) (pa_cons pe_int pa_nil))) (fun _ _ => rfl)) (pa_cons (pv 11) pa_nil))))))))))))))) pss_nil) (pss_cons (ps_if (pt_cmpR op_eq (pv 6) pe_int (nomark _)) (pss_one (ps_ret (pe_tup (pa_cons (pv 2) (pa_cons (pv 3) (pa_cons pe_str (pa_cons (pe_ix (ix_list : IxR _ (rIxL K)) (pe_op op_cat (pe_callTy (call_listD rfl) (by rfl) (C.free "list") b_list (pa_cons (pe_ix (ix_list : IxR _ (rIxL K)) (pv 4) pe_int (fun _ _ => rfl)) pa_nil)) (pe_lst (pa_cons pe_str pa_nil))) (pe_callR F__law_draw (hr.mono (by decide)) (by rfl) (C.g "_law_draw") (C.keep "_law_draw") passL (pa_cons (pv 0) (pa_cons (pe_op op_add (pe_callB call_lenD (by rfl) (C.free "len") b_len (pa_cons (pe_ix (ix_list : IxR _ (rIxL K)) (pv 4) pe_int (fun _ _ => rfl)) pa_nil)) pe_int) pa_nil))) (fun _ _ => rfl)) pa_nil))))))) pss_nil) (pss_one (ps_ret (pe_tup (pa_cons (pv 2) (pa_cons (pv 3) (pa_cons pe_str pa_nil))))))))))))), ?_⟩
    walk_at "w"
    refine ⟨by show 2 ≤ sizeLine; decide, fun b1 f1 => ?_⟩
    walk_at "w"
    refine pick_at hp f1 rfl (by decide) (by decide) fun x1 H1 hx1 t1 hp1 kd1 => ?_
    obtain ⟨u, rfl, hu⟩ : ∃ u, x1 = .str u ∧ (u = "ann" ∨ u = "bo") := by
      rcases List.mem_cons.mp hx1 with rfl | hx1
      · exact ⟨_, rfl, .inl rfl⟩
      · exact ⟨_, List.mem_singleton.mp hx1, .inr rfl⟩
    walk_at "w"
    refine ⟨by show 2 ≤ sizeLine; decide, fun b2 f2 => ?_⟩
    walk_at "w"
    refine pick_at hp1 f2 rfl (by decide) (by decide) fun x2 H2 hx2 t2 hp2 kd2 => ?_
    obtain ⟨n, rfl, hn⟩ : ∃ n, x2 = .str n ∧ isN n := by
      rcases List.mem_cons.mp hx2 with rfl | hx2
      · exact ⟨_, rfl, .inl rfl⟩
      · exact ⟨_, List.mem_singleton.mp hx2, .inr rfl⟩
    have W2' := (hW.pool hp t1).pool hp1 t2
    obtain ⟨d, a1, a2, rfl, hd, hg1, hg2, _⟩ := id W2'
    obtain ⟨a, hval, hga⟩ := LawW.val (d := d) (a1 := a1) (a2 := a2) hn hg1 hg2
    have G := W.get n
    generalize w2.get n = g at hga G
    walk_at "w"
    refine r_dgetS (.inl hd) hval ?_
    walk_at "w"
    refine ⟨p, 14, rfl, hp2, by decide, by decide, fun n3 H3 hn3 t3 hp3 => ?_⟩
    have t03 := (t1.trans t2).trans t3
    have hga3 := hga.pool hp2 t3
    clear hga W2' hW hd hg1 hg2 hval kd1 kd2
    walk_at "w-w_if"
    refine w_ifJ (.str "Ann") (.str u) (fun R h => ?_) (fun H' R h => h) (fun H' R h => ⟨_, rfl, h⟩) fun z4 H4 hz4 s4 => ?_
    · walk_at "w"
      exact h _ _ (Same.refl _)
    obtain ⟨u4, rfl, hu4⟩ : ∃ u, z4 = .str u ∧ uL u := by
      rcases hz4 with rfl | rfl
      · exact ⟨_, rfl, .inr (.inr rfl)⟩
      · exact ⟨_, rfl, hu.elim .inl fun h => .inr (.inl h)⟩
    walk_at "w-w_if"
    refine w_ifJ (.str "zz") (.str n) (fun R h => ?_) (fun H' R h => h) (fun H' R h => ⟨_, rfl, h⟩) fun z5 H5 hz5 s5 => ?_
    · walk_at "w"
      refine ⟨by show 2 ≤ sizeLine; decide, fun b5 f5 => ?_⟩
      exact r_in (.inr (SqT.of upd_same)) rfl rfl (w_k (h _ _ (same_upd_fresh f5 (Same.refl _))))
    obtain ⟨n5, rfl, hn5⟩ : ∃ n, z5 = .str n ∧ nL n := by
      rcases hz5 with rfl | rfl
      · exact ⟨_, rfl, .inr (.inr rfl)⟩
      · exact ⟨_, rfl, hn.elim .inl fun h => .inr (.inl h)⟩
    have s35 := s4.trans s5
    have t05 := t03.trans (sx_same s35)
    have hp5 := hp3.same s35
    have hga5 := hga3.same s35
    clear hz4 hz5 hx1 hx2 hga3
    walk_at "w"
    refine ⟨p, 4, rfl, hp5, by decide, by decide, fun n6 H6 hn6 t6 hp6 => ?_⟩
    have t06 := t05.trans t6
    have hga6 := hga5.pool hp5 t6
    clear hga5
    obtain ⟨l, r, hh, ha, hl, hro, hf⟩ : ∃ l r h, H6 a = some (.lst [.ref l, .ref r, .ref h]) ∧ DictE K H6 frD l g.loads ∧ DictE K H6 ropeD r g.ropes ∧ DictE K H6 frD h g.fixed := hga6
    obtain ⟨kl, hkl, dkl⟩ := id hl
    obtain ⟨kr, hkr, dkr⟩ := id hro
    obtain ⟨kf, hkf, dkf⟩ := id hf
    have lkl : kl.length = g.loads.length := dkl.length
    have lkr : kr.length = g.ropes.length := dkr.length
    have lkf : kf.length = g.fixed.length := dkf.length
    have G8 := G.l8
    have Gf8 := G.f8
    have Gr10 := G.r10
    walk_at "w"
    refine ite2 (fun hc => ?_) (fun hc => ?_)
    · walk_at "w"
      refine r_ixL (SqL.of ha) (v := .ref l) rfl ?_
      walk_at "w"
      refine ⟨l, kl, rfl, .inl hkl, fun q1 g1 => ?_⟩
      rw [keys_map dkl.keys]
      generalize hH7 : upd H6 q1 (.lst ((g.loads.map (·.1)).map V.str)) = H7
      have s7 : Same H6 H7 := hH7 ▸ same_upd_fresh g1 (Same.refl _)
      have e7 : H7 q1 = some (.lst ((g.loads.map (·.1)).map V.str)) := by rw [← hH7]; exact upd_same
      walk_at "w"
      refine ⟨by show 1 ≤ sizeLine; decide, fun q2 g2 => ?_⟩
      generalize hH8 : upd H7 q2 (.lst [V.str "zz"]) = H8
      have s8 : Same H7 H8 := hH8 ▸ same_upd_fresh g2 (Same.refl _)
      have e8 : H8 q2 = some (.lst [V.str "zz"]) := by rw [← hH8]; exact upd_same
      walk_at "w"
      refine r_cat (s8 _ _ e7) e8 (by rw [List.length_map, List.length_map]; show g.loads.length + 1 ≤ 100000; omega) fun q3 g3 => ?_
      have s68 := s7.trans s8
      have ha8 := (s68.trans (same_upd_fresh (o := .lst ((g.loads.map (·.1)).map V.str ++ [V.str "zz"])) g3 (Same.refl _))) _ _ ha
      have hkl8 := (s68.trans (same_upd_fresh (o := .lst ((g.loads.map (·.1)).map V.str ++ [V.str "zz"])) g3 (Same.refl _))) _ _ hkl
      walk_at "w"
      refine r_ixL (SqL.of ha8) (v := .ref l) rfl ?_
      walk_at "w"
      refine pick_at (hp6.same s68) g3 (by rw [List.length_append, List.length_map, List.length_map, lkl]; rfl) (by rw [List.length_append]; show 0 < _ + 1; omega) (by rw [List.length_append, List.length_map, List.length_map]; show g.loads.length + 1 ≤ 1000; omega) fun x9 H9 hx9 t9 hp9 kd9 => ?_
      obtain ⟨z, rfl, hz⟩ : ∃ z, x9 = .str z ∧ sOk z := by
        rcases List.mem_append.mp hx9 with h | h
        · obtain ⟨z, hz, rfl⟩ := List.mem_map.mp h
          exact ⟨z, rfl, G.ptsS z (List.mem_append_left _ hz)⟩
        · exact ⟨"zz", List.mem_singleton.mp h, by decide, by decide +kernel⟩
      have t09 := (t06.trans (sx_same s68)).trans t9
      walk_at "w"
      refine ⟨p, rfl, hp9, fun y10 f10 H10 t10 hp10 d10 b10 l10 => ?_⟩
      walk_at "w"
      refine ⟨p, rfl, hp10, fun y11 f11 H11 t11 hp11 d11 b11 l11 => ?_⟩
      have L10 : LX K H11 y10 := ⟨f10, .inl l10, dp_kd (pool_kd hp10 t11) (np_fr _) d10⟩
      have L11 : LX K H11 y11 := ⟨f11, .inl l11, d11⟩
      walk_at "w"
      refine ⟨by show 2 ≤ sizeLine; decide, fun q12 g12 => ?_⟩
      generalize hH12 : upd H11 q12 (.tup [V.int (-1), V.int 2]) = H12
      have s12 : Same H11 H12 := hH12 ▸ same_upd_fresh g12 (Same.refl _)
      have L12 : LX K H12 (.ref q12) := ⟨(-1, 2), .inr (.inl rfl), dp_fr (SqT.of (by rw [← hH12]; exact upd_same))⟩
      walk_at "w"
      refine ⟨by show 2 ≤ sizeLine; decide, fun q13 g13 => ?_⟩
      generalize hH13 : upd H12 q13 (.tup [V.int 2, V.int 4]) = H13
      have s13 : Same H12 H13 := hH13 ▸ same_upd_fresh g13 (Same.refl _)
      have L13 : LX K H13 (.ref q13) := ⟨(2, 4), .inr (.inr rfl), dp_fr (SqT.of (by rw [← hH13]; exact upd_same))⟩
      have s1113 := s12.trans s13
      walk_at "w"
      refine ⟨by show 4 ≤ sizeLine; decide, fun q14 g14 => ?_⟩
      walk_at "w"
      refine pick_at (hp11.same s1113) g14 rfl (by show 0 < 4; decide) (by show 4 ≤ 1000; decide) fun x15 H15 hx15 t15 hp15 kd15 => ?_
      obtain ⟨f15, hf15, d15⟩ : LX K H15 x15 := by
        refine LX.kd kd15 ?_
        rcases List.mem_cons.mp hx15 with rfl | hx15
        · exact L10.kd (same_kd s1113)
        rcases List.mem_cons.mp hx15 with rfl | hx15
        · exact L11.kd (same_kd s1113)
        rcases List.mem_cons.mp hx15 with rfl | hx15
        · exact L12.kd (same_kd s13)
        · rw [List.mem_singleton.mp hx15]; exact L13
      walk_at "w"
      refine ⟨by show 5 ≤ sizeLine; decide, fun q16 g16 => ?_⟩
      have s16 : Same H15 (upd H15 q16 (.tup [V.str u4, V.str n5, V.str "load", V.str z, x15])) := same_upd_fresh g16 (Same.refl _)
      exact q _ (.en (.load u4 n5 z f15)) _ ((((t09.trans t10).trans t11).trans (sx_same s1113)).trans (t15.trans (sx_same s16))) (hp15.same s16) (.tup (SqT.of upd_same) (.cons (.str _) (.cons (.str _) (.cons (.str _) (.cons (.str _) (.cons (dp_kd (same_kd s16) (np_fr _) d15) .nil)))))) ⟨hu4, hn5, hz, hf15⟩
    walk_at "w"
    refine ite2 (fun hc2 => ?_) (fun hc2 => ?_)
    · clear hc hc2
      walk_at "w"
      refine ⟨by show 10 ≤ sizeLine; decide, fun b7 f7 => ?_⟩
      have hn7 : ∀ x ∈ [V.str "r", V.str "s", V.str "p", V.str "q", V.str "t", V.str "y", V.str "z", V.str "pq", V.str "P", V.str ""], ∃ z, x = V.str z ∧ rL z := by
        intro x hx
        have hx : x ∈ ([("r" : Str), "s", "p", "q", "t", "y", "z", "pq", "P", ""]).map V.str := hx
        obtain ⟨z, hz, rfl⟩ := List.mem_map.mp hx
        exact ⟨z, rfl, hz⟩
      have hl7 : ([V.str "r", V.str "s", V.str "p", V.str "q", V.str "t", V.str "y", V.str "z", V.str "pq", V.str "P", V.str ""] : List V).length = 10 := rfl
      generalize [V.str "r", V.str "s", V.str "p", V.str "q", V.str "t", V.str "y", V.str "z", V.str "pq", V.str "P", V.str ""] = xs7 at hn7 hl7 ⊢
      generalize hH7 : upd H6 b7 (.lst xs7) = H7
      have s7 : Same H6 H7 := hH7 ▸ same_upd_fresh f7 (Same.refl _)
      have e7 : H7 b7 = some (.lst xs7) := by rw [← hH7]; exact upd_same
      have ha7 := s7 _ _ ha
      have hkr7 := s7 _ _ hkr
      have hb7 := hp6.ne f7
      walk_at "w-w_ifs"
      refine w_ifSK (fun σ' H' => ∃ b8 xs8, σ' = [some (.ref p), some (.ref d), some (.str u4), some (.str n5), some (.ref a), some (.int n3), some (.int n6), none, some (.ref b8), none, none, none] ∧ Same H7 H' ∧ H' b8 = some (.lst xs8) ∧ xs8.length = 10 ∧ b8 ≠ p ∧ ∀ x ∈ xs8, ∃ z, x = V.str z ∧ rL z) (fun σ' H8 hj => ?_) (fun key => ?_)
      rotate_left
      · walk_at "w"
        refine r_ixL (SqL.of ha7) (v := .ref r) rfl ?_
        walk_at "w"
        refine ite2 (fun hc3 => ?_) (fun hc3 => ?_)
        · refine w_asg ?_
          walk_at "w"
          refine ⟨by show 10 ≤ sizeLine; decide, fun b8 f8 => ?_⟩
          refine w_name (key _ _ ⟨b8, [V.str "p", V.str "q", V.str "p", V.str "q", V.str "p", V.str "q", V.str "r", V.str "pq", V.str "P", V.str "p"], rfl, same_upd_fresh f8 (Same.refl _), upd_same, rfl, (hp6.same s7).ne f8, fun x hx => ?_⟩)
          have hx : x ∈ ([("p" : Str), "q", "p", "q", "p", "q", "r", "pq", "P", "p"]).map V.str := hx
          obtain ⟨z, hz, rfl⟩ := List.mem_map.mp hx
          exact ⟨z, rfl, (by decide +kernel : ∀ z ∈ ([("p" : Str), "q", "p", "q", "p", "q", "r", "pq", "P", "p"]), z ∈ ([("r" : Str), "s", "p", "q", "t", "y", "z", "pq", "P", ""])) z hz⟩
        · exact w_next (key _ _ ⟨b7, xs7, rfl, Same.refl _, e7, hl7, hb7, hn7⟩)
      obtain ⟨b8, xs8, rfl, s78, e8, hl8, hb8, hn8⟩ := hj
      have s68 := s7.trans s78
      clear hn7 hl7 hH7 e7 ha7 hkr7 hb7 f7 s7 s78
      have ha8 := s68 _ _ ha
      have hkl8 := s68 _ _ hkl
      have hp8 := hp6.same s68
      walk_at "w"
      refine r_ixL (SqL.of ha8) (v := .ref l) rfl ?_
      walk_at "w"
      refine ⟨l, kl, rfl, .inl hkl8, fun q1 g1 => ?_⟩
      rw [keys_map dkl.keys]
      generalize hH9 : upd H8 q1 (.lst ((g.loads.map (·.1)).map V.str)) = H9
      have s89 : Same H8 H9 := hH9 ▸ same_upd_fresh g1 (Same.refl _)
      have e9 : H9 q1 = some (.lst ((g.loads.map (·.1)).map V.str)) := by rw [← hH9]; exact upd_same
      have ha9 := s89 _ _ ha8
      have hkf9 := s89 _ _ (s68 _ _ hkf)
      walk_at "w"
      refine r_ixL (SqL.of ha9) (v := .ref hh) rfl ?_
      walk_at "w"
      refine ⟨hh, kf, rfl, .inl hkf9, fun q2 g2 => ?_⟩
      rw [keys_map dkf.keys]
      generalize hH10 : upd H9 q2 (.lst ((g.fixed.map (·.1)).map V.str)) = H10
      have s910 : Same H9 H10 := hH10 ▸ same_upd_fresh g2 (Same.refl _)
      have e10 : H10 q2 = some (.lst ((g.fixed.map (·.1)).map V.str)) := by rw [← hH10]; exact upd_same
      walk_at "w"
      refine r_cat (s910 _ _ e9) e10 (by rw [List.length_map, List.length_map, List.length_map, List.length_map]; omega) fun q3 g3 => ?_
      rw [← List.map_append]
      have hpl : (g.loads.map (·.1) ++ g.fixed.map (·.1)).length = g.loads.length + g.fixed.length := by rw [List.length_append, List.length_map, List.length_map]
      have hpS := G.ptsS
      unfold Giv.pts at hpS
      have G1 := G.l1
      generalize g.loads.map (·.1) ++ g.fixed.map (·.1) = pts at hpl hpS ⊢
      generalize hH11 : upd H10 q3 (.lst (pts.map V.str)) = H11
      have s1011 : Same H10 H11 := hH11 ▸ same_upd_fresh g3 (Same.refl _)
      have e11 : H11 q3 = some (.lst (pts.map V.str)) := by rw [← hH11]; exact upd_same
      have s611 := s68.trans ((s89.trans s910).trans s1011)
      have hq3 : p ≠ q3 := Ne.symm ((hp8.same (s89.trans s910)).ne g3)
      have hp11 := hp6.same s611
      have t011 := t06.trans (sx_same s611)
      have e811 : H11 b8 = some (.lst xs8) := ((s89.trans s910).trans s1011) _ _ e8
      clear hkl8 hkf9 ha9 e9 e10 s89 s910 s1011 s611 hH9 hH10 hH11 g1 g2 g3 ha8 hp8 e8 s68
      walk_at "w"
      refine ⟨p, q3, pts, rfl, hp11, hq3, e11, by omega, by omega, fun z hz => (hpS z hz).1, fun x12 z12 ps12 H12 t12 hp12 d12 hz12 hps12 _ hl12 => ?_⟩
      have mk : ∀ (z : Str) (ps : List (Str × Str)), z ∈ pts → (∀ e ∈ ps, (e.1 = "up" ∨ e.1 = "down") ∧ e.2 ∈ pts) → ps.length ≤ 4 → pL (.tup (mkP z ps)) := fun z ps hz hps hl => ⟨z, ps, rfl, fun e he => (hps e he).1, hl, fun x hx => by
        rcases mem_mkP hx with rfl | ⟨e, he, rfl | rfl⟩
        · exact hpS _ hz
        · exact sOk_dir (hps e he).1
        · exact hpS _ (hps e he).2⟩
      have X12 : PX K H12 x12 := ⟨_, mk _ _ hz12 hps12 hl12, d12⟩
      walk_at "w"
      refine ⟨p, q3, pts, rfl, hp12, hq3, t12 _ _ (Ne.symm hq3) e11, by omega, by omega, fun z hz => (hpS z hz).1, fun x13 z13 ps13 H13 t13 hp13 d13 hz13 hps13 _ hl13 => ?_⟩
      have X13 : PX K H13 x13 := ⟨_, mk _ _ hz13 hps13 hl13, d13⟩
      have X12' : PX K H13 x12 := X12.kd (pool_kd hp12 t13)
      have e813 : H13 b8 = some (.lst xs8) := t13 _ _ hb8 (t12 _ _ hb8 e811)
      walk_at "w"
      refine ⟨by show 3 ≤ sizeLine; decide, fun q14 g14 => ?_⟩
      generalize hH14 : upd H13 q14 (.tup [V.str "zz", V.str "up", V.str "a"]) = H14
      have s14 : Same H13 H14 := hH14 ▸ same_upd_fresh g14 (Same.refl _)
      have X14 : PX K H14 (.ref q14) := ⟨.tup ["zz", "up", "a"], ⟨"zz", [("up", "a")], rfl, by decide, by decide, (by decide +kernel : ∀ x ∈ ([("zz" : Str), "up", "a"]), x.length ≤ 1000 ∧ PyData.strOk x = true)⟩, dp_path (p := ["zz", "up", "a"]) (SqT.of (by rw [← hH14]; exact upd_same))⟩
      walk_at "w"
      refine ⟨by show 3 ≤ sizeLine; decide, fun q15 g15 => ?_⟩
      generalize hH15 : upd H14 q15 (.lst [V.str "a", V.str "up", V.str "P"]) = H15
      have s15 : Same H14 H15 := hH15 ▸ same_upd_fresh g15 (Same.refl _)
      have X15 : PX K H15 (.ref q15) := ⟨.lst ["a", "up", "P"], rfl, .lst (SqL.of (by rw [← hH15]; exact upd_same)) (dpAll_of_strs ["a", "up", "P"])⟩
      walk_at "w"
      refine ⟨by show 1 ≤ sizeLine; decide, fun q16 g16 => ?_⟩
      generalize hH16 : upd H15 q16 (.tup [V.str "a"]) = H16
      have s16 : Same H15 H16 := hH16 ▸ same_upd_fresh g16 (Same.refl _)
      have X16 : PX K H16 (.ref q16) := ⟨.tup ["a"], ⟨"a", [], rfl, by decide, by decide, (by decide +kernel : ∀ x ∈ ([("a" : Str)]), x.length ≤ 1000 ∧ PyData.strOk x = true)⟩, dp_path (p := ["a"]) (SqT.of (by rw [← hH16]; exact upd_same))⟩
      have s1316 := (s14.trans s15).trans s16
      have hx5 : ∀ x ∈ [x12, x13, V.ref q14, V.ref q15, V.ref q16], PX K H16 x := by
        intro x hx
        rcases List.mem_cons.mp hx with rfl | hx
        · exact X12'.kd (same_kd s1316)
        rcases List.mem_cons.mp hx with rfl | hx
        · exact X13.kd (same_kd s1316)
        rcases List.mem_cons.mp hx with rfl | hx
        · exact X14.kd (same_kd (s15.trans s16))
        rcases List.mem_cons.mp hx with rfl | hx
        · exact X15.kd (same_kd s16)
        · rw [List.mem_singleton.mp hx]; exact X16
      have hp16 := hp13.same s1316
      have e816 := s1316 _ _ e813
      have t016 := ((t011.trans t12).trans t13).trans (sx_same s1316)
      clear X12 X13 X12' X14 X15 X16 hH14 hH15 hH16 s14 s15 s16 s1316 e813 e811 t12 t13 t011 hp11 hp12 hp13 mk d12 d13 e11
      walk_at "w"
      refine ⟨by show 5 ≤ sizeLine; decide, fun q17 g17 => ?_⟩
      generalize hH17 : upd H16 q17 (.lst [x12, x13, V.ref q14, V.ref q15, V.ref q16]) = H17
      have s17 : Same H16 H17 := hH17 ▸ same_upd_fresh g17 (Same.refl _)
      have e17 : H17 q17 = some (.lst [x12, x13, V.ref q14, V.ref q15, V.ref q16]) := by rw [← hH17]; exact upd_same
      have hq17 := hp16.ne g17
      have S17 : SqL K H17 q17 [x12, x13, V.ref q14, V.ref q15, V.ref q16] := SqL.of e17
      walk_at "w"
      refine ⟨p, 3, rfl, hp16.same s17, by decide, by decide, fun n18 H18 hn18 t18 hp18 => ?_⟩
      walk_at "w"
      have e5 : ∃ x, atI [x12, x13, V.ref q14, V.ref q15, V.ref q16] (2 + (n18 : Int)) = some x ∧ x ∈ [x12, x13, V.ref q14, V.ref q15, V.ref q16] := by
        have hlt : 2 + n18 < ([x12, x13, V.ref q14, V.ref q15, V.ref q16] : List V).length := by show 2 + n18 < 5; omega
        exact ⟨_, by rw [show (2 : Int) + (n18 : Int) = ((2 + n18 : Nat) : Int) by omega]; exact atI_nat (List.getElem?_eq_getElem hlt), List.getElem_mem hlt⟩
      obtain ⟨x18, hx18, hm18⟩ := e5
      refine r_ixL (SqL.of (t18 _ _ hq17 e17)) hx18 ?_
      have kd18 : Kd H16 H18 := (same_kd s17).trans (pool_kd (hp16.same s17) t18)
      have hy5 : ∀ x ∈ [x12, x12, x12, x13, x18], PX K H18 x := by
        intro x hx
        refine PX.kd kd18 (hx5 x ?_)
        rcases List.mem_cons.mp hx with rfl | hx
        · simp
        rcases List.mem_cons.mp hx with rfl | hx
        · simp
        rcases List.mem_cons.mp hx with rfl | hx
        · simp
        rcases List.mem_cons.mp hx with rfl | hx
        · simp
        · rw [List.mem_singleton.mp hx]; exact hm18
      have e818 := t18 _ _ hb8 (s17 _ _ e816)
      have t018 := (t016.trans (sx_same s17)).trans t18
      clear hx5 e816 t016 s17 e17 S17 hH17 t18 kd18 hx18 hm18
      walk_at "w"
      refine ⟨by show 5 ≤ sizeLine; decide, fun q19 g19 => ?_⟩
      generalize hH19 : upd H18 q19 (.lst [x12, x12, x12, x13, x18]) = H19
      have s19 : Same H18 H19 := hH19 ▸ same_upd_fresh g19 (Same.refl _)
      have e19 : H19 q19 = some (.lst [x12, x12, x12, x13, x18]) := by rw [← hH19]; exact upd_same
      have hq19 := hp18.ne g19
      have hp19 := hp18.same s19
      have e819 := s19 _ _ e818
      walk_at "w"
      refine ⟨by show 2 ≤ sizeLine; decide, fun q20 g20 => ?_⟩
      generalize hH20 : upd H19 q20 (.tup [V.int 1, V.int 2]) = H20
      have s20 : Same H19 H20 := hH20 ▸ same_upd_fresh g20 (Same.refl _)
      have F20 : FX K H20 (.ref q20) := ⟨(1, 2), by unfold fL; decide, dp_fr (SqT.of (by rw [← hH20]; exact upd_same))⟩
      walk_at "w"
      refine ⟨by show 2 ≤ sizeLine; decide, fun q21 g21 => ?_⟩
      generalize hH21 : upd H20 q21 (.tup [V.int (-3), V.int 1]) = H21
      have s21 : Same H20 H21 := hH21 ▸ same_upd_fresh g21 (Same.refl _)
      have F21 : FX K H21 (.ref q21) := ⟨(-3, 1), by unfold fL; decide, dp_fr (SqT.of (by rw [← hH21]; exact upd_same))⟩
      walk_at "w"
      refine ⟨by show 2 ≤ sizeLine; decide, fun q22 g22 => ?_⟩
      generalize hH22 : upd H21 q22 (.tup [V.int 0, V.int 1]) = H22
      have s22 : Same H21 H22 := hH22 ▸ same_upd_fresh g22 (Same.refl _)
      have F22 : FX K H22 (.ref q22) := ⟨(0, 1), by unfold fL; decide, dp_fr (SqT.of (by rw [← hH22]; exact upd_same))⟩
      walk_at "w"
      refine ⟨by show 2 ≤ sizeLine; decide, fun q23 g23 => ?_⟩
      generalize hH23 : upd H22 q23 (.tup [V.int 2, V.int 1]) = H23
      have s23 : Same H22 H23 := hH23 ▸ same_upd_fresh g23 (Same.refl _)
      have F23 : FX K H23 (.ref q23) := ⟨(2, 1), by unfold fL; decide, dp_fr (SqT.of (by rw [← hH23]; exact upd_same))⟩
      walk_at "w"
      refine ⟨by show 2 ≤ sizeLine; decide, fun q24 g24 => ?_⟩
      generalize hH24 : upd H23 q24 (.tup [V.int 2, V.int 1]) = H24
      have s24 : Same H23 H24 := hH24 ▸ same_upd_fresh g24 (Same.refl _)
      have F24 : FX K H24 (.ref q24) := ⟨(2, 1), by unfold fL; decide, dp_fr (SqT.of (by rw [← hH24]; exact upd_same))⟩
      walk_at "w"
      refine ⟨by show 2 ≤ sizeLine; decide, fun q25 g25 => ?_⟩
      generalize hH25 : upd H24 q25 (.tup [V.int 1, V.int 0]) = H25
      have s25 : Same H24 H25 := hH25 ▸ same_upd_fresh g25 (Same.refl _)
      have F25 : FX K H25 (.ref q25) := ⟨(1, 0), by unfold fL; decide, dp_fr (SqT.of (by rw [← hH25]; exact upd_same))⟩
      have s1925 : Same H19 H25 := (((((s20.trans s21).trans s22).trans s23).trans s24).trans s25)
      have hp25 := hp19.same s1925
      walk_at "w"
      refine ⟨by show 6 ≤ sizeLine; decide, fun q26 g26 => ?_⟩
      walk_at "w"
      refine pick_at hp25 g26 rfl (by show 0 < 6; decide) (by show 6 ≤ 1000; decide) fun x27 H27 hx27 t27 hp27 kd27 => ?_
      have F27 : FX K H27 x27 := by
        refine FX.kd kd27 ?_
        rcases List.mem_cons.mp hx27 with rfl | hx27
        · exact F20.kd (same_kd ((((s21.trans s22).trans s23).trans s24).trans s25))
        rcases List.mem_cons.mp hx27 with rfl | hx27
        · exact F21.kd (same_kd (((s22.trans s23).trans s24).trans s25))
        rcases List.mem_cons.mp hx27 with rfl | hx27
        · exact F22.kd (same_kd ((s23.trans s24).trans s25))
        rcases List.mem_cons.mp hx27 with rfl | hx27
        · exact F23.kd (same_kd (s24.trans s25))
        rcases List.mem_cons.mp hx27 with rfl | hx27
        · exact F24.kd (same_kd s25)
        · rw [List.mem_singleton.mp hx27]; exact F25
      have e827 := t27 _ _ hb8 (s1925 _ _ e819)
      have e1927 := t27 _ _ hq19 (s1925 _ _ e19)
      have kd1827 : Kd H18 H27 := (same_kd (s19.trans s1925)).trans kd27
      have t027 := t018.trans ((sx_same (s19.trans s1925)).trans t27)
      walk_at "w"
      refine pick_lst hp27 e827 hb8 (by rw [hl8]; rfl) (by rw [hl8]; decide) (by rw [hl8]; decide) fun x28 H28 hx28 t28 hp28 kd28 => ?_
      obtain ⟨z28, rfl, hz28⟩ := hn8 _ hx28
      walk_at "w"
      refine pick_lst hp28 (t28 _ _ hq19 e1927) hq19 rfl (by show 0 < 5; decide) (by show 5 ≤ 1000; decide) fun x29 H29 hx29 t29 hp29 kd29 => ?_
      obtain ⟨pv, hpv, dpv⟩ := (hy5 _ hx29).kd ((kd1827.trans kd28).trans kd29)
      obtain ⟨ff, hff, dff⟩ := F27.kd (kd28.trans kd29)
      walk_at "w"
      refine ⟨by show 6 ≤ sizeLine; decide, fun q30 g30 => ?_⟩
      have s30 : Same H29 (upd H29 q30 (.tup [V.str u4, V.str n5, V.str "rope", V.str z28, x29, x27])) := same_upd_fresh g30 (Same.refl _)
      exact q _ (.en (.rope u4 n5 z28 pv ff)) _ (((t027.trans t28).trans t29).trans (sx_same s30)) (hp29.same s30) (.tup (SqT.of upd_same) (.cons (.str _) (.cons (.str _) (.cons (.str _) (.cons (.str _) (.cons (dp_kd (same_kd s30) (np_pv _) dpv) (.cons (dp_kd (same_kd s30) (np_fr _) dff) .nil))))))) ⟨hu4, hn5, hz28, hpv, hff⟩
    clear hc hc2
    walk_at "w"
    refine ite2 (fun hc3 => ?_) (fun hc3 => ?_)
    · walk_at "w"
      refine r_ixL (SqL.of ha) (v := .ref r) rfl ?_
      walk_at "w"
      refine ⟨r, kr, rfl, .inl hkr, fun q1 g1 => ?_⟩
      rw [keys_map dkr.keys]
      generalize hH7 : upd H6 q1 (.lst ((g.ropes.map (·.1)).map V.str)) = H7
      have s7 : Same H6 H7 := hH7 ▸ same_upd_fresh g1 (Same.refl _)
      have e7 : H7 q1 = some (.lst ((g.ropes.map (·.1)).map V.str)) := by rw [← hH7]; exact upd_same
      walk_at "w"
      refine ⟨by show 1 ≤ sizeLine; decide, fun q2 g2 => ?_⟩
      generalize hH8 : upd H7 q2 (.lst [V.str "pq"]) = H8
      have s8 : Same H7 H8 := hH8 ▸ same_upd_fresh g2 (Same.refl _)
      have e8 : H8 q2 = some (.lst [V.str "pq"]) := by rw [← hH8]; exact upd_same
      walk_at "w"
      refine r_cat (s8 _ _ e7) e8 (by rw [List.length_map, List.length_map]; show g.ropes.length + 1 ≤ 100000; omega) fun q3 g3 => ?_
      have s68 := s7.trans s8
      have ha8 := (s68.trans (same_upd_fresh (o := .lst ((g.ropes.map (·.1)).map V.str ++ [V.str "pq"])) g3 (Same.refl _))) _ _ ha
      have hkr8 := (s68.trans (same_upd_fresh (o := .lst ((g.ropes.map (·.1)).map V.str ++ [V.str "pq"])) g3 (Same.refl _))) _ _ hkr
      walk_at "w"
      refine r_ixL (SqL.of ha8) (v := .ref r) rfl ?_
      walk_at "w"
      refine pick_at (hp6.same s68) g3 (by rw [List.length_append, List.length_map, List.length_map, lkr]; rfl) (by rw [List.length_append]; show 0 < _ + 1; omega) (by rw [List.length_append, List.length_map, List.length_map]; show g.ropes.length + 1 ≤ 1000; omega) fun x9 H9 hx9 t9 hp9 kd9 => ?_
      obtain ⟨z, rfl, hz⟩ : ∃ z, x9 = .str z ∧ sOk z := by
        rcases List.mem_append.mp hx9 with h | h
        · obtain ⟨z, hz, rfl⟩ := List.mem_map.mp h
          obtain ⟨e, he, rfl⟩ := List.mem_map.mp hz
          exact ⟨_, rfl, sOk_small (G.rw_ e he).1⟩
        · exact ⟨"pq", List.mem_singleton.mp h, by decide, by decide +kernel⟩
      walk_at "w"
      refine ⟨by show 4 ≤ sizeLine; decide, fun q16 g16 => ?_⟩
      have s16 : Same H9 (upd H9 q16 (.tup [V.str u4, V.str n5, V.str "drop", V.str z])) := same_upd_fresh g16 (Same.refl _)
      exact q _ (.en (.drop u4 n5 z)) _ ((t06.trans (sx_same s68)).trans (t9.trans (sx_same s16))) (hp9.same s16) (.tup (SqT.of upd_same) (.cons (.str _) (.cons (.str _) (.cons (.str _) (.cons (.str _) .nil))))) ⟨hu4, hn5, hz⟩
    · walk_at "w"
      refine ⟨by show 3 ≤ sizeLine; decide, fun q16 g16 => ?_⟩
      have s16 : Same H6 (upd H6 q16 (.tup [V.str u4, V.str n5, V.str "undo"])) := same_upd_fresh g16 (Same.refl _)
      exact q _ (.undo u4 n5) _ (t06.trans (sx_same s16)) (hp6.same s16) (.tup (SqT.of upd_same) (.cons (.str _) (.cons (.str _) (.cons (.str _) .nil)))) ⟨hu4, hn5⟩
end
end PW

/-! ##### LH -/
set_option Elab.async false
set_option linter.all false
set_option maxRecDepth 100000
set_option maxHeartbeats 2000000
namespace PW
open PySem PySem.Spec PyProof.Rows L2 He PWL

open PWW
/-! ### the law's due -/
def erD : Er → PyData
  | .unknown z => .tuple [.str "unknown", .str z]
  | .number f => .tuple [.str "number", frD f]
  | .name z => .tuple [.str "name", .str z]
  | .rope z => .tuple [.str "rope", .str z]
  | .limit n => .tuple [.str "limit", .int n]
  | .nothing => .tuple [.str "nothing", .none]
theorem np_er (x : Er) : np (erD x) = true := by cases x <;> rfl
def resW (w : W2) (e : En) : Except Er W2 := if wordOk e.u SMALL = true then (if isNb e.n = true then doW w e else .error (.unknown e.n)) else .error (.name e.u)
theorem word_u {u : Str} (h : uL u) : wordOk u SMALL = decide (u ≠ "Ann") := by
  rcases h with rfl | rfl | rfl <;> decide +kernel
theorem word_n {n : Str} (h : nL n) : isNb n = decide (n ≠ "zz") := by
  rcases h with rfl | rfl | rfl <;> decide +kernel
theorem resW_ann {w : W2} {e : En} (hu : uL e.u) (h : e.u = "Ann") : resW w e = .error (.name e.u) := by
  unfold resW
  rw [if_neg]
  rw [word_u hu, decide_eq_true_eq]
  exact fun z => z h
theorem resW_zz {w : W2} {e : En} (hu : uL e.u) (h : e.u ≠ "Ann") (hn : nL e.n) (h2 : e.n = "zz") : resW w e = .error (.unknown e.n) := by
  unfold resW
  rw [if_pos (by rw [word_u hu, decide_eq_true_eq]; exact h), if_neg]
  rw [word_n hn, decide_eq_true_eq]
  exact fun z => z h2
theorem resW_do {w : W2} {e : En} (hu : uL e.u) (h : e.u ≠ "Ann") (hn : nL e.n) (h2 : e.n ≠ "zz") : resW w e = doW w e := by
  unfold resW
  rw [if_pos (by rw [word_u hu, decide_eq_true_eq]; exact h), if_pos (by rw [word_n hn, decide_eq_true_eq]; exact h2)]
theorem isN_of {n : Str} (h : nL n) (h2 : n ≠ "zz") : isN n := by
  rcases h with h | h | h
  · exact .inl h
  · exact .inr h
  · exact absurd h h2
def DueAt (K : PySem.W.Frag) (H : Hp) (x : V) : Except Er W2 → Prop
  | .ok _ => x = .non
  | .error er => Dp K H x (erD er)
def pvHolds (x : PVal) (pts : List Str) : Bool := match x with
  | .tup p => decide (3 ≤ p.length) && (every2 p).all (fun z => decide (z ∈ pts))
  | .lst _ => false
theorem holds_ok {x : PVal} {pts : List Str} (h : pL x) : pvHolds x pts = pvOk x pts := by
  cases x with
  | lst p => rfl
  | tup p =>
    obtain ⟨z, ps, rfl, hd, hl, _⟩ := h
    show (decide (3 ≤ (mkP z ps).length) && (every2 (mkP z ps)).all (fun z => decide (z ∈ pts))) = pathOk (mkP z ps) pts
    rw [pathOk_mkP hd (by omega), every2_mkP, len_mkP]
    congr 1
    exact decide_eq_decide.mpr (by omega)
theorem eqv_fr (f g : Int × Int) : PyData.eqv (frD f) (frD g) = decide (f = g) := by
  obtain ⟨a, b⟩ := f
  obtain ⟨c, d⟩ := g
  simp only [frD, PyData.eqv, PyData.eqvAll, Bool.and_true]
  rw [Bool.eq_iff_iff]
  simp [Prod.ext_iff]
theorem in_num {f : Int × Int} (h : ldL f) : ([frD (-1, 2), frD (2, 4)].any fun z => PyData.eqv z (frD f)) = !ldOk f := by
  rw [List.any_cons, List.any_cons, List.any_nil, eqv_fr, eqv_fr]
  rcases h with h | rfl | rfl
  · rw [h]
    have h1 : ¬ ((-1, 2) : Int × Int) = f := fun e => by rw [← e] at h; revert h; decide +kernel
    have h2 : ¬ ((2, 4) : Int × Int) = f := fun e => by rw [← e] at h; revert h; decide +kernel
    rw [decide_eq_false h1, decide_eq_false h2]
    rfl
  · decide +kernel
  · decide +kernel
theorem in_P : ∀ {r : Str}, rL r → inV (.str r) [V.str "P", V.str ""] = !wordOk r SMALL := by
  intro r h
  unfold rL at h
  revert r
  decide +kernel
theorem eq_10 : ∀ {f : Int × Int}, fL f → PyData.eqv (frD f) (frD (1, 0)) = !frOk' f := by
  intro f h
  rw [eqv_fr]
  unfold fL at h
  revert f
  decide +kernel
/-- strings that are not of some others -/
theorem strs_nil (fl : List Str) : PyData.eqv (.list (fl.map .str)) (.list []) = decide (fl = []) := by
  cases fl with
  | nil => rfl
  | cons a t =>
    rw [decide_eq_false (fun h => nomatch h)]
    rfl
theorem filter_nil {α : Type} (f : α → Bool) (xs : List α) : decide (xs.filter (fun z => !f z) = [] ) = xs.all f := by
  rw [Bool.eq_iff_iff, decide_eq_true_eq, List.all_eq_true, List.filter_eq_nil_iff]
  exact ⟨fun h x hx => by simpa using h x hx, fun h x hx => by simpa using h x hx⟩
def spPHolds (K : PySem.W.Frag) : Sp := fun vs H Q _ => ∃ (x : V) (b : Addr) (pv : PVal) (pts : List Str), vs = [x, .ref b] ∧ H b = some (.lst (pts.map .str)) ∧ Dp K H x (pvD pv) ∧ pL pv ∧ ∀ H', Same H H' → Q (.bl (pvHolds pv pts)) H'
theorem dp_lst_inv {K : PySem.W.Frag} {H : Hp} {v : V} {ds : List PyData} (h : Dp K H v (.list ds)) : ∃ a xs, v = .ref a ∧ SqL K H a xs := by
  cases h with
  | lst hx ha => exact ⟨_, _, rfl, hx⟩
def spDue (K : PySem.W.Frag) : Sp := fun vs H Q _ => ∃ (v y : V) (w : W2) (e : En), vs = [v, y] ∧ LawW K H v w ∧ WOk w ∧ Dp K H y (enD e) ∧ enL e ∧ ∀ x H', Same H H' → DueAt K H' x (resW w e) → Q x H'
theorem doG_load {g : Giv} {u n h : Str} {f : Int × Int} : doG g (.load u n h f) = if hasA g.loads h = true then (if ldOk f = true then .ok { g with loads := putA g.loads h f } else .error (.number f)) else .error (.unknown h) := rfl
theorem doW_cases {w : W2} {e : En} : doW w e = match doG (w.get e.n) e with
    | .ok g => .ok (w.put e.n g)
    | .error x => .error x := rfl
local macro_rules | `(tactic| walk_at "w") => `(tactic| (repeat (first | with_reducible refine w_seq ?_ | with_reducible refine w_ret ?_ | with_reducible refine w_asg ?_ | with_reducible refine w_ifs ?_ | with_reducible refine w_drop ?_ | with_reducible refine w_next ?_ | with_reducible refine w_cont ?_ | with_reducible refine w_par ?_ | with_reducible refine w_par3 ?_ | with_reducible refine w_three ?_ | with_reducible refine w_two ?_ | with_reducible refine w_name ?_ | with_reducible refine w_c ?_ | with_reducible refine w_op ?_ | with_reducible refine w_un ?_ | with_reducible refine w_cb ?_ | with_reducible refine w_cons ?_ | with_reducible refine w_nil ?_ | with_reducible refine w_tup ?_ | with_reducible refine w_lst ?_ | with_reducible refine w_test ?_ | with_reducible refine w_B ?_ | with_reducible refine w_k ?_ | with_reducible refine w_ki ?_ | with_reducible refine w_and ?_ | with_reducible refine w_or ?_ | with_reducible refine w_not ?_ | with_reducible refine w_andV ?_ | with_reducible refine w_orV ?_ | with_reducible refine w_notV ?_ | with_reducible refine w_if ?_ | with_reducible refine w_yes ?_ | with_reducible refine w_isN ?_ | with_reducible refine w_chain ?_ | with_reducible refine w_sl ?_ | with_reducible refine w_noPart ?_ | with_reducible refine w_part ?_ | with_reducible refine w_fld ?_ | with_reducible refine w_dget ?_ | with_reducible refine w_din ?_ | with_reducible refine w_dnotin ?_ | with_reducible refine w_dput ?_ | with_reducible refine w_newK ?_ | with_reducible refine w_sfld ?_ | with_reducible refine w_methR ?_ | with_reducible refine w_propR ?_ | with_reducible refine w_sl2 ?_ | with_reducible refine w_star ?_ | with_reducible refine w_retN ?_ | with_reducible refine w_gcons ?_ | with_reducible refine w_gnil ?_ | with_reducible refine r_i0 ?_ | with_reducible refine r_u ?_ | with_reducible refine r_eqi ?_ | with_reducible refine r_nei ?_ | with_reducible refine r_eqs ?_ | with_reducible refine r_nes ?_ | with_reducible refine iteT ?_ | with_reducible refine iteF ?_ | with_reducible refine w_lc ?_ | with_reducible refine w_dc ?_ | with_reducible refine w_for ?_ | with_reducible refine w_istr ?_ | with_reducible refine w_ilist ?_ | with_reducible refine w_itup ?_ | with_reducible refine w_irng1 ?_ | with_reducible refine w_irng2 ?_ | with_reducible refine w_ienum ?_ | with_reducible refine w_iitems ?_ | with_reducible refine w_ikeysT ?_ | with_reducible refine w_makeK ?_ | with_reducible refine w_methSN ?_ | with_reducible refine w_makeR ?_ | with_reducible refine w_callR ?_ | with_reducible refine w_dmerge ?_ | with_reducible refine w_ks ?_ | with_reducible refine w_kr ?_ | with_reducible refine isi_int_int ?_ | with_reducible refine isi_int_bool ?_ | with_reducible refine isi_str_str ?_ | with_reducible refine w_1i ?_ | with_reducible refine w_nn ?_ | with_reducible refine w_int_i ?_ | with_reducible refine w_int_b ?_ | ((with_reducible apply w_var); rfl) | ((with_reducible apply r_ixT); assumption; rfl) | ((with_reducible apply r_ixL); assumption; rfl) | ((with_reducible apply isi_tup_tup); assumption) | ((with_reducible apply isi_dict_dict); assumption) | ((with_reducible apply r_lenD); assumption) | ((with_reducible apply r_lenT); assumption) | ((with_reducible apply r_lenL); assumption) | ((with_reducible refine r_all (SqL.of ?_) ?_); assumption) | ((with_reducible apply r_fld); assumption; exact Cn.cls (by assumption) _; exact Cn.noat (by assumption) _ _; first | rfl | assumption) | ((with_reducible apply ite_t); rfl) | ((with_reducible apply ite_f); rfl))))
section
variable {P : Program} {w : World} {K : PySem.W.Frag} {mg : Str → Option Value} {base : Heap}
theorem F__law_path_holds (C : Cn P K mg) : FnR P w K mg base (L2.CX P w) 1 (ga K "_law_path_holds") (spPHolds K) := by
  obtain ⟨fd, F⟩ := C.d__law_path_holds
  have sc : FnScope ["_law_path_here", "_law_points", "_law_point"] ["_law_path_here", "_law_points"] (defScope (top 63)) := ⟨rfl, rfl, rfl, by decide +kernel, rfl, by decide +kernel, by decide +kernel⟩
  refine fnR_nox F sc ?len (fun _ _ _ _ _ _ us hl => match us, hl with | [_, _], _ => rfl) ?body
  case len => exact fun vs H Q E h => by obtain ⟨_, _, _, _, rfl, _⟩ := h; rfl
  case body =>
    intro cdv A outer s H vs Q E hr h
    obtain ⟨x, b, pw, pts, rfl, hb, dx, hpw, q⟩ := h
    refine ⟨_, (pss_cons (ps_if (PW.pt (pw_or (pt_not (pt_val (pe_callB (call_isi : CallR _ _ (rIsi K)) (by rfl) (C.free "isinstance") b_isinstance (pa_cons (pv 0) (pa_cons (pe_bltn (by rfl) (C.free "tuple") b_tuple (v := .ty "tuple") rfl) pa_nil))))) (pw_or1 (pt_cmpR op_lt (pe_callB (call_lenSq : CallR _ _ (rLenSq K)) (by rfl) (C.free "len") b_len (pa_cons (pv 0) pa_nil)) pe_int (nomark _))))) (pss_one (ps_ret pe_bl)) pss_nil) (pss_one (ps_ret (pe_cmpR (op_eqD hr.units : OpR _ _ (rEqD K)) (pe_lc (own := [("_law_point", 2)]) rfl sc.nd (pi_tup (pe_sl2 (pv 0) po_none : PE _ _ (tSl2 K _ _))) (blkOk_by (N := ["_law_path_here", "_law_points", "_law_point"]) (sc := defScope (top 63)) (by decide +kernel)) (fun _ _ _ _ _ => (pg_name (i := 2) sc.nd rfl (Or.inl rfl))) (fun _ _ _ _ _ => pts_one (pt_cmpR (op_notIn_seq : OpR _ _ (rIn K true)) (pv 2) (pv 1) (by rfl))) (fun _ _ _ _ _ => (pv 2))) (pe_lst pa_nil) (nomark _))))), ?_⟩
    cases pw with
    | lst p =>
      obtain ⟨a, xs, rfl, hS⟩ := dp_lst_inv dx
      walk_at "w"
      refine isi_lst_tup hS ?_
      walk_at "w"
      exact q H (Same.refl _)
    | tup p =>
      obtain ⟨a, rfl, hS⟩ := dp_path_inv dx
      have hS0 := hpw
      obtain ⟨z, ps, rfl, hd, hl4, hok⟩ := hpw
      walk_at "w"
      rw [List.length_map]
      refine ite2 (fun hc => ?_) (fun hc => ?_)
      · have h3 := of_decide_eq_true hc
        have e : pvHolds (.tup (mkP z ps)) pts = false := by
          show (decide (3 ≤ (mkP z ps).length) && _) = false
          rw [decide_eq_false (by omega), Bool.false_and]
        rw [e] at q
        walk_at "w"
        exact q H (Same.refl _)
      · have h3 : ¬ (((mkP z ps).length : Nat) : Int) < 3 := fun e => hc (decide_eq_true e)
        have e : pvHolds (.tup (mkP z ps)) pts = (every2 (mkP z ps)).all (fun z => decide (z ∈ pts)) := by
          show (decide (3 ≤ (mkP z ps).length) && _) = _
          rw [decide_eq_true (by omega), Bool.true_and]
        rw [e] at q
        generalize hmk : mkP z ps = p at *
        walk_at "w"
        refine ⟨_, _, 0, rfl, hS, Nat.zero_le _, .inl ⟨rfl, rfl⟩, fun t ht => ?_⟩
        walk_at "w"
        have hT : SqT K (upd H t (.tup (every2 (List.drop 0 (p.map V.str))))) t ((every2 p).map V.str) := by
          rw [List.drop_zero, every2_map]
          exact SqT.of upd_same
        have sT : Same H (upd H t (.tup (every2 (List.drop 0 (p.map V.str))))) := same_upd_fresh ht (Same.refl _)
        refine ⟨⟨_, hT⟩, fun D2 hD2 => ?_⟩
        have hel := every2_length p
        have hpl : p.length ≤ 9 := by rw [← hmk, len_mkP]; omega
        refine lc_it walk_tup (PvA _ D2 fun i => (((every2 p).take i).filter fun z => !decide (z ∈ pts)).map V.str) (pva_0 hD2 rfl) (fun i H1 _ pv => sqT_same pv.2.1 hT) (fun i x H1 H2 hi pv y => ?_) (fun H2 pv2 => ?_)
        · obtain ⟨rfl, hx⟩ := y
          obtain ⟨c, hc, rfl⟩ := at_strs hx
          walk_at "w"
          refine ⟨rfl, ?_⟩
          walk_at "w"
          refine r_notin (.inl (SqL.of ((sT.trans pv.2.1) _ _ hb))) rfl (flat_strs _) ?_
          rw [inV_strs]
          refine w_k ?_
          by_cases hz : c ∈ pts
          · rw [decide_eq_true hz]
            refine iteF ?_
            refine pva_skip pv (Same.refl _) ?_
            rw [List.take_add_one, hc, Option.toList_some, List.filter_append, List.filter_cons, decide_eq_true hz]
            simp
          · rw [decide_eq_false hz]
            refine iteT ?_
            walk_at "w"
            refine pva_step pv (Same.refl _) ?_ ?_
            · rw [List.take_add_one, hc, Option.toList_some, List.filter_append, List.filter_cons, decide_eq_false hz, List.map_append]
              rfl
            · rw [List.length_map]
              have h1 := List.length_filter_le (fun z => !decide (z ∈ pts)) ((every2 p).take i)
              have h2 : ((every2 p).take i).length ≤ (every2 p).length := by rw [List.length_take]; omega
              omega
        have hfl := pv2.2.2
        rw [List.length_map] at hfl
        dsimp only at hfl
        rw [List.take_length] at hfl
        walk_at "w"
        refine w_fresh (by simp) fun t0 ht0 => ?_
        have s23 : Same H2 (upd H2 t0 (.lst [])) := same_upd_fresh ht0 (Same.refl _)
        have hm : ∀ x ∈ (every2 p).filter (fun z => !decide (z ∈ pts)), x ∈ p := fun x hx => by
          have h1 := (List.mem_filter.mp hx).1
          rw [← hmk, every2_mkP] at h1
          rw [← hmk]
          rcases List.mem_cons.mp h1 with rfl | h1
          · unfold mkP; exact List.mem_cons_self
          · obtain ⟨e, he, rfl⟩ := List.mem_map.mp h1
            unfold mkP
            refine List.mem_cons_of_mem _ (List.mem_flatten.mpr ⟨[e.1, e.2], List.mem_map.mpr ⟨e, he, rfl⟩, ?_⟩)
            simp
        refine r_eqD (.lst (SqL.of (s23 _ _ hfl)) (dpAll_of_strs _)) (.lst (SqL.of upd_same) .nil) ((sh_lst (sh_strs fun x hx => (hok x (hm x hx)).2)).ok (by decide)) (by decide +kernel) ?_
        rw [strs_nil, filter_nil]
        exact q _ ((sT.trans pv2.2.1).trans s23)
theorem F__law_due (C : Cn P K mg) : FnR P w K mg base (L2.CX P w) 2 (ga K "_law_due") (spDue K) := by
  obtain ⟨fd, F⟩ := C.d__law_due
  have sc : FnScope ["_law_states", "_law_entry_here", "_law_given_here"] ["_law_states", "_law_entry_here"] (defScope (top 64)) := ⟨rfl, rfl, rfl, by decide +kernel, rfl, by decide +kernel, by decide +kernel⟩
  refine fnR_nox F sc ?len (fun _ _ _ _ _ _ us hl => match us, hl with | [_, _], _ => rfl) ?body
  case len => exact fun vs H Q E h => by obtain ⟨_, _, _, _, rfl, _⟩ := h; rfl
  case body =>
    intro cdv A outer s H vs Q E hr h
    obtain ⟨v, y, w2, e, rfl, hW, W, dy, hL, q⟩ := h
    have F__law_path_holds := F__law_path_holds (w := w) (base := base) C
    obtain ⟨d, a1, a2, rfl, hd, hg1, hg2, _⟩ := id hW
    refine ⟨_, (pss_cons (ps_if (pt_cmpR op_eq (pe_ix (ix_tup : IxR _ (rIxT K)) (pv 1) pe_int (fun _ _ => rfl)) pe_str (nomark _)) (pss_one (ps_ret (pe_tup (pa_cons pe_str (pa_cons pe_str pa_nil))))) pss_nil) (pss_cons (ps_if (pt_cmpR op_eq (pe_ix (ix_tup : IxR _ (rIxT K)) (pv 1) pe_int (fun _ _ => rfl)) pe_str (nomark _)) (pss_one (ps_ret (pe_tup (pa_cons pe_str (pa_cons pe_str pa_nil))))) pss_nil) (pss_cons (ps_set (i := 2) sc.nd rfl (Or.inl rfl) (pe_dget (hu_of hr) (pv 0) (pe_ix (ix_tup : IxR _ (rIxT K)) (pv 1) pe_int (fun _ _ => rfl)) (fun _ _ => rfl))) (pss_cons (ps_if (pt_cmpR op_eq (pe_ix (ix_tup : IxR _ (rIxT K)) (pv 1) pe_int (fun _ _ => rfl)) pe_str (nomark _)) (pss_cons (ps_if (pt_cmp (pc_dnotin (hu_of hr) (pe_ix (ix_tup : IxR _ (rIxT K)) (pv 1) pe_int (fun _ _ => rfl)) (pe_ix (ix_list : IxR _ (rIxL K)) (pv 2) pe_int (fun _ _ => rfl)))) (pss_one (ps_ret (pe_tup (pa_cons pe_str (pa_cons (pe_ix (ix_tup : IxR _ (rIxT K)) (pv 1) pe_int (fun _ _ => rfl)) pa_nil))))) pss_nil) (pss_one (ps_ret (pe_ifExp (pt_cmpR (op_inD (room65 hr) : OpR _ _ (rInD K)) (pe_ix (ix_tup : IxR _ (rIxT K)) (pv 1) pe_int (fun _ _ => rfl)) (pe_lst (pa_cons (pe_tup (pa_cons (pe_un un_neg pe_int) (pa_cons pe_int pa_nil))) (pa_cons (pe_tup (pa_cons pe_int (pa_cons pe_int pa_nil))) pa_nil))) (by rfl)) (pe_tup (pa_cons pe_str (pa_cons (pe_ix (ix_tup : IxR _ (rIxT K)) (pv 1) pe_int (fun _ _ => rfl)) pa_nil))) pe_non)))) pss_nil) (pss_cons (ps_if (pt_cmpR op_eq (pe_ix (ix_tup : IxR _ (rIxT K)) (pv 1) pe_int (fun _ _ => rfl)) pe_str (nomark _)) (pss_one (ps_ret (pe_ifExp (pt_cmp (pc_din (hu_of hr) (pe_ix (ix_tup : IxR _ (rIxT K)) (pv 1) pe_int (fun _ _ => rfl)) (pe_ix (ix_list : IxR _ (rIxL K)) (pv 2) pe_int (fun _ _ => rfl)))) pe_non (pe_tup (pa_cons pe_str (pa_cons (pe_ix (ix_tup : IxR _ (rIxT K)) (pv 1) pe_int (fun _ _ => rfl)) pa_nil)))))) pss_nil) (pss_cons (ps_if (pt_cmpR (op_in_seq : OpR _ _ (rIn K false)) (pe_ix (ix_tup : IxR _ (rIxT K)) (pv 1) pe_int (fun _ _ => rfl)) (pe_tup (pa_cons pe_str (pa_cons pe_str pa_nil))) (by rfl)) (pss_one (ps_ret (pe_tup (pa_cons pe_str (pa_cons (pe_ix (ix_tup : IxR _ (rIxT K)) (pv 1) pe_int (fun _ _ => rfl)) pa_nil))))) pss_nil) (pss_cons (ps_if (PW.pt (pw_or (pt_cmpR (op_eqD hr.units : OpR _ _ (rEqD K)) (pe_ix (ix_tup : IxR _ (rIxT K)) (pv 1) pe_int (fun _ _ => rfl)) (pe_tup (pa_cons pe_int (pa_cons pe_int pa_nil))) (nomark _)) (pw_or1 (pt_not (pt_val (pe_callR F__law_path_holds (hr.mono (by decide)) (by rfl) (C.g "_law_path_holds") (C.keep "_law_path_holds") passL (pa_cons (pe_ix (ix_tup : IxR _ (rIxT K)) (pv 1) pe_int (fun _ _ => rfl)) (pa_cons (pe_op op_cat (pe_callTy (call_listD rfl) (by rfl) (C.free "list") b_list (pa_cons (pe_ix (ix_list : IxR _ (rIxL K)) (pv 2) pe_int (fun _ _ => rfl)) pa_nil)) (pe_callTy (call_listD rfl) (by rfl) (C.free "list") b_list (pa_cons (pe_ix (ix_list : IxR _ (rIxL K)) (pv 2) pe_int (fun _ _ => rfl)) pa_nil))) pa_nil)))))))) (pss_one (ps_ret (pe_tup (pa_cons pe_str (pa_cons (pe_ix (ix_tup : IxR _ (rIxT K)) (pv 1) pe_int (fun _ _ => rfl)) pa_nil))))) pss_nil) (pss_one (ps_ret (pe_ifExp (PW.pt (pw_and (pt_cmpR op_eq (pe_callB call_lenD (by rfl) (C.free "len") b_len (pa_cons (pe_ix (ix_list : IxR _ (rIxL K)) (pv 2) pe_int (fun _ _ => rfl)) pa_nil)) pe_int (nomark _)) (pw_and1 (pt_cmp (pc_dnotin (hu_of hr) (pe_ix (ix_tup : IxR _ (rIxT K)) (pv 1) pe_int (fun _ _ => rfl)) (pe_ix (ix_list : IxR _ (rIxL K)) (pv 2) pe_int (fun _ _ => rfl))))))) (pe_tup (pa_cons pe_str (pa_cons pe_int pa_nil))) pe_non)))))))))), ?_⟩
    have ann : ∀ {Q' : V → Hp → Prop} (p : Addr) (n : Str), uL e.u → e.u = "Ann" → n = e.u → H p = none → Dp K (upd H p (.tup [V.str "name", V.str "Ann"])) (.ref p) (erD (.name e.u)) := by
      intro Q' p n hu h1 h2 hp
      rw [h1]
      exact .tup (SqT.of upd_same) (.cons (.str _) (.cons (.str _) .nil))
    cases e with
    | load u n z f =>
      obtain ⟨ea, fv, rfl, hS, hf⟩ := dp_load_inv dy
      obtain ⟨hu, hn, hz, hld⟩ := hL
      walk_at "w"
      by_cases h1 : u = "Ann"
      · rw [resW_ann (e := .load u n z f) hu h1] at q
        refine ite_t (decide_eq_true h1) ?_
        walk_at "w"
        refine ⟨by show 2 ≤ sizeLine; decide, fun p hp => ?_⟩
        refine q _ _ (same_upd_fresh hp (Same.refl _)) ?_
        show Dp K _ _ (erD (.name u))
        rw [h1]
        exact .tup (SqT.of upd_same) (.cons (.str _) (.cons (.str _) .nil))
      refine ite_f (decide_eq_false h1) ?_
      walk_at "w"
      by_cases h2 : n = "zz"
      · rw [resW_zz (e := .load u n z f) hu h1 hn h2] at q
        refine ite_t (decide_eq_true h2) ?_
        walk_at "w"
        refine ⟨by show 2 ≤ sizeLine; decide, fun p hp => ?_⟩
        refine q _ _ (same_upd_fresh hp (Same.refl _)) ?_
        show Dp K _ _ (erD (.unknown n))
        rw [h2]
        exact .tup (SqT.of upd_same) (.cons (.str _) (.cons (.str _) .nil))
      refine ite_f (decide_eq_false h2) ?_
      rw [resW_do (e := .load u n z f) hu h1 hn h2] at q
      have hN := isN_of hn h2
      obtain ⟨a, hval, hga⟩ := LawW.val (d := d) (a1 := a1) (a2 := a2) hN hg1 hg2
      obtain ⟨l, r, hh, ha, hl, hro, hfx⟩ : ∃ l r h, H a = some (.lst [.ref l, .ref r, .ref h]) ∧ DictE K H frD l (w2.get n).loads ∧ DictE K H ropeD r (w2.get n).ropes ∧ DictE K H frD h (w2.get n).fixed := hga
      obtain ⟨kl, hkl, dkl⟩ := id hl
      walk_at "w"
      refine r_dgetS (.inl hd) hval ?_
      walk_at "w"
      refine r_ixL (SqL.of ha) (v := .ref l) rfl ?_
      walk_at "w"
      refine ⟨l, valV kl (.inr z), rfl, .inl ⟨kl, .inr z, .inl hkl, rfl, rfl⟩, ?_⟩
      rw [isSome_val dkl z]
      refine w_k ?_
      cases c1 : hasA (w2.get n).loads z with
      | false =>
        refine iteT ?_
        walk_at "w"
        refine ⟨by show 2 ≤ sizeLine; decide, fun p hp => ?_⟩
        rw [show doW w2 (.load u n z f) = .error (.unknown z) by simp [doW, doG, En.n, c1]] at q
        exact q _ _ (same_upd_fresh hp (Same.refl _)) (.tup (SqT.of upd_same) (.cons (.str _) (.cons (.str _) .nil)))
      | true =>
        refine iteF ?_
        walk_at "w"
        refine ⟨by show 2 ≤ sizeLine; decide, fun p1 f1 => ?_⟩
        generalize hH1 : upd H p1 (.tup [V.int (-1), V.int 2]) = H1
        have s1 : Same H H1 := hH1 ▸ same_upd_fresh f1 (Same.refl _)
        have e1 : H1 p1 = some (.tup [V.int (-1), V.int 2]) := by rw [← hH1]; exact upd_same
        walk_at "w"
        refine ⟨by show 2 ≤ sizeLine; decide, fun p2 f2 => ?_⟩
        generalize hH2 : upd H1 p2 (.tup [V.int 2, V.int 4]) = H2
        have s2 : Same H1 H2 := hH2 ▸ same_upd_fresh f2 (Same.refl _)
        have e2 : H2 p2 = some (.tup [V.int 2, V.int 4]) := by rw [← hH2]; exact upd_same
        walk_at "w"
        refine ⟨by show 2 ≤ sizeLine; decide, fun p3 f3 => ?_⟩
        generalize hH3 : upd H2 p3 (.lst [V.ref p1, V.ref p2]) = H3
        have s3 : Same H2 H3 := hH3 ▸ same_upd_fresh f3 (Same.refl _)
        have e3 : H3 p3 = some (.lst [V.ref p1, V.ref p2]) := by rw [← hH3]; exact upd_same
        have s03 := (s1.trans s2).trans s3
        have hf3 := dp_kd (same_kd s03) (np_fr _) hf
        refine ⟨_, [frD (-1, 2), frD (2, 4)], hf3, .lst (SqL.of e3) (.cons (dp_fr (SqT.of (s3 _ _ (s2 _ _ e1)))) (.cons (dp_fr (SqT.of (s3 _ _ e2))) .nil)), (sh_fr _).ok (by decide), by decide +kernel, ?_⟩
        rw [in_num hld]
        refine w_k ?_
        have hS3 := sqT_same s03 hS
        cases c2 : ldOk f with
        | true =>
          refine iteF ?_
          walk_at "w"
          rw [show doW w2 (.load u n z f) = .ok (w2.put n { w2.get n with loads := putA (w2.get n).loads z f }) by simp [doW, doG, En.n, c1, c2]] at q
          exact q _ _ s03 rfl
        | false =>
          refine iteT ?_
          walk_at "w"
          refine ⟨by show 2 ≤ sizeLine; decide, fun p hp => ?_⟩
          rw [show doW w2 (.load u n z f) = .error (.number f) by simp [doW, doG, En.n, c1, c2]] at q
          have sp := same_upd_fresh (o := .tup [V.str "number", fv]) hp (Same.refl H3)
          exact q _ _ (s03.trans sp) (.tup (SqT.of upd_same) (.cons (.str _) (.cons (dp_kd (same_kd sp) (np_fr _) hf3) .nil)))
    | drop u n z =>
      obtain ⟨ea, rfl, hS⟩ := dp_drop_inv dy
      obtain ⟨hu, hn, hz⟩ := hL
      walk_at "w"
      by_cases h1 : u = "Ann"
      · rw [resW_ann (e := .drop u n z) hu h1] at q
        refine ite_t (decide_eq_true h1) ?_
        walk_at "w"
        refine ⟨by show 2 ≤ sizeLine; decide, fun p hp => ?_⟩
        refine q _ _ (same_upd_fresh hp (Same.refl _)) ?_
        show Dp K _ _ (erD (.name u))
        rw [h1]
        exact .tup (SqT.of upd_same) (.cons (.str _) (.cons (.str _) .nil))
      refine ite_f (decide_eq_false h1) ?_
      walk_at "w"
      by_cases h2 : n = "zz"
      · rw [resW_zz (e := .drop u n z) hu h1 hn h2] at q
        refine ite_t (decide_eq_true h2) ?_
        walk_at "w"
        refine ⟨by show 2 ≤ sizeLine; decide, fun p hp => ?_⟩
        refine q _ _ (same_upd_fresh hp (Same.refl _)) ?_
        show Dp K _ _ (erD (.unknown n))
        rw [h2]
        exact .tup (SqT.of upd_same) (.cons (.str _) (.cons (.str _) .nil))
      refine ite_f (decide_eq_false h2) ?_
      rw [resW_do (e := .drop u n z) hu h1 hn h2] at q
      have hN := isN_of hn h2
      obtain ⟨a, hval, hga⟩ := LawW.val (d := d) (a1 := a1) (a2 := a2) hN hg1 hg2
      obtain ⟨l, r, hh, ha, hl, hro, hfx⟩ : ∃ l r h, H a = some (.lst [.ref l, .ref r, .ref h]) ∧ DictE K H frD l (w2.get n).loads ∧ DictE K H ropeD r (w2.get n).ropes ∧ DictE K H frD h (w2.get n).fixed := hga
      obtain ⟨kr, hkr, dkr⟩ := id hro
      walk_at "w"
      refine r_dgetS (.inl hd) hval ?_
      walk_at "w"
      refine r_ixL (SqL.of ha) (v := .ref r) rfl ?_
      walk_at "w"
      refine ⟨r, valV kr (.inr z), rfl, .inl ⟨kr, .inr z, .inl hkr, rfl, rfl⟩, ?_⟩
      rw [isSome_val dkr z]
      refine w_k ?_
      cases c1 : hasA (w2.get n).ropes z with
      | true =>
        refine iteT ?_
        walk_at "w"
        rw [show doW w2 (.drop u n z) = .ok (w2.put n { w2.get n with ropes := dropA (w2.get n).ropes z }) from doW_of (if_pos c1)] at q
        exact q _ _ (Same.refl _) rfl
      | false =>
        refine iteF ?_
        walk_at "w"
        refine ⟨by show 2 ≤ sizeLine; decide, fun p hp => ?_⟩
        rw [show doW w2 (.drop u n z) = .error (.unknown z) from doW_er (if_neg (by show ¬ hasA (w2.get n).ropes z = true; rw [c1]; decide))] at q
        exact q _ _ (same_upd_fresh hp (Same.refl _)) (.tup (SqT.of upd_same) (.cons (.str _) (.cons (.str _) .nil)))
    | rope u n z pw f =>
      obtain ⟨ea, xv, fv, rfl, hS, hp, hf⟩ := dp_rope_inv' dy
      obtain ⟨hu, hn, hz, hpv, hfL⟩ := hL
      walk_at "w"
      by_cases h1 : u = "Ann"
      · rw [resW_ann (e := .rope u n z pw f) hu h1] at q
        refine ite_t (decide_eq_true h1) ?_
        walk_at "w"
        refine ⟨by show 2 ≤ sizeLine; decide, fun p hp => ?_⟩
        refine q _ _ (same_upd_fresh hp (Same.refl _)) ?_
        show Dp K _ _ (erD (.name u))
        rw [h1]
        exact .tup (SqT.of upd_same) (.cons (.str _) (.cons (.str _) .nil))
      refine ite_f (decide_eq_false h1) ?_
      walk_at "w"
      by_cases h2 : n = "zz"
      · rw [resW_zz (e := .rope u n z pw f) hu h1 hn h2] at q
        refine ite_t (decide_eq_true h2) ?_
        walk_at "w"
        refine ⟨by show 2 ≤ sizeLine; decide, fun p hp => ?_⟩
        refine q _ _ (same_upd_fresh hp (Same.refl _)) ?_
        show Dp K _ _ (erD (.unknown n))
        rw [h2]
        exact .tup (SqT.of upd_same) (.cons (.str _) (.cons (.str _) .nil))
      refine ite_f (decide_eq_false h2) ?_
      rw [resW_do (e := .rope u n z pw f) hu h1 hn h2] at q
      have hN := isN_of hn h2
      obtain ⟨a, hval, hga⟩ := LawW.val (d := d) (a1 := a1) (a2 := a2) hN hg1 hg2
      obtain ⟨l, r, hh, ha, hl, hro, hfx⟩ : ∃ l r h, H a = some (.lst [.ref l, .ref r, .ref h]) ∧ DictE K H frD l (w2.get n).loads ∧ DictE K H ropeD r (w2.get n).ropes ∧ DictE K H frD h (w2.get n).fixed := hga
      obtain ⟨kl, hkl, dkl⟩ := id hl
      obtain ⟨kr, hkr, dkr⟩ := id hro
      obtain ⟨kf, hkf, dkf⟩ := id hfx
      have G := W.get n
      have lkl : kl.length = (w2.get n).loads.length := dkl.length
      have lkr : kr.length = (w2.get n).ropes.length := dkr.length
      have lkf : kf.length = (w2.get n).fixed.length := dkf.length
      have G8 := G.l8
      have Gf8 := G.f8
      have Gr10 := G.r10
      walk_at "w"
      refine r_dgetS (.inl hd) hval ?_
      walk_at "w"
      refine ⟨by show 2 ≤ sizeLine; decide, fun p1 f1 => ?_⟩
      generalize hH1 : upd H p1 (.tup [V.str "P", V.str ""]) = H1
      have s1 : Same H H1 := hH1 ▸ same_upd_fresh f1 (Same.refl _)
      have e1 : H1 p1 = some (.tup [V.str "P", V.str ""]) := by rw [← hH1]; exact upd_same
      refine r_in (.inr (SqT.of e1)) rfl rfl ?_
      rw [in_P hz]
      refine w_k ?_
      have hS1 := sqT_same s1 hS
      cases c1 : wordOk z SMALL with
      | false =>
        refine iteT ?_
        walk_at "w"
        refine ⟨by show 2 ≤ sizeLine; decide, fun p hp => ?_⟩
        rw [show doW w2 (.rope u n z pw f) = .error (.name z) from doW_er (if_neg (by show ¬ wordOk z SMALL = true; rw [c1]; decide))] at q
        exact q _ _ (s1.trans (same_upd_fresh hp (Same.refl _))) (.tup (SqT.of upd_same) (.cons (.str _) (.cons (.str _) .nil)))
      | true =>
        refine iteF ?_
        walk_at "w"
        refine ⟨by show 2 ≤ sizeLine; decide, fun p2 f2 => ?_⟩
        generalize hH2 : upd H1 p2 (.tup [V.int 1, V.int 0]) = H2
        have s2 : Same H1 H2 := hH2 ▸ same_upd_fresh f2 (Same.refl _)
        have e2 : H2 p2 = some (.tup [V.int 1, V.int 0]) := by rw [← hH2]; exact upd_same
        have s02 := s1.trans s2
        have hf2 := dp_kd (same_kd s02) (np_fr _) hf
        refine r_eqD hf2 (dp_fr (SqT.of e2)) ((sh_fr _).ok (by decide)) ((sh_fr _).ok (by decide)) ?_
        rw [eq_10 hfL]
        refine w_k ?_
        cases c2 : frOk' f with
        | false =>
          refine iteT ?_
          have hS2 := sqT_same s02 hS
          walk_at "w"
          refine ⟨by show 2 ≤ sizeLine; decide, fun p hp => ?_⟩
          have er : doW w2 (.rope u n z pw f) = .error (.rope z) := doW_er (by
            cases pw with
            | lst p => exact if_pos c1
            | tup p => exact (doG_rope c1).trans (if_neg (by rw [c2, Bool.and_false]; decide)))
          rw [er] at q
          exact q _ _ (s02.trans (same_upd_fresh hp (Same.refl _))) (.tup (SqT.of upd_same) (.cons (.str _) (.cons (.str _) .nil)))
        | true =>
          refine iteF ?_
          have hS2 := sqT_same s02 hS
          have ha2 := s02 _ _ ha
          have hkl2 := s02 _ _ hkl
          walk_at "w"
          refine r_ixL (SqL.of ha2) (v := .ref l) rfl ?_
          walk_at "w"
          refine ⟨l, kl, rfl, .inl hkl2, fun q1 g1 => ?_⟩
          rw [keys_map dkl.keys]
          generalize hH9 : upd H2 q1 (.lst (((w2.get n).loads.map (·.1)).map V.str)) = H9
          have s29 : Same H2 H9 := hH9 ▸ same_upd_fresh g1 (Same.refl _)
          have e9 : H9 q1 = some (.lst (((w2.get n).loads.map (·.1)).map V.str)) := by rw [← hH9]; exact upd_same
          have ha9 := s29 _ _ ha2
          have hkf9 := s29 _ _ (s02 _ _ hkf)
          walk_at "w"
          refine r_ixL (SqL.of ha9) (v := .ref hh) rfl ?_
          walk_at "w"
          refine ⟨hh, kf, rfl, .inl hkf9, fun q2 g2 => ?_⟩
          rw [keys_map dkf.keys]
          generalize hH10 : upd H9 q2 (.lst (((w2.get n).fixed.map (·.1)).map V.str)) = H10
          have s910 : Same H9 H10 := hH10 ▸ same_upd_fresh g2 (Same.refl _)
          have e10 : H10 q2 = some (.lst (((w2.get n).fixed.map (·.1)).map V.str)) := by rw [← hH10]; exact upd_same
          walk_at "w"
          refine r_cat (s910 _ _ e9) e10 (by rw [List.length_map, List.length_map, List.length_map, List.length_map]; omega) fun q3 g3 => ?_
          rw [← List.map_append]
          generalize hH11 : upd H10 q3 (.lst (((w2.get n).loads.map (·.1) ++ (w2.get n).fixed.map (·.1)).map V.str)) = H11
          have s1011 : Same H10 H11 := hH11 ▸ same_upd_fresh g3 (Same.refl _)
          have e11 : H11 q3 = some (.lst (((w2.get n).loads.map (·.1) ++ (w2.get n).fixed.map (·.1)).map V.str)) := by rw [← hH11]; exact upd_same
          have s011 := s02.trans ((s29.trans s910).trans s1011)
          walk_at "w"
          refine ⟨xv, q3, pw, _, rfl, e11, dp_kd (same_kd s011) (np_pv _) hp, hpv, fun H12 s12 => ?_⟩
          rw [holds_ok hpv]
          have s012 := s011.trans s12
          have hS12 := sqT_same s012 hS
          walk_at "w"
          have ppe : pvOk pw ((w2.get n).loads.map (·.1) ++ (w2.get n).fixed.map (·.1)) = pvOk pw (w2.get n).pts := rfl
          rw [ppe]
          cases c3 : pvOk pw (w2.get n).pts with
          | false =>
            refine iteT ?_
            walk_at "w"
            refine ⟨by show 2 ≤ sizeLine; decide, fun p hp => ?_⟩
            have er : doW w2 (.rope u n z pw f) = .error (.rope z) := doW_er (by
              cases pw with
              | lst p => exact if_pos c1
              | tup p =>
                have c3 : pathOk p (w2.get n).pts = false := c3
                exact (doG_rope c1).trans (if_neg (by show ¬ (pathOk p (w2.get n).pts && _) = true; rw [c3, Bool.false_and]; decide)))
            rw [er] at q
            exact q _ _ (s012.trans (same_upd_fresh hp (Same.refl _))) (.tup (SqT.of upd_same) (.cons (.str _) (.cons (.str _) .nil)))
          | true =>
            refine iteF ?_
            have ha12 := s012 _ _ ha
            have hkr12 := s012 _ _ hkr
            obtain ⟨p, rfl⟩ : ∃ p, pw = .tup p := by
              cases pw with
              | tup p => exact ⟨p, rfl⟩
              | lst p => cases c3
            have c3 : pathOk p (w2.get n).pts = true := c3
            have dg : doG (w2.get n) (.rope u n z (.tup p) f) = if (putA (w2.get n).ropes z (p, f)).length ≤ 10 then .ok { w2.get n with ropes := putA (w2.get n).ropes z (p, f) } else .error (.limit (putA (w2.get n).ropes z (p, f)).length) := by
              rw [doG_rope c1, c3, c2]
              exact if_pos rfl
            have pl : (putA (w2.get n).ropes z (p, f)).length = if hasA (w2.get n).ropes z = true then (w2.get n).ropes.length else (w2.get n).ropes.length + 1 := by
              have := congrArg List.length (putA_keys (es := (w2.get n).ropes) (k := z) (d := (p, f)))
              rw [List.length_map] at this
              rw [this]
              split
              · rw [List.length_map]
              · rw [List.length_append, List.length_map]; rfl
            walk_at "w"
            refine r_ixL (SqL.of ha12) (v := .ref r) rfl ?_
            walk_at "w"
            refine ite2 (fun hc => ?_) (fun hc => ?_)
            · have h10 : (w2.get n).ropes.length = 10 := by
                have := of_decide_eq_true hc
                omega
              walk_at "w"
              refine r_ixL (SqL.of ha12) (v := .ref r) rfl ?_
              walk_at "w"
              refine ⟨r, valV kr (.inr z), rfl, .inl ⟨kr, .inr z, .inl hkr12, rfl, rfl⟩, ?_⟩
              rw [isSome_val dkr z]
              refine w_k ?_
              cases c4 : hasA (w2.get n).ropes z with
              | true =>
                rw [c4, if_pos rfl] at pl
                rw [if_pos (by omega)] at dg
                rw [doW_of dg] at q
                refine iteF ?_
                walk_at "w"
                exact q _ _ s012 rfl
              | false =>
                rw [c4, if_neg (by decide)] at pl
                rw [if_neg (by omega)] at dg
                rw [doW_er dg, pl, h10] at q
                refine iteT ?_
                walk_at "w"
                refine ⟨by show 2 ≤ sizeLine; decide, fun p hp => ?_⟩
                exact q _ _ (s012.trans (same_upd_fresh hp (Same.refl _))) (.tup (SqT.of upd_same) (.cons (.str _) (.cons (.int _) .nil)))
            · have h10 : (w2.get n).ropes.length ≠ 10 := by
                intro e
                exact hc (decide_eq_true (by omega))
              rw [if_pos (by rw [pl]; split <;> omega)] at dg
              rw [doW_of dg] at q
              walk_at "w"
              exact q _ _ s012 rfl
end
end PW

/-! ##### LI -/
set_option Elab.async false
set_option linter.all false
set_option maxRecDepth 100000
set_option maxHeartbeats 2000000
namespace PW
open PySem PySem.Spec PyProof.Rows L2 He PWL

open PWW
/-! ### entries made; short entries -/
def spMadeE (K : PySem.W.Frag) : Sp := fun vs H Q _ => ∃ (v y : V) (w w' : W2) (e : En), vs = [v, y] ∧ LawW K H v w ∧ WOk w ∧ Dp K H y (enD e) ∧ isN e.n ∧ doW w e = .ok w' ∧ ∀ r H', H r = none → Same H H' → LawW K H' (.ref r) w' → Q (.ref r) H'
def rqOf : LEn → Rq
  | .en e => .ent e
  | .undo u _ => .undo u
def spShort (K : PySem.W.Frag) : Sp := fun vs H Q _ => ∃ (y : V) (e : LEn), vs = [y] ∧ Dp K H y (leD e) ∧ ∀ x H', Same H H' → Dp K H' x (rqD (rqOf e)) → Q x H'
theorem w_dpop1 {td ty : TE} {σ : L2.St} {H : Hp} {Q : VK} (h : td σ H fun x H1 => ∃ a, x = .ref a ∧ IsD H1 a ∧ ty σ H1 fun y H2 => ∃ kvs k v, H2 a = some (.dK kvs) ∧ y = kV k ∧ valV kvs k = some v ∧ Q v (upd H2 a (.dK (dropK kvs k)))) : tDPop1 td ty σ H Q := h
theorem LawW.put {K : PySem.W.Frag} {H H' : Hp} {a1 a2 d' a' : Addr} {w : W2} {n : Str} {g : Giv} (hn : isN n) (h1 : GivG K H a1 w.one) (h2 : GivG K H a2 w.two) (e : Same H H') (hg : GivG K H' a' g) (hd : H' d' = some (.dK (putK (wkv (.ref a1) (.ref a2)) (.inr n) (.ref a')))) (p' : ApD H' d' a') (p1 : ApD H' d' a1) (p2 : ApD H' d' a2) : LawW K H' (.ref d') (w.put n g) := by
  rcases hn with rfl | rfl
  · rw [put_one] at hd
    rw [put1]
    exact ⟨_, _, _, rfl, hd, hg, h2.same e, p', p2⟩
  · rw [put_two] at hd
    rw [put2]
    exact ⟨_, _, _, rfl, hd, h1.same e, hg, p1, p'⟩
theorem doW_load_inv {w w' : W2} {u n z : Str} {f : Int × Int} (h : doW w (.load u n z f) = .ok w') : w' = w.put n ⟨putA (w.get n).loads z f, (w.get n).ropes, (w.get n).fixed⟩ := by
  cases c1 : hasA (w.get n).loads z with
  | false =>
    rw [show doW w (.load u n z f) = .error (.unknown z) by simp [doW, doG, En.n, c1]] at h
    cases h
  | true =>
    cases c2 : ldOk f with
    | false =>
      rw [show doW w (.load u n z f) = .error (.number f) by simp [doW, doG, En.n, c1, c2]] at h
      cases h
    | true =>
      rw [show doW w (.load u n z f) = .ok (w.put n { w.get n with loads := putA (w.get n).loads z f }) by simp [doW, doG, En.n, c1, c2]] at h
      cases h
      rfl
theorem doW_drop_inv {w w' : W2} {u n z : Str} (h : doW w (.drop u n z) = .ok w') : hasA (w.get n).ropes z = true ∧ w' = w.put n ⟨(w.get n).loads, dropA (w.get n).ropes z, (w.get n).fixed⟩ := by
  cases c1 : hasA (w.get n).ropes z with
  | false =>
    rw [show doW w (.drop u n z) = .error (.unknown z) from doW_er (if_neg (by show ¬ hasA (w.get n).ropes z = true; rw [c1]; decide))] at h
    cases h
  | true =>
    rw [show doW w (.drop u n z) = .ok (w.put n { w.get n with ropes := dropA (w.get n).ropes z }) from doW_of (if_pos c1)] at h
    cases h
    exact ⟨rfl, rfl⟩
theorem doW_rope_inv {w w' : W2} {u n z : Str} {pw : PVal} {f : Int × Int} (h : doW w (.rope u n z pw f) = .ok w') : ∃ p, pw = .tup p ∧ w' = w.put n ⟨(w.get n).loads, putA (w.get n).ropes z (p, f), (w.get n).fixed⟩ := by
  cases c1 : wordOk z SMALL with
  | false =>
    rw [show doW w (.rope u n z pw f) = .error (.name z) from doW_er (if_neg (by show ¬ wordOk z SMALL = true; rw [c1]; decide))] at h
    cases h
  | true =>
    cases pw with
    | lst p =>
      rw [show doW w (.rope u n z (.lst p) f) = .error (.rope z) from doW_er (if_pos c1)] at h
      cases h
    | tup p =>
      by_cases c2 : (pathOk p (w.get n).pts && frOk' f) = true
      · by_cases c3 : (putA (w.get n).ropes z (p, f)).length ≤ 10
        · rw [show doW w (.rope u n z (.tup p) f) = .ok (w.put n { w.get n with ropes := putA (w.get n).ropes z (p, f) }) from doW_of (by rw [doG_rope c1]; exact (if_pos c2).trans (if_pos c3))] at h
          cases h
          exact ⟨p, rfl, rfl⟩
        · rw [show doW w (.rope u n z (.tup p) f) = .error (.limit (putA (w.get n).ropes z (p, f)).length) from doW_er (by rw [doG_rope c1]; exact (if_pos c2).trans (if_neg c3))] at h
          cases h
      · rw [show doW w (.rope u n z (.tup p) f) = .error (.rope z) from doW_er (by rw [doG_rope c1]; exact if_neg c2)] at h
        cases h
/-- the parts of a given work do not stand where nothing stood -/
theorem GivG.apart {K : PySem.W.Frag} {H H' : Hp} {a d : Addr} {g : Giv} (h : GivG K H a g) (hd : H d = none) (e : Same H H') : ApD H' d a := by
  obtain ⟨l, r, hh, h1, ⟨k2, h2, _⟩, ⟨k3, h3, _⟩, ⟨k4, h4, _⟩⟩ := h
  exact ⟨l, r, hh, e _ _ h1, ne_of_none h2 hd, ne_of_none h3 hd, ne_of_none h4 hd⟩
local macro_rules | `(tactic| walk_at "w") => `(tactic| (repeat (first | with_reducible refine w_seq ?_ | with_reducible refine w_ret ?_ | with_reducible refine w_asg ?_ | with_reducible refine w_ifs ?_ | with_reducible refine w_drop ?_ | with_reducible refine w_next ?_ | with_reducible refine w_cont ?_ | with_reducible refine w_par ?_ | with_reducible refine w_par3 ?_ | with_reducible refine w_three ?_ | with_reducible refine w_two ?_ | with_reducible refine w_name ?_ | with_reducible refine w_c ?_ | with_reducible refine w_op ?_ | with_reducible refine w_un ?_ | with_reducible refine w_cb ?_ | with_reducible refine w_cons ?_ | with_reducible refine w_nil ?_ | with_reducible refine w_tup ?_ | with_reducible refine w_lst ?_ | with_reducible refine w_test ?_ | with_reducible refine w_B ?_ | with_reducible refine w_k ?_ | with_reducible refine w_ki ?_ | with_reducible refine w_and ?_ | with_reducible refine w_or ?_ | with_reducible refine w_not ?_ | with_reducible refine w_andV ?_ | with_reducible refine w_orV ?_ | with_reducible refine w_notV ?_ | with_reducible refine w_if ?_ | with_reducible refine w_yes ?_ | with_reducible refine w_isN ?_ | with_reducible refine w_chain ?_ | with_reducible refine w_sl ?_ | with_reducible refine w_noPart ?_ | with_reducible refine w_part ?_ | with_reducible refine w_fld ?_ | with_reducible refine w_dget ?_ | with_reducible refine w_din ?_ | with_reducible refine w_dnotin ?_ | with_reducible refine w_dput ?_ | with_reducible refine w_newK ?_ | with_reducible refine w_sfld ?_ | with_reducible refine w_methR ?_ | with_reducible refine w_propR ?_ | with_reducible refine w_sl2 ?_ | with_reducible refine w_star ?_ | with_reducible refine w_retN ?_ | with_reducible refine w_gcons ?_ | with_reducible refine w_gnil ?_ | with_reducible refine r_i0 ?_ | with_reducible refine r_u ?_ | with_reducible refine r_eqi ?_ | with_reducible refine r_nei ?_ | with_reducible refine r_eqs ?_ | with_reducible refine r_nes ?_ | with_reducible refine iteT ?_ | with_reducible refine iteF ?_ | with_reducible refine w_lc ?_ | with_reducible refine w_dc ?_ | with_reducible refine w_for ?_ | with_reducible refine w_istr ?_ | with_reducible refine w_ilist ?_ | with_reducible refine w_itup ?_ | with_reducible refine w_irng1 ?_ | with_reducible refine w_irng2 ?_ | with_reducible refine w_ienum ?_ | with_reducible refine w_iitems ?_ | with_reducible refine w_ikeysT ?_ | with_reducible refine w_makeK ?_ | with_reducible refine w_methSN ?_ | with_reducible refine w_makeR ?_ | with_reducible refine w_callR ?_ | with_reducible refine w_dmerge ?_ | with_reducible refine w_ks ?_ | with_reducible refine w_kr ?_ | with_reducible refine isi_int_int ?_ | with_reducible refine isi_int_bool ?_ | with_reducible refine isi_str_str ?_ | with_reducible refine w_1i ?_ | with_reducible refine w_nn ?_ | with_reducible refine w_int_i ?_ | with_reducible refine w_int_b ?_ | ((with_reducible apply w_var); rfl) | ((with_reducible apply r_ixT); assumption; rfl) | ((with_reducible apply r_ixL); assumption; rfl) | ((with_reducible apply isi_tup_tup); assumption) | ((with_reducible apply isi_dict_dict); assumption) | ((with_reducible apply r_lenD); assumption) | ((with_reducible apply r_lenT); assumption) | ((with_reducible apply r_lenL); assumption) | ((with_reducible refine r_all (SqL.of ?_) ?_); assumption) | ((with_reducible apply r_fld); assumption; exact Cn.cls (by assumption) _; exact Cn.noat (by assumption) _ _; first | rfl | assumption) | ((with_reducible apply ite_t); rfl) | ((with_reducible apply ite_f); rfl))))
section
variable {P : Program} {w : World} {K : PySem.W.Frag} {mg : Str → Option Value} {base : Heap}
theorem F__law_short (C : Cn P K mg) : FnR P w K mg base (L2.CX P w) 1 (ga K "_law_short") (spShort K) := by
  obtain ⟨fd, F⟩ := C.d__law_short
  have sc : FnScope ["_law_entry_here"] ["_law_entry_here"] (defScope (top 70)) := ⟨rfl, rfl, rfl, by decide +kernel, rfl, by decide +kernel, by decide +kernel⟩
  refine fnR_nox F sc ?len (fun _ _ _ _ _ _ us hl => match us, hl with | [_], _ => rfl) ?body
  case len => exact fun vs H Q E h => by obtain ⟨_, _, rfl, _⟩ := h; rfl
  case body =>
    intro cdv A outer s H vs Q E hr h
    obtain ⟨y, e, rfl, dy, q⟩ := h
    refine ⟨_, (pss_one (ps_ret (pe_ifExp (pt_cmpR op_eq (pe_ix (ix_tup : IxR _ (rIxT K)) (pv 0) pe_int (fun _ _ => rfl)) pe_str (nomark _)) (pe_tup (pa_cons (pe_ix (ix_tup : IxR _ (rIxT K)) (pv 0) pe_int (fun _ _ => rfl)) (pa_cons pe_str pa_nil))) (pv 0)))), ?_⟩
    cases e with
    | undo u n =>
      obtain ⟨a, rfl, hS⟩ : ∃ a, y = .ref a ∧ SqT K H a [.str u, .str n, .str "undo"] := by
        cases dy with
        | tup hx ha => cases ha with
          | cons h1 ha => cases h1; cases ha with
            | cons h2 ha => cases h2; cases ha with
              | cons h3 ha => cases h3; cases ha; exact ⟨_, rfl, hx⟩
      walk_at "w"
      refine ⟨by show 2 ≤ sizeLine; decide, fun p hp => ?_⟩
      exact q _ _ (same_upd_fresh hp (Same.refl _)) (.tup (SqT.of upd_same) (.cons (.str _) (.cons (.str _) .nil)))
    | en e =>
      cases e with
      | load u n z f =>
        obtain ⟨ea, fv, rfl, hS, hf⟩ := dp_load_inv dy
        walk_at "w"
        exact q _ _ (Same.refl _) dy
      | rope u n z pw f =>
        obtain ⟨ea, xv, fv, rfl, hS, hp, hf⟩ := dp_rope_inv' dy
        walk_at "w"
        exact q _ _ (Same.refl _) dy
      | drop u n z =>
        obtain ⟨ea, rfl, hS⟩ := dp_drop_inv dy
        walk_at "w"
        exact q _ _ (Same.refl _) dy
theorem F__law_made_entry (C : Cn P K mg) : FnR P w K mg base (L2.CX P w) 1 (ga K "_law_made_entry") (spMadeE K) := by
  obtain ⟨fd, F⟩ := C.d__law_made_entry
  have sc : FnScope ["_law_states", "_law_entry_here", "_law_found", "_law_loads", "_law_ropes"] ["_law_states", "_law_entry_here"] (defScope (top 65)) := ⟨rfl, rfl, rfl, by decide +kernel, rfl, by decide +kernel, by decide +kernel⟩
  refine fnR_nox F sc ?len (fun _ _ _ _ _ _ us hl => match us, hl with | [_, _], _ => rfl) ?body
  case len => exact fun vs H Q E h => by obtain ⟨_, _, _, _, _, rfl, _⟩ := h; rfl
  case body =>
    intro cdv A outer s H vs Q E hr h
    obtain ⟨v, y, w2, w3, e, rfl, hW, W, dy, hN, hdo, q⟩ := h
    obtain ⟨d, a1, a2, rfl, hd, hg1, hg2, _⟩ := id hW
    refine ⟨_, (pss_cons (ps_set (i := 2) sc.nd rfl (Or.inl rfl) (pe_callTy call_dictD (by rfl) (C.free "dict") b_dict (pa_cons (pv 0) pa_nil))) (pss_cons (ps_par (i := 3) (j := 4) (by rfl) sc.nd rfl rfl (by decide) rfl rfl (pa_cons (pe_callTy call_dictD (by rfl) (C.free "dict") b_dict (pa_cons (pe_ix (ix_list : IxR _ (rIxL K)) (pe_dget (hu_of hr) (pv 0) (pe_ix (ix_tup : IxR _ (rIxT K)) (pv 1) pe_int (fun _ _ => rfl)) (fun _ _ => rfl)) pe_int (fun _ _ => rfl)) pa_nil)) (pa_cons (pe_callTy call_dictD (by rfl) (C.free "dict") b_dict (pa_cons (pe_ix (ix_list : IxR _ (rIxL K)) (pe_dget (hu_of hr) (pv 0) (pe_ix (ix_tup : IxR _ (rIxT K)) (pv 1) pe_int (fun _ _ => rfl)) (fun _ _ => rfl)) pe_int (fun _ _ => rfl)) pa_nil)) pa_nil)) (by rfl)) (pss_cons (ps_if (pt_cmpR op_eq (pe_ix (ix_tup : IxR _ (rIxT K)) (pv 1) pe_int (fun _ _ => rfl)) pe_str (nomark _)) (pss_one (ps_dput (hu_of hr) (pv 3) (pe_ix (ix_tup : IxR _ (rIxT K)) (pv 1) pe_int (fun _ _ => rfl)) (pe_ix (ix_tup : IxR _ (rIxT K)) (pv 1) pe_int (fun _ _ => rfl)) rfl)) (pss_one (ps_if (pt_cmpR op_eq (pe_ix (ix_tup : IxR _ (rIxT K)) (pv 1) pe_int (fun _ _ => rfl)) pe_str (nomark _)) (pss_one (ps_dput (hu_of hr) (pv 4) (pe_ix (ix_tup : IxR _ (rIxT K)) (pv 1) pe_int (fun _ _ => rfl)) (pe_tup (pa_cons (pe_ix (ix_tup : IxR _ (rIxT K)) (pv 1) pe_int (fun _ _ => rfl)) (pa_cons (pe_ix (ix_tup : IxR _ (rIxT K)) (pv 1) pe_int (fun _ _ => rfl)) pa_nil))) rfl)) (pss_one (ps_expr (pe_dpop1 (pv 4) (pe_ix (ix_tup : IxR _ (rIxT K)) (pv 1) pe_int (fun _ _ => rfl)) ⟨rfl, rfl, rfl, rfl⟩)))))) (pss_cons (ps_dput (hu_of hr) (pv 2) (pe_ix (ix_tup : IxR _ (rIxT K)) (pv 1) pe_int (fun _ _ => rfl)) (pe_lst (pa_cons (pv 3) (pa_cons (pv 4) (pa_cons (pe_ix (ix_list : IxR _ (rIxL K)) (pe_dget (hu_of hr) (pv 0) (pe_ix (ix_tup : IxR _ (rIxT K)) (pv 1) pe_int (fun _ _ => rfl)) (fun _ _ => rfl)) pe_int (fun _ _ => rfl)) pa_nil)))) rfl) (pss_one (ps_ret (pv 2))))))), ?_⟩
    obtain ⟨a, hval, hga⟩ := LawW.val (d := d) (a1 := a1) (a2 := a2) hN hg1 hg2
    obtain ⟨l, r, hh, ha, hl, hro, hfx⟩ : ∃ l r h, H a = some (.lst [.ref l, .ref r, .ref h]) ∧ DictE K H frD l (w2.get e.n).loads ∧ DictE K H ropeD r (w2.get e.n).ropes ∧ DictE K H frD h (w2.get e.n).fixed := hga
    obtain ⟨kl, hkl, dkl⟩ := id hl
    obtain ⟨kr, hkr, dkr⟩ := id hro
    have G := W.get e.n
    have lkl : kl.length = (w2.get e.n).loads.length := dkl.length
    have lkr : kr.length = (w2.get e.n).ropes.length := dkr.length
    have G8 := G.l8
    have Gr10 := G.r10
    have hlt : kl.length < sizeLine := by
      have : (1000 : Nat) < sizeLine := by decide
      omega
    have hrt : kr.length < sizeLine := by
      have : (1000 : Nat) < sizeLine := by decide
      omega
    have w2t : (wkv (V.ref a1) (V.ref a2)).length < sizeLine := by show 2 < sizeLine; decide
    walk_at "w"
    refine ⟨d, _, rfl, .inl hd, fun pf ff => ?_⟩
    generalize hH1 : upd H pf (.dK (wkv (.ref a1) (.ref a2))) = H1
    have s1 : Same H H1 := hH1 ▸ same_upd_fresh ff (Same.refl _)
    have e1 : H1 pf = some (.dK (wkv (.ref a1) (.ref a2))) := by rw [← hH1]; exact upd_same
    -- the end: the new dicts l2, r2 stand, and are put together
    have fin : ∀ (H4 : Hp) (pl pr : Addr) (ls : List (Str × (Int × Int))) (rs : List (Str × Rope)), Same H H4 → H4 pf = some (.dK (wkv (.ref a1) (.ref a2))) → pl ≠ pf → pr ≠ pf → DictE K H4 frD pl ls → DictE K H4 ropeD pr rs →
        w3 = w2.put e.n ⟨ls, rs, (w2.get e.n).fixed⟩ → ∀ p, H4 p = none → Q (.ref pf) (upd (upd H4 p (.lst [.ref pl, .ref pr, .ref hh])) pf (.dK (putK (wkv (.ref a1) (.ref a2)) (.inr e.n) (.ref p)))) := by
      intro H4 pl pr ls rs s4 e4 hpl hpr dl dr hw p hp
      have s5 : Same H4 (upd H4 p (.lst [.ref pl, .ref pr, .ref hh])) := same_upd_fresh hp (Same.refl _)
      have s6 : Same H (upd (upd H4 p (.lst [.ref pl, .ref pr, .ref hh])) pf (.dK (putK (wkv (.ref a1) (.ref a2)) (.inr e.n) (.ref p)))) := same_upd_fresh ff (s4.trans s5)
      have hppf : p ≠ pf := Ne.symm (ne_of_none e4 hp)
      have tk : TK (upd H4 p (.lst [.ref pl, .ref pr, .ref hh])) (upd (upd H4 p (.lst [.ref pl, .ref pr, .ref hh])) pf (.dK (putK (wkv (.ref a1) (.ref a2)) (.inr e.n) (.ref p)))) := tk_updK (.inl (s5 _ _ e4))
      have hdK : ∀ {α : Type} {f : α → PyData} {x : Addr} {es : List (Str × α)}, (∀ d, TD (f d)) → x ≠ pf → DictE K H4 f x es → DictE K (upd (upd H4 p (.lst [.ref pl, .ref pr, .ref hh])) pf (.dK (putK (wkv (.ref a1) (.ref a2)) (.inr e.n) (.ref p)))) f x es := by
        intro α f x es hn hx ⟨kx, h1, h2⟩
        exact ⟨kx, by rw [upd_ne hx]; exact s5 _ _ h1, h2.tk ((tk_same s5).trans tk) hn⟩
      obtain ⟨kh, hkh, dkh⟩ := id hfx
      have hhp : hh ≠ pf := ne_of_none hkh ff
      rw [hw] at q
      refine q pf _ ff s6 (LawW.put hN hg1 hg2 s6 (a' := p) (g := ⟨ls, rs, (w2.get e.n).fixed⟩) ⟨pl, pr, hh, by rw [upd_ne hppf]; exact upd_same, hdK td_fr hpl dl, hdK td_rope hpr dr, ⟨kh, s6 _ _ hkh, dkh.tk (tk_same s6) td_fr⟩⟩ upd_same ⟨pl, pr, hh, by rw [upd_ne hppf]; exact upd_same, hpl, hpr, hhp⟩ (hg1.apart ff s6) (hg2.apart ff s6))
    clear q
    cases e with
    | load u n z f =>
      obtain ⟨ea, fv, rfl, hS, hf⟩ := dp_load_inv dy
      have hval : valV (wkv (V.ref a1) (V.ref a2)) (.inr n) = some (.ref a) := hval
      have hS1 := sqT_same s1 hS
      walk_at "w"
      refine r_dgetS (.inl (s1 _ _ hd)) hval ?_
      walk_at "w"
      refine r_ixL (SqL.of (s1 _ _ ha)) (v := .ref l) rfl ?_
      walk_at "w"
      refine ⟨l, kl, rfl, .inl (s1 _ _ hkl), fun pl fl => ?_⟩
      generalize hH2 : upd H1 pl (.dK kl) = H2
      have s2 : Same H1 H2 := hH2 ▸ same_upd_fresh fl (Same.refl _)
      have e2 : H2 pl = some (.dK kl) := by rw [← hH2]; exact upd_same
      have s02 := s1.trans s2
      have hS2 := sqT_same s02 hS
      walk_at "w"
      refine r_dgetS (.inl (s02 _ _ hd)) hval ?_
      walk_at "w"
      refine r_ixL (SqL.of (s02 _ _ ha)) (v := .ref r) rfl ?_
      walk_at "w"
      refine ⟨r, kr, rfl, .inl (s02 _ _ hkr), fun pr fr => ?_⟩
      generalize hH3 : upd H2 pr (.dK kr) = H3
      have s3 : Same H2 H3 := hH3 ▸ same_upd_fresh fr (Same.refl _)
      have e3 : H3 pr = some (.dK kr) := by rw [← hH3]; exact upd_same
      have s03 := s02.trans s3
      have hS3 := sqT_same s03 hS
      have hplf : pl ≠ pf := Ne.symm (ne_of_none e1 fl)
      have hprf : pr ≠ pf := Ne.symm (ne_of_none (s2 _ _ e1) fr)
      have hlr : pr ≠ pl := Ne.symm (ne_of_none e2 fr)
      have e2' := s3 _ _ e2
      have fl0 : H pl = none := Same.free s1 fl
      walk_at "w"
      refine ⟨pl, _, rfl, DPut.k (k := .inr z) e2' hlt, ?_⟩
      have tk : TK H3 (upd H3 pl (.dK (putK kl (.inr z) fv))) := tk_updK (.inl e2')
      have s04 : Same H (upd H3 pl (.dK (putK kl (.inr z) fv))) := same_upd_fresh fl0 s03
      have d4 : DictE K (upd H3 pl (.dK (putK kl (.inr z) fv))) frD pl (putA (w2.get n).loads z f) := ⟨_, upd_same, (dkl.tk (tk_same s04) td_fr).put (td_fr _ K _ _ _ (tk_same s04) hf)⟩
      have d5 : DictE K (upd H3 pl (.dK (putK kl (.inr z) fv))) ropeD pr (w2.get n).ropes := ⟨kr, by rw [upd_ne hlr]; exact e3, dkr.tk (tk_same s04) td_rope⟩
      have e4 : upd H3 pl (.dK (putK kl (.inr z) fv)) pf = some (.dK (wkv (.ref a1) (.ref a2))) := by rw [upd_ne (Ne.symm hplf)]; exact s3 _ _ (s2 _ _ e1)
      generalize upd H3 pl (.dK (putK kl (.inr z) fv)) = H4 at s04 d4 d5 e4 ⊢
      have hS4 := sqT_same s04 hS
      walk_at "w"
      refine r_dgetS (.inl (s04 _ _ hd)) hval ?_
      walk_at "w"
      refine r_ixL (SqL.of (s04 _ _ ha)) (v := .ref hh) rfl ?_
      walk_at "w"
      refine ⟨by show 3 ≤ sizeLine; decide, fun p hp => ?_⟩
      have s5 : Same H4 (upd H4 p (.lst [.ref pl, .ref pr, .ref hh])) := same_upd_fresh hp (Same.refl _)
      have hS5 := sqT_same (s04.trans s5) hS
      walk_at "w"
      refine ⟨pf, _, rfl, DPut.k (k := .inr n) (s5 _ _ e4) w2t, ?_⟩
      walk_at "w"
      exact fin H4 pl pr _ _ s04 e4 hplf hprf d4 d5 (doW_load_inv hdo) p hp
    | rope u n z pw f =>
      obtain ⟨ea, xv, fv, rfl, hS, hx, hf⟩ := dp_rope_inv' dy
      have hval : valV (wkv (V.ref a1) (V.ref a2)) (.inr n) = some (.ref a) := hval
      have hS1 := sqT_same s1 hS
      walk_at "w"
      refine r_dgetS (.inl (s1 _ _ hd)) hval ?_
      walk_at "w"
      refine r_ixL (SqL.of (s1 _ _ ha)) (v := .ref l) rfl ?_
      walk_at "w"
      refine ⟨l, kl, rfl, .inl (s1 _ _ hkl), fun pl fl => ?_⟩
      generalize hH2 : upd H1 pl (.dK kl) = H2
      have s2 : Same H1 H2 := hH2 ▸ same_upd_fresh fl (Same.refl _)
      have e2 : H2 pl = some (.dK kl) := by rw [← hH2]; exact upd_same
      have s02 := s1.trans s2
      have hS2 := sqT_same s02 hS
      walk_at "w"
      refine r_dgetS (.inl (s02 _ _ hd)) hval ?_
      walk_at "w"
      refine r_ixL (SqL.of (s02 _ _ ha)) (v := .ref r) rfl ?_
      walk_at "w"
      refine ⟨r, kr, rfl, .inl (s02 _ _ hkr), fun pr fr => ?_⟩
      generalize hH3 : upd H2 pr (.dK kr) = H3
      have s3 : Same H2 H3 := hH3 ▸ same_upd_fresh fr (Same.refl _)
      have e3 : H3 pr = some (.dK kr) := by rw [← hH3]; exact upd_same
      have s03 := s02.trans s3
      have hS3 := sqT_same s03 hS
      have hplf : pl ≠ pf := Ne.symm (ne_of_none e1 fl)
      have hprf : pr ≠ pf := Ne.symm (ne_of_none (s2 _ _ e1) fr)
      have hlr : pl ≠ pr := ne_of_none e2 fr
      have fr0 : H pr = none := Same.free s02 fr
      obtain ⟨p, rfl, hw3⟩ := doW_rope_inv hdo
      walk_at "w"
      refine ⟨by show 2 ≤ sizeLine; decide, fun p5 f5 => ?_⟩
      generalize hH4 : upd H3 p5 (.tup [xv, fv]) = H4
      have s4 : Same H3 H4 := hH4 ▸ same_upd_fresh f5 (Same.refl _)
      have h5 : H4 p5 = some (.tup [xv, fv]) := by rw [← hH4]; exact upd_same
      have s04 := s03.trans s4
      have hS4 := sqT_same s04 hS
      walk_at "w"
      refine ⟨pr, _, rfl, DPut.k (k := .inr z) (s4 _ _ e3) hrt, ?_⟩
      have tk : TK H4 (upd H4 pr (.dK (putK kr (.inr z) (.ref p5)))) := tk_updK (.inl (s4 _ _ e3))
      have s05 : Same H (upd H4 pr (.dK (putK kr (.inr z) (.ref p5)))) := same_upd_fresh fr0 s04
      have dp : Dp K (upd H4 pr (.dK (putK kr (.inr z) (.ref p5)))) (.ref p5) (ropeD (p, f)) := dp_rope (sqT_tk tk (SqT.of h5)) (td_path _ K _ _ _ ((tk_same s04).trans tk) hx) (td_fr _ K _ _ _ ((tk_same s04).trans tk) hf)
      have d5 : DictE K (upd H4 pr (.dK (putK kr (.inr z) (.ref p5)))) ropeD pr (putA (w2.get n).ropes z (p, f)) := ⟨_, upd_same, (dkr.tk (tk_same s05) td_rope).put dp⟩
      have d4 : DictE K (upd H4 pr (.dK (putK kr (.inr z) (.ref p5)))) frD pl (w2.get n).loads := ⟨kl, by rw [upd_ne hlr]; exact s4 _ _ (s3 _ _ e2), dkl.tk (tk_same s05) td_fr⟩
      have e4 : upd H4 pr (.dK (putK kr (.inr z) (.ref p5))) pf = some (.dK (wkv (.ref a1) (.ref a2))) := by rw [upd_ne (Ne.symm hprf)]; exact s4 _ _ (s3 _ _ (s2 _ _ e1))
      generalize upd H4 pr (.dK (putK kr (.inr z) (.ref p5))) = H5 at s05 d4 d5 e4 ⊢
      have hS5 := sqT_same s05 hS
      walk_at "w"
      refine r_dgetS (.inl (s05 _ _ hd)) hval ?_
      walk_at "w"
      refine r_ixL (SqL.of (s05 _ _ ha)) (v := .ref hh) rfl ?_
      walk_at "w"
      refine ⟨by show 3 ≤ sizeLine; decide, fun p6 hp6 => ?_⟩
      have s6 : Same H5 (upd H5 p6 (.lst [.ref pl, .ref pr, .ref hh])) := same_upd_fresh hp6 (Same.refl _)
      have hS6 := sqT_same (s05.trans s6) hS
      walk_at "w"
      refine ⟨pf, _, rfl, DPut.k (k := .inr n) (s6 _ _ e4) w2t, ?_⟩
      walk_at "w"
      exact fin H5 pl pr _ _ s05 e4 hplf hprf d4 d5 hw3 p6 hp6
    | drop u n z =>
      obtain ⟨ea, rfl, hS⟩ := dp_drop_inv dy
      have hval : valV (wkv (V.ref a1) (V.ref a2)) (.inr n) = some (.ref a) := hval
      have hS1 := sqT_same s1 hS
      walk_at "w"
      refine r_dgetS (.inl (s1 _ _ hd)) hval ?_
      walk_at "w"
      refine r_ixL (SqL.of (s1 _ _ ha)) (v := .ref l) rfl ?_
      walk_at "w"
      refine ⟨l, kl, rfl, .inl (s1 _ _ hkl), fun pl fl => ?_⟩
      generalize hH2 : upd H1 pl (.dK kl) = H2
      have s2 : Same H1 H2 := hH2 ▸ same_upd_fresh fl (Same.refl _)
      have e2 : H2 pl = some (.dK kl) := by rw [← hH2]; exact upd_same
      have s02 := s1.trans s2
      have hS2 := sqT_same s02 hS
      walk_at "w"
      refine r_dgetS (.inl (s02 _ _ hd)) hval ?_
      walk_at "w"
      refine r_ixL (SqL.of (s02 _ _ ha)) (v := .ref r) rfl ?_
      walk_at "w"
      refine ⟨r, kr, rfl, .inl (s02 _ _ hkr), fun pr fr => ?_⟩
      generalize hH3 : upd H2 pr (.dK kr) = H3
      have s3 : Same H2 H3 := hH3 ▸ same_upd_fresh fr (Same.refl _)
      have e3 : H3 pr = some (.dK kr) := by rw [← hH3]; exact upd_same
      have s03 := s02.trans s3
      have hS3 := sqT_same s03 hS
      have hplf : pl ≠ pf := Ne.symm (ne_of_none e1 fl)
      have hprf : pr ≠ pf := Ne.symm (ne_of_none (s2 _ _ e1) fr)
      have hlr : pl ≠ pr := ne_of_none e2 fr
      have fr0 : H pr = none := Same.free s02 fr
      have hh3 := doW_drop_inv hdo
      obtain ⟨rp, hrp⟩ := getA_some hh3.1
      have hrv := dkr.val z
      have hrp : getA (w2.get (En.drop u n z).n).ropes z = some rp := hrp
      rw [hrp] at hrv
      obtain ⟨rv, hrv, _⟩ := hrv
      walk_at "w"
      refine w_dpop1 ?_
      walk_at "w"
      refine ⟨.inl ⟨kr, .inl e3⟩, ?_⟩
      walk_at "w"
      refine ⟨kr, .inr z, rv, e3, rfl, hrv, ?_⟩
      have s05 : Same H (upd H3 pr (.dK (dropK kr (.inr z)))) := same_upd_fresh fr0 s03
      have d5 : DictE K (upd H3 pr (.dK (dropK kr (.inr z)))) ropeD pr (dropA (w2.get n).ropes z) := ⟨_, upd_same, (dkr.tk (tk_same s05) td_rope).drop⟩
      have d4 : DictE K (upd H3 pr (.dK (dropK kr (.inr z)))) frD pl (w2.get n).loads := ⟨kl, by rw [upd_ne hlr]; exact s3 _ _ e2, dkl.tk (tk_same s05) td_fr⟩
      have e4 : upd H3 pr (.dK (dropK kr (.inr z))) pf = some (.dK (wkv (.ref a1) (.ref a2))) := by rw [upd_ne (Ne.symm hprf)]; exact s3 _ _ (s2 _ _ e1)
      generalize upd H3 pr (.dK (dropK kr (.inr z))) = H5 at s05 d4 d5 e4 ⊢
      have hS5 := sqT_same s05 hS
      walk_at "w"
      refine r_dgetS (.inl (s05 _ _ hd)) hval ?_
      walk_at "w"
      refine r_ixL (SqL.of (s05 _ _ ha)) (v := .ref hh) rfl ?_
      walk_at "w"
      refine ⟨by show 3 ≤ sizeLine; decide, fun p6 hp6 => ?_⟩
      have s6 : Same H5 (upd H5 p6 (.lst [.ref pl, .ref pr, .ref hh])) := same_upd_fresh hp6 (Same.refl _)
      have hS6 := sqT_same (s05.trans s6) hS
      walk_at "w"
      refine ⟨pf, _, rfl, DPut.k (k := .inr n) (s6 _ _ e4) w2t, ?_⟩
      walk_at "w"
      exact fin H5 pl pr _ _ s05 e4 hplf hprf d4 d5 hh3.2 p6 hp6
end
end PW

/-! ##### LJ -/
set_option Elab.async false
set_option linter.all false
set_option maxRecDepth 100000
set_option maxHeartbeats 2000000
namespace PW
open PySem PySem.Spec PyProof.Rows L2 He PWL

open PWW
/-! ### the law's undo -/
def enV (e : En) : Prop := enL e ∧ e.u ≠ "Ann" ∧ e.n ≠ "zz"
theorem enL_u {e : En} (h : enL e) : uL e.u := by
  cases e with
  | load u n z f => exact h.1
  | rope u n z p f => exact h.1
  | drop u n z => exact h.1
theorem enL_n {e : En} (h : enL e) : nL e.n := by
  cases e with
  | load u n z f => exact h.2.1
  | rope u n z p f => exact h.2.1
  | drop u n z => exact h.2.1
theorem enV_res {e : En} {w : W2} (h : enV e) : resW w e = doW w e := resW_do (enL_u h.1) h.2.1 (enL_n h.1) h.2.2
theorem enV_n {e : En} (h : enV e) : isN e.n := isN_of (enL_n h.1) h.2.2
def spUndone (K : PySem.W.Frag) : Sp := fun vs H Q _ => ∃ (v0 : V) (b : Addr) (u : Str) (st : Shop) (evs : List V), vs = [v0, .ref b, .str u] ∧ LawW K H v0 st.first ∧ WOk st.first ∧ H b = some (.lst evs) ∧ DpAll K H evs (st.es.map enD) ∧ (∀ e ∈ st.es, enV e) ∧ st.es.length ≤ 1000 ∧ uL u ∧ match undoS st u with
  | .ok st' => ∀ r x l evs' v' H', Same H H' → H' r = some (.lst [x, .ref l, v']) → H' l = some (.lst evs') → DpAll K H' evs' (st'.es.map enD) → LawW K H' v' st'.works → Q (.ref r) H'
  | .error er => ∀ r x H', Same H H' → H' r = some (.lst [x, .non, .non]) → Dp K H' x (erD er) → Q (.ref r) H'
local macro_rules | `(tactic| walk_at "w") => `(tactic| (repeat (first | with_reducible refine w_seq ?_ | with_reducible refine w_ret ?_ | with_reducible refine w_asg ?_ | with_reducible refine w_ifs ?_ | with_reducible refine w_drop ?_ | with_reducible refine w_next ?_ | with_reducible refine w_cont ?_ | with_reducible refine w_par ?_ | with_reducible refine w_par3 ?_ | with_reducible refine w_three ?_ | with_reducible refine w_two ?_ | with_reducible refine w_name ?_ | with_reducible refine w_c ?_ | with_reducible refine w_op ?_ | with_reducible refine w_un ?_ | with_reducible refine w_cb ?_ | with_reducible refine w_cons ?_ | with_reducible refine w_nil ?_ | with_reducible refine w_tup ?_ | with_reducible refine w_lst ?_ | with_reducible refine w_test ?_ | with_reducible refine w_B ?_ | with_reducible refine w_k ?_ | with_reducible refine w_ki ?_ | with_reducible refine w_and ?_ | with_reducible refine w_or ?_ | with_reducible refine w_not ?_ | with_reducible refine w_andV ?_ | with_reducible refine w_orV ?_ | with_reducible refine w_notV ?_ | with_reducible refine w_if ?_ | with_reducible refine w_yes ?_ | with_reducible refine w_isN ?_ | with_reducible refine w_chain ?_ | with_reducible refine w_sl ?_ | with_reducible refine w_noPart ?_ | with_reducible refine w_part ?_ | with_reducible refine w_fld ?_ | with_reducible refine w_dget ?_ | with_reducible refine w_din ?_ | with_reducible refine w_dnotin ?_ | with_reducible refine w_dput ?_ | with_reducible refine w_newK ?_ | with_reducible refine w_sfld ?_ | with_reducible refine w_methR ?_ | with_reducible refine w_propR ?_ | with_reducible refine w_sl2 ?_ | with_reducible refine w_star ?_ | with_reducible refine w_retN ?_ | with_reducible refine w_gcons ?_ | with_reducible refine w_gnil ?_ | with_reducible refine r_i0 ?_ | with_reducible refine r_u ?_ | with_reducible refine r_eqi ?_ | with_reducible refine r_nei ?_ | with_reducible refine r_eqs ?_ | with_reducible refine r_nes ?_ | with_reducible refine iteT ?_ | with_reducible refine iteF ?_ | with_reducible refine w_lc ?_ | with_reducible refine w_dc ?_ | with_reducible refine w_for ?_ | with_reducible refine w_istr ?_ | with_reducible refine w_ilist ?_ | with_reducible refine w_itup ?_ | with_reducible refine w_irng1 ?_ | with_reducible refine w_irng2 ?_ | with_reducible refine w_ienum ?_ | with_reducible refine w_iitems ?_ | with_reducible refine w_ikeysT ?_ | with_reducible refine w_makeK ?_ | with_reducible refine w_methSN ?_ | with_reducible refine w_makeR ?_ | with_reducible refine w_callR ?_ | with_reducible refine w_dmerge ?_ | with_reducible refine w_ks ?_ | with_reducible refine w_kr ?_ | with_reducible refine isi_int_int ?_ | with_reducible refine isi_int_bool ?_ | with_reducible refine isi_str_str ?_ | with_reducible refine w_1i ?_ | with_reducible refine w_nn ?_ | with_reducible refine w_int_i ?_ | with_reducible refine w_int_b ?_ | ((with_reducible apply w_var); rfl) | ((with_reducible apply r_ixT); assumption; rfl) | ((with_reducible apply r_ixL); assumption; rfl) | ((with_reducible apply isi_tup_tup); assumption) | ((with_reducible apply isi_dict_dict); assumption) | ((with_reducible apply r_lenD); assumption) | ((with_reducible apply r_lenT); assumption) | ((with_reducible apply r_lenL); assumption) | ((with_reducible refine r_all (SqL.of ?_) ?_); assumption) | ((with_reducible apply r_fld); assumption; exact Cn.cls (by assumption) _; exact Cn.noat (by assumption) _ _; first | rfl | assumption) | ((with_reducible apply ite_t); rfl) | ((with_reducible apply ite_f); rfl))))
section
variable {P : Program} {w : World} {K : PySem.W.Frag} {mg : Str → Option Value} {base : Heap}
theorem F__law_undone (C : Cn P K mg) : FnR P w K mg base (L2.CX P w) 3 (ga K "_law_undone") (spUndone K) := by
  obtain ⟨fd, F⟩ := C.d__law_undone
  have sc : FnScope ["_law_first", "_law_entries", "_law_user", "_law_places", "_law_left", "_law_states", "_law_entry_here", "_law_due_here", "_law_index"] ["_law_first", "_law_entries", "_law_user"] (defScope (top 66)) := ⟨rfl, rfl, rfl, by decide +kernel, rfl, by decide +kernel, by decide +kernel⟩
  refine fnR_nox F sc ?len (fun _ _ _ _ _ _ us hl => match us, hl with | [_, _, _], _ => rfl) ?body
  case len => exact fun vs H Q E h => by obtain ⟨_, _, _, _, _, rfl, _⟩ := h; rfl
  case body =>
    intro cdv A outer s H vs Q E hr h
    obtain ⟨v0, b, u, st, evs, rfl, hW, W, hb, hev, hV, hz, hu, q⟩ := h
    have F__law_due := F__law_due (w := w) (base := base) C
    have F__law_made_entry := F__law_made_entry (w := w) (base := base) C
    refine ⟨_, (pss_cons (ps_if (pt_cmpR op_eq (pv 2) pe_str (nomark _)) (pss_one (ps_ret (pe_lst (pa_cons (pe_tup (pa_cons pe_str (pa_cons pe_str pa_nil))) (pa_cons pe_non (pa_cons pe_non pa_nil)))))) pss_nil) (pss_cons (ps_setLc (i := 3) (own := [("_law_index", 8), ("_law_entry_here", 6)]) rfl sc.nd rfl rfl (sw_true rfl rfl rfl (by decide +kernel)) (pi_enum (by rfl) (C.free "enumerate") (pa_cons (pv 1) pa_nil)) (blkOk_by (N := ["_law_first", "_law_entries", "_law_user", "_law_places", "_law_left", "_law_states", "_law_entry_here", "_law_due_here", "_law_index"]) (sc := defScope (top 66)) (by decide +kernel)) (fun _ _ _ _ _ => (pg_tup rfl (pgs_cons (pg_name (i := 8) sc.nd rfl (Or.inl rfl)) (pgs_cons (pg_name (i := 6) sc.nd rfl (Or.inl rfl)) pgs_nil)) : PG _ _ (gTup K 2 _))) (fun _ _ _ _ _ => pts_one (pt_cmpR op_eq (pe_ix (ix_tup : IxR _ (rIxT K)) (pv 6) pe_int (fun _ _ => rfl)) (pv 2) (nomark _))) (fun _ _ _ _ _ => (pv 8))) (pss_cons (ps_if (pt_cmpR (op_eqD hr.units : OpR _ _ (rEqD K)) (pv 3) (pe_lst pa_nil) (nomark _)) (pss_one (ps_ret (pe_lst (pa_cons (pe_tup (pa_cons pe_str (pa_cons pe_non pa_nil))) (pa_cons pe_non (pa_cons pe_non pa_nil)))))) pss_nil) (pss_cons (ps_par (i := 4) (j := 5) (by rfl) sc.nd rfl rfl (by decide) rfl rfl (pa_cons (pe_op op_cat (pe_slice (sl_list : SlR _ (rSlL K)) (pv 1) po_none (po_some (pe_ix (ix_list : IxR _ (rIxL K)) (pv 3) (pe_un un_neg pe_int) (fun _ _ => rfl)))) (pe_slice (sl_list : SlR _ (rSlL K)) (pv 1) (po_some (pe_op op_add (pe_ix (ix_list : IxR _ (rIxL K)) (pv 3) (pe_un un_neg pe_int) (fun _ _ => rfl)) pe_int)) po_none)) (pa_cons (pv 0) pa_nil)) (by rfl)) (pss_cons (ps_for PassesOwn.never rfl (pi_list (pv 4)) (pg_name (i := 6) sc.nd rfl (Or.inl rfl)) (pss_cons (ps_set (i := 7) sc.nd rfl (Or.inl rfl) (pe_callR F__law_due (hr.mono (by decide)) (by rfl) (C.g "_law_due") (C.keep "_law_due") passL (pa_cons (pv 5) (pa_cons (pv 6) pa_nil)))) (pss_cons (ps_if (pt_cmpR op_notN (pv 7) pe_non (nomark _)) (pss_one (ps_ret (pe_lst (pa_cons (pv 7) (pa_cons pe_non (pa_cons pe_non pa_nil)))))) pss_nil) (pss_one (ps_set (i := 5) sc.nd rfl (Or.inl rfl) (pe_callR F__law_made_entry (hr.mono (by decide)) (by rfl) (C.g "_law_made_entry") (C.keep "_law_made_entry") passL (pa_cons (pv 5) (pa_cons (pv 6) pa_nil)))))))) (pss_one (ps_ret (pe_lst (pa_cons (pe_tup (pa_cons pe_str (pa_cons (pe_ix (ix_list : IxR _ (rIxL K)) (pv 1) (pe_ix (ix_list : IxR _ (rIxL K)) (pv 3) (pe_un un_neg pe_int) (fun _ _ => rfl)) (fun _ _ => rfl)) pa_nil))) (pa_cons (pv 4) (pa_cons (pv 5) pa_nil))))))))))), ?_⟩
    unfold undoS at q
    have lev : evs.length = st.es.length := by rw [dpAll_len hev, List.length_map]
    walk_at "w"
    by_cases h1 : u = "Ann"
    · rw [if_neg (by rw [word_u hu, decide_eq_true_eq]; exact fun z => z h1)] at q
      refine ite_t (decide_eq_true h1) ?_
      walk_at "w"
      refine ⟨by show 2 ≤ sizeLine; decide, fun p fp => ?_⟩
      walk_at "w"
      refine ⟨by show 3 ≤ sizeLine; decide, fun r fr => ?_⟩
      have s1 : Same H (upd H p (.tup [V.str "name", V.str "Ann"])) := same_upd_fresh fp (Same.refl _)
      have s2 := same_upd_fresh (o := .lst [V.ref p, .non, .non]) fr (Same.refl _)
      refine q r (.ref p) _ (s1.trans s2) upd_same (dp_kd (same_kd s2) (np_er _) ?_)
      rw [h1]
      exact .tup (SqT.of upd_same) (.cons (.str _) (.cons (.str _) .nil))
    rw [if_pos (by rw [word_u hu, decide_eq_true_eq]; exact h1)] at q
    refine ite_f (decide_eq_false h1) ?_
    walk_at "w"
    refine ⟨b, evs, rfl, SqL.of hb, fun D1 hD1 => ?_⟩
    refine lc_it walk_enum (PvA _ D1 fun i => (plc st.es u i).map fun j => V.int ((j : Nat) : Int)) (pva_0 hD1 rfl) (fun i H2 _ pv => SqL.of (pv.2.1 _ _ hb)) (fun i x H2 H3 hi pv y => ?_) (fun H2 pv1 => ?_)
    · obtain ⟨T, x1, y1, rfl, hT, rfl, e1, e2⟩ := y
      dsimp only at e1 e2
      cases e1
      have hie : i < st.es.length := by omega
      have he : st.es[i]? = some (st.es[i]'hie) := List.getElem?_eq_getElem _
      obtain ⟨v, hv, dv⟩ := dpAll_at hev (i := i) (d := enD (st.es[i]'hie)) (by rw [List.getElem?_map, he]; rfl)
      rw [hv] at e2
      cases e2
      have sT : Same H2 (upd H2 T (.tup [V.int ((i : Nat) : Int), y1])) := same_upd_fresh hT (Same.refl _)
      have hTT : SqT K (upd H2 T (.tup [V.int ((i : Nat) : Int), y1])) T [V.int ((i : Nat) : Int), y1] := SqT.of upd_same
      obtain ⟨a, r, rfl, ha⟩ := dp_en_head (dp_kd (same_kd (pv.2.1.trans sT)) (np_en _) dv)
      refine w_gtup hTT rfl ?_
      walk_at "w"
      refine ⟨rfl, ?_⟩
      walk_at "w"
      refine r_ixT ha (atI_nat (j := 0) rfl) ?_
      walk_at "w"
      by_cases hz : (st.es[i]'hie).u = u
      · refine ite_t (decide_eq_true hz) ?_
        walk_at "w"
        refine pva_step pv sT ?_ ?_
        · rw [plc_succ he, if_pos (decide_eq_true hz), List.map_append]
          rfl
        · rw [List.length_map]
          have := plc_len (es := st.es) (u := u) (n := i)
          omega
      · refine ite_f (decide_eq_false hz) ?_
        refine pva_skip pv sT ?_
        rw [plc_succ he, if_neg (by rw [decide_eq_false hz]; decide)]
    have hpl : H2 D1 = some (.lst ((places st.es u).map fun j => V.int ((j : Nat) : Int))) := by
      rw [pv1.2.2, lev]
      rfl
    have s12 := pv1.2.1
    have hb2 := s12 _ _ hb
    walk_at "w"
    refine w_fresh (by simp) fun t0 ht0 => ?_
    have s23 : Same H2 (upd H2 t0 (.lst [])) := same_upd_fresh ht0 (Same.refl _)
    have dpl : Dp K (upd H2 t0 (.lst [])) (.ref D1) (.list (((places st.es u).map fun j => ((j : Nat) : Int)).map .int)) := .lst (SqL.of (s23 _ _ hpl)) (by
      have := dpAll_ints (K := K) (H := upd H2 t0 (.lst [])) ((places st.es u).map fun j => ((j : Nat) : Int))
      rw [List.map_map] at this
      exact this)
    refine r_eqD dpl (.lst (SqL.of upd_same) .nil) (shaped_ints _) (shaped_ints []) ?_
    generalize hH3 : upd H2 t0 (.lst []) = H3 at s23 dpl ⊢
    have s3 := s12.trans s23
    have hb3 := s23 _ _ hb2
    cases hpp : (places st.es u).getLast? with
    | none =>
      rw [hpp] at q
      have e0 : places st.es u = [] := List.getLast?_eq_none_iff.mp hpp
      rw [e0]
      refine w_k (iteT ?_)
      walk_at "w"
      refine ⟨by show 2 ≤ sizeLine; decide, fun p fp => ?_⟩
      walk_at "w"
      refine ⟨by show 3 ≤ sizeLine; decide, fun r fr => ?_⟩
      have s4 : Same H3 (upd H3 p (.tup [V.str "nothing", V.non])) := same_upd_fresh fp (Same.refl _)
      have s5 := same_upd_fresh (o := .lst [V.ref p, .non, .non]) fr (Same.refl _)
      exact q r (.ref p) _ (s3.trans (s4.trans s5)) upd_same (dp_kd (same_kd s5) (np_er .nothing) (.tup (SqT.of upd_same) (.cons (.str _) (.cons .non .nil))))
    | some k =>
      rw [hpp] at q
      dsimp only at q
      have hne : places st.es u ≠ [] := fun e0 => by rw [e0] at hpp; cases hpp
      have e0 : PyData.eqv (.list (((places st.es u).map fun j => ((j : Nat) : Int)).map .int)) (.list []) = false := by
        cases hp : places st.es u with
        | nil => exact absurd hp hne
        | cons a r => rfl
      rw [e0]
      refine w_k (iteF ?_)
      have hk : k < st.es.length := plc_lt (List.mem_of_getLast? hpp)
      have hat : atI ((places st.es u).map fun j => V.int ((j : Nat) : Int)) (-1) = some (.int (k : Int)) := by
        obtain ⟨pre, hpre⟩ := List.getLast?_eq_some_iff.mp hpp
        rw [hpre, List.map_append]
        exact atI_last _ _
      have hpl3 := s23 _ _ hpl
      walk_at "w"
      refine r_ixL (SqL.of hpl3) hat ?_
      walk_at "w"
      refine ⟨b, evs, rfl, SqL.of hb3, fun p4 f4 => ?_⟩
      rw [cut_take (by omega)]
      have s34 : Same H3 (upd H3 p4 (.lst (evs.take k))) := same_upd_fresh f4 (Same.refl _)
      have e4 : upd H3 p4 (.lst (evs.take k)) p4 = some (.lst (evs.take k)) := upd_same
      generalize upd H3 p4 (.lst (evs.take k)) = H4 at s34 e4 ⊢
      walk_at "w"
      refine r_ixL (SqL.of (s34 _ _ hpl3)) hat ?_
      walk_at "w"
      have ek : ((k : Nat) : Int) + 1 = ((k + 1 : Nat) : Int) := by omega
      rw [ek]
      refine ⟨b, evs, rfl, SqL.of (s34 _ _ hb3), fun p5 f5 => ?_⟩
      rw [cut_drop (by omega)]
      have s45 : Same H4 (upd H4 p5 (.lst (evs.drop (k + 1)))) := same_upd_fresh f5 (Same.refl _)
      have e5 : upd H4 p5 (.lst (evs.drop (k + 1))) p5 = some (.lst (evs.drop (k + 1))) := upd_same
      generalize upd H4 p5 (.lst (evs.drop (k + 1))) = H5 at s45 e5 ⊢
      refine r_cat (s45 _ _ e4) e5 (by rw [List.length_take, List.length_drop]; omega) fun p6 f6 => ?_
      have s56 : Same H5 (upd H5 p6 (.lst (evs.take k ++ evs.drop (k + 1)))) := same_upd_fresh f6 (Same.refl _)
      have e6 : upd H5 p6 (.lst (evs.take k ++ evs.drop (k + 1))) p6 = some (.lst (evs.take k ++ evs.drop (k + 1))) := upd_same
      generalize upd H5 p6 (.lst (evs.take k ++ evs.drop (k + 1))) = H6 at s56 e6 ⊢
      have s36 : Same H3 H6 := (s34.trans s45).trans s56
      have s6 : Same H H6 := s3.trans s36
      have dev : DpAll K H (evs.take k ++ evs.drop (k + 1)) ((st.es.take k ++ st.es.drop (k + 1)).map enD) := by
        rw [List.map_append, List.map_take, List.map_drop]
        exact dpAll_app (dpAll_take k hev) (dpAll_drop (k + 1) hev)
      have hmem : ∀ e ∈ st.es.take k ++ st.es.drop (k + 1), e ∈ st.es := fun e he => (List.mem_append.mp he).elim List.mem_of_mem_take List.mem_of_mem_drop
      have llen : (evs.take k ++ evs.drop (k + 1)).length = (st.es.take k ++ st.es.drop (k + 1)).length := by rw [dpAll_len dev, List.length_map]
      generalize st.es.take k ++ st.es.drop (k + 1) = es' at q dev hmem llen
      generalize evs.take k ++ evs.drop (k + 1) = evs' at e6 dev llen
      walk_at "w"
      refine ⟨⟨_, SqL.of e6⟩, ?_⟩
      refine for_it walk_list (fun i σ' H' => Same H6 H' ∧ ∃ wv y6 y7 wi, σ' = [some v0, some (.ref b), some (.str u), some (.ref D1), some (.ref p6), some wv, y6, y7, none] ∧ foldW st.first (es'.take i) = .ok wi ∧ LawW K H' wv wi) ⟨Same.refl _, v0, none, none, st.first, rfl, rfl, hW.same s6⟩ (fun i σ' H' _ pv => SqL.of (pv.1 _ _ e6)) (fun i y σ' H7' H7 hi pv yy => ?_) (fun σ' H7 pv => ?_)
      · obtain ⟨rfl, hy⟩ := yy
        obtain ⟨s67, wv, y6, y7, wi, rfl, hfi, hwv⟩ := pv
        have hie : i < es'.length := by omega
        have he : es'[i]? = some (es'[i]'hie) := List.getElem?_eq_getElem _
        obtain ⟨v, hv, dv⟩ := dpAll_at dev (i := i) (d := enD (es'[i]'hie)) (by rw [List.getElem?_map, he]; rfl)
        rw [hy] at hv
        cases hv
        have hin := hV _ (hmem _ (List.getElem_mem hie))
        have ftake : foldW st.first (es'.take (i + 1)) = doW wi (es'[i]'hie) := by
          rw [List.take_add_one, he, Option.toList_some, foldW_snoc, hfi]
        have Wi := foldW_ok W hfi
        have s07 := s6.trans s67
        walk_at "w"
        refine ⟨wv, y, wi, es'[i]'hie, rfl, hwv, Wi, dp_kd (same_kd s07) (np_en _) dv, hin.1, fun x8 H8 s78 hx8 => ?_⟩
        rw [enV_res hin] at hx8
        have s08 := s07.trans s78
        cases hd : doW wi (es'[i]'hie) with
        | ok w' =>
          rw [hd] at hx8
          obtain rfl : x8 = V.non := hx8
          walk_at "w"
          refine ⟨wv, y, wi, w', es'[i]'hie, rfl, hwv.same s78, Wi, dp_kd (same_kd s08) (np_en _) dv, enV_n hin, hd, fun r H9 f9 s89 hw9 => ?_⟩
          walk_at "w"
          exact ⟨s67.trans (s78.trans s89), .ref r, some y, some .non, w', rfl, by rw [ftake, hd], hw9⟩
        | error x =>
          rw [hd] at hx8
          rw [foldW_pre (i := i + 1) (by rw [ftake, hd])] at q
          dsimp only at q
          have hx8 : Dp K H8 x8 (erD x) := hx8
          obtain ⟨xa, rfl⟩ : ∃ a, x8 = .ref a := by
            cases x <;> (cases hx8; exact ⟨_, rfl⟩)
          walk_at "w"
          refine ⟨by show 3 ≤ sizeLine; decide, fun r fr => ?_⟩
          have s9 := same_upd_fresh (o := .lst [V.ref xa, .non, .non]) fr (Same.refl _)
          exact q r _ _ (s08.trans s9) upd_same (dp_kd (same_kd s9) (np_er _) hx8)
      · obtain ⟨s67, wv, y6, y7, w', rfl, hfi, hwv⟩ := pv
        have hfull : foldW st.first es' = .ok w' := by
          rw [← hfi, llen, List.take_length]
        rw [hfull] at q
        dsimp only at q
        have s7 := s6.trans s67
        walk_at "w"
        refine r_ixL (SqL.of (s67 _ _ (s36 _ _ hpl3))) hat ?_
        obtain ⟨yk, hyk⟩ : ∃ yk, evs[k]? = some yk := ⟨_, List.getElem?_eq_getElem (by omega)⟩
        refine r_ixL (SqL.of (s7 _ _ hb)) (atI_nat hyk) ?_
        walk_at "w"
        refine ⟨by show 2 ≤ sizeLine; decide, fun p8 f8 => ?_⟩
        have s8 : Same H7 (upd H7 p8 (.tup [V.str "entry", yk])) := same_upd_fresh f8 (Same.refl _)
        walk_at "w"
        refine ⟨by show 3 ≤ sizeLine; decide, fun r fr => ?_⟩
        have s9 := same_upd_fresh (o := .lst [V.ref p8, V.ref p6, wv]) fr (Same.refl _)
        have s79 := s8.trans s9
        exact q r _ p6 evs' wv _ (s7.trans s79) upd_same (s79 _ _ (s67 _ _ e6)) (dpAll_kd (same_kd (s7.trans s79)) (npL_en _) dev) (hwv.same s79)
end
end PW

/-! ##### LK -/
set_option Elab.async false
set_option linter.all false
set_option maxRecDepth 100000
set_option maxHeartbeats 2000000
namespace PW
open PySem PySem.Spec PyProof.Rows L2 He PWL

open PWW
/-! ### the law's record of requests -/
def rqL : Rq → Prop
  | .ent e => enL e
  | .undo u => uL u
theorem uL_len {u : Str} (h : uL u) : u.length ≤ 1000 := by
  rcases h with rfl | rfl | rfl <;> decide
theorem nL_len {u : Str} (h : nL u) : u.length ≤ 1000 := by
  rcases h with rfl | rfl | rfl <;> decide
theorem rL_len : ∀ {r : Str}, rL r → r.length ≤ 1000 := by
  intro r h
  unfold rL at h
  revert r
  decide
theorem enL_ok {e : En} (h : enL e) : enOk e := by
  cases e with
  | load u n z f => exact ⟨uL_len h.1, nL_len h.2.1⟩
  | rope u n z p f =>
    refine ⟨uL_len h.1, nL_len h.2.1, rL_len h.2.2.1, ?_⟩
    cases p with
    | tup p =>
      obtain ⟨z, ps, rfl, _, hl, _⟩ := h.2.2.2.1
      show (mkP z ps).length ≤ 1000
      rw [len_mkP]
      omega
    | lst p =>
      obtain rfl := h.2.2.2.1
      decide
  | drop u n z => exact ⟨uL_len h.1, nL_len h.2.1⟩
theorem rqL_ok {r : Rq} (h : rqL r) : rqOk r := by
  cases r with
  | ent e => exact enL_ok h
  | undo u => exact uL_len h
theorem doS_res {st : Shop} {e : En} : doS st e = match resW st.works e with
    | .ok w => .ok { st with works := w, es := st.es ++ [e] }
    | .error x => .error x := by
  unfold doS resW
  by_cases h1 : wordOk e.u SMALL = true
  · rw [if_pos h1, if_pos h1]
    by_cases h2 : isNb e.n = true
    · rw [if_pos h2, if_pos h2]
      all_goals (cases doW st.works e <;> rfl)
    · rw [if_neg h2, if_neg h2]
  · rw [if_neg h1, if_neg h1]
theorem resW_ok {w w' : W2} {e : En} (h : enL e) (hr : resW w e = .ok w') : enV e ∧ doW w e = .ok w' := by
  by_cases h1 : e.u = "Ann"
  · rw [resW_ann (enL_u h) h1] at hr
    cases hr
  · by_cases h2 : e.n = "zz"
    · rw [resW_zz (enL_u h) h1 (enL_n h) h2] at hr
      cases hr
    · rw [resW_do (enL_u h) h1 (enL_n h) h2] at hr
      exact ⟨⟨h, h1, h2⟩, hr⟩
theorem doQ_enV {st st' : Shop} {r : Rq} (hr : rqL r) (hV : ∀ e ∈ st.es, enV e) (h : doQ st r = .ok st') : ∀ e ∈ st'.es, enV e := by
  cases r with
  | ent e =>
    have h : doS st e = .ok st' := h
    rw [doS_res] at h
    cases hw : resW st.works e with
    | error x => rw [hw] at h; cases h
    | ok w' =>
      rw [hw] at h
      cases h
      intro e' he
      rcases List.mem_append.mp he with he | he
      · exact hV _ he
      · rw [List.mem_singleton.mp he]; exact (resW_ok hr hw).1
  | undo u =>
    have h : undoS st u = .ok st' := h
    unfold undoS at h
    split at h
    · cases hp : (places st.es u).getLast? with
      | none => rw [hp] at h; cases h
      | some k =>
        rw [hp] at h
        dsimp only at h
        cases hf : foldW st.first (st.es.take k ++ st.es.drop (k + 1)) with
        | error x => rw [hf] at h; cases h
        | ok w' =>
          rw [hf] at h
          cases h
          intro e' he
          exact hV _ ((List.mem_append.mp he).elim List.mem_of_mem_take List.mem_of_mem_drop)
    · cases h
def spAfter (K : PySem.W.Frag) : Sp := fun vs H Q _ => ∃ (v0 v : V) (b m : Addr) (st : Shop) (rs : List Rq) (evs mvs : List V), vs = [v0, .ref b, v, .ref m] ∧ LawW K H v0 st.first ∧ WOk st.first ∧ H b = some (.lst evs) ∧ DpAll K H evs (st.es.map enD) ∧ (∀ e ∈ st.es, enV e) ∧ LawW K H v st.works ∧ WOk st.works ∧
  H m = some (.lst mvs) ∧ DpAll K H mvs (rs.map rqD) ∧ (∀ r ∈ rs, rqL r) ∧ st.es.length + rs.length ≤ 900 ∧ match foldQ st rs with
  | .ok st' => ∀ t d H', H d = none → Same H H' → H' t = some (.tup [.str "works", .ref d]) → WorksAt K H' (.ref d) st'.works → Q (.ref t) H'
  | .error er => ∀ x H', Same H H' → Dp K H' x (erD er) → Q x H'
theorem w_glst {K : PySem.W.Frag} {H : Hp} {σ : L2.St} {QG : L2.St → Hp → Prop} {n : Nat} {gs : TGs} {a : Addr} {xs : List V} (hq : SqL K H a xs) (hl : xs.length = n) (h : gs xs σ H QG) : gLst K n gs (.ref a) σ H QG := ⟨a, xs, rfl, hq, hl, h⟩
theorem WorkAt.unlock {K : PySem.W.Frag} {H : Hp} {d : Addr} {o : HO} {v : V} {g : Giv} {od : Obj} {kvs : List (Key × V)} (hd : H d = some (.frz od (.dK kvs))) (h : WorkAt K H v g) : WorkAt K (upd H d o) v g := by
  obtain ⟨a, dx, l, hh, r, ls, hs, rs, h1, h2, ⟨k3, h3, h3'⟩, h4, ⟨k5, h5, h5'⟩, h6, ⟨k7, h7, h7'⟩, h8⟩ := h
  have tk : TK H (upd H d o) := tk_updK (.inr ⟨od, hd⟩)
  have ne : ∀ {b : Addr} {u : HO}, H b = some u → u ≠ .frz od (.dK kvs) → b ≠ d := fun hb hu e => by rw [e, hd] at hb; exact hu (Option.some.inj hb).symm
  exact ⟨a, dx, l, hh, r, ls, hs, rs, h1, by rw [upd_ne (ne h2 (fun z => nomatch z))]; exact h2, ⟨k3, by rw [upd_ne (ne h3 (fun z => nomatch z))]; exact h3, h3'.tk tk td_fr⟩, h4, ⟨k5, by rw [upd_ne (ne h5 (fun z => nomatch z))]; exact h5, h5'.tk tk td_fr⟩, h6, ⟨k7, by rw [upd_ne (ne h7 (fun z => nomatch z))]; exact h7, h7'.tk tk td_rope⟩, h8⟩
/-- a given work, when a dict that stands apart is locked -/
theorem GivG.lock {K : PySem.W.Frag} {H : Hp} {d a : Addr} {o : HO} {g : Giv} {kvs : List (Key × V)} (hd : H d = some (.dK kvs)) (h : GivG K H a g) (p : ApD H d a) : GivG K (upd H d o) a g := by
  obtain ⟨l, r, hh, h1, ⟨k2, h2, h2'⟩, ⟨k3, h3, h3'⟩, ⟨k4, h4, h4'⟩⟩ := h
  obtain ⟨l', r', hh', h1', nl, nr, nh⟩ := p
  rw [h1] at h1'
  cases h1'
  have tk : TK H (upd H d o) := tk_updK (.inl hd)
  exact ⟨l, r, hh, by rw [upd_ne (fun e => by rw [e, hd] at h1; cases h1)]; exact h1, ⟨k2, by rw [upd_ne nl]; exact h2, h2'.tk tk td_fr⟩, ⟨k3, by rw [upd_ne nr]; exact h3, h3'.tk tk td_rope⟩, ⟨k4, by rw [upd_ne nh]; exact h4, h4'.tk tk td_fr⟩⟩
/-- the works made so far -/
def PvB (K : PySem.W.Frag) (H1 : Hp) (D : Addr) (w : W2) (i : Nat) (H' : Hp) : Prop := Same H1 H' ∧ match i with
  | 0 => H' D = some (.lst [])
  | 1 => ∃ p1 w1, H' D = some (.lst [.ref p1]) ∧ SqT K H' p1 [.str "one", w1] ∧ WorkAt K H' w1 w.one
  | _ => ∃ p1 p2 w1 w2, H' D = some (.lst [.ref p1, .ref p2]) ∧ SqT K H' p1 [.str "one", w1] ∧ SqT K H' p2 [.str "two", w2] ∧ WorkAt K H' w1 w.one ∧ WorkAt K H' w2 w.two
/-- a work stays when a list is written -/
theorem WorkAt.lst {K : PySem.W.Frag} {H : Hp} {d : Addr} {o : HO} {v : V} {g : Giv} {xs : List V} (hd : H d = some (.lst xs)) (h : WorkAt K H v g) : WorkAt K (upd H d o) v g := by
  obtain ⟨a, dx, l, hh, r, ls, hs, rs, h1, h2, ⟨k3, h3, h3'⟩, h4, ⟨k5, h5, h5'⟩, h6, ⟨k7, h7, h7'⟩, h8⟩ := h
  have tk : TK H (upd H d o) := tk_sx sx_upd hd
  have ne : ∀ {b : Addr} {u : HO}, H b = some u → u ≠ .lst xs → b ≠ d := fun hb hu e => by rw [e, hd] at hb; exact hu (Option.some.inj hb).symm
  exact ⟨a, dx, l, hh, r, ls, hs, rs, h1, by rw [upd_ne (ne h2 (fun z => nomatch z))]; exact h2, ⟨k3, by rw [upd_ne (ne h3 (fun z => nomatch z))]; exact h3, h3'.tk tk td_fr⟩, h4, ⟨k5, by rw [upd_ne (ne h5 (fun z => nomatch z))]; exact h5, h5'.tk tk td_fr⟩, h6, ⟨k7, by rw [upd_ne (ne h7 (fun z => nomatch z))]; exact h7, h7'.tk tk td_rope⟩, h8⟩
local macro_rules | `(tactic| walk_at "w") => `(tactic| (repeat (first | with_reducible refine w_seq ?_ | with_reducible refine w_ret ?_ | with_reducible refine w_asg ?_ | with_reducible refine w_ifs ?_ | with_reducible refine w_drop ?_ | with_reducible refine w_next ?_ | with_reducible refine w_cont ?_ | with_reducible refine w_par ?_ | with_reducible refine w_par3 ?_ | with_reducible refine w_three ?_ | with_reducible refine w_two ?_ | with_reducible refine w_name ?_ | with_reducible refine w_c ?_ | with_reducible refine w_op ?_ | with_reducible refine w_un ?_ | with_reducible refine w_cb ?_ | with_reducible refine w_cons ?_ | with_reducible refine w_nil ?_ | with_reducible refine w_tup ?_ | with_reducible refine w_lst ?_ | with_reducible refine w_test ?_ | with_reducible refine w_B ?_ | with_reducible refine w_k ?_ | with_reducible refine w_ki ?_ | with_reducible refine w_and ?_ | with_reducible refine w_or ?_ | with_reducible refine w_not ?_ | with_reducible refine w_andV ?_ | with_reducible refine w_orV ?_ | with_reducible refine w_notV ?_ | with_reducible refine w_if ?_ | with_reducible refine w_yes ?_ | with_reducible refine w_isN ?_ | with_reducible refine w_chain ?_ | with_reducible refine w_sl ?_ | with_reducible refine w_noPart ?_ | with_reducible refine w_part ?_ | with_reducible refine w_fld ?_ | with_reducible refine w_dget ?_ | with_reducible refine w_din ?_ | with_reducible refine w_dnotin ?_ | with_reducible refine w_dput ?_ | with_reducible refine w_newK ?_ | with_reducible refine w_sfld ?_ | with_reducible refine w_methR ?_ | with_reducible refine w_propR ?_ | with_reducible refine w_sl2 ?_ | with_reducible refine w_star ?_ | with_reducible refine w_retN ?_ | with_reducible refine w_gcons ?_ | with_reducible refine w_gnil ?_ | with_reducible refine r_i0 ?_ | with_reducible refine r_u ?_ | with_reducible refine r_eqi ?_ | with_reducible refine r_nei ?_ | with_reducible refine r_eqs ?_ | with_reducible refine r_nes ?_ | with_reducible refine iteT ?_ | with_reducible refine iteF ?_ | with_reducible refine w_lc ?_ | with_reducible refine w_dc ?_ | with_reducible refine w_for ?_ | with_reducible refine w_istr ?_ | with_reducible refine w_ilist ?_ | with_reducible refine w_itup ?_ | with_reducible refine w_irng1 ?_ | with_reducible refine w_irng2 ?_ | with_reducible refine w_ienum ?_ | with_reducible refine w_iitems ?_ | with_reducible refine w_ikeysT ?_ | with_reducible refine w_makeK ?_ | with_reducible refine w_methSN ?_ | with_reducible refine w_makeR ?_ | with_reducible refine w_callR ?_ | with_reducible refine w_dmerge ?_ | with_reducible refine w_ks ?_ | with_reducible refine w_kr ?_ | with_reducible refine isi_int_int ?_ | with_reducible refine isi_int_bool ?_ | with_reducible refine isi_str_str ?_ | with_reducible refine w_1i ?_ | with_reducible refine w_nn ?_ | with_reducible refine w_int_i ?_ | with_reducible refine w_int_b ?_ | ((with_reducible apply w_var); rfl) | ((with_reducible apply r_ixT); assumption; rfl) | ((with_reducible apply r_ixL); assumption; rfl) | ((with_reducible apply isi_tup_tup); assumption) | ((with_reducible apply isi_dict_dict); assumption) | ((with_reducible apply r_lenD); assumption) | ((with_reducible apply r_lenT); assumption) | ((with_reducible apply r_lenL); assumption) | ((with_reducible refine r_all (SqL.of ?_) ?_); assumption) | ((with_reducible apply r_fld); assumption; exact Cn.cls (by assumption) _; exact Cn.noat (by assumption) _ _; first | rfl | assumption) | ((with_reducible apply ite_t); rfl) | ((with_reducible apply ite_f); rfl))))
section
variable {P : Program} {w : World} {K : PySem.W.Frag} {mg : Str → Option Value} {base : Heap}
theorem F__law_after (C : Cn P K mg) : FnR P w K mg base (L2.CX P w) 8 (ga K "_law_after") (spAfter K) := by
  obtain ⟨fd, F⟩ := C.d__law_after
  have sc : FnScope ["_law_first", "_law_entries", "_law_states", "_law_made_here", "_law_entry_here", "_law_due_here", "_law_left", "_law_undone_here", "_law_name"] ["_law_first", "_law_entries", "_law_states", "_law_made_here"] (defScope (top 67)) := ⟨rfl, rfl, rfl, by decide +kernel, rfl, by decide +kernel, by decide +kernel⟩
  refine fnR_nox F sc ?len (fun _ _ _ _ _ _ us hl => match us, hl with | [_, _, _, _], _ => rfl) ?body
  case len => exact fun vs H Q E h => by obtain ⟨_, _, _, _, _, _, _, _, rfl, _⟩ := h; rfl
  case body =>
    intro cdv A outer s H vs Q E hr h
    obtain ⟨v0, v, b, m, st, rs, evs, mvs, rfl, hW0, W0, hb, hev, hV, hW, W, hm, hmv, hL, hz, q⟩ := h
    have F__law_due := F__law_due (w := w) (base := base) C
    have F__law_made_entry := F__law_made_entry (w := w) (base := base) C
    have F__law_undone := F__law_undone (w := w) (base := base) C
    have F__law_built := F__law_built (w := w) (base := base) C
    have lmv : mvs.length = rs.length := by rw [dpAll_len hmv, List.length_map]
    refine ⟨_, (pss_cons (ps_for PassesOwn.never rfl (pi_list (pv 3)) (pg_name (i := 4) sc.nd rfl (Or.inl rfl)) (pss_one (ps_if (pt_cmpR op_eq (pe_callB (call_lenSq : CallR _ _ (rLenSq K)) (by rfl) (C.free "len") b_len (pa_cons (pv 4) pa_nil)) pe_int (nomark _)) (pss_cons (ps_asg (pe_callR F__law_undone (hr.mono (by decide)) (by rfl) (C.g "_law_undone") (C.keep "_law_undone") passL (pa_cons (pv 0) (pa_cons (pv 1) (pa_cons (pe_ix (ix_tup : IxR _ (rIxT K)) (pv 4) pe_int (fun _ _ => rfl)) pa_nil)))) (pg_lst rfl (pgs_cons (pg_name (i := 5) sc.nd rfl (Or.inl rfl)) (pgs_cons (pg_name (i := 6) sc.nd rfl (Or.inl rfl)) (pgs_cons (pg_name (i := 7) sc.nd rfl (Or.inl rfl)) pgs_nil))) : PG _ _ (gLst K 3 _))) (pss_cons (ps_if (pt_cmpR op_isN (pv 6) pe_non (nomark _)) (pss_one (ps_ret (pv 5))) pss_nil) (pss_one (ps_asg (pe_tup (pa_cons (pv 7) (pa_cons (pv 6) pa_nil))) (pg_tup rfl (pgs_cons (pg_name (i := 2) sc.nd rfl (Or.inr rfl)) (pgs_cons (pg_name (i := 1) sc.nd rfl (Or.inl rfl)) pgs_nil)) : PG _ _ (gTup K 2 _)))))) (pss_cons (ps_set (i := 5) sc.nd rfl (Or.inl rfl) (pe_callR F__law_due (hr.mono (by decide)) (by rfl) (C.g "_law_due") (C.keep "_law_due") passL (pa_cons (pv 2) (pa_cons (pv 4) pa_nil)))) (pss_cons (ps_if (pt_cmpR op_notN (pv 5) pe_non (nomark _)) (pss_one (ps_ret (pv 5))) pss_nil) (pss_one (ps_asg (pe_tup (pa_cons (pe_callR F__law_made_entry (hr.mono (by decide)) (by rfl) (C.g "_law_made_entry") (C.keep "_law_made_entry") passL (pa_cons (pv 2) (pa_cons (pv 4) pa_nil))) (pa_cons (pe_op op_cat (pv 1) (pe_lst (pa_cons (pv 4) pa_nil))) pa_nil))) (pg_tup rfl (pgs_cons (pg_name (i := 2) sc.nd rfl (Or.inr rfl)) (pgs_cons (pg_name (i := 1) sc.nd rfl (Or.inl rfl)) pgs_nil)) : PG _ _ (gTup K 2 _))))))))) (pss_one (ps_ret (pe_tup (pa_cons pe_str (pa_cons (pe_callTy (call_dictP rfl) (by rfl) (C.free "dict") b_dict (pa_cons (pe_lock (pe_lc (own := [("_law_name", 8)]) rfl sc.nd (pi_keys (pv 2)) (blkOk_by (N := ["_law_first", "_law_entries", "_law_states", "_law_made_here", "_law_entry_here", "_law_due_here", "_law_left", "_law_undone_here", "_law_name"]) (sc := defScope (top 67)) (by decide +kernel)) (fun _ _ _ _ _ => (pg_name (i := 8) sc.nd rfl (Or.inl rfl))) (fun _ _ _ _ _ => pts_nil) (fun _ _ _ _ _ => (pe_tup (pa_cons (pv 8) (pa_cons (pe_callR F__law_built (hr.mono (by decide)) (by rfl) (C.g "_law_built") (C.keep "_law_built") passL (pa_cons (pe_dget (hu_of hr) (pv 2) (pv 8) (fun _ _ => rfl)) pa_nil)) pa_nil)))))) pa_nil)) pa_nil)))))), ?_⟩
    walk_at "w"
    refine ⟨⟨_, SqL.of hm⟩, ?_⟩
    refine for_it walk_list (fun i σ' H' => Same H H' ∧ ∃ bi vi x4 x5 x6 x7 sti evi, σ' = [some v0, some (.ref bi), some vi, some (.ref m), x4, x5, x6, x7, none] ∧ foldQ st (rs.take i) = .ok sti ∧ H' bi = some (.lst evi) ∧ DpAll K H' evi (sti.es.map enD) ∧ (∀ e ∈ sti.es, enV e) ∧ LawW K H' vi sti.works ∧ WOk sti.works ∧ sti.first = st.first ∧ sti.es.length ≤ st.es.length + i)
      ⟨Same.refl _, b, v, none, none, none, none, st, evs, rfl, rfl, hb, hev, hV, hW, W, rfl, Nat.le_add_right _ _⟩ (fun i σ' H' _ pv => SqL.of (pv.1 _ _ hm)) (fun i y σ' H7' H7 hi pv yy => ?_) (fun σ' H7 pv => ?_)
    · obtain ⟨rfl, hy⟩ := yy
      obtain ⟨s7, bi, vi, x4, x5, x6, x7, sti, evi, rfl, hfi, hbi, hevi, hVi, hWi, Wi, hfst, hzi⟩ := pv
      have hir : i < rs.length := by omega
      have hri : rs[i]? = some (rs[i]'hir) := List.getElem?_eq_getElem _
      obtain ⟨yv, hyv, dy⟩ := dpAll_at hmv (i := i) (d := rqD (rs[i]'hir)) (by rw [List.getElem?_map, hri]; rfl)
      rw [hy] at hyv
      cases hyv
      have hLi := hL _ (List.getElem_mem hir)
      have ftake : foldQ st (rs.take (i + 1)) = doQ sti (rs[i]'hir) := by
        rw [List.take_add_one, hri, Option.toList_some, foldQ_snoc, hfi]
      have dy7 := dp_kd (same_kd s7) (np_rq _) dy
      have W0i : WOk sti.first := by rw [hfst]; exact W0
      have hW0i : LawW K H7 v0 sti.first := by rw [hfst]; exact hW0.same s7
      have step := fun st4 (h : doQ sti (rs[i]'hir) = .ok st4) => doQ_step (rqL_ok hLi) h
      have stepV := fun st4 (h : doQ sti (rs[i]'hir) = .ok st4) => doQ_enV hLi hVi h
      generalize rs[i]'hir = rq at dy7 ftake hLi step stepV
      clear dy hri
      cases rq with
      | undo u =>
        obtain ⟨ya, rfl, hS⟩ := dp_undo_inv dy7
        walk_at "w"
        refine ⟨v0, bi, u, sti, evi, rfl, hW0i, W0i, hbi, hevi, hVi, by omega, hLi, ?_⟩
        cases hd : undoS sti u with
        | ok st4 =>
          intro r x l evs' v' H8 s78 hr8 hl8 dl8 hv8
          have hd' : doQ sti (.undo u) = .ok st4 := hd
          refine w_glst (SqL.of hr8) rfl ?_
          walk_at "w"
          refine ⟨by show 2 ≤ sizeLine; decide, fun p9 f9 => ?_⟩
          have s9 := same_upd_fresh (o := .tup [v', V.ref l]) f9 (Same.refl H8)
          refine w_gtup (SqT.of upd_same) rfl ?_
          walk_at "w"
          have sp := step st4 hd'
          exact ⟨s7.trans (s78.trans s9), l, v', _, _, _, _, st4, evs', rfl, by rw [ftake, hd'], s9 _ _ hl8, dpAll_kd (same_kd s9) (npL_en _) dl8, stepV st4 hd', hv8.same s9, sp.w W0i Wi, by rw [sp.fst]; exact hfst, by have := sp.z; omega⟩
        | error er =>
          intro r x H8 s78 hr8 dx8
          have hd' : doQ sti (.undo u) = .error er := hd
          rw [foldQ_pre (i := i + 1) (by rw [ftake, hd'])] at q
          refine w_glst (SqL.of hr8) rfl ?_
          walk_at "w"
          exact q x H8 (s7.trans s78) dx8
      | ent e =>
        have dy7 : Dp K H7 y (enD e) := dy7
        have hLi : enL e := hLi
        obtain ⟨ya, ys, rfl, hS, hys⟩ : ∃ a xs, y = .ref a ∧ SqT K H7 a xs ∧ xs.length ≠ 2 := by
          cases e with
          | load u n z f => obtain ⟨a, _, e, h, _⟩ := dp_load_inv dy7; exact ⟨a, _, e, h, by simp⟩
          | rope u n z p f => obtain ⟨a, _, _, e, h, _⟩ := dp_rope_inv' dy7; exact ⟨a, _, e, h, by simp⟩
          | drop u n z => obtain ⟨a, e, h⟩ := dp_drop_inv dy7; exact ⟨a, _, e, h, by simp⟩
        walk_at "w"
        refine ite_f (decide_eq_false (fun e => hys (by omega))) ?_
        walk_at "w"
        refine ⟨vi, .ref ya, sti.works, e, rfl, hWi, Wi, dy7, hLi, fun x8 H8 s78 hx8 => ?_⟩
        cases hd : resW sti.works e with
        | error er =>
          rw [hd] at hx8
          have hx8 : Dp K H8 x8 (erD er) := hx8
          have hd' : doQ sti (.ent e) = .error er := by
            show doS sti e = _
            rw [doS_res, hd]
          rw [foldQ_pre (i := i + 1) (by rw [ftake, hd'])] at q
          obtain ⟨xa, rfl⟩ : ∃ a, x8 = .ref a := by
            cases er <;> (cases hx8; exact ⟨_, rfl⟩)
          walk_at "w"
          exact q _ H8 (s7.trans s78) hx8
        | ok w' =>
          rw [hd] at hx8
          obtain rfl : x8 = V.non := hx8
          obtain ⟨hVe, hdo⟩ := resW_ok hLi hd
          have hd' : doQ sti (.ent e) = .ok { sti with works := w', es := sti.es ++ [e] } := by
            show doS sti e = _
            rw [doS_res, hd]
          have sp := step _ hd'
          walk_at "w"
          refine ⟨vi, .ref ya, sti.works, w', e, rfl, hWi.same s78, Wi, dp_kd (same_kd s78) (np_en _) dy7, enV_n hVe, hdo, fun r H9 f9 s89 hw9 => ?_⟩
          have s79 := s78.trans s89
          walk_at "w"
          refine ⟨by show 1 ≤ sizeLine; decide, fun p10 f10 => ?_⟩
          generalize hH10 : upd H9 p10 (.lst [V.ref ya]) = H10
          have s10 : Same H9 H10 := hH10 ▸ same_upd_fresh f10 (Same.refl _)
          have e10 : H10 p10 = some (.lst [V.ref ya]) := by rw [← hH10]; exact upd_same
          have s710 := s79.trans s10
          refine r_cat (s710 _ _ hbi) e10 (by rw [dpAll_len hevi, List.length_map]; show sti.es.length + 1 ≤ 100000; omega) fun p11 f11 => ?_
          generalize hH11 : upd H10 p11 (.lst (evi ++ [V.ref ya])) = H11
          have s11 : Same H10 H11 := hH11 ▸ same_upd_fresh f11 (Same.refl _)
          have e11 : H11 p11 = some (.lst (evi ++ [V.ref ya])) := by rw [← hH11]; exact upd_same
          walk_at "w"
          refine ⟨by show 2 ≤ sizeLine; decide, fun p12 f12 => ?_⟩
          have s12 := same_upd_fresh (o := .tup [V.ref r, V.ref p11]) f12 (Same.refl H11)
          have s711 := s710.trans (s11.trans s12)
          refine w_gtup (SqT.of upd_same) rfl ?_
          walk_at "w"
          refine ⟨s7.trans s711, p11, .ref r, _, _, _, _, _, evi ++ [V.ref ya], rfl, by rw [ftake, hd'], s12 _ _ e11, ?_, stepV _ hd', hw9.same (s10.trans (s11.trans s12)), doW_ok Wi hdo, hfst, ?_⟩
          · show DpAll K _ _ ((sti.es ++ [e]).map enD)
            rw [List.map_append]
            exact dpAll_app (dpAll_kd (same_kd s711) (npL_en _) hevi) (.cons (dp_kd (same_kd s711) (np_en _) dy7) .nil)
          · show (sti.es ++ [e]).length ≤ _
            rw [List.length_append]
            show sti.es.length + 1 ≤ _
            omega
    · obtain ⟨s7, bi, vi, x4, x5, x6, x7, sti, evi, rfl, hfi, hbi, hevi, hVi, hWi, Wi, hfst, hzi⟩ := pv
      have hfull : foldQ st rs = .ok sti := by
        rw [← hfi, lmv, List.take_length]
      rw [hfull] at q
      dsimp only at q
      obtain ⟨d, a1, a2, rfl, hd, hg1, hg2, hp1, hp2⟩ := id hWi
      walk_at "w"
      refine w_lockE hd True.intro fun od => ?_
      have hg1' := hg1.lock (o := .frz od (.dK (wkv (V.ref a1) (V.ref a2)))) hd hp1
      have hg2' := hg2.lock (o := .frz od (.dK (wkv (V.ref a1) (V.ref a2)))) hd hp2
      generalize hH8 : upd H7 d (.frz od (.dK (wkv (V.ref a1) (V.ref a2)))) = H8 at hg1' hg2' ⊢
      have hd8 : H8 d = some (.frz od (.dK (wkv (V.ref a1) (V.ref a2)))) := by rw [← hH8]; exact upd_same
      walk_at "w"
      refine ⟨d, od, rfl, .inl ⟨_, hd8, fun D1 hD1 => ?_⟩⟩
      refine lc_it walk_keys (PvB K H8 D1 sti.works) ⟨same_upd_fresh hD1 (Same.refl _), upd_same⟩ (fun i H' _ pv => pv.1 _ _ hd8) (fun i y H9' H9 hi pv yy => ?_) (fun H9 pv => ?_)
      · obtain ⟨rfl, k, kv, hkv, rfl⟩ := yy
        have hi2 : i < 2 := hi
        match i, hi2, hkv, pv with
        | 0, _, hkv, pv =>
          obtain ⟨s9, hD9⟩ := pv
          cases hkv
          walk_at "w"
          refine ⟨rfl, ?_⟩
          walk_at "w"
          refine r_dgetS (.inr ⟨od, s9 _ _ hd8⟩) val_one ?_
          walk_at "w"
          refine ⟨a1, sti.works.one.l3, sti.works.one, rfl, hg1'.same s9, Wi.one, relG _, fun x H10 f10 s910 wk _ => ?_⟩
          walk_at "w"
          refine ⟨by show 2 ≤ sizeLine; decide, fun p11 f11 => ?_⟩
          have s11 : Same H10 (upd H10 p11 (.tup [V.str "one", V.ref x])) := same_upd_fresh f11 (Same.refl _)
          have hD11 := s11 _ _ (s910 _ _ hD9)
          refine ⟨[], hD11, by show 0 < sizeLine; decide, same_upd_fresh hD1 (s9.trans (s910.trans s11)), p11, .ref x, upd_same, ?_, (wk.same s11).lst hD11⟩
          exact sqT_tk (tk_sx sx_upd hD11) (SqT.of upd_same)
        | 1, _, hkv, pv =>
          obtain ⟨s9, p1, w1, hD9, hp19, hw19⟩ := pv
          cases hkv
          walk_at "w"
          refine ⟨rfl, ?_⟩
          walk_at "w"
          refine r_dgetS (.inr ⟨od, s9 _ _ hd8⟩) val_two ?_
          walk_at "w"
          refine ⟨a2, sti.works.two.l3, sti.works.two, rfl, hg2'.same s9, Wi.two, relG _, fun x H10 f10 s910 wk _ => ?_⟩
          walk_at "w"
          refine ⟨by show 2 ≤ sizeLine; decide, fun p11 f11 => ?_⟩
          have s11 : Same H10 (upd H10 p11 (.tup [V.str "two", V.ref x])) := same_upd_fresh f11 (Same.refl _)
          have s911 := s910.trans s11
          have hD11 := s911 _ _ hD9
          refine ⟨[V.ref p1], hD11, by show 1 < sizeLine; decide, same_upd_fresh hD1 (s9.trans s911), p1, p11, w1, .ref x, upd_same, ?_, ?_, (hw19.same s911).lst hD11, (wk.same s11).lst hD11⟩
          · exact sqT_tk (tk_sx sx_upd hD11) (sqT_same s911 hp19)
          · exact sqT_tk (tk_sx sx_upd hD11) (SqT.of upd_same)
      obtain ⟨s9, p1, p2, w1, w2, hD9, hp1', hp2', hw1, hw2⟩ := pv
      rw [← hH8] at s9
      obtain ⟨u1, u2⟩ := same_unlock hd True.intro s9
      refine ⟨u1, ?_⟩
      have hDd : D1 ≠ d := fun e => by rw [e, u1] at hD9; cases hD9
      have hD10 : upd H9 d (.dK (wkv (V.ref a1) (V.ref a2))) D1 = some (.lst [.ref p1, .ref p2]) := by rw [upd_ne hDd]; exact hD9
      have tk : TK H9 (upd H9 d (.dK (wkv (V.ref a1) (V.ref a2)))) := tk_updK (.inr ⟨od, u1⟩)
      have hw1 := hw1.unlock (o := .dK (wkv (V.ref a1) (V.ref a2))) u1
      have hw2 := hw2.unlock (o := .dK (wkv (V.ref a1) (V.ref a2))) u1
      have hp1' := sqT_tk tk hp1'
      have hp2' := sqT_tk tk hp2'
      generalize upd H9 d (.dK (wkv (V.ref a1) (V.ref a2))) = H10 at u2 hD10 hw1 hw2 hp1' hp2' ⊢
      have s010 := s7.trans u2
      walk_at "w"
      refine ⟨D1, [p1, p2], wkv w1 w2, rfl, SqL.of hD10, .cons hp1' (.cons hp2' .nil), fun p11 f11 => ?_⟩
      have em : mergeK [] (wkv w1 w2) = wkv w1 w2 := mergeK_new _ _ wkv_nodup
      rw [em]
      have s11 : Same H10 (upd H10 p11 (.dK (wkv w1 w2))) := same_upd_fresh f11 (Same.refl _)
      have e11 : upd H10 p11 (.dK (wkv w1 w2)) p11 = some (.dK (wkv w1 w2)) := upd_same
      generalize upd H10 p11 (.dK (wkv w1 w2)) = H11 at s11 e11 ⊢
      walk_at "w"
      refine ⟨by show 2 ≤ sizeLine; decide, fun p12 f12 => ?_⟩
      have s12 : Same H11 (upd H11 p12 (.tup [V.str "works", V.ref p11])) := same_upd_fresh f12 (Same.refl _)
      exact q p12 p11 _ (Same.free s010 f11) (s010.trans (s11.trans s12)) upd_same ⟨p11, w1, w2, rfl, s12 _ _ e11, hw1.same (s11.trans s12), hw2.same (s11.trans s12)⟩
end
end PW

/-! ##### EB -/
set_option Elab.async false
set_option linter.all false
set_option maxRecDepth 100000
set_option maxHeartbeats 2000000
namespace PW
open PySem PySem.Spec PyProof.Rows L2 He PWL

open PWW He
/-! ### workshops compared, works compared inside dicts -/
structure Cn4 (P : Program) (K : PySem.W.Frag) (mg : Str → Option Value) : Prop extends Cn3 P K mg where
  sLen : Meth K (ga K "Workshop") "__len__" (ma K (ga K "Workshop") "__len__")
  okmax : (Fa.free "max").ok K = true
theorem Cn4.fmax {P : Program} {K : PySem.W.Frag} {mg : Str → Option Value} (C : Cn4 P K mg) : mg "max" = none := by
  obtain ⟨hp, X, G⟩ := C.loc
  exact free_ok X G C.okmax
theorem b_max : bootBuiltins ("max" : Str) = some (.builtin "max") := by decide +kernel
def RW (K : PySem.W.Frag) (a b : Addr) (H : Hp) : Prop := ∃ g, WorkRd K H (.ref a) g ∧ WorkRd K H (.ref b) g ∧ GOk g
def DWork (K : PySem.W.Frag) : Eqv := DIns (ga K "Work") (RW K)
theorem mon_work {K : PySem.W.Frag} : Mon (DWork K) := mon_ins fun a b H H' e ⟨g, h1, h2, G⟩ => ⟨g, h1.same e, h2.same e, G⟩
theorem hspW {K : PySem.W.Frag} {E : XK} (a b : Addr) (H : Hp) (Q : VK) (r : RW K a b H) (q : ∀ H', Ext H H' → Q (.bl true) H') : spWEq K [.ref a, .ref b] H Q E := let ⟨g, h1, h2, G⟩ := r; ⟨a, b, g, rfl, h1, h2, G, q H (Same.refl H)⟩
theorem DWork.of {K : PySem.W.Frag} {H : Hp} {x y : V} {g : Giv} (h1 : WorkRd K H x g) (h2 : WorkRd K H y g) (G : GOk g) : DWork K x y H := by
  obtain ⟨a, dx, l, hh, r, ls, hs, rs, rfl, ha, hrest⟩ := id h1
  obtain ⟨b, dy, l', hh', r', ls', hs', rs', rfl, hb, hrest'⟩ := id h2
  exact ⟨a, b, dx, dy, _, _, rfl, rfl, ha, hb, g, h1, h2, G⟩
theorem ddict_of {K : PySem.W.Frag} {H : Hp} {a b : Addr} {oa ob : Obj} {x1 x2 y1 y2 : V} {w : W2} (W : WOk w) (ha : H a = some (.frz oa (.dK (wkv x1 x2)))) (hb : H b = some (.frz ob (.dK (wkv y1 y2)))) (h1 : WorkRd K H x1 w.one) (h2 : WorkRd K H x2 w.two) (k1 : WorkRd K H y1 w.one) (k2 : WorkRd K H y2 w.two) : DDict (DWork K) (.ref a) (.ref b) H := by
  refine ⟨a, b, oa, ob, _, _, rfl, rfl, ha, hb, rfl, fun p hp => ?_⟩
  rcases List.mem_cons.mp hp with rfl | hp
  · exact ⟨y1, val_one, DWork.of h1 k1 W.one⟩
  · rw [List.mem_singleton.mp hp]
    exact ⟨y2, val_two, DWork.of h2 k2 W.two⟩
/-- what stands when both dicts are locked -/
theorem lock2 {K : PySem.W.Frag} {H : Hp} {a b : Addr} {x1 x2 y1 y2 : V} {w : W2} (W : WOk w) (hab : a ≠ b) (ha : H a = some (.dK (wkv x1 x2))) (hb : H b = some (.dK (wkv y1 y2))) (h1 : WorkAt K H x1 w.one) (h2 : WorkAt K H x2 w.two) (k1 : WorkAt K H y1 w.one) (k2 : WorkAt K H y2 w.two) (oa ob : Obj) :
    DDict (DWork K) (.ref a) (.ref b) (upd (upd H a (.frz oa (.dK (wkv x1 x2)))) b (.frz ob (.dK (wkv y1 y2)))) := by
  have hb' : upd H a (.frz oa (.dK (wkv x1 x2))) b = some (.dK (wkv y1 y2)) := by rw [upd_ne (Ne.symm hab)]; exact hb
  exact ddict_of W (by rw [upd_ne hab]; exact upd_same) upd_same ((h1.rd.lock ha).lock hb') ((h2.rd.lock ha).lock hb') ((k1.rd.lock ha).lock hb') ((k2.rd.lock ha).lock hb')
/-- == of two dicts of works -/
def rEqW (K : PySem.W.Frag) : R2 := rLock (rLock (rEqG (DDict (DWork K))))
theorem r_eqW {K : PySem.W.Frag} {H : Hp} {Q : VK} {x y : V} {w : W2} (W : WOk w) (hx : WorksAt K H x w) (hy : WorksAt K H y w) (hne : x ≠ y) (q : ∀ H', Same H H' → Q (.bl true) H') : rEqW K x y H Q := by
  obtain ⟨a, x1, x2, rfl, ha, h1, h2⟩ := hx
  obtain ⟨b, y1, y2, rfl, hb, k1, k2⟩ := hy
  have hab : a ≠ b := fun e => hne (by rw [e])
  have hb' : ∀ oa, upd H a (.frz oa (.dK (wkv x1 x2))) b = some (.dK (wkv y1 y2)) := fun oa => by rw [upd_ne (Ne.symm hab)]; exact hb
  refine ⟨a, _, ha, True.intro, fun oa => ⟨b, _, hb' oa, True.intro, fun ob => ⟨lock2 W hab ha hb h1 h2 k1 k2 oa ob, fun H' e => ?_⟩⟩⟩
  obtain ⟨u1, u2⟩ := same_unlock (hb' oa) True.intro e
  obtain ⟨v1, v2⟩ := same_unlock ha True.intro u2
  exact ⟨u1, v1, q _ v2⟩
/-- != of two answers: of data, or of dicts of works -/
def DAns (K : PySem.W.Frag) : Eqv := fun x y H => DFlat x y H ∨ DDict (DWork K) x y H
def rNeW (K : PySem.W.Frag) : R2 := rLock (rLock (rNeT K (DAns K)))
def rNeA (K : PySem.W.Frag) : R2 := fun x y H Q => rNeD K x y H Q ∨ rNeW K x y H Q
theorem op_orR {X : Cx} {op : Value → Value → Sem Value} {r r' : R2} (h : OpR X op r) (h' : OpR X op r') : OpR X op (fun x y H Q => r x y H Q ∨ r' x y H Q) := fun pins s σ H x y v u Q I rx ry hq => hq.elim (h pins s σ H x y v u Q I rx ry) (h' pins s σ H x y v u Q I rx ry)
theorem mon_ans {K : PySem.W.Frag} : Mon (DAns K) := mon_flat.or (mon_dict mon_work)
theorem r_neW {K : PySem.W.Frag} {H : Hp} {Q : VK} {t1 t2 : Addr} {x y : V} {w : W2} (W : WOk w) (h1' : SqT K H t1 [.str "works", x]) (h2' : SqT K H t2 [.str "works", y]) (hx : WorksAt K H x w) (hy : WorksAt K H y w) (hne : x ≠ y) (q : ∀ H', Same H H' → Q (.bl false) H') : rNeW K (.ref t1) (.ref t2) H Q := by
  obtain ⟨a, x1, x2, rfl, ha, h1, h2⟩ := hx
  obtain ⟨b, y1, y2, rfl, hb, k1, k2⟩ := hy
  have hab : a ≠ b := fun e => hne (by rw [e])
  have hb' : ∀ oa, upd H a (.frz oa (.dK (wkv x1 x2))) b = some (.dK (wkv y1 y2)) := fun oa => by rw [upd_ne (Ne.symm hab)]; exact hb
  refine ⟨a, _, ha, True.intro, fun oa => ⟨b, _, hb' oa, True.intro, fun ob => ⟨?_, fun H' e => ?_⟩⟩⟩
  · have tk : TK H (upd (upd H a (.frz oa (.dK (wkv x1 x2)))) b (.frz ob (.dK (wkv y1 y2)))) := (tk_updK (.inl ha)).trans (tk_updK (.inl (hb' oa)))
    refine ⟨t1, t2, _, _, rfl, rfl, sqT_tk tk h1', sqT_tk tk h2', .cons (.inl ⟨rfl, rfl, by decide +kernel⟩) (.cons (.inr (lock2 W hab ha hb h1 h2 k1 k2 oa ob)) .nil)⟩
  · obtain ⟨u1, u2⟩ := same_unlock (hb' oa) True.intro e
    obtain ⟨v1, v2⟩ := same_unlock ha True.intro u2
    exact ⟨u1, v1, q _ v2⟩
theorem sh_er {x : Er} (h : match x with | .unknown z => PyData.strOk z = true | .name z => PyData.strOk z = true | .rope z => PyData.strOk z = true | _ => True) : Sh 2 (erD x) := by
  have two : ∀ {s : Str} {d : PyData} {n : Nat}, PyData.strOk s = true → Sh 1 d → Sh 2 (.tuple [.str s, d]) := fun hs hd => sh_tup fun e he => by
    rcases List.mem_cons.mp he with rfl | he
    · exact (sh_str hs).mono (by decide)
    · rw [List.mem_singleton.mp he]; exact hd
  cases x with
  | unknown z => exact two (n := 0) (by decide +kernel) ((sh_str h).mono (by decide))
  | number f => exact two (n := 0) (by decide +kernel) (sh_fr f)
  | name z => exact two (n := 0) (by decide +kernel) ((sh_str h).mono (by decide))
  | rope z => exact two (n := 0) (by decide +kernel) ((sh_str h).mono (by decide))
  | limit n => exact two (n := 0) (by decide +kernel) ((sh_int n).mono (by decide))
  | nothing => exact two (n := 0) (by decide +kernel) (sh_non.mono (by decide))
/-! len by the own __len__ -/
section
variable {X : Cx} {n : Nat} {CX : CXT} {C f : Addr} {sp : Sp} {E : XK}
def rLenI (C : Addr) (sp : Sp) (E : XK) : List V → Hp → VK → Prop := fun xs H Q => ∃ a dx fs, xs = [.ref a] ∧ H a = some (.ins C dx fs) ∧ sp [.ref a] H (fun v H' => ∃ k : Nat, v = .int k ∧ k ≤ 100000 ∧ Q (.int k) H') E
theorem call_lenI (F : FnR X.prog X.w X.K X.mg X.base CX n f sp) (hr : Room (n + 1) X.A) (hs : PySem.W.findIn X.K (.ref C) "__len__" = some (some (.ref f))) (hf : PySem.W.isFn X.K (.ref f) = true) (hx : Passes CX X E) : CallR X (.builtin "len") (rLenI C sp E) := by
  intro pins s σ H xs us Q I r h
  obtain ⟨a, dx, fs, rfl, ha, hsp⟩ := h
  obtain ⟨u, rfl, ru⟩ := vals1 r
  obtain rfl : u = Value.ref a := ru
  obtain ⟨mA, J, _⟩ := ins_get I.hok ha
  obtain ⟨od, J, _⟩ := J.look
  obtain ⟨m, hF⟩ := I.fr
  refine PySem.W.len_K hF I.ok.mod.kin J hs hf ?_
  refine wpAny_call (codeAny_mono (F X.A.in1 X.stack s H [.ref a] [.ref a] _ E hr.in1 I.env0.in1 (.cons rfl .nil) hsp) fun r s' hq => ?_)
  cases r with
  | error e => exact hx pins σ H s e s' (I.wish _) hq
  | ok fl =>
    cases fl with
    | ret w =>
      obtain ⟨z, H', I', rz, k, ez, hk, q⟩ := I.after hq
      subst ez
      obtain ⟨t, rfl⟩ := rz
      exact ⟨⟨by omega, by omega⟩, .int k, H', I'.tok _, ⟨_, rfl⟩, q⟩
    | next => exact False.elim hq
    | brk => exact False.elim hq
    | cont => exact False.elim hq
end
/-! ### Workshop.__eq__ -/
def spShEq (K : PySem.W.Frag) : Sp := fun vs H Q _ => ∃ (a b : Addr) (st st' : Shop), vs = [.ref a, .ref b] ∧ ShopAt K H a st ∧ ShopAt K H b st' ∧ st'.first = st.first ∧ st'.es = st.es ∧ WOk st.first ∧ (∀ e ∈ st.es, ∃ n ≤ 60, Sh n (enD e)) ∧ st.ad.2 ≠ st'.ad.2 ∧ ∀ H', Same H H' → Q (.bl true) H'
local macro_rules | `(tactic| walk_at "w") => `(tactic| (repeat (first | with_reducible refine w_seq ?_ | with_reducible refine w_ret ?_ | with_reducible refine w_asg ?_ | with_reducible refine w_ifs ?_ | with_reducible refine w_drop ?_ | with_reducible refine w_next ?_ | with_reducible refine w_cont ?_ | with_reducible refine w_par ?_ | with_reducible refine w_par3 ?_ | with_reducible refine w_three ?_ | with_reducible refine w_two ?_ | with_reducible refine w_name ?_ | with_reducible refine w_c ?_ | with_reducible refine w_op ?_ | with_reducible refine w_un ?_ | with_reducible refine w_cb ?_ | with_reducible refine w_cons ?_ | with_reducible refine w_nil ?_ | with_reducible refine w_tup ?_ | with_reducible refine w_lst ?_ | with_reducible refine w_test ?_ | with_reducible refine w_B ?_ | with_reducible refine w_k ?_ | with_reducible refine w_ki ?_ | with_reducible refine w_and ?_ | with_reducible refine w_or ?_ | with_reducible refine w_not ?_ | with_reducible refine w_andV ?_ | with_reducible refine w_orV ?_ | with_reducible refine w_notV ?_ | with_reducible refine w_if ?_ | with_reducible refine w_yes ?_ | with_reducible refine w_isN ?_ | with_reducible refine w_chain ?_ | with_reducible refine w_sl ?_ | with_reducible refine w_noPart ?_ | with_reducible refine w_part ?_ | with_reducible refine w_fld ?_ | with_reducible refine w_dget ?_ | with_reducible refine w_din ?_ | with_reducible refine w_dnotin ?_ | with_reducible refine w_dput ?_ | with_reducible refine w_newK ?_ | with_reducible refine w_sfld ?_ | with_reducible refine w_methR ?_ | with_reducible refine w_propR ?_ | with_reducible refine w_sl2 ?_ | with_reducible refine w_star ?_ | with_reducible refine w_retN ?_ | with_reducible refine w_gcons ?_ | with_reducible refine w_gnil ?_ | with_reducible refine r_i0 ?_ | with_reducible refine r_u ?_ | with_reducible refine r_eqi ?_ | with_reducible refine r_nei ?_ | with_reducible refine r_eqs ?_ | with_reducible refine r_nes ?_ | with_reducible refine iteT ?_ | with_reducible refine iteF ?_ | with_reducible refine w_lc ?_ | with_reducible refine w_dc ?_ | with_reducible refine w_for ?_ | with_reducible refine w_istr ?_ | with_reducible refine w_ilist ?_ | with_reducible refine w_itup ?_ | with_reducible refine w_irng1 ?_ | with_reducible refine w_irng2 ?_ | with_reducible refine w_ienum ?_ | with_reducible refine w_iitems ?_ | with_reducible refine w_ikeysT ?_ | with_reducible refine w_makeK ?_ | with_reducible refine w_methSN ?_ | with_reducible refine w_makeR ?_ | with_reducible refine w_callR ?_ | with_reducible refine w_dmerge ?_ | with_reducible refine w_ks ?_ | with_reducible refine w_kr ?_ | with_reducible refine isi_int_int ?_ | with_reducible refine isi_int_bool ?_ | with_reducible refine isi_str_str ?_ | with_reducible refine w_1i ?_ | with_reducible refine w_nn ?_ | with_reducible refine w_int_i ?_ | with_reducible refine w_int_b ?_ | ((with_reducible apply w_var); rfl) | ((with_reducible apply r_ixT); assumption; rfl) | ((with_reducible apply r_ixL); assumption; rfl) | ((with_reducible apply isi_tup_tup); assumption) | ((with_reducible apply isi_dict_dict); assumption) | ((with_reducible apply r_lenD); assumption) | ((with_reducible apply r_lenT); assumption) | ((with_reducible apply r_lenL); assumption) | ((with_reducible refine r_all (SqL.of ?_) ?_); assumption) | ((with_reducible apply r_fld); assumption; exact Cn.cls (by assumption) _; exact Cn.noat (by assumption) _ _; first | rfl | assumption) | ((with_reducible apply ite_t); rfl) | ((with_reducible apply ite_f); rfl))))
section
variable {P : Program} {w : World} {K : PySem.W.Frag} {mg : Str → Option Value} {base : Heap}
theorem F_Workshop___eq__ (C4 : Cn4 P K mg) : FnR P w K mg base (L2.CX P w) 4 (ma K (ga K "Workshop") "__eq__") (spShEq K) := by
  have C3 := C4.toCn3
  have C2 := C3.toCn2
  have C := C2.toCn
  obtain ⟨fd, F⟩ := C.d_Workshop___eq__
  have sc : FnScope ["self", "other"] ["self", "other"] (defScope (inClass (top 43) 12)) := ⟨rfl, rfl, rfl, by decide +kernel, rfl, by decide +kernel, by decide +kernel⟩
  have F_Work___eq__ := F_Work___eq__ (w := w) (base := base) C
  refine fnR_nox F sc ?len (fun _ _ _ _ _ _ us hl => match us, hl with | [_, _], _ => rfl) ?body
  case len => exact fun vs H Q E h => by obtain ⟨_, _, _, _, rfl, _⟩ := h; rfl
  case body =>
    intro cdv A outer s H vs Q E hr h0
    obtain ⟨a, b, st, st', rfl, h1, h2, hf, he, W, hsh, hne, q⟩ := h0
    obtain ⟨dx, fw, ow, oe, evs, ha, hfw, how, hoe, hev, had⟩ := id h1
    obtain ⟨dy, fw', ow', oe', evs', hb, hfw', how', hoe', hev', had'⟩ := id h2
    rw [had, had'] at hne
    rw [hf] at hfw'
    rw [he] at hev'
    refine ⟨_, (pss_cons (ps_if (pt_not (pt_val (pe_callB (C8.call_isC (C.isC "Workshop")) (by rfl) (C.free "isinstance") b_isinstance (pa_cons (pv 1) (pa_cons (pe_globR (x := "Workshop") C (by rfl) (by rfl)) pa_nil))))) (pss_one (ps_ret pe_bl)) pss_nil) (pss_one (ps_ret (pe_and (pe_cmpR (op_lock (op_lock (op_eqG (rcG_dict mon_work (eqG_insR F_Work___eq__ hspW C3.wEq.at_ C3.wEq.fn passL)) (hr.mono (by decide)))) : OpR _ _ (rEqW K)) (pe_fld (pv 0) rfl : PE _ _ (tFld K _ _)) (pe_fld (pv 1) rfl : PE _ _ (tFld K _ _)) (nomark _)) (pe_one (pe_cmpR (op_eqD hr.units : OpR _ _ (rEqD K)) (pe_fld (pv 0) rfl : PE _ _ (tFld K _ _)) (pe_fld (pv 1) rfl : PE _ _ (tFld K _ _)) (nomark _))))))), ?_⟩
    walk_at "w"
    refine ⟨b, dy, _, rfl, hb, ?_⟩
    walk_at "w"
    refine r_eqW W hfw hfw' hne fun H1 s1 => ?_
    have ha1 := s1 _ _ ha
    have hb1 := s1 _ _ hb
    clear ha hb
    walk_at "w"
    have hl : Sh 61 (.list (st.es.map enD)) := sh_lst fun d hd => by
      obtain ⟨e, he, rfl⟩ := List.mem_map.mp hd
      obtain ⟨n, hn, hs⟩ := hsh e he
      exact hs.mono hn
    refine r_eqD (.lst (SqL.of (s1 _ _ hoe)) (dpAll_kd (same_kd s1) (npL_en _) hev)) (.lst (SqL.of (s1 _ _ hoe')) (dpAll_kd (same_kd s1) (npL_en _) hev')) (hl.ok (by decide)) (hl.ok (by decide)) ?_
    rw [eqv_sh hl]
    walk_at "w"
    exact q H1 s1
end
end PW

/-! ##### LL -/
set_option Elab.async false
set_option linter.all false
set_option maxRecDepth 100000
set_option maxHeartbeats 2000000
namespace PW
open PySem PySem.Spec PyProof.Rows L2 He PWL

open PWW
/-! ### the law's calls of rehearse -/
def spCalled (K : PySem.W.Frag) : Sp := fun vs H Q E => ∃ (s m : Addr) (st : Shop) (rs : List Rq) (mvs : List V), vs = [.ref s, .ref m] ∧ ShopAt K H s st ∧ ShOk st ∧ H m = some (.lst mvs) ∧ DpAll K H mvs (rs.map rqD) ∧ (∀ r ∈ rs, rqOk r) ∧ rs.length ≤ 4 ∧ st.es.length + rs.length ≤ 1000 ∧ match foldQ st rs with
    | .ok st' => ∀ r H', H r = none → Same H H' → WorksAt K H' (.ref r) st'.works → Q (.ref r) H'
    | .error x => ∀ H', Same H H' → exEr K E H' x
def spRehearsed (K : PySem.W.Frag) : Sp := fun vs H Q _ => ∃ (s m : Addr) (st : Shop) (rs : List Rq) (mvs : List V), vs = [.ref s, .ref m] ∧ ShopAt K H s st ∧ ShOk st ∧ H m = some (.lst mvs) ∧ DpAll K H mvs (rs.map rqD) ∧ (∀ r ∈ rs, rqOk r) ∧ rs.length ≤ 4 ∧ st.es.length + rs.length ≤ 1000 ∧ match foldQ st rs with
    | .ok st' => ∀ t d H', H d = none → Same H H' → H' t = some (.tup [.str "works", .ref d]) → WorksAt K H' (.ref d) st'.works → Q (.ref t) H'
    | .error x => ∀ y H', Same H H' → Dp K H' y (erD x) → Q y H'
def spRefused (K : PySem.W.Frag) : Sp := fun vs H Q _ => ∃ v : V, vs = [v] ∧ (v = .non ∨ (∃ i, v = .int i) ∨ ∃ z, v = .str z) ∧ ∀ t H', Same H H' → H' t = some (.tup [.str "name", v]) → Q (.ref t) H'
def spLApplied (K : PySem.W.Frag) : Sp := fun vs H Q _ => ∃ (s : Addr) (y : V) (st st' : Shop) (e : En), vs = [.ref s, y] ∧ ShopAt K H s st ∧ ShOk st ∧ Dp K H y (enD e) ∧ enOk e ∧ doS st e = .ok st' ∧ ∀ H', SX s H H' → ShopAt K H' s st' → Q .non H'
def spSpoil : Sp := fun vs H Q _ => ∃ (d : Addr) (w1 w2 : V), vs = [.ref d] ∧ H d = some (.dK (wkv w1 w2)) ∧ ∀ H', SX d H H' → Q .non H'
theorem sqT_dk {K : PySem.W.Frag} {H : Hp} {d : Addr} {o : HO} {kvs : List (Key × V)} {a : Addr} {xs : List V} (hd : H d = some (.dK kvs)) (h : SqT K H a xs) : SqT K (upd H d o) a xs := sqT_tk (tk_updK (.inl hd)) h
theorem w_byX {C : Addr} {fld : Str} {a : Addr} {cls : Value} {d : Option Addr} {te : TE} {σ : L2.St} {H : Hp} {Q : VK} (h : te σ H fun x H1 => x = .ref a ∧ cls = .ref C ∧ ∃ (dd : Addr) (v : V), d = some dd ∧ H1 dd = some (.xd [(fld, v)]) ∧ Q v H1) : tByX C fld a cls d te σ H Q := h
theorem wcls_no {K : PySem.W.Frag} {Wout : WX} {D : Ends} {c : Value} {i : Option Nat} {ts : Addr → Value → Option Addr → TS} {r : List Cl} {cls : Value} {d : Option Addr} {σ : L2.St} {H : Hp} (he : PySem.W.exmOne K cls c = some false) (h : wCls K Wout D r cls d σ H) : wCls K Wout D ((c, i, ts) :: r) cls d σ H :=
  ⟨false, he, fun h => Bool.noConfusion h, fun _ => h⟩
theorem wcls_yes {K : PySem.W.Frag} {Wout : WX} {D : Ends} {c : Value} {i : Option Nat} {ts : Addr → Value → Option Addr → TS} {r : List Cl} {cls : Value} {d : Option Addr} {σ : L2.St} {H : Hp} (he : PySem.W.exmOne K cls c = some true) (h : ∀ a, H a = none → ts a cls d (goneD i D) (nameD i a σ) H) : wCls K Wout D ((c, i, ts) :: r) cls d σ H :=
  ⟨true, he, fun _ => h, fun h => Bool.noConfusion h⟩
theorem same_sxx {s : Addr} {H H1 H2 : Hp} (a : Same H H1) (b : SX s H1 H2) : SX s H H2 := fun c o hc h => b c o hc (a c o h)
local macro_rules | `(tactic| walk_at "w") => `(tactic| (repeat (first | with_reducible refine w_seq ?_ | with_reducible refine w_ret ?_ | with_reducible refine w_asg ?_ | with_reducible refine w_ifs ?_ | with_reducible refine w_drop ?_ | with_reducible refine w_next ?_ | with_reducible refine w_cont ?_ | with_reducible refine w_par ?_ | with_reducible refine w_par3 ?_ | with_reducible refine w_three ?_ | with_reducible refine w_two ?_ | with_reducible refine w_name ?_ | with_reducible refine w_c ?_ | with_reducible refine w_op ?_ | with_reducible refine w_un ?_ | with_reducible refine w_cb ?_ | with_reducible refine w_cons ?_ | with_reducible refine w_nil ?_ | with_reducible refine w_tup ?_ | with_reducible refine w_lst ?_ | with_reducible refine w_test ?_ | with_reducible refine w_B ?_ | with_reducible refine w_k ?_ | with_reducible refine w_ki ?_ | with_reducible refine w_and ?_ | with_reducible refine w_or ?_ | with_reducible refine w_not ?_ | with_reducible refine w_andV ?_ | with_reducible refine w_orV ?_ | with_reducible refine w_notV ?_ | with_reducible refine w_if ?_ | with_reducible refine w_yes ?_ | with_reducible refine w_isN ?_ | with_reducible refine w_chain ?_ | with_reducible refine w_sl ?_ | with_reducible refine w_noPart ?_ | with_reducible refine w_part ?_ | with_reducible refine w_fld ?_ | with_reducible refine w_dget ?_ | with_reducible refine w_din ?_ | with_reducible refine w_dnotin ?_ | with_reducible refine w_dput ?_ | with_reducible refine w_newK ?_ | with_reducible refine w_sfld ?_ | with_reducible refine w_methR ?_ | with_reducible refine w_propR ?_ | with_reducible refine w_sl2 ?_ | with_reducible refine w_star ?_ | with_reducible refine w_retN ?_ | with_reducible refine w_gcons ?_ | with_reducible refine w_gnil ?_ | with_reducible refine r_i0 ?_ | with_reducible refine r_u ?_ | with_reducible refine r_eqi ?_ | with_reducible refine r_nei ?_ | with_reducible refine r_eqs ?_ | with_reducible refine r_nes ?_ | with_reducible refine iteT ?_ | with_reducible refine iteF ?_ | with_reducible refine w_lc ?_ | with_reducible refine w_dc ?_ | with_reducible refine w_for ?_ | with_reducible refine w_istr ?_ | with_reducible refine w_ilist ?_ | with_reducible refine w_itup ?_ | with_reducible refine w_irng1 ?_ | with_reducible refine w_irng2 ?_ | with_reducible refine w_ienum ?_ | with_reducible refine w_iitems ?_ | with_reducible refine w_ikeysT ?_ | with_reducible refine w_makeK ?_ | with_reducible refine w_methSN ?_ | with_reducible refine w_makeR ?_ | with_reducible refine w_callR ?_ | with_reducible refine w_dmerge ?_ | with_reducible refine w_ks ?_ | with_reducible refine w_kr ?_ | with_reducible refine isi_int_int ?_ | with_reducible refine isi_int_bool ?_ | with_reducible refine isi_str_str ?_ | with_reducible refine w_1i ?_ | with_reducible refine w_nn ?_ | with_reducible refine w_int_i ?_ | with_reducible refine w_int_b ?_ | ((with_reducible apply w_var); rfl) | ((with_reducible apply r_ixT); assumption; rfl) | ((with_reducible apply r_ixL); assumption; rfl) | ((with_reducible apply isi_tup_tup); assumption) | ((with_reducible apply isi_dict_dict); assumption) | ((with_reducible apply r_lenD); assumption) | ((with_reducible apply r_lenT); assumption) | ((with_reducible apply r_lenL); assumption) | ((with_reducible refine r_all (SqL.of ?_) ?_); assumption) | ((with_reducible apply r_fld); assumption; exact Cn.cls (by assumption) _; exact Cn.noat (by assumption) _ _; first | rfl | assumption) | ((with_reducible apply ite_t); rfl) | ((with_reducible apply ite_f); rfl))))
section
variable {P : Program} {w : World} {K : PySem.W.Frag} {mg : Str → Option Value} {base : Heap}
theorem F__law_called (C2 : Cn2 P K mg) : FnR P w K mg base (L2.CX P w) 14 (ga K "_law_called") (spCalled K) := by
  have C : Cn P K mg := C2.toCn
  obtain ⟨fd, F⟩ := C.d__law_called
  have sc : FnScope ["_law_shop", "_law_made_here"] ["_law_shop", "_law_made_here"] (defScope (top 68)) := ⟨rfl, rfl, rfl, by decide +kernel, rfl, by decide +kernel, by decide +kernel⟩
  refine fnR_of F sc ?len (fun _ _ _ _ _ _ us hl => match us, hl with | [_, _], _ => rfl) ?body
  case len => exact fun vs H Q E h => by obtain ⟨_, _, _, _, _, rfl, _⟩ := h; rfl
  case body =>
    intro cdv A outer s H vs Q E hr h
    obtain ⟨sh, m, st, rs, mvs, rfl, hsh, ok, hm, hmv, hL, h4, hz, q⟩ := h
    have F_rehearse := F_rehearse (w := w) (base := base) C2
    have lmv : mvs.length = rs.length := by rw [dpAll_len hmv, List.length_map]
    refine ⟨_, (pss_cons (ps_if (pt_cmpR op_eq (pe_callB (call_lenSq : CallR _ _ (rLenSq K)) (by rfl) (C.free "len") b_len (pa_cons (pv 1) pa_nil)) pe_int (nomark _)) (pss_one (ps_ret (pe_callR F_rehearse (hr.mono (by decide)) (by rfl) (C.g "rehearse") (C.keep "rehearse") (passes_call (takes_of rfl rfl rfl rfl) (fun _ _ _ _ h => h)) (pa_cons (pv 0) pa_nil)))) pss_nil) (pss_cons (ps_if (pt_cmpR op_eq (pe_callB (call_lenSq : CallR _ _ (rLenSq K)) (by rfl) (C.free "len") b_len (pa_cons (pv 1) pa_nil)) pe_int (nomark _)) (pss_one (ps_ret (pe_callR F_rehearse (hr.mono (by decide)) (by rfl) (C.g "rehearse") (C.keep "rehearse") (passes_call (takes_of rfl rfl rfl rfl) (fun _ _ _ _ h => h)) (pa_cons (pv 0) (pa_cons (pe_ix (ix_list : IxR _ (rIxL K)) (pv 1) pe_int (fun _ _ => rfl)) pa_nil))))) pss_nil) (pss_cons (ps_if (pt_cmpR op_eq (pe_callB (call_lenSq : CallR _ _ (rLenSq K)) (by rfl) (C.free "len") b_len (pa_cons (pv 1) pa_nil)) pe_int (nomark _)) (pss_one (ps_ret (pe_callR F_rehearse (hr.mono (by decide)) (by rfl) (C.g "rehearse") (C.keep "rehearse") (passes_call (takes_of rfl rfl rfl rfl) (fun _ _ _ _ h => h)) (pa_cons (pv 0) (pa_cons (pe_ix (ix_list : IxR _ (rIxL K)) (pv 1) pe_int (fun _ _ => rfl)) (pa_cons (pe_ix (ix_list : IxR _ (rIxL K)) (pv 1) pe_int (fun _ _ => rfl)) pa_nil)))))) pss_nil) (pss_cons (ps_if (pt_cmpR op_eq (pe_callB (call_lenSq : CallR _ _ (rLenSq K)) (by rfl) (C.free "len") b_len (pa_cons (pv 1) pa_nil)) pe_int (nomark _)) (pss_one (ps_ret (pe_callR F_rehearse (hr.mono (by decide)) (by rfl) (C.g "rehearse") (C.keep "rehearse") (passes_call (takes_of rfl rfl rfl rfl) (fun _ _ _ _ h => h)) (pa_cons (pv 0) (pa_cons (pe_ix (ix_list : IxR _ (rIxL K)) (pv 1) pe_int (fun _ _ => rfl)) (pa_cons (pe_ix (ix_list : IxR _ (rIxL K)) (pv 1) pe_int (fun _ _ => rfl)) (pa_cons (pe_ix (ix_list : IxR _ (rIxL K)) (pv 1) pe_int (fun _ _ => rfl)) pa_nil))))))) pss_nil) (pss_one (ps_ret (pe_callR F_rehearse (hr.mono (by decide)) (by rfl) (C.g "rehearse") (C.keep "rehearse") (passes_call (takes_of rfl rfl rfl rfl) (fun _ _ _ _ h => h)) (pa_cons (pv 0) (pa_cons (pe_ix (ix_list : IxR _ (rIxL K)) (pv 1) pe_int (fun _ _ => rfl)) (pa_cons (pe_ix (ix_list : IxR _ (rIxL K)) (pv 1) pe_int (fun _ _ => rfl)) (pa_cons (pe_ix (ix_list : IxR _ (rIxL K)) (pv 1) pe_int (fun _ _ => rfl)) (pa_cons (pe_ix (ix_list : IxR _ (rIxL K)) (pv 1) pe_int (fun _ _ => rfl)) pa_nil)))))))))))), ?_⟩
    have fin : spRehearse K (.ref sh :: mvs) H Q E := .inl ⟨sh, mvs, st, rs, rfl, hsh, ok, hmv, hL, hz, q⟩
    have hS := SqL.of (K := K) hm
    clear hm hmv
    match mvs, lmv, hS, fin with
    | [], _, hS, fin =>
      walk_at "w"
      exact fin
    | [a], _, hS, fin =>
      walk_at "w"
      exact fin
    | [a, b], _, hS, fin =>
      walk_at "w"
      exact fin
    | [a, b, c], _, hS, fin =>
      walk_at "w"
      exact fin
    | [a, b, c, d], _, hS, fin =>
      walk_at "w"
      exact fin
    | a :: b :: c :: d :: e :: r, l, _, _ => exact absurd l (by simp only [List.length_cons]; omega)
theorem F__law_rehearsed (C2 : Cn2 P K mg) : FnR P w K mg base (L2.CX P w) 15 (ga K "_law_rehearsed") (spRehearsed K) := by
  have C : Cn P K mg := C2.toCn
  obtain ⟨fd, F⟩ := C.d__law_rehearsed
  have sc : FnScope ["_law_shop", "_law_made_here", "error"] ["_law_shop", "_law_made_here"] (defScope (top 69)) := ⟨rfl, rfl, rfl, by decide +kernel, rfl, by decide +kernel, by decide +kernel⟩
  refine fnR_of F sc ?len (fun _ _ _ _ _ _ us hl => match us, hl with | [_, _], _ => rfl) ?body
  case len => exact fun vs H Q E h => by obtain ⟨_, _, _, _, _, rfl, _⟩ := h; rfl
  case body =>
    intro cdv A outer s H vs Q E hr h
    obtain ⟨sh, m, st, rs, mvs, rfl, hsh, ok, hm, hmv, hL, h4, hz, q⟩ := h
    have F__law_called := F__law_called (w := w) (base := base) C2
    refine ⟨_, (pss_one (ps_try_cls rfl rfl sc.nd (takes_of rfl rfl rfl rfl) (fun W pn xe tk po => by exact (pss_one (ps_ret (pe_tup (pa_cons pe_str (pa_cons (pe_callRS F__law_called (hr.mono (by decide)) (by rfl) (C.g "_law_called") (C.keep "_law_called") (fun σ => passAt tk σ) (pa_cons (pv 0) (pa_cons (pv 1) pa_nil))) pa_nil)))))) (.named (i := 2) ⟨by rfl, by decide, .inl (C.g "UnknownName")⟩ rfl (by rfl) (fun a oe cls d pn hz hf => by exact (pss_one (ps_ret (pe_tup (pa_cons pe_str (pa_cons (pe_byX C.x_UnknownName hz hf (pv 2)) pa_nil)))))) (.named (i := 2) ⟨by rfl, by decide, .inl (C.g "InvalidNumber")⟩ rfl (by rfl) (fun a oe cls d pn hz hf => by exact (pss_one (ps_ret (pe_tup (pa_cons pe_str (pa_cons (pe_byX C.x_InvalidNumber hz hf (pv 2)) pa_nil)))))) (.named (i := 2) ⟨by rfl, by decide, .inl (C.g "InvalidName")⟩ rfl (by rfl) (fun a oe cls d pn hz hf => by exact (pss_one (ps_ret (pe_tup (pa_cons pe_str (pa_cons (pe_byX C.x_InvalidName hz hf (pv 2)) pa_nil)))))) (.named (i := 2) ⟨by rfl, by decide, .inl (C.g "InvalidRope")⟩ rfl (by rfl) (fun a oe cls d pn hz hf => by exact (pss_one (ps_ret (pe_tup (pa_cons pe_str (pa_cons (pe_byX C.x_InvalidRope hz hf (pv 2)) pa_nil)))))) (.named (i := 2) ⟨by rfl, by decide, .inl (C.g "LimitExceeded")⟩ rfl (by rfl) (fun a oe cls d pn hz hf => by exact (pss_one (ps_ret (pe_tup (pa_cons pe_str (pa_cons (pe_byX C.x_LimitExceeded hz hf (pv 2)) pa_nil)))))) (.bare ⟨by rfl, by decide, .inl (C.g "NothingToUndo")⟩ (fun a oe cls d pn hz hf => by exact (pss_one (ps_ret (pe_tup (pa_cons pe_str (pa_cons pe_non pa_nil)))))) .nil)))))))), ?_⟩
    walk_at "w"
    refine w_callRS ?_
    walk_at "w"
    refine ⟨sh, m, st, rs, mvs, rfl, hsh, ok, hm, hmv, hL, h4, hz, ?_⟩
    cases hd : foldQ st rs with
    | ok st' =>
      rw [hd] at q
      intro r H1 fr s1 hw
      walk_at "w"
      refine ⟨by show 2 ≤ sizeLine; decide, fun p fp => ?_⟩
      have s2 : Same H1 (upd H1 p (.tup [V.str "works", V.ref r])) := same_upd_fresh fp (Same.refl _)
      exact q p r _ fr (s1.trans s2) upd_same (hw.same s2)
    | error x =>
      rw [hd] at q
      intro H1 s1
      cases x with
      | unknown z =>
        intro d hd1
        have s2 : Same H1 (upd H1 d (.xd [("name", .str z)])) := same_upd_fresh hd1 (Same.refl _)
        show wCls K _ _ _ (.ref (ga K "UnknownName")) (some d) _ _
        refine wcls_yes ((C2.exm "UnknownName" (by decide) "UnknownName" (by decide)).trans (by decide +kernel)) fun a ha => ?_
        walk_at "w"
        refine w_byX ?_
        walk_at "w"
        refine ⟨rfl, rfl, d, .str z, rfl, upd_same, ?_⟩
        walk_at "w"
        refine ⟨by show 2 ≤ sizeLine; decide, fun p fp => ?_⟩
        have s3 := same_upd_fresh (o := .tup [V.str "unknown", .str z]) fp (Same.refl (upd H1 d (.xd [("name", .str z)])))
        exact q _ _ (s1.trans (s2.trans s3)) (.tup (SqT.of upd_same) (.cons (.str _) (.cons (.str _) .nil)))
      | number f =>
        intro y hy d hd1
        have s2 : Same H1 (upd H1 d (.xd [("value", y)])) := same_upd_fresh hd1 (Same.refl _)
        show wCls K _ _ _ (.ref (ga K "InvalidNumber")) (some d) _ _
        refine wcls_no ((C2.exm "InvalidNumber" (by decide) "UnknownName" (by decide)).trans (by decide +kernel)) ?_
        refine wcls_yes ((C2.exm "InvalidNumber" (by decide) "InvalidNumber" (by decide)).trans (by decide +kernel)) fun a ha => ?_
        walk_at "w"
        refine w_byX ?_
        walk_at "w"
        refine ⟨rfl, rfl, d, y, rfl, upd_same, ?_⟩
        walk_at "w"
        refine ⟨by show 2 ≤ sizeLine; decide, fun p fp => ?_⟩
        have s3 := same_upd_fresh (o := .tup [V.str "number", y]) fp (Same.refl (upd H1 d (.xd [("value", y)])))
        exact q _ _ (s1.trans (s2.trans s3)) (.tup (SqT.of upd_same) (.cons (.str _) (.cons (dp_kd (same_kd (s2.trans s3)) (np_fr _) hy) .nil)))
      | name z =>
        intro d hd1
        have s2 : Same H1 (upd H1 d (.xd [("value", .str z)])) := same_upd_fresh hd1 (Same.refl _)
        show wCls K _ _ _ (.ref (ga K "InvalidName")) (some d) _ _
        refine wcls_no ((C2.exm "InvalidName" (by decide) "UnknownName" (by decide)).trans (by decide +kernel)) ?_
        refine wcls_no ((C2.exm "InvalidName" (by decide) "InvalidNumber" (by decide)).trans (by decide +kernel)) ?_
        refine wcls_yes ((C2.exm "InvalidName" (by decide) "InvalidName" (by decide)).trans (by decide +kernel)) fun a ha => ?_
        walk_at "w"
        refine w_byX ?_
        walk_at "w"
        refine ⟨rfl, rfl, d, .str z, rfl, upd_same, ?_⟩
        walk_at "w"
        refine ⟨by show 2 ≤ sizeLine; decide, fun p fp => ?_⟩
        have s3 := same_upd_fresh (o := .tup [V.str "name", .str z]) fp (Same.refl (upd H1 d (.xd [("value", .str z)])))
        exact q _ _ (s1.trans (s2.trans s3)) (.tup (SqT.of upd_same) (.cons (.str _) (.cons (.str _) .nil)))
      | rope z =>
        intro d hd1
        have s2 : Same H1 (upd H1 d (.xd [("name", .str z)])) := same_upd_fresh hd1 (Same.refl _)
        show wCls K _ _ _ (.ref (ga K "InvalidRope")) (some d) _ _
        refine wcls_no ((C2.exm "InvalidRope" (by decide) "UnknownName" (by decide)).trans (by decide +kernel)) ?_
        refine wcls_no ((C2.exm "InvalidRope" (by decide) "InvalidNumber" (by decide)).trans (by decide +kernel)) ?_
        refine wcls_no ((C2.exm "InvalidRope" (by decide) "InvalidName" (by decide)).trans (by decide +kernel)) ?_
        refine wcls_yes ((C2.exm "InvalidRope" (by decide) "InvalidRope" (by decide)).trans (by decide +kernel)) fun a ha => ?_
        walk_at "w"
        refine w_byX ?_
        walk_at "w"
        refine ⟨rfl, rfl, d, .str z, rfl, upd_same, ?_⟩
        walk_at "w"
        refine ⟨by show 2 ≤ sizeLine; decide, fun p fp => ?_⟩
        have s3 := same_upd_fresh (o := .tup [V.str "rope", .str z]) fp (Same.refl (upd H1 d (.xd [("name", .str z)])))
        exact q _ _ (s1.trans (s2.trans s3)) (.tup (SqT.of upd_same) (.cons (.str _) (.cons (.str _) .nil)))
      | limit n =>
        intro d hd1
        have s2 : Same H1 (upd H1 d (.xd [("count", .int n)])) := same_upd_fresh hd1 (Same.refl _)
        show wCls K _ _ _ (.ref (ga K "LimitExceeded")) (some d) _ _
        refine wcls_no ((C2.exm "LimitExceeded" (by decide) "UnknownName" (by decide)).trans (by decide +kernel)) ?_
        refine wcls_no ((C2.exm "LimitExceeded" (by decide) "InvalidNumber" (by decide)).trans (by decide +kernel)) ?_
        refine wcls_no ((C2.exm "LimitExceeded" (by decide) "InvalidName" (by decide)).trans (by decide +kernel)) ?_
        refine wcls_no ((C2.exm "LimitExceeded" (by decide) "InvalidRope" (by decide)).trans (by decide +kernel)) ?_
        refine wcls_yes ((C2.exm "LimitExceeded" (by decide) "LimitExceeded" (by decide)).trans (by decide +kernel)) fun a ha => ?_
        walk_at "w"
        refine w_byX ?_
        walk_at "w"
        refine ⟨rfl, rfl, d, .int n, rfl, upd_same, ?_⟩
        walk_at "w"
        refine ⟨by show 2 ≤ sizeLine; decide, fun p fp => ?_⟩
        have s3 := same_upd_fresh (o := .tup [V.str "limit", .int n]) fp (Same.refl (upd H1 d (.xd [("count", .int n)])))
        exact q _ _ (s1.trans (s2.trans s3)) (.tup (SqT.of upd_same) (.cons (.str _) (.cons (.int _) .nil)))
      | nothing =>
        show wCls K _ _ _ (.ref (ga K "NothingToUndo")) none _ _
        refine wcls_no ((C2.exm "NothingToUndo" (by decide) "UnknownName" (by decide)).trans (by decide +kernel)) ?_
        refine wcls_no ((C2.exm "NothingToUndo" (by decide) "InvalidNumber" (by decide)).trans (by decide +kernel)) ?_
        refine wcls_no ((C2.exm "NothingToUndo" (by decide) "InvalidName" (by decide)).trans (by decide +kernel)) ?_
        refine wcls_no ((C2.exm "NothingToUndo" (by decide) "InvalidRope" (by decide)).trans (by decide +kernel)) ?_
        refine wcls_no ((C2.exm "NothingToUndo" (by decide) "LimitExceeded" (by decide)).trans (by decide +kernel)) ?_
        refine wcls_yes ((C2.exm "NothingToUndo" (by decide) "NothingToUndo" (by decide)).trans (by decide +kernel)) fun a ha => ?_
        walk_at "w"
        refine ⟨by show 2 ≤ sizeLine; decide, fun p fp => ?_⟩
        have s3 := same_upd_fresh (o := .tup [V.str "nothing", V.non]) fp (Same.refl H1)
        exact q _ _ (s1.trans s3) (.tup (SqT.of upd_same) (.cons (.str _) (.cons .non .nil)))
theorem F__law_refused (C2 : Cn2 P K mg) : FnR P w K mg base (L2.CX P w) 14 (ga K "_law_refused") (spRefused K) := by
  have C : Cn P K mg := C2.toCn
  obtain ⟨fd, F⟩ := C.d__law_refused
  have sc : FnScope ["_law_thing", "error"] ["_law_thing"] (defScope (top 73)) := ⟨rfl, rfl, rfl, by decide +kernel, rfl, by decide +kernel, by decide +kernel⟩
  refine fnR_of F sc ?len (fun _ _ _ _ _ _ us hl => match us, hl with | [_], _ => rfl) ?body
  case len => exact fun vs H Q E h => by obtain ⟨_, rfl, _⟩ := h; rfl
  case body =>
    intro cdv A outer s H vs Q E hr h
    obtain ⟨v, rfl, hv, q⟩ := h
    have F_rehearse := F_rehearse (w := w) (base := base) C2
    refine ⟨_, (pss_one (ps_try_cls rfl rfl sc.nd (takes_of rfl rfl rfl rfl) (fun W pn xe tk po => by exact (pss_one (ps_ret (pe_callRS F_rehearse (hr.mono (by decide)) (by rfl) (C.g "rehearse") (C.keep "rehearse") (fun σ => passAt tk σ) (pa_cons (pv 0) (pa_cons (pe_tup (pa_cons pe_str (pa_cons pe_str (pa_cons pe_str (pa_cons pe_str pa_nil))))) pa_nil)))))) (.named (i := 1) ⟨by rfl, by decide, .inl (C.g "InvalidName")⟩ rfl (by rfl) (fun a oe cls d pn hz hf => by exact (pss_one (ps_ret (pe_tup (pa_cons pe_str (pa_cons (pe_byX C.x_InvalidName hz hf (pv 1)) pa_nil)))))) .nil))), ?_⟩
    walk_at "w"
    refine w_callRS ?_
    walk_at "w"
    refine ⟨by show 4 ≤ sizeLine; decide, fun p fp => ?_⟩
    have s1 : Same H (upd H p (.tup [V.str "ann", V.str "one", V.str "drop", V.str "zz"])) := same_upd_fresh fp (Same.refl _)
    generalize upd H p (.tup [V.str "ann", V.str "one", V.str "drop", V.str "zz"]) = H1 at s1 ⊢
    walk_at "w"
    refine .inr ⟨v, [.ref p], rfl, by show 1 ≤ 1000; decide, hv, fun H2 s2 d hd => ?_⟩
    have s3 : Same H2 (upd H2 d (.xd [("value", v)])) := same_upd_fresh hd (Same.refl _)
    show wCls K _ _ _ (.ref (ga K "InvalidName")) (some d) _ _
    refine wcls_yes ((C2.exm "InvalidName" (by decide) "InvalidName" (by decide)).trans (by decide +kernel)) fun a ha => ?_
    walk_at "w"
    refine w_byX ?_
    walk_at "w"
    refine ⟨rfl, rfl, d, v, rfl, upd_same, ?_⟩
    walk_at "w"
    refine ⟨by show 2 ≤ sizeLine; decide, fun p4 f4 => ?_⟩
    have s4 := same_upd_fresh (o := .tup [V.str "name", v]) f4 (Same.refl (upd H2 d (.xd [("value", v)])))
    exact q _ _ (s1.trans (s2.trans (s3.trans s4))) upd_same
theorem F__law_applied (C : Cn P K mg) : FnR P w K mg base (L2.CX P w) 11 (ga K "_law_applied") (spLApplied K) := by
  obtain ⟨fd, F⟩ := C.d__law_applied
  have sc : FnScope ["_law_shop", "_law_entry_here"] ["_law_shop", "_law_entry_here"] (defScope (top 71)) := ⟨rfl, rfl, rfl, by decide +kernel, rfl, by decide +kernel, by decide +kernel⟩
  refine fnR_of F sc ?len (fun _ _ _ _ _ _ us hl => match us, hl with | [_, _], _ => rfl) ?body
  case len => exact fun vs H Q E h => by obtain ⟨_, _, _, _, _, rfl, _⟩ := h; rfl
  case body =>
    intro cdv A outer s H vs Q E hr h
    obtain ⟨sh, y, st, st', e, rfl, hsh, ok, dy, he, hdo, q⟩ := h
    have F_Workshop_set_load := F_Workshop_set_load (w := w) (base := base) C
    have F_Workshop_set_rope := F_Workshop_set_rope (w := w) (base := base) C
    have F_Workshop_drop_rope := F_Workshop_drop_rope (w := w) (base := base) C
    obtain ⟨dx, fw, ow, oe, evs, hs, hrest⟩ := id hsh
    refine ⟨_, (pss_cons (ps_if (pt_cmpR op_eq (pe_ix (ix_tup : IxR _ (rIxT K)) (pv 1) pe_int (fun _ _ => rfl)) pe_str (nomark _)) (pss_one (ps_expr (pe_methR (pv 0) (C.cls "Workshop") (C.meth "Workshop" "set_load") F_Workshop_set_load (hr.mono (by decide)) (passes_call (takes_of rfl rfl rfl rfl) (fun _ _ _ _ h => h)) (pa_cons (pe_ix (ix_tup : IxR _ (rIxT K)) (pv 1) pe_int (fun _ _ => rfl)) (pa_cons (pe_ix (ix_tup : IxR _ (rIxT K)) (pv 1) pe_int (fun _ _ => rfl)) (pa_cons (pe_ix (ix_tup : IxR _ (rIxT K)) (pv 1) pe_int (fun _ _ => rfl)) (pa_cons (pe_ix (ix_tup : IxR _ (rIxT K)) (pv 1) pe_int (fun _ _ => rfl)) pa_nil))))))) pss_nil) (pss_cons (ps_if (pt_cmpR op_eq (pe_ix (ix_tup : IxR _ (rIxT K)) (pv 1) pe_int (fun _ _ => rfl)) pe_str (nomark _)) (pss_one (ps_expr (pe_methR (pv 0) (C.cls "Workshop") (C.meth "Workshop" "set_rope") F_Workshop_set_rope (hr.mono (by decide)) (passes_call (takes_of rfl rfl rfl rfl) (fun _ _ _ _ h => h)) (pa_cons (pe_ix (ix_tup : IxR _ (rIxT K)) (pv 1) pe_int (fun _ _ => rfl)) (pa_cons (pe_ix (ix_tup : IxR _ (rIxT K)) (pv 1) pe_int (fun _ _ => rfl)) (pa_cons (pe_ix (ix_tup : IxR _ (rIxT K)) (pv 1) pe_int (fun _ _ => rfl)) (pa_cons (pe_ix (ix_tup : IxR _ (rIxT K)) (pv 1) pe_int (fun _ _ => rfl)) (pa_cons (pe_ix (ix_tup : IxR _ (rIxT K)) (pv 1) pe_int (fun _ _ => rfl)) pa_nil)))))))) pss_nil) (pss_one (ps_if (pt_cmpR op_eq (pe_ix (ix_tup : IxR _ (rIxT K)) (pv 1) pe_int (fun _ _ => rfl)) pe_str (nomark _)) (pss_one (ps_expr (pe_methR (pv 0) (C.cls "Workshop") (C.meth "Workshop" "drop_rope") F_Workshop_drop_rope (hr.mono (by decide)) (passes_call (takes_of rfl rfl rfl rfl) (fun _ _ _ _ h => h)) (pa_cons (pe_ix (ix_tup : IxR _ (rIxT K)) (pv 1) pe_int (fun _ _ => rfl)) (pa_cons (pe_ix (ix_tup : IxR _ (rIxT K)) (pv 1) pe_int (fun _ _ => rfl)) (pa_cons (pe_ix (ix_tup : IxR _ (rIxT K)) (pv 1) pe_int (fun _ _ => rfl)) pa_nil)))))) pss_nil)))), ?_⟩
    cases e with
    | load u n z f =>
      obtain ⟨ea, fv, rfl, hS, hf⟩ := dp_load_inv dy
      walk_at "w"
      refine ⟨sh, dx, _, rfl, hs, rfl, ?_⟩
      walk_at "w"
      refine ⟨sh, u, n, z, fv, f, st, rfl, hsh, ok, hf, he, ?_⟩
      unfold shRes
      rw [hdo]
      intro H1 t1 hsh1
      have hS1 : SqT K H1 ea [.str u, .str n, .str "load", .str z, fv] := sqT_tk (tk_kd (sx_kd t1 (by rw [hs]; exact True.intro))) hS
      walk_at "w"
      exact q H1 t1 hsh1
    | rope u n z p f =>
      obtain ⟨ea, xv, fv, rfl, hS, hp, hf⟩ := dp_rope_inv' dy
      walk_at "w"
      refine ⟨sh, dx, _, rfl, hs, rfl, ?_⟩
      walk_at "w"
      refine ⟨sh, u, n, z, xv, fv, p, f, st, rfl, hsh, ok, hp, hf, he, ?_⟩
      unfold shRes
      rw [hdo]
      intro H1 t1 hsh1
      have hS1 : SqT K H1 ea [.str u, .str n, .str "rope", .str z, xv, fv] := sqT_tk (tk_kd (sx_kd t1 (by rw [hs]; exact True.intro))) hS
      walk_at "w"
      exact q H1 t1 hsh1
    | drop u n z =>
      obtain ⟨ea, rfl, hS⟩ := dp_drop_inv dy
      walk_at "w"
      refine ⟨sh, dx, _, rfl, hs, rfl, ?_⟩
      walk_at "w"
      refine ⟨sh, u, n, z, st, rfl, hsh, ok, he, ?_⟩
      unfold shRes
      rw [hdo]
      intro H1 t1 hsh1
      walk_at "w"
      exact q H1 t1 hsh1
theorem F__law_spoil (C : Cn P K mg) : FnR P w K mg base (L2.CX P w) 1 (ga K "_law_spoil") spSpoil := by
  obtain ⟨fd, F⟩ := C.d__law_spoil
  have sc : FnScope ["_law_works"] ["_law_works"] (defScope (top 72)) := ⟨rfl, rfl, rfl, by decide +kernel, rfl, by decide +kernel, by decide +kernel⟩
  refine fnR_nox F sc ?len (fun _ _ _ _ _ _ us hl => match us, hl with | [_], _ => rfl) ?body
  case len => exact fun vs H Q E h => by obtain ⟨_, _, _, rfl, _⟩ := h; rfl
  case body =>
    intro cdv A outer s H vs Q E hr h
    obtain ⟨d, w1, w2, rfl, hd, q⟩ := h
    refine ⟨_, (pss_cons (ps_dput (hu_of hr) (pv 0) pe_str (pe_dget (hu_of hr) (pv 0) pe_str (fun _ _ => rfl)) rfl) (pss_one (ps_dput (hu_of hr) (pv 0) pe_str (pe_dpop1 (pv 0) pe_str ⟨rfl, rfl, rfl, rfl⟩) rfl))), ?_⟩
    walk_at "w"
    refine r_dgetS (.inl hd) val_two ?_
    walk_at "w"
    refine ⟨d, _, rfl, DPut.k (k := .inr "one") hd (by show 2 < sizeLine; decide), ?_⟩
    rw [put_one]
    walk_at "w"
    refine w_dpop1 ?_
    walk_at "w"
    refine ⟨.inl ⟨_, .inl upd_same⟩, ?_⟩
    walk_at "w"
    refine ⟨wkv w2 w2, .inr "two", w2, upd_same, rfl, val_two, ?_⟩
    rw [upd_upd]
    walk_at "w"
    refine ⟨d, _, rfl, DPut.k (k := .inr "zz") upd_same (by show (dropK (wkv w2 w2) (.inr "two")).length < sizeLine; exact Nat.lt_of_le_of_lt (List.length_filter_le _ _) (by show 2 < sizeLine; decide)), ?_⟩
    rw [upd_upd]
    walk_at "w"
    exact q _ sx_upd
end
end PW

/-! ##### LM0 -/
set_option Elab.async false
set_option linter.all false
set_option maxRecDepth 100000
set_option maxHeartbeats 2000000
namespace PW
open PySem PySem.Spec PyProof.Rows L2 He PWL

open PWW
/-! ### what the law's body leans on -/
theorem uL_s {u : Str} (h : uL u) : PyData.strOk u = true := by
  rcases h with rfl | rfl | rfl <;> decide +kernel
theorem nL_s {u : Str} (h : nL u) : PyData.strOk u = true := by
  rcases h with rfl | rfl | rfl <;> decide +kernel
theorem rL_s : ∀ {r : Str}, rL r → PyData.strOk r = true := by
  intro r h
  unfold rL at h
  revert r
  decide +kernel
theorem sh_pv {p : PVal} (h : pL p) : Sh 1 (pvD p) := by
  cases p with
  | tup p =>
    obtain ⟨z, ps, _, _, _, h⟩ := h
    exact sh_path fun x hx => (h x hx).2
  | lst p =>
    obtain rfl := h
    exact sh_lst (sh_strs (by decide +kernel))
theorem sh_en {e : En} (h : enL e) : Sh 2 (enD e) := by
  have s1 : ∀ {z : Str}, PyData.strOk z = true → Sh 1 (.str z) := fun h => (sh_str h).mono (by decide)
  cases e with
  | load u n z f =>
    obtain ⟨h1, h2, h3, h4⟩ := h
    refine sh_tup fun d hd => ?_
    rcases List.mem_cons.mp hd with rfl | hd
    · exact s1 (uL_s h1)
    rcases List.mem_cons.mp hd with rfl | hd
    · exact s1 (nL_s h2)
    rcases List.mem_cons.mp hd with rfl | hd
    · exact s1 (by decide +kernel)
    rcases List.mem_cons.mp hd with rfl | hd
    · exact s1 h3.2
    · rw [List.mem_singleton.mp hd]; exact sh_fr _
  | rope u n z p f =>
    obtain ⟨h1, h2, h3, h4, h5⟩ := h
    refine sh_tup fun d hd => ?_
    rcases List.mem_cons.mp hd with rfl | hd
    · exact s1 (uL_s h1)
    rcases List.mem_cons.mp hd with rfl | hd
    · exact s1 (nL_s h2)
    rcases List.mem_cons.mp hd with rfl | hd
    · exact s1 (by decide +kernel)
    rcases List.mem_cons.mp hd with rfl | hd
    · exact s1 (rL_s h3)
    rcases List.mem_cons.mp hd with rfl | hd
    · exact sh_pv h4
    · rw [List.mem_singleton.mp hd]; exact sh_fr _
  | drop u n z =>
    obtain ⟨h1, h2, h3⟩ := h
    refine sh_tup fun d hd => ?_
    rcases List.mem_cons.mp hd with rfl | hd
    · exact s1 (uL_s h1)
    rcases List.mem_cons.mp hd with rfl | hd
    · exact s1 (nL_s h2)
    rcases List.mem_cons.mp hd with rfl | hd
    · exact s1 (by decide +kernel)
    · rw [List.mem_singleton.mp hd]; exact s1 h3.2
theorem sh_rq {r : Rq} (h : rqL r) : Sh 2 (rqD r) := by
  cases r with
  | ent e => exact sh_en h
  | undo u =>
    refine sh_tup fun d hd => ?_
    rcases List.mem_cons.mp hd with rfl | hd
    · exact (sh_str (uL_s h)).mono (by decide)
    · rw [List.mem_singleton.mp hd]; exact (sh_str (by decide +kernel)).mono (by decide)
def erS (x : Er) : Prop := match x with | .unknown z => PyData.strOk z = true | .name z => PyData.strOk z = true | .rope z => PyData.strOk z = true | _ => True
theorem doG_er {g : Giv} {e : En} {x : Er} (hL : enL e) (h : doG g e = .error x) : erS x := by
  cases e with
  | load u n z f =>
    simp only [doG] at h
    split at h
    · split at h
      · cases h
      · cases h; exact True.intro
    · cases h; exact hL.2.2.1.2
  | rope u n r p f =>
    have hr := rL_s hL.2.2.1
    simp only [doG] at h
    split at h
    · cases p with
      | lst p => cases h; exact hr
      | tup p =>
        dsimp only at h
        split at h
        · split at h
          · cases h
          · cases h; exact True.intro
        · cases h; exact hr
    · cases h; exact hr
  | drop u n r =>
    simp only [doG] at h
    split at h
    · cases h
    · cases h; exact hL.2.2.2
theorem doW_erS {w : W2} {e : En} {x : Er} (hL : enL e) (h : doW w e = .error x) : erS x := by
  unfold doW at h
  cases hg : doG (w.get e.n) e with
  | ok g => rw [hg] at h; cases h
  | error y => rw [hg] at h; cases h; exact doG_er hL hg
theorem resW_erS {w : W2} {e : En} {x : Er} (hL : enL e) (h : resW w e = .error x) : erS x := by
  by_cases h1 : e.u = "Ann"
  · rw [resW_ann (enL_u hL) h1] at h
    cases h
    exact uL_s (enL_u hL)
  · by_cases h2 : e.n = "zz"
    · rw [resW_zz (enL_u hL) h1 (enL_n hL) h2] at h
      cases h
      exact nL_s (enL_n hL)
    · rw [resW_do (enL_u hL) h1 (enL_n hL) h2] at h
      exact doW_erS hL h
theorem foldW_erS {es : List En} {x : Er} : ∀ {w : W2}, (∀ e ∈ es, enV e) → foldW w es = .error x → erS x := by
  induction es with
  | nil => intro w _ h; cases h
  | cons e r ih =>
    intro w hV h
    have h : (match doW w e with | .ok w' => foldW w' r | .error x => .error x) = .error x := h
    cases hd : doW w e with
    | ok w' => rw [hd] at h; exact ih (fun e he => hV e (List.mem_cons_of_mem _ he)) h
    | error y => rw [hd] at h; cases h; exact doW_erS (hV e List.mem_cons_self).1 hd
theorem doQ_erS {st : Shop} {r : Rq} {x : Er} (hr : rqL r) (hV : ∀ e ∈ st.es, enV e) (h : doQ st r = .error x) : erS x := by
  cases r with
  | ent e =>
    have h : doS st e = .error x := h
    rw [doS_res] at h
    cases hw : resW st.works e with
    | ok w' => rw [hw] at h; cases h
    | error y => rw [hw] at h; cases h; exact resW_erS hr hw
  | undo u =>
    have h : undoS st u = .error x := h
    unfold undoS at h
    split at h
    · cases hp : (places st.es u).getLast? with
      | none => rw [hp] at h; cases h; exact True.intro
      | some k =>
        rw [hp] at h
        dsimp only at h
        cases hf : foldW st.first (st.es.take k ++ st.es.drop (k + 1)) with
        | ok w' => rw [hf] at h; cases h
        | error y =>
          rw [hf] at h
          cases h
          exact foldW_erS (fun e he => hV e ((List.mem_append.mp he).elim List.mem_of_mem_take List.mem_of_mem_drop)) hf
    · cases h
      exact uL_s hr
theorem foldQ_erS {rs : List Rq} {x : Er} : ∀ {st : Shop}, (∀ r ∈ rs, rqL r) → (∀ e ∈ st.es, enV e) → foldQ st rs = .error x → erS x := by
  induction rs with
  | nil => intro st _ _ h; cases h
  | cons r rs ih =>
    intro st hr hV h
    have h : (match doQ st r with | .ok st' => foldQ st' rs | .error x => .error x) = .error x := h
    cases hd : doQ st r with
    | ok st' => rw [hd] at h; exact ih (fun e he => hr e (List.mem_cons_of_mem _ he)) (doQ_enV (hr r List.mem_cons_self) hV hd) h
    | error y => rw [hd] at h; cases h; exact doQ_erS (hr r List.mem_cons_self) hV hd
/-! the script: a list, or a constant -/
def Ap (K : PySem.W.Frag) (a : Addr) (ns : List Int) (x : Addr) : Prop := a ≠ x ∨ ∀ H : Hp, SqL K H a (ns.map V.int)
theorem sc_sx {K : PySem.W.Frag} {a x : Addr} {ns : List Int} {H H' : Hp} (hap : Ap K a ns x) (t : SX x H H') (h : SqL K H a (ns.map V.int)) : SqL K H' a (ns.map V.int) :=
  hap.elim (fun ne => h.elim (fun rd => .inl (rd.elim (fun e => .inl (t _ _ ne e)) fun ⟨o, e⟩ => .inr ⟨o, t _ _ ne e⟩)) .inr) fun k => k H'
theorem ap_none {K : PySem.W.Frag} {a x : Addr} {ns : List Int} {H : Hp} (h : SqL K H a (ns.map V.int)) (hx : H x = none) : Ap K a ns x := by
  rcases h with (h | ⟨o, h⟩) | h
  · exact .inl (ne_of_none h hx)
  · exact .inl (ne_of_none h hx)
  · exact .inr fun _ => .inr h
theorem ap_of {K : PySem.W.Frag} {a x : Addr} {ns : List Int} {H : Hp} {u : HO} (h : SqL K H a (ns.map V.int)) (hx : H x = some u) (h1 : ∀ xs, u ≠ .lst xs) (h2 : ∀ o xs, u ≠ .frz o (.lst xs)) : Ap K a ns x := by
  rcases h with (h | ⟨o, h⟩) | h
  · exact .inl fun e => by rw [e, hx] at h; exact h1 _ (Option.some.inj h)
  · exact .inl fun e => by rw [e, hx] at h; exact h2 _ _ (Option.some.inj h)
  · exact .inr fun _ => .inr h
/-! what each turn keeps -/
structure LInv (K : PySem.W.Frag) (a sh : Addr) (ns : List Int) (v0 v : V) (b : Addr) (st : Shop) (evs : List V) (n : Nat) (H : Hp) : Prop where
  sc : SqL K H a (ns.map .int)
  w0 : LawW K H v0 st.first
  W0 : WOk st.first
  wv : LawW K H v st.works
  W : WOk st.works
  eb : H b = some (.lst evs)
  ed : DpAll K H evs (st.es.map enD)
  eV : ∀ e ∈ st.es, enV e
  len : st.es.length ≤ n
  sh : ShopAt K H sh st
section
variable {K : PySem.W.Frag} {a sh : Addr} {ns : List Int} {v0 v : V} {b : Addr} {st : Shop} {evs : List V} {n : Nat} {H H' : Hp}
theorem LInv.same (e : Same H H') (h : LInv K a sh ns v0 v b st evs n H) : LInv K a sh ns v0 v b st evs n H' := ⟨sqL_same e h.sc, h.w0.same e, h.W0, h.wv.same e, h.W, e _ _ h.eb, dpAll_kd (same_kd e) (npL_en _) h.ed, h.eV, h.len, h.sh.same e⟩
theorem LInv.ok (h : LInv K a sh ns v0 v b st evs n H) (hn : n ≤ 900) : ShOk st := ⟨h.W0, h.W, fun e he => ⟨enL_ok (h.eV e he).1, enV_n (h.eV e he)⟩, by have := h.len; omega⟩
theorem LInv.more {m : Nat} (h : LInv K a sh ns v0 v b st evs n H) (hm : n ≤ m) : LInv K a sh ns v0 v b st evs m H := ⟨h.sc, h.w0, h.W0, h.wv, h.W, h.eb, h.ed, h.eV, Nat.le_trans h.len hm, h.sh⟩
/-- a shop's change leaves the law's data -/
theorem GivG.sxI {C dx x : Addr} {fs : List (Str × V)} {g : Giv} {d : Addr} (hs : H x = some (.ins C dx fs)) (e : SX x H H') (h : GivG K H d g) : GivG K H' d g := by
  obtain ⟨l, r, hh, h1, h2, h3, h4⟩ := h
  exact ⟨l, r, hh, e _ _ (ne_of h1 hs (fun z => nomatch z)) h1, h2.sx e hs np_fr, h3.sx e hs np_rope, h4.sx e hs np_fr⟩
theorem ApD.sxI {C dx x : Addr} {fs : List (Str × V)} {d c : Addr} (hs : H x = some (.ins C dx fs)) (e : SX x H H') (h : ApD H d c) : ApD H' d c := let ⟨l, r, hh, h1, h2⟩ := h; ⟨l, r, hh, e _ _ (ne_of h1 hs (fun z => nomatch z)) h1, h2⟩
theorem LawW.sxI {C dx x : Addr} {fs : List (Str × V)} {w : W2} (hs : H x = some (.ins C dx fs)) (e : SX x H H') (h : LawW K H v w) : LawW K H' v w := let ⟨d, a1, a2, h1, h2, h3, h4, h5, h6⟩ := h; ⟨d, a1, a2, h1, e _ _ (ne_of h2 hs (fun z => nomatch z)) h2, h3.sxI hs e, h4.sxI hs e, h5.sxI hs e, h6.sxI hs e⟩
/-- an entry stays when a list of references grows -/
theorem rq_lst {D : Addr} {o : HO} {xs : List V} {y : V} {r : Rq} (hL : rqL r) (hD : H D = some (.lst xs)) (hx : ∀ x ∈ xs, ∃ c, x = V.ref c) (h : Dp K H y (rqD r)) : Dp K (upd H D o) y (rqD r) := by
  have tk : TK H (upd H D o) := tk_sx sx_upd hD
  cases r with
  | undo u =>
    obtain ⟨c, rfl, hS⟩ := dp_undo_inv h
    exact .tup (sqT_tk tk hS) (.cons (.str _) (.cons (.str _) .nil))
  | ent e =>
    cases e with
    | load u n z f =>
      obtain ⟨c, fv, rfl, hS, hf⟩ := dp_load_inv h
      exact .tup (sqT_tk tk hS) (.cons (.str _) (.cons (.str _) (.cons (.str _) (.cons (.str _) (.cons (td_fr _ K _ _ _ tk hf) .nil)))))
    | drop u n z =>
      obtain ⟨c, rfl, hS⟩ := dp_drop_inv h
      exact .tup (sqT_tk tk hS) (.cons (.str _) (.cons (.str _) (.cons (.str _) (.cons (.str _) .nil))))
    | rope u n z p f =>
      obtain ⟨c, xv, fv, rfl, hS, hp, hf⟩ := dp_rope_inv' h
      refine .tup (sqT_tk tk hS) (.cons (.str _) (.cons (.str _) (.cons (.str _) (.cons (.str _) (.cons ?_ (.cons (td_fr _ K _ _ _ tk hf) .nil))))))
      cases p with
      | tup p => exact td_path _ K _ _ _ tk hp
      | lst p =>
        have hpl : p = [("a" : Str), "up", "P"] := hL.2.2.2.1
        subst hpl
        cases hp with
        | lst hl ha =>
          have hxs := strs_of_dpAll ha
          subst hxs
          rename_i l
          have key : ∀ {u : HO}, H l = some u → l = D → u = .lst xs := fun hu e => by rw [e, hD] at hu; exact (Option.some.inj hu).symm
          refine .lst ?_ (dpAll_of_strs _)
          refine hl.elim (fun hl => .inl ?_) .inr
          rcases hl with hl | ⟨ob, hl⟩
          · refine .inl ?_
            rw [upd_ne (fun e => ?_)]
            · exact hl
            · have := key hl e
              injection this with this
              obtain ⟨c, hc⟩ := hx (V.str "a") (by rw [← this]; exact List.mem_cons_self)
              cases hc
          · refine .inr ⟨ob, ?_⟩
            rw [upd_ne (fun e => by have := key hl e; cases this)]
            exact hl
theorem rqs_lst {D : Addr} {o : HO} {xs : List V} (hD : H D = some (.lst xs)) (hx : ∀ x ∈ xs, ∃ c, x = V.ref c) : ∀ {ys : List V} {rs : List Rq}, (∀ r ∈ rs, rqL r) → DpAll K H ys (rs.map rqD) → DpAll K (upd H D o) ys (rs.map rqD)
  | _, [], _, h => by cases h; exact .nil
  | _, r :: rs, hL, h => by
    rw [List.map_cons] at h ⊢
    cases h with
    | cons h1 t => exact .cons (rq_lst (hL r List.mem_cons_self) hD hx h1) (rqs_lst hD hx (fun r hr => hL r (List.mem_cons_of_mem _ hr)) t)
theorem rq_ref {y : V} {r : Rq} (h : Dp K H y (rqD r)) : ∃ c, y = V.ref c := by
  cases r with
  | undo u => obtain ⟨c, e, _⟩ := dp_undo_inv h; exact ⟨c, e⟩
  | ent e => exact dp_en e h
theorem rqs_ref : ∀ {ys : List V} {rs : List Rq}, DpAll K H ys (rs.map rqD) → ∀ x ∈ ys, ∃ c, x = V.ref c
  | _, [], h => by cases h; exact fun x hx => nomatch hx
  | _, r :: rs, h => by
    rw [List.map_cons] at h
    cases h with
    | cons h1 t =>
      intro x hx
      rcases List.mem_cons.mp hx with rfl | hx
      · exact rq_ref h1
      · exact rqs_ref t x hx
end
theorem rqL_of {e : LEn} (h : leL e) : rqL (rqOf e) := by
  cases e with
  | en e => exact h
  | undo u n => exact h.1
/-! ropes added at the start -/
def addN : List Str := [("p" : Str), "q", "r", "s", "t", "u", "v", "w", "x", "y"]
def addK (ks : List Str) (n : Str) : List Str := if decide (n ∈ ks) = true then ks else ks ++ [n]
def addR (rs : List (Str × Rope)) (n : Str) : List (Str × Rope) := if hasA rs n = true then rs else putA rs n ([("a" : Str), "up", "P"], (1, 3))
theorem addR_keys (rs : List (Str × Rope)) (n : Str) : (addR rs n).map (·.1) = addK (rs.map (·.1)) n := by
  unfold addR addK
  have e : hasA rs n = decide (n ∈ rs.map (·.1)) := by
    rw [Bool.eq_iff_iff, hasA_iff, decide_eq_true_eq]
  rw [← e]
  split
  · rfl
  · rename_i h
    rw [putA_keys, if_neg h]
theorem addR_mem {rs : List (Str × Rope)} {n : Str} {e : Str × Rope} (h : e ∈ addR rs n) : e ∈ rs ∨ e.2 = ([("a" : Str), "up", "P"], (1, 3)) := by
  unfold addR at h
  split at h
  · exact .inl h
  · rename_i hn
    rw [putA_new (by simpa using hn)] at h
    rcases List.mem_append.mp h with h | h
    · exact .inl h
    · rw [List.mem_singleton.mp h]; exact .inr rfl
theorem pqy_sg : signs "pqrstuvwxy" = addN := by decide +kernel
/-- after all are added and one is taken away -/
theorem add_keys (k : Nat) (z : Str) (hz : z ∈ ([("p" : Str), "q", "y"])) : z ∈ addN.foldl addK (ropeN k) ∧ ((addN.foldl addK (ropeN k)).filter fun n => decide (n ≠ z)).length ≤ 10 ∧ (addN.foldl addK (ropeN k)).Nodup ∧ ∀ n ∈ addN.foldl addK (ropeN k), wordOk n SMALL = true := by
  have h9 : ropeN k = ropeN (min k 9) := by
    unfold ropeN
    rcases Nat.lt_or_ge k 9 with h | h
    · rw [Nat.min_eq_left (by omega)]
    · rw [List.take_of_length_le (by simpa using h), Nat.min_eq_right h]
      rfl
  rw [h9]
  have : min k 9 < 10 := by omega
  generalize min k 9 = j at this
  revert z
  match j, this with
  | 0, _ => decide +kernel
  | 1, _ => decide +kernel
  | 2, _ => decide +kernel
  | 3, _ => decide +kernel
  | 4, _ => decide +kernel
  | 5, _ => decide +kernel
  | 6, _ => decide +kernel
  | 7, _ => decide +kernel
  | 8, _ => decide +kernel
  | 9, _ => decide +kernel
theorem drop_keys {α : Type} (rs : List (Str × α)) (z : Str) : (dropA rs z).map (·.1) = (rs.map (·.1)).filter fun n => decide (n ≠ z) := by
  unfold dropA
  rw [List.filter_map]
  rfl
theorem added_ok {g : Giv} (G : GOk g) {k : Nat} {rs : List (Str × Rope)} {z : Str} (ha : ("a" : Str) ∈ g.pts) (hP : ("P" : Str) ∈ g.pts) (hk : rs.map (·.1) = addN.foldl addK (ropeN k)) (hr : ∀ e ∈ rs, e ∈ g.ropes ∨ e.2 = ([("a" : Str), "up", "P"], (1, 3))) (hz : z ∈ ([("p" : Str), "q", "y"])) : GOk ⟨g.loads, dropA rs z, g.fixed⟩ := by
  obtain ⟨h1, h2, h3, h4⟩ := add_keys k z hz
  rw [← hk] at h2 h3 h4
  have hd := drop_keys rs z
  refine ⟨G.l1, G.l8, G.ln, G.lw, G.f8, G.fn, G.fw, ?_, ?_, fun e he => ?_⟩
  · show (dropA rs z).length ≤ 10
    rw [← hd, List.length_map] at h2
    exact h2
  · show ((dropA rs z).map (·.1)).Nodup
    rw [hd]
    exact h3.filter _
  · have he : e ∈ dropA rs z := he
    have he' : e ∈ rs := (List.mem_filter.mp he).1
    refine ⟨h4 _ (List.mem_map.mpr ⟨e, he', rfl⟩), ?_⟩
    rcases hr e he' with h | h
    · exact (G.rw_ e h).2
    · rw [h]
      refine ⟨?_, by decide +kernel⟩
      show pathOk (mkP "a" [("up", "P")]) g.pts = true
      rw [pathOk_mkP (by decide) (by decide)]
      simp [ha, hP]
theorem ropeN_len (k : Nat) : (ropeN k).length ≤ 9 := rope_len' k
end PW

/-! ##### LM1 -/
set_option Elab.async false
set_option linter.all false
set_option maxRecDepth 100000
set_option maxHeartbeats 2000000
namespace PW
open PySem PySem.Spec PyProof.Rows L2 He PWL

open PWW
/-! ### the law's answers -/
def AnsA (K : PySem.W.Frag) (H0 H : Hp) (x : V) : Except Er Shop → Prop
  | .ok st' => ∃ t d, x = .ref t ∧ H t = some (.tup [.str "works", .ref d]) ∧ WorksAt K H (.ref d) st'.works ∧ H0 d = none
  | .error er => Dp K H x (erD er)
section
variable {K : PySem.W.Frag} {a sh : Addr} {ns : List Int} {v0 v : V} {b : Addr} {st : Shop} {evs : List V} {n : Nat} {H H0 H1 H' : Hp} {x y : V} {r : Except Er Shop}
theorem AnsA.same (e : Same H H') (h : AnsA K H0 H x r) : AnsA K H0 H' x r := by
  cases r with
  | ok st' =>
    obtain ⟨t, d, h1, h2, h3, h4⟩ := h
    exact ⟨t, d, h1, e _ _ h2, h3.same e, h4⟩
  | error er => exact dp_kd (same_kd e) (np_er er) h
theorem LInv.after (h : LInv K a sh ns v0 v b st evs n H) (hn : n ≤ 400) {m : Addr} {mvs : List V} {rs : List Rq} (hm : H m = some (.lst mvs)) (hd : DpAll K H mvs (rs.map rqD)) (hL : ∀ r ∈ rs, rqL r) (hz : rs.length ≤ 100) {Q : VK} {E : XK} (q : ∀ x H', Same H H' → AnsA K H H' x (foldQ st rs) → Q x H') : spAfter K [v0, .ref b, v, .ref m] H Q E := by
  refine ⟨v0, v, b, m, st, rs, evs, mvs, rfl, h.w0, h.W0, h.eb, h.ed, h.eV, h.wv, h.W, hm, hd, hL, by have := h.len; omega, ?_⟩
  cases hf : foldQ st rs with
  | ok st' =>
    rw [hf] at q
    exact fun t d H' f s e w => q _ _ s ⟨t, d, rfl, e, w, f⟩
  | error er =>
    rw [hf] at q
    exact fun x H' s e => q _ _ s e
theorem LInv.told (h : LInv K a sh ns v0 v b st evs n H) (hn : n ≤ 400) {m : Addr} {mvs : List V} {rs : List Rq} (hm : H m = some (.lst mvs)) (hd : DpAll K H mvs (rs.map rqD)) (hL : ∀ r ∈ rs, rqL r) (hz : rs.length ≤ 4) {Q : VK} {E : XK} (q : ∀ x H', Same H H' → AnsA K H H' x (foldQ st rs) → Q x H') : spRehearsed K [.ref sh, .ref m] H Q E := by
  refine ⟨sh, m, st, rs, mvs, rfl, h.sh, h.ok (by omega), hm, hd, fun r hr => rqL_ok (hL r hr), hz, by have := h.len; omega, ?_⟩
  cases hf : foldQ st rs with
  | ok st' =>
    rw [hf] at q
    exact fun t d H' f s e w => q _ _ s ⟨t, d, rfl, e, w, f⟩
  | error er =>
    rw [hf] at q
    exact fun x H' s e => q _ _ s e
theorem LInv.bare (h : LInv K a sh ns v0 v b st evs n H) (hn : n ≤ 400) {Q : VK} {E : XK} (q : ∀ d H', H d = none → Same H H' → WorksAt K H' (.ref d) st.works → Q (.ref d) H') : spRehearse K [.ref sh] H Q E :=
  .inl ⟨sh, [], st, [], rfl, h.sh, h.ok (by omega), .nil, fun r hr => absurd hr (by simp), by have := h.len; show st.es.length + 0 ≤ 1000; omega, q⟩
theorem ans_ne (hx : AnsA K H1 H x r) (hy : AnsA K H0 H1 y r) (s : Same H1 H) (hW : ∀ st', r = .ok st' → WOk st'.works) (hE : ∀ er, r = .error er → erS er) {Q : VK} (q : ∀ H', Same H H' → Q (.bl false) H') : rNeA K x y H Q := by
  cases r with
  | ok st' =>
    obtain ⟨t, d, rfl, h1, h2, h3⟩ := hx
    obtain ⟨t', d', rfl, k1, k2, k3⟩ := hy
    refine .inr (r_neW (hW _ rfl) (SqT.of h1) (SqT.of (s _ _ k1)) h2 (k2.same s) (fun e => ?_) q)
    injection e with e
    subst e
    obtain ⟨_, _, _, e2, hd, _⟩ := k2
    injection e2 with e2
    subst e2
    rw [hd] at h3
    cases h3
  | error er =>
    have sh := sh_er (x := er) (hE _ rfl)
    refine .inl (r_neD hx (dp_kd (same_kd s) (np_er er) hy) (sh.ok (by decide)) (sh.ok (by decide)) ?_)
    rw [eqv_sh sh]
    exact q H (Same.refl H)
/-- the same, the second one made later -/
theorem ans_ne2 (hx : AnsA K H0 H1 x r) (hy : AnsA K H1 H y r) (s : Same H1 H) (hW : ∀ st', r = .ok st' → WOk st'.works) (hE : ∀ er, r = .error er → erS er) {Q : VK} (q : ∀ H', Same H H' → Q (.bl false) H') : rNeA K x y H Q := by
  cases r with
  | ok st' =>
    obtain ⟨t, d, rfl, h1, h2, h3⟩ := hx
    obtain ⟨t', d', rfl, k1, k2, k3⟩ := hy
    refine .inr (r_neW (hW _ rfl) (SqT.of (s _ _ h1)) (SqT.of k1) (h2.same s) k2 (fun e => ?_) q)
    injection e with e
    subst e
    obtain ⟨_, _, _, e2, hd, _⟩ := h2
    injection e2 with e2
    subst e2
    rw [hd] at k3
    cases k3
  | error er =>
    have sh := sh_er (x := er) (hE _ rfl)
    refine .inl (r_neD (dp_kd (same_kd s) (np_er er) hx) hy (sh.ok (by decide)) (sh.ok (by decide)) ?_)
    rw [eqv_sh sh]
    exact q H (Same.refl H)
theorem ans_parts (h : AnsA K H0 H x r) : ∃ t tag val, x = .ref t ∧ SqT K H t [.str tag, val] ∧ ((tag = "works" ∧ ∃ d w1 w2, val = .ref d ∧ H d = some (.dK (wkv w1 w2)) ∧ H0 d = none) ∨ tag ≠ "works") := by
  cases r with
  | ok st' =>
    obtain ⟨t, d, rfl, h1, ⟨d', w1, w2, e, hd, _⟩, h3⟩ := h
    injection e with e
    subst e
    exact ⟨t, _, _, rfl, SqT.of h1, .inl ⟨rfl, d, w1, w2, rfl, hd, h3⟩⟩
  | error er =>
    have h : Dp K H x (erD er) := h
    cases er with
    | unknown z => cases h with | tup hx ha => cases ha with | cons h1 ha => cases h1; cases ha with | cons h2 ha => cases ha; exact ⟨_, _, _, rfl, hx, .inr (by decide +kernel)⟩
    | number f => cases h with | tup hx ha => cases ha with | cons h1 ha => cases h1; cases ha with | cons h2 ha => cases ha; exact ⟨_, _, _, rfl, hx, .inr (by decide +kernel)⟩
    | name z => cases h with | tup hx ha => cases ha with | cons h1 ha => cases h1; cases ha with | cons h2 ha => cases ha; exact ⟨_, _, _, rfl, hx, .inr (by decide +kernel)⟩
    | rope z => cases h with | tup hx ha => cases ha with | cons h1 ha => cases h1; cases ha with | cons h2 ha => cases ha; exact ⟨_, _, _, rfl, hx, .inr (by decide +kernel)⟩
    | limit n => cases h with | tup hx ha => cases ha with | cons h1 ha => cases h1; cases ha with | cons h2 ha => cases ha; exact ⟨_, _, _, rfl, hx, .inr (by decide +kernel)⟩
    | nothing => cases h with | tup hx ha => cases ha with | cons h1 ha => cases h1; cases ha with | cons h2 ha => cases ha; exact ⟨_, _, _, rfl, hx, .inr (by decide +kernel)⟩
end
theorem w_disp {trs : List (TE × TE)} {σ : L2.St} {H : Hp} {Q : VK} (h : ∀ p, H p = none → tPairs trs σ (upd H p (.dK [])) fun ps H2 => H2 p = some (.dK []) ∧ ∃ kvs : List (Key × V), ps = kvs.map (fun kv => (kV kv.1, kv.2)) ∧ kvs.length ≤ 15 ∧ Q (.ref p) (upd H2 p (.dK (mergeK [] kvs)))) : tDisp trs σ H Q := h
theorem w_pair {tk tv : TE} {r : List (TE × TE)} {σ : L2.St} {H : Hp} {Q : List (V × V) → Hp → Prop} (h : tk σ H fun x H1 => tv σ H1 fun y H2 => tPairs r σ H2 fun ps H3 => Q ((x, y) :: ps) H3) : tPairs ((tk, tv) :: r) σ H Q := h
theorem w_pair0 {σ : L2.St} {H : Hp} {Q : List (V × V) → Hp → Prop} (h : Q [] H) : tPairs [] σ H Q := h
theorem WorkAt.updK {K : PySem.W.Frag} {H0 H : Hp} {d x : Addr} {o o' : HO} {kvs : List (Key × V)} {g : Giv} (hd : H d = some (.dK kvs)) (h : WorkAt K H (.ref x) g) (nw : NewW K H0 H x) (h0 : H0 d = some o) : WorkAt K (upd H d o') (.ref x) g := by
  obtain ⟨a, dx, l, hh, r, ls, hs, rs, e, h2, ⟨k3, h3, h3'⟩, h4, ⟨k5, h5, h5'⟩, h6, ⟨k7, h7, h7'⟩, h8⟩ := h
  injection e with e
  subst e
  obtain ⟨dx', l', h', r', e1, n1, n2, n3⟩ := nw
  rw [h2] at e1
  injection e1 with e1
  injection e1 with _ _ e1
  injection e1 with e3 e1
  injection e1 with e4 e1
  injection e1 with e5 e1
  injection e3 with _ e3
  injection e4 with _ e4
  injection e5 with _ e5
  injection e3 with e3
  injection e4 with e4
  injection e5 with e5
  subst e3 e4 e5
  have tk : TK H (upd H d o') := tk_updK (.inl hd)
  have ne : ∀ {b : Addr}, H0 b = none → b ≠ d := fun hb => Ne.symm (ne_of_none h0 hb)
  exact ⟨x, dx, l, hh, r, ls, hs, rs, rfl, by rw [upd_ne (fun z => by rw [z, hd] at h2; cases h2)]; exact h2, ⟨k3, by rw [upd_ne (ne n1)]; exact h3, h3'.tk tk td_fr⟩, h4, ⟨k5, by rw [upd_ne (ne n2)]; exact h5, h5'.tk tk td_fr⟩, h6, ⟨k7, by rw [upd_ne (ne n3)]; exact h7, h7'.tk tk td_rope⟩, h8⟩
theorem NewW.same {K : PySem.W.Frag} {H0 H H' : Hp} {x : Addr} (e : Same H H') (h : NewW K H0 H x) : NewW K H0 H' x := let ⟨dx, l, hh, r, h1, h2⟩ := h; ⟨dx, l, hh, r, e _ _ h1, h2⟩
/-! answers to what is no workshop -/
def refD : List PyData := [.tuple [.str "name", .none], .tuple [.str "name", .int 5], .tuple [.str "name", .str "one"]]
theorem td_flat {s : Str} {d : PyData} (hd : d = .none ∨ (∃ i, d = .int i) ∨ ∃ z, d = .str z) : TD (.tuple [.str s, d]) := fun K H H' v e h => by
  cases h with
  | tup hx ha =>
    refine .tup (sqT_tk e hx) ?_
    cases ha with
    | cons h1 ha =>
      cases h1
      cases ha with
      | cons h2 ha =>
        cases ha
        rcases hd with rfl | ⟨i, rfl⟩ | ⟨z, rfl⟩ <;> (cases h2; first | exact .cons (.str _) (.cons .non .nil) | exact .cons (.str _) (.cons (.int _) .nil) | exact .cons (.str _) (.cons (.str _) .nil))
theorem dpAll_tk {K : PySem.W.Frag} {H H' : Hp} (e : TK H H') : ∀ {xs : List V} {ds : List PyData}, (∀ d ∈ ds, TD d) → DpAll K H xs ds → DpAll K H' xs ds
  | _, [], _, h => by cases h; exact .nil
  | _, d :: ds, hd, h => by
    cases h with
    | cons h1 t => exact .cons (hd d List.mem_cons_self K H H' _ e h1) (dpAll_tk e (fun d h => hd d (List.mem_cons_of_mem _ h)) t)
theorem td_refD : ∀ d ∈ refD, TD d := fun d hd => by
  rcases List.mem_cons.mp hd with rfl | hd
  · exact td_flat (.inl rfl)
  rcases List.mem_cons.mp hd with rfl | hd
  · exact td_flat (.inr (.inl ⟨5, rfl⟩))
  · rw [List.mem_singleton.mp hd]; exact td_flat (.inr (.inr ⟨"one", rfl⟩))
/-! the start -/
theorem NewG.ap {H H' : Hp} {a d : Addr} {o : HO} (h : NewG H H' a) (hd : H d = some o) : ApD H' d a := let ⟨l, r, hh, h1, h2, h3, h4, _⟩ := h; ⟨l, r, hh, h1, Ne.symm (ne_of_none hd h2), Ne.symm (ne_of_none hd h3), Ne.symm (ne_of_none hd h4)⟩
structure SInv (K : PySem.W.Frag) (a p d0 a1 a2 l1 r1 h1 : Addr) (ns : List Int) (g1 g2 : Giv) (H : Hp) : Prop where
  sc : SqL K H a (ns.map .int)
  po : PoolAt H p
  d : H d0 = some (.dK (wkv (.ref a1) (.ref a2)))
  e1 : H a1 = some (.lst [.ref l1, .ref r1, .ref h1])
  dl : DictE K H frD l1 g1.loads
  dh : DictE K H frD h1 g1.fixed
  rp : ∃ kr, H r1 = some (.dK kr)
  g2 : GivG K H a2 g2
  nl : l1 ≠ r1
  nh : h1 ≠ r1
  nd : d0 ≠ r1
  n2 : ApD H r1 a2
  p1 : ApD H d0 a1
  p2 : ApD H d0 a2
section
variable {K : PySem.W.Frag} {a p d0 a1 a2 l1 r1 h1 : Addr} {ns : List Int} {g1 g2 : Giv} {H H' : Hp}
theorem SInv.same (e : Same H H') (h : SInv K a p d0 a1 a2 l1 r1 h1 ns g1 g2 H) : SInv K a p d0 a1 a2 l1 r1 h1 ns g1 g2 H' := ⟨sqL_same e h.sc, h.po.same e, e _ _ h.d, e _ _ h.e1, h.dl.same e np_fr, h.dh.same e np_fr, let ⟨kr, hk⟩ := h.rp; ⟨kr, e _ _ hk⟩, h.g2.same e, h.nl, h.nh, h.nd, h.n2.same e, h.p1.same e, h.p2.same e⟩
theorem SInv.pool (t : SX p H H') (hp : PoolAt H' p) (hap : Ap K a ns p) (h : SInv K a p d0 a1 a2 l1 r1 h1 ns g1 g2 H) : SInv K a p d0 a1 a2 l1 r1 h1 ns g1 g2 H' :=
  ⟨sc_sx hap t h.sc, hp, t _ _ (h.po.neK h.d) h.d, t _ _ (h.po.neR h.e1) h.e1, h.dl.pool td_fr h.po t, h.dh.pool td_fr h.po t, let ⟨kr, hk⟩ := h.rp; ⟨kr, t _ _ (h.po.neK hk) hk⟩, h.g2.pool h.po t, h.nl, h.nh, h.nd, h.n2.pool h.po t, h.p1.pool h.po t, h.p2.pool h.po t⟩
theorem ApD.sxK {x c d : Addr} {kvs : List (Key × V)} (hx : H x = some (.dK kvs)) (t : SX x H H') (h : ApD H d c) : ApD H' d c := let ⟨l, r, hh, e, n⟩ := h; ⟨l, r, hh, t _ _ (ne_of e hx (fun z => nomatch z)) e, n⟩
theorem DictE.sxK {α : Type} {f : α → PyData} {x c : Addr} {kvs : List (Key × V)} {es : List (Str × α)} (hn : ∀ d, TD (f d)) (hx : H x = some (.dK kvs)) (t : SX x H H') (hne : c ≠ x) (h : DictE K H f c es) : DictE K H' f c es := by
  obtain ⟨kc, e1, e2⟩ := h
  exact ⟨kc, t _ _ hne e1, e2.tk (tk_kd (sx_kd t (by rw [hx]; exact True.intro))) hn⟩
theorem SInv.sxr (t : SX r1 H H') (hr : ∃ kr, H' r1 = some (.dK kr)) (h : SInv K a p d0 a1 a2 l1 r1 h1 ns g1 g2 H) : SInv K a p d0 a1 a2 l1 r1 h1 ns g1 g2 H' := by
  obtain ⟨kr, hk⟩ := h.rp
  obtain ⟨pa, pb, hpo⟩ := h.po
  obtain ⟨l, r, hh, e2, n1, n2, n3⟩ := id h.n2
  obtain ⟨l', r', hh', e2', d1, d2, d3⟩ := h.g2
  rw [e2] at e2'
  cases e2'
  exact ⟨sc_sx (ap_of h.sc hk (fun _ z => nomatch z) (fun _ _ z => nomatch z)) t h.sc, ⟨pa, pb, t _ _ (ne_of hpo hk (fun z => nomatch z)) hpo⟩, t _ _ h.nd h.d, t _ _ (ne_of h.e1 hk (fun z => nomatch z)) h.e1, h.dl.sxK td_fr hk t h.nl, h.dh.sxK td_fr hk t h.nh, hr,
    ⟨l, r, hh, t _ _ (ne_of e2 hk (fun z => nomatch z)) e2, d1.sxK td_fr hk t n1, d2.sxK td_rope hk t n2, d3.sxK td_fr hk t n3⟩, h.nl, h.nh, h.nd, h.n2.sxK hk t, h.p1.sxK hk t, h.p2.sxK hk t⟩
theorem SInv.law {rs : List (Str × Rope)} (h : SInv K a p d0 a1 a2 l1 r1 h1 ns g1 g2 H) (hr : DictE K H ropeD r1 rs) : LawW K H (.ref d0) ⟨⟨g1.loads, rs, g1.fixed⟩, g2⟩ := ⟨d0, a1, a2, rfl, h.d, ⟨l1, r1, h1, h.e1, h.dl, hr, h.dh⟩, h.g2, h.p1, h.p2⟩
end
theorem addK_len (l : List Str) : ∀ ks : List Str, (l.foldl addK ks).length ≤ ks.length + l.length := by
  induction l with
  | nil => intro ks; exact Nat.le_refl _
  | cons n l ih =>
    intro ks
    rw [List.foldl_cons, List.length_cons]
    have h1 := ih (addK ks n)
    have h2 : (addK ks n).length ≤ ks.length + 1 := by
      unfold addK
      split
      · omega
      · rw [List.length_append]; exact Nat.le_refl _
    omega
theorem addK_nodup (l : List Str) : ∀ ks : List Str, ks.Nodup → (l.foldl addK ks).Nodup := by
  induction l with
  | nil => intro ks h; exact h
  | cons n l ih =>
    intro ks h
    rw [List.foldl_cons]
    refine ih _ ?_
    unfold addK
    split
    · exact h
    · rename_i hn
      have hn' : n ∉ ks := fun hm => hn (decide_eq_true hm)
      rw [List.nodup_append]
      exact ⟨h, by simp, fun x hx y hy => by rw [List.mem_singleton.mp hy]; exact fun e => hn' (e ▸ hx)⟩
end PW

/-! ##### LM -/
set_option Elab.async false
set_option linter.all false
set_option maxRecDepth 100000
set_option maxHeartbeats 2000000
namespace PW
open PySem PySem.Spec PyProof.Rows L2 He PWL

open PWW
/-! ### the law -/
def spLaw (K : PySem.W.Frag) : Sp := fun vs H Q _ => ∃ (a : Addr) (ns : List Int), vs = [.ref a] ∧ SqL K H a (ns.map .int) ∧ ∀ H', Q (.bl true) H'
local macro_rules | `(tactic| walk_at "w-w_ifs") => `(tactic| (repeat (first | with_reducible refine w_seq ?_ | with_reducible refine w_ret ?_ | with_reducible refine w_asg ?_ | with_reducible refine w_drop ?_ | with_reducible refine w_next ?_ | with_reducible refine w_cont ?_ | with_reducible refine w_par ?_ | with_reducible refine w_par3 ?_ | with_reducible refine w_three ?_ | with_reducible refine w_two ?_ | with_reducible refine w_name ?_ | with_reducible refine w_c ?_ | with_reducible refine w_op ?_ | with_reducible refine w_un ?_ | with_reducible refine w_cb ?_ | with_reducible refine w_cons ?_ | with_reducible refine w_nil ?_ | with_reducible refine w_tup ?_ | with_reducible refine w_lst ?_ | with_reducible refine w_test ?_ | with_reducible refine w_B ?_ | with_reducible refine w_k ?_ | with_reducible refine w_ki ?_ | with_reducible refine w_and ?_ | with_reducible refine w_or ?_ | with_reducible refine w_not ?_ | with_reducible refine w_andV ?_ | with_reducible refine w_orV ?_ | with_reducible refine w_notV ?_ | with_reducible refine w_if ?_ | with_reducible refine w_yes ?_ | with_reducible refine w_isN ?_ | with_reducible refine w_chain ?_ | with_reducible refine w_sl ?_ | with_reducible refine w_noPart ?_ | with_reducible refine w_part ?_ | with_reducible refine w_fld ?_ | with_reducible refine w_dget ?_ | with_reducible refine w_din ?_ | with_reducible refine w_dnotin ?_ | with_reducible refine w_dput ?_ | with_reducible refine w_newK ?_ | with_reducible refine w_sfld ?_ | with_reducible refine w_methR ?_ | with_reducible refine w_propR ?_ | with_reducible refine w_sl2 ?_ | with_reducible refine w_star ?_ | with_reducible refine w_retN ?_ | with_reducible refine w_gcons ?_ | with_reducible refine w_gnil ?_ | with_reducible refine r_i0 ?_ | with_reducible refine r_u ?_ | with_reducible refine r_eqi ?_ | with_reducible refine r_nei ?_ | with_reducible refine r_eqs ?_ | with_reducible refine r_nes ?_ | with_reducible refine iteT ?_ | with_reducible refine iteF ?_ | with_reducible refine w_lc ?_ | with_reducible refine w_dc ?_ | with_reducible refine w_for ?_ | with_reducible refine w_istr ?_ | with_reducible refine w_ilist ?_ | with_reducible refine w_itup ?_ | with_reducible refine w_irng1 ?_ | with_reducible refine w_irng2 ?_ | with_reducible refine w_ienum ?_ | with_reducible refine w_iitems ?_ | with_reducible refine w_ikeysT ?_ | with_reducible refine w_makeK ?_ | with_reducible refine w_methSN ?_ | with_reducible refine w_makeR ?_ | with_reducible refine w_callR ?_ | with_reducible refine w_dmerge ?_ | with_reducible refine w_ks ?_ | with_reducible refine w_kr ?_ | with_reducible refine isi_int_int ?_ | with_reducible refine isi_int_bool ?_ | with_reducible refine isi_str_str ?_ | with_reducible refine w_1i ?_ | with_reducible refine w_nn ?_ | with_reducible refine w_int_i ?_ | with_reducible refine w_int_b ?_ | ((with_reducible apply w_var); rfl) | ((with_reducible apply r_ixT); assumption; rfl) | ((with_reducible apply r_ixL); assumption; rfl) | ((with_reducible apply isi_tup_tup); assumption) | ((with_reducible apply isi_dict_dict); assumption) | ((with_reducible apply r_lenD); assumption) | ((with_reducible apply r_lenT); assumption) | ((with_reducible apply r_lenL); assumption) | ((with_reducible refine r_all (SqL.of ?_) ?_); assumption) | ((with_reducible apply r_fld); assumption; exact Cn.cls (by assumption) _; exact Cn.noat (by assumption) _ _; first | rfl | assumption) | ((with_reducible apply ite_t); rfl) | ((with_reducible apply ite_f); rfl))))
local macro_rules | `(tactic| walk_at "w-w_next") => `(tactic| (repeat (first | with_reducible refine w_seq ?_ | with_reducible refine w_ret ?_ | with_reducible refine w_asg ?_ | with_reducible refine w_ifs ?_ | with_reducible refine w_drop ?_ | with_reducible refine w_cont ?_ | with_reducible refine w_par ?_ | with_reducible refine w_par3 ?_ | with_reducible refine w_three ?_ | with_reducible refine w_two ?_ | with_reducible refine w_name ?_ | with_reducible refine w_c ?_ | with_reducible refine w_op ?_ | with_reducible refine w_un ?_ | with_reducible refine w_cb ?_ | with_reducible refine w_cons ?_ | with_reducible refine w_nil ?_ | with_reducible refine w_tup ?_ | with_reducible refine w_lst ?_ | with_reducible refine w_test ?_ | with_reducible refine w_B ?_ | with_reducible refine w_k ?_ | with_reducible refine w_ki ?_ | with_reducible refine w_and ?_ | with_reducible refine w_or ?_ | with_reducible refine w_not ?_ | with_reducible refine w_andV ?_ | with_reducible refine w_orV ?_ | with_reducible refine w_notV ?_ | with_reducible refine w_if ?_ | with_reducible refine w_yes ?_ | with_reducible refine w_isN ?_ | with_reducible refine w_chain ?_ | with_reducible refine w_sl ?_ | with_reducible refine w_noPart ?_ | with_reducible refine w_part ?_ | with_reducible refine w_fld ?_ | with_reducible refine w_dget ?_ | with_reducible refine w_din ?_ | with_reducible refine w_dnotin ?_ | with_reducible refine w_dput ?_ | with_reducible refine w_newK ?_ | with_reducible refine w_sfld ?_ | with_reducible refine w_methR ?_ | with_reducible refine w_propR ?_ | with_reducible refine w_sl2 ?_ | with_reducible refine w_star ?_ | with_reducible refine w_retN ?_ | with_reducible refine w_gcons ?_ | with_reducible refine w_gnil ?_ | with_reducible refine r_i0 ?_ | with_reducible refine r_u ?_ | with_reducible refine r_eqi ?_ | with_reducible refine r_nei ?_ | with_reducible refine r_eqs ?_ | with_reducible refine r_nes ?_ | with_reducible refine iteT ?_ | with_reducible refine iteF ?_ | with_reducible refine w_lc ?_ | with_reducible refine w_dc ?_ | with_reducible refine w_for ?_ | with_reducible refine w_istr ?_ | with_reducible refine w_ilist ?_ | with_reducible refine w_itup ?_ | with_reducible refine w_irng1 ?_ | with_reducible refine w_irng2 ?_ | with_reducible refine w_ienum ?_ | with_reducible refine w_iitems ?_ | with_reducible refine w_ikeysT ?_ | with_reducible refine w_makeK ?_ | with_reducible refine w_methSN ?_ | with_reducible refine w_makeR ?_ | with_reducible refine w_callR ?_ | with_reducible refine w_dmerge ?_ | with_reducible refine w_ks ?_ | with_reducible refine w_kr ?_ | with_reducible refine isi_int_int ?_ | with_reducible refine isi_int_bool ?_ | with_reducible refine isi_str_str ?_ | with_reducible refine w_1i ?_ | with_reducible refine w_nn ?_ | with_reducible refine w_int_i ?_ | with_reducible refine w_int_b ?_ | ((with_reducible apply w_var); rfl) | ((with_reducible apply r_ixT); assumption; rfl) | ((with_reducible apply r_ixL); assumption; rfl) | ((with_reducible apply isi_tup_tup); assumption) | ((with_reducible apply isi_dict_dict); assumption) | ((with_reducible apply r_lenD); assumption) | ((with_reducible apply r_lenT); assumption) | ((with_reducible apply r_lenL); assumption) | ((with_reducible refine r_all (SqL.of ?_) ?_); assumption) | ((with_reducible apply r_fld); assumption; exact Cn.cls (by assumption) _; exact Cn.noat (by assumption) _ _; first | rfl | assumption) | ((with_reducible apply ite_t); rfl) | ((with_reducible apply ite_f); rfl))))
local macro_rules | `(tactic| walk_at "w-w_gnil") => `(tactic| (repeat (first | with_reducible refine w_seq ?_ | with_reducible refine w_ret ?_ | with_reducible refine w_asg ?_ | with_reducible refine w_ifs ?_ | with_reducible refine w_drop ?_ | with_reducible refine w_next ?_ | with_reducible refine w_cont ?_ | with_reducible refine w_par ?_ | with_reducible refine w_par3 ?_ | with_reducible refine w_three ?_ | with_reducible refine w_two ?_ | with_reducible refine w_name ?_ | with_reducible refine w_c ?_ | with_reducible refine w_op ?_ | with_reducible refine w_un ?_ | with_reducible refine w_cb ?_ | with_reducible refine w_cons ?_ | with_reducible refine w_nil ?_ | with_reducible refine w_tup ?_ | with_reducible refine w_lst ?_ | with_reducible refine w_test ?_ | with_reducible refine w_B ?_ | with_reducible refine w_k ?_ | with_reducible refine w_ki ?_ | with_reducible refine w_and ?_ | with_reducible refine w_or ?_ | with_reducible refine w_not ?_ | with_reducible refine w_andV ?_ | with_reducible refine w_orV ?_ | with_reducible refine w_notV ?_ | with_reducible refine w_if ?_ | with_reducible refine w_yes ?_ | with_reducible refine w_isN ?_ | with_reducible refine w_chain ?_ | with_reducible refine w_sl ?_ | with_reducible refine w_noPart ?_ | with_reducible refine w_part ?_ | with_reducible refine w_fld ?_ | with_reducible refine w_dget ?_ | with_reducible refine w_din ?_ | with_reducible refine w_dnotin ?_ | with_reducible refine w_dput ?_ | with_reducible refine w_newK ?_ | with_reducible refine w_sfld ?_ | with_reducible refine w_methR ?_ | with_reducible refine w_propR ?_ | with_reducible refine w_sl2 ?_ | with_reducible refine w_star ?_ | with_reducible refine w_retN ?_ | with_reducible refine w_gcons ?_ | with_reducible refine r_i0 ?_ | with_reducible refine r_u ?_ | with_reducible refine r_eqi ?_ | with_reducible refine r_nei ?_ | with_reducible refine r_eqs ?_ | with_reducible refine r_nes ?_ | with_reducible refine iteT ?_ | with_reducible refine iteF ?_ | with_reducible refine w_lc ?_ | with_reducible refine w_dc ?_ | with_reducible refine w_for ?_ | with_reducible refine w_istr ?_ | with_reducible refine w_ilist ?_ | with_reducible refine w_itup ?_ | with_reducible refine w_irng1 ?_ | with_reducible refine w_irng2 ?_ | with_reducible refine w_ienum ?_ | with_reducible refine w_iitems ?_ | with_reducible refine w_ikeysT ?_ | with_reducible refine w_makeK ?_ | with_reducible refine w_methSN ?_ | with_reducible refine w_makeR ?_ | with_reducible refine w_callR ?_ | with_reducible refine w_dmerge ?_ | with_reducible refine w_ks ?_ | with_reducible refine w_kr ?_ | with_reducible refine isi_int_int ?_ | with_reducible refine isi_int_bool ?_ | with_reducible refine isi_str_str ?_ | with_reducible refine w_1i ?_ | with_reducible refine w_nn ?_ | with_reducible refine w_int_i ?_ | with_reducible refine w_int_b ?_ | ((with_reducible apply w_var); rfl) | ((with_reducible apply r_ixT); assumption; rfl) | ((with_reducible apply r_ixL); assumption; rfl) | ((with_reducible apply isi_tup_tup); assumption) | ((with_reducible apply isi_dict_dict); assumption) | ((with_reducible apply r_lenD); assumption) | ((with_reducible apply r_lenT); assumption) | ((with_reducible apply r_lenL); assumption) | ((with_reducible refine r_all (SqL.of ?_) ?_); assumption) | ((with_reducible apply r_fld); assumption; exact Cn.cls (by assumption) _; exact Cn.noat (by assumption) _ _; first | rfl | assumption) | ((with_reducible apply ite_t); rfl) | ((with_reducible apply ite_f); rfl))))
local macro_rules | `(tactic| walk_at "w+w_pair+w_pair0") => `(tactic| (repeat (first | with_reducible refine w_seq ?_ | with_reducible refine w_ret ?_ | with_reducible refine w_asg ?_ | with_reducible refine w_ifs ?_ | with_reducible refine w_drop ?_ | with_reducible refine w_next ?_ | with_reducible refine w_cont ?_ | with_reducible refine w_par ?_ | with_reducible refine w_par3 ?_ | with_reducible refine w_three ?_ | with_reducible refine w_two ?_ | with_reducible refine w_name ?_ | with_reducible refine w_c ?_ | with_reducible refine w_op ?_ | with_reducible refine w_un ?_ | with_reducible refine w_cb ?_ | with_reducible refine w_cons ?_ | with_reducible refine w_nil ?_ | with_reducible refine w_tup ?_ | with_reducible refine w_lst ?_ | with_reducible refine w_test ?_ | with_reducible refine w_B ?_ | with_reducible refine w_k ?_ | with_reducible refine w_ki ?_ | with_reducible refine w_and ?_ | with_reducible refine w_or ?_ | with_reducible refine w_not ?_ | with_reducible refine w_andV ?_ | with_reducible refine w_orV ?_ | with_reducible refine w_notV ?_ | with_reducible refine w_if ?_ | with_reducible refine w_yes ?_ | with_reducible refine w_isN ?_ | with_reducible refine w_chain ?_ | with_reducible refine w_sl ?_ | with_reducible refine w_noPart ?_ | with_reducible refine w_part ?_ | with_reducible refine w_fld ?_ | with_reducible refine w_dget ?_ | with_reducible refine w_din ?_ | with_reducible refine w_dnotin ?_ | with_reducible refine w_dput ?_ | with_reducible refine w_newK ?_ | with_reducible refine w_sfld ?_ | with_reducible refine w_methR ?_ | with_reducible refine w_propR ?_ | with_reducible refine w_sl2 ?_ | with_reducible refine w_star ?_ | with_reducible refine w_retN ?_ | with_reducible refine w_gcons ?_ | with_reducible refine w_gnil ?_ | with_reducible refine r_i0 ?_ | with_reducible refine r_u ?_ | with_reducible refine r_eqi ?_ | with_reducible refine r_nei ?_ | with_reducible refine r_eqs ?_ | with_reducible refine r_nes ?_ | with_reducible refine iteT ?_ | with_reducible refine iteF ?_ | with_reducible refine w_lc ?_ | with_reducible refine w_dc ?_ | with_reducible refine w_for ?_ | with_reducible refine w_istr ?_ | with_reducible refine w_ilist ?_ | with_reducible refine w_itup ?_ | with_reducible refine w_irng1 ?_ | with_reducible refine w_irng2 ?_ | with_reducible refine w_ienum ?_ | with_reducible refine w_iitems ?_ | with_reducible refine w_ikeysT ?_ | with_reducible refine w_makeK ?_ | with_reducible refine w_methSN ?_ | with_reducible refine w_makeR ?_ | with_reducible refine w_callR ?_ | with_reducible refine w_dmerge ?_ | with_reducible refine w_ks ?_ | with_reducible refine w_kr ?_ | with_reducible refine isi_int_int ?_ | with_reducible refine isi_int_bool ?_ | with_reducible refine isi_str_str ?_ | with_reducible refine w_1i ?_ | with_reducible refine w_nn ?_ | with_reducible refine w_int_i ?_ | with_reducible refine w_int_b ?_ | ((with_reducible apply w_var); rfl) | ((with_reducible apply r_ixT); assumption; rfl) | ((with_reducible apply r_ixL); assumption; rfl) | ((with_reducible apply isi_tup_tup); assumption) | ((with_reducible apply isi_dict_dict); assumption) | ((with_reducible apply r_lenD); assumption) | ((with_reducible apply r_lenT); assumption) | ((with_reducible apply r_lenL); assumption) | ((with_reducible refine r_all (SqL.of ?_) ?_); assumption) | ((with_reducible apply r_fld); assumption; exact Cn.cls (by assumption) _; exact Cn.noat (by assumption) _ _; first | rfl | assumption) | ((with_reducible apply ite_t); rfl) | ((with_reducible apply ite_f); rfl) | with_reducible refine w_pair ?_ | with_reducible refine w_pair0 ?_)))
local macro_rules | `(tactic| walk_at "w") => `(tactic| (repeat (first | with_reducible refine w_seq ?_ | with_reducible refine w_ret ?_ | with_reducible refine w_asg ?_ | with_reducible refine w_ifs ?_ | with_reducible refine w_drop ?_ | with_reducible refine w_next ?_ | with_reducible refine w_cont ?_ | with_reducible refine w_par ?_ | with_reducible refine w_par3 ?_ | with_reducible refine w_three ?_ | with_reducible refine w_two ?_ | with_reducible refine w_name ?_ | with_reducible refine w_c ?_ | with_reducible refine w_op ?_ | with_reducible refine w_un ?_ | with_reducible refine w_cb ?_ | with_reducible refine w_cons ?_ | with_reducible refine w_nil ?_ | with_reducible refine w_tup ?_ | with_reducible refine w_lst ?_ | with_reducible refine w_test ?_ | with_reducible refine w_B ?_ | with_reducible refine w_k ?_ | with_reducible refine w_ki ?_ | with_reducible refine w_and ?_ | with_reducible refine w_or ?_ | with_reducible refine w_not ?_ | with_reducible refine w_andV ?_ | with_reducible refine w_orV ?_ | with_reducible refine w_notV ?_ | with_reducible refine w_if ?_ | with_reducible refine w_yes ?_ | with_reducible refine w_isN ?_ | with_reducible refine w_chain ?_ | with_reducible refine w_sl ?_ | with_reducible refine w_noPart ?_ | with_reducible refine w_part ?_ | with_reducible refine w_fld ?_ | with_reducible refine w_dget ?_ | with_reducible refine w_din ?_ | with_reducible refine w_dnotin ?_ | with_reducible refine w_dput ?_ | with_reducible refine w_newK ?_ | with_reducible refine w_sfld ?_ | with_reducible refine w_methR ?_ | with_reducible refine w_propR ?_ | with_reducible refine w_sl2 ?_ | with_reducible refine w_star ?_ | with_reducible refine w_retN ?_ | with_reducible refine w_gcons ?_ | with_reducible refine w_gnil ?_ | with_reducible refine r_i0 ?_ | with_reducible refine r_u ?_ | with_reducible refine r_eqi ?_ | with_reducible refine r_nei ?_ | with_reducible refine r_eqs ?_ | with_reducible refine r_nes ?_ | with_reducible refine iteT ?_ | with_reducible refine iteF ?_ | with_reducible refine w_lc ?_ | with_reducible refine w_dc ?_ | with_reducible refine w_for ?_ | with_reducible refine w_istr ?_ | with_reducible refine w_ilist ?_ | with_reducible refine w_itup ?_ | with_reducible refine w_irng1 ?_ | with_reducible refine w_irng2 ?_ | with_reducible refine w_ienum ?_ | with_reducible refine w_iitems ?_ | with_reducible refine w_ikeysT ?_ | with_reducible refine w_makeK ?_ | with_reducible refine w_methSN ?_ | with_reducible refine w_makeR ?_ | with_reducible refine w_callR ?_ | with_reducible refine w_dmerge ?_ | with_reducible refine w_ks ?_ | with_reducible refine w_kr ?_ | with_reducible refine isi_int_int ?_ | with_reducible refine isi_int_bool ?_ | with_reducible refine isi_str_str ?_ | with_reducible refine w_1i ?_ | with_reducible refine w_nn ?_ | with_reducible refine w_int_i ?_ | with_reducible refine w_int_b ?_ | ((with_reducible apply w_var); rfl) | ((with_reducible apply r_ixT); assumption; rfl) | ((with_reducible apply r_ixL); assumption; rfl) | ((with_reducible apply isi_tup_tup); assumption) | ((with_reducible apply isi_dict_dict); assumption) | ((with_reducible apply r_lenD); assumption) | ((with_reducible apply r_lenT); assumption) | ((with_reducible apply r_lenL); assumption) | ((with_reducible refine r_all (SqL.of ?_) ?_); assumption) | ((with_reducible apply r_fld); assumption; exact Cn.cls (by assumption) _; exact Cn.noat (by assumption) _ _; first | rfl | assumption) | ((with_reducible apply ite_t); rfl) | ((with_reducible apply ite_f); rfl))))
section
variable {P : Program} {w : World} {K : PySem.W.Frag} {mg : Str → Option Value} {base : Heap}
theorem F_law (C4 : Cn4 P K mg) : ∃ fd, FunD K "law" "law" (defArgs (top 74)) (defBody (top 74)) (defScope (top 74)) [] [] (ga K "law") fd ∧ FnOk P w K mg base (L2.CX P w) 16 (ga K "law") fd ["_law_script"] (spLaw K) := by
  have C3 := C4.toCn3
  have C2 := C3.toCn2
  have C := C2.toCn
  obtain ⟨fd, F⟩ := C.d_law
  have sc : FnScope ["_law_script", "_law_pool_here", "_law_first", "_law_shop", "_law_states", "_law_entries", "_law_k", "_law_name", "_law_entry_here", "_law_again", "_law_made_here", "_law_kept", "_law_asked", "_law_due_here", "_law_told", "_law_bare", "_law_works", "_law_turn", "_law_thing"] ["_law_script"] (defScope (top 74)) := ⟨rfl, rfl, rfl, by decide +kernel, rfl, by decide +kernel, by decide +kernel⟩
  have F__law_pool := F__law_pool (w := w) (base := base) C
  have F__law_draw := F__law_draw (w := w) (base := base) C
  have F__law_given := F__law_given (w := w) (base := base) C
  have F__law_add_rope := F__law_add_rope (w := w) (base := base) C
  have F__law_built := F__law_built (w := w) (base := base) C
  have F__law_entry := F__law_entry (w := w) (base := base) C
  have F__law_due := F__law_due (w := w) (base := base) C
  have F__law_made_entry := F__law_made_entry (w := w) (base := base) C
  have F__law_after := F__law_after (w := w) (base := base) C
  have F__law_short := F__law_short (w := w) (base := base) C
  have F__law_applied := F__law_applied (w := w) (base := base) C
  have F__law_spoil := F__law_spoil (w := w) (base := base) C
  have F__law_rehearsed := F__law_rehearsed (w := w) (base := base) C2
  have F__law_refused := F__law_refused (w := w) (base := base) C2
  have F_rehearse := F_rehearse (w := w) (base := base) C2
  have F_Workshop___init__ := F_Workshop___init__ (w := w) (base := base) C
  have F_Workshop_copy := F_Workshop_copy (w := w) (base := base) C
  have F_Workshop_work := F_Workshop_work (w := w) (base := base) C
  have F_Workshop___len__ := F_Workshop___len__ (w := w) (base := base) C
  have F_Workshop___eq__ := F_Workshop___eq__ (w := w) (base := base) C4
  have F_Work___eq__ := F_Work___eq__ (w := w) (base := base) C
  have F_entries := F_entries (w := w) (base := base) C
  refine ⟨fd, F, F.ok sc ?len fun cdv A outer s H vs Q E hr h => ?body⟩
  case len => exact fun vs H Q E h => by obtain ⟨_, _, rfl, _⟩ := h; rfl
  case body =>
    obtain ⟨a, ns, rfl, hsc, q⟩ := h
    refine ⟨_, PSs.nox (by exact (pss_cons (ps_set (i := 1) sc.nd rfl (Or.inl rfl) (pe_callR F__law_pool (hr.mono (by decide)) (by rfl) (C.g "_law_pool") (C.keep "_law_pool") passL (pa_cons (pv 0) (pa_cons pe_int pa_nil)))) (pss_cons (ps_set (i := 2) sc.nd rfl (Or.inl rfl) (pe_disp (pps_cons pe_str (pe_callR F__law_given (hr.mono (by decide)) (by rfl) (C.g "_law_given") (C.keep "_law_given") passL (pa_cons (pv 1) (pa_cons pe_int (pa_cons pe_int pa_nil)))) (pps_cons pe_str (pe_callR F__law_given (hr.mono (by decide)) (by rfl) (C.g "_law_given") (C.keep "_law_given") passL (pa_cons (pv 1) (pa_cons pe_int (pa_cons pe_int pa_nil)))) pps_nil)) rfl rfl (by simp) (by decide))) (pss_cons (ps_if (pt_cmpR op_eq (pe_callR F__law_draw (hr.mono (by decide)) (by rfl) (C.g "_law_draw") (C.keep "_law_draw") passL (pa_cons (pv 1) (pa_cons pe_int pa_nil))) pe_int (nomark _)) (pss_cons (ps_for PassesOwn.never rfl (pi_str pe_str) (pg_name (i := 7) sc.nd rfl (Or.inl rfl)) (pss_one (ps_expr (pe_callR F__law_add_rope (hr.mono (by decide)) (by rfl) (C.g "_law_add_rope") (C.keep "_law_add_rope") passL (pa_cons (pe_dget (hu_of hr) (pv 2) pe_str (fun _ _ => rfl)) (pa_cons (pv 7) (pa_cons (pe_tup (pa_cons pe_str (pa_cons pe_str (pa_cons pe_str pa_nil)))) pa_nil))))))) (pss_one (ps_expr (pe_dpop1 (pe_ix (ix_list : IxR _ (rIxL K)) (pe_dget (hu_of hr) (pv 2) pe_str (fun _ _ => rfl)) pe_int (fun _ _ => rfl)) (pe_ix (ix_list : IxR _ (rIxL K)) (pe_lst (pa_cons pe_str (pa_cons pe_str (pa_cons pe_str pa_nil)))) (pe_callR F__law_draw (hr.mono (by decide)) (by rfl) (C.g "_law_draw") (C.keep "_law_draw") passL (pa_cons (pv 1) (pa_cons pe_int pa_nil))) (fun _ _ => rfl)) ⟨rfl, rfl, rfl, rfl⟩)))) pss_nil) (pss_cons (ps_set (i := 3) sc.nd rfl (Or.inl rfl) (StX.pe_makeR (C.mkr "Workshop") F_Workshop___init__ (hr.mono (by decide)) (by rfl) (C.g "Workshop") passL (pa_cons (pe_disp (pps_cons pe_str (pe_callR F__law_built (hr.mono (by decide)) (by rfl) (C.g "_law_built") (C.keep "_law_built") passL (pa_cons (pe_dget (hu_of hr) (pv 2) pe_str (fun _ _ => rfl)) pa_nil)) (pps_cons pe_str (pe_callR F__law_built (hr.mono (by decide)) (by rfl) (C.g "_law_built") (C.keep "_law_built") passL (pa_cons (pe_dget (hu_of hr) (pv 2) pe_str (fun _ _ => rfl)) pa_nil)) pps_nil)) rfl rfl (by simp) (by decide)) pa_nil))) (pss_cons (ps_asg (pe_tup (pa_cons (pv 2) (pa_cons (pe_lst pa_nil) pa_nil))) (pg_tup rfl (pgs_cons (pg_name (i := 4) sc.nd rfl (Or.inr rfl)) (pgs_cons (pg_name (i := 5) sc.nd rfl (Or.inl rfl)) pgs_nil)) : PG _ _ (gTup K 2 _))) (pss_cons (ps_for PassesOwn.never rfl (pi_range2 (by rfl) (C.free "range") (pa_cons pe_int (pa_cons (pe_callB (call_max2 rfl) (by rfl) C4.fmax b_max (pa_cons pe_int (pa_cons (pe_callB (call_min2 rfl) (by rfl) (C.free "min") b_min (pa_cons (pe_callB (call_lenSq : CallR _ _ (rLenSq K)) (by rfl) (C.free "len") b_len (pa_cons (pv 0) pa_nil)) (pa_cons pe_int pa_nil))) pa_nil))) pa_nil))) (pg_name (i := 6) sc.nd rfl (Or.inl rfl)) (pss_cons (ps_set (i := 8) sc.nd rfl (Or.inl rfl) (pe_callR F__law_entry (hr.mono (by decide)) (by rfl) (C.g "_law_entry") (C.keep "_law_entry") passL (pa_cons (pe_callR F__law_pool (hr.mono (by decide)) (by rfl) (C.g "_law_pool") (C.keep "_law_pool") passL (pa_cons (pv 0) (pa_cons (pv 6) pa_nil))) (pa_cons (pv 4) pa_nil)))) (pss_cons (ps_if (PW.pt (pw_and (pt_cmpR op_ne (pe_ix (ix_tup : IxR _ (rIxT K)) (pv 8) pe_int (fun _ _ => rfl)) pe_str (nomark _)) (pw_and1 (pt_cmpR op_isN (pe_callR F__law_due (hr.mono (by decide)) (by rfl) (C.g "_law_due") (C.keep "_law_due") passL (pa_cons (pv 4) (pa_cons (pv 8) pa_nil))) pe_non (nomark _))))) (pss_cons (ps_expr (pe_callR F__law_applied (hr.mono (by decide)) (by rfl) (C.g "_law_applied") (C.keep "_law_applied") passL (pa_cons (pv 3) (pa_cons (pv 8) pa_nil)))) (pss_one (ps_asg (pe_tup (pa_cons (pe_callR F__law_made_entry (hr.mono (by decide)) (by rfl) (C.g "_law_made_entry") (C.keep "_law_made_entry") passL (pa_cons (pv 4) (pa_cons (pv 8) pa_nil))) (pa_cons (pe_op op_cat (pv 5) (pe_lst (pa_cons (pv 8) pa_nil))) pa_nil))) (pg_tup rfl (pgs_cons (pg_name (i := 4) sc.nd rfl (Or.inr rfl)) (pgs_cons (pg_name (i := 5) sc.nd rfl (Or.inl rfl)) pgs_nil)) : PG _ _ (gTup K 2 _))))) pss_nil) (pss_cons (ps_set (i := 9) sc.nd rfl (Or.inr rfl) (pe_callR F__law_pool (hr.mono (by decide)) (by rfl) (C.g "_law_pool") (C.keep "_law_pool") passL (pa_cons (pv 0) (pa_cons (pe_op op_add (pv 6) pe_int) pa_nil)))) (pss_cons (ps_setLc (i := 10) (own := [("_law_turn", 17)]) rfl sc.nd rfl rfl (sw_true rfl rfl rfl (by decide +kernel)) (pi_range1 (by rfl) (C.free "range") (pa_cons (pe_callR F__law_draw (hr.mono (by decide)) (by rfl) (C.g "_law_draw") (C.keep "_law_draw") passL (pa_cons (pv 9) (pa_cons pe_int pa_nil))) pa_nil)) (blkOk_by (N := ["_law_script", "_law_pool_here", "_law_first", "_law_shop", "_law_states", "_law_entries", "_law_k", "_law_name", "_law_entry_here", "_law_again", "_law_made_here", "_law_kept", "_law_asked", "_law_due_here", "_law_told", "_law_bare", "_law_works", "_law_turn", "_law_thing"]) (sc := defScope (top 74)) (by decide +kernel)) (fun _ _ _ _ _ => (pg_name (i := 17) sc.nd rfl (Or.inl rfl))) (fun _ _ _ _ _ => pts_nil) (fun _ _ _ _ _ => (pe_callR F__law_short (hr.mono (by decide)) (by rfl) (C.g "_law_short") (C.keep "_law_short") passL (pa_cons (pe_callR F__law_entry (hr.mono (by decide)) (by rfl) (C.g "_law_entry") (C.keep "_law_entry") passL (pa_cons (pv 9) (pa_cons (pv 4) pa_nil))) pa_nil)))) (pss_cons (ps_par (i := 11) (j := 12) (by rfl) sc.nd rfl rfl (by decide) rfl rfl (pa_cons (pe_methR0 (pv 3) (C.cls "Workshop") (C.meth "Workshop" "copy") F_Workshop_copy (hr.mono (by decide)) passL) (pa_cons (pe_callTy (call_listOf : CallR _ _ (rListOf K)) (by rfl) (C.free "list") b_list (pa_cons (pv 10) pa_nil)) pa_nil)) (by rfl)) (pss_cons (ps_set (i := 13) sc.nd rfl (Or.inl rfl) (pe_callR F__law_after (hr.mono (by decide)) (by rfl) (C.g "_law_after") (C.keep "_law_after") passL (pa_cons (pv 2) (pa_cons (pv 5) (pa_cons (pv 4) (pa_cons (pv 10) pa_nil)))))) (pss_cons (ps_par (i := 14) (j := 15) (by rfl) sc.nd rfl rfl (by decide) rfl rfl (pa_cons (pe_callR F__law_rehearsed (hr.mono (by decide)) (by rfl) (C.g "_law_rehearsed") (C.keep "_law_rehearsed") passL (pa_cons (pv 3) (pa_cons (pv 10) pa_nil))) (pa_cons (pe_callR F_rehearse (hr.mono (by decide)) (by rfl) (C.g "rehearse") (C.keep "rehearse") passL (pa_cons (pv 3) pa_nil)) pa_nil)) (by rfl)) (pss_cons (ps_if (PW.pt (pw_or (pt_cmpR (op_orR (op_neD hr.units) (op_lock (op_lock (op_neT mon_ans ((eqG_flat.mono (by decide)).or (eqG_dict mon_work (eqG_insR F_Work___eq__ hspW C3.wEq.at_ C3.wEq.fn passL))) (hr.mono (by decide))))) : OpR _ _ (rNeA K)) (pv 14) (pv 13) (nomark _)) (pw_or (pt_cmpR (op_neD hr.units : OpR _ _ (rNeD K)) (pv 10) (pv 12) (nomark _)) (pw_or1 (pt_cmpR (op_orR (op_neD hr.units) (op_lock (op_lock (op_neT mon_ans ((eqG_flat.mono (by decide)).or (eqG_dict mon_work (eqG_insR F_Work___eq__ hspW C3.wEq.at_ C3.wEq.fn passL))) (hr.mono (by decide))))) : OpR _ _ (rNeA K)) (pe_tup (pa_cons pe_str (pa_cons (pv 15) pa_nil))) (pe_callR F__law_after (hr.mono (by decide)) (by rfl) (C.g "_law_after") (C.keep "_law_after") passL (pa_cons (pv 2) (pa_cons (pv 5) (pa_cons (pv 4) (pa_cons (pe_lst pa_nil) pa_nil))))) (nomark _)))))) (pss_one (ps_ret pe_bl)) pss_nil) (pss_cons (ps_for PassesOwn.never rfl (pi_list (pe_op op_cat (pe_lst (pa_cons (pv 15) pa_nil)) (pe_op op_rep (pe_lst (pa_cons (pe_ix (ix_tup : IxR _ (rIxT K)) (pv 14) pe_int (fun _ _ => rfl)) pa_nil)) (pe_callTy call_int1 (by rfl) (C.free "int") b_int (pa_cons (pe_cmpR op_eq (pe_ix (ix_tup : IxR _ (rIxT K)) (pv 14) pe_int (fun _ _ => rfl)) pe_str (nomark _)) pa_nil))))) (pg_name (i := 16) sc.nd rfl (Or.inl rfl)) (pss_one (ps_expr (pe_callR F__law_spoil (hr.mono (by decide)) (by rfl) (C.g "_law_spoil") (C.keep "_law_spoil") passL (pa_cons (pv 16) pa_nil))))) (pss_cons (ps_if (pt_cmpR (op_orR (op_neD hr.units) (op_lock (op_lock (op_neT mon_ans ((eqG_flat.mono (by decide)).or (eqG_dict mon_work (eqG_insR F_Work___eq__ hspW C3.wEq.at_ C3.wEq.fn passL))) (hr.mono (by decide))))) : OpR _ _ (rNeA K)) (pe_tup (pa_cons pe_str (pa_cons (pe_callR F_rehearse (hr.mono (by decide)) (by rfl) (C.g "rehearse") (C.keep "rehearse") passL (pa_cons (pv 3) pa_nil)) pa_nil))) (pe_callR F__law_after (hr.mono (by decide)) (by rfl) (C.g "_law_after") (C.keep "_law_after") passL (pa_cons (pv 2) (pa_cons (pv 5) (pa_cons (pv 4) (pa_cons (pe_lst pa_nil) pa_nil))))) (nomark _)) (pss_one (ps_ret pe_bl)) pss_nil) (pss_cons (ps_if (PW.pt (pw_or (pt_cmpR (op_neI F_Workshop___eq__ (hr.mono (by decide)) C3.sNe C3.sEq.fn passL : OpR _ _ (rNeI (ga K "Workshop") (spShEq K) E0)) (pv 3) (pv 11) (nomark _)) (pw_or (pt_cmpR (op_neD hr.units : OpR _ _ (rNeD K)) (pe_propR (pv 3) (C.cls "Workshop") C.p_entries F_entries (hr.mono (by decide)) passL) (pv 5) (nomark _)) (pw_or1 (pt_cmpR op_ne (pe_callB (call_lenI (C := ga K "Workshop") F_Workshop___len__ (hr.mono (by decide)) C4.sLen.at_ C4.sLen.fn passL : CallR _ _ (rLenI (ga K "Workshop") (spLenS K) E0)) (by rfl) (C.free "len") b_len (pa_cons (pv 3) pa_nil)) (pe_callB (call_lenSq : CallR _ _ (rLenSq K)) (by rfl) (C.free "len") b_len (pa_cons (pv 5) pa_nil)) (nomark _)))))) (pss_one (ps_ret pe_bl)) pss_nil) (pss_one (ps_for PassesOwn.never rfl (pi_tup (pe_tup (pa_cons pe_str (pa_cons pe_str pa_nil)))) (pg_name (i := 7) sc.nd rfl (Or.inl rfl)) (pss_one (ps_if (pt_cmpR (op_neI F_Work___eq__ (hr.mono (by decide)) C3.wNe C3.wEq.fn passL : OpR _ _ (rNeI (ga K "Work") (spWEq K) E0)) (pe_methR (pv 3) (C.cls "Workshop") (C.meth "Workshop" "work") F_Workshop_work (hr.mono (by decide)) passL (pa_cons (pv 7) pa_nil)) (pe_callR F__law_built (hr.mono (by decide)) (by rfl) (C.g "_law_built") (C.keep "_law_built") passL (pa_cons (pe_dget (hu_of hr) (pv 4) (pv 7) (fun _ _ => rfl)) pa_nil)) (nomark _)) (pss_one (ps_ret pe_bl)) pss_nil)))))))))))))))) (pss_one (ps_ret (pe_cmpR (op_eqD hr.units : OpR _ _ (rEqD K)) (pe_lc (own := [("_law_thing", 18)]) rfl sc.nd (pi_tup (pe_tup (pa_cons pe_non (pa_cons pe_int (pa_cons pe_str pa_nil))))) (blkOk_by (N := ["_law_script", "_law_pool_here", "_law_first", "_law_shop", "_law_states", "_law_entries", "_law_k", "_law_name", "_law_entry_here", "_law_again", "_law_made_here", "_law_kept", "_law_asked", "_law_due_here", "_law_told", "_law_bare", "_law_works", "_law_turn", "_law_thing"]) (sc := defScope (top 74)) (by decide +kernel)) (fun _ _ _ _ _ => (pg_name (i := 18) sc.nd rfl (Or.inl rfl))) (fun _ _ _ _ _ => pts_nil) (fun _ _ _ _ _ => (pe_callR F__law_refused (hr.mono (by decide)) (by rfl) (C.g "_law_refused") (C.keep "_law_refused") passL (pa_cons (pv 18) pa_nil)))) (pe_lst (pa_cons (pe_tup (pa_cons pe_str (pa_cons pe_non pa_nil))) (pa_cons (pe_tup (pa_cons pe_str (pa_cons pe_int pa_nil))) (pa_cons (pe_tup (pa_cons pe_str (pa_cons pe_str pa_nil))) pa_nil)))) (nomark _))))))))))), ?_⟩
    walk_at "w"
    refine ⟨a, ns, 0, rfl, hsc, by decide, fun p H1 fp s1 hp1 => ?_⟩
    have hap : Ap K a ns p := ap_none hsc fp
    walk_at "w"
    refine w_disp fun d0 fd0 => ?_
    generalize hH2 : upd H1 d0 (.dK []) = H2
    have s2 : Same H1 H2 := hH2 ▸ same_upd_fresh fd0 (Same.refl _)
    have e2 : H2 d0 = some (.dK []) := by rw [← hH2]; exact upd_same
    walk_at "w+w_pair+w_pair0"
    refine ⟨p, 2, 9, rfl, hp1.same s2, by decide, by decide, by decide, fun a1 g1 H3 fa1 t3 hp3 hg1 hn1 G1 hap1 hk1 => ?_⟩
    obtain ⟨k1, hk1⟩ := hk1
    walk_at "w+w_pair+w_pair0"
    refine ⟨p, 2, 3, rfl, hp3, by decide, by decide, by decide, fun a2 g2 H4 fa2 t4 hp4 hg2 hn2 G2 hap2 hk2 => ?_⟩
    walk_at "w+w_pair+w_pair0"
    have hd0p : d0 ≠ p := hp1.ne fd0
    have e4 : H4 d0 = some (.dK []) := t4 _ _ hd0p (t3 _ _ hd0p e2)
    refine ⟨e4, [(.inr "one", .ref a1), (.inr "two", .ref a2)], rfl, by simp, ?_⟩
    have em : mergeK [] (wkv (.ref a1) (.ref a2)) = wkv (.ref a1) (.ref a2) := mergeK_new _ _ wkv_nodup
    have em' : mergeK [] [((.inr "one" : Key), V.ref a1), (.inr "two", .ref a2)] = wkv (.ref a1) (.ref a2) := em
    rw [em']
    obtain ⟨l1, r1, h1, ea1, hl0, hr0, hh0, nlr, nhr⟩ := id hn1
    obtain ⟨l1', r1', h1', ea1', dl1, dr1, dh1⟩ := id hg1
    rw [ea1] at ea1'
    cases ea1'
    have hne0 : ∀ {x : Addr}, H2 x = none → x ≠ d0 := fun hx => Ne.symm (ne_of_none e2 hx)
    obtain ⟨kr1, hkr1, _⟩ := id dr1
    have S5 : SInv K a p d0 a1 a2 l1 r1 h1 ns g1 g2 (upd H4 d0 (.dK (wkv (.ref a1) (.ref a2)))) := by
      have hd5 : ∀ {x : Addr}, x ≠ d0 → ∀ {o : HO}, H4 x = some o → upd H4 d0 (.dK (wkv (.ref a1) (.ref a2))) x = some o := fun hx o h => by rw [upd_ne hx]; exact h
      have tk : TK H4 (upd H4 d0 (.dK (wkv (.ref a1) (.ref a2)))) := tk_updK (.inl e4)
      have hdK : ∀ {α : Type} {f : α → PyData} {x : Addr} {es : List (Str × α)}, (∀ d, TD (f d)) → x ≠ d0 → DictE K H4 f x es → DictE K (upd H4 d0 (.dK (wkv (.ref a1) (.ref a2)))) f x es := fun hn hx ⟨kx, h1, h2⟩ => ⟨kx, hd5 hx h1, h2.tk tk hn⟩
      have had0 : Ap K a ns d0 := ap_none (sqL_same s1 hsc) fd0
      have ha14 : H4 a1 = some (.lst [.ref l1, .ref r1, .ref h1]) := t4 _ _ (hp3.neR ea1) ea1
      have apA : ∀ {c d : Addr}, ApD H4 d c → ApD (upd H4 d0 (.dK (wkv (.ref a1) (.ref a2)))) d c := fun ⟨l, r, hh, e, n⟩ => ⟨l, r, hh, hd5 (fun z => by rw [z, e4] at e; cases e) e, n⟩
      have ap2 : ApD H4 d0 a2 := hn2.ap (t3 _ _ hd0p e2)
      obtain ⟨pa, pb, hpp⟩ := id hp4
      exact ⟨sc_sx had0 sx_upd (sc_sx hap t4 (sc_sx hap t3 (sqL_same s2 (sqL_same s1 hsc)))), ⟨pa, pb, hd5 (Ne.symm hd0p) hpp⟩, upd_same, hd5 (fun z => by rw [z, e4] at ha14; cases ha14) ha14, hdK td_fr (hne0 hl0) (dl1.pool td_fr hp3 t4), hdK td_fr (hne0 hh0) (dh1.pool td_fr hp3 t4), ⟨kr1, hd5 (hne0 hr0) (t4 _ _ (hp3.neK hkr1) hkr1)⟩,
        hg2.lock e4 ap2, nlr, nhr, Ne.symm (hne0 hr0), apA (hn2.ap hkr1), apA (ApD.pool hp3 t4 (hn1.ap e2)), apA ap2⟩
    have D5 : DictE K (upd H4 d0 (.dK (wkv (.ref a1) (.ref a2)))) ropeD r1 g1.ropes := by
      obtain ⟨kx, hx1, hx2⟩ := dr1.pool td_rope hp3 t4
      exact ⟨kx, by rw [upd_ne (hne0 hr0)]; exact hx1, hx2.tk (tk_updK (.inl e4)) td_rope⟩
    generalize upd H4 d0 (.dK (wkv (.ref a1) (.ref a2))) = H5 at S5 D5 ⊢
    clear em em' e4 t4 t3 hn1 hn2 hg1 hg2 dl1 dr1 dh1 ea1 s2 e2 hH2 hp1 hp3 hp4 fa1 fa2 fd0 hl0 hr0 hh0 hne0 hkr1 nlr nhr hsc s1 fp hk2 hap2
    walk_at "w-w_ifs"
    refine w_ifSK (fun σ' H' => ∃ x7 rs', σ' = [some (.ref a), some (.ref p), some (.ref d0), none, none, none, none, x7, none, none, none, none, none, none, none, none, none, none, none] ∧ SInv K a p d0 a1 a2 l1 r1 h1 ns g1 g2 H' ∧ DictE K H' ropeD r1 rs' ∧ GOk ⟨g1.loads, rs', g1.fixed⟩) (fun σ' H6 hj => ?_) (fun key => ?_)
    rotate_left
    · walk_at "w"
      refine ⟨p, 2, rfl, S5.po, by decide, by decide, fun n6 H6 hn6 t6 hp6 => ?_⟩
      have S6 := S5.pool t6 hp6 hap
      have D6 := D5.pool td_rope S5.po t6
      walk_at "w"
      refine ite2 (fun hc => ?_) (fun hc => ?_)
      · clear hc
        walk_at "w"
        refine for_it walk_str (fun i σ' H' => ∃ x7 rs', σ' = [some (.ref a), some (.ref p), some (.ref d0), none, none, none, none, x7, none, none, none, none, none, none, none, none, none, none, none] ∧ SInv K a p d0 a1 a2 l1 r1 h1 ns g1 g2 H' ∧ DictE K H' ropeD r1 rs' ∧ rs'.map (·.1) = (addN.take i).foldl addK (ropeN k1) ∧ ∀ e ∈ rs', e ∈ g1.ropes ∨ e.2 = ([("a" : Str), "up", "P"], (1, 3)))
          ⟨none, g1.ropes, rfl, S6, D6, hk1, fun e he => .inl he⟩ (fun _ _ _ _ _ => True.intro) (fun i y σ' H7' H7 hi pv yy => ?_) (fun σ' H7 pv => ?_)
        · obtain ⟨rfl, c, hc, rfl⟩ := yy
          obtain ⟨x7, rs', rfl, S7, D7, hk7, hm7⟩ := pv
          have hn : addN[i]? = some ⟨#[c]⟩ := by rw [← pqy_sg]; exact signs_at hc
          walk_at "w"
          refine r_dgetS (.inl S7.d) val_one ?_
          walk_at "w"
          refine ⟨by show 3 ≤ sizeLine; decide, fun p8 f8 => ?_⟩
          have s8 : Same H7 (upd H7 p8 (.tup [V.str "a", V.str "up", V.str "P"])) := same_upd_fresh f8 (Same.refl _)
          have e8 : upd H7 p8 (.tup [V.str "a", V.str "up", V.str "P"]) p8 = some (.tup [V.str "a", V.str "up", V.str "P"]) := upd_same
          generalize upd H7 p8 (.tup [V.str "a", V.str "up", V.str "P"]) = H8 at s8 e8 ⊢
          have S8 := S7.same s8
          have hl7 := addK_len (addN.take i) (ropeN k1)
          have hl8 : (addN.take i).length ≤ 10 := by rw [List.length_take]; exact Nat.min_le_right _ _
          have hl9 := ropeN_len k1
          rw [← hk7, List.length_map] at hl7
          walk_at "w"
          refine ⟨a1, l1, r1, h1, ⟨#[c]⟩, .ref p8, [("a" : Str), "up", "P"], rs', rfl, S8.e1, D7.same s8 np_rope, dp_path (p := ["a", "up", "P"]) (SqT.of e8), by omega, by rw [hk7]; exact addK_nodup _ _ (rope_nd k1), fun H9 t9 d9 => ?_⟩
          have d9 : DictE K H9 ropeD r1 (addR rs' ⟨#[c]⟩) := d9
          have hk9 : ∃ kr, H9 r1 = some (.dK kr) := let ⟨kx, hx, _⟩ := d9; ⟨kx, hx⟩
          walk_at "w"
          refine ⟨_, _, rfl, S8.sxr t9 hk9, d9, ?_, fun e he => ?_⟩
          · rw [addR_keys, hk7, List.take_add_one, hn, Option.toList_some, List.foldl_append]
            rfl
          · rcases addR_mem he with he | he
            · exact hm7 e he
            · exact .inr he
        · obtain ⟨x7, rs', rfl, S7, D7, hk7, hm7⟩ := pv
          have hsz : ("pqrstuvwxy" : Str).cps.size = 10 := by decide +kernel
          rw [hsz, show addN.take 10 = addN from rfl] at hk7
          walk_at "w"
          refine w_dpop1 ?_
          walk_at "w"
          refine r_dgetS (.inl S7.d) val_one ?_
          walk_at "w"
          refine r_ixL (SqL.of S7.e1) (v := .ref r1) rfl ?_
          walk_at "w"
          obtain ⟨kr7, hkr7, dkr7⟩ := id D7
          refine ⟨.inl ⟨kr7, .inl hkr7⟩, ?_⟩
          walk_at "w"
          refine ⟨by show 3 ≤ sizeLine; decide, fun b8 f8 => ?_⟩
          walk_at "w"
          refine pick_at S7.po f8 rfl (by decide) (by decide) fun x9 H9 hx9 t9 hp9 kd9 => ?_
          obtain ⟨z, rfl, hz⟩ : ∃ z, x9 = .str z ∧ z ∈ ([("p" : Str), "q", "y"]) := by
            have hx9 : x9 ∈ ([("p" : Str), "q", "y"]).map V.str := hx9
            obtain ⟨z, hz, rfl⟩ := List.mem_map.mp hx9
            exact ⟨z, rfl, hz⟩
          have S9 := S7.pool t9 hp9 hap
          have D9 := D7.pool td_rope S7.po t9
          obtain ⟨kr9, hkr9, dkr9⟩ := id D9
          have hin : hasA rs' z = true := by
            rw [hasA_iff, hk7]
            exact (add_keys k1 z hz).1
          obtain ⟨rp, hrp⟩ := getA_some hin
          have hrv := dkr9.val z
          rw [hrp] at hrv
          obtain ⟨rv, hrv, _⟩ := hrv
          refine ⟨kr9, .inr z, rv, hkr9, rfl, hrv, ?_⟩
          have t10 : SX r1 H9 (upd H9 r1 (.dK (dropK kr9 (.inr z)))) := sx_upd
          have kd : TK H9 (upd H9 r1 (.dK (dropK kr9 (.inr z)))) := tk_updK (.inl hkr9)
          walk_at "w"
          exact key _ _ ⟨_, dropA rs' z, rfl, S9.sxr t10 ⟨_, upd_same⟩, ⟨_, upd_same, (dkr9.tk kd td_rope).drop⟩, added_ok G1 hap1.1 hap1.2 hk7 hm7 hz⟩
      · exact w_next (key _ _ ⟨none, g1.ropes, rfl, S6, D6, G1⟩)
    obtain ⟨x7, rs', rfl, S6, D6, G6⟩ := hj
    clear S5 D5
    have L6 := S6.law D6
    have W6 : WOk ⟨⟨g1.loads, rs', g1.fixed⟩, g2⟩ := ⟨G6, G2⟩
    have hsc6 := S6.sc
    clear S6 D6 hk1 hap1 G1
    generalize hw0 : (⟨⟨g1.loads, rs', g1.fixed⟩, g2⟩ : W2) = w0 at L6 W6
    clear hw0 G6 G2
    obtain ⟨d0', b1, b2, ed0, hd0, hb1, hb2, hq1, hq2⟩ := id L6
    injection ed0 with ed0
    subst ed0
    walk_at "w"
    refine w_disp fun d1 fd1 => ?_
    generalize hH7 : upd H6 d1 (.dK []) = H7
    have s7 : Same H6 H7 := hH7 ▸ same_upd_fresh fd1 (Same.refl _)
    have e7 : H7 d1 = some (.dK []) := by rw [← hH7]; exact upd_same
    walk_at "w+w_pair+w_pair0"
    refine r_dgetS (.inl (s7 _ _ hd0)) val_two ?_
    walk_at "w"
    refine ⟨b2, w0.two.l3, w0.two, rfl, hb2.same s7, W6.two, relG _, fun y2 H8 f8 s8 k2 nw2 => ?_⟩
    walk_at "w+w_pair+w_pair0"
    refine r_dgetS (.inl (s8 _ _ (s7 _ _ hd0))) val_one ?_
    walk_at "w"
    refine ⟨b1, w0.one.l3, w0.one, rfl, hb1.same (s7.trans s8), W6.one, relG _, fun y1 H9 f9 s9 k1 nw1 => ?_⟩
    walk_at "w+w_pair+w_pair0"
    have s79 := s8.trans s9
    refine ⟨s79 _ _ e7, [(.inr "two", .ref y2), (.inr "one", .ref y1)], rfl, by simp, ?_⟩
    have em : mergeK [] [((.inr "two" : Key), V.ref y2), (.inr "one", .ref y1)] = [((.inr "two" : Key), V.ref y2), (.inr "one", .ref y1)] := mergeK_new _ _ (by
      show [(Sum.inr ("two" : Str) : Key), Sum.inr "one"].Nodup
      decide)
    rw [em]
    have e9 := s79 _ _ e7
    have s69 : Same H6 (upd H9 d1 (.dK [((.inr "two" : Key), V.ref y2), (.inr "one", .ref y1)])) := same_upd_fresh fd1 (s7.trans s79)
    have wk1 : WorkAt K (upd H9 d1 (.dK [((.inr "two" : Key), V.ref y2), (.inr "one", .ref y1)])) (.ref y1) w0.one := k1.updK e9 nw1 (s8 _ _ e7)
    have wk2 : WorkAt K (upd H9 d1 (.dK [((.inr "two" : Key), V.ref y2), (.inr "one", .ref y1)])) (.ref y2) w0.two := (k2.same s9).updK e9 (nw2.same s9) e7
    have e10 : upd H9 d1 (.dK [((.inr "two" : Key), V.ref y2), (.inr "one", .ref y1)]) d1 = some (.dK [((.inr "two" : Key), V.ref y2), (.inr "one", .ref y1)]) := upd_same
    generalize upd H9 d1 (.dK [((.inr "two" : Key), V.ref y2), (.inr "one", .ref y1)]) = H10 at s69 wk1 wk2 e10 ⊢
    clear k1 k2 nw1 nw2 e9 s79 s8 s9 e7 hH7 s7 f8 f9 hb1 hb2 hq1 hq2 fd1 em
    walk_at "w"
    intro sh dsh hsh0 hdsh hshne
    have u1 : Same H10 (upd (upd H10 dsh (.own sh)) sh (.ins (ga K "Workshop") dsh [])) := u_make (K := K) hsh0 hdsh hshne
    refine ⟨sh, dsh, d1, _, .ref y1, .ref y2, w0, rfl, upd_same, u1 _ _ e10, List.Perm.swap _ _ _, wk1.same u1, wk2.same u1, fun H11 d' oe' fd' t11 hr11 hd11 hoe11 => ⟨rfl, ?_⟩⟩
    have s11 : Same H10 H11 := sx_make hsh0 hdsh hshne t11
    have L11 := L6.same (s69.trans s11)
    have sc11 := sqL_same s11 (sqL_same s69 hsc6)
    have wa11 : WorksAt K H11 (.ref d') w0 := ⟨d', _, _, rfl, hd11, wk1.same s11, wk2.same s11⟩
    have sa11 : ShopAt K H11 sh ⟨w0, w0, [], (dsh, .ref d')⟩ := ⟨dsh, .ref d', .ref d', oe', [], hr11, wa11, wa11, hoe11, .nil, rfl⟩
    clear u1 wk1 wk2 e10 s11 s69 t11 hr11 hd11 hoe11 wa11 hsc6 hd0 fd' hsh0 hdsh L6
    walk_at "w"
    refine ⟨by show 0 ≤ sizeLine; decide, fun pe fe => ?_⟩
    have s12 : Same H11 (upd H11 pe (.lst [])) := same_upd_fresh fe (Same.refl _)
    have I12 : LInv K a sh ns (.ref d0) (.ref d0) pe ⟨w0, w0, [], (dsh, .ref d')⟩ [] 0 (upd H11 pe (.lst [])) := ⟨sqL_same s12 sc11, L11.same s12, W6, L11.same s12, W6, upd_same, .nil, fun e he => absurd he (by simp), Nat.le_refl _, sa11.same s12⟩
    generalize upd H11 pe (.lst []) = H12 at I12 ⊢
    clear s12 sc11 L11 sa11 fe
    walk_at "w"
    refine ⟨by show 2 ≤ sizeLine; decide, fun pt ft => ?_⟩
    have I13 := I12.same (same_upd_fresh (o := .tup [V.ref d0, V.ref pe]) ft (Same.refl _))
    refine w_gtup (SqT.of upd_same) rfl ?_
    generalize upd H12 pt (.tup [V.ref d0, V.ref pe]) = H13 at I13 ⊢
    clear I12 ft W6
    have hS13 := I13.sc
    walk_at "w"
    refine ⟨_, _, rfl, ?_⟩
    walk_at "w"
    refine ⟨_, _, rfl, ?_⟩
    have hj : ∀ l : Int, 0 ≤ l → 3 ≤ (if (if (9 : Int) < l then 9 else l) > 3 then (if (9 : Int) < l then 9 else l) else 3) ∧ (if (if (9 : Int) < l then 9 else l) > 3 then (if (9 : Int) < l then 9 else l) else 3) ≤ 9 := fun l _ => by
      split <;> split <;> omega
    have hj := hj ((ns.map V.int).length : Nat) (by omega)
    generalize (if (if (9 : Int) < ((ns.map V.int).length : Nat) then 9 else (((ns.map V.int).length : Nat) : Int)) > 3 then (if (9 : Int) < ((ns.map V.int).length : Nat) then 9 else (((ns.map V.int).length : Nat) : Int)) else 3) = j at hj ⊢
    clear hS13
    walk_at "w"
    refine ⟨1, j, rfl, ⟨by decide, by decide, by omega, by omega⟩, ?_⟩
    refine for_it walk_range (fun i σ' H' => ∃ v b st evs x6 x7 x8 x9 x10 x11 x12 x13 x14 x15 x16, σ' = [some (.ref a), some (.ref p), some (.ref d0), some (.ref sh), some v, some (.ref b), x6, x7, x8, x9, x10, x11, x12, x13, x14, x15, x16, none, none] ∧ LInv K a sh ns (.ref d0) v b st evs i H')
      ⟨.ref d0, pe, _, _, _, _, _, _, _, _, _, _, _, _, _, rfl, I13⟩ (fun _ _ _ _ _ => True.intro) (fun i y σ' H0' H0 hi pv yy => ?_) (fun σ' H0 pv => ?_)
    · obtain ⟨rfl, rfl⟩ := yy
      obtain ⟨v, b, st, evs, x6, x7, x8, x9, x10, x11, x12, x13, x14, x15, x16, rfl, I0⟩ := pv
      have hi8 : i < 8 := by omega
      clear I13 hi hj
      dsimp only
      rw [show (1 : Int) + ((i : Nat) : Int) = ((1 + i : Nat) : Int) by omega]
      walk_at "w"
      refine ⟨a, ns, 1 + i, rfl, I0.sc, by omega, fun p1 H1 f1 s1 hp1 => ?_⟩
      have I1 := I0.same s1
      walk_at "w"
      refine ⟨p1, v, st.works, rfl, hp1, I1.wv, I1.W, fun y e H2 t2 hp2 dy he => ?_⟩
      have s02 : Same H0 H2 := fun b o hb => t2 b o (ne_of_none hb f1) (s1 b o hb)
      have I2 := I0.same s02
      clear I0 I1 s1 t2 hp1 hp2 f1 s02
      walk_at "w-w_ifs"
      refine w_ifSK (fun σ' H' => ∃ v b st evs, σ' = [some (.ref a), some (.ref p), some (.ref d0), some (.ref sh), some v, some (.ref b), some (.int ((1 + i : Nat) : Int)), x7, some y, x9, x10, x11, x12, x13, x14, x15, x16, none, none] ∧ LInv K a sh ns (.ref d0) v b st evs (i + 1) H') (fun σ' H3 hj => ?_) (fun key => ?_)
      rotate_left
      · cases e with
        | undo u n =>
          obtain ⟨ya, rfl, hS⟩ : ∃ a, y = .ref a ∧ SqT K H2 a [.str u, .str n, .str "undo"] := by
            cases dy with
            | tup hx ha => cases ha with
              | cons h1 ha => cases h1; cases ha with
                | cons h2 ha => cases h2; cases ha with
                  | cons h3 ha => cases h3; cases ha; exact ⟨_, rfl, hx⟩
          walk_at "w-w_next"
          exact w_next (key _ _ ⟨v, b, st, evs, rfl, I2.more (Nat.le_succ _)⟩)
        | en e =>
          have dy : Dp K H2 y (enD e) := dy
          have he : enL e := he
          obtain ⟨ya, z0, z1, tg, rest, rfl, hS, htg⟩ : ∃ a z0 z1 tg rest, y = .ref a ∧ SqT K H2 a (.str z0 :: .str z1 :: .str tg :: rest) ∧ tg ≠ "undo" := by
            cases e with
            | load u n z f => obtain ⟨a, _, e, h, _⟩ := dp_load_inv dy; exact ⟨a, _, _, _, _, e, h, by decide +kernel⟩
            | rope u n z p f => obtain ⟨a, _, _, e, h, _⟩ := dp_rope_inv' dy; exact ⟨a, _, _, _, _, e, h, by decide +kernel⟩
            | drop u n z => obtain ⟨a, e, h⟩ := dp_drop_inv dy; exact ⟨a, _, _, _, _, e, h, by decide +kernel⟩
          walk_at "w"
          refine r_ixT hS (atI_nat (j := 2) rfl) ?_
          walk_at "w"
          rw [decide_eq_false htg]
          refine iteT ?_
          walk_at "w"
          refine ⟨v, .ref ya, st.works, e, rfl, I2.wv, I2.W, dy, he, fun x3 H3 s3 hx3 => ?_⟩
          have I3 := I2.same s3
          cases hd : resW st.works e with
          | error er =>
            rw [hd] at hx3
            have hx3 : Dp K H3 x3 (erD er) := hx3
            obtain ⟨xa, rfl⟩ : ∃ a, x3 = .ref a := by
              cases er <;> (cases hx3; exact ⟨_, rfl⟩)
            walk_at "w-w_next"
            exact w_next (key _ _ ⟨v, b, st, evs, rfl, I3.more (Nat.le_succ _)⟩)
          | ok w' =>
            rw [hd] at hx3
            obtain rfl : x3 = V.non := hx3
            obtain ⟨hVe, hdo⟩ := resW_ok he hd
            have dy3 := dp_kd (same_kd s3) (np_en e) dy
            walk_at "w"
            obtain ⟨dx, fw, ow, oe, evs', hs, hrest⟩ := id I3.sh
            refine ⟨sh, .ref ya, st, { st with works := w', es := st.es ++ [e] }, e, rfl, I3.sh, I3.ok (by omega), dy3, enL_ok he, by rw [doS_res, hd], fun H4 t4 sh4 => ?_⟩
            have kd4 : Kd H3 H4 := sx_kd t4 (by rw [hs]; exact True.intro)
            have dy4 := dp_kd kd4 (np_en e) dy3
            have w4 := I3.wv.sxI hs t4
            walk_at "w"
            refine ⟨v, .ref ya, st.works, w', e, rfl, w4, I3.W, dy4, enV_n hVe, hdo, fun r5 H5 f5 s5 w5 => ?_⟩
            walk_at "w"
            refine ⟨by show 1 ≤ sizeLine; decide, fun p6 f6 => ?_⟩
            generalize hH6 : upd H5 p6 (.lst [V.ref ya]) = H6
            have s6 : Same H5 H6 := hH6 ▸ same_upd_fresh f6 (Same.refl _)
            have e6 : H6 p6 = some (.lst [V.ref ya]) := by rw [← hH6]; exact upd_same
            have eb4 : H4 b = some (.lst evs) := t4 _ _ (ne_of I3.eb hs (fun z => nomatch z)) I3.eb
            have s46 := s5.trans s6
            have hln := I3.len
            refine r_cat (s46 _ _ eb4) e6 (by rw [dpAll_len I3.ed, List.length_map]; show st.es.length + 1 ≤ 100000; omega) fun p7 f7 => ?_
            generalize hH7 : upd H6 p7 (.lst (evs ++ [V.ref ya])) = H7
            have s7 : Same H6 H7 := hH7 ▸ same_upd_fresh f7 (Same.refl _)
            have e7 : H7 p7 = some (.lst (evs ++ [V.ref ya])) := by rw [← hH7]; exact upd_same
            walk_at "w"
            refine ⟨by show 2 ≤ sizeLine; decide, fun p8 f8 => ?_⟩
            have s8 := same_upd_fresh (o := .tup [V.ref r5, V.ref p7]) f8 (Same.refl H7)
            have s48 := s46.trans (s7.trans s8)
            refine w_gtup (SqT.of upd_same) rfl ?_
            walk_at "w-w_gnil"
            refine w_gnil (key _ _ ⟨.ref r5, p7, { st with works := w', es := st.es ++ [e] }, evs ++ [V.ref ya], rfl, ?_⟩)
            refine ⟨sqL_same s48 (sc_sx (ap_of I3.sc hs (fun _ z => nomatch z) (fun _ _ z => nomatch z)) t4 I3.sc), (I3.w0.sxI hs t4).same s48, I3.W0, w5.same (s6.trans (s7.trans s8)), doW_ok I3.W hdo, s8 _ _ e7, ?_, ?_, ?_, sh4.same s48⟩
            · show DpAll K _ _ ((st.es ++ [e]).map enD)
              rw [List.map_append]
              exact dpAll_app (dpAll_kd (kd4.trans (same_kd s48)) (npL_en _) I3.ed) (.cons (dp_kd (same_kd s48) (np_en _) dy4) .nil)
            · intro e' he'
              rcases List.mem_append.mp he' with he' | he'
              · exact I3.eV _ he'
              · rw [List.mem_singleton.mp he']; exact hVe
            · show (st.es ++ [e]).length ≤ i + 1
              rw [List.length_append]
              show st.es.length + 1 ≤ i + 1
              omega
      obtain ⟨v', b', st', evs', rfl, I3⟩ := hj
      clear dy he I2
      have hi9 : i + 1 ≤ 400 := by omega
      generalize hN : i + 1 = N at I3 hi9
      walk_at "w"
      refine ⟨a, ns, 1 + i + 20, by rw [Int.natCast_add]; rfl, I3.sc, by omega, fun p2 H4 f4 s4 hp4 => ?_⟩
      have I4 := I3.same s4
      walk_at "w"
      refine ⟨p2, 5, rfl, hp4, by decide, by decide, fun n5 H5 hn5 t5 hp5 => ?_⟩
      walk_at "w"
      refine ⟨by omega, by omega, fun D6 f6 => ?_⟩
      rw [show ((n5 : Nat) : Int).toNat = n5 by omega]
      have f64 : H4 D6 = none := free_sx t5 hp5 f6
      have hD6p : D6 ≠ p2 := hp5.ne f6
      refine lc_it walk_range (fun i' H' => SX p2 H4 H' ∧ PoolAt H' p2 ∧ ∃ xs rs, H' D6 = some (.lst xs) ∧ DpAll K H' xs (rs.map rqD) ∧ (∀ r ∈ rs, rqL r) ∧ rs.length = i') ⟨fun bb o hb h => same_upd_fresh f6 (Same.refl _) _ _ (t5 _ _ hb h), hp5.same (same_upd_fresh f6 (Same.refl _)), [], [], upd_same, .nil, fun r hr => absurd hr (by simp), rfl⟩ (fun _ _ _ _ => True.intro) (fun i' y' H7' H7 hi' pv yy => ?_) (fun H7 pv => ?_)
      · obtain ⟨rfl, rfl⟩ := yy
        obtain ⟨t7, hp7, xs, rs, hD7, dxs, hLs, hls⟩ := pv
        walk_at "w"
        refine ⟨rfl, ?_⟩
        walk_at "w"
        refine ⟨p2, v', st'.works, rfl, hp7, I4.wv.pool hp4 t7, I4.W, fun y8 e8 H8 t8 hp8 dy8 he8 => ?_⟩
        walk_at "w"
        refine ⟨y8, e8, rfl, dy8, fun x9 H9 s9 dx9 => ?_⟩
        have hD9 : H9 D6 = some (.lst xs) := s9 _ _ (t8 _ _ hD6p hD7)
        have kd79 : Kd H7 H9 := (pool_kd hp7 t8).trans (same_kd s9)
        have dxs9 := dpAll_kd kd79 (npL_rq rs) dxs
        have hL9 : rqL (rqOf e8) := rqL_of he8
        refine ⟨xs, hD9, by rw [dpAll_len dxs, List.length_map, hls]; have : (1000 : Nat) < sizeLine := by decide
                            omega, fun bb o hb h => by rw [upd_ne (ne_of_none h f64)]; exact s9 _ _ (t8 _ _ hb (t7 _ _ hb h)), (hp8.same s9).upd hD6p, xs ++ [x9], rs ++ [rqOf e8], upd_same, ?_, fun r hr => ?_, by rw [List.length_append, hls]; rfl⟩
        · rw [List.map_append]
          exact dpAll_app (rqs_lst hD9 (rqs_ref dxs9) hLs dxs9) (.cons (rq_lst hL9 hD9 (rqs_ref dxs9) dx9) .nil)
        · rcases List.mem_append.mp hr with hr | hr
          · exact hLs r hr
          · rw [List.mem_singleton.mp hr]; exact hL9
      obtain ⟨t7, hp7, xs, rs, hD7, dxs, hLs, hls⟩ := pv
      have s37 : Same H3 H7 := fun bb o hb => t7 bb o (ne_of_none hb f4) (s4 bb o hb)
      have I7 := I3.same s37
      have hls4 : rs.length ≤ 4 := by omega
      have lxs : xs.length = rs.length := by rw [dpAll_len dxs, List.length_map]
      clear I3 I4 s4 hp4 t5 hp5 f6 t7 hp7 s37 f4 f64 hls
      -- copy and list
      obtain ⟨dx, fw, ow, oe, sevs, hs7, hrest7⟩ := id I7.sh
      walk_at "w"
      refine ⟨sh, dx, _, rfl, hs7, rfl, ?_⟩
      walk_at "w"
      refine ⟨sh, st', rfl, I7.sh, fun r8 H8 ad f8 s8 had hk8 => ?_⟩
      have I8 := I7.same s8
      walk_at "w"
      refine r_listOf (.inl (SqL.of (s8 _ _ hD7))) fun p9 f9 => ?_
      generalize hH9 : upd H8 p9 (.lst xs) = H9
      have s9 : Same H8 H9 := hH9 ▸ same_upd_fresh f9 (Same.refl _)
      have e9 : H9 p9 = some (.lst xs) := by rw [← hH9]; exact upd_same
      have I9 := I8.same s9
      have hk9 := hk8.same s9
      have s79 := s8.trans s9
      have hD9 := s79 _ _ hD7
      have dxs9 := dpAll_kd (same_kd s79) (npL_rq rs) dxs
      clear I7 I8 hk8 hD7 dxs s8 s9 hH9 f8 f9 s79 hs7 hrest7
      walk_at "w"
      refine I9.after hi9 hD9 dxs9 hLs (by omega) fun xd H10 s10 an10 => ?_
      have I10 := I9.same s10
      have hD10 := s10 _ _ hD9
      have dxs10 := dpAll_kd (same_kd s10) (npL_rq rs) dxs9
      walk_at "w"
      refine I10.told hi9 hD10 dxs10 hLs hls4 fun xt H11 s11 an11 => ?_
      have I11 := I10.same s11
      walk_at "w"
      refine I11.bare hi9 fun d12 H12 f12 s12 wk12 => ?_
      have s1012 := s11.trans s12
      have I12 := I10.same s1012
      have hWq : ∀ st4, foldQ st' rs = .ok st4 → WOk st4.works := fun st4 h => (foldQ_ok (fun r hr => rqL_ok (hLs r hr)) (I10.ok (by omega)) (by have := I10.len; omega) h).1.w
      have hEq : ∀ er, foldQ st' rs = .error er → erS er := fun er h => foldQ_erS hLs I10.eV h
      have hW0 : ∀ st4, foldQ st' [] = .ok st4 → WOk st4.works := fun st4 h => by cases h; exact I10.W
      have hE0 : ∀ er, foldQ st' [] = .error er → erS er := fun er h => by cases h
      walk_at "w"
      refine ans_ne (an11.same s12) an10 s1012 hWq hEq fun H13 s13 => ?_
      have s1013 := s1012.trans s13
      have hD13 := s1013 _ _ hD10
      have ha13 := s1013 _ _ (s10 _ _ e9)
      have dxs13 := dpAll_kd (same_kd s1013) (npL_rq rs) dxs10
      have shl : Sh 3 (.list (rs.map rqD)) := sh_lst fun d hd => by
        obtain ⟨r, hr, rfl⟩ := List.mem_map.mp hd
        exact sh_rq (hLs r hr)
      walk_at "w"
      refine r_neD (.lst (SqL.of hD13) dxs13) (.lst (SqL.of ha13) dxs13) (shl.ok (by decide)) (shl.ok (by decide)) ?_
      rw [eqv_sh shl]
      walk_at "w"
      refine ⟨by show 2 ≤ sizeLine; decide, fun p14 f14 => ?_⟩
      generalize hH14 : upd H13 p14 (.tup [V.str "works", V.ref d12]) = H14
      have s14 : Same H13 H14 := hH14 ▸ same_upd_fresh f14 (Same.refl _)
      have e14 : H14 p14 = some (.tup [V.str "works", V.ref d12]) := by rw [← hH14]; exact upd_same
      walk_at "w"
      refine ⟨by show 0 ≤ sizeLine; decide, fun p15 f15 => ?_⟩
      generalize hH15 : upd H14 p15 (.lst []) = H15
      have s15 : Same H14 H15 := hH15 ▸ same_upd_fresh f15 (Same.refl _)
      have e15 : H15 p15 = some (.lst []) := by rw [← hH15]; exact upd_same
      have s1015 := s1013.trans (s14.trans s15)
      have I15 := I10.same s1015
      walk_at "w"
      refine I15.after (rs := []) hi9 e15 .nil (fun r hr => absurd hr (by simp)) (by simp) fun x16 H16 s16 an16 => ?_
      have al15 : AnsA K H11 H15 (.ref p14) (foldQ st' []) := ⟨p14, d12, rfl, s15 _ _ e14, wk12.same (s13.trans (s14.trans s15)), f12⟩
      refine ans_ne2 al15 an16 s16 hW0 hE0 fun H17 s17 => ?_
      have s1317 := (s14.trans s15).trans (s16.trans s17)
      have s1017 := s1013.trans s1317
      obtain ⟨t17, tag, val, rfl, hS11, hval⟩ := ans_parts an11
      have s1117 := s12.trans (s13.trans s1317)
      have hS17 := sqT_same s1117 hS11
      have hd12 : ∃ w1 w2, H17 d12 = some (.dK (wkv w1 w2)) := by
        obtain ⟨d', w1, w2, e, hd, _⟩ := wk12
        injection e with e
        subst e
        exact ⟨w1, w2, s1317 _ _ (s13 _ _ hd)⟩
      have f1210 : H10 d12 = none := Same.free s11 f12
      clear al15 an16 e14 e15 hH14 hH15 hD13 ha13 dxs13 s14 s15 s16 s17 f14 f15 I15 hWq hEq
      walk_at "w"
      refine ⟨by show 1 ≤ sizeLine; decide, fun p18 f18 => ?_⟩
      generalize hH18 : upd H17 p18 (.lst [V.ref d12]) = H18
      have s18 : Same H17 H18 := hH18 ▸ same_upd_fresh f18 (Same.refl _)
      have e18 : H18 p18 = some (.lst [V.ref d12]) := by rw [← hH18]; exact upd_same
      have hS18 := sqT_same s18 hS17
      walk_at "w"
      refine ⟨by show 1 ≤ sizeLine; decide, fun p19 f19 => ?_⟩
      generalize hH19 : upd H18 p19 (.lst [val]) = H19
      have s19 : Same H18 H19 := hH19 ▸ same_upd_fresh f19 (Same.refl _)
      have e19 : H19 p19 = some (.lst [val]) := by rw [← hH19]; exact upd_same
      have hS19 := sqT_same s19 hS18
      walk_at "w"
      obtain ⟨zs, hzs, hz1, hz2, hz3⟩ : ∃ zs : List V, (List.replicate (if decide (tag = ("works" : Str)) = true then (1 : Int) else 0).toNat [val]).flatten = zs ∧ zs.length ≤ 1 ∧ (∀ x ∈ zs, ∃ d w1 w2, x = V.ref d ∧ H17 d = some (.dK (wkv w1 w2)) ∧ H10 d = none) ∧ V.ref d12 ∉ zs := by
        rcases hval with ⟨rfl, dd, w1, w2, rfl, hdd, fdd⟩ | hne
        · refine ⟨[.ref dd], by rw [if_pos (by decide)]; rfl, Nat.le_refl _, fun x hx => ?_, fun hm => ?_⟩
          · rw [List.mem_singleton.mp hx]
            exact ⟨dd, w1, w2, rfl, s1117 _ _ hdd, fdd⟩
          · have e := List.mem_singleton.mp hm
            injection e with e
            rw [← e, f12] at hdd
            cases hdd
        · exact ⟨[], by rw [if_neg (by rw [decide_eq_false hne]; decide)]; rfl, Nat.zero_le _, fun x hx => absurd hx (by simp), by simp⟩
      refine ⟨p19, _, [val], rfl, rfl, e19, by split <;> decide, by split <;> decide, by
        have : (1000 : Nat) < sizeLine := by decide
        show 1 * _ ≤ _
        split <;> simp <;> omega, fun p20 f20 => ?_⟩
      rw [hzs]
      generalize hH20 : upd H19 p20 (.lst zs) = H20
      have s20 : Same H19 H20 := hH20 ▸ same_upd_fresh f20 (Same.refl _)
      have e20 : H20 p20 = some (.lst zs) := by rw [← hH20]; exact upd_same
      refine r_cat ((s19.trans s20) _ _ e18) e20 (by show 1 + zs.length ≤ 100000; omega) fun p21 f21 => ?_
      generalize hH21 : upd H20 p21 (.lst ([V.ref d12] ++ zs)) = H21
      have s21 : Same H20 H21 := hH21 ▸ same_upd_fresh f21 (Same.refl _)
      have e21 : H21 p21 = some (.lst ([V.ref d12] ++ zs)) := by rw [← hH21]; exact upd_same
      have s1721 := (s18.trans s19).trans (s20.trans s21)
      have hall : ∀ x ∈ [V.ref d12] ++ zs, ∃ d w1 w2, x = V.ref d ∧ H21 d = some (.dK (wkv w1 w2)) ∧ H10 d = none := by
        intro x hx
        rcases List.mem_append.mp hx with hx | hx
        · obtain ⟨w1, w2, hd⟩ := hd12
          rw [List.mem_singleton.mp hx]
          exact ⟨d12, w1, w2, rfl, s1721 _ _ hd, f1210⟩
        · obtain ⟨d, w1, w2, e, hd, hf⟩ := hz2 x hx
          exact ⟨d, w1, w2, e, s1721 _ _ hd, hf⟩
      have hnd : ([V.ref d12] ++ zs).Nodup := by
        match zs, hz1, hz3 with
        | [], _, _ => simp
        | [z], _, hz3 => simpa using hz3
      have s1021 := s1017.trans s1721
      have hp21 : H10 p21 = none := Same.free (s1017.trans ((s18.trans s19).trans s20)) f21
      generalize [V.ref d12] ++ zs = ws at e21 hall hnd ⊢
      clear hzs hz1 hz2 hz3 s1721 s18 s19 s20 s21 hH18 hH19 hH20 hH21 f18 f19 f20 f21 e18 e19 e20 hS17 hS18 hS19 hS11 hd12 hval an11 wk12 s11 s12 s13 s1317 s1117 s1017 s1013 f12 f1210
      walk_at "w"
      refine ⟨⟨_, SqL.of e21⟩, ?_⟩
      refine for_it walk_list (fun i' σ' H' => Same H10 H' ∧ H' p21 = some (.lst ws) ∧ (∃ x16, σ' = [some (.ref a), some (.ref p), some (.ref d0), some (.ref sh), some v', some (.ref b'), some (.int ((1 + i : Nat) : Int)), x7, some y, some (.ref p2), some (.ref D6), some (.ref r8), some (.ref p9), some xd, some (.ref t17), some (.ref d12), x16, none, none]) ∧ ∀ j, i' ≤ j → ∀ x, ws[j]? = some x → ∃ d w1 w2, x = V.ref d ∧ H' d = some (.dK (wkv w1 w2)))
        ⟨s1021, e21, ⟨_, rfl⟩, fun j _ x hx => let ⟨d, w1, w2, e, hd, _⟩ := hall x (List.mem_of_getElem? hx); ⟨d, w1, w2, e, hd⟩⟩ (fun i' σ' H' _ pv => SqL.of pv.2.1) (fun i' y' σ' H22' H22 hi' pv yy => ?_) (fun σ' H22 pv => ?_)
      · obtain ⟨rfl, hy⟩ := yy
        obtain ⟨s22, e22, ⟨x16', rfl⟩, hj⟩ := pv
        obtain ⟨dd, w1, w2, rfl, hdd⟩ := hj i' (Nat.le_refl _) y' hy
        obtain ⟨dd', _, _, edd, _, fdd⟩ := hall _ (List.mem_of_getElem? hy)
        injection edd with edd
        subst edd
        walk_at "w"
        refine ⟨dd, w1, w2, rfl, hdd, fun H23 t23 => ?_⟩
        walk_at "w"
        refine ⟨fun bb o hb => t23 _ _ (ne_of_none hb fdd) (s22 _ _ hb), t23 _ _ (ne_of e22 hdd (fun z => nomatch z)) e22, ⟨_, rfl⟩, fun j hj' x hx => ?_⟩
        obtain ⟨d2, u1, u2, rfl, hd2⟩ := hj j (by omega) x hx
        refine ⟨d2, u1, u2, rfl, t23 _ _ (fun e => ?_) hd2⟩
        subst e
        have h1 := (List.getElem?_inj hi' hnd).mp (hy.trans hx.symm)
        omega
      obtain ⟨s1022, e22, ⟨x16', rfl⟩, _⟩ := pv
      have I22 := I10.same s1022
      have hk22 := hk9.same (s10.trans s1022)
      clear hall hnd e21 e22 s1021
      walk_at "w"
      refine I22.bare hi9 fun d23 H23 f23 s23 wk23 => ?_
      have I23 := I22.same s23
      walk_at "w"
      refine ⟨by show 2 ≤ sizeLine; decide, fun p24 f24 => ?_⟩
      generalize hH24 : upd H23 p24 (.tup [V.str "works", V.ref d23]) = H24
      have s24 : Same H23 H24 := hH24 ▸ same_upd_fresh f24 (Same.refl _)
      have e24 : H24 p24 = some (.tup [V.str "works", V.ref d23]) := by rw [← hH24]; exact upd_same
      walk_at "w"
      refine ⟨by show 0 ≤ sizeLine; decide, fun p25 f25 => ?_⟩
      generalize hH25 : upd H24 p25 (.lst []) = H25
      have s25 : Same H24 H25 := hH25 ▸ same_upd_fresh f25 (Same.refl _)
      have e25 : H25 p25 = some (.lst []) := by rw [← hH25]; exact upd_same
      have I25 := I23.same (s24.trans s25)
      walk_at "w"
      refine I25.after (rs := []) hi9 e25 .nil (fun r hr => absurd hr (by simp)) (by simp) fun x26 H26 s26 an26 => ?_
      have al25 : AnsA K H22 H25 (.ref p24) (foldQ st' []) := ⟨p24, d23, rfl, s25 _ _ e24, wk23.same (s24.trans s25), f23⟩
      refine ans_ne2 al25 an26 s26 hW0 hE0 fun H27 s27 => ?_
      have s2227 := s23.trans ((s24.trans s25).trans (s26.trans s27))
      have I27 := I22.same s2227
      have hk27 := hk22.same s2227
      clear al25 an26 s23 s24 s25 s26 s27 e24 e25 hH24 hH25 f23 f24 f25 I23 I25 I22 wk23
      obtain ⟨dx27, fw27, ow27, oe27, ev27, hs27, hfw27, how27, hoe27, hev27, had27⟩ := id I27.sh
      obtain ⟨dy27, fv27, ov27, oy27, ey27, hr27, _⟩ := id hk27
      walk_at "w"
      refine ⟨sh, r8, dx27, dy27, _, _, rfl, rfl, hs27, hr27, ⟨sh, r8, st', _, rfl, I27.sh, hk27, rfl, rfl, I27.W0, fun e he => ⟨2, by decide, sh_en (I27.eV e he).1⟩, Ne.symm had, fun H28 s28 => ⟨true, rfl, ?_⟩⟩⟩
      have I28 := I27.same s28
      have hs28 := s28 _ _ hs27
      have hoe28 := s28 _ _ hoe27
      walk_at "w"
      refine ⟨sh, dx27, _, rfl, hs28, ⟨sh, dx27, fw27, ow27, oe27, ev27, rfl, hs28, hoe28, fun p29 H29 f29 s29 e29 => ?_⟩⟩
      have I29 := I28.same s29
      have shl2 : Sh 3 (.list (st'.es.map enD)) := sh_lst fun d hd => by
        obtain ⟨e, he, rfl⟩ := List.mem_map.mp hd
        exact sh_en (I27.eV e he).1
      have dev29 := dpAll_kd (same_kd (s28.trans s29)) (npL_en _) hev27
      have lev : ev27.length = evs'.length := by rw [dpAll_len hev27, dpAll_len I27.ed]
      have hln := I27.len
      have lev2 : ev27.length = st'.es.length := by rw [dpAll_len hev27, List.length_map]
      walk_at "w"
      refine r_neD (.lst (SqL.of e29) dev29) (.lst (SqL.of I29.eb) I29.ed) (shl2.ok (by decide)) (shl2.ok (by decide)) ?_
      rw [eqv_sh shl2]
      have hs29 := s29 _ _ hs28
      have hSb := SqL.of (K := K) I29.eb
      walk_at "w"
      refine ⟨sh, dx27, _, rfl, hs29, ⟨sh, dx27, fw27, ow27, oe27, ev27, rfl, hs29, s29 _ _ hoe28, ⟨ev27.length, rfl, by omega, ?_⟩⟩⟩
      walk_at "w"
      rw [decide_eq_true (by rw [lev] : ((ev27.length : Nat) : Int) = ((evs'.length : Nat) : Int))]
      walk_at "w"
      refine ⟨by show 2 ≤ sizeLine; decide, fun p30 f30 => ?_⟩
      generalize hH30 : upd H29 p30 (.tup [V.str "one", V.str "two"]) = H30
      have s30 : Same H29 H30 := hH30 ▸ same_upd_fresh f30 (Same.refl _)
      have e30 : H30 p30 = some (.tup [V.str "one", V.str "two"]) := by rw [← hH30]; exact upd_same
      have I30 := I29.same s30
      have hs30 := s30 _ _ hs29
      have how30 := how27.same ((s28.trans s29).trans s30)
      obtain ⟨dw, u1, u2, rfl, hdw, hu1, hu2⟩ := id how30
      walk_at "w"
      refine ⟨⟨_, SqT.of e30⟩, ?_⟩
      refine for_it walk_tup (fun i' σ' H' => Same H30 H' ∧ ∃ x7, σ' = [some (.ref a), some (.ref p), some (.ref d0), some (.ref sh), some v', some (.ref b'), some (.int ((1 + i : Nat) : Int)), x7, some y, some (.ref p2), some (.ref D6), some (.ref r8), some (.ref p9), some xd, some (.ref t17), some (.ref d12), x16', none, none])
        ⟨Same.refl _, _, rfl⟩ (fun i' σ' H' _ pv => SqT.of (pv.1 _ _ e30)) (fun i' y' σ' H31' H31 hi' pv yy => ?_) (fun σ' H31 pv => ?_)
      · obtain ⟨rfl, hy⟩ := yy
        obtain ⟨s31, x7', rfl⟩ := pv
        have I31 := I30.same s31
        have hs31 := s31 _ _ hs30
        have hdw31 := s31 _ _ hdw
        obtain ⟨n, u, rfl, hn, hval, hu⟩ : ∃ n u, y' = .str n ∧ isN n ∧ valV (wkv u1 u2) (.inr n) = some u ∧ WorkAt K H31 u (st'.works.get n) := by
          have hi2 : i' < 2 := hi'
          match i', hi2, hy with
          | 0, _, hy => cases hy; exact ⟨"one", u1, rfl, .inl rfl, val_one, by rw [get_one]; exact hu1.same s31⟩
          | 1, _, hy => cases hy; exact ⟨"two", u2, rfl, .inr rfl, val_two, by rw [get_two]; exact hu2.same s31⟩
        obtain ⟨dv, b1', b2', rfl, hdv, hg1, hg2, _⟩ := id I31.wv
        obtain ⟨ga', hgv, hgg⟩ := LawW.val (d := dv) (a1 := b1') (a2 := b2') hn hg1 hg2
        have Gn := I31.W.get n
        walk_at "w"
        refine ⟨sh, dx27, _, rfl, hs31, rfl, ?_⟩
        walk_at "w"
        refine ⟨sh, dx27, n, fw27, .ref oe27, dw, u1, u2, u, rfl, hs31, hdw31, hval, ?_⟩
        walk_at "w"
        refine r_dgetS (.inl hdv) hgv ?_
        walk_at "w"
        refine ⟨ga', (st'.works.get n).l3, st'.works.get n, rfl, hgg, Gn, relG _, fun x32 H32 f32 s32 wk32 _ => ?_⟩
        have hu32 := hu.same s32
        obtain ⟨ua, udx, ul, uh, ur, _, _, _, rfl, hua, _⟩ := id hu32
        obtain ⟨_, xdx, xl, xh, xr, _, _, _, ex, hxa, _⟩ := id wk32
        injection ex with ex
        subst ex
        refine ⟨ua, x32, udx, xdx, _, _, rfl, rfl, hua, hxa, ⟨ua, x32, st'.works.get n, rfl, hu32.rd, wk32.rd, Gn, ⟨true, rfl, ?_⟩⟩⟩
        walk_at "w"
        exact ⟨s31.trans s32, _, rfl⟩
      obtain ⟨s31, x7', rfl⟩ := pv
      exact ⟨v', b', st', evs', _, _, _, _, _, _, _, _, _, _, _, rfl, I30.same s31⟩
    · obtain ⟨v, b, st, evs, x6, x7, x8, x9, x10, x11, x12, x13, x14, x15, x16, rfl, I0⟩ := pv
      clear I13
      walk_at "w"
      refine ⟨by show 3 ≤ sizeLine; decide, fun p1 f1 => ?_⟩
      generalize hH1 : upd H0 p1 (.tup [V.non, V.int 5, V.str "one"]) = H1'
      have e1 : H1' p1 = some (.tup [V.non, V.int 5, V.str "one"]) := by rw [← hH1]; exact upd_same
      walk_at "w"
      refine ⟨⟨_, SqT.of e1⟩, fun D2 f2 => ?_⟩
      refine lc_it walk_tup (fun i' H' => Same H1' H' ∧ ∃ xs, H' D2 = some (.lst xs) ∧ xs.length = i' ∧ DpAll K H' xs (refD.take i')) ⟨same_upd_fresh f2 (Same.refl _), [], upd_same, rfl, .nil⟩ (fun i' H' _ pv => SqT.of (pv.1 _ _ e1)) (fun i' y' H3' H3 hi' pv yy => ?_) (fun H3 pv => ?_)
      · obtain ⟨rfl, hy⟩ := yy
        obtain ⟨s3, xs, hD3, hxl, dxs⟩ := pv
        have hi3 : i' < 3 := hi'
        have hv : (y' = .non ∨ (∃ i, y' = .int i) ∨ ∃ z, y' = .str z) ∧ ∃ dd, refD[i']? = some (.tuple [.str "name", dd]) ∧ ∀ H', Dp K H' y' dd := by
          match i', hi3, hy with
          | 0, _, hy => cases hy; exact ⟨.inl rfl, _, rfl, fun _ => .non⟩
          | 1, _, hy => cases hy; exact ⟨.inr (.inl ⟨5, rfl⟩), _, rfl, fun _ => .int _⟩
          | 2, _, hy => cases hy; exact ⟨.inr (.inr ⟨"one", rfl⟩), _, rfl, fun _ => .str _⟩
        obtain ⟨hv, dd, hdd, hdp⟩ := hv
        walk_at "w"
        refine ⟨rfl, ?_⟩
        walk_at "w"
        refine ⟨y', rfl, hv, fun t4 H4 s4 e4 => ?_⟩
        have hD4 := s4 _ _ hD3
        have tk : TK H4 (upd H4 D2 (.lst (xs ++ [.ref t4]))) := tk_sx sx_upd hD4
        refine ⟨xs, hD4, by rw [hxl]; have : (1000 : Nat) < sizeLine := by decide
                            omega, same_upd_fresh f2 (s3.trans s4), xs ++ [.ref t4], upd_same, by rw [List.length_append, hxl]; rfl, ?_⟩
        rw [List.take_add_one, hdd, Option.toList_some]
        refine dpAll_app (dpAll_tk ((tk_same s4).trans tk) (fun d hd => td_refD d (List.mem_of_mem_take hd)) dxs) (.cons ?_ .nil)
        exact .tup (sqT_tk tk (SqT.of e4)) (.cons (.str _) (.cons (hdp _) .nil))
      obtain ⟨s3, xs, hD3, hxl, dxs⟩ := pv
      have dxs : DpAll K H3 xs refD := dxs
      walk_at "w"
      refine ⟨by show 2 ≤ sizeLine; decide, fun p4 f4 => ?_⟩
      generalize hH4 : upd H3 p4 (.tup [V.str "name", V.non]) = H4
      have s4 : Same H3 H4 := hH4 ▸ same_upd_fresh f4 (Same.refl _)
      have e4 : H4 p4 = some (.tup [V.str "name", V.non]) := by rw [← hH4]; exact upd_same
      walk_at "w"
      refine ⟨by show 2 ≤ sizeLine; decide, fun p5 f5 => ?_⟩
      generalize hH5 : upd H4 p5 (.tup [V.str "name", V.int 5]) = H5'
      have s5 : Same H4 H5' := hH5 ▸ same_upd_fresh f5 (Same.refl _)
      have e5 : H5' p5 = some (.tup [V.str "name", V.int 5]) := by rw [← hH5]; exact upd_same
      walk_at "w"
      refine ⟨by show 2 ≤ sizeLine; decide, fun p6 f6 => ?_⟩
      generalize hH6 : upd H5' p6 (.tup [V.str "name", V.str "one"]) = H6'
      have s6 : Same H5' H6' := hH6 ▸ same_upd_fresh f6 (Same.refl _)
      have e6 : H6' p6 = some (.tup [V.str "name", V.str "one"]) := by rw [← hH6]; exact upd_same
      walk_at "w"
      refine ⟨by show 3 ≤ sizeLine; decide, fun p7 f7 => ?_⟩
      generalize hH7 : upd H6' p7 (.lst [V.ref p4, V.ref p5, V.ref p6]) = H7'
      have s7 : Same H6' H7' := hH7 ▸ same_upd_fresh f7 (Same.refl _)
      have e7 : H7' p7 = some (.lst [V.ref p4, V.ref p5, V.ref p6]) := by rw [← hH7]; exact upd_same
      have s37 := (s4.trans s5).trans (s6.trans s7)
      have shr : SeqAt.shaped (.list refD) = true := by decide +kernel
      refine r_eqD (.lst (SqL.of (s37 _ _ hD3)) (dpAll_tk (tk_same s37) td_refD dxs)) (e := .list refD) (.lst (SqL.of e7) (.cons (.tup (SqT.of (s7 _ _ (s6 _ _ (s5 _ _ e4)))) (.cons (.str _) (.cons .non .nil))) (.cons (.tup (SqT.of (s7 _ _ (s6 _ _ e5))) (.cons (.str _) (.cons (.int _) .nil))) (.cons (.tup (SqT.of (s7 _ _ e6)) (.cons (.str _) (.cons (.str _) .nil))) .nil)))) shr shr ?_
      rw [SeqAt.eqv_refl _ (SeqAt.canLay_of_shaped shr)]
      walk_at "w"
      exact q _
end
end PW

/-! ##### HD2 -/
set_option Elab.async false
set_option linter.all false
set_option maxRecDepth 100000
set_option maxHeartbeats 0
/-! the facts of what the head leaves -/
namespace PW
open PySem PySem.Spec PyProof.Rows L2 He
/-! functions at any address -/
theorem isNone_ok {v : Value} (h : isNone v = true) : v = .none := by
  cases v <;> first | rfl | cases h
theorem getA_ok {K : PySem.W.Frag} {a : Addr} {x q : Str} {ar : Arguments} {b : List Stmt} {sc : Scope} (e : fnA K a = some (x, q, ar, .stmts b, sc, mainGlobals, [], builtinsNs)) (h : getB K a q = true) : ∃ fd, FunD K x q ar b sc [] [] a fd := by
  obtain ⟨kp, c2⟩ := ba h
  unfold fnA at e
  cases ql : K.lookup a with
  | none =>
    rw [ql] at c2
    cases c2
  | some o =>
    obtain ⟨oc, od, dt, osl⟩ := o
    rw [ql] at c2 e
    cases dt with
    | func fd =>
      obtain ⟨n1, n2, n3, n4, n5, n6, n7, n8, n9, n10, n11, n12, n13, n14, n15⟩ := fd
      have e2 : (some (n1, n2, n3, n4, n5, n6, n7, n15) : He.FnW) = some (x, q, ar, .stmts b, sc, mainGlobals, [], builtinsNs) := e
      simp only [Option.some.injEq, Prod.mk.injEq] at e2
      obtain ⟨h1, h2, h3, h4, h5, h6, h7, h8⟩ := e2
      subst h1 h2 h3 h4 h5 h6 h7 h8
      obtain ⟨k1, k2⟩ := ba (show (PySem.W.codeIn K n13 n2 && isNone n8) = true from c2)
      exact ⟨_, ⟨oc, od, n8, n9, n10, n11, n12, n13, n14, osl, rfl, ql, k1, .inl ⟨rfl, isNone_ok k2⟩, .inl rfl⟩, kp⟩
    | _ => cases c2
theorem strB_ok {fl : Str} {v : Option Value} (h : strB fl v = true) : ∃ file tf, v = some (.str file tf) ∧ (fl == file) = true := by
  unfold strB at h
  split at h
  · exact ⟨_, _, rfl, h⟩
  · cases h
theorem fileB_ok {fl : Str} {o : Option Obj} (h : fileB fl o = true) : ∃ ccl cdd vs ccs, o = some ⟨ccl, cdd, .fields vs, ccs⟩ ∧ strB fl vs[2]? = true := by
  unfold fileB at h
  split at h
  · exact ⟨_, _, _, _, rfl, h⟩
  · cases h
theorem codeB_ok {fl : Str} {K : PySem.W.Frag} {cd : Value} {q : Str} (h : codeB fl K cd q = true) : ∃ cda, cd = .ref cda ∧ PySem.W.codeIn K (.ref cda) q = true ∧ fileB fl (K.lookup cda) = true := by
  unfold codeB at h
  split at h
  · exact ⟨_, rfl, ba h⟩
  · cases h
theorem cellO_ok {o : Option Obj} {C : Addr} (h : cellO o C = true) : ∃ cl cld csl, o = some ⟨cl, cld, .cell (some (.ref C)), csl⟩ := by
  unfold cellO at h
  split at h
  · exact ⟨_, _, _, by rw [← of_decide_eq_true h]⟩
  · cases h
theorem cellB_ok {K : PySem.W.Frag} {cl : List (Str × Addr)} {C : Addr} (h : cellB K cl C = true) : ∃ cc, cl = [(("__class__" : Str), cc)] ∧ cellO (K.lookup cc) C = true := by
  unfold cellB at h
  split at h
  · obtain ⟨h1, h2⟩ := ba h
    exact ⟨_, by rw [of_decide_eq_true h1], h2⟩
  · cases h
theorem iniB_ok {fl : Str} {K : PySem.W.Frag} {f C : Addr} {q : Str} (h : iniB fl K f C q = true) : ∃ oc od fd osl, K.lookup f = some ⟨oc, od, .func fd, osl⟩ ∧ fd.defaults = .none ∧ fd.kwdefaults = .none ∧ cellB K fd.closure C = true ∧ codeB fl K fd.code q = true := by
  unfold iniB at h
  split at h
  · rename_i oc od fd osl e
    obtain ⟨k1, h⟩ := ba h
    obtain ⟨k2, h⟩ := ba h
    obtain ⟨k3, k4⟩ := ba h
    exact ⟨oc, od, fd, osl, e, isNone_ok k1, isNone_ok k2, k3, k4⟩
  · cases h
theorem ini_ok {fl : Str} {K : PySem.W.Frag} {f C : Addr} {x q : Str} {ar : Arguments} {b : List Stmt} {sc : Scope} (e : fnI K f = some (x, q, ar, .stmts b, sc, mainGlobals, builtinsNs)) (h : iniB fl K f C q = true) :
    ∃ (oc : Value) (od : Option Addr) (doc pm : Value) (an : Option Addr) (cda cc : Addr) (ct : Value) (osl : Array (Option Value)), K.lookup f = some ⟨oc, od, .func (PySem.W.ksFn x q ar b sc .none .none doc pm an (.ref cda) ct cc), osl⟩ ∧ PySem.W.codeIn K (.ref cda) q = true ∧
      (∃ ccl cdd vs ccs file tf, K.lookup cda = some ⟨ccl, cdd, .fields vs, ccs⟩ ∧ vs[2]? = some (.str file tf) ∧ (fl == file) = true) ∧ (∃ cl cld csl, K.lookup cc = some ⟨cl, cld, .cell (some (.ref C)), csl⟩) := by
  obtain ⟨oc, od, fd, osl, ql, k1, k2, k3, k4⟩ := iniB_ok h
  obtain ⟨cc, ec, k5⟩ := cellB_ok k3
  obtain ⟨cda, ed, k6, k7⟩ := codeB_ok k4
  obtain ⟨ccl, cdd, vs, ccs, qa, k8⟩ := fileB_ok k7
  obtain ⟨file, tf, qv, k9⟩ := strB_ok k8
  have hc := cellO_ok k5
  have e2 : fnI K f = some (fd.name, fd.qualname, fd.params, fd.body, fd.scope, fd.globals, fd.builtins) := by
    unfold fnI
    rw [ql]
  rw [e2] at e
  obtain ⟨n1, n2, n3, n4, n5, n6, n7, n8, n9, n10, n11, n12, n13, n14, n15⟩ := fd
  dsimp only at e k1 k2 ec ed
  simp only [Option.some.injEq, Prod.mk.injEq] at e
  obtain ⟨h1, h2, h3, h4, h5, h6, h7⟩ := e
  subst k1 k2 ec ed
  subst h1 h2 h3 h4 h5 h6 h7
  exact ⟨oc, od, n10, n11, n12, cda, cc, n14, osl, ql, k6, ⟨ccl, cdd, vs, ccs, file, tf, qa, qv, k9⟩, hc⟩
/-! the other facts -/
theorem oB_ok {a b : Option Bool} (h : oB a b = true) : a = b := of_decide_eq_true h
theorem oV_ok {a b : Option Value} (h : oV a b = true) : a = b := of_decide_eq_true h
theorem pr_ok {K : PySem.W.Frag} {x f : Str} (h : prB K (ga K x) f (ma K (ga K x) f) = true) : PropOf K (ga K x) f (ma K (ga K x) f) (pAd K (x, f)) := by
  obtain ⟨h1, h⟩ := ba h
  obtain ⟨h2, h⟩ := ba h
  obtain ⟨h3, h4⟩ := ba h
  refine ⟨eqO_ok h1, eqO_ok h2, oB_ok h3, ?_⟩
  unfold pAd
  cases e : PySem.W.recIn K (ma K (ga K x) f) "property" with
  | none => rw [e] at h4; cases h4
  | some l =>
    rw [e] at h4
    match l, h4 with
    | .ref g :: rest, _ => exact ⟨rest, rfl⟩
theorem tup_dirs {K : PySem.W.Frag} (h : tupB K "DIRECTIONS" [.str "up", .str "down"] = true) (H : Hp) : SqT K H (ga K "DIRECTIONS") [.str "up", .str "down"] := tupB_ok h H
theorem kxs_OverflowError : PySem.W.KxsFacts "OverflowError" "OverflowError.__init__" := ⟨by show builtinType _ = _; rw [builtinType_eq_fast]; kernel_rfl, by first | kernel_rfl | rfl⟩

theorem shape_InvalidNumber : ∃ (msg : Str) (j : Nat) (p1 p2 q1 q2 q3 q4 q5 q6 r1 r2 r3 r4 : Pos), defArgs (inClass (top 3) 0) = PWX.xA "value" p1 p2 ∧ defBody (inClass (top 3) 0) = PWX.xB "value" msg j q1 q2 q3 q4 q5 q6 r1 r2 r3 r4 ∧ defScope (inClass (top 3) 0) = PWX.xS "value" ∧ (q3.endLine == q5.line) = true := ⟨_, _, _, _, _, _, _, _, _, _, _, _, _, _, rfl, rfl, rfl, by rfl⟩
theorem shape_InvalidRope : ∃ (msg : Str) (j : Nat) (p1 p2 q1 q2 q3 q4 q5 q6 r1 r2 r3 r4 : Pos), defArgs (inClass (top 5) 0) = PWX.xA "name" p1 p2 ∧ defBody (inClass (top 5) 0) = PWX.xB "name" msg j q1 q2 q3 q4 q5 q6 r1 r2 r3 r4 ∧ defScope (inClass (top 5) 0) = PWX.xS "name" ∧ (q3.endLine == q5.line) = true := ⟨_, _, _, _, _, _, _, _, _, _, _, _, _, _, rfl, rfl, rfl, by rfl⟩
theorem shape_InvalidName : ∃ (msg : Str) (j : Nat) (p1 p2 q1 q2 q3 q4 q5 q6 r1 r2 r3 r4 : Pos), defArgs (inClass (top 6) 0) = PWX.xA "value" p1 p2 ∧ defBody (inClass (top 6) 0) = PWX.xB "value" msg j q1 q2 q3 q4 q5 q6 r1 r2 r3 r4 ∧ defScope (inClass (top 6) 0) = PWX.xS "value" ∧ (q3.endLine == q5.line) = true := ⟨_, _, _, _, _, _, _, _, _, _, _, _, _, _, rfl, rfl, rfl, by rfl⟩
theorem shape_LimitExceeded : ∃ (msg : Str) (j : Nat) (p1 p2 q1 q2 q3 q4 q5 q6 r1 r2 r3 r4 : Pos), defArgs (inClass (top 8) 0) = PWX.xA "count" p1 p2 ∧ defBody (inClass (top 8) 0) = PWX.xB "count" msg j q1 q2 q3 q4 q5 q6 r1 r2 r3 r4 ∧ defScope (inClass (top 8) 0) = PWX.xS "count" ∧ (q3.endLine == q5.line) = true := ⟨_, _, _, _, _, _, _, _, _, _, _, _, _, _, rfl, rfl, rfl, by rfl⟩
theorem shape_UnknownName : ∃ (msg : Str) (j : Nat) (p1 p2 q1 q2 q3 q4 q5 q6 r1 r2 r3 r4 : Pos), defArgs (inClass (top 9) 0) = PWX.xA "name" p1 p2 ∧ defBody (inClass (top 9) 0) = PWX.xB "name" msg j q1 q2 q3 q4 q5 q6 r1 r2 r3 r4 ∧ defScope (inClass (top 9) 0) = PWX.xS "name" ∧ (q3.endLine == q5.line) = true := ⟨_, _, _, _, _, _, _, _, _, _, _, _, _, _, rfl, rfl, rfl, by rfl⟩
section
variable {K : PySem.W.Frag} {h : Heap} {mg : Str → Option Value}
theorem xt_of (X : K.In h) (G : h.Ns mainGlobals mg) {x fld : Str} {B Bn newId initId : String} {bm : List Value} {q : Str} {ar : Arguments} {bd : List Stmt} {sc : Scope} (hx : mg x = some (.ref (ga K x))) (hs : mg "super" = none) (base : PWX.XBase B Bn newId initId bm) (kx : PySem.W.KxsFacts B initId)
    (pass : ∀ self : Value, refuseLoop self "__setattr__" bm = pure ()) (ho : bm.contains (.type "object") = true) (opq : PySem.W.nsIn K cStatics "thirdparty.any" = some none) (c : xtB theP.main.file K x fld B newId initId bm q = true)
    (e : fnI K (ma K (ga K x) "__init__") = some (("__init__" : Str), q, ar, .stmts bd, sc, mainGlobals, builtinsNs))
    (shape : ∃ (msg : Str) (j : Nat) (p1 p2 q1 q2 q3 q4 q5 q6 r1 r2 r3 r4 : Pos), ar = PWX.xA fld p1 p2 ∧ bd = PWX.xB fld msg j q1 q2 q3 q4 q5 q6 r1 r2 r3 r4 ∧ sc = PWX.xS fld ∧ (q3.endLine == q5.line) = true)
    (bind : ∀ (name qual msg : Str) (doc pm : Value) (an : Option Addr) (cdv ct : Value) (cc : Addr) (body : List Stmt) (p1 p2 : Pos) (u v : Value), bindArgs (PySem.W.ksFn name qual (PWX.xA fld p1 p2) body (PWX.xS fld) .none .none doc pm an cdv ct cc) ⟨[u, v], []⟩ = pure [(PySem.Str.ofString "self", u), (fld, v)])
    (fne : (fld == PySem.Str.ofString "self") = false) (fnd : (fld == ("__debug__" : Str)) = false) (fnl : (PWX.xS fld).names.lookup fld = some .local) (fnc : (PWX.xS fld).names.lookup ("__class__" : Str) = some .free) (fns : (PWX.xS fld).names.lookup ("super" : Str) = some .globalImplicit)
    (tp : (theP.main.scope.names.lookup ("super" : Str)).isSome = false) : PWX.XTxt theP K mg x (ga K x) (ma K (ga K x) "__init__") fld B Bn newId initId bm := by
  unfold xtB at c
  obtain ⟨c1, c⟩ := ba c
  obtain ⟨c2, c⟩ := ba c
  obtain ⟨c3, c⟩ := ba c
  obtain ⟨c4, c⟩ := ba c
  obtain ⟨c5, c⟩ := ba c
  obtain ⟨c6, c⟩ := ba c
  obtain ⟨c7, c⟩ := ba c
  obtain ⟨c8, c⟩ := ba c
  obtain ⟨c9, c⟩ := ba c
  obtain ⟨c10, c⟩ := ba c
  obtain ⟨c11, c⟩ := ba c
  obtain ⟨c12, c⟩ := ba c
  obtain ⟨c13, c⟩ := ba c
  obtain ⟨c14, c15⟩ := ba c
  obtain ⟨msg, j, p1, p2, q1, q2, q3, q4, q5, q6, r1, r2, r3, r4, rfl, rfl, rfl, hl⟩ := shape
  obtain ⟨oc, od, doc, pm, an, cda, cc, ct, osl, f1, f2, f3, f4⟩ := ini_ok e c15
  exact ⟨hx, base, kx, pass, ho, c1, c2, eqO_ok c3, oV_ok c4, eqO_ok c5, eqO_ok c6, eqO_ok c7, eqO_ok c8, eqO_ok c9, oB_ok c10, oB_ok c11, oV_ok c12, c13, oB_ok c14, opq, hs,
    ⟨oc, od, q, msg, doc, pm, an, cda, cc, ct, osl, j, p1, p2, q1, q2, q3, q4, q5, q6, r1, r2, r3, r4, f1, f2, hl, f3, f4⟩, bind, fne, fnd, fnl, fnc, fns, tp⟩
theorem says_fa (c : SaysY K) {f : Fa} (hf : f ∈ faY) : f.ok K = true := List.all_eq_true.mp (ba (ba (show (((faY.all fun f => f.ok K) && cDfs.all fun d => d.ok K) && exY K) = true from congrArg (fun z : AlY => z.1) c)).1).1 f hf
theorem says_ex (c : SaysY K) : exY K = true := (ba (show (((faY.all fun f => f.ok K) && cDfs.all fun d => d.ok K) && exY K) = true from congrArg (fun z : AlY => z.1) c)).2
theorem says_def (c : SaysY K) {d : DefD} (hd : d ∈ cDfs) : ∃ fd, FunD K d.name d.qual d.params d.body d.scope (d.dvs K) (d.kws K) (fAd K d.at_) fd := by
  have c2 := (ba (ba (show (((faY.all fun f => f.ok K) && cDfs.all fun d => d.ok K) && exY K) = true from congrArg (fun z : AlY => z.1) c)).1).2
  have e : cDfs.map (fun d => fnW K d.at_) = cDfs.map DefD.val := congrArg (fun z : AlY => z.2.1) c
  have e2 : fnW K d.at_ = d.val := List.map_inj_left.mp e d hd
  exact DefD.funD e2 (List.all_eq_true.mp c2 d hd)
theorem cn4_of (X : K.In h) (G : h.Ns mainGlobals mg) (c : SaysY K) : Cn4 theP K mg := by
  have fa : ∀ f ∈ cFas, f.ok K = true := fun f hf => says_fa c (List.mem_append_right _ hf)
  have gl : ∀ x ∈ cGlobs, mg x = some (.ref (ga K x)) := fun x hx => glo_ok X G (fa _ (by unfold cFas; exact List.mem_append_left _ (List.mem_map.mpr ⟨x, hx, rfl⟩)))
  have hsup : mg "super" = none := free_ok X G (fa _ (by unfold cFas; exact List.mem_append_right _ (List.mem_append_left _ (List.mem_map.mpr ⟨"super", by decide +kernel, rfl⟩))))
  have cl : ∀ x ∈ cClss, Cls K (ga K x) := fun x hx => cls_ok (fa _ (by unfold cFas; exact List.mem_append_right _ (List.mem_append_right _ (List.mem_append_right _ (List.mem_append_right _ (List.mem_append_left _ (List.mem_map.mpr ⟨x, hx, rfl⟩)))))))
  have mt : ∀ q ∈ cMths, Meth K (ga K q.1) q.2 (ma K (ga K q.1) q.2) := fun q hq => meth_ok (fa _ (by unfold cFas; exact List.mem_append_right _ (List.mem_append_right _ (List.mem_append_right _ (List.mem_append_right _ (List.mem_append_right _ (List.mem_append_right _ (List.mem_append_left _ (List.mem_map.mpr ⟨q, hq, rfl⟩)))))))))
  have at_ : ∀ (i : Nat) {b : Bool}, (exL K)[i]? = some b → b = true := fun i b hb => List.all_eq_true.mp (says_ex c) b (List.mem_of_getElem? hb)
  have e1 := at_ 0 rfl
  have e2 := at_ 1 rfl
  have e3 := at_ 2 rfl
  have e4 := at_ 3 rfl
  have e5 := at_ 4 rfl
  have e6 := at_ 5 rfl
  have e7 := at_ 6 rfl
  have e8 := at_ 7 rfl
  have e9 := at_ 8 rfl
  have e10 := at_ 9 rfl
  have e11 := at_ 10 rfl
  have e12 := at_ 11 rfl
  have e13 := at_ 12 rfl
  have e14 := at_ 13 rfl
  have x1 := at_ 14 rfl
  have x2 := at_ 15 rfl
  have x3 := at_ 16 rfl
  have x4 := at_ 17 rfl
  have x5 := at_ 18 rfl
  have e15 := at_ 19 rfl
  have e16 := at_ 20 rfl
  have e17 := at_ 21 rfl
  have e18 := at_ 22 rfl
  have gv : [fnA K (pAd K ("Workshop", "names")), fnA K (pAd K ("Workshop", "entries"))] = gvY := congrArg (fun z : AlY => z.2.2.1) c
  have iv := congrArg (fun z : AlY => z.2.2.2) c
  have g1 := congrArg (fun l => l[0]?) gv
  have g2 := congrArg (fun l => l[1]?) gv
  have i1 := congrArg (fun l => l[0]?) iv
  have i2 := congrArg (fun l => l[1]?) iv
  have i3 := congrArg (fun l => l[2]?) iv
  have i4 := congrArg (fun l => l[3]?) iv
  have i5 := congrArg (fun l => l[4]?) iv
  have xo : XOwn K mg "NothingToUndo" (ga K "NothingToUndo") := by
    unfold xoB at e15
    obtain ⟨a1, a⟩ := ba e15
    obtain ⟨a2, a⟩ := ba a
    obtain ⟨a3, a4⟩ := ba a
    exact ⟨gl _ (by decide +kernel), a1, a2, oB_ok a3, oV_ok a4⟩
  have opq := eqO_ok e14
  refine {
    loc := ⟨h, X, G⟩, fa := fa, kp := fun x hx hn => ?_, defs := fun d hd => says_def c hd, dirs := tup_dirs e2, ic := fun x hx => ?_, kn := oB_ok e6, ki := oB_ok e7, ks := oB_ok e8, bm := fun q hq => ?_, p_names := pr_ok e10, f_names := getA_ok (Option.some.inj g1) e12, p_entries := pr_ok e11, f_entries := getA_ok (Option.some.inj g2) e13,
    x_InvalidNumber := xt_of X G (gl _ (by decide +kernel)) hsup PWX.xb_ValueError PySem.W.kxs_ValueError (fun _ => rfl) (by decide +kernel) opq x1 (Option.some.inj i1) shape_InvalidNumber (fun _ _ _ _ _ _ _ _ _ _ _ _ _ _ => rfl) (by decide) (by decide) (by decide +kernel) (by decide +kernel) (by decide +kernel) (by decide +kernel),
    x_InvalidRope := xt_of X G (gl _ (by decide +kernel)) hsup PWX.xb_ValueError PySem.W.kxs_ValueError (fun _ => rfl) (by decide +kernel) opq x2 (Option.some.inj i2) shape_InvalidRope (fun _ _ _ _ _ _ _ _ _ _ _ _ _ _ => rfl) (by decide) (by decide) (by decide +kernel) (by decide +kernel) (by decide +kernel) (by decide +kernel),
    x_InvalidName := xt_of X G (gl _ (by decide +kernel)) hsup PWX.xb_ValueError PySem.W.kxs_ValueError (fun _ => rfl) (by decide +kernel) opq x3 (Option.some.inj i3) shape_InvalidName (fun _ _ _ _ _ _ _ _ _ _ _ _ _ _ => rfl) (by decide) (by decide) (by decide +kernel) (by decide +kernel) (by decide +kernel) (by decide +kernel),
    x_LimitExceeded := xt_of X G (gl _ (by decide +kernel)) hsup PWX.xb_OverflowError kxs_OverflowError (fun _ => rfl) (by decide +kernel) opq x4 (Option.some.inj i4) shape_LimitExceeded (fun _ _ _ _ _ _ _ _ _ _ _ _ _ _ => rfl) (by decide) (by decide) (by decide +kernel) (by decide +kernel) (by decide +kernel) (by decide +kernel),
    x_UnknownName := xt_of X G (gl _ (by decide +kernel)) hsup PWX.xb_KeyError PWX.kxs_KeyError (fun _ => rfl) (by decide +kernel) opq x5 (Option.some.inj i5) shape_UnknownName (fun _ _ _ _ _ _ _ _ _ _ _ _ _ _ => rfl) (by decide) (by decide) (by decide +kernel) (by decide +kernel) (by decide +kernel) (by decide +kernel),
    trE := meth_ok (says_fa c (List.mem_append_left _ (by simp))), trX := meth_ok (says_fa c (List.mem_append_left _ (by simp))), x_NothingToUndo := xo, exm := fun x hx y hy => oB_ok (List.all_eq_true.mp (List.all_eq_true.mp e16 x hx) y hy),
    wEq := meth_ok (says_fa c (List.mem_append_left _ (by simp))), sEq := meth_ok (says_fa c (List.mem_append_left _ (by simp))), wNe := e17, sNe := e18, sLen := meth_ok (says_fa c (List.mem_append_left _ (by simp))), okmax := says_fa c (List.mem_append_left _ (by simp)) }
  · have := List.all_eq_true.mp e1 x hx
    rcases Bool.or_eq_true_iff.mp this with h1 | h1
    · exact absurd (of_decide_eq_true h1) hn
    · exact h1
  · obtain ⟨a1, a⟩ := ba (List.all_eq_true.mp e3 x hx)
    obtain ⟨a2, a3⟩ := ba a
    exact ⟨cl x hx, eqO_ok a1, eqO_ok e4, oB_ok e5, oB_ok a2, oB_ok a3⟩
  · obtain ⟨a1, a⟩ := ba (List.all_eq_true.mp e9 q hq)
    obtain ⟨a2, a3⟩ := ba a
    refine ⟨mt q hq, eqO_ok a1, oB_ok a2, ?_, a3⟩
    exact (by decide +kernel : ∀ q ∈ cMths, PySem.W.copiedNames.contains q.2 = false) q hq
end
end PW

/-! ##### HD4b -/
set_option Elab.async false
set_option linter.all false
set_option maxRecDepth 100000
set_option maxHeartbeats 0
/-! the end -/
namespace PW
open PySem PySem.Spec PyProof.Rows L2 He
/-- where nothing is let out, the state behind a call does not matter -/
theorem ok_cx0 {P : Program} {w : World} {K : PySem.W.Frag} {mg : Str → Option Value} {base : Heap} {k : Nat} {f : Addr} {fd : FuncData} {ps : List Str} {sp : Sp} (F : FnOk P w K mg base (L2.CX P w) k f fd ps sp) (h : ∀ vs H Q E, sp vs H Q E → sp vs H Q E0) : FnOk P w K mg base L2.CX0 k f fd ps sp := by
  refine ⟨F.len, fun A outer s H args us vs Q E hr e0 hb hv hs => codeAny_mono (F.run A outer s H args us vs Q E0 hr e0 hb hv (h _ _ _ _ hs)) fun r s' hq => ?_⟩
  cases r with
  | ok fl => cases fl <;> exact hq
  | error e =>
    obtain ⟨_, _, _, _, _, _, _, _, _, _, _, _, hE⟩ := (show L2.CX P w outer H s E0 e s' from hq)
    exact False.elim hE
theorem facts {w : World} {K : PySem.W.Frag} {h : Heap} {mg : Str → Option Value} {f : Addr} (X : K.In h) (G : h.Ns mainGlobals mg) (hfa : mg ("law" : Str) = some (.ref f)) (c : SaysY K) :
    ∃ fd : FuncData, (∀ (s : Shared) (v : Value), BindsTo s fd ⟨[v], []⟩ [("_law_script", v)]) ∧ ∀ base : Heap, FnOk theP w K mg base L2.CX0 16 f fd ["_law_script"] (spLaw K) := by
  have C := cn4_of X G c
  have e := hfa.symm.trans (C.g "law")
  cases e
  obtain ⟨fd, F, _⟩ := F_law (w := w) (base := h) C
  have b := FunD.bindsA (ps := ["_law_script"]) F fun _ _ _ _ _ _ us hl => match us, hl with | [_], _ => rfl
  refine ⟨fd, fun s v => b s [v] rfl, fun base => ?_⟩
  obtain ⟨fd', F', G'⟩ := F_law (w := w) (base := base) C
  have efd : fd' = fd := by
    obtain ⟨oc, od, dV, kV, doc, pm, an, cdv, ct, osl, e1, lk, _⟩ := F.ex
    obtain ⟨oc', od', dV', kV', doc', pm', an', cdv', ct', osl', e1', lk', _⟩ := F'.ex
    rw [lk] at lk'
    injection lk' with lk'
    injection lk' with _ _ lk' _
    injection lk' with lk'
    exact lk'.symm
  subst efd
  exact ok_cx0 G' fun vs H Q E h => h
end PW
open PySem PySem.W PySem.Calls PyProof.Rows
theorem PySem.Challenge.cw_pulleyworks_k85_whole_rehearsals_holds : PySem.Challenge.rw_pulleyworks_k85_whole_rehearsals.Holds := by
  refine PWEnd.holds_of ?_
  refine L2.walk_ofE (l := PySem.Challenge.rw_pulleyworks_k85_whole_rehearsals) (n := 63) (k := 16) (x := "_law_script") (CX := L2.CX0) rfl (by decide) PWEnd.law_dfl ⟨rfl, by decide, by decide⟩ ?F (fun _ _ _ _ z => z)
  intro w mg fa h Y G hmg0
  obtain ⟨K, KX, c⟩ := Y
  have hmg : mg ("law" : PySem.Str) = some (.ref fa) := by
    rw [← PWEnd.law_name]
    exact hmg0
  obtain ⟨fd, hb, hF⟩ := PW.facts (w := w) KX G hmg c
  exact ⟨K, fd, PW.spLaw K, KX, hb, fun H a ns hl _ hS => ⟨a, ns, rfl, hS, fun _ => rfl⟩, fun base _ _ => hF base⟩
