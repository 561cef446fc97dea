import PyProof.Rows.All
import Wide.All
import OpenK.AllK
import Wide.FinOn
import HandS.ForMost
import KE.KStateDown
import HandS.Head0
import HandS.Head1
import HandS.Head2
import HandS.HeadEnd
import HandS.HeadHook1
import HandS.HeadHook2
import HandS.HeadHook3
import HandS.More
import HandS.WrittenGet
import HandS.TupAny
import HandS.IsInst
import HandS.Strs
import HandS.Zip
import HandS.DictTup
import PyProof.P3Eq
import HandS.TupLen
import HandS.DictComp
import HandS.Walk
import HandS.Style
import KE.GoesEnum
import PyProof.EnumMake
import PyProof.EnumFor
import PyProof.DictUpdate
import HandS.Small
import PyProof.Rows.SeqMore
import HandS.CallLocal
import HandS.RaiseMore
import PySem.Challenge.RW_putonlyif_k14_whole_once_and_true
set_option Elab.async false
set_option linter.all false
set_option maxRecDepth 100000
set_option maxHeartbeats 4000000
namespace Dn
open PySem PySem.Spec L2 PyProof.Rows
/-! ### the text by places -/
def top (i : Nat) : Stmt := PySem.Challenge.pw_putonlyif_k14_whole_once_and_true.main.body.getD i (.Pass ⟨0, 0, 0, 0⟩)
abbrev st__wall : Stmt := top 0
abbrev st_is_one_of : Stmt := top 19
abbrev st_is_there : Stmt := top 20
abbrev st_server_after : Stmt := top 21
abbrev st_copy_after : Stmt := top 22
abbrev st_matches : Stmt := top 40
abbrev st_is_left_out : Stmt := top 41
abbrev st_read_by : Stmt := top 42
abbrev st_does_hold : Stmt := top 43
abbrev st_put_by : Stmt := top 44
abbrev st_take_by : Stmt := top 45
abbrev st_is_number : Stmt := top 57
abbrev st_is_step : Stmt := top 58
abbrev st_next_behind : Stmt := top 60
abbrev st_need_others : Stmt := top 75
abbrev st_need_net : Stmt := top 76
abbrev st_first_of : Stmt := top 77
abbrev st_answer_to : Stmt := top 78
abbrev st_act_of : Stmt := top 79
abbrev st_is_done_by : Stmt := top 80
abbrev st_can_happen : Stmt := top 81
abbrev st_late_after : Stmt := top 82
abbrev st_acted : Stmt := top 83
abbrev st_ticked : Stmt := top 84
abbrev st_at_step : Stmt := top 85
abbrev st_seen_now : Stmt := top 86
abbrev st_answered : Stmt := top 87
abbrev st_sent_now : Stmt := top 88
abbrev st_unheard : Stmt := top 89
abbrev st_unsent : Stmt := top 90
abbrev st_come : Stmt := top 91
abbrev st_stepped : Stmt := top 92
abbrev st_events_in : Stmt := top 93
abbrev st_is_fault_in : Stmt := top 94
abbrev st_firsts : Stmt := top 97
abbrev st_ways : Stmt := top 98
abbrev st_row_to : Stmt := top 99
abbrev st_need_promise : Stmt := top 107
abbrev st_is_amiss : Stmt := top 108
abbrev st_is_bad : Stmt := top 109
abbrev st_alone_behind : Stmt := top 110
abbrev st_round_from : Stmt := top 111
abbrev st_back_to : Stmt := top 112
abbrev st_bad_states : Stmt := top 113
abbrev st_ways_for : Stmt := top 114
abbrev st_keeps : Stmt := top 115
abbrev st_breaking : Stmt := top 116
abbrev st__law_begun : Stmt := top 118
abbrev st__law_draw : Stmt := top 119
abbrev st__law_of : Stmt := top 120
abbrev st__law_conditions : Stmt := top 121
abbrev st__law_any_step : Stmt := top 122
abbrev st__law_any_steps : Stmt := top 123
abbrev st__law_any_others : Stmt := top 124
abbrev st__law_world_at : Stmt := top 125
abbrev st__law_edited_by : Stmt := top 126
abbrev st__law_held_in : Stmt := top 127
abbrev st__law_reply_to : Stmt := top 128
abbrev st__law_next_step : Stmt := top 129
abbrev st__law_act_of : Stmt := top 130
abbrev st__law_own_act : Stmt := top 131
abbrev st__law_is_done : Stmt := top 132
abbrev st__law_knows : Stmt := top 133
abbrev st__law_sent_in : Stmt := top 134
abbrev st__law_is_meant : Stmt := top 135
abbrev st__law_can : Stmt := top 136
abbrev st__law_answered_in : Stmt := top 137
abbrev st__law_world_behind : Stmt := top 138
abbrev st__law_server_of : Stmt := top 139
abbrev st__law_standing_of : Stmt := top 140
abbrev st__law_state_of : Stmt := top 141
abbrev st__law_next_worlds : Stmt := top 142
abbrev st__law_least : Stmt := top 143
abbrev st__law_row_right : Stmt := top 144
abbrev st__law_is_over : Stmt := top 145
abbrev st_law : Stmt := top 146
def clsBody : Stmt → List Stmt
  | .ClassDef _ _ _ b _ _ _ _ _ _ _ => b
  | _ => []
abbrev st_init : Stmt := (clsBody (top 59)).getD 0 (.Pass ⟨0, 0, 0, 0⟩)
end Dn
set_option Elab.async false
set_option linter.all false
set_option maxRecDepth 100000
set_option maxHeartbeats 4000000
namespace Dn
open PySem PySem.Spec L2 PyProof.Rows
/-! ### what is looked at behind the top: the module's names in one pass -/
abbrev GF := Addr → Option Obj
def entsG (g : GF) (a : Addr) : List DictEntry := match g a with
  | some ⟨_, _, .dict es _, _⟩ => es.toList
  | _ => []
def keyS (e : DictEntry) : Option Str := match e.key with
  | .str x _ => some x
  | _ => none
def refsE (es : List DictEntry) : List Addr := es.flatMap fun e => He.refV e.val
def codeR (g : GF) (a : Addr) : List Addr := match g a with
  | some ⟨_, _, .func fd, _⟩ => He.refV fd.code
  | some ⟨_, _, .dict es _, _⟩ => refsE es.toList
  | _ => []
def asR (g : GF) : List Addr := mainGlobals :: (refsE (entsG g mainGlobals) ++ (refsE (entsG g mainGlobals)).flatMap (codeR g))
def valOf (es : List DictEntry) (x : Str) : Addr := match es.find? (·.key.isStr x) with
  | some e => (match e.val with
    | .ref a => a
    | _ => 0)
  | none => 0
def clsNs (g : GF) (C : Addr) : Addr := match g C with
  | some ⟨_, _, .cls cd, _⟩ => cd.ns
  | _ => 0
def fnCode (g : GF) (f : Addr) : Addr := match g f with
  | some ⟨_, _, .func fd, _⟩ => (match fd.code with
    | .ref c => c
    | _ => 0)
  | _ => 0
def aC (g : GF) : Addr := valOf (entsG g mainGlobals) "Script"
def aI (g : GF) : Addr := valOf (entsG g (clsNs g (aC g))) "__init__"
def asM (g : GF) : List Addr := aC g :: clsNs g (aC g) :: aI g :: fnCode g (aI g) :: asR g
def kM (g : GF) : PySem.W.Frag := He.frG g (asM g)
/-! what a value is -/
def datF : Value → PyData
  | .str x _ => .str x
  | .int i _ => .int i
  | _ => .none
def datV (g : GF) (v : Value) : Option PyData := match v with
  | .ref a => (match g a with
    | some ⟨.type c, none, .seq its _, _⟩ => (match decide (c = "tuple") with
      | true => some (.tuple (its.toList.map datF))
      | false => none)
    | _ => none)
  | .str x _ => some (.str x)
  | .int i _ => some (.int i)
  | _ => none
inductive Sm where
  | p (d : Option PyData)
  | d (b : Bool) (l : List (Option (Str × Int) × Option PyData))
  | f (v : He.FnW) (b : Bool)
  | c
def codeG (g : GF) (cd : Value) (q : Str) : Bool := match cd with
  | .ref c => (match g c with
    | some ⟨_, _, .fields vs, _⟩ => (match vs.toList with
      | _ :: .str n _ :: _ => n == q
      | _ => false)
    | _ => false)
  | _ => false
def noneB : Value → Bool
  | .none => true
  | _ => false
def fnS (g : GF) (fd : FuncData) : Sm := .f (some (fd.name, fd.qualname, fd.params, fd.body, fd.scope, fd.globals, fd.closure, fd.builtins)) (noneB fd.defaults && codeG g fd.code fd.qualname)
def sumV (g : GF) (v : Value) : Sm := match v with
  | .ref a => (match g a with
    | some ⟨_, _, .func fd, _⟩ => fnS g fd
    | some ⟨.type c, none, .dict es _, sl⟩ => .d (decide (c = "dict") && (sl.isEmpty && !(a == sysModules))) (es.toList.map fun e => (He.keyOf e, datV g e.val))
    | some ⟨_, _, .cls _, _⟩ => .c
    | _ => .p (datV g v))
  | v => .p (datV g v)
/-! the class Script -/
def eqN : Option (Option Value) → Bool
  | some none => true
  | _ => false
def clsB (K : PySem.W.Frag) (C f : Addr) : Bool :=
  (PySem.W.plainGet K C Str.empty && (PySem.W.hasDictIn K C && (PySem.W.plainOver K C && He.eqO (PySem.W.findIn K (.ref C) "__setattr__") (some (some (.builtin "object.__setattr__")))))) &&
  (eqN (PySem.W.findIn K (.ref C) "steps") &&
  (PySem.W.makesIn K C && (He.eqO (PySem.W.findIn K (.ref C) "__init__") (some (some (.ref f))) && (PySem.W.isFn K (.ref f) && (PySem.W.keepIn K (.ref C) && PySem.W.keepIn K (.ref f))))))
abbrev AlM : Type := ((List (Option Str) × List Sm) × Sm) × Bool
def obsM (g : GF) : AlM := ((((entsG g mainGlobals).map keyS, ((entsG g mainGlobals).drop 9).map fun e => sumV g e.val), sumV g (.ref (aI g))), clsB (kM g) (aC g) (aI g))

def allKeys0 : List (Option Str) := [some ("__name__" : Str), some ("__doc__" : Str), some ("__package__" : Str), some ("__loader__" : Str), some ("__spec__" : Str), some ("__annotations__" : Str), some ("__builtins__" : Str), some ("__file__" : Str), some ("__cached__" : Str), some ("_wall" : Str), some ("PutError" : Str), some ("BadScript" : Str), some ("BadOthers" : Str), some ("BadNet" : Str), some ("BadPromise" : Str), some ("BadNumber" : Str), some ("TooGreat" : Str), some ("FRESH" : Str), some ("GONE" : Str), some ("NEVER" : Str), some ("THERE" : Str), some ("GREAT" : Str), some ("SMALL" : Str), some ("TAKE" : Str), some ("TICK" : Str), some ("SERVERS" : Str), some ("is_one_of" : Str), some ("is_there" : Str), some ("server_after" : Str), some ("copy_after" : Str), some ("PLAIN" : Str), some ("TAG" : Str), some ("LOOK" : Str), some ("STAMP" : Str), some ("IF_THERE" : Str)]
def allKeys1 : List (Option Str) := [some ("IF_NONE" : Str), some ("READ_CONDITIONS" : Str), some ("PUT_CONDITIONS" : Str), some ("TAKE_CONDITIONS" : Str), some ("GOT" : Str), some ("MINE" : Str), some ("UNCHANGED" : Str), some ("ABSENT" : Str), some ("YES" : Str), some ("NO" : Str), some ("PLACES" : Str), some ("matches" : Str), some ("is_left_out" : Str), some ("read_by" : Str), some ("does_hold" : Str), some ("put_by" : Str), some ("take_by" : Str), some ("MOST_STEPS" : Str), some ("READ" : Str), some ("PUT" : Str), some ("FORGET" : Str), some ("END" : Str), some ("OPEN" : Str), some ("LOST" : Str), some ("ENDS" : Str), some ("CONDITIONS" : Str), some ("ANSWERS" : Str), some ("is_number" : Str), some ("is_step" : Str), some ("Script" : Str), some ("next_behind" : Str), some ("SURE" : Str), some ("LATE_NET" : Str), some ("AGAIN" : Str), some ("NETS" : Str)]
def allKeys2 : List (Option Str) := [some ("ANSWERED" : Str), some ("UNHEARD" : Str), some ("UNSENT" : Str), some ("COME" : Str), some ("EVENTS" : Str), some ("WRITINGS" : Str), some ("MOST_DONE" : Str), some ("PRESENT" : Str), some ("ELDER" : Str), some ("need_others" : Str), some ("need_net" : Str), some ("first_of" : Str), some ("answer_to" : Str), some ("act_of" : Str), some ("is_done_by" : Str), some ("can_happen" : Str), some ("late_after" : Str), some ("acted" : Str), some ("ticked" : Str), some ("at_step" : Str), some ("seen_now" : Str), some ("answered" : Str), some ("sent_now" : Str), some ("unheard" : Str), some ("unsent" : Str), some ("come" : Str), some ("stepped" : Str), some ("events_in" : Str), some ("is_fault_in" : Str), some ("MOST_STATES" : Str), some ("firsts" : Str), some ("ways" : Str), some ("row_to" : Str), some ("KEPT" : Str), some ("TAKEN" : Str)]
def allKeys3 : List (Option Str) := [some ("ONCE" : Str), some ("TRUE" : Str), some ("ENDING" : Str), some ("PROMISES" : Str), some ("need_promise" : Str), some ("is_amiss" : Str), some ("is_bad" : Str), some ("alone_behind" : Str), some ("round_from" : Str), some ("back_to" : Str), some ("bad_states" : Str), some ("ways_for" : Str), some ("keeps" : Str), some ("breaking" : Str), some ("_law_begun" : Str), some ("_law_draw" : Str), some ("_law_of" : Str), some ("_law_conditions" : Str), some ("_law_any_step" : Str), some ("_law_any_steps" : Str), some ("_law_any_others" : Str), some ("_law_world_at" : Str), some ("_law_edited_by" : Str), some ("_law_held_in" : Str), some ("_law_reply_to" : Str), some ("_law_next_step" : Str), some ("_law_act_of" : Str), some ("_law_own_act" : Str), some ("_law_is_done" : Str), some ("_law_knows" : Str), some ("_law_sent_in" : Str), some ("_law_is_meant" : Str), some ("_law_can" : Str), some ("_law_answered_in" : Str), some ("_law_world_behind" : Str)]
def allKeys4 : List (Option Str) := [some ("_law_server_of" : Str), some ("_law_standing_of" : Str), some ("_law_state_of" : Str), some ("_law_next_worlds" : Str), some ("_law_least" : Str), some ("_law_row_right" : Str), some ("_law_is_over" : Str), some ("law" : Str)]
def allKeys : List (Option Str) := allKeys0 ++ (allKeys1 ++ (allKeys2 ++ (allKeys3 ++ (allKeys4))))
def sm__wall : Sm := Sm.f (some ((("_wall" : Str), ("_wall" : Str), defArgs st__wall, FuncBody.stmts (defBody st__wall), defScope st__wall, mainGlobals, [], builtinsNs))) true
def sm_is_one_of : Sm := Sm.f (some ((("is_one_of" : Str), ("is_one_of" : Str), defArgs st_is_one_of, FuncBody.stmts (defBody st_is_one_of), defScope st_is_one_of, mainGlobals, [], builtinsNs))) true
def sm_is_there : Sm := Sm.f (some ((("is_there" : Str), ("is_there" : Str), defArgs st_is_there, FuncBody.stmts (defBody st_is_there), defScope st_is_there, mainGlobals, [], builtinsNs))) true
def sm_server_after : Sm := Sm.f (some ((("server_after" : Str), ("server_after" : Str), defArgs st_server_after, FuncBody.stmts (defBody st_server_after), defScope st_server_after, mainGlobals, [], builtinsNs))) true
def sm_copy_after : Sm := Sm.f (some ((("copy_after" : Str), ("copy_after" : Str), defArgs st_copy_after, FuncBody.stmts (defBody st_copy_after), defScope st_copy_after, mainGlobals, [], builtinsNs))) true
def sm_matches : Sm := Sm.f (some ((("matches" : Str), ("matches" : Str), defArgs st_matches, FuncBody.stmts (defBody st_matches), defScope st_matches, mainGlobals, [], builtinsNs))) true
def sm_is_left_out : Sm := Sm.f (some ((("is_left_out" : Str), ("is_left_out" : Str), defArgs st_is_left_out, FuncBody.stmts (defBody st_is_left_out), defScope st_is_left_out, mainGlobals, [], builtinsNs))) true
def sm_read_by : Sm := Sm.f (some ((("read_by" : Str), ("read_by" : Str), defArgs st_read_by, FuncBody.stmts (defBody st_read_by), defScope st_read_by, mainGlobals, [], builtinsNs))) true
def sm_does_hold : Sm := Sm.f (some ((("does_hold" : Str), ("does_hold" : Str), defArgs st_does_hold, FuncBody.stmts (defBody st_does_hold), defScope st_does_hold, mainGlobals, [], builtinsNs))) true
def sm_put_by : Sm := Sm.f (some ((("put_by" : Str), ("put_by" : Str), defArgs st_put_by, FuncBody.stmts (defBody st_put_by), defScope st_put_by, mainGlobals, [], builtinsNs))) true
def sm_take_by : Sm := Sm.f (some ((("take_by" : Str), ("take_by" : Str), defArgs st_take_by, FuncBody.stmts (defBody st_take_by), defScope st_take_by, mainGlobals, [], builtinsNs))) true
def sm_is_number : Sm := Sm.f (some ((("is_number" : Str), ("is_number" : Str), defArgs st_is_number, FuncBody.stmts (defBody st_is_number), defScope st_is_number, mainGlobals, [], builtinsNs))) true
def sm_is_step : Sm := Sm.f (some ((("is_step" : Str), ("is_step" : Str), defArgs st_is_step, FuncBody.stmts (defBody st_is_step), defScope st_is_step, mainGlobals, [], builtinsNs))) true
def sm_next_behind : Sm := Sm.f (some ((("next_behind" : Str), ("next_behind" : Str), defArgs st_next_behind, FuncBody.stmts (defBody st_next_behind), defScope st_next_behind, mainGlobals, [], builtinsNs))) true
def sm_need_others : Sm := Sm.f (some ((("need_others" : Str), ("need_others" : Str), defArgs st_need_others, FuncBody.stmts (defBody st_need_others), defScope st_need_others, mainGlobals, [], builtinsNs))) true
def sm_need_net : Sm := Sm.f (some ((("need_net" : Str), ("need_net" : Str), defArgs st_need_net, FuncBody.stmts (defBody st_need_net), defScope st_need_net, mainGlobals, [], builtinsNs))) true
def sm_first_of : Sm := Sm.f (some ((("first_of" : Str), ("first_of" : Str), defArgs st_first_of, FuncBody.stmts (defBody st_first_of), defScope st_first_of, mainGlobals, [], builtinsNs))) true
def sm_answer_to : Sm := Sm.f (some ((("answer_to" : Str), ("answer_to" : Str), defArgs st_answer_to, FuncBody.stmts (defBody st_answer_to), defScope st_answer_to, mainGlobals, [], builtinsNs))) true
def sm_act_of : Sm := Sm.f (some ((("act_of" : Str), ("act_of" : Str), defArgs st_act_of, FuncBody.stmts (defBody st_act_of), defScope st_act_of, mainGlobals, [], builtinsNs))) true
def sm_is_done_by : Sm := Sm.f (some ((("is_done_by" : Str), ("is_done_by" : Str), defArgs st_is_done_by, FuncBody.stmts (defBody st_is_done_by), defScope st_is_done_by, mainGlobals, [], builtinsNs))) true
def sm_can_happen : Sm := Sm.f (some ((("can_happen" : Str), ("can_happen" : Str), defArgs st_can_happen, FuncBody.stmts (defBody st_can_happen), defScope st_can_happen, mainGlobals, [], builtinsNs))) true
def sm_late_after : Sm := Sm.f (some ((("late_after" : Str), ("late_after" : Str), defArgs st_late_after, FuncBody.stmts (defBody st_late_after), defScope st_late_after, mainGlobals, [], builtinsNs))) true
def sm_acted : Sm := Sm.f (some ((("acted" : Str), ("acted" : Str), defArgs st_acted, FuncBody.stmts (defBody st_acted), defScope st_acted, mainGlobals, [], builtinsNs))) true
def sm_ticked : Sm := Sm.f (some ((("ticked" : Str), ("ticked" : Str), defArgs st_ticked, FuncBody.stmts (defBody st_ticked), defScope st_ticked, mainGlobals, [], builtinsNs))) true
def sm_at_step : Sm := Sm.f (some ((("at_step" : Str), ("at_step" : Str), defArgs st_at_step, FuncBody.stmts (defBody st_at_step), defScope st_at_step, mainGlobals, [], builtinsNs))) true
def sm_seen_now : Sm := Sm.f (some ((("seen_now" : Str), ("seen_now" : Str), defArgs st_seen_now, FuncBody.stmts (defBody st_seen_now), defScope st_seen_now, mainGlobals, [], builtinsNs))) true
def sm_answered : Sm := Sm.f (some ((("answered" : Str), ("answered" : Str), defArgs st_answered, FuncBody.stmts (defBody st_answered), defScope st_answered, mainGlobals, [], builtinsNs))) true
def sm_sent_now : Sm := Sm.f (some ((("sent_now" : Str), ("sent_now" : Str), defArgs st_sent_now, FuncBody.stmts (defBody st_sent_now), defScope st_sent_now, mainGlobals, [], builtinsNs))) true
def sm_unheard : Sm := Sm.f (some ((("unheard" : Str), ("unheard" : Str), defArgs st_unheard, FuncBody.stmts (defBody st_unheard), defScope st_unheard, mainGlobals, [], builtinsNs))) true
def sm_unsent : Sm := Sm.f (some ((("unsent" : Str), ("unsent" : Str), defArgs st_unsent, FuncBody.stmts (defBody st_unsent), defScope st_unsent, mainGlobals, [], builtinsNs))) true
def sm_come : Sm := Sm.f (some ((("come" : Str), ("come" : Str), defArgs st_come, FuncBody.stmts (defBody st_come), defScope st_come, mainGlobals, [], builtinsNs))) true
def sm_stepped : Sm := Sm.f (some ((("stepped" : Str), ("stepped" : Str), defArgs st_stepped, FuncBody.stmts (defBody st_stepped), defScope st_stepped, mainGlobals, [], builtinsNs))) true
def sm_events_in : Sm := Sm.f (some ((("events_in" : Str), ("events_in" : Str), defArgs st_events_in, FuncBody.stmts (defBody st_events_in), defScope st_events_in, mainGlobals, [], builtinsNs))) true
def sm_is_fault_in : Sm := Sm.f (some ((("is_fault_in" : Str), ("is_fault_in" : Str), defArgs st_is_fault_in, FuncBody.stmts (defBody st_is_fault_in), defScope st_is_fault_in, mainGlobals, [], builtinsNs))) true
def sm_firsts : Sm := Sm.f (some ((("firsts" : Str), ("firsts" : Str), defArgs st_firsts, FuncBody.stmts (defBody st_firsts), defScope st_firsts, mainGlobals, [], builtinsNs))) true
def sm_ways : Sm := Sm.f (some ((("ways" : Str), ("ways" : Str), defArgs st_ways, FuncBody.stmts (defBody st_ways), defScope st_ways, mainGlobals, [], builtinsNs))) true
def sm_row_to : Sm := Sm.f (some ((("row_to" : Str), ("row_to" : Str), defArgs st_row_to, FuncBody.stmts (defBody st_row_to), defScope st_row_to, mainGlobals, [], builtinsNs))) true
def sm_need_promise : Sm := Sm.f (some ((("need_promise" : Str), ("need_promise" : Str), defArgs st_need_promise, FuncBody.stmts (defBody st_need_promise), defScope st_need_promise, mainGlobals, [], builtinsNs))) true
def sm_is_amiss : Sm := Sm.f (some ((("is_amiss" : Str), ("is_amiss" : Str), defArgs st_is_amiss, FuncBody.stmts (defBody st_is_amiss), defScope st_is_amiss, mainGlobals, [], builtinsNs))) true
def sm_is_bad : Sm := Sm.f (some ((("is_bad" : Str), ("is_bad" : Str), defArgs st_is_bad, FuncBody.stmts (defBody st_is_bad), defScope st_is_bad, mainGlobals, [], builtinsNs))) true
def sm_alone_behind : Sm := Sm.f (some ((("alone_behind" : Str), ("alone_behind" : Str), defArgs st_alone_behind, FuncBody.stmts (defBody st_alone_behind), defScope st_alone_behind, mainGlobals, [], builtinsNs))) true
def sm_round_from : Sm := Sm.f (some ((("round_from" : Str), ("round_from" : Str), defArgs st_round_from, FuncBody.stmts (defBody st_round_from), defScope st_round_from, mainGlobals, [], builtinsNs))) true
def sm_back_to : Sm := Sm.f (some ((("back_to" : Str), ("back_to" : Str), defArgs st_back_to, FuncBody.stmts (defBody st_back_to), defScope st_back_to, mainGlobals, [], builtinsNs))) true
def sm_bad_states : Sm := Sm.f (some ((("bad_states" : Str), ("bad_states" : Str), defArgs st_bad_states, FuncBody.stmts (defBody st_bad_states), defScope st_bad_states, mainGlobals, [], builtinsNs))) true
def sm_ways_for : Sm := Sm.f (some ((("ways_for" : Str), ("ways_for" : Str), defArgs st_ways_for, FuncBody.stmts (defBody st_ways_for), defScope st_ways_for, mainGlobals, [], builtinsNs))) true
def sm_keeps : Sm := Sm.f (some ((("keeps" : Str), ("keeps" : Str), defArgs st_keeps, FuncBody.stmts (defBody st_keeps), defScope st_keeps, mainGlobals, [], builtinsNs))) true
def sm_breaking : Sm := Sm.f (some ((("breaking" : Str), ("breaking" : Str), defArgs st_breaking, FuncBody.stmts (defBody st_breaking), defScope st_breaking, mainGlobals, [], builtinsNs))) true
def sm__law_begun : Sm := Sm.f (some ((("_law_begun" : Str), ("_law_begun" : Str), defArgs st__law_begun, FuncBody.stmts (defBody st__law_begun), defScope st__law_begun, mainGlobals, [], builtinsNs))) true
def sm__law_draw : Sm := Sm.f (some ((("_law_draw" : Str), ("_law_draw" : Str), defArgs st__law_draw, FuncBody.stmts (defBody st__law_draw), defScope st__law_draw, mainGlobals, [], builtinsNs))) true
def sm__law_of : Sm := Sm.f (some ((("_law_of" : Str), ("_law_of" : Str), defArgs st__law_of, FuncBody.stmts (defBody st__law_of), defScope st__law_of, mainGlobals, [], builtinsNs))) true
def sm__law_conditions : Sm := Sm.f (some ((("_law_conditions" : Str), ("_law_conditions" : Str), defArgs st__law_conditions, FuncBody.stmts (defBody st__law_conditions), defScope st__law_conditions, mainGlobals, [], builtinsNs))) true
def sm__law_any_step : Sm := Sm.f (some ((("_law_any_step" : Str), ("_law_any_step" : Str), defArgs st__law_any_step, FuncBody.stmts (defBody st__law_any_step), defScope st__law_any_step, mainGlobals, [], builtinsNs))) true
def sm__law_any_steps : Sm := Sm.f (some ((("_law_any_steps" : Str), ("_law_any_steps" : Str), defArgs st__law_any_steps, FuncBody.stmts (defBody st__law_any_steps), defScope st__law_any_steps, mainGlobals, [], builtinsNs))) true
def sm__law_any_others : Sm := Sm.f (some ((("_law_any_others" : Str), ("_law_any_others" : Str), defArgs st__law_any_others, FuncBody.stmts (defBody st__law_any_others), defScope st__law_any_others, mainGlobals, [], builtinsNs))) true
def sm__law_world_at : Sm := Sm.f (some ((("_law_world_at" : Str), ("_law_world_at" : Str), defArgs st__law_world_at, FuncBody.stmts (defBody st__law_world_at), defScope st__law_world_at, mainGlobals, [], builtinsNs))) true
def sm__law_edited_by : Sm := Sm.f (some ((("_law_edited_by" : Str), ("_law_edited_by" : Str), defArgs st__law_edited_by, FuncBody.stmts (defBody st__law_edited_by), defScope st__law_edited_by, mainGlobals, [], builtinsNs))) true
def sm__law_held_in : Sm := Sm.f (some ((("_law_held_in" : Str), ("_law_held_in" : Str), defArgs st__law_held_in, FuncBody.stmts (defBody st__law_held_in), defScope st__law_held_in, mainGlobals, [], builtinsNs))) true
def sm__law_reply_to : Sm := Sm.f (some ((("_law_reply_to" : Str), ("_law_reply_to" : Str), defArgs st__law_reply_to, FuncBody.stmts (defBody st__law_reply_to), defScope st__law_reply_to, mainGlobals, [], builtinsNs))) true
def sm__law_next_step : Sm := Sm.f (some ((("_law_next_step" : Str), ("_law_next_step" : Str), defArgs st__law_next_step, FuncBody.stmts (defBody st__law_next_step), defScope st__law_next_step, mainGlobals, [], builtinsNs))) true
def sm__law_act_of : Sm := Sm.f (some ((("_law_act_of" : Str), ("_law_act_of" : Str), defArgs st__law_act_of, FuncBody.stmts (defBody st__law_act_of), defScope st__law_act_of, mainGlobals, [], builtinsNs))) true
def sm__law_own_act : Sm := Sm.f (some ((("_law_own_act" : Str), ("_law_own_act" : Str), defArgs st__law_own_act, FuncBody.stmts (defBody st__law_own_act), defScope st__law_own_act, mainGlobals, [], builtinsNs))) true
def sm__law_is_done : Sm := Sm.f (some ((("_law_is_done" : Str), ("_law_is_done" : Str), defArgs st__law_is_done, FuncBody.stmts (defBody st__law_is_done), defScope st__law_is_done, mainGlobals, [], builtinsNs))) true
def sm__law_knows : Sm := Sm.f (some ((("_law_knows" : Str), ("_law_knows" : Str), defArgs st__law_knows, FuncBody.stmts (defBody st__law_knows), defScope st__law_knows, mainGlobals, [], builtinsNs))) true
def sm__law_sent_in : Sm := Sm.f (some ((("_law_sent_in" : Str), ("_law_sent_in" : Str), defArgs st__law_sent_in, FuncBody.stmts (defBody st__law_sent_in), defScope st__law_sent_in, mainGlobals, [], builtinsNs))) true
def sm__law_is_meant : Sm := Sm.f (some ((("_law_is_meant" : Str), ("_law_is_meant" : Str), defArgs st__law_is_meant, FuncBody.stmts (defBody st__law_is_meant), defScope st__law_is_meant, mainGlobals, [], builtinsNs))) true
def sm__law_can : Sm := Sm.f (some ((("_law_can" : Str), ("_law_can" : Str), defArgs st__law_can, FuncBody.stmts (defBody st__law_can), defScope st__law_can, mainGlobals, [], builtinsNs))) true
def sm__law_answered_in : Sm := Sm.f (some ((("_law_answered_in" : Str), ("_law_answered_in" : Str), defArgs st__law_answered_in, FuncBody.stmts (defBody st__law_answered_in), defScope st__law_answered_in, mainGlobals, [], builtinsNs))) true
def sm__law_world_behind : Sm := Sm.f (some ((("_law_world_behind" : Str), ("_law_world_behind" : Str), defArgs st__law_world_behind, FuncBody.stmts (defBody st__law_world_behind), defScope st__law_world_behind, mainGlobals, [], builtinsNs))) true
def sm__law_server_of : Sm := Sm.f (some ((("_law_server_of" : Str), ("_law_server_of" : Str), defArgs st__law_server_of, FuncBody.stmts (defBody st__law_server_of), defScope st__law_server_of, mainGlobals, [], builtinsNs))) true
def sm__law_standing_of : Sm := Sm.f (some ((("_law_standing_of" : Str), ("_law_standing_of" : Str), defArgs st__law_standing_of, FuncBody.stmts (defBody st__law_standing_of), defScope st__law_standing_of, mainGlobals, [], builtinsNs))) true
def sm__law_state_of : Sm := Sm.f (some ((("_law_state_of" : Str), ("_law_state_of" : Str), defArgs st__law_state_of, FuncBody.stmts (defBody st__law_state_of), defScope st__law_state_of, mainGlobals, [], builtinsNs))) true
def sm__law_next_worlds : Sm := Sm.f (some ((("_law_next_worlds" : Str), ("_law_next_worlds" : Str), defArgs st__law_next_worlds, FuncBody.stmts (defBody st__law_next_worlds), defScope st__law_next_worlds, mainGlobals, [], builtinsNs))) true
def sm__law_least : Sm := Sm.f (some ((("_law_least" : Str), ("_law_least" : Str), defArgs st__law_least, FuncBody.stmts (defBody st__law_least), defScope st__law_least, mainGlobals, [], builtinsNs))) true
def sm__law_row_right : Sm := Sm.f (some ((("_law_row_right" : Str), ("_law_row_right" : Str), defArgs st__law_row_right, FuncBody.stmts (defBody st__law_row_right), defScope st__law_row_right, mainGlobals, [], builtinsNs))) true
def sm__law_is_over : Sm := Sm.f (some ((("_law_is_over" : Str), ("_law_is_over" : Str), defArgs st__law_is_over, FuncBody.stmts (defBody st__law_is_over), defScope st__law_is_over, mainGlobals, [], builtinsNs))) true
def sm_law : Sm := Sm.f (some ((("law" : Str), ("law" : Str), defArgs st_law, FuncBody.stmts (defBody st_law), defScope st_law, mainGlobals, [], builtinsNs))) true
def allSm0 (P : Params) : List Sm := [sm__wall, Sm.c, Sm.c, Sm.c, Sm.c, Sm.c, Sm.c, Sm.c, Sm.p (some (PyData.str "fresh")), Sm.p (some (PyData.str "gone")), Sm.p (some (PyData.str "never")), Sm.p (some (PyData.str "there")), Sm.p (some (PyData.str "great")), Sm.p (some (PyData.str "small")), Sm.p (some (PyData.str "take")), Sm.p (some (PyData.str "tick")), Sm.p (some (PyData.tuple [(PyData.str "fresh"), (PyData.str "gone"), (PyData.str "never"), (PyData.str "there")])), sm_is_one_of, sm_is_there, sm_server_after, sm_copy_after, Sm.p (some (PyData.str "plain")), Sm.p (some (PyData.str "tag")), Sm.p (some (PyData.str "look")), Sm.p (some (PyData.str "stamp")), Sm.p (some (PyData.str "there")), Sm.p (some (PyData.str "none")), Sm.p (some (PyData.tuple [(PyData.str "look"), (PyData.str "plain"), (PyData.str "stamp"), (PyData.str "tag")])), Sm.p (some (PyData.tuple [(PyData.str "none"), (PyData.str "plain"), (PyData.str "stamp"), (PyData.str "tag"), (PyData.str "there")])), Sm.p (some (PyData.tuple [(PyData.str "plain"), (PyData.str "stamp"), (PyData.str "tag"), (PyData.str "there")])), Sm.p (some (PyData.str "got")), Sm.p (some (PyData.str "mine")), Sm.p (some (PyData.str "unchanged")), Sm.p (some (PyData.str "absent")), Sm.p (some (PyData.str "yes"))]
def allSm1 (P : Params) : List Sm := [Sm.p (some (PyData.str "no")), Sm.d true [(some (("tag" : Str), PyData.keyHash P "tag"), some (PyData.int 0)), (some (("look" : Str), PyData.keyHash P "look"), some (PyData.int 1)), (some (("stamp" : Str), PyData.keyHash P "stamp"), some (PyData.int 2))], sm_matches, sm_is_left_out, sm_read_by, sm_does_hold, sm_put_by, sm_take_by, Sm.p (some (PyData.int 8)), Sm.p (some (PyData.str "read")), Sm.p (some (PyData.str "put")), Sm.p (some (PyData.str "forget")), Sm.p (some (PyData.str "end")), Sm.p (some (PyData.str "open")), Sm.p (some (PyData.str "lost")), Sm.p (some (PyData.tuple [(PyData.str "yes"), (PyData.str "no"), (PyData.str "open")])), Sm.d true [(some (("read" : Str), PyData.keyHash P "read"), some (PyData.tuple [(PyData.str "look"), (PyData.str "plain"), (PyData.str "stamp"), (PyData.str "tag")])), (some (("put" : Str), PyData.keyHash P "put"), some (PyData.tuple [(PyData.str "none"), (PyData.str "plain"), (PyData.str "stamp"), (PyData.str "tag"), (PyData.str "there")])), (some (("take" : Str), PyData.keyHash P "take"), some (PyData.tuple [(PyData.str "plain"), (PyData.str "stamp"), (PyData.str "tag"), (PyData.str "there")]))], Sm.d true [(some (("read" : Str), PyData.keyHash P "read"), some (PyData.tuple [(PyData.str "got"), (PyData.str "mine"), (PyData.str "unchanged"), (PyData.str "absent"), (PyData.str "lost")])), (some (("put" : Str), PyData.keyHash P "put"), some (PyData.tuple [(PyData.str "yes"), (PyData.str "no"), (PyData.str "lost")])), (some (("take" : Str), PyData.keyHash P "take"), some (PyData.tuple [(PyData.str "yes"), (PyData.str "no"), (PyData.str "absent"), (PyData.str "lost")]))], sm_is_number, sm_is_step, Sm.c, sm_next_behind, Sm.p (some (PyData.str "sure")), Sm.p (some (PyData.str "late")), Sm.p (some (PyData.str "again")), Sm.p (some (PyData.tuple [(PyData.str "sure"), (PyData.str "lost"), (PyData.str "late"), (PyData.str "again")])), Sm.p (some (PyData.str "answered")), Sm.p (some (PyData.str "unheard")), Sm.p (some (PyData.str "unsent")), Sm.p (some (PyData.str "come")), Sm.p (some (PyData.tuple [(PyData.str "great"), (PyData.str "small"), (PyData.str "take"), (PyData.str "tick"), (PyData.str "answered"), (PyData.str "unheard"), (PyData.str "unsent"), (PyData.str "come")])), Sm.p (some (PyData.tuple [(PyData.str "great"), (PyData.str "small"), (PyData.str "take")])), Sm.p (some (PyData.int 2)), Sm.p (some (PyData.tuple [(PyData.int 1), (PyData.int 1), (PyData.int 1), (PyData.int 1)])), Sm.p (some (PyData.tuple [(PyData.int 1), (PyData.int 1), (PyData.int 1), (PyData.int 0)]))]
def allSm2 (P : Params) : List Sm := [sm_need_others, sm_need_net, sm_first_of, sm_answer_to, sm_act_of, sm_is_done_by, sm_can_happen, sm_late_after, sm_acted, sm_ticked, sm_at_step, sm_seen_now, sm_answered, sm_sent_now, sm_unheard, sm_unsent, sm_come, sm_stepped, sm_events_in, sm_is_fault_in, Sm.p (some (PyData.int 5000)), sm_firsts, sm_ways, sm_row_to, Sm.p (some (PyData.str "kept")), Sm.p (some (PyData.str "gone")), Sm.p (some (PyData.str "once")), Sm.p (some (PyData.str "true")), Sm.p (some (PyData.str "ends")), Sm.p (some (PyData.tuple [(PyData.str "kept"), (PyData.str "gone"), (PyData.str "once"), (PyData.str "true"), (PyData.str "ends")])), sm_need_promise, sm_is_amiss, sm_is_bad, sm_alone_behind, sm_round_from]
def allSm3 (P : Params) : List Sm := [sm_back_to, sm_bad_states, sm_ways_for, sm_keeps, sm_breaking, sm__law_begun, sm__law_draw, sm__law_of, sm__law_conditions, sm__law_any_step, sm__law_any_steps, sm__law_any_others, sm__law_world_at, sm__law_edited_by, sm__law_held_in, sm__law_reply_to, sm__law_next_step, sm__law_act_of, sm__law_own_act, sm__law_is_done, sm__law_knows, sm__law_sent_in, sm__law_is_meant, sm__law_can, sm__law_answered_in, sm__law_world_behind, sm__law_server_of, sm__law_standing_of, sm__law_state_of, sm__law_next_worlds, sm__law_least, sm__law_row_right, sm__law_is_over, sm_law]
def allSm (P : Params) : List Sm := allSm0 P ++ (allSm1 P ++ (allSm2 P ++ (allSm3 P)))
def sm_init : Sm := Sm.f (some ((("__init__" : Str), ("Script.__init__" : Str), defArgs st_init, FuncBody.stmts (defBody st_init), defScope st_init, mainGlobals, [], builtinsNs))) true
def valM (P : Params) : AlM := (((allKeys, allSm P), sm_init), true)
def hkM : PySem.W.Hook where
  α := AlM
  obs := fun s => obsM s.heap.get?
  val := fun w => valM w.params
  says := fun w h => ∃ g : GF, (kM g).In h ∧ obsM g = valM w.params
  of := fun _ _ e => ⟨_, He.frG_in, e⟩
  keeps := fun _ _ _ ⟨g, hK, c⟩ k => ⟨g, PySem.W.Frag.In.keeps hK k, c⟩
def obM (s : PySem.W.SharedT) : AlM := obsM (HandSHeadRun.getT s)
theorem obM_eq (s : PySem.W.SharedT) : obM s = hkM.obs s.abs := by
  have e : HandSHeadRun.getT s = s.abs.heap.get? := funext fun a => HandSHeadRun.getT_eq s a
  show obsM (HandSHeadRun.getT s) = obsM s.abs.heap.get?
  rw [e]
def names0 : List PySem.Str := [("_wall" : PySem.Str), ("PutError" : PySem.Str), ("BadScript" : PySem.Str), ("BadOthers" : PySem.Str), ("BadNet" : PySem.Str), ("BadPromise" : PySem.Str), ("BadNumber" : PySem.Str), ("TooGreat" : PySem.Str), ("FRESH" : PySem.Str), ("GONE" : PySem.Str), ("NEVER" : PySem.Str), ("THERE" : PySem.Str), ("GREAT" : PySem.Str), ("SMALL" : PySem.Str), ("TAKE" : PySem.Str), ("TICK" : PySem.Str), ("SERVERS" : PySem.Str), ("is_one_of" : PySem.Str), ("is_there" : PySem.Str), ("server_after" : PySem.Str), ("copy_after" : PySem.Str), ("PLAIN" : PySem.Str), ("TAG" : PySem.Str), ("LOOK" : PySem.Str), ("STAMP" : PySem.Str), ("IF_THERE" : PySem.Str), ("IF_NONE" : PySem.Str), ("READ_CONDITIONS" : PySem.Str), ("PUT_CONDITIONS" : PySem.Str), ("TAKE_CONDITIONS" : PySem.Str), ("GOT" : PySem.Str), ("MINE" : PySem.Str), ("UNCHANGED" : PySem.Str), ("ABSENT" : PySem.Str), ("YES" : PySem.Str)]
def names1 : List PySem.Str := [("NO" : PySem.Str), ("PLACES" : PySem.Str), ("matches" : PySem.Str), ("is_left_out" : PySem.Str), ("read_by" : PySem.Str), ("does_hold" : PySem.Str), ("put_by" : PySem.Str), ("take_by" : PySem.Str), ("MOST_STEPS" : PySem.Str), ("READ" : PySem.Str), ("PUT" : PySem.Str), ("FORGET" : PySem.Str), ("END" : PySem.Str), ("OPEN" : PySem.Str), ("LOST" : PySem.Str), ("ENDS" : PySem.Str), ("CONDITIONS" : PySem.Str), ("ANSWERS" : PySem.Str), ("is_number" : PySem.Str), ("is_step" : PySem.Str), ("Script" : PySem.Str), ("next_behind" : PySem.Str), ("SURE" : PySem.Str), ("LATE_NET" : PySem.Str), ("AGAIN" : PySem.Str), ("NETS" : PySem.Str), ("ANSWERED" : PySem.Str), ("UNHEARD" : PySem.Str), ("UNSENT" : PySem.Str), ("COME" : PySem.Str), ("EVENTS" : PySem.Str), ("WRITINGS" : PySem.Str), ("MOST_DONE" : PySem.Str), ("PRESENT" : PySem.Str), ("ELDER" : PySem.Str)]
def names2 : List PySem.Str := [("need_others" : PySem.Str), ("need_net" : PySem.Str), ("first_of" : PySem.Str), ("answer_to" : PySem.Str), ("act_of" : PySem.Str), ("is_done_by" : PySem.Str), ("can_happen" : PySem.Str), ("late_after" : PySem.Str), ("acted" : PySem.Str), ("ticked" : PySem.Str), ("at_step" : PySem.Str), ("seen_now" : PySem.Str), ("answered" : PySem.Str), ("sent_now" : PySem.Str), ("unheard" : PySem.Str), ("unsent" : PySem.Str), ("come" : PySem.Str), ("stepped" : PySem.Str), ("events_in" : PySem.Str), ("is_fault_in" : PySem.Str), ("MOST_STATES" : PySem.Str), ("firsts" : PySem.Str), ("ways" : PySem.Str), ("row_to" : PySem.Str), ("KEPT" : PySem.Str), ("TAKEN" : PySem.Str), ("ONCE" : PySem.Str), ("TRUE" : PySem.Str), ("ENDING" : PySem.Str), ("PROMISES" : PySem.Str), ("need_promise" : PySem.Str), ("is_amiss" : PySem.Str), ("is_bad" : PySem.Str), ("alone_behind" : PySem.Str), ("round_from" : PySem.Str)]
def names3 : List PySem.Str := [("back_to" : PySem.Str), ("bad_states" : PySem.Str), ("ways_for" : PySem.Str), ("keeps" : PySem.Str), ("breaking" : PySem.Str), ("_law_begun" : PySem.Str), ("_law_draw" : PySem.Str), ("_law_of" : PySem.Str), ("_law_conditions" : PySem.Str), ("_law_any_step" : PySem.Str), ("_law_any_steps" : PySem.Str), ("_law_any_others" : PySem.Str), ("_law_world_at" : PySem.Str), ("_law_edited_by" : PySem.Str), ("_law_held_in" : PySem.Str), ("_law_reply_to" : PySem.Str), ("_law_next_step" : PySem.Str), ("_law_act_of" : PySem.Str), ("_law_own_act" : PySem.Str), ("_law_is_done" : PySem.Str), ("_law_knows" : PySem.Str), ("_law_sent_in" : PySem.Str), ("_law_is_meant" : PySem.Str), ("_law_can" : PySem.Str), ("_law_answered_in" : PySem.Str), ("_law_world_behind" : PySem.Str), ("_law_server_of" : PySem.Str), ("_law_standing_of" : PySem.Str), ("_law_state_of" : PySem.Str), ("_law_next_worlds" : PySem.Str), ("_law_least" : PySem.Str), ("_law_row_right" : PySem.Str), ("_law_is_over" : PySem.Str)]
def names : List PySem.Str := names0 ++ (names1 ++ (names2 ++ (names3)))
abbrev R : PySem.W.OpenRow := PySem.W.OpenLaw.row PySem.Challenge.rw_putonlyif_k14_whole_once_and_true
abbrev qv : Program := PySem.W.view R.prog [146]
end Dn
set_option Elab.async false
set_option linter.all false
set_option maxRecDepth 100000
set_option maxHeartbeats 0
namespace Dn
open PySem PySem.Spec L2 PyProof.Rows
theorem run_f (w : World) : HandSHeadRun.RunEq R qv hkM obM 20000 names (w.withFollow "special-get-raises" false) := by
  intro os
  kernel_rfl
theorem run_t (w : World) : HandSHeadRun.RunEq R qv hkM obM 20000 names (w.withFollow "special-get-raises" true) := by
  intro os
  kernel_rfl
theorem run (w : World) : HandSHeadRun.RunEq R qv hkM obM 20000 names w := PySem.W.byRow2 "special-get-raises" (P := fun w => HandSHeadRun.RunEq R qv hkM obM 20000 names w) run_f run_t w
end Dn
set_option Elab.async false
set_option linter.all false
set_option maxRecDepth 100000
set_option maxHeartbeats 4000000
namespace Dn
open PySem PySem.Spec L2 PyProof.Rows

/-! ### what a value stands for -/
section
variable {K : PySem.W.Frag} {H H' : Hp}
theorem sqT_mono {a : Addr} {xs : List V} (e : Same H H') (h : SqT K H a xs) : SqT K H' a xs := by
  rcases h with (h | ⟨o, h⟩) | h
  · exact .inl (.inl (e _ _ h))
  · exact .inl (.inr ⟨o, e _ _ h⟩)
  · exact .inr h
mutual
theorem dp_mono (e : Same H H') : ∀ (d : PyData) (v : V), Dp K H v d → Dp K H' v d
  | .none, _, h => by cases h; exact .non
  | .bool b, _, h => by cases h; exact .bl b
  | .int i, _, h => by cases h; exact .int i
  | .str x, _, h => by cases h; exact .str x
  | .list ds, _, h => by
    cases h with
    | lst hs ha => exact .lst (e.seq hs) (dpAll_mono e ds _ ha)
  | .tuple ds, _, h => by
    cases h with
    | tup hs ha => exact .tup (sqT_mono e hs) (dpAll_mono e ds _ ha)
  | .dict _, _, h => by cases h
theorem dpAll_mono (e : Same H H') : ∀ (ds : List PyData) (vs : List V), DpAll K H vs ds → DpAll K H' vs ds
  | [], _, h => by cases h; exact .nil
  | d :: ds, _, h => by
    cases h with
    | cons h1 h2 => exact .cons (dp_mono e d _ h1) (dpAll_mono e ds _ h2)
end
end

def keyD : Key → PyData
  | .inl i => .int i
  | .inr x => .str x
/-- a dict's pairs, by data -/
def KvD (K : PySem.W.Frag) (H : Hp) : List (Key × V) → List (PyData × PyData) → Prop := Paired fun p q => q.1 = keyD p.1 ∧ Dp K H p.2 q.2
/-- the class of scripts -/
structure ClsS (K : PySem.W.Frag) (C : Addr) : Prop where
  cl : Cls K C
  na : NoAttr K C "steps"
/-- a written dict with text keys -/
def isKey (x : Str) : PyData → Bool
  | .str y => decide (y = x)
  | _ => false
def lookD (x : Str) : List (PyData × PyData) → Option PyData
  | [] => none
  | (k, d) :: r => if isKey x k = true then some d else lookD x r
def isStrK : PyData → Bool
  | .str _ => true
  | _ => false
structure KdOk (K : PySem.W.Frag) (w : World) (a : Addr) (kds : List (PyData × PyData)) : Prop where
  at_ : ∃ es n, KDict K w a es n
  hit : ∀ (x : Str) (d : PyData), lookD x kds = some d → ∃ u v, PySem.W.nsIn K a x = some (some u) ∧ RelV v u ∧ ∀ H, Dp K H v d
  keys : (kds.all fun p => isStrK p.1) = true
  miss : lookD "there" kds = none → PySem.W.nsIn K a "there" = some none
inductive Rp (K : PySem.W.Frag) (w : World) (H : Hp) : V → PyData → Prop
  | dat {v : V} {d : PyData} : Dp K H v d → Rp K w H v d
  | dct {a : Addr} {kvs : List (Key × V)} {kds : List (PyData × PyData)} : H a = some (.dK kvs) → KvD K H kvs kds → Rp K w H (.ref a) (.dict kds)
  | obj {a C dx : Addr} {v : V} {d : PyData} : H a = some (.ins C dx [("steps", v)]) → ClsS K C → Dp K H v d → Rp K w H (.ref a) (.dict [(.none, d)])
  | kd {a : Addr} {kds : List (PyData × PyData)} : KdOk K w a kds → Rp K w H (.ref a) (.dict kds)
inductive RpAll (K : PySem.W.Frag) (w : World) (H : Hp) : List V → List PyData → Prop
  | nil : RpAll K w H [] []
  | cons {v : V} {vs : List V} {d : PyData} {ds : List PyData} : Rp K w H v d → RpAll K w H vs ds → RpAll K w H (v :: vs) (d :: ds)

section
variable {K : PySem.W.Frag} {w : World} {H H' H1 : Hp}
theorem kvD_mono (e : Same H H') : ∀ {kvs : List (Key × V)} {kds : List (PyData × PyData)}, KvD K H kvs kds → KvD K H' kvs kds
  | _, _, .nil => .nil
  | _, _, .cons h t => .cons ⟨h.1, dp_mono e _ _ h.2⟩ (kvD_mono e t)
theorem Rp.mono {v : V} {d : PyData} (e : Same H H') (h : Rp K w H v d) : Rp K w H' v d := by
  cases h with
  | dat h => exact .dat (dp_mono e _ _ h)
  | dct h k => exact .dct (e _ _ h) (kvD_mono e k)
  | obj h c k => exact .obj (e _ _ h) c (dp_mono e _ _ k)
  | kd h => exact .kd h
theorem RpAll.mono (e : Same H H') : ∀ {vs : List V} {ds : List PyData}, RpAll K w H vs ds → RpAll K w H' vs ds
  | _, _, .nil => .nil
  | _, _, .cons h t => .cons (h.mono e) (RpAll.mono e t)
theorem RpAll.length : ∀ {vs : List V} {ds : List PyData}, RpAll K w H vs ds → vs.length = ds.length
  | _, _, .nil => rfl
  | _, _, .cons _ t => by simp [RpAll.length t]
theorem RpAll.get : ∀ {vs : List V} {ds : List PyData} {i : Nat} {d : PyData}, RpAll K w H vs ds → ds[i]? = some d → ∃ v, vs[i]? = some v ∧ Rp K w H v d
  | _, _, _, _, .nil, e => by simp at e
  | _, _, 0, _, .cons h _, e => by simp at e; subst e; exact ⟨_, rfl, h⟩
  | _, _, i + 1, d, .cons _ t, e => by
    obtain ⟨v, h1, h2⟩ := RpAll.get (i := i) (d := d) t (by simpa using e)
    exact ⟨v, by simpa using h1, h2⟩
theorem dpAll_get : ∀ {vs : List V} {ds : List PyData} {i : Nat} {d : PyData}, DpAll K H vs ds → ds[i]? = some d → ∃ v, vs[i]? = some v ∧ Dp K H v d
  | _, _, _, _, .nil, e => by simp at e
  | _, _, 0, _, .cons h _, e => by simp at e; subst e; exact ⟨_, rfl, h⟩
  | _, _, i + 1, d, .cons _ t, e => by
    obtain ⟨v, h1, h2⟩ := dpAll_get (i := i) (d := d) t (by simpa using e)
    exact ⟨v, by simpa using h1, h2⟩
theorem dpAll_length : ∀ {vs : List V} {ds : List PyData}, DpAll K H vs ds → vs.length = ds.length
  | _, _, .nil => rfl
  | _, _, .cons _ t => by simp [dpAll_length t]
theorem dpAll_append : ∀ {vs ws : List V} {ds es : List PyData}, DpAll K H vs ds → DpAll K H ws es → DpAll K H (vs ++ ws) (ds ++ es)
  | _, _, _, _, .nil, s => s
  | _, _, _, _, .cons r t, s => .cons r (dpAll_append t s)
theorem dpAll_take : ∀ {vs : List V} {ds : List PyData} (n : Nat), DpAll K H vs ds → DpAll K H (vs.take n) (ds.take n)
  | _, _, 0, _ => .nil
  | _, _, _ + 1, .nil => .nil
  | _, _, n + 1, .cons r t => .cons r (dpAll_take n t)
theorem dpAll_drop : ∀ {vs : List V} {ds : List PyData} (n : Nat), DpAll K H vs ds → DpAll K H (vs.drop n) (ds.drop n)
  | _, _, 0, r => r
  | _, _, _ + 1, .nil => .nil
  | _, _, n + 1, .cons _ t => dpAll_drop n t
/-- a value that is no dict and no object -/
def isDat : PyData → Bool
  | .dict _ => false
  | _ => true
theorem Rp.dp {v : V} {d : PyData} (h : Rp K w H v d) (e : isDat d = true) : Dp K H v d := by
  cases h with
  | dat h => exact h
  | dct _ _ => exact absurd e (by simp [isDat])
  | obj _ _ _ => exact absurd e (by simp [isDat])
  | kd _ => exact absurd e (by simp [isDat])
theorem RpAll.dp : ∀ {vs : List V} {ds : List PyData}, RpAll K w H vs ds → ds.all isDat = true → DpAll K H vs ds
  | _, _, .nil, _ => .nil
  | _, _, .cons h t, e => by
    simp only [List.all_cons, Bool.and_eq_true] at e
    exact .cons (h.dp e.1) (RpAll.dp t e.2)
theorem dpAll_rp : ∀ {vs : List V} {ds : List PyData}, DpAll K H vs ds → RpAll K w H vs ds
  | _, _, .nil => .nil
  | _, _, .cons h t => .cons (.dat h) (dpAll_rp t)
end

/-! ### environments, denotations -/
abbrev DE := List (Option PyData)
abbrev DF := DE → Option PyData
structure EnvOk (K : PySem.W.Frag) (w : World) (H : Hp) (σ : L2.St) (env : DE) : Prop where
  len : σ.length = env.length
  get : ∀ (i : Nat) (d : PyData), env[i]? = some (some d) → ∃ v, σ[i]? = some (some v) ∧ Rp K w H v d
section
variable {K : PySem.W.Frag} {w : World} {H H' H1 : Hp} {σ : L2.St} {env : DE}
theorem EnvOk.mono (e : Same H H') (E : EnvOk K w H σ env) : EnvOk K w H' σ env := ⟨E.len, fun i d h => let ⟨v, h1, h2⟩ := E.get i d h; ⟨v, h1, h2.mono e⟩⟩
theorem EnvOk.set {v : V} {d : PyData} (E : EnvOk K w H σ env) (i : Nat) (r : Rp K w H v d) : EnvOk K w H (σ.set i (some v)) (env.set i (some d)) := by
  refine ⟨by simp [E.len], fun j e h => ?_⟩
  by_cases hj : j = i
  · subst hj
    have hl : j < env.length := by
      have := (List.getElem?_eq_some_iff.mp h).1
      simpa using this
    rw [List.getElem?_set_self hl] at h
    cases h
    exact ⟨v, by rw [List.getElem?_set_self (by rw [E.len]; exact hl)], r⟩
  · rw [List.getElem?_set_ne (Ne.symm hj)] at h
    obtain ⟨u, h1, h2⟩ := E.get j e h
    exact ⟨u, by rw [List.getElem?_set_ne (Ne.symm hj)]; exact h1, h2⟩
theorem EnvOk.wipe (E : EnvOk K w H σ env) : ∀ vs : List Nat, EnvOk K w H (L2.wipe σ vs) (vs.foldr (fun v e => e.set v none) env)
  | [] => E
  | v :: vs => by
    have ih := EnvOk.wipe E vs
    refine ⟨by simp [L2.wipe, ih.len], fun j e h => ?_⟩
    rw [List.foldr_cons] at h
    by_cases hj : j = v
    · subst hj
      have hl := (List.getElem?_eq_some_iff.mp h).1
      rw [List.getElem?_set_self (by simpa using hl)] at h
      cases h
    · rw [List.getElem?_set_ne (Ne.symm hj)] at h
      obtain ⟨u, h1, h2⟩ := ih.get j e h
      exact ⟨u, by unfold L2.wipe; rw [List.getElem?_set_ne (Ne.symm hj)]; exact h1, h2⟩
end

/-- the readings -/
def tD (K : PySem.W.Frag) (w : World) (f : DF) : TE := fun σ H Q => ∃ env d, EnvOk K w H σ env ∧ f env = some d ∧ ∀ v H', Same H H' → Rp K w H' v d → Q v H'
def tDT (K : PySem.W.Frag) (w : World) (f : DE → Option Bool) : TT := fun σ H Q => ∃ env b, EnvOk K w H σ env ∧ f env = some b ∧ ∀ H', Same H H' → Q b H'
def tDA (K : PySem.W.Frag) (w : World) (f : DE → Option (List PyData)) : TA := fun σ H Q => ∃ env ds, EnvOk K w H σ env ∧ f env = some ds ∧ ∀ vs H', Same H H' → RpAll K w H' vs ds → Q vs H'
inductive Out where
  | nx (env : DE)
  | rt (d : PyData)
/-- what is wanted behind a block -/
def OutOk (K : PySem.W.Frag) (w : World) (H : Hp) (D : Ends) : Out → Prop
  | .nx env' => ∀ σ' H', Same H H' → EnvOk K w H' σ' env' → D.nx σ' H'
  | .rt d => ∀ v H', Same H H' → Rp K w H' v d → D.rt v H'
theorem OutOk.mono {K : PySem.W.Frag} {w : World} {H H' : Hp} {D : Ends} (s : Same H H') {o : Out} (h : OutOk K w H D o) : OutOk K w H' D o := by
  cases o with
  | nx env' => exact fun σ2 H2 s2 E2 => h σ2 H2 (s.trans s2) E2
  | rt d => exact fun v H2 s2 r2 => h v H2 (s.trans s2) r2
def tDS (K : PySem.W.Frag) (w : World) (f : DE → Option Out) : TS := fun D σ H => ∃ env o, EnvOk K w H σ env ∧ f env = some o ∧ OutOk K w H D o

section
variable {X : Cx} {e a b : Expr} {t t' : TE}
theorem pe_imp (h : PE X e t) (i : ∀ σ H Q, t' σ H Q → t σ H Q) : PE X e t' := ⟨fun pins s σ H Q I q => h.run pins s σ H Q I (i σ H Q q)⟩
theorem pt_imp {u u' : TT} (h : PT X e u) (i : ∀ σ H Q, u' σ H Q → u σ H Q) : PT X e u' := ⟨fun pins s σ H Q I q => h.run pins s σ H Q I (i σ H Q q)⟩
theorem pa_imp {es : List Expr} {u u' : TA} (h : PA X es u) (i : ∀ σ H Q, u' σ H Q → u σ H Q) : PA X es u' := ⟨fun pos pins s σ H Q I q => h.run pos pins s σ H Q I (i σ H Q q)⟩
theorem ps_imp {st : Stmt} {u u' : TS} (h : PS X st u) (i : ∀ D σ H, u' D σ H → u D σ H) : PS X st u' := ⟨fun pins s σ H D I q => h.run pins s σ H D I (i D σ H q)⟩
theorem pss_imp {st : List Stmt} {u u' : TS} (h : PSs X st u) (i : ∀ D σ H, u' D σ H → u D σ H) : PSs X st u' := ⟨fun pins s σ H D I q => h.run pins s σ H D I (i D σ H q)⟩
end

/-! ### combinators -/
def dBin (g : PyData → PyData → Option PyData) (fa fb : DF) : DF := fun env => (fa env).bind fun a => (fb env).bind fun b => g a b
def dUn (g : PyData → Option PyData) (fa : DF) : DF := fun env => (fa env).bind g
def dVar (i : Nat) : DF := fun env => (env[i]?).join
def dC (d : PyData) : DF := fun _ => some d
def boolOf : PyData → Option Bool
  | .bool b => some b
  | _ => none
def dTest (f : DF) : DE → Option Bool := fun env => (f env).bind boolOf
def dNilA : DE → Option (List PyData) := fun _ => some []
def dConsA (f : DF) (g : DE → Option (List PyData)) : DE → Option (List PyData) := fun env => (f env).bind fun d => (g env).bind fun ds => some (d :: ds)
def dApp (g : List PyData → Option PyData) (fs : DE → Option (List PyData)) : DF := fun env => (fs env).bind g

section
variable {K : PySem.W.Frag} {w : World} {H : Hp} {σ : L2.St} {Q : VK} {fa fb fc : DF}
theorem imp_bin {g : PyData → PyData → Option PyData} {r : R2}
    (h : ∀ x y H Q d e z, Rp K w H x d → Rp K w H y e → g d e = some z → (∀ v H', Same H H' → Rp K w H' v z → Q v H') → r x y H Q) (q : tD K w (dBin g fa fb) σ H Q) : tOp r (tD K w fa) (tD K w fb) σ H Q := by
  obtain ⟨env, z, E, e, q⟩ := q
  unfold dBin at e
  cases ea : fa env with
  | none => rw [ea] at e; cases e
  | some da =>
    rw [ea] at e
    simp only [Option.bind_some] at e
    cases eb : fb env with
    | none => rw [eb] at e; cases e
    | some db =>
      rw [eb] at e
      simp only [Option.bind_some] at e
      exact ⟨env, da, E, ea, fun v H1 s1 r1 => ⟨env, db, E.mono s1, eb, fun u H2 s2 r2 => h v u H2 Q da db z (r1.mono s2) r2 e fun y H3 s3 r3 => q y H3 ((s1.trans s2).trans s3) r3⟩⟩
theorem imp_un {g : PyData → Option PyData} {r : V → Hp → VK → Prop}
    (h : ∀ x H Q d z, Rp K w H x d → g d = some z → (∀ v H', Same H H' → Rp K w H' v z → Q v H') → r x H Q) (q : tD K w (dUn g fa) σ H Q) : tD K w fa σ H fun x H1 => r x H1 Q := by
  obtain ⟨env, z, E, e, q⟩ := q
  unfold dUn at e
  cases ea : fa env with
  | none => rw [ea] at e; cases e
  | some da =>
    rw [ea] at e
    simp only [Option.bind_some] at e
    exact ⟨env, da, E, ea, fun v H1 s1 r1 => h v H1 Q da z r1 e fun y H3 s3 r3 => q y H3 (s1.trans s3) r3⟩
theorem imp_app {g : List PyData → Option PyData} {fs : DE → Option (List PyData)} {r : List V → Hp → VK → Prop}
    (h : ∀ xs H Q ds z, RpAll K w H xs ds → g ds = some z → (∀ v H', Same H H' → Rp K w H' v z → Q v H') → r xs H Q) (q : tD K w (dApp g fs) σ H Q) : tDA K w fs σ H fun xs H1 => r xs H1 Q := by
  obtain ⟨env, z, E, e, q⟩ := q
  unfold dApp at e
  cases ea : fs env with
  | none => rw [ea] at e; cases e
  | some da =>
    rw [ea] at e
    simp only [Option.bind_some] at e
    exact ⟨env, da, E, ea, fun v H1 s1 r1 => h v H1 Q da z r1 e fun y H3 s3 r3 => q y H3 (s1.trans s3) r3⟩
/-- a value of data, as a test -/
theorem imp_test {f : DF} {Q : Bool → Hp → Prop} (q : tDT K w (dTest f) σ H Q) : tD K w f σ H fun x H1 => ∃ k, x = .bl k ∧ Q k H1 := by
  obtain ⟨env, b, E, e, q⟩ := q
  unfold dTest at e
  cases ea : f env with
  | none => rw [ea] at e; cases e
  | some da =>
    rw [ea] at e
    simp only [Option.bind_some] at e
    cases da with
    | bool c =>
      cases e
      refine ⟨env, _, E, ea, fun v H1 s1 r1 => ?_⟩
      cases r1.dp rfl
      exact ⟨_, rfl, q H1 s1⟩
    | _ => cases e
end
end Dn
set_option Elab.async false
set_option linter.all false
set_option maxRecDepth 100000
set_option maxHeartbeats 4000000
namespace Dn
open PySem PySem.Spec L2 PyProof.Rows

def szMax : Nat := 10000000
theorem szOk {n : Nat} (h : n ≤ szMax) : n ≤ sizeLine := Nat.le_trans h (by decide)

/-! ### values -/
def gAdd : PyData → PyData → Option PyData
  | .int i, .int j => some (.int (i + j))
  | .tuple xs, .tuple ys => if xs.length + ys.length ≤ szMax then some (.tuple (xs ++ ys)) else none
  | _, _ => none
def gSub : PyData → PyData → Option PyData
  | .int i, .int j => some (.int (i - j))
  | _, _ => none
/-- two data that the scalar rule serves -/
def scalD : PyData → PyData → Bool
  | .none, .none => true | .none, .int _ => true | .int _, .none => true | .none, .bool _ => true | .bool _, .none => true | .none, .str _ => true | .str _, .none => true
  | .int _, .int _ => true | .bool _, .bool _ => true | .str _, .str _ => true
  | .int _, .str _ => true | .str _, .int _ => true | .bool _, .str _ => true | .str _, .bool _ => true
  | _, _ => false
def eqS : PyData → PyData → Bool
  | .none, .none => true
  | .int i, .int j => decide (i = j)
  | .bool i, .bool j => decide (i = j)
  | .str i, .str j => decide (i = j)
  | _, _ => false
def eqD? (d e : PyData) : Option Bool := if scalD d e = true then some (eqS d e) else if (SeqAt.shaped d && SeqAt.shaped e) = true then some (PyData.eqv d e) else none
def gEq (d e : PyData) : Option PyData := (eqD? d e).map .bool
def gNe (d e : PyData) : Option PyData := (eqD? d e).map fun b => .bool (!b)
def gLt : PyData → PyData → Option PyData
  | .int i, .int j => some (.bool (decide (i < j)))
  | .str i, .str j => some (.bool (decide (i.cps.toList < j.cps.toList)))
  | _, _ => none
def gInt (p : Int → Int → Bool) : PyData → PyData → Option PyData
  | .int i, .int j => some (.bool (p i j))
  | _, _ => none
abbrev gLe := gInt fun i j => decide (i ≤ j)
abbrev gGt := gInt fun i j => decide (j < i)
abbrev gGe := gInt fun i j => decide (j ≤ i)
def flatD : PyData → Bool
  | .none => true | .bool _ => true | .int _ => true | .str _ => true | _ => false
def eqF : PyData → PyData → Bool
  | .none, .none => true
  | .bool a, .bool b => a == b
  | .bool a, .int b => (if a then 1 else 0) == b
  | .int a, .bool b => a == (if b then 1 else 0)
  | .int a, .int b => a == b
  | .str a, .str b => a == b
  | _, _ => false
def inD? (d : PyData) : PyData → Option Bool
  | .tuple xs => if (flatD d && xs.all flatD) = true then some (xs.any fun y => eqF y d) else none
  | .list xs => if (flatD d && xs.all flatD) = true then some (xs.any fun y => eqF y d) else none
  | _ => none
def gIn (d e : PyData) : Option PyData := (inD? d e).map .bool
def gNotIn (d e : PyData) : Option PyData := (inD? d e).map fun b => .bool (!b)
/-- in a written dict -/
def inK? : PyData → PyData → Option Bool
  | .str x, .dict kds => match lookD x kds with
    | some _ => some true
    | none => if x = "there" then some false else none
  | _, _ => none
def gInK (d e : PyData) : Option PyData := (inK? d e).map .bool
def gNotInK (d e : PyData) : Option PyData := (inK? d e).map fun b => .bool (!b)
def gIx : PyData → PyData → Option PyData
  | .tuple xs, .int i => atI xs i
  | .list xs, .int i => atI xs i
  | _, _ => none
def gGetK : PyData → PyData → Option PyData
  | .dict kds, .str x => lookD x kds
  | _, _ => none
def gNot : PyData → Option PyData
  | .bool b => some (.bool (!b))
  | _ => none
def gNeg : PyData → Option PyData
  | .int i => some (.int (-i))
  | _ => none
def gIsN : PyData → Option PyData
  | .none => some (.bool true)
  | _ => some (.bool false)
def gNotN : PyData → Option PyData
  | .none => some (.bool false)
  | _ => some (.bool true)
def gSteps : PyData → Option PyData
  | .dict [(.none, d)] => some d
  | _ => none

section
variable {K : PySem.W.Frag} {w : World} {H : Hp}
theorem rp_int {v : V} {i : Int} (h : Rp K w H v (.int i)) : v = .int i := by cases h.dp rfl; rfl
theorem rp_bool {v : V} {i : Bool} (h : Rp K w H v (.bool i)) : v = .bl i := by cases h.dp rfl; rfl
theorem rp_str {v : V} {i : Str} (h : Rp K w H v (.str i)) : v = .str i := by cases h.dp rfl; rfl
theorem rp_none {v : V} (h : Rp K w H v .none) : v = .non := by cases h.dp rfl; rfl
theorem rp_tup {v : V} {ds : List PyData} (h : Rp K w H v (.tuple ds)) : ∃ a xs, v = .ref a ∧ SqT K H a xs ∧ DpAll K H xs ds := by
  cases h.dp rfl with
  | tup h1 h2 => exact ⟨_, _, rfl, h1, h2⟩
theorem rp_lst {v : V} {ds : List PyData} (h : Rp K w H v (.list ds)) : ∃ a xs, v = .ref a ∧ SqL K H a xs ∧ DpAll K H xs ds := by
  cases h.dp rfl with
  | lst h1 h2 => exact ⟨_, _, rfl, h1, h2⟩
theorem Rp.flat {v : V} {d : PyData} (h : Rp K w H v d) (f : flatD d = true) : flatV v = true := by
  cases d with
  | none => rw [rp_none h]; rfl
  | bool b => rw [rp_bool h]; rfl
  | int b => rw [rp_int h]; rfl
  | str b => rw [rp_str h]; rfl
  | _ => cases f
theorem Rp.eqF {v u : V} {d e : PyData} (h : Rp K w H v d) (f : flatD d = true) (h' : Rp K w H u e) (f' : flatD e = true) : eqV v u = Dn.eqF d e := by
  cases d with
  | none =>
    rw [rp_none h]
    cases e with
    | none => rw [rp_none h']; rfl
    | bool b => rw [rp_bool h']; rfl
    | int b => rw [rp_int h']; rfl
    | str b => rw [rp_str h']; rfl
    | _ => cases f'
  | bool b =>
    rw [rp_bool h]
    cases e with
    | none => rw [rp_none h']; rfl
    | bool b => rw [rp_bool h']; rfl
    | int b => rw [rp_int h']; rfl
    | str b => rw [rp_str h']; rfl
    | _ => cases f'
  | int b =>
    rw [rp_int h]
    cases e with
    | none => rw [rp_none h']; rfl
    | bool b => rw [rp_bool h']; rfl
    | int b => rw [rp_int h']; rfl
    | str b => rw [rp_str h']; rfl
    | _ => cases f'
  | str b =>
    rw [rp_str h]
    cases e with
    | none => rw [rp_none h']; rfl
    | bool b => rw [rp_bool h']; rfl
    | int b => rw [rp_int h']; rfl
    | str b => rw [rp_str h']; rfl
    | _ => cases f'
  | _ => cases f
theorem dpAll_flat (w : World) : ∀ {xs : List V} {ds : List PyData}, DpAll K H xs ds → ds.all flatD = true → xs.all flatV = true
  | _, _, .nil, _ => rfl
  | _, _, .cons h t, f => by
    simp only [List.all_cons, Bool.and_eq_true] at f ⊢
    exact ⟨(Rp.dat (w := w) h).flat f.1, dpAll_flat w t f.2⟩
theorem dpAll_in {u : V} {d : PyData} (hu : Rp K w H u d) (fu : flatD d = true) : ∀ {xs : List V} {ds : List PyData}, DpAll K H xs ds → ds.all flatD = true → inV u xs = ds.any fun y => Dn.eqF y d
  | _, _, .nil, _ => rfl
  | _, _, .cons h t, f => by
    simp only [List.all_cons, Bool.and_eq_true] at f
    unfold inV
    rw [List.any_cons, List.any_cons, (Rp.dat (w := w) h).eqF f.1 hu fu]
    have ih := dpAll_in hu fu t f.2
    unfold inV at ih
    rw [ih]
theorem eqS_dec {v u : V} {d e : PyData} (h : Rp K w H v d) (h' : Rp K w H u e) (s : scalD d e = true) : scal v u = true ∧ decide (v = u) = eqS d e := by
  cases d with
  | none =>
    rw [rp_none h]
    cases e with
    | none => rw [rp_none h']; exact ⟨rfl, rfl⟩
    | bool b => rw [rp_bool h']; exact ⟨rfl, rfl⟩
    | int b => rw [rp_int h']; exact ⟨rfl, rfl⟩
    | str b => rw [rp_str h']; exact ⟨rfl, rfl⟩
    | _ => cases s
  | bool b =>
    rw [rp_bool h]
    cases e with
    | none => rw [rp_none h']; exact ⟨rfl, rfl⟩
    | bool b => rw [rp_bool h']; exact ⟨rfl, by simp [eqS]⟩
    | str b => rw [rp_str h']; exact ⟨rfl, rfl⟩
    | _ => cases s
  | int b =>
    rw [rp_int h]
    cases e with
    | none => rw [rp_none h']; exact ⟨rfl, rfl⟩
    | int b => rw [rp_int h']; exact ⟨rfl, by simp [eqS]⟩
    | str b => rw [rp_str h']; exact ⟨rfl, rfl⟩
    | _ => cases s
  | str b =>
    rw [rp_str h]
    cases e with
    | none => rw [rp_none h']; exact ⟨rfl, rfl⟩
    | bool b => rw [rp_bool h']; exact ⟨rfl, rfl⟩
    | int b => rw [rp_int h']; exact ⟨rfl, rfl⟩
    | str b => rw [rp_str h']; exact ⟨rfl, by simp [eqS]⟩
    | _ => cases s
  | _ => cases s
theorem dpAll_atI {xs : List V} {ds : List PyData} (h : DpAll K H xs ds) {i : Int} {d : PyData} (e : atI ds i = some d) : ∃ v, atI xs i = some v ∧ Dp K H v d := by
  unfold atI at e ⊢
  rw [dpAll_length h]
  cases q : ixN ds.length i with
  | none => rw [q] at e; cases e
  | some j =>
    rw [q] at e
    exact dpAll_get h e
theorem shaped_dat {d : PyData} (h : SeqAt.shaped d = true) : isDat d = true := by
  cases d with
  | dict _ => simp [SeqAt.shaped, PyData.canLay0] at h
  | _ => rfl
theorem kvD_val {kvs : List (Key × V)} {kds : List (PyData × PyData)} (h : KvD K H kvs kds) (x : Str) {d : PyData} (e : lookD x kds = some d) : ∃ v, valV kvs (Sum.inr x : Key) = some v ∧ Dp K H v d := by
  induction h with
  | nil => cases e
  | @cons p q ps qs h1 _ ih =>
    obtain ⟨k, v⟩ := p
    obtain ⟨kd, vd⟩ := q
    have hk : kd = keyD k := h1.1
    have hv : Dp K H v vd := h1.2
    unfold lookD at e
    cases k with
    | inl i =>
      have : isKey x kd = false := by rw [hk]; rfl
      rw [this] at e
      rw [valV_neg (by intro z; cases z)]
      exact ih (by simpa using e)
    | inr y =>
      by_cases hy : y = x
      · have : isKey x kd = true := by rw [hk]; simp [keyD, isKey, hy]
        rw [this] at e
        simp only [if_true, Option.some.injEq] at e
        subst e
        exact ⟨v, valV_pos (by rw [hy]), hv⟩
      · have : isKey x kd = false := by rw [hk]; simp [keyD, isKey, hy]
        rw [this] at e
        rw [valV_neg (by intro z; exact hy (Sum.inr.inj z))]
        exact ih (by simpa using e)
end

/-! ### rules: names, constants -/
section
variable {X : Cx} {a b c e : Expr} {fa fb fc f : DF} {pos p p2 : Pos}
theorem d_var (i : Nat) {x : Str} (hN : X.N[i]? = some x := by rfl) (hv : Vis X.env.scope x := by first | exact Or.inl rfl | exact Or.inr (Or.inl rfl) | exact Or.inr (Or.inr rfl)) (hd : (x == ("__debug__" : Str)) = false := by decide)
    (hcd : (x == ("__classdict__" : Str)) = false := by decide) : PE X (.Name x pos) (tD X.K X.w (dVar i)) := by
  refine pe_imp (pe_var hN hv hd hcd) fun σ H Q ⟨env, d, E, e, q⟩ => ?_
  unfold dVar at e
  cases h : env[i]? with
  | none => rw [h] at e; cases e
  | some o =>
    rw [h] at e
    have e' : o = some d := e
    subst e'
    obtain ⟨v, h1, h2⟩ := E.get i d h
    exact ⟨v, h1, q v H (Same.refl H) h2⟩
theorem d_int {i : Int} {j} : PE X (.Constant (.int i) j pos) (tD X.K X.w (dC (.int i))) := pe_imp pe_int fun σ H Q ⟨env, d, E, e, q⟩ => by cases e; exact q _ H (Same.refl H) (.dat (.int i))
theorem d_bl {i : Bool} {j} : PE X (.Constant (.bool i) j pos) (tD X.K X.w (dC (.bool i))) := pe_imp pe_bl fun σ H Q ⟨env, d, E, e, q⟩ => by cases e; exact q _ H (Same.refl H) (.dat (.bl i))
theorem d_str {i : Str} {j} : PE X (.Constant (.str i) j pos) (tD X.K X.w (dC (.str i))) := pe_imp pe_str fun σ H Q ⟨env, d, E, e, q⟩ => by cases e; exact q _ H (Same.refl H) (.dat (.str i))
theorem d_non {j} : PE X (.Constant .none j pos) (tD X.K X.w (dC .none)) := pe_imp pe_non fun σ H Q ⟨env, d, E, e, q⟩ => by cases e; exact q _ H (Same.refl H) (.dat .non)
/-- a module's constant -/
def GC (K : PySem.W.Frag) (w : World) (mg : Str → Option Value) (x : Str) (d : PyData) : Prop := ∃ v u, mg x = some u ∧ RelV v u ∧ ∀ H, Rp K w H v d
theorem d_glob {x : Str} {d : PyData} (h : GC X.K X.w X.mg x d) (hg : Gl X x := by rfl) (hd : (x == ("__debug__" : Str)) = false := by decide) : PE X (.Name x pos) (tD X.K X.w (dC d)) := by
  obtain ⟨v, u, hm, r, hr⟩ := h
  exact pe_imp (pe_glob hg hm r hd) fun σ H Q ⟨env, d, E, e, q⟩ => by cases e; exact q _ H (Same.refl H) (hr H)

/-! ### operators -/
theorem d_add (ha : PE X a (tD X.K X.w fa)) (hb : PE X b (tD X.K X.w fb)) : PE X (.BinOp a .Add b pos) (tD X.K X.w (dBin gAdd fa fb)) := by
  refine pe_imp (pe_op (op_add.or op_catA) ha hb) fun σ H Q => imp_bin fun x y H Q d e z rx ry g q => ?_
  cases d with
  | int i =>
    cases e with
    | int j =>
      cases g
      rw [rp_int rx, rp_int ry]
      exact .inl ⟨i, j, rfl, rfl, q _ H (Same.refl H) (.dat (.int _))⟩
    | _ => cases g
  | tuple ds =>
    cases e with
    | tuple es =>
      have g : (if ds.length + es.length ≤ szMax then some (PyData.tuple (ds ++ es)) else none) = some z := g
      by_cases hl : ds.length + es.length ≤ szMax
      · rw [if_pos hl] at g
        cases g
        obtain ⟨a1, xs, rfl, h1, h2⟩ := rp_tup rx
        obtain ⟨a2, ys, rfl, h3, h4⟩ := rp_tup ry
        refine .inr ⟨a1, a2, xs, ys, rfl, rfl, h1, h3, by rw [dpAll_length h2, dpAll_length h4]; exact szOk hl, fun e0 => ?_, fun _ e0 => ?_, fun _ _ p np => ?_⟩
        · subst e0
          cases h2
          exact q _ H (Same.refl H) (.dat (.tup h3 h4))
        · subst e0
          cases h4
          rw [List.append_nil] at q
          exact q _ H (Same.refl H) (.dat (.tup h1 h2))
        · have s : Same H (upd H p (.tup (xs ++ ys))) := fun c o ec => by rw [upd_ne (ne_of_none ec np)]; exact ec
          exact q _ _ s (.dat (.tup (SqT.of upd_same) (dpAll_append (dpAll_mono s _ _ h2) (dpAll_mono s _ _ h4))))
      · rw [if_neg hl] at g
        cases g
    | _ => cases g
  | _ => cases e <;> cases g
theorem d_sub (ha : PE X a (tD X.K X.w fa)) (hb : PE X b (tD X.K X.w fb)) : PE X (.BinOp a .Sub b pos) (tD X.K X.w (dBin gSub fa fb)) := by
  refine pe_imp (pe_op op_sub ha hb) fun σ H Q => imp_bin fun x y H Q d e z rx ry g q => ?_
  cases d with
  | int i =>
    cases e with
    | int j =>
      cases g
      rw [rp_int rx, rp_int ry]
      exact ⟨i, j, rfl, rfl, q _ H (Same.refl H) (.dat (.int _))⟩
    | _ => cases g
  | _ => cases e <;> cases g
/-- comparisons: a rule by values serves as a value and as a test -/
structure CmpD (X : Cx) (op : CmpOp) (g : PyData → PyData → Option PyData) : Prop where
  ok : ∃ r, OpR X (compareOp op) r ∧ ∀ x y H Q d e z, Rp X.K X.w H x d → Rp X.K X.w H y e → g d e = some z → (∀ v H', Same H H' → Rp X.K X.w H' v z → Q v H') → r x y H Q
theorem d_cmp {op : CmpOp} {g : PyData → PyData → Option PyData} (h : CmpD X op g) (ha : PE X a (tD X.K X.w fa)) (hb : PE X b (tD X.K X.w fb)) (hm : behindInMarks op b = false) : PE X (.Compare a [op] [b] pos) (tD X.K X.w (dBin g fa fb)) := by
  obtain ⟨r, ho, hr⟩ := h.ok
  exact pe_imp (pe_cmpR ho ha hb hm) fun σ H Q => imp_bin hr
theorem t_cmp {op : CmpOp} {g : PyData → PyData → Option PyData} (h : CmpD X op g) (ha : PE X a (tD X.K X.w fa)) (hb : PE X b (tD X.K X.w fb)) (hm : behindInMarks op b = false) : PT X (.Compare a [op] [b] pos) (tDT X.K X.w (dTest (dBin g fa fb))) := by
  obtain ⟨r, ho, hr⟩ := h.ok
  refine pt_imp (pt_cmpR ho ha hb hm) fun σ H Q q => ?_
  have q1 := imp_test q
  exact imp_bin hr q1
theorem c_eq (hu : X.A.units + 64 < cLine) : CmpD X .Eq gEq := by
  refine ⟨_, op_eq.or (op_eqD hu), fun x y H Q d e z rx ry g q => ?_⟩
  unfold gEq eqD? at g
  split at g
  · rename_i hs
    cases g
    obtain ⟨h1, h2⟩ := eqS_dec rx ry hs
    refine .inl ⟨h1, ?_⟩
    rw [h2]
    exact q _ H (Same.refl H) (.dat (.bl _))
  · split at g
    · rename_i hs
      cases g
      rw [Bool.and_eq_true] at hs
      exact .inr ⟨d, e, rx.dp (shaped_dat hs.1), ry.dp (shaped_dat hs.2), hs.1, hs.2, q _ H (Same.refl H) (.dat (.bl _))⟩
    · cases g
theorem c_ne (hu : X.A.units + 64 < cLine) : CmpD X .NotEq gNe := by
  refine ⟨_, op_ne.or (op_neD hu), fun x y H Q d e z rx ry g q => ?_⟩
  unfold gNe eqD? at g
  split at g
  · rename_i hs
    cases g
    obtain ⟨h1, h2⟩ := eqS_dec rx ry hs
    refine .inl ⟨h1, ?_⟩
    rw [h2]
    exact q _ H (Same.refl H) (.dat (.bl _))
  · split at g
    · rename_i hs
      cases g
      rw [Bool.and_eq_true] at hs
      exact .inr ⟨d, e, rx.dp (shaped_dat hs.1), ry.dp (shaped_dat hs.2), hs.1, hs.2, q _ H (Same.refl H) (.dat (.bl _))⟩
    · cases g
theorem c_lt : CmpD X .Lt gLt := by
  refine ⟨_, op_lt.or op_lt_str, fun x y H Q d e z rx ry g q => ?_⟩
  cases d with
  | int i =>
    cases e with
    | int j =>
      cases g
      rw [rp_int rx, rp_int ry]
      exact .inl ⟨i, j, rfl, rfl, q _ H (Same.refl H) (.dat (.bl _))⟩
    | _ => cases g
  | str i =>
    cases e with
    | str j =>
      cases g
      rw [rp_str rx, rp_str ry]
      exact .inr ⟨i, j, rfl, rfl, q _ H (Same.refl H) (.dat (.bl _))⟩
    | _ => cases g
  | _ => cases e <;> cases g
theorem cmp_int {op : CmpOp} {pr : Int → Int → Bool} (ho : OpR X (compareOp op) (rI0 fun i j => .bl (pr i j))) : CmpD X op (gInt pr) := by
  refine ⟨_, ho, fun x y H Q d e z rx ry g q => ?_⟩
  cases d with
  | int i =>
    cases e with
    | int j =>
      cases g
      rw [rp_int rx, rp_int ry]
      exact ⟨i, j, rfl, rfl, q _ H (Same.refl H) (.dat (.bl _))⟩
    | _ => cases g
  | _ => cases e <;> cases g
theorem c_le : CmpD X .LtE gLe := cmp_int op_le
theorem c_gt : CmpD X .Gt gGt := cmp_int op_gt
theorem c_ge : CmpD X .GtE gGe := cmp_int op_ge
theorem inD_ok {K : PySem.W.Frag} {w : World} {H : Hp} {x y : V} {d e : PyData} {b : Bool} (rx : Rp K w H x d) (ry : Rp K w H y e) (g : inD? d e = some b) :
    ∃ p xs, y = .ref p ∧ (SqL K H p xs ∨ SqT K H p xs) ∧ flatV x = true ∧ xs.all flatV = true ∧ inV x xs = b := by
  cases e with
  | tuple es =>
    have g : (if (flatD d && es.all flatD) = true then some (es.any fun y => Dn.eqF y d) else none) = some b := g
    by_cases h : (flatD d && es.all flatD) = true
    · rw [if_pos h] at g
      cases g
      rw [Bool.and_eq_true] at h
      obtain ⟨a, xs, rfl, h1, h2⟩ := rp_tup ry
      exact ⟨a, xs, rfl, .inr h1, rx.flat h.1, dpAll_flat w h2 h.2, dpAll_in rx h.1 h2 h.2⟩
    · rw [if_neg h] at g
      cases g
  | list es =>
    have g : (if (flatD d && es.all flatD) = true then some (es.any fun y => Dn.eqF y d) else none) = some b := g
    by_cases h : (flatD d && es.all flatD) = true
    · rw [if_pos h] at g
      cases g
      rw [Bool.and_eq_true] at h
      obtain ⟨a, xs, rfl, h1, h2⟩ := rp_lst ry
      exact ⟨a, xs, rfl, .inl h1, rx.flat h.1, dpAll_flat w h2 h.2, dpAll_in rx h.1 h2 h.2⟩
    · rw [if_neg h] at g
      cases g
  | _ => cases g
theorem c_in : CmpD X .In gIn := by
  refine ⟨_, op_in_seq, fun x y H Q d e z rx ry g q => ?_⟩
  unfold gIn at g
  obtain ⟨b, h1, rfl⟩ := Option.map_eq_some_iff.mp g
  obtain ⟨p, xs, rfl, h2, h3, h4, h5⟩ := inD_ok rx ry h1
  refine ⟨p, xs, rfl, h2, h3, h4, ?_⟩
  show Q (.bl (inV x xs)) H
  rw [h5]
  exact q _ H (Same.refl H) (.dat (.bl _))
theorem c_notin : CmpD X .NotIn gNotIn := by
  refine ⟨_, op_notIn_seq, fun x y H Q d e z rx ry g q => ?_⟩
  unfold gNotIn at g
  obtain ⟨b, h1, rfl⟩ := Option.map_eq_some_iff.mp g
  obtain ⟨p, xs, rfl, h2, h3, h4, h5⟩ := inD_ok rx ry h1
  refine ⟨p, xs, rfl, h2, h3, h4, ?_⟩
  show Q (.bl (!inV x xs)) H
  rw [h5]
  exact q _ H (Same.refl H) (.dat (.bl _))
/-- in a written dict -/
theorem op_in_kdx : OpR X (compareOp .In) (fun x y H Q => ∃ (d : Addr) (es : Array DictEntry) (n : Nat) (z : Str) (r : Option Value), KDict X.K X.w d es n ∧ x = .str z ∧ y = .ref d ∧ PySem.W.nsIn X.K d z = some r ∧ Q (.bl r.isSome) H) := by
  intro pins s σ H x y v u Q I rx ry h
  obtain ⟨d, es, n, z, r, D, h1, h2, h3, q⟩ := h
  exact op_in_kd D pins s σ H x y v u Q I rx ry ⟨z, r, h1, h2, h3, q⟩
theorem op_notIn_kdx : OpR X (compareOp .NotIn) (fun x y H Q => ∃ (d : Addr) (es : Array DictEntry) (n : Nat) (z : Str) (r : Option Value), KDict X.K X.w d es n ∧ x = .str z ∧ y = .ref d ∧ PySem.W.nsIn X.K d z = some r ∧ Q (.bl (!r.isSome)) H) := by
  intro pins s σ H x y v u Q I rx ry h
  obtain ⟨d, es, n, z, r, D, h1, h2, h3, q⟩ := h
  exact op_notIn_kd D pins s σ H x y v u Q I rx ry ⟨z, r, h1, h2, h3, q⟩
end

/-! ### more representation: a written dict stands at the value -/
/-- a constant that is a written dict -/
def GK (K : PySem.W.Frag) (w : World) (mg : Str → Option Value) (x : Str) (kds : List (PyData × PyData)) : Prop := ∃ a, mg x = some (.ref a) ∧ KdOk K w a kds
section
variable {X : Cx} {a b c e : Expr} {fa fb fc f : DF} {pos p p2 : Pos}
theorem tC_at {K : PySem.W.Frag} {w : World} {a : Addr} {f : DF} {σ : L2.St} {H : Hp} {Q : VK} : True := trivial
theorem inK_ok {K : PySem.W.Frag} {w : World} {H : Hp} {x : V} {d : PyData} {kds : List (PyData × PyData)} {a : Addr} {b : Bool} (rx : Rp K w H x d) (k : KdOk K w a kds) (g : inK? d (.dict kds) = some b) :
    ∃ (es : Array DictEntry) (n : Nat) (z : Str) (r : Option Value), KDict K w a es n ∧ x = .str z ∧ PySem.W.nsIn K a z = some r ∧ r.isSome = b := by
  obtain ⟨es, n, D⟩ := k.at_
  cases d with
  | str z =>
    have g : (match lookD z kds with | some _ => some true | none => if z = "there" then some false else none) = some b := g
    cases q : lookD z kds with
    | some d =>
      rw [q] at g
      cases g
      obtain ⟨u, v, h1, h2, h3⟩ := k.hit z d q
      exact ⟨es, n, z, some u, D, rp_str rx, h1, rfl⟩
    | none =>
      rw [q] at g
      by_cases hz : z = "there"
      · subst hz
        rw [if_pos rfl] at g
        cases g
        exact ⟨es, n, _, none, D, rp_str rx, k.miss q, rfl⟩
      · rw [if_neg hz] at g
        cases g
  | _ => cases g
theorem d_inK {x : Str} {kds : List (PyData × PyData)} (h : GK X.K X.w X.mg x kds) (ha : PE X a (tD X.K X.w fa)) (hg : Gl X x := by rfl) (hd : (x == ("__debug__" : Str)) = false := by decide) : PE X (.Compare a [.In] [.Name x p] pos) (tD X.K X.w (dUn (fun d => gInK d (.dict kds)) fa)) := by
  obtain ⟨ad, hm, k⟩ := h
  refine pe_imp (pe_cmpR op_in_kdx ha (pe_glob hg hm (v := .ref ad) rfl hd) rfl) fun σ H Q q => ?_
  exact imp_un (r := fun x H1 => fun Q => ∃ (d : Addr) (es : Array DictEntry) (n : Nat) (z : Str) (r : Option Value), KDict X.K X.w d es n ∧ x = .str z ∧ V.ref ad = .ref d ∧ PySem.W.nsIn X.K d z = some r ∧ Q (.bl r.isSome) H1) (fun x H Q d z rx g q => by
    unfold gInK at g
    obtain ⟨b, h1, rfl⟩ := Option.map_eq_some_iff.mp g
    obtain ⟨es, n, z, r, D, h2, h3, h4⟩ := inK_ok rx k h1
    refine ⟨ad, es, n, z, r, D, h2, rfl, h3, ?_⟩
    rw [h4]
    exact q _ H (Same.refl H) (.dat (.bl _))) q
theorem t_notinK {x : Str} {kds : List (PyData × PyData)} (h : GK X.K X.w X.mg x kds) (ha : PE X a (tD X.K X.w fa)) (hg : Gl X x := by rfl) (hd : (x == ("__debug__" : Str)) = false := by decide) : PT X (.Compare a [.NotIn] [.Name x p] pos) (tDT X.K X.w (dTest (dUn (fun d => gNotInK d (.dict kds)) fa))) := by
  obtain ⟨ad, hm, k⟩ := h
  refine pt_imp (pt_cmpR op_notIn_kdx ha (pe_glob hg hm (v := .ref ad) rfl hd) rfl) fun σ H Q q => ?_
  have q1 := imp_test q
  exact imp_un (r := fun x H1 => fun Q => ∃ (d : Addr) (es : Array DictEntry) (n : Nat) (z : Str) (r : Option Value), KDict X.K X.w d es n ∧ x = .str z ∧ V.ref ad = .ref d ∧ PySem.W.nsIn X.K d z = some r ∧ Q (.bl (!r.isSome)) H1) (fun x H Q d z rx g q => by
    unfold gNotInK at g
    obtain ⟨b, h1, rfl⟩ := Option.map_eq_some_iff.mp g
    obtain ⟨es, n, z, r, D, h2, h3, h4⟩ := inK_ok rx k h1
    refine ⟨ad, es, n, z, r, D, h2, rfl, h3, ?_⟩
    rw [h4]
    exact q _ H (Same.refl H) (.dat (.bl _))) q1
/-- a written dict's item -/
theorem d_getK {x : Str} {kds : List (PyData × PyData)} (h : GK X.K X.w X.mg x kds) (hb : PE X b (tD X.K X.w fb)) (hs : PlainIx b) (hg : Gl X x := by rfl) (hd : (x == ("__debug__" : Str)) = false := by decide) : PE X (.Subscript (.Name x p) b pos) (tD X.K X.w (dUn (fun d => gGetK (.dict kds) d) fb)) := by
  obtain ⟨ad, hm, k⟩ := h
  refine pe_imp (pe_ix ix_kdict (pe_glob hg hm (v := .ref ad) rfl hd) hb hs) fun σ H Q q => ?_
  exact imp_un (r := fun y H1 => fun Q => rIxD X.K X.w (.ref ad) y H1 Q) (fun x H Q d z rx g q => by
    cases d with
    | str s =>
      obtain ⟨u, v, h1, h2, h3⟩ := k.hit s z g
      obtain ⟨es, n, D⟩ := k.at_
      exact ⟨ad, s, v, rfl, rp_str rx, ⟨es, n, u, D.at_, D.lit, h1, h2⟩, q _ H (Same.refl H) (.dat (h3 H))⟩
    | _ => cases g) q
end
end Dn
set_option Elab.async false
set_option linter.all false
set_option maxRecDepth 100000
set_option maxHeartbeats 4000000
namespace Dn
open PySem PySem.Spec L2 PyProof.Rows

/-! ### more combinators -/
def gIxD : PyData → PyData → Option PyData
  | .tuple xs, .int i => atI xs i
  | .list xs, .int i => atI xs i
  | .dict kds, .str x => lookD x kds
  | _, _ => none
def gLen : PyData → Option PyData
  | .tuple xs => some (.int (xs.length : Nat))
  | .list xs => some (.int (xs.length : Nat))
  | _ => none
def gLenA : List PyData → Option PyData
  | [d] => gLen d
  | _ => none
def gIntA : List PyData → Option PyData
  | [.int i] => some (.int i)
  | [.bool b] => some (.int (if b then 1 else 0))
  | _ => none
def gMinA : List PyData → Option PyData
  | [.int i, .int j] => some (.int (if j < i then j else i))
  | _ => none
def boolsOf : List PyData → Option (List Bool)
  | [] => some []
  | .bool b :: r => (boolsOf r).map (b :: ·)
  | _ => none
def gAllA : List PyData → Option PyData
  | [.list ds] => (boolsOf ds).map fun bs => .bool (bs.all id)
  | _ => none
def gAnyA : List PyData → Option PyData
  | [.list ds] => (boolsOf ds).map fun bs => .bool (bs.any id)
  | _ => none
def gTupleA : List PyData → Option PyData
  | [.list ds] => some (.tuple ds)
  | [.tuple ds] => some (.tuple ds)
  | _ => none
def gListA : List PyData → Option PyData
  | [.list ds] => some (.list ds)
  | [.tuple ds] => some (.list ds)
  | _ => none
def dTup (fs : DE → Option (List PyData)) : DF := fun env => (fs env).bind fun ds => if (decide (ds.length ≤ 1000) && ds.all isDat) = true then some (.tuple ds) else none
def dLst (fs : DE → Option (List PyData)) : DF := fun env => (fs env).bind fun ds => if (decide (ds.length ≤ 1000) && ds.all isDat) = true then some (.list ds) else none
def dIf (fc : DE → Option Bool) (fa fb : DF) : DF := fun env => (fc env).bind fun c => if c = true then fa env else fb env
def dAnd (fa fb : DF) : DF := fun env => (dTest fa env).bind fun c => if c = true then fb env else some (.bool false)
def dOr (fa fb : DF) : DF := fun env => (dTest fa env).bind fun c => if c = true then some (.bool true) else fb env
def dAndT (fa fb : DE → Option Bool) : DE → Option Bool := fun env => (fa env).bind fun c => if c = true then fb env else some false
def dOrT (fa fb : DE → Option Bool) : DE → Option Bool := fun env => (fa env).bind fun c => if c = true then some true else fb env
def dNotT (fa : DE → Option Bool) : DE → Option Bool := fun env => (fa env).map not
def dChain (g g' : PyData → PyData → Option PyData) (fa fb fc : DF) : DF := fun env => (fa env).bind fun a => (fb env).bind fun b => ((g a b).bind boolOf).bind fun k => if k = true then (fc env).bind fun c => g' b c else some (.bool false)
abbrev DO := DE → Option (Option Int)
def oNone : DO := fun _ => some none
def intOf : PyData → Option Int
  | .int i => some i
  | _ => none
def oSome (f : DF) : DO := fun env => ((f env).bind intOf).map some
def cutD (xs : List PyData) (lo hi : Option Int) : List PyData := (xs.drop (HT.sIx xs.length 0 lo)).take (HT.sIx xs.length xs.length hi - HT.sIx xs.length 0 lo)
def gCut (lo hi : Option Int) : PyData → Option PyData
  | .tuple xs => some (.tuple (cutD xs lo hi))
  | .list xs => some (.list (cutD xs lo hi))
  | _ => none
def dSlice (fa : DF) (fl fh : DO) : DF := fun env => (fa env).bind fun a => (fl env).bind fun lo => (fh env).bind fun hi => gCut lo hi a

section
variable {K : PySem.W.Frag} {w : World} {H H' : Hp}
theorem same_new {p : Addr} {o : HO} (np : H p = none) : Same H (upd H p o) := fun c u ec => by rw [upd_ne (ne_of_none ec np)]; exact ec
theorem dpAll_cut {xs : List V} {ds : List PyData} (h : DpAll K H xs ds) (lo hi : Option Int) : DpAll K H (cutV xs lo hi) (cutD ds lo hi) := by
  unfold cutV cutD
  rw [dpAll_length h]
  exact dpAll_take _ (dpAll_drop _ h)
theorem rp_dict {a : Addr} {v : V} {kds : List (PyData × PyData)} {x : Str} {d : PyData} (h : Rp K w H v (.dict kds)) (e : lookD x kds = some d) :
    (∃ a u, v = .ref a ∧ DGet H a (.str x) (some u) ∧ Dp K H u d) ∨ ∃ a u, v = .ref a ∧ KDct K w a x u ∧ Dp K H u d := by
  cases h with
  | dat h => cases h
  | dct h k =>
    obtain ⟨u, h1, h2⟩ := kvD_val k x e
    have q := DGet.k (k := Sum.inr x) h
    rw [h1] at q
    exact .inl ⟨_, u, rfl, q, h2⟩
  | obj _ _ _ =>
    unfold lookD at e
    rw [if_neg (by simp [isKey])] at e
    cases e
  | kd k =>
    obtain ⟨u, v, h1, h2, h3⟩ := k.hit x d e
    obtain ⟨es, n, D⟩ := k.at_
    exact .inr ⟨_, v, rfl, ⟨es, n, u, D.at_, D.lit, h1, h2⟩, h3 H⟩
theorem boolsOf_vals : ∀ {xs : List V} {ds : List PyData} {bs : List Bool}, DpAll K H xs ds → boolsOf ds = some bs → xs = bs.map V.bl
  | _, _, bs, .nil, e => by cases e; rfl
  | _, d :: _, bs, .cons h t, e => by
    cases d with
    | bool b =>
      obtain ⟨bs', e1, rfl⟩ := Option.map_eq_some_iff.mp (show (boolsOf _).map (b :: ·) = some bs from e)
      cases h
      rw [boolsOf_vals t e1] <;> rfl
    | _ => cases e
end

section
variable {X : Cx} {a b c e : Expr} {fa fb fc f : DF} {pos p p2 : Pos}
/-- an item of a dict by its text key, by values -/
theorem ix_dict (hu : X.A.units + 1 < cLine) : IxR X (fun x y H Q => ∃ ad v, x = .ref ad ∧ DGet H ad y (some v) ∧ Q v H) := by
  intro value slice pins s σ H x y v u Q I rx ry h hs
  obtain ⟨ad, r, rfl, g, q⟩ := h
  obtain rfl : v = Value.ref ad := rx
  exact tail_any (dict_typeIs I g) slot_dict_getitem.lookup (d_getItem hu I g ry fun w' s' I' r' => ⟨r, H, I', r', q⟩) hs
theorem d_ix (hu : X.A.units + 1 < cLine) (ha : PE X a (tD X.K X.w fa)) (hb : PE X b (tD X.K X.w fb)) (hs : PlainIx b := by intro _ _; rfl) : PE X (.Subscript a b pos) (tD X.K X.w (dBin gIxD fa fb)) := by
  refine pe_imp (pe_ix (ix_tup.or (ix_list.or ((ix_dict hu).or ix_kdict))) ha hb hs) fun σ H Q => imp_bin fun x y H Q d e z rx ry g q => ?_
  cases d with
  | tuple ds =>
    cases e with
    | int i =>
      obtain ⟨ad, xs, rfl, h1, h2⟩ := rp_tup rx
      obtain ⟨v, h3, h4⟩ := dpAll_atI h2 g
      exact .inl ⟨ad, xs, i, v, rfl, rp_int ry, h1, h3, q _ H (Same.refl H) (.dat h4)⟩
    | _ => cases g
  | list ds =>
    cases e with
    | int i =>
      obtain ⟨ad, xs, rfl, h1, h2⟩ := rp_lst rx
      obtain ⟨v, h3, h4⟩ := dpAll_atI h2 g
      exact .inr (.inl ⟨ad, xs, i, v, rfl, rp_int ry, h1, h3, q _ H (Same.refl H) (.dat h4)⟩)
    | _ => cases g
  | dict kds =>
    cases e with
    | str s =>
      rw [rp_str ry]
      rcases rp_dict (a := 0) rx g with ⟨ad, u, rfl, h1, h2⟩ | ⟨ad, u, rfl, h1, h2⟩
      · exact .inr (.inr (.inl ⟨ad, u, rfl, h1, q _ H (Same.refl H) (.dat h2)⟩))
      · exact .inr (.inr (.inr ⟨ad, s, u, rfl, rfl, h1, q _ H (Same.refl H) (.dat h2)⟩))
    | _ => cases g
  | _ => cases e <;> cases g
theorem d_notV (ha : PE X a (tD X.K X.w fa)) : PE X (.UnaryOp .Not a pos) (tD X.K X.w (dUn gNot fa)) := by
  refine pe_imp (pe_not ha) fun σ H Q q => ?_
  exact imp_un (r := fun x H1 => fun Q => ∃ c, x = .bl c ∧ Q (.bl (!c)) H1) (fun x H Q d z rx g q => by
    cases d with
    | bool k => cases g; exact ⟨k, rp_bool rx, q _ H (Same.refl H) (.dat (.bl _))⟩
    | _ => cases g) q
theorem d_neg (ha : PE X a (tD X.K X.w fa)) : PE X (.UnaryOp .USub a pos) (tD X.K X.w (dUn gNeg fa)) := by
  refine pe_imp (pe_un un_neg ha) fun σ H Q q => ?_
  exact imp_un (r := fun x H1 => fun Q => rU (fun i => .int (-i)) x H1 Q) (fun x H Q d z rx g q => by
    cases d with
    | int k => cases g; exact ⟨k, rp_int rx, q _ H (Same.refl H) (.dat (.int _))⟩
    | _ => cases g) q
def isNoneD : PyData → Bool
  | .none => true
  | _ => false
theorem isN_ok {K : PySem.W.Frag} {w : World} {H : Hp} {v : V} {d : PyData} (h : Rp K w H v d) : (decide (v = .non)) = isNoneD d := by
  cases d with
  | none => rw [rp_none h]; rfl
  | bool b => rw [rp_bool h]; rfl
  | int b => rw [rp_int h]; rfl
  | str b => rw [rp_str h]; rfl
  | tuple b => obtain ⟨_, _, rfl, _⟩ := rp_tup h; rfl
  | list b => obtain ⟨_, _, rfl, _⟩ := rp_lst h; rfl
  | dict b =>
    cases h with
    | dat h => cases h
    | dct _ _ => rfl
    | obj _ _ _ => rfl
    | kd _ => rfl
theorem d_isN {j pos'} (ha : PE X a (tD X.K X.w fa)) : PE X (.Compare a [.Is] [.Constant .none j pos'] pos) (tD X.K X.w (dUn gIsN fa)) := by
  refine pe_imp (pe_cmp (pc_isN ha)) fun σ H Q q => ?_
  exact imp_un (r := fun x H1 => fun Q => Q (.bl (decide (x = .non))) H1) (fun x H Q d z rx g q => by
    rw [isN_ok rx]
    cases d <;> cases g <;> exact q _ H (Same.refl H) (.dat (.bl _))) q
theorem d_notN {j pos'} (ha : PE X a (tD X.K X.w fa)) : PE X (.Compare a [.IsNot] [.Constant .none j pos'] pos) (tD X.K X.w (dUn gNotN fa)) := by
  refine pe_imp (pe_cmp (pc_notN ha)) fun σ H Q q => ?_
  exact imp_un (r := fun x H1 => fun Q => Q (.bl (!decide (x = .non))) H1) (fun x H Q d z rx g q => by
    rw [isN_ok rx]
    cases d <;> cases g <;> exact q _ H (Same.refl H) (.dat (.bl _))) q
/-- a comparison's value, as a test -/
theorem t_isN {j pos'} (ha : PE X a (tD X.K X.w fa)) : PT X (.Compare a [.Is] [.Constant .none j pos'] pos) (tDT X.K X.w (dTest (dUn gIsN fa))) := by
  refine pt_imp (pt_cmp (pc_isN ha)) fun σ H Q q => ?_
  have q1 := imp_test q
  exact imp_un (r := fun x H1 => fun Q => Q (.bl (decide (x = .non))) H1) (fun x H Q d z rx g q => by
    rw [isN_ok rx]
    cases d <;> cases g <;> exact q _ H (Same.refl H) (.dat (.bl _))) q1
theorem t_notN {j pos'} (ha : PE X a (tD X.K X.w fa)) : PT X (.Compare a [.IsNot] [.Constant .none j pos'] pos) (tDT X.K X.w (dTest (dUn gNotN fa))) := by
  refine pt_imp (pt_cmp (pc_notN ha)) fun σ H Q q => ?_
  have q1 := imp_test q
  exact imp_un (r := fun x H1 => fun Q => Q (.bl (!decide (x = .non))) H1) (fun x H Q d z rx g q => by
    rw [isN_ok rx]
    cases d <;> cases g <;> exact q _ H (Same.refl H) (.dat (.bl _))) q1

/-! ### tests -/
theorem t_val (h : PE X e (tD X.K X.w f)) (he : ∀ whole, isTrue e X.env whole = (do let v ← whole; standAt e.pos; holding [v] (truthy v)) := by intro _; rfl) : PT X e (tDT X.K X.w (dTest f)) :=
  pt_imp (pt_val h he) fun σ H Q q => imp_test q
section
variable {ga gb : DE → Option Bool} {rest : List Expr} {K : PySem.W.Frag} {w : World} {σ : L2.St} {H : Hp}
theorem imp_andT {Q : Bool → Hp → Prop} (q : tDT K w (dAndT ga gb) σ H Q) : tAnd (tDT K w ga) (tDT K w gb) σ H Q := by
  obtain ⟨env, k, E, e, q⟩ := q
  unfold dAndT at e
  cases ea : ga env with
  | none => rw [ea] at e; cases e
  | some c =>
    rw [ea] at e
    simp only [Option.bind_some] at e
    refine ⟨env, c, E, ea, fun H1 s1 => ?_⟩
    cases c with
    | true => exact ⟨env, k, E.mono s1, e, fun H2 s2 => q H2 (s1.trans s2)⟩
    | false => cases e; exact q H1 s1
theorem imp_orT {Q : Bool → Hp → Prop} (q : tDT K w (dOrT ga gb) σ H Q) : tOr (tDT K w ga) (tDT K w gb) σ H Q := by
  obtain ⟨env, k, E, e, q⟩ := q
  unfold dOrT at e
  cases ea : ga env with
  | none => rw [ea] at e; cases e
  | some c =>
    rw [ea] at e
    simp only [Option.bind_some] at e
    refine ⟨env, c, E, ea, fun H1 s1 => ?_⟩
    cases c with
    | false => exact ⟨env, k, E.mono s1, e, fun H2 s2 => q H2 (s1.trans s2)⟩
    | true => cases e; exact q H1 s1
end
theorem pw_imp {u u' : TT} (h : PW X e u) (i : ∀ σ H Q, u' σ H Q → u σ H Q) : PW X e u' := ⟨fun wh pins s σ H Q I q => h.run wh pins s σ H Q I (i σ H Q q)⟩
theorem w_and1 {ga : DE → Option Bool} (ha : PT X a (tDT X.K X.w ga)) : PW X (.BoolOp .And [a] pos) (tDT X.K X.w ga) := pw_and1 ha
theorem w_or1 {ga : DE → Option Bool} (ha : PT X a (tDT X.K X.w ga)) : PW X (.BoolOp .Or [a] pos) (tDT X.K X.w ga) := pw_or1 ha
theorem w_and {ga gb : DE → Option Bool} {rest : List Expr} (ha : PT X a (tDT X.K X.w ga)) (hb : PW X (.BoolOp .And (b :: rest) pos) (tDT X.K X.w gb)) : PW X (.BoolOp .And (a :: b :: rest) pos) (tDT X.K X.w (dAndT ga gb)) :=
  pw_imp (pw_and ha hb) fun σ H Q q => imp_andT q
theorem w_or {ga gb : DE → Option Bool} {rest : List Expr} (ha : PT X a (tDT X.K X.w ga)) (hb : PW X (.BoolOp .Or (b :: rest) pos) (tDT X.K X.w gb)) : PW X (.BoolOp .Or (a :: b :: rest) pos) (tDT X.K X.w (dOrT ga gb)) :=
  pw_imp (pw_or ha hb) fun σ H Q q => imp_orT q
theorem t_not {ga : DE → Option Bool} (ha : PT X a (tDT X.K X.w ga)) : PT X (.UnaryOp .Not a pos) (tDT X.K X.w (dNotT ga)) := by
  refine pt_imp (pt_not ha) fun σ H Q ⟨env, k, E, e, q⟩ => ?_
  unfold dNotT at e
  obtain ⟨c, e1, rfl⟩ := Option.map_eq_some_iff.mp e
  exact ⟨env, c, E, e1, fun H1 s1 => q H1 s1⟩
/-- and, or as values -/
theorem d_one {op} (h : PE X a (tD X.K X.w fa)) : PE X (.BoolOp op [a] pos) (tD X.K X.w fa) := pe_one h
theorem d_and {rest : List Expr} (ha : PE X a (tD X.K X.w fa)) (hb : PE X (.BoolOp .And (b :: rest) pos) (tD X.K X.w fb)) : PE X (.BoolOp .And (a :: b :: rest) pos) (tD X.K X.w (dAnd fa fb)) := by
  refine pe_imp (pe_and ha hb) fun σ H Q ⟨env, z, E, e, q⟩ => ?_
  unfold dAnd dTest at e
  cases ea : fa env with
  | none => rw [ea] at e; cases e
  | some d =>
    rw [ea] at e
    simp only [Option.bind_some] at e
    cases d with
    | bool k =>
      refine ⟨env, _, E, ea, fun v H1 s1 r1 => ⟨k, rp_bool r1, ?_⟩⟩
      cases k with
      | true => exact ⟨env, z, E.mono s1, e, fun u H2 s2 r2 => q u H2 (s1.trans s2) r2⟩
      | false => cases e; exact q _ H1 s1 (.dat (.bl _))
    | _ => cases e
theorem d_or {rest : List Expr} (ha : PE X a (tD X.K X.w fa)) (hb : PE X (.BoolOp .Or (b :: rest) pos) (tD X.K X.w fb)) : PE X (.BoolOp .Or (a :: b :: rest) pos) (tD X.K X.w (dOr fa fb)) := by
  refine pe_imp (pe_or ha hb) fun σ H Q ⟨env, z, E, e, q⟩ => ?_
  unfold dOr dTest at e
  cases ea : fa env with
  | none => rw [ea] at e; cases e
  | some d =>
    rw [ea] at e
    simp only [Option.bind_some] at e
    cases d with
    | bool k =>
      refine ⟨env, _, E, ea, fun v H1 s1 r1 => ⟨k, rp_bool r1, ?_⟩⟩
      cases k with
      | false => exact ⟨env, z, E.mono s1, e, fun u H2 s2 r2 => q u H2 (s1.trans s2) r2⟩
      | true => cases e; exact q _ H1 s1 (.dat (.bl _))
    | _ => cases e
theorem d_if {gc : DE → Option Bool} (hc : PT X c (tDT X.K X.w gc)) (ha : PE X a (tD X.K X.w fa)) (hb : PE X b (tD X.K X.w fb)) : PE X (.IfExp c a b pos) (tD X.K X.w (dIf gc fa fb)) := by
  refine pe_imp (pe_ifExp hc ha hb) fun σ H Q ⟨env, z, E, e, q⟩ => ?_
  unfold dIf at e
  cases ea : gc env with
  | none => rw [ea] at e; cases e
  | some k =>
    rw [ea] at e
    simp only [Option.bind_some] at e
    refine ⟨env, k, E, ea, fun H1 s1 => ?_⟩
    cases k with
    | true => exact ⟨env, z, E.mono s1, e, fun u H2 s2 r2 => q u H2 (s1.trans s2) r2⟩
    | false => exact ⟨env, z, E.mono s1, e, fun u H2 s2 r2 => q u H2 (s1.trans s2) r2⟩
theorem imp_chain {g g' : PyData → PyData → Option PyData} {r r' : R2} {K : PySem.W.Frag} {w : World} {σ : L2.St} {H : Hp} {Q : VK}
    (h : ∀ x y H Q d e z, Rp K w H x d → Rp K w H y e → g d e = some z → (∀ v H', Same H H' → Rp K w H' v z → Q v H') → r x y H Q)
    (h' : ∀ x y H Q d e z, Rp K w H x d → Rp K w H y e → g' d e = some z → (∀ v H', Same H H' → Rp K w H' v z → Q v H') → r' x y H Q) (q : tD K w (dChain g g' fa fb fc) σ H Q) :
    tChain r r' (tD K w fa) (tD K w fb) (tD K w fc) σ H Q := by
  obtain ⟨env, z, E, e, q⟩ := q
  unfold dChain at e
  cases ea : fa env with
  | none => rw [ea] at e; cases e
  | some da =>
    rw [ea] at e
    simp only [Option.bind_some] at e
    cases eb : fb env with
    | none => rw [eb] at e; cases e
    | some db =>
      rw [eb] at e
      simp only [Option.bind_some] at e
      cases eg : g da db with
      | none => rw [eg] at e; cases e
      | some dg =>
        rw [eg] at e
        simp only [Option.bind_some] at e
        cases dg with
        | bool k =>
          refine ⟨env, da, E, ea, fun v1 H1 s1 r1 => ⟨env, db, E.mono s1, eb, fun v2 H2 s2 r2 => h v1 v2 H2 _ da db _ (r1.mono s2) r2 eg fun v3 H3 s3 r3 => ⟨k, rp_bool r3, ?_⟩⟩⟩
          simp only [boolOf, Option.bind_some] at e
          cases k with
          | true =>
            cases ec : fc env with
            | none => rw [ec] at e; cases e
            | some dc =>
              rw [ec] at e
              exact ⟨env, dc, E.mono ((s1.trans s2).trans s3), ec, fun v4 H4 s4 r4 => h' v2 v4 H4 Q db dc z (r2.mono (s3.trans s4)) r4 e fun v5 H5 s5 r5 => q v5 H5 ((((s1.trans s2).trans s3).trans s4).trans s5) r5⟩
          | false => cases e; exact q _ H3 ((s1.trans s2).trans s3) (.dat (.bl _))
        | _ => cases e
theorem d_chain {op op' : CmpOp} {g g' : PyData → PyData → Option PyData} (h : CmpD X op g) (h' : CmpD X op' g') (ha : PE X a (tD X.K X.w fa)) (hb : PE X b (tD X.K X.w fb)) (hc : PE X c (tD X.K X.w fc)) (hm : lastMarks [op, op'] [b, c] = false := by with_unfolding_all rfl) :
    PE X (.Compare a [op, op'] [b, c] pos) (tD X.K X.w (dChain g g' fa fb fc)) := by
  obtain ⟨r, ho, hr⟩ := h.ok
  obtain ⟨r', ho', hr'⟩ := h'.ok
  exact pe_imp (pe_chain ho ho' ha hb hc hm) fun σ H Q q => imp_chain hr hr' q
theorem t_chain {op op' : CmpOp} {g g' : PyData → PyData → Option PyData} (h : CmpD X op g) (h' : CmpD X op' g') (ha : PE X a (tD X.K X.w fa)) (hb : PE X b (tD X.K X.w fb)) (hc : PE X c (tD X.K X.w fc)) (hm : lastMarks [op, op'] [b, c] = false := by with_unfolding_all rfl) :
    PT X (.Compare a [op, op'] [b, c] pos) (tDT X.K X.w (dTest (dChain g g' fa fb fc))) := by
  obtain ⟨r, ho, hr⟩ := h.ok
  obtain ⟨r', ho', hr'⟩ := h'.ok
  exact pt_imp (pt_chain ho ho' ha hb hc hm) fun σ H Q q => imp_chain hr hr' (imp_test q)

/-! ### arguments, displays -/
theorem a_nil : PA X [] (tDA X.K X.w dNilA) := pa_imp pa_nil fun σ H Q ⟨env, ds, E, e, q⟩ => by cases e; exact q [] H (Same.refl H) .nil
theorem a_cons {es : List Expr} {fs : DE → Option (List PyData)} (ha : PE X a (tD X.K X.w fa)) (hr : PA X es (tDA X.K X.w fs)) (hs : starEach (a :: es) X.env = (false, eval a X.env) :: starEach es X.env := by rfl) : PA X (a :: es) (tDA X.K X.w (dConsA fa fs)) := by
  refine pa_imp (pa_cons ha hr hs) fun σ H Q ⟨env, ds, E, e, q⟩ => ?_
  unfold dConsA at e
  cases ea : fa env with
  | none => rw [ea] at e; cases e
  | some d =>
    rw [ea] at e
    simp only [Option.bind_some] at e
    cases es' : fs env with
    | none => rw [es'] at e; cases e
    | some ds' =>
      rw [es'] at e
      cases e
      exact ⟨env, d, E, ea, fun v H1 s1 r1 => ⟨env, ds', E.mono s1, es', fun vs H2 s2 r2 => q (v :: vs) H2 (s1.trans s2) (.cons (r1.mono s2) r2)⟩⟩
theorem d_tup {es : List Expr} {fs : DE → Option (List PyData)} {x1} (h : PA X es (tDA X.K X.w fs)) : PE X (.Tuple es x1 pos) (tD X.K X.w (dTup fs)) := by
  refine pe_imp (pe_tup h) fun σ H Q ⟨env, z, E, e, q⟩ => ?_
  unfold dTup at e
  cases ea : fs env with
  | none => rw [ea] at e; cases e
  | some ds =>
    rw [ea] at e
    simp only [Option.bind_some] at e
    by_cases hc : (decide (ds.length ≤ 1000) && ds.all isDat) = true
    · rw [if_pos hc] at e
      cases e
      rw [Bool.and_eq_true] at hc
      refine ⟨env, ds, E, ea, fun vs H1 s1 r1 => ⟨by rw [r1.length]; exact szOk (Nat.le_trans (of_decide_eq_true hc.1) (by decide)), fun p np => ?_⟩⟩
      have s2 : Same H1 (upd H1 p (.tup vs)) := same_new np
      exact q _ _ (s1.trans s2) (.dat (.tup (SqT.of upd_same) (dpAll_mono s2 _ _ (r1.dp hc.2))))
    · rw [if_neg hc] at e
      cases e
theorem d_lst {es : List Expr} {fs : DE → Option (List PyData)} (h : PA X es (tDA X.K X.w fs)) : PE X (.List es pos) (tD X.K X.w (dLst fs)) := by
  refine pe_imp (pe_lst h) fun σ H Q ⟨env, z, E, e, q⟩ => ?_
  unfold dLst at e
  cases ea : fs env with
  | none => rw [ea] at e; cases e
  | some ds =>
    rw [ea] at e
    simp only [Option.bind_some] at e
    by_cases hc : (decide (ds.length ≤ 1000) && ds.all isDat) = true
    · rw [if_pos hc] at e
      cases e
      rw [Bool.and_eq_true] at hc
      refine ⟨env, ds, E, ea, fun vs H1 s1 r1 => ⟨by rw [r1.length]; exact szOk (Nat.le_trans (of_decide_eq_true hc.1) (by decide)), fun p np => ?_⟩⟩
      have s2 : Same H1 (upd H1 p (.lst vs)) := same_new np
      exact q _ _ (s1.trans s2) (.dat (.lst (SqL.of upd_same) (dpAll_mono s2 _ _ (r1.dp hc.2))))
    · rw [if_neg hc] at e
      cases e

/-! ### calls of built-ins -/
structure BiD (X : Cx) (v : Value) (g : List PyData → Option PyData) : Prop where
  ok : ∃ r, CallR X v r ∧ ∀ xs H Q ds z, RpAll X.K X.w H xs ds → g ds = some z → (∀ v H', Same H H' → Rp X.K X.w H' v z → Q v H') → r xs H Q
theorem d_callB {id : String} {x : Str} {es : List Expr} {g : List PyData → Option PyData} {fs : DE → Option (List PyData)} (h : BiD X (.builtin id) g) (hm : X.mg x = none) (hv : bootBuiltins x = some (.builtin id)) (ha : PA X (e :: es) (tDA X.K X.w fs))
    (hg : Gl X x := by rfl) (hn : x ≠ "__name__" := by decide) (hdb : (x == ("__debug__" : Str)) = false := by decide) (he : starEach (e :: es) X.env = (false, eval e X.env) :: starEach es X.env := by rfl) (hpl : (backTo pos (starEach es X.env)).any (·.1) = false := by rfl) :
    PE X (.Call (.Name x p) (e :: es) [] pos) (tD X.K X.w (dApp g fs)) := by
  obtain ⟨r, hc, hr⟩ := h.ok
  exact pe_imp (pe_callB hc hg hm hv ha hn hdb he hpl) fun σ H Q q => imp_app (r := fun xs H1 Q => r xs H1 Q) hr q
theorem d_callTy {T : String} {x : Str} {es : List Expr} {g : List PyData → Option PyData} {fs : DE → Option (List PyData)} (h : BiD X (.type T) g) (hm : X.mg x = none) (hv : bootBuiltins x = some (.type T)) (ha : PA X (e :: es) (tDA X.K X.w fs))
    (hg : Gl X x := by rfl) (hn : x ≠ "__name__" := by decide) (hdb : (x == ("__debug__" : Str)) = false := by decide) (he : starEach (e :: es) X.env = (false, eval e X.env) :: starEach es X.env := by rfl) (hpl : (backTo pos (starEach es X.env)).any (·.1) = false := by rfl) :
    PE X (.Call (.Name x p) (e :: es) [] pos) (tD X.K X.w (dApp g fs)) := by
  obtain ⟨r, hc, hr⟩ := h.ok
  exact pe_imp (pe_callTy hc hg hm hv ha hn hdb he hpl) fun σ H Q q => imp_app (r := fun xs H1 Q => r xs H1 Q) hr q
theorem rpAll1 {K : PySem.W.Frag} {w : World} {H : Hp} {xs : List V} {d : PyData} (h : RpAll K w H xs [d]) : ∃ v, xs = [v] ∧ Rp K w H v d := by
  cases h with
  | cons h t => cases t; exact ⟨_, rfl, h⟩
theorem rpAll2 {K : PySem.W.Frag} {w : World} {H : Hp} {xs : List V} {d e : PyData} (h : RpAll K w H xs [d, e]) : ∃ v u, xs = [v, u] ∧ Rp K w H v d ∧ Rp K w H u e := by
  cases h with
  | cons h t =>
    obtain ⟨u, rfl, h2⟩ := rpAll1 t
    exact ⟨_, _, rfl, h, h2⟩
theorem one_of {g : List PyData → Option PyData} {z : PyData} {ds : List PyData} (h : g ds = some z) (h0 : g [] = none := by rfl) (h2 : ∀ a b t, g (a :: b :: t) = none := by intro a b t; cases a <;> rfl) : ∃ d, ds = [d] := by
  cases ds with
  | nil => rw [h0] at h; cases h
  | cons a t =>
    cases t with
    | nil => exact ⟨a, rfl⟩
    | cons b t => rw [h2] at h; cases h
theorem b_len : BiD X (.builtin "len") gLenA := by
  refine ⟨_, call_len_seq, fun xs H Q ds z r g q => ?_⟩
  obtain ⟨d, rfl⟩ := one_of g
  · obtain ⟨v, rfl, h⟩ := rpAll1 r
    cases d with
    | tuple es =>
      cases g
      obtain ⟨ad, xs, rfl, h1, h2⟩ := rp_tup h
      exact ⟨ad, xs, rfl, .inr h1, by rw [dpAll_length h2]; exact q _ H (Same.refl H) (.dat (.int _))⟩
    | list es =>
      cases g
      obtain ⟨ad, xs, rfl, h1, h2⟩ := rp_lst h
      exact ⟨ad, xs, rfl, .inl h1, by rw [dpAll_length h2]; exact q _ H (Same.refl H) (.dat (.int _))⟩
    | _ => cases g
theorem b_int : BiD X (.type "int") gIntA := by
  refine ⟨_, call_int1, fun xs H Q ds z r g q => ?_⟩
  obtain ⟨d, rfl⟩ := one_of g
  · obtain ⟨v, rfl, h⟩ := rpAll1 r
    cases d with
    | int i => cases g; rw [rp_int h]; exact .inl ⟨i, rfl, q _ H (Same.refl H) (.dat (.int _))⟩
    | bool i => cases g; rw [rp_bool h]; exact .inr ⟨i, rfl, q _ H (Same.refl H) (.dat (.int _))⟩
    | _ => cases g
theorem b_min (hc : X.calm = true) : BiD X (.builtin "min") gMinA := by
  refine ⟨_, call_min2 hc, fun xs H Q ds z r g q => ?_⟩
  obtain ⟨d, e, rfl⟩ : ∃ d e, ds = [d, e] := by
    cases ds with
    | nil => cases g
    | cons a t =>
      cases t with
      | nil => cases a <;> cases g
      | cons b t =>
        cases t with
        | nil => exact ⟨a, b, rfl⟩
        | cons c t => cases a <;> cases b <;> cases g
  · obtain ⟨v, u, rfl, h, h'⟩ := rpAll2 r
    cases d with
    | int i =>
      cases e with
      | int j => cases g; rw [rp_int h, rp_int h']; exact ⟨i, j, rfl, q _ H (Same.refl H) (.dat (.int _))⟩
      | _ => cases g
    | _ => cases e <;> cases g
theorem b_all (hc : X.calm = true) : BiD X (.builtin "all") gAllA := by
  refine ⟨_, cr_all hc, fun xs H Q ds z r g q => ?_⟩
  obtain ⟨d, rfl⟩ := one_of g
  · obtain ⟨v, rfl, h⟩ := rpAll1 r
    cases d with
    | list es =>
      obtain ⟨bs, e1, rfl⟩ := Option.map_eq_some_iff.mp (show (boolsOf es).map (fun bs => PyData.bool (bs.all id)) = some z from g)
      obtain ⟨ad, xs, rfl, h1, h2⟩ := rp_lst h
      have e2 := boolsOf_vals h2 e1
      subst e2
      exact ⟨ad, bs, rfl, h1, q _ H (Same.refl H) (.dat (.bl _))⟩
    | _ => cases g
theorem b_tuple : BiD X (.type "tuple") gTupleA := by
  refine ⟨_, call_tuple_of, fun xs H Q ds z r g q => ?_⟩
  obtain ⟨d, rfl⟩ := one_of g
  · obtain ⟨v, rfl, h⟩ := rpAll1 r
    cases d with
    | tuple es =>
      cases g
      obtain ⟨ad, xs, rfl, h1, h2⟩ := rp_tup h
      exact ⟨ad, xs, rfl, .inr ⟨h1, q _ H (Same.refl H) h⟩⟩
    | list es =>
      cases g
      obtain ⟨ad, xs, rfl, h1, h2⟩ := rp_lst h
      exact ⟨ad, xs, rfl, .inl ⟨h1, fun l nl => q _ _ (same_new nl) (.dat (.tup (SqT.of upd_same) (dpAll_mono (same_new nl) _ _ h2)))⟩⟩
    | _ => cases g
theorem b_list : BiD X (.type "list") gListA := by
  refine ⟨_, call_list_of, fun xs H Q ds z r g q => ?_⟩
  obtain ⟨d, rfl⟩ := one_of g
  · obtain ⟨v, rfl, h⟩ := rpAll1 r
    cases d with
    | tuple es =>
      cases g
      obtain ⟨ad, xs, rfl, h1, h2⟩ := rp_tup h
      exact ⟨ad, xs, rfl, .inr h1, fun l nl => q _ _ (same_new nl) (.dat (.lst (SqL.of upd_same) (dpAll_mono (same_new nl) _ _ h2)))⟩
    | list es =>
      cases g
      obtain ⟨ad, xs, rfl, h1, h2⟩ := rp_lst h
      exact ⟨ad, xs, rfl, .inl h1, fun l nl => q _ _ (same_new nl) (.dat (.lst (SqL.of upd_same) (dpAll_mono (same_new nl) _ _ h2)))⟩
    | _ => cases g

/-! ### slices -/
def tDO (K : PySem.W.Frag) (w : World) (f : DO) : TO := fun σ H Q => ∃ env o, EnvOk K w H σ env ∧ f env = some o ∧ ∀ H', Same H H' → Q o H'
theorem po_imp {eo : Option Expr} {u u' : TO} (h : PO X eo u) (i : ∀ σ H Q, u' σ H Q → u σ H Q) : PO X eo u' := ⟨fun pins s σ H Q I q => h.run pins s σ H Q I (i σ H Q q)⟩
theorem o_none : PO X none (tDO X.K X.w oNone) := po_imp po_none fun σ H Q ⟨env, o, E, e, q⟩ => by cases e; exact q H (Same.refl H)
theorem o_some (h : PE X e (tD X.K X.w f)) : PO X (some e) (tDO X.K X.w (oSome f)) := by
  refine po_imp (po_some h) fun σ H Q ⟨env, o, E, e, q⟩ => ?_
  unfold oSome at e
  cases ea : f env with
  | none => rw [ea] at e; cases e
  | some d =>
    rw [ea] at e
    cases d with
    | int i => cases e; exact ⟨env, _, E, ea, fun v H1 s1 r1 => ⟨i, rp_int r1, q H1 s1⟩⟩
    | _ => cases e
theorem d_slice {lo hi : Option Expr} {fl fh : DO} (ha : PE X a (tD X.K X.w fa)) (hl : PO X lo (tDO X.K X.w fl)) (hh : PO X hi (tDO X.K X.w fh)) : PE X (.Subscript a (.Slice lo hi none p2) pos) (tD X.K X.w (dSlice fa fl fh)) := by
  refine pe_imp (pe_slice (sl_tupA.or sl_list) ha hl hh) fun σ H Q ⟨env, z, E, e, q⟩ => ?_
  unfold dSlice at e
  cases ea : fa env with
  | none => rw [ea] at e; cases e
  | some d =>
    rw [ea] at e
    simp only [Option.bind_some] at e
    cases el : fl env with
    | none => rw [el] at e; cases e
    | some lo' =>
      rw [el] at e
      simp only [Option.bind_some] at e
      cases eh : fh env with
      | none => rw [eh] at e; cases e
      | some hi' =>
        rw [eh] at e
        simp only [Option.bind_some] at e
        refine ⟨env, d, E, ea, fun v H1 s1 r1 => ⟨env, lo', E.mono s1, el, fun H2 s2 => ⟨env, hi', E.mono (s1.trans s2), eh, fun H3 s3 => ?_⟩⟩⟩
        have r3 := r1.mono (s2.trans s3)
        have s13 := (s1.trans s2).trans s3
        cases d with
        | tuple es =>
          cases e
          obtain ⟨ad, xs, rfl, h1, h2⟩ := rp_tup r3
          refine .inl ⟨ad, xs, rfl, h1, fun hw => ?_, fun _ p np => q _ _ (s13.trans (same_new np)) (.dat (.tup (SqT.of upd_same) (dpAll_mono (same_new np) _ _ (dpAll_cut h2 _ _))))⟩
          have ec : cutD es lo' hi' = es := by
            unfold cutD
            rw [← dpAll_length h2, hw.1, hw.2]
            simp [dpAll_length h2]
          rw [ec] at q
          exact q _ H3 s13 r3
        | list es =>
          cases e
          obtain ⟨ad, xs, rfl, h1, h2⟩ := rp_lst r3
          exact .inr ⟨ad, xs, rfl, h1, fun p np => q _ _ (s13.trans (same_new np)) (.dat (.lst (SqL.of upd_same) (dpAll_mono (same_new np) _ _ (dpAll_cut h2 _ _))))⟩
        | _ => cases e
theorem gSteps_some {d z : PyData} (g : gSteps d = some z) : ∃ dd, d = .dict [(.none, dd)] ∧ z = dd := by
  unfold gSteps at g
  split at g
  · cases g; exact ⟨_, rfl, rfl⟩
  · cases g
/-- script.steps -/
theorem d_steps (ha : PE X a (tD X.K X.w fa)) (hb : attributeBase a "steps" X.env (eval a X.env) = eval a X.env := by rfl) : PE X (.Attribute a "steps" pos) (tD X.K X.w (dUn gSteps fa)) := by
  refine pe_imp (pe_fld ha hb) fun σ H Q q => ?_
  exact imp_un (r := fun x H1 => fun Q => ∃ a C dx fs v, x = .ref a ∧ H1 a = some (.ins C dx fs) ∧ Cls X.K C ∧ NoAttr X.K C "steps" ∧ fs.lookup ("steps" : Str) = some v ∧ Q v H1) (fun x H Q d z rx g q => by
    obtain ⟨dd, rfl, rfl⟩ := gSteps_some g
    cases rx with
    | dat h => cases h
    | dct h k =>
      exfalso
      cases k with
      | @cons p _ _ _ k1 _ =>
        obtain ⟨pk, pv⟩ := p
        cases pk <;> cases k1.1
    | @obj a C dx v d h c k => exact ⟨a, C, dx, _, v, rfl, h, c.cl, c.na, rfl, q _ H (Same.refl H) (.dat k)⟩
    | kd k =>
      exfalso
      have := k.keys
      simp [isStrK] at this) q
end
end Dn
set_option Elab.async false
set_option linter.all false
set_option maxRecDepth 100000
set_option maxHeartbeats 4000000
namespace Dn
open PySem PySem.Spec L2 PyProof.Rows

/-! ### isinstance -/
def typeD : PyData → Option String
  | .none => some "NoneType"
  | .bool _ => some "bool"
  | .int _ => some "int"
  | .str _ => some "str"
  | .list _ => some "list"
  | .tuple _ => some "tuple"
  | .dict _ => none
/-- the classes that are asked about -/
inductive IsT where
  | str | int | bool | tuple | list
def IsT.nm : IsT → String
  | .str => "str" | .int => "int" | .bool => "bool" | .tuple => "tuple" | .list => "list"
def isD? (T : IsT) : PyData → Option Bool
  | .none => some false
  | .bool _ => (match T with | .bool => some true | .int => some true | _ => some false)
  | .int _ => (match T with | .int => some true | _ => some false)
  | .str _ => (match T with | .str => some true | _ => some false)
  | .list _ => (match T with | .list => some true | _ => some false)
  | .tuple _ => (match T with | .tuple => some true | _ => some false)
  | .dict _ => none
theorem kitB_ok {T : IsT} {d : PyData} {b : Bool} {t : String} (ht : typeD d = some t) (h : isD? T d = some b) : kitB t T.nm = some b := by
  cases d with
  | dict _ => cases h
  | none => cases ht; cases T <;> cases h <;> decide +kernel
  | bool _ => cases ht; cases T <;> cases h <;> decide +kernel
  | int _ => cases ht; cases T <;> cases h <;> decide +kernel
  | str _ => cases ht; cases T <;> cases h <;> decide +kernel
  | list _ => cases ht; cases T <;> cases h <;> decide +kernel
  | tuple _ => cases ht; cases T <;> cases h <;> decide +kernel
theorem tyX_of {K : PySem.W.Frag} {w : World} {H : Hp} {v : V} {d : PyData} {t : String} (h : Rp K w H v d) (ht : typeD d = some t) : TyX K H v (.type t) := by
  cases d with
  | dict _ => cases ht
  | none => cases ht; rw [rp_none h]; exact .base .non
  | bool b => cases ht; rw [rp_bool h]; exact .base (.bl b)
  | int b => cases ht; rw [rp_int h]; exact .base (.int b)
  | str b => cases ht; rw [rp_str h]; exact .base (.str b)
  | list ds =>
    cases ht
    obtain ⟨a, xs, rfl, h1, _⟩ := rp_lst h
    rcases h1 with (h1 | ⟨o, h1⟩) | ⟨o, its, n, h1, h2, _⟩
    · exact .base (.lst h1)
    · exact .base (.frz h1)
    · exact .kList h1 h2
  | tuple ds =>
    cases ht
    obtain ⟨a, xs, rfl, h1, _⟩ := rp_tup h
    rcases h1 with (h1 | ⟨o, h1⟩) | ⟨o, its, n, h1, h2, _⟩
    · exact .base (.tup h1)
    · exact .fTuple h1
    · exact .kTuple h1 h2
def gIsi (T : IsT) (d : PyData) : Option PyData := (isD? T d).map .bool
section
variable {X : Cx} {a b c e : Expr} {fa fb fc f : DF} {pos p p2 p3 : Pos}
theorem d_isi (T : IsT) {x : Str} (hm : X.mg "isinstance" = none) (hm2 : X.mg x = none) (hv : bootBuiltins x = some (.type T.nm)) (ha : PE X a (tD X.K X.w fa)) (hg : Gl X "isinstance" := by rfl) (hg2 : Gl X x := by rfl)
    (hn : x ≠ "__name__" := by decide) (hdb : (x == ("__debug__" : Str)) = false := by decide)
    (he : starEach [a, .Name x p2] X.env = (false, eval a X.env) :: starEach [.Name x p2] X.env := by rfl) (he2 : starEach [.Name x p2] X.env = (false, eval (.Name x p2) X.env) :: starEach [] X.env := by rfl) (hpl : (backTo pos (starEach [.Name x p2] X.env)).any (·.1) = false := by rfl) :
    PE X (.Call (.Name "isinstance" p) [a, .Name x p2] [] pos) (tD X.K X.w (dUn (gIsi T) fa)) := by
  refine pe_imp (pe_callB call_isi hg hm (by decide +kernel) (pa_cons ha (pa_cons (pe_bltn (v := .ty T.nm) hg2 hm2 hv rfl hn hdb) pa_nil he2) he) (by decide) (by decide) he hpl) fun σ H Q q => ?_
  exact imp_un (r := fun x H1 => fun Q => rIsi X.K [x, .ty T.nm] H1 Q) (fun x H Q d z rx g q => by
    obtain ⟨b, e1, rfl⟩ := Option.map_eq_some_iff.mp (show (isD? T d).map PyData.bool = some z from g)
    cases ht : typeD d with
    | none => cases d <;> first | (simp [typeD] at ht; done) | (simp [isD?] at e1; done)
    | some t => exact ⟨x, .ty T.nm, .type t, .type T.nm, b, rfl, .ty _, tyX_of rx ht, kit_ty (kitB_ok ht e1), q _ H (Same.refl H) (.dat (.bl _))⟩) q
end

/-! ### data without lists: untouched by a list that grows -/
mutual
def noL : PyData → Bool
  | .list _ => false
  | .tuple ds => noLAll ds
  | .dict _ => false
  | _ => true
def noLAll : List PyData → Bool
  | [] => true
  | d :: ds => noL d && noLAll ds
end
section
variable {K : PySem.W.Frag} {H H' : Hp}
/-- all that is no list stands -/
def SameT (H H' : Hp) : Prop := ∀ a o, H a = some o → (∀ xs, o ≠ .lst xs) → H' a = some o
theorem sameT_upd {D : Addr} {xs : List V} {o : HO} (h : H D = some (.lst xs)) : SameT H (upd H D o) := fun a u e n => by
  have : a ≠ D := by
    rintro rfl
    rw [h] at e
    cases e
    exact n xs rfl
  rw [upd_ne this]
  exact e
theorem sqT_sameT {a : Addr} {xs : List V} (e : SameT H H') (h : SqT K H a xs) : SqT K H' a xs := by
  rcases h with (h | ⟨o, h⟩) | h
  · exact .inl (.inl (e _ _ h (by intro z q; cases q)))
  · exact .inl (.inr ⟨o, e _ _ h (by intro z q; cases q)⟩)
  · exact .inr h
mutual
theorem dp_sameT (e : SameT H H') : ∀ (d : PyData) (v : V), noL d = true → Dp K H v d → Dp K H' v d
  | .none, _, _, h => by cases h; exact .non
  | .bool b, _, _, h => by cases h; exact .bl b
  | .int i, _, _, h => by cases h; exact .int i
  | .str x, _, _, h => by cases h; exact .str x
  | .list ds, _, n, h => by cases n
  | .tuple ds, _, n, h => by
    cases h with
    | tup hs ha => exact .tup (sqT_sameT e hs) (dpAll_sameT e ds _ n ha)
  | .dict _, _, n, h => by cases n
theorem dpAll_sameT (e : SameT H H') : ∀ (ds : List PyData) (vs : List V), noLAll ds = true → DpAll K H vs ds → DpAll K H' vs ds
  | [], _, _, h => by cases h; exact .nil
  | d :: ds, _, n, h => by
    simp only [noLAll, Bool.and_eq_true] at n
    cases h with
    | cons h1 h2 => exact .cons (dp_sameT e d _ n.1 h1) (dpAll_sameT e ds _ n.2 h2)
end
theorem noLAll_append : ∀ {xs ys : List PyData}, noLAll (xs ++ ys) = (noLAll xs && noLAll ys)
  | [], _ => by simp [noLAll]
  | x :: xs, ys => by simp [noLAll, noLAll_append, Bool.and_assoc]
theorem noL_isDat {d : PyData} (h : noL d = true) : isDat d = true := by cases d <;> first | rfl | cases h
end

/-! ### comprehensions -/
def lcGo (gc : DE → Option Bool) (fe : DF) : List DE → Option (List PyData)
  | [] => some []
  | x :: r => (gc x).bind fun b => if b = true then (fe x).bind fun d => if noL d = true then (lcGo gc fe r).map (d :: ·) else none else lcGo gc fe r
def yesT : DE → Option Bool := fun _ => some true
def dLc (fs : DF) (i : Nat) (gc : DE → Option Bool) (fe : DF) : DF := fun env => (fs env).bind fun s => match s with
  | .tuple xs => if xs.length ≤ 100000 then (lcGo gc fe (xs.map fun x => env.set i (some x))).map .list else none
  | _ => none
def dLcL (fs : DF) (i : Nat) (gc : DE → Option Bool) (fe : DF) : DF := fun env => (fs env).bind fun s => match s with
  | .list xs => if xs.length ≤ 100000 then (lcGo gc fe (xs.map fun x => env.set i (some x))).map .list else none
  | _ => none
/-- over zip of two tuples -/
def dLcZ (fa fb : DF) (i j : Nat) (gc : DE → Option Bool) (fe : DF) : DF := fun env => (fa env).bind fun s => (fb env).bind fun u => match s, u with
  | .tuple xs, .tuple ys => if xs.length ≤ 100000 then (lcGo gc fe ((xs.zip ys).map fun p => (env.set i (some p.1)).set j (some p.2))).map .list else none
  | _, _ => none
theorem wipe_get (σ : L2.St) (k : Nat) : ∀ vs : List Nat, (L2.wipe σ vs)[k]? = if k ∈ vs then (if k < σ.length then some none else none) else σ[k]?
  | [] => by simp [L2.wipe]
  | v :: vs => by
    unfold L2.wipe
    rw [List.getElem?_set]
    by_cases h : v = k
    · subst h
      simp [L2.wipe_length]
    · rw [if_neg h, wipe_get σ k vs]
      have : (k ∈ v :: vs) ↔ k ∈ vs := by simp [Ne.symm h]
      simp only [this]
theorem wipe_wipe (σ : L2.St) (vs : List Nat) : L2.wipe (L2.wipe σ vs) vs = L2.wipe σ vs := by
  apply List.ext_getElem?
  intro k
  rw [wipe_get, wipe_get, L2.wipe_length]
  split <;> simp_all
theorem wipe_set {σ : L2.St} {i : Nat} {v : V} {vs : List Nat} (h : i ∈ vs) : L2.wipe (σ.set i (some v)) vs = L2.wipe σ vs := by
  apply List.ext_getElem?
  intro k
  rw [wipe_get, wipe_get, List.length_set]
  split
  · rfl
  · rename_i hk
    rw [List.getElem?_set_ne]
    rintro rfl
    exact hk h
section
variable {K : PySem.W.Frag} {w : World} {H H1 H' : Hp} {σ : L2.St} {env : DE} {i : Nat} {gc : DE → Option Bool} {fe : DF} {D : Addr}
/-- behind some turns -/
def LcI (K : PySem.W.Frag) (H1 : Hp) (gc : DE → Option Bool) (fe : DF) (full : List PyData) (D : Addr) (rest : List DE) (n : Nat) (H' : Hp) : Prop :=
  Same H1 H' ∧ ∃ acc ds t, H' D = some (.lst acc) ∧ acc.length ≤ n ∧ DpAll K H' acc ds ∧ noLAll ds = true ∧ lcGo gc fe rest = some t ∧ full = ds ++ t
theorem lc_turn {full : List PyData} {rest : List DE} {n : Nat} {Q : Hp → Prop} {σ2 : L2.St} {env2 : DE} (hD : H1 D = none) (hn : n < 100000) (s0 : Same H1 H') (I : LcI K H1 gc fe full D (env2 :: rest) n H') (E2 : EnvOk K w H' σ2 env2)
    (hQ : ∀ H2, LcI K H1 gc fe full D rest (n + 1) H2 → Q H2) :
    tDT K w gc σ2 H' fun b H3 => if b = true then tD K w fe σ2 H3 fun y H4 => ∃ acc, H4 D = some (.lst acc) ∧ acc.length < sizeLine ∧ Q (upd H4 D (.lst (acc ++ [y]))) else Q H3 := by
  obtain ⟨s1, acc, ds, t, h1, h2, h3, h4, h5, h6⟩ := I
  have h5' : ((gc env2).bind fun b => if b = true then (fe env2).bind fun d => if noL d = true then (lcGo gc fe rest).map (d :: ·) else none else lcGo gc fe rest) = some t := h5
  cases eg : gc env2 with
  | none => rw [eg] at h5'; cases h5'
  | some b =>
    rw [eg] at h5'
    simp only [Option.bind_some] at h5'
    refine ⟨_, b, E2, eg, fun H3 s3 => ?_⟩
    cases b with
    | false => exact hQ H3 ⟨s1.trans s3, acc, ds, t, s3 _ _ h1, by omega, dpAll_mono s3 _ _ h3, h4, h5', h6⟩
    | true =>
      simp only [if_true] at h5'
      show tD K w fe σ2 H3 fun y H4 => ∃ acc, H4 D = some (.lst acc) ∧ acc.length < sizeLine ∧ Q (upd H4 D (.lst (acc ++ [y])))
      cases ef : fe env2 with
      | none => rw [ef] at h5'; cases h5'
      | some d =>
        rw [ef] at h5'
        simp only [Option.bind_some] at h5'
        by_cases hd : noL d = true
        · rw [if_pos hd] at h5'
          obtain ⟨t', h7, rfl⟩ := Option.map_eq_some_iff.mp h5'
          refine ⟨_, d, E2.mono s3, ef, fun y H4 s4 r4 => ⟨acc, s4 _ _ (s3 _ _ h1), Nat.lt_of_le_of_lt (Nat.le_trans h2 (Nat.le_of_lt hn)) (by decide), hQ _ ⟨?_, acc ++ [y], ds ++ [d], t', upd_same, by simp; omega, ?_, by rw [noLAll_append]; simp [noLAll, h4, hd], h7, by rw [h6]; simp⟩⟩⟩
          · intro c o ec
            rw [upd_ne (ne_of_none ec hD)]
            exact s4 _ _ (s3 _ _ (s1 _ _ ec))
          · have sT : SameT H4 (upd H4 D (.lst (acc ++ [y]))) := sameT_upd (s4 _ _ (s3 _ _ h1))
            exact dpAll_append (dpAll_sameT sT _ _ h4 (dpAll_mono (s3.trans s4) _ _ h3)) (.cons (dp_sameT sT _ _ hd (r4.dp (noL_isDat hd))) .nil)
        · rw [if_neg hd] at h5'
          cases h5'
theorem lc_fin {full : List PyData} {n : Nat} (I : LcI K H1 gc fe full D [] n H') : ∃ acc, H' D = some (.lst acc) ∧ DpAll K H' acc full ∧ Same H1 H' := by
  obtain ⟨s1, acc, ds, t, h1, h2, h3, h4, h5, h6⟩ := I
  cases h5
  rw [List.append_nil] at h6
  subst h6
  exact ⟨acc, h1, h3, s1⟩
end

section
variable {X : Cx} {elt iter c : Expr} {fs fe : DF} {gc : DE → Option Bool} {pos p : Pos} {scope : Scope} {x : Str}
theorem env_lc {K : PySem.W.Frag} {w : World} {H : Hp} {σ : L2.St} {env : DE} {i : Nat} {v : V} {d : PyData} (E : EnvOk K w H σ env) (r : Rp K w H v d) : EnvOk K w H ((L2.wipe σ [i]).set i (some v)) (env.set i (some d)) := by
  have := (E.wipe [i]).set i r
  simpa [List.set_set] using this
theorem imp_lcT {K : PySem.W.Frag} {w : World} {i : Nat} {σ : L2.St} {H : Hp} {Q : VK} (q : tD K w (dLc fs i gc fe) σ H Q) : tLc (iTup K (tD K w fs)) (gName i) (tDT K w gc) (tD K w fe) [i] σ H Q := by
  obtain ⟨env, z, E, e, q⟩ := q
  unfold dLc at e
  cases ea : fs env with
  | none => rw [ea] at e; cases e
  | some d =>
    rw [ea] at e
    simp only [Option.bind_some] at e
    cases d with
    | tuple ds =>
      have e : (if ds.length ≤ 100000 then (lcGo gc fe (ds.map fun x => env.set i (some x))).map .list else none) = some z := e
      by_cases hl : ds.length ≤ 100000
      · rw [if_pos hl] at e
        obtain ⟨t, e1, rfl⟩ := Option.map_eq_some_iff.mp e
        refine ⟨env, _, E, ea, fun v H1 s1 r1 => ?_⟩
        obtain ⟨a, xs, rfl, h1, h2⟩ := rp_tup r1
        have hlen := dpAll_length h2
        refine ⟨a, rfl, ⟨xs, h1⟩, fun D hD => ?_⟩
        refine lc_tup (xs := xs) (fun j H' => LcI K H1 gc fe t D ((ds.drop j).map fun x => env.set i (some x)) j H') ⟨same_new hD, [], [], t, upd_same, Nat.le_refl _, .nil, rfl, by simpa using e1, rfl⟩ (fun j H' _ I => sqT_mono I.1 h1) (fun j y H' hj I => ⟨by rw [wipe_set (by simp), wipe_wipe], ?_⟩) (fun H' I => ?_)
        · have hj' : j < ds.length := by rw [← hlen]; exact (List.getElem?_eq_some_iff.mp hj).1
          obtain ⟨y', g1, g2⟩ := dpAll_get (i := j) (d := ds[j]) h2 (List.getElem?_eq_getElem hj')
          rw [hj] at g1
          cases g1
          rw [List.drop_eq_getElem_cons hj', List.map_cons] at I
          exact lc_turn hD (by omega) I.1 I (env_lc (E.mono (s1.trans I.1)) ((Rp.dat g2).mono I.1)) fun H2 I2 => I2
        · have I' : LcI K H1 gc fe t D [] xs.length H' := by
            have : ds.drop xs.length = [] := by rw [hlen]; simp
            rw [this] at I
            exact I
          obtain ⟨acc, g1, g2, g3⟩ := lc_fin I'
          exact q _ H' (s1.trans g3) (.dat (.lst (SqL.of g1) g2))
      · rw [if_neg hl] at e
        cases e
    | _ => cases e
theorem imp_lcL {K : PySem.W.Frag} {w : World} {i : Nat} {σ : L2.St} {H : Hp} {Q : VK} (q : tD K w (dLcL fs i gc fe) σ H Q) : tLc (iList K (tD K w fs)) (gName i) (tDT K w gc) (tD K w fe) [i] σ H Q := by
  obtain ⟨env, z, E, e, q⟩ := q
  unfold dLcL at e
  cases ea : fs env with
  | none => rw [ea] at e; cases e
  | some d =>
    rw [ea] at e
    simp only [Option.bind_some] at e
    cases d with
    | list ds =>
      have e : (if ds.length ≤ 100000 then (lcGo gc fe (ds.map fun x => env.set i (some x))).map .list else none) = some z := e
      by_cases hl : ds.length ≤ 100000
      · rw [if_pos hl] at e
        obtain ⟨t, e1, rfl⟩ := Option.map_eq_some_iff.mp e
        refine ⟨env, _, E, ea, fun v H1 s1 r1 => ?_⟩
        obtain ⟨a, xs, rfl, h1, h2⟩ := rp_lst r1
        have hlen := dpAll_length h2
        refine ⟨a, rfl, ⟨xs, h1⟩, fun D hD => ?_⟩
        refine lc_list (xs := xs) (fun j H' => LcI K H1 gc fe t D ((ds.drop j).map fun x => env.set i (some x)) j H') ⟨same_new hD, [], [], t, upd_same, Nat.le_refl _, .nil, rfl, by simpa using e1, rfl⟩ (fun j H' _ I => I.1.seq h1) (fun j y H' hj I => ⟨by rw [wipe_set (by simp), wipe_wipe], ?_⟩) (fun H' I => ?_)
        · have hj' : j < ds.length := by rw [← hlen]; exact (List.getElem?_eq_some_iff.mp hj).1
          obtain ⟨y', g1, g2⟩ := dpAll_get (i := j) (d := ds[j]) h2 (List.getElem?_eq_getElem hj')
          rw [hj] at g1
          cases g1
          rw [List.drop_eq_getElem_cons hj', List.map_cons] at I
          exact lc_turn hD (by omega) I.1 I (env_lc (E.mono (s1.trans I.1)) ((Rp.dat g2).mono I.1)) fun H2 I2 => I2
        · have I' : LcI K H1 gc fe t D [] xs.length H' := by
            have : ds.drop xs.length = [] := by rw [hlen]; simp
            rw [this] at I
            exact I
          obtain ⟨acc, g1, g2, g3⟩ := lc_fin I'
          exact q _ H' (s1.trans g3) (.dat (.lst (SqL.of g1) g2))
      · rw [if_neg hl] at e
        cases e
    | _ => cases e
/-- over zip of two tuples -/
theorem lc_zipT {K : PySem.W.Frag} {a b : Addr} {xs ys : List V} {g : TG} {tt : TT} {te : TE} {vs : List Nat} {σ : L2.St} {H1 : Hp} {D : Addr} {Qd : Hp → Prop} (Pv : Nat → Hp → Prop) (h0 : Pv 0 (upd H1 D (.lst []))) (hl : ∀ i H, Pv i H → SqT K H a xs ∧ SqT K H b ys)
    (hs : ∀ i x y T H, xs[i]? = some x → ys[i]? = some y → Pv i H → H T = none → g (.ref T) (L2.wipe σ vs) (upd H T (.tup [x, y])) fun σ2 H2 => L2.wipe σ2 vs = L2.wipe σ vs ∧ tt σ2 H2 fun b H3 =>
      if b = true then te σ2 H3 fun y H4 => ∃ acc, H4 D = some (.lst acc) ∧ acc.length < sizeLine ∧ Pv (i + 1) (upd H4 D (.lst (acc ++ [y]))) else Pv (i + 1) H3) (hd : ∀ H, Pv (min xs.length ys.length) H → Qd H) :
    ∃ W : Nat → Nat → Hp → Prop, (∃ m, W 0 m (upd H1 D (.lst []))) ∧ ∀ i m H, W i m H →
      ((RZ.ItzT K a b).stop i H ∧ Qd H) ∨ ((RZ.ItzT K a b).go i H ∧ ∃ Nx : Hp → Prop, (∀ H', Nx H' → ∃ m', m' < m ∧ W (i + 1) m' H') ∧ ∀ x H', (RZ.ItzT K a b).yld i H x H' → g x (L2.wipe σ vs) H' fun σ2 H2 => L2.wipe σ2 vs = L2.wipe σ vs ∧ tt σ2 H2 fun b H3 =>
        if b = true then te σ2 H3 fun y H4 => ∃ acc, H4 D = some (.lst acc) ∧ acc.length < sizeLine ∧ Nx (upd H4 D (.lst (acc ++ [y]))) else Nx H3) := by
  refine ⟨fun i m H => m = min xs.length ys.length - i ∧ i ≤ min xs.length ys.length ∧ Pv i H, ⟨min xs.length ys.length, by simp, Nat.zero_le _, h0⟩, ?_⟩
  rintro i m H ⟨rfl, hi, p⟩
  obtain ⟨q1, q2⟩ := hl i H p
  by_cases hlt : i < min xs.length ys.length
  · have h1 : i < xs.length := by omega
    have h2 : i < ys.length := by omega
    refine .inr ⟨⟨xs, ys, xs[i], ys[i], q1, q2, by simp [h1], by simp [h2]⟩, Pv (i + 1), fun H' p' => ⟨min xs.length ys.length - (i + 1), by omega, rfl, hlt, p'⟩, fun v H' y => ?_⟩
    obtain ⟨T, x, y, rfl, hT, rfl, hx, hy⟩ := y
    exact hs i x y T H (hx xs q1) (hy ys q2) p hT
  · have e : i = min xs.length ys.length := by omega
    subst e
    exact .inl ⟨⟨xs, ys, q1, q2, by omega⟩, hd H p⟩
theorem imp_lcZ {fa fb : DF} {K : PySem.W.Frag} {w : World} {i j : Nat} {σ : L2.St} {H : Hp} {Q : VK} {gn : TGs} (hij : i ≠ j)
    (hgn : ∀ (x y : V) (σ : L2.St) (H : Hp) (Q : L2.St → Hp → Prop), Q ((σ.set i (some x)).set j (some y)) H → gn [x, y] σ H Q) (q : tD K w (dLcZ fa fb i j gc fe) σ H Q) :
    tLc (RZ.iZipA K (tDA K w (dConsA fa (dConsA fb dNilA)))) (gTup K 2 gn) (tDT K w gc) (tD K w fe) [i, j] σ H Q := by
  obtain ⟨env, z, E, e, q⟩ := q
  unfold dLcZ at e
  cases ea : fa env with
  | none => rw [ea] at e; cases e
  | some d =>
    rw [ea] at e
    simp only [Option.bind_some] at e
    cases eb : fb env with
    | none => rw [eb] at e; cases e
    | some d2 =>
      rw [eb] at e
      simp only [Option.bind_some] at e
      obtain ⟨ds, rfl⟩ : ∃ ds, d = .tuple ds := by cases d <;> first | exact ⟨_, rfl⟩ | (cases d2 <;> cases e)
      obtain ⟨es, rfl⟩ : ∃ es, d2 = .tuple es := by cases d2 <;> first | exact ⟨_, rfl⟩ | cases e
      have e : (if ds.length ≤ 100000 then (lcGo gc fe ((ds.zip es).map fun p => (env.set i (some p.1)).set j (some p.2))).map .list else none) = some z := e
      by_cases hl : ds.length ≤ 100000
      · rw [if_pos hl] at e
        obtain ⟨t, e1, rfl⟩ := Option.map_eq_some_iff.mp e
        refine ⟨env, [.tuple ds, .tuple es], E, by simp [dConsA, dNilA, ea, eb], fun vs H1 s1 r1 => ?_⟩
        obtain ⟨v1, v2, rfl, r1, r2⟩ := rpAll2 r1
        obtain ⟨a, xs, rfl, h1, h2⟩ := rp_tup r1
        obtain ⟨b, ys, rfl, h3, h4⟩ := rp_tup r2
        have hlen := dpAll_length h2
        have hlen2 := dpAll_length h4
        refine ⟨a, b, xs, ys, rfl, .inr ⟨h1, h3, fun D hD => ?_⟩⟩
        refine lc_zipT (xs := xs) (ys := ys) (fun n H' => LcI K H1 gc fe t D (((ds.zip es).drop n).map fun p => (env.set i (some p.1)).set j (some p.2)) n H') ⟨same_new hD, [], [], t, upd_same, Nat.le_refl _, .nil, rfl, by simpa using e1, rfl⟩
          (fun n H' I => ⟨sqT_mono I.1 h1, sqT_mono I.1 h3⟩) (fun n x y T H' hx hy I hT => ?_) (fun H' I => ?_)
        · have hn1 : n < ds.length := by rw [← hlen]; exact (List.getElem?_eq_some_iff.mp hx).1
          have hn2 : n < es.length := by rw [← hlen2]; exact (List.getElem?_eq_some_iff.mp hy).1
          have hn3 : n < (ds.zip es).length := by rw [List.length_zip]; omega
          obtain ⟨x', g1, g2⟩ := dpAll_get (i := n) (d := ds[n]) h2 (List.getElem?_eq_getElem hn1)
          rw [hx] at g1
          cases g1
          obtain ⟨y', g1, g3⟩ := dpAll_get (i := n) (d := es[n]) h4 (List.getElem?_eq_getElem hn2)
          rw [hy] at g1
          cases g1
          have sT : Same H' (upd H' T (.tup [x, y])) := same_new hT
          refine ⟨T, [x, y], rfl, SqT.of upd_same, rfl, hgn _ _ _ _ _ ⟨?_, ?_⟩⟩
          · rw [wipe_set (by simp), wipe_set (by simp), wipe_wipe]
          · rw [List.drop_eq_getElem_cons hn3, List.map_cons, List.getElem_zip] at I
            have I2 : LcI K H1 gc fe t D (((env.set i (some ds[n])).set j (some es[n])) :: (((ds.zip es).drop (n + 1)).map fun p => (env.set i (some p.1)).set j (some p.2))) n (upd H' T (.tup [x, y])) := by
              obtain ⟨k1, acc, dd, tt, k2, k3, k4, k5, k6, k7⟩ := I
              exact ⟨k1.trans sT, acc, dd, tt, sT _ _ k2, k3, dpAll_mono sT _ _ k4, k5, k6, k7⟩
            refine lc_turn hD (by omega) I2.1 I2 ?_ fun H2 I2 => I2
            have E2 := (((E.mono (s1.trans I2.1)).wipe [i, j]).set i ((Rp.dat (w := w) g2).mono I2.1)).set j ((Rp.dat (w := w) g3).mono I2.1)
            have ee : ((List.foldr (fun v e => List.set e v none) env [i, j]).set i (some ds[n])).set j (some es[n]) = (env.set i (some ds[n])).set j (some es[n]) := by
              show (((env.set j none).set i none).set i (some ds[n])).set j (some es[n]) = _
              rw [List.set_set, List.set_comm _ _ hij.symm, List.set_set]
            rw [ee] at E2
            exact E2
        · have I' : LcI K H1 gc fe t D [] (min xs.length ys.length) H' := by
            have : (ds.zip es).drop (min xs.length ys.length) = [] := by rw [hlen, hlen2]; simp
            rw [this] at I
            exact I
          obtain ⟨acc, g1, g2, g3⟩ := lc_fin I'
          exact q _ H' (s1.trans g3) (.dat (.lst (SqL.of g1) g2))
      · rw [if_neg hl] at e
        cases e
abbrev Blk (X : Cx) (scope : Scope) (s : Shared) (H : Hp) (C : Addr) (cl : List (Str × Addr)) (fp : List Addr) : Cx := X.blk s H scope (compEnvC scope cl C X.env) fp
theorem pts_imp {X : Cx} {es : List Expr} {u u' : TT} (h : PTs X es u) (i : ∀ σ H Q, u' σ H Q → u σ H Q) : PTs X es u' := ⟨fun pins s σ H Q I q => h.run pins s σ H Q I (i σ H Q q)⟩
theorem ts_nil : PTs X [] (tDT X.K X.w yesT) := pts_imp pts_nil fun σ H Q ⟨env, b, E, e, q⟩ => by cases e; exact q H (Same.refl H)
theorem ts_one {c : Expr} (h : PT X c (tDT X.K X.w gc)) : PTs X [c] (tDT X.K X.w gc) := pts_one h
theorem d_lcT (i : Nat) {ifs : List Expr} (hc : X.calm = true) (hN : X.N.Nodup) (hi : PE X iter (tD X.K X.w fs)) (ok : BlkOk X.N X.env.scope scope [(x, i)])
    (hg : ∀ s H C cl fp, PG (Blk X scope s H C cl fp) (.Name x p) (gName i)) (ht : ∀ s H C cl fp, PTs (Blk X scope s H C cl fp) ifs (tDT X.K X.w gc)) (he : ∀ s H C cl fp, PE (Blk X scope s H C cl fp) elt (tD X.K X.w fe))
    (hs : ∀ z, foldedSetIterable iter X.env z = pure z := by intro _; rfl) : PE X (.ListComp elt [⟨.Name x p, iter, ifs, 0⟩] scope pos) (tD X.K X.w (dLc fs i gc fe)) :=
  pe_imp (pe_lc (own := [(x, i)]) hc hN (pi_tup hi) ok hg ht he hs) fun σ H Q q => imp_lcT q
theorem d_lcL (i : Nat) {ifs : List Expr} (hc : X.calm = true) (hN : X.N.Nodup) (hi : PE X iter (tD X.K X.w fs)) (ok : BlkOk X.N X.env.scope scope [(x, i)])
    (hg : ∀ s H C cl fp, PG (Blk X scope s H C cl fp) (.Name x p) (gName i)) (ht : ∀ s H C cl fp, PTs (Blk X scope s H C cl fp) ifs (tDT X.K X.w gc)) (he : ∀ s H C cl fp, PE (Blk X scope s H C cl fp) elt (tD X.K X.w fe))
    (hs : ∀ z, foldedSetIterable iter X.env z = pure z := by intro _; rfl) : PE X (.ListComp elt [⟨.Name x p, iter, ifs, 0⟩] scope pos) (tD X.K X.w (dLcL fs i gc fe)) :=
  pe_imp (pe_lc (own := [(x, i)]) hc hN (pi_list hi) ok hg ht he hs) fun σ H Q q => imp_lcL q
end

/-! ### calls of defs -/
def spD (K : PySem.W.Frag) (w : World) (n : Nat) (den : List PyData → Option PyData) : Sp := fun vs H Q _ => vs.length = n ∧ ∃ ds d, RpAll K w H vs ds ∧ den ds = some d ∧ ∀ v H', Same H H' → Rp K w H' v d → Q v H'
structure DOk (P : Program) (w : World) (K : PySem.W.Frag) (mg : Str → Option Value) (base : Heap) (k : Nat) (x : Str) (n : Nat) (den : List PyData → Option PyData) : Prop where
  ok : ∃ f fd ps, mg x = some (.ref f) ∧ PySem.W.keepIn K (.ref f) = true ∧ Binds K fd ps [] ∧ ps.length = n ∧ FnOk P w K mg base CX0 k f fd ps (spD K w n den)
  len : ∀ ds d, den ds = some d → ds.length = n
section
variable {X : Cx} {e : Expr} {es : List Expr} {fs : DE → Option (List PyData)} {p pos : Pos} {x : Str} {k n : Nat} {den : List PyData → Option PyData}
theorem d_call (h : DOk X.prog X.w X.K X.mg X.base k x n den) (hr : Room k X.A) (ha : PA X (e :: es) (tDA X.K X.w fs)) (hg : Gl X x := by rfl)
    (hdb : (x == ("__debug__" : Str)) = false := by decide) (he : starEach (e :: es) X.env = (false, eval e X.env) :: starEach es X.env := by rfl) (hpl : (backTo pos (starEach es X.env)).any (·.1) = false := by rfl) :
    PE X (.Call (.Name x p) (e :: es) [] pos) (tD X.K X.w (dApp den fs)) := by
  obtain ⟨f, fd, ps, hm, hk, hb, hl, F⟩ := h.ok
  refine pe_imp (pe_call F hr hg hm hk hb .nil pass0 ha hdb he hpl) fun σ H Q q => ?_
  exact imp_app (r := fun xs H1 Q => spD X.K X.w n den (xs ++ []) H1 Q E0) (fun xs H Q ds z r g q => by
    rw [List.append_nil]
    exact ⟨by rw [r.length]; exact h.len ds z g, ds, z, r, g, q⟩) q
theorem d_call0 (h : DOk X.prog X.w X.K X.mg X.base k x 0 den) (hr : Room k X.A) (hg : Gl X x := by rfl) (hdb : (x == ("__debug__" : Str)) = false := by decide) :
    PE X (.Call (.Name x p) [] [] pos) (tD X.K X.w (dApp den dNilA)) := by
  obtain ⟨f, fd, ps, hm, hk, hb, hl, F⟩ := h.ok
  refine pe_imp (pe_call0 F hr hg hm hk hb .nil pass0 hdb) fun σ H Q q => ?_
  have q1 := imp_app (r := fun xs H1 Q => spD X.K X.w 0 den xs H1 Q E0) (fun xs H Q ds z r g q => ⟨by rw [r.length]; exact h.len ds z g, ds, z, r, g, q⟩) q
  obtain ⟨env, ds, E, e1, q2⟩ := q1
  cases e1
  exact q2 [] H (Same.refl H) .nil
end

/-! ### list.index -/
def gLIndex : PyData → PyData → Option PyData
  | .list ds, d => if (flatD d && ds.all flatD) = true then (ds.findIdx? fun y => eqF y d).map fun j => .int (j : Nat) else none
  | _, _ => none
section
variable {X : Cx} {o e : Expr} {fa fb : DF} {apos cpos : Pos}
theorem d_lindex (ho : PE X o (tD X.K X.w fa)) (he : PE X e (tD X.K X.w fb)) (hbase : attributeBase o "index" X.env (eval o X.env) = eval o X.env := by rfl)
    (hfew : ((backTo cpos (starEach [e] X.env)).all (fun x => !x.1) && (backToKw cpos (keywordEach [] X.env)).all (fun x => x.1.isSome)
      && decide ([e].length + ([] : List Keyword).length + (if ([] : List Keyword).isEmpty then 0 else 1) < 30)) = true := by rfl)
    (hline : (apos.endLine == cpos.line) = true := by rfl) (hs : starEach [e] X.env = (false, eval e X.env) :: starEach [] X.env := by rfl) (hplain : (backTo cpos (starEach [] X.env)).any (·.1) = false := by rfl) :
    PE X (.Call (.Attribute o "index" apos) [e] [] cpos) (tD X.K X.w (dBin gLIndex fa fb)) := by
  refine pe_imp (pe_bm PySem.F.plainAttrs_list PySem.F.slot_list_index PySem.F.type_list_index mt_index ho (pa_cons he pa_nil hs) hbase hfew hline hs hplain) fun σ H Q ⟨env, z, E, e, q⟩ => ?_
  unfold dBin at e
  cases ea : fa env with
  | none => rw [ea] at e; cases e
  | some d =>
    rw [ea] at e
    simp only [Option.bind_some] at e
    cases eb : fb env with
    | none => rw [eb] at e; cases e
    | some d2 =>
      rw [eb] at e
      simp only [Option.bind_some] at e
      cases d with
      | list ds =>
        have e : (if (flatD d2 && ds.all flatD) = true then (ds.findIdx? fun y => eqF y d2).map fun j => PyData.int (j : Nat) else none) = some z := e
        by_cases hf : (flatD d2 && ds.all flatD) = true
        · rw [if_pos hf] at e
          rw [Bool.and_eq_true] at hf
          obtain ⟨j, e1, rfl⟩ := Option.map_eq_some_iff.mp e
          refine ⟨env, _, E, ea, fun v H1 s1 r1 => ?_⟩
          obtain ⟨a, xs, rfl, h1, h2⟩ := rp_lst r1
          refine ⟨.inl ⟨rfl, xs, h1⟩, env, d2, E.mono s1, eb, fun u H2 s2 r2 => ?_⟩
          have h2' := dpAll_mono s2 _ _ h2
          obtain ⟨hj, e2, e3⟩ := List.findIdx?_eq_some_iff_getElem.mp e1
          obtain ⟨y, g1, g2⟩ := dpAll_get (i := j) (d := ds[j]) h2' (List.getElem?_eq_getElem hj)
          refine ⟨a, xs, u, j, y, rfl, rfl, s2.seq h1, r2.flat hf.1, dpAll_flat X.w h2' hf.2, g1, ?_, fun m z' hm hz => ?_, q _ H2 (s1.trans s2) (.dat (.int _))⟩
          · rw [(Rp.dat (w := X.w) g2).eqF (List.all_eq_true.mp hf.2 _ (List.getElem_mem hj)) r2 hf.1]
            exact e2
          · have hm' : m < ds.length := by omega
            obtain ⟨y', k1, k2⟩ := dpAll_get (i := m) (d := ds[m]) h2' (List.getElem?_eq_getElem hm')
            rw [hz] at k1
            cases k1
            rw [(Rp.dat (w := X.w) k2).eqF (List.all_eq_true.mp hf.2 _ (List.getElem_mem hm')) r2 hf.1]
            simpa using e3 m hm
        · rw [if_neg hf] at e
          cases e
      | _ => cases e
end
/-! ### statements -/
abbrev DS := DE → Option Out
def sNil : DS := fun env => some (.nx env)
def sCons (f g : DS) : DS := fun env => (f env).bind fun o => match o with
  | .nx env' => g env'
  | .rt d => some (.rt d)
def sSet (i : Nat) (f : DF) : DS := fun env => (f env).bind fun d => some (.nx (env.set i (some d)))
def sRet (f : DF) : DS := fun env => (f env).bind fun d => some (.rt d)
def sIf (gc : DE → Option Bool) (f g : DS) : DS := fun env => (gc env).bind fun b => if b = true then f env else g env
def sNever : DS := fun _ => none
def setMany (env : DE) : List Nat → List PyData → DE
  | i :: is, d :: ds => setMany (env.set i (some d)) is ds
  | _, _ => env
def sTup (is : List Nat) (f : DF) : DS := fun env => (f env).bind fun d => match d with
  | .tuple ds => if ds.length = is.length then some (.nx (setMany env is ds)) else none
  | _ => none
def sPar (i j : Nat) (f g : DF) : DS := fun env => (f env).bind fun d => (g env).bind fun e => some (.nx ((env.set i (some d)).set j (some e)))
def gNames : List Nat → TGs
  | [] => gNil
  | i :: is => gCons (gName i) (gNames is)
section
variable {X : Cx} {st : Stmt} {rest : List Stmt} {f g : DS} {fe fa fb : DF} {gc : DE → Option Bool} {e a b c : Expr} {pos p : Pos} {x : Str}
theorem s_nil : PSs X [] (tDS X.K X.w sNil) := pss_imp pss_nil fun D σ H ⟨env, o, E, e, q⟩ => by cases e; exact q σ H (Same.refl H) E
theorem s_cons (h1 : PS X st (tDS X.K X.w f)) (h2 : PSs X rest (tDS X.K X.w g)) : PSs X (st :: rest) (tDS X.K X.w (sCons f g)) := by
  refine pss_imp (pss_cons h1 h2) fun D σ H ⟨env, o, E, e, q⟩ => ?_
  unfold sCons at e
  cases ef : f env with
  | none => rw [ef] at e; cases e
  | some o1 =>
    rw [ef] at e
    simp only [Option.bind_some] at e
    refine ⟨env, o1, E, ef, ?_⟩
    cases o1 with
    | rt d => cases e; exact q
    | nx env' =>
      intro σ' H' s' E'
      refine ⟨env', o, E', e, ?_⟩
      cases o with
      | nx env2 => exact fun σ2 H2 s2 E2 => q σ2 H2 (s'.trans s2) E2
      | rt d => exact fun v H2 s2 r2 => q v H2 (s'.trans s2) r2
theorem s_one (h1 : PS X st (tDS X.K X.w f)) : PSs X [st] (tDS X.K X.w f) := pss_one h1
theorem s_never : PS X st (tDS X.K X.w sNever) := ps_imp ps_never fun D σ H ⟨env, o, E, e, q⟩ => by cases e
theorem ss_never {sts : List Stmt} : PSs X sts (tDS X.K X.w sNever) := pss_imp pss_never fun D σ H ⟨env, o, E, e, q⟩ => by cases e
theorem s_ret (he : PE X e (tD X.K X.w fe)) : PS X (.Return (some e) pos) (tDS X.K X.w (sRet fe)) := by
  refine ps_imp (ps_ret he) fun D σ H ⟨env, o, E, e, q⟩ => ?_
  unfold sRet at e
  cases ef : fe env with
  | none => rw [ef] at e; cases e
  | some d => rw [ef] at e; cases e; exact ⟨env, d, E, ef, q⟩
theorem s_if {sa sb : List Stmt} (hc : PT X c (tDT X.K X.w gc)) (ha : PSs X sa (tDS X.K X.w f)) (hb : PSs X sb (tDS X.K X.w g)) : PS X (.If c sa sb pos) (tDS X.K X.w (sIf gc f g)) := by
  refine ps_imp (ps_if hc ha hb) fun D σ H ⟨env, o, E, e, q⟩ => ?_
  unfold sIf at e
  cases ec : gc env with
  | none => rw [ec] at e; cases e
  | some b =>
    rw [ec] at e
    simp only [Option.bind_some] at e
    refine ⟨env, b, E, ec, fun H1 s1 => ?_⟩
    have q' := q.mono s1
    cases b with
    | true => exact ⟨env, o, E.mono s1, e, q'⟩
    | false => exact ⟨env, o, E.mono s1, e, q'⟩
theorem s_set (i : Nat) {p' : Pos} (he : PE X e (tD X.K X.w fe)) (hN : X.N.Nodup) (hi : X.N[i]? = some x := by rfl) (hx : Loc X.env.scope x := by first | exact Or.inl rfl | exact Or.inr rfl)
    (hs : swapsWith e (some (.Name x p')) pos.line X.env = pure false := by rfl) (hf : X.fn x = true ∨ X.env.scope.names.lookup x = some .local := by first | exact .inl rfl | exact .inr rfl | assumption) : PS X (.Assign [.Name x p'] e pos) (tDS X.K X.w (sSet i fe)) := by
  refine ps_imp (ps_set hN hi hx he hs hf) fun D σ H ⟨env, o, E, e, q⟩ => ?_
  unfold sSet at e
  cases ef : fe env with
  | none => rw [ef] at e; cases e
  | some d =>
    rw [ef] at e
    cases e
    exact ⟨env, d, E, ef, fun v H1 s1 r1 => q _ H1 s1 ((E.mono s1).set i r1)⟩
theorem n_nil : PGs X [] (gNames []) := pgs_nil
theorem n_cons (i : Nat) {is : List Nat} {ts : List Expr} (hN : X.N.Nodup) (h : PGs X ts (gNames is)) (hi : X.N[i]? = some x := by rfl) (hx : Loc X.env.scope x := by first | exact Or.inl rfl | exact Or.inr rfl)
    (hf : X.fn x = true ∨ X.env.scope.names.lookup x = some .local := by first | exact .inl rfl | exact .inr rfl | assumption) : PGs X (.Name x p :: ts) (gNames (i :: is)) := pgs_cons (pg_name hN hi hx hf) h rfl
theorem d_lcZ (i j : Nat) {a b elt : Expr} {fa fb fe : DF} {gc : DE → Option Bool} {ifs : List Expr} {scope : Scope} {y : Str} {px py pt pz : Pos} {kk : Nat} (hij : i ≠ j) (hm : X.mg "zip" = none) (hc : X.calm = true) (hN : X.N.Nodup) (ha : PE X a (tD X.K X.w fa)) (hb : PE X b (tD X.K X.w fb)) (ok : BlkOk X.N X.env.scope scope [(x, i), (y, j)])
    (hg : ∀ s H C cl fp, PGs (Blk X scope s H C cl fp) [.Name x px, .Name y py] (gNames [i, j])) (ht : ∀ s H C cl fp, PTs (Blk X scope s H C cl fp) ifs (tDT X.K X.w gc)) (he : ∀ s H C cl fp, PE (Blk X scope s H C cl fp) elt (tD X.K X.w fe))
    (hgl : Gl X "zip" := by rfl) (hsa : starEach [a, b] X.env = (false, eval a X.env) :: starEach [b] X.env := by rfl) (hsb : starEach [b] X.env = (false, eval b X.env) :: starEach [] X.env := by rfl) (hpl : (backTo p (starEach [b] X.env)).any (·.1) = false := by rfl)
    (hs : ∀ z, foldedSetIterable (.Call (.Name "zip" pz) [a, b] [] p) X.env z = pure z := by intro _; rfl) : PE X (.ListComp elt [⟨.Tuple [.Name x px, .Name y py] kk pt, .Call (.Name "zip" pz) [a, b] [] p, ifs, 0⟩] scope pos) (tD X.K X.w (dLcZ fa fb i j gc fe)) :=
  pe_imp (pe_lc (own := [(x, i), (y, j)]) (g := gTup X.K 2 (gNames [i, j])) hc hN (RZ.pi_zipA hgl hm (a_cons ha (a_cons hb a_nil hsb) hsa) hsa hpl) ok (fun s H C cl fp => pg_tup (X := Blk X scope s H C cl fp) hc (hg s H C cl fp) rfl rfl) ht he hs)
    fun σ H Q q => imp_lcZ hij (fun x y σ H Q q => ⟨x, [y], rfl, ⟨y, [], rfl, ⟨rfl, q⟩⟩⟩) q
/-- y = [.. for a, b in zip(..)] on one line -/
theorem s_setLcZ (n i j : Nat) {yy : Str} {py0 spos : Pos} {a b elt : Expr} {fa fb fe : DF} {gc : DE → Option Bool} {ifs : List Expr} {scope : Scope} {y : Str} {px py pt pz : Pos} {kk : Nat} (hij : i ≠ j) (hm : X.mg "zip" = none) (hc : X.calm = true) (hN : X.N.Nodup) (ha : PE X a (tD X.K X.w fa)) (hb : PE X b (tD X.K X.w fb)) (ok : BlkOk X.N X.env.scope scope [(x, i), (y, j)])
    (hsw : swapsWith (.ListComp elt [⟨.Tuple [.Name x px, .Name y py] kk pt, .Call (.Name "zip" pz) [a, b] [] p, ifs, 0⟩] scope pos) (some (.Name yy py0)) spos.line X.env = pure true)
    (hg : ∀ s H C cl fp, PGs (Blk X scope s H C cl fp) [.Name x px, .Name y py] (gNames [i, j])) (ht : ∀ s H C cl fp, PTs (Blk X scope s H C cl fp) ifs (tDT X.K X.w gc)) (he : ∀ s H C cl fp, PE (Blk X scope s H C cl fp) elt (tD X.K X.w fe))
    (hi : X.N[n]? = some yy := by rfl) (hyl : X.env.scope.names.lookup yy = some .local := by rfl)
    (hgl : Gl X "zip" := by rfl) (hsa : starEach [a, b] X.env = (false, eval a X.env) :: starEach [b] X.env := by rfl) (hsb : starEach [b] X.env = (false, eval b X.env) :: starEach [] X.env := by rfl) (hpl : (backTo p (starEach [b] X.env)).any (·.1) = false := by rfl)
    (hs : ∀ z, foldedSetIterable (.Call (.Name "zip" pz) [a, b] [] p) X.env z = pure z := by intro _; rfl) :
    PS X (.Assign [.Name yy py0] (.ListComp elt [⟨.Tuple [.Name x px, .Name y py] kk pt, .Call (.Name "zip" pz) [a, b] [] p, ifs, 0⟩] scope pos) spos) (tDS X.K X.w (sSet n (dLcZ fa fb i j gc fe))) := by
  refine ps_imp (ps_setLc (own := [(x, i), (y, j)]) (g := gTup X.K 2 (gNames [i, j])) hc hN hi hyl hsw (RZ.pi_zipA hgl hm (a_cons ha (a_cons hb a_nil hsb) hsa) hsa hpl) ok (fun s H C cl fp => pg_tup (X := Blk X scope s H C cl fp) hc (hg s H C cl fp) rfl rfl) ht he hs) fun D σ H ⟨env, o, E, e, q⟩ => ?_
  unfold sSet at e
  cases ef : dLcZ fa fb i j gc fe env with
  | none => rw [ef] at e; cases e
  | some d =>
    rw [ef] at e
    cases e
    have q1 : tD X.K X.w (dLcZ fa fb i j gc fe) σ H (fun v H1 => gName n v σ H1 D.nx) := ⟨env, d, E, ef, fun v H1 s1 r1 => q _ H1 s1 ((E.mono s1).set n r1)⟩
    exact imp_lcZ hij (fun x y σ H Q q => ⟨x, [y], rfl, ⟨y, [], rfl, ⟨rfl, q⟩⟩⟩) q1
theorem names_ok {K : PySem.W.Frag} {w : World} {H : Hp} {Q : L2.St → Hp → Prop} : ∀ (is : List Nat) {xs : List V} {ds : List PyData} {σ : L2.St} {env : DE}, ds.length = is.length → EnvOk K w H σ env → DpAll K H xs ds → (∀ σ', EnvOk K w H σ' (setMany env is ds) → Q σ' H) → gNames is xs σ H Q
  | [], [], [], σ, env, _, E, .nil, q => ⟨rfl, q σ E⟩
  | i :: is, v :: xs, d :: ds, σ, env, hl, E, .cons h t, q => ⟨v, xs, rfl, names_ok is (by simpa using hl) (E.set i (.dat h)) t q⟩
  | [], _ :: _, _ :: _, _, _, hl, _, .cons _ _, _ => by simp at hl
  | _ :: _, [], [], _, _, hl, _, .nil, _ => by simp at hl
theorem s_tup (is : List Nat) {ts : List Expr} {kk : Nat} {n : Nat} {tp : Pos} (hc : X.calm = true) (he : PE X e (tD X.K X.w fe)) (h : PGs X ts (gNames is)) (hn' : n = is.length := by rfl)
    (hn : (assignEach ts X.env).length = n := by rfl) (hst : (assignEach ts X.env).findIdx? (·.1) = none := by rfl)
    (hs : swapsWithSole [.Tuple ts kk tp] e pos.line X.env = pure false := by rfl) (hw : swappedStores [.Tuple ts kk tp] e X.env = pure none := by rfl)
    (h1 : (assignEach [.Tuple ts kk tp] X.env).map (·.2) = [assign (.Tuple ts kk tp) X.env] := by rfl) : PS X (.Assign [.Tuple ts kk tp] e pos) (tDS X.K X.w (sTup is fe)) := by
  refine ps_imp (ps_asg he (pg_tup (n := n) hc h hn hst) hs hw h1) fun D σ H ⟨env, o, E, e, q⟩ => ?_
  unfold sTup at e
  cases ef : fe env with
  | none => rw [ef] at e; cases e
  | some d =>
    rw [ef] at e
    simp only [Option.bind_some] at e
    cases d with
    | tuple ds =>
      have e : (if ds.length = is.length then some (Out.nx (setMany env is ds)) else none) = some o := e
      by_cases hl : ds.length = is.length
      · rw [if_pos hl] at e
        cases e
        refine ⟨env, _, E, ef, fun v H1 s1 r1 => ?_⟩
        obtain ⟨a, xs, rfl, h2, h3⟩ := rp_tup r1
        exact ⟨a, xs, rfl, h2, by rw [dpAll_length h3, hl, hn'], names_ok is hl (E.mono s1) h3 fun σ' E' => q σ' H1 s1 E'⟩
      · rw [if_neg hl] at e
        cases e
    | _ => cases e
theorem s_par (i j : Nat) {y : Str} {px py pt : Pos} {kt k2 : Nat} {pt2 : Pos} (hc : X.calm = true) (hN : X.N.Nodup) (ha : PE X a (tD X.K X.w fa)) (hb : PE X b (tD X.K X.w fb)) (hi : X.N[i]? = some x := by rfl) (hj : X.N[j]? = some y := by rfl) (hij : i ≠ j := by decide)
    (hx : X.env.scope.names.lookup x = some .local := by rfl) (hy : X.env.scope.names.lookup y = some .local := by rfl)
    (hsa : starEach [a, b] X.env = (false, eval a X.env) :: starEach [b] X.env := by rfl) (hsb : starEach [b] X.env = (false, eval b X.env) :: starEach [] X.env := by rfl)
    (hw : swappedStores [.Tuple [.Name x px, .Name y py] kt pt] (.Tuple [a, b] k2 pt2) X.env = pure (some [x, y]) := by rfl)
    (hs : swapsWithSole [.Tuple [.Name x px, .Name y py] kt pt] (.Tuple [a, b] k2 pt2) pos.line X.env = pure false := by rfl) : PS X (.Assign [.Tuple [.Name x px, .Name y py] kt pt] (.Tuple [a, b] k2 pt2) pos) (tDS X.K X.w (sPar i j fa fb)) := by
  refine ps_imp (ps_par hc hN hi hj hij hx hy (pa_cons ha (pa_cons hb pa_nil hsb) hsa) hw hs) fun D σ H ⟨env, o, E, e, q⟩ => ?_
  unfold sPar at e
  cases ea : fa env with
  | none => rw [ea] at e; cases e
  | some d =>
    rw [ea] at e
    simp only [Option.bind_some] at e
    cases eb : fb env with
    | none => rw [eb] at e; cases e
    | some d2 =>
      rw [eb] at e
      cases e
      exact ⟨env, d, E, ea, fun v H1 s1 r1 => ⟨env, d2, E.mono s1, eb, fun u H2 s2 r2 => ⟨v, u, rfl, q _ H2 (s1.trans s2) (((E.mono (s1.trans s2)).set i (r1.mono s2)).set j r2)⟩⟩⟩
end

/-! ### a def -/
def dRun (n N : Nat) (f : DS) (ds : List PyData) : Option PyData := if ds.length = n then (match f (ds.map some ++ List.replicate (N - n) none) with
  | some (.rt d) => some d
  | some (.nx _) => some .none
  | none => none) else none
theorem dRun_len {n N : Nat} {f : DS} (ds : List PyData) (d : PyData) (h : dRun n N f ds = some d) : ds.length = n := by
  unfold dRun at h
  by_cases hl : ds.length = n
  · exact hl
  · rw [if_neg hl] at h; cases h
theorem start_ok {K : PySem.W.Frag} {w : World} {H : Hp} {Ns : List Str} {vs : List V} {ds : List PyData} (r : RpAll K w H vs ds) : EnvOk K w H (L2.start Ns vs) (ds.map some ++ List.replicate (Ns.length - ds.length) none) := by
  refine ⟨by unfold L2.start; simp [r.length], fun i d h => ?_⟩
  by_cases hi : i < ds.length
  · rw [List.getElem?_append_left (by simpa using hi), List.getElem?_map] at h
    cases e : ds[i]? with
    | none => rw [e] at h; cases h
    | some d' =>
      rw [e] at h
      have e' : d' = d := by simpa using h
      subst e'
      obtain ⟨v, h1, h2⟩ := r.get e
      refine ⟨v, ?_, h2⟩
      unfold L2.start
      rw [List.getElem?_append_left (by rw [List.length_map, r.length]; exact hi), List.getElem?_map, h1]
      rfl
  · rw [List.getElem?_append_right (by simpa using hi), List.getElem?_replicate] at h
    split at h <;> cases h
/-- a global def of the text -/
structure Glob (K : PySem.W.Frag) (mg : Str → Option Value) (x : Str) (st : Stmt) (ps : List Str) : Prop where
  ok : ∃ f fd, mg x = some (.ref f) ∧ Fun K x x st f fd ∧ Binds K fd ps []
theorem dok_of {P : Program} {w : World} {K : PySem.W.Frag} {mg : Str → Option Value} {base : Heap} {k : Nat} {x : Str} {st : Stmt} {Ns ps : List Str} (n : Nat) (hn : ps.length = n) (G : Glob K mg x st ps) (S : FnScope Ns ps (defScope st)) (f : DS)
    (body : ∀ (cd : Value) (A : Around) (outer : List Env) (s : Shared) (H : Hp) (E : XK) (fa : Addr), Room k (A.deeper (envOfC x (defScope st) s.heap.objs.size fa cd)) → PSs (cxOf CX0 P w K mg base Ns x (defScope st) fa cd A outer s H E).nox (defBody st) (tDS K w f)) :
    DOk P w K mg base (k + 1) x n (dRun n Ns.length f) := by
  obtain ⟨fa, fd, hm, F, hb⟩ := G.ok
  refine ⟨⟨fa, fd, ps, hm, F.kp, hb, hn, F.ok S (fun vs H Q E h => by rw [hn]; exact h.1) fun cdv A outer s H vs Q E hr h => ?_⟩, dRun_len⟩
  refine ⟨tDS K w f, body cdv A outer s H E fa hr, ?_⟩
  obtain ⟨hl, ds, d, r, e, q⟩ := h
  unfold dRun at e
  have hl2 : ds.length = n := by rw [← r.length]; exact hl
  rw [if_pos hl2] at e
  have E0 := start_ok (Ns := Ns) r
  rw [hl2] at E0
  cases ef : f (ds.map some ++ List.replicate (Ns.length - n) none) with
  | none => rw [ef] at e; cases e
  | some o =>
    rw [ef] at e
    refine ⟨_, o, E0, ef, ?_⟩
    cases o with
    | nx env' => cases e; exact fun σ' H' s' _ => q _ H' s' (.dat .non)
    | rt d' => cases e; exact fun v H' s' r' => q v H' s' r'
end Dn
set_option Elab.async false
set_option linter.all false
set_option maxRecDepth 100000
set_option maxHeartbeats 4000000
namespace Dn
open PySem PySem.Spec L2 PyProof.Rows
/-! ### dicts that are made and changed -/
section
variable {K : PySem.W.Frag} {w : World} {H H' : Hp}
/-- all that is no dict stands -/
def SameD (H H' : Hp) : Prop := ∀ a o, H a = some o → (∀ kvs, o ≠ .dK kvs) → H' a = some o
theorem Same.d (h : Same H H') : SameD H H' := fun a o e _ => h a o e
theorem SameD.trans {H1 : Hp} (h : SameD H H1) (h' : SameD H1 H') : SameD H H' := fun a o e n => h' a o (h a o e n) n
theorem sameD_upd {D : Addr} {xs : List (Key × V)} {o : HO} (h : H D = some (.dK xs)) : SameD H (upd H D o) := fun a u e n => by
  have : a ≠ D := by
    rintro rfl
    rw [h] at e
    cases e
    exact n xs rfl
  rw [upd_ne this]
  exact e
theorem sqT_sameD {a : Addr} {xs : List V} (e : SameD H H') (h : SqT K H a xs) : SqT K H' a xs := by
  rcases h with (h | ⟨o, h⟩) | h
  · exact .inl (.inl (e _ _ h (by intro z q; cases q)))
  · exact .inl (.inr ⟨o, e _ _ h (by intro z q; cases q)⟩)
  · exact .inr h
theorem sqL_sameD {a : Addr} {xs : List V} (e : SameD H H') (h : SqL K H a xs) : SqL K H' a xs := by
  rcases h with (h | ⟨o, h⟩) | h
  · exact .inl (.inl (e _ _ h (by intro z q; cases q)))
  · exact .inl (.inr ⟨o, e _ _ h (by intro z q; cases q)⟩)
  · exact .inr h
mutual
theorem dp_sameD (e : SameD H H') : ∀ (d : PyData) (v : V), Dp K H v d → Dp K H' v d
  | .none, _, h => by cases h; exact .non
  | .bool b, _, h => by cases h; exact .bl b
  | .int i, _, h => by cases h; exact .int i
  | .str x, _, h => by cases h; exact .str x
  | .list ds, _, h => by
    cases h with
    | lst hs ha => exact .lst (sqL_sameD e hs) (dpAll_sameD e ds _ ha)
  | .tuple ds, _, h => by
    cases h with
    | tup hs ha => exact .tup (sqT_sameD e hs) (dpAll_sameD e ds _ ha)
  | .dict _, _, h => by cases h
theorem dpAll_sameD (e : SameD H H') : ∀ (ds : List PyData) (vs : List V), DpAll K H vs ds → DpAll K H' vs ds
  | [], _, h => by cases h; exact .nil
  | d :: ds, _, h => by
    cases h with
    | cons h1 h2 => exact .cons (dp_sameD e d _ h1) (dpAll_sameD e ds _ h2)
end
end
end Dn
set_option Elab.async false
set_option linter.all false
set_option maxRecDepth 100000
set_option maxHeartbeats 4000000
namespace Dn
open PySem PySem.Spec L2 PyProof.Rows

def kd_PLACES : List (PyData × PyData) := [((.str "tag"), (.int 0)), ((.str "look"), (.int 1)), ((.str "stamp"), (.int 2))]
def kd_CONDITIONS : List (PyData × PyData) := [((.str "read"), (.tuple [(.str "look"), (.str "plain"), (.str "stamp"), (.str "tag")])), ((.str "put"), (.tuple [(.str "none"), (.str "plain"), (.str "stamp"), (.str "tag"), (.str "there")])), ((.str "take"), (.tuple [(.str "plain"), (.str "stamp"), (.str "tag"), (.str "there")]))]
def kd_ANSWERS : List (PyData × PyData) := [((.str "read"), (.tuple [(.str "got"), (.str "mine"), (.str "unchanged"), (.str "absent"), (.str "lost")])), ((.str "put"), (.tuple [(.str "yes"), (.str "no"), (.str "lost")])), ((.str "take"), (.tuple [(.str "yes"), (.str "no"), (.str "absent"), (.str "lost")]))]
def ansOf (k : Str) : Option (List Str) := if k = "read" then some ["got", "mine", "unchanged", "absent", "lost"] else if k = "put" then some ["yes", "no", "lost"] else if k = "take" then some ["yes", "no", "absent", "lost"] else none
structure Tx (w : World) (K : PySem.W.Frag) (mg : Str → Option Value) : Prop where
  b_isinstance : mg "isinstance" = none
  b_len : mg "len" = none
  b_all : mg "all" = none
  b_min : mg "min" = none
  b_int : mg "int" = none
  b_tuple : mg "tuple" = none
  b_list : mg "list" = none
  b_str : mg "str" = none
  b_bool : mg "bool" = none
  b_range : mg "range" = none
  b_zip : mg "zip" = none
  b_enumerate : mg "enumerate" = none
  b_dict : mg "dict" = none
  b_repr : mg "repr" = none
  c_FRESH : GC K w mg "FRESH" (.str "fresh")
  c_GONE : GC K w mg "GONE" (.str "gone")
  c_NEVER : GC K w mg "NEVER" (.str "never")
  c_THERE : GC K w mg "THERE" (.str "there")
  c_GREAT : GC K w mg "GREAT" (.str "great")
  c_SMALL : GC K w mg "SMALL" (.str "small")
  c_TAKE : GC K w mg "TAKE" (.str "take")
  c_TICK : GC K w mg "TICK" (.str "tick")
  c_SERVERS : GC K w mg "SERVERS" (.tuple [(.str "fresh"), (.str "gone"), (.str "never"), (.str "there")])
  c_PLAIN : GC K w mg "PLAIN" (.str "plain")
  c_TAG : GC K w mg "TAG" (.str "tag")
  c_LOOK : GC K w mg "LOOK" (.str "look")
  c_STAMP : GC K w mg "STAMP" (.str "stamp")
  c_IF_THERE : GC K w mg "IF_THERE" (.str "there")
  c_IF_NONE : GC K w mg "IF_NONE" (.str "none")
  c_READ_CONDITIONS : GC K w mg "READ_CONDITIONS" (.tuple [(.str "look"), (.str "plain"), (.str "stamp"), (.str "tag")])
  c_PUT_CONDITIONS : GC K w mg "PUT_CONDITIONS" (.tuple [(.str "none"), (.str "plain"), (.str "stamp"), (.str "tag"), (.str "there")])
  c_TAKE_CONDITIONS : GC K w mg "TAKE_CONDITIONS" (.tuple [(.str "plain"), (.str "stamp"), (.str "tag"), (.str "there")])
  c_GOT : GC K w mg "GOT" (.str "got")
  c_MINE : GC K w mg "MINE" (.str "mine")
  c_UNCHANGED : GC K w mg "UNCHANGED" (.str "unchanged")
  c_ABSENT : GC K w mg "ABSENT" (.str "absent")
  c_YES : GC K w mg "YES" (.str "yes")
  c_NO : GC K w mg "NO" (.str "no")
  c_MOST_STEPS : GC K w mg "MOST_STEPS" (.int 8)
  c_READ : GC K w mg "READ" (.str "read")
  c_PUT : GC K w mg "PUT" (.str "put")
  c_FORGET : GC K w mg "FORGET" (.str "forget")
  c_END : GC K w mg "END" (.str "end")
  c_OPEN : GC K w mg "OPEN" (.str "open")
  c_LOST : GC K w mg "LOST" (.str "lost")
  c_ENDS : GC K w mg "ENDS" (.tuple [(.str "yes"), (.str "no"), (.str "open")])
  c_SURE : GC K w mg "SURE" (.str "sure")
  c_LATE_NET : GC K w mg "LATE_NET" (.str "late")
  c_AGAIN : GC K w mg "AGAIN" (.str "again")
  c_NETS : GC K w mg "NETS" (.tuple [(.str "sure"), (.str "lost"), (.str "late"), (.str "again")])
  c_ANSWERED : GC K w mg "ANSWERED" (.str "answered")
  c_UNHEARD : GC K w mg "UNHEARD" (.str "unheard")
  c_UNSENT : GC K w mg "UNSENT" (.str "unsent")
  c_COME : GC K w mg "COME" (.str "come")
  c_EVENTS : GC K w mg "EVENTS" (.tuple [(.str "great"), (.str "small"), (.str "take"), (.str "tick"), (.str "answered"), (.str "unheard"), (.str "unsent"), (.str "come")])
  c_WRITINGS : GC K w mg "WRITINGS" (.tuple [(.str "great"), (.str "small"), (.str "take")])
  c_MOST_DONE : GC K w mg "MOST_DONE" (.int 2)
  c_PRESENT : GC K w mg "PRESENT" (.tuple [(.int 1), (.int 1), (.int 1), (.int 1)])
  c_ELDER : GC K w mg "ELDER" (.tuple [(.int 1), (.int 1), (.int 1), (.int 0)])
  c_MOST_STATES : GC K w mg "MOST_STATES" (.int 5000)
  c_KEPT : GC K w mg "KEPT" (.str "kept")
  c_TAKEN : GC K w mg "TAKEN" (.str "gone")
  c_ONCE : GC K w mg "ONCE" (.str "once")
  c_TRUE : GC K w mg "TRUE" (.str "true")
  c_ENDING : GC K w mg "ENDING" (.str "ends")
  c_PROMISES : GC K w mg "PROMISES" (.tuple [(.str "kept"), (.str "gone"), (.str "once"), (.str "true"), (.str "ends")])
  k_PLACES : GK K w mg "PLACES" kd_PLACES
  k_CONDITIONS : GK K w mg "CONDITIONS" kd_CONDITIONS
  k_ANSWERS : GK K w mg "ANSWERS" kd_ANSWERS
  g__wall : Glob K mg "_wall" st__wall ["k"]
  g_is_one_of : Glob K mg "is_one_of" st_is_one_of ["value", "words"]
  g_is_there : Glob K mg "is_there" st_is_there ["server"]
  g_server_after : Glob K mg "server_after" st_server_after ["server", "act"]
  g_copy_after : Glob K mg "copy_after" st_copy_after ["server", "copy", "act"]
  g_matches : Glob K mg "matches" st_matches ["copy", "condition"]
  g_is_left_out : Glob K mg "is_left_out" st_is_left_out ["copy", "condition"]
  g_read_by : Glob K mg "read_by" st_read_by ["server", "copy", "condition"]
  g_does_hold : Glob K mg "does_hold" st_does_hold ["server", "copy", "condition"]
  g_put_by : Glob K mg "put_by" st_put_by ["server", "copy", "condition"]
  g_take_by : Glob K mg "take_by" st_take_by ["server", "copy", "condition"]
  g_is_number : Glob K mg "is_number" st_is_number ["value", "many"]
  g_is_step : Glob K mg "is_step" st_is_step ["value", "many"]
  g_next_behind : Glob K mg "next_behind" st_next_behind ["one", "answer"]
  g_need_others : Glob K mg "need_others" st_need_others ["value"]
  g_need_net : Glob K mg "need_net" st_need_net ["value"]
  g_first_of : Glob K mg "first_of" st_first_of ["server"]
  g_answer_to : Glob K mg "answer_to" st_answer_to ["one", "server", "copy"]
  g_act_of : Glob K mg "act_of" st_act_of ["one"]
  g_is_done_by : Glob K mg "is_done_by" st_is_done_by ["one", "server", "copy"]
  g_can_happen : Glob K mg "can_happen" st_can_happen ["script", "state", "event", "others", "net"]
  g_late_after : Glob K mg "late_after" st_late_after ["server", "late", "act"]
  g_acted : Glob K mg "acted" st_acted ["state", "act", "is_own"]
  g_ticked : Glob K mg "ticked" st_ticked ["state"]
  g_at_step : Glob K mg "at_step" st_at_step ["state", "number"]
  g_seen_now : Glob K mg "seen_now" st_seen_now ["state", "copy"]
  g_answered : Glob K mg "answered" st_answered ["script", "state"]
  g_sent_now : Glob K mg "sent_now" st_sent_now ["state", "kept_copy"]
  g_unheard : Glob K mg "unheard" st_unheard ["script", "state", "net"]
  g_unsent : Glob K mg "unsent" st_unsent ["script", "state", "net"]
  g_come : Glob K mg "come" st_come ["script", "state", "net"]
  g_stepped : Glob K mg "stepped" st_stepped ["script", "state", "event", "net"]
  g_events_in : Glob K mg "events_in" st_events_in ["script", "state", "others", "net"]
  g_is_fault_in : Glob K mg "is_fault_in" st_is_fault_in ["script", "state", "event", "promise"]
  g_firsts : Glob K mg "firsts" st_firsts []
  g_ways : Glob K mg "ways" st_ways ["script", "others", "net"]
  g_row_to : Glob K mg "row_to" st_row_to ["found", "state"]
  g_need_promise : Glob K mg "need_promise" st_need_promise ["value", "some"]
  g_is_amiss : Glob K mg "is_amiss" st_is_amiss ["script", "state", "promise"]
  g_is_bad : Glob K mg "is_bad" st_is_bad ["script", "state", "promise", "others", "net"]
  g_alone_behind : Glob K mg "alone_behind" st_alone_behind ["script", "state", "net"]
  g_round_from : Glob K mg "round_from" st_round_from ["script", "state", "net"]
  g_back_to : Glob K mg "back_to" st_back_to ["found", "place"]
  g_bad_states : Glob K mg "bad_states" st_bad_states ["script", "found", "promise", "others", "net"]
  g_ways_for : Glob K mg "ways_for" st_ways_for ["script", "others", "net", "promise", "some"]
  g_keeps : Glob K mg "keeps" st_keeps ["script", "others", "net", "promise"]
  g_breaking : Glob K mg "breaking" st_breaking ["script", "others", "net", "promise"]
  g__law_begun : Glob K mg "_law_begun" st__law_begun ["_law_script", "_law_k"]
  g__law_draw : Glob K mg "_law_draw" st__law_draw ["_law_m", "_law_many"]
  g__law_of : Glob K mg "_law_of" st__law_of ["_law_m", "_law_some"]
  g__law_conditions : Glob K mg "_law_conditions" st__law_conditions ["_law_kind"]
  g__law_any_step : Glob K mg "_law_any_step" st__law_any_step ["_law_m", "_law_total"]
  g__law_any_steps : Glob K mg "_law_any_steps" st__law_any_steps ["_law_m", "_law_most"]
  g__law_any_others : Glob K mg "_law_any_others" st__law_any_others ["_law_m"]
  g__law_world_at : Glob K mg "_law_world_at" st__law_world_at ["_law_server"]
  g__law_edited_by : Glob K mg "_law_edited_by" st__law_edited_by ["_law_world", "_law_act", "_law_author"]
  g__law_held_in : Glob K mg "_law_held_in" st__law_held_in ["_law_world"]
  g__law_reply_to : Glob K mg "_law_reply_to" st__law_reply_to ["_law_world", "_law_copy", "_law_one"]
  g__law_next_step : Glob K mg "_law_next_step" st__law_next_step ["_law_one", "_law_answer"]
  g__law_act_of : Glob K mg "_law_act_of" st__law_act_of ["_law_one"]
  g__law_own_act : Glob K mg "_law_own_act" st__law_own_act ["_law_world", "_law_one"]
  g__law_is_done : Glob K mg "_law_is_done" st__law_is_done ["_law_world", "_law_copy", "_law_one"]
  g__law_knows : Glob K mg "_law_knows" st__law_knows ["_law_world"]
  g__law_sent_in : Glob K mg "_law_sent_in" st__law_sent_in ["_law_world"]
  g__law_is_meant : Glob K mg "_law_is_meant" st__law_is_meant ["_law_world"]
  g__law_can : Glob K mg "_law_can" st__law_can ["_law_world", "_law_steps", "_law_event", "_law_others", "_law_net"]
  g__law_answered_in : Glob K mg "_law_answered_in" st__law_answered_in ["_law_world", "_law_steps"]
  g__law_world_behind : Glob K mg "_law_world_behind" st__law_world_behind ["_law_world", "_law_steps", "_law_event", "_law_net"]
  g__law_server_of : Glob K mg "_law_server_of" st__law_server_of ["_law_world"]
  g__law_standing_of : Glob K mg "_law_standing_of" st__law_standing_of ["_law_world", "_law_copy"]
  g__law_state_of : Glob K mg "_law_state_of" st__law_state_of ["_law_world"]
  g__law_next_worlds : Glob K mg "_law_next_worlds" st__law_next_worlds ["_law_world", "_law_steps", "_law_others", "_law_net"]
  g__law_least : Glob K mg "_law_least" st__law_least ["_law_steps", "_law_others", "_law_net", "_law_is_over_here", "_law_promise"]
  g__law_row_right : Glob K mg "_law_row_right" st__law_row_right ["_law_told", "_law_steps", "_law_others", "_law_net", "_law_is_over_here", "_law_promise", "_law_least_here"]
  g__law_is_over : Glob K mg "_law_is_over" st__law_is_over ["_law_world", "_law_steps", "_law_event", "_law_promise"]
  g_law : Glob K mg "law" st_law ["_law_script"]
  ans : ∀ (k : Str) (as : List Str), ansOf k = some as → ∃ a t o, mg "ANSWERS" = some (.ref a) ∧ KDct K w a k (.ref t) ∧ K.lookup t = some o ∧ o.cls = .type "tuple" ∧ o.dict = none ∧ ∀ H, SqT K H t (as.map V.str)
end Dn
set_option Elab.async false
set_option linter.all false
set_option maxRecDepth 100000
set_option maxHeartbeats 4000000
namespace Dn
open PySem PySem.Spec L2 PyProof.Rows
section
variable {P : Program} {w : World} {K : PySem.W.Frag} {mg : Str → Option Value} {base : Heap}
/-! ### next_behind -/
theorem sc_next_behind : FnScope ["one", "answer", "answers"] ["one", "answer"] (defScope st_next_behind) := ⟨rfl, rfl, rfl, by decide +kernel, rfl, by decide +kernel, by decide +kernel⟩
def den_next_behind : List PyData → Option PyData
  | [.tuple one, .str a] => (match atI one 0 with
    | some (.str k) => (match ansOf k with
      | some as => (match as.findIdx? fun y => decide (y = a) with
        | some j => atI one ((j : Int) - (as.length : Nat))
        | none => none)
      | none => none)
    | _ => none)
  | _ => none
theorem ok_next_behind (T : Tx w K mg) : DOk P w K mg base 1 "next_behind" 2 den_next_behind := by
  obtain ⟨fa, fd, hm, F, hb⟩ := T.g_next_behind.ok
  refine ⟨⟨fa, fd, ["one", "answer"], hm, F.kp, hb, rfl, F.ok sc_next_behind (fun vs H Q E h => h.1) fun cdv A outer s H vs Q E hr h => ?_⟩, fun ds d h => ?_⟩
  · obtain ⟨hl, ds, d, r, e, q⟩ := h
    unfold den_next_behind at e
    split at e
    · rename_i one a
      obtain ⟨v0, v1, rfl, r0, r1⟩ := rpAll2 r
      cases e0 : atI one 0 with
      | none => rw [e0] at e; cases e
      | some kd =>
        rw [e0] at e
        cases kd with
        | str k =>
          simp only at e
          cases e1 : ansOf k with
          | none => rw [e1] at e; cases e
          | some as =>
            rw [e1] at e
            simp only at e
            cases e2 : as.findIdx? fun y => decide (y = a) with
            | none => rw [e2] at e; cases e
            | some j =>
              rw [e2] at e
              simp only at e
              obtain ⟨ad, t, o, hA, hD, ht, hc, hdd, hS⟩ := T.ans k as e1
              have E0 := start_ok (Ns := ["one", "answer", "answers"]) r
              obtain ⟨a0, xs, rfl, h1, h2⟩ := rp_tup r0
              cases rp_str r1
              obtain ⟨z, g1, g2⟩ := dpAll_atI h2 e0
              cases g2
              obtain ⟨z2, g3, g4⟩ := dpAll_atI h2 e
              obtain ⟨hj, e4, e5⟩ := List.findIdx?_eq_some_iff_getElem.mp e2
              refine ⟨_, pss_cons (ps_set (i := 2) sc_next_behind.nd rfl (Or.inl rfl) (pe_ix ix_kdict (pe_glob rfl hA (v := .ref ad) rfl) (pe_ix ix_tup (pv 0) pe_int (fun _ _ => rfl)) (fun _ _ => rfl)))
                (pss_one (ps_ret (pe_ix ix_tup (pv 0) (pe_op op_sub (pe_bm PySem.F.plainAttrs_tuple PySem.F.slot_tuple_index PySem.F.type_tuple_index mt_tup_index (pv 2) (pa_cons (pv 1) pa_nil))
                  (pe_callB call_len_seq (by rfl) T.b_len PySem.boot_len (pa_cons (pv 2) pa_nil))) (fun _ _ => rfl)))), ?_⟩
              refine ⟨_, rfl, a0, xs, 0, _, rfl, rfl, h1, g1, ad, k, .ref t, rfl, rfl, hD, ?_⟩
              refine ⟨_, rfl, .ref t, rfl, .inr (.inl ⟨rfl, o, ht, hc, hdd⟩), _, rfl, t, as, a, j, rfl, rfl, hS H, ?_, ?_, ?_⟩
              · rw [List.getElem?_eq_getElem hj, of_decide_eq_true e4]
              · intro m hm' hz
                have hm2 : m < as.length := by omega
                rw [List.getElem?_eq_getElem hm2] at hz
                have := e5 m hm'
                exact this (decide_eq_true (Option.some.inj hz))
              · refine ⟨.ref t, rfl, t, as.map V.str, rfl, .inr (hS H), (j : Int), _, rfl, rfl, ?_⟩
                rw [List.length_map]
                exact ⟨a0, xs, _, z2, rfl, rfl, h1, g3, q _ H (Same.refl H) (.dat g4)⟩
        | _ => cases e
    · cases e
  · unfold den_next_behind at h
    split at h
    · rfl
    · cases h
end
end Dn
set_option Elab.async false
set_option linter.all false
set_option maxRecDepth 100000
set_option maxHeartbeats 4000000
namespace Dn
open PySem PySem.Spec L2 PyProof.Rows
section
variable {P : Program} {w : World} {K : PySem.W.Frag} {mg : Str → Option Value} {base : Heap}
theorem sc_is_one_of : FnScope ["value", "words"] ["value", "words"] (defScope st_is_one_of) := ⟨rfl, rfl, rfl, by decide +kernel, rfl, by decide +kernel, by decide +kernel⟩
def f_is_one_of : DS := (sRet (dAnd (dUn (gIsi .str) (dVar 0)) (dBin gIn (dVar 0) (dVar 1))))
def den_is_one_of : List PyData → Option PyData := dRun 2 2 f_is_one_of
theorem ok_is_one_of (T : Tx w K mg) : DOk P w K mg base 1 "is_one_of" 2 den_is_one_of := dok_of 2 rfl T.g_is_one_of sc_is_one_of f_is_one_of fun cd A outer s H E fa hr =>
  (s_one (s_ret (d_and (d_isi .str T.b_isinstance T.b_str (by decide +kernel) (d_var 0)) (d_one (d_cmp c_in (d_var 0) (d_var 1) (by rfl))))))
theorem sc_is_there : FnScope ["server"] ["server"] (defScope st_is_there) := ⟨rfl, rfl, rfl, by decide +kernel, rfl, by decide +kernel, by decide +kernel⟩
def f_is_there : DS := (sRet (dBin gIn (dVar 0) (dTup (dConsA (dC (.str "fresh")) (dConsA (dC (.str "there")) dNilA)))))
def den_is_there : List PyData → Option PyData := dRun 1 1 f_is_there
theorem ok_is_there (T : Tx w K mg) : DOk P w K mg base 1 "is_there" 1 den_is_there := dok_of 1 rfl T.g_is_there sc_is_there f_is_there fun cd A outer s H E fa hr =>
  (s_one (s_ret (d_cmp c_in (d_var 0) (d_tup (a_cons (d_glob T.c_FRESH) (a_cons (d_glob T.c_THERE) a_nil))) (by rfl))))
theorem sc_server_after : FnScope ["server", "act"] ["server", "act"] (defScope st_server_after) := ⟨rfl, rfl, rfl, by decide +kernel, rfl, by decide +kernel, by decide +kernel⟩
def f_server_after : DS := (sCons (sIf (dTest (dBin gEq (dVar 1) (dC (.str "take")))) (sRet (dIf (dTest (dApp den_is_there (dConsA (dVar 0) dNilA))) (dC (.str "gone")) (dVar 0))) sNil)
    (sCons (sIf (dTest (dBin gEq (dVar 1) (dC (.str "tick")))) (sRet (dIf (dTest (dBin gEq (dVar 0) (dC (.str "fresh")))) (dC (.str "there")) (dVar 0))) sNil)
    (sRet (dC (.str "fresh")))))
def den_server_after : List PyData → Option PyData := dRun 2 2 f_server_after
theorem ok_server_after (T : Tx w K mg) : DOk P w K mg base 2 "server_after" 2 den_server_after := dok_of 2 rfl T.g_server_after sc_server_after f_server_after fun cd A outer s H E fa hr =>
  (s_cons (s_if (t_cmp (c_eq hr.units) (d_var 1) (d_glob T.c_TAKE) (by rfl)) (s_one (s_ret (d_if (t_val (d_call (ok_is_there T) (hr.mono (by decide)) (a_cons (d_var 0) a_nil))) (d_glob T.c_GONE) (d_var 0)))) s_nil) (s_cons (s_if (t_cmp (c_eq hr.units) (d_var 1) (d_glob T.c_TICK) (by rfl)) (s_one (s_ret (d_if (t_cmp (c_eq hr.units) (d_var 0) (d_glob T.c_FRESH) (by rfl)) (d_glob T.c_THERE) (d_var 0)))) s_nil) (s_one (s_ret (d_glob T.c_FRESH)))))
theorem sc_copy_after : FnScope ["server", "copy", "act", "same", "look", "stamp", "now"] ["server", "copy", "act"] (defScope st_copy_after) := ⟨rfl, rfl, rfl, by decide +kernel, rfl, by decide +kernel, by decide +kernel⟩
def f_copy_after : DS := (sCons (sIf (dTest (dBin gEq (dVar 1) (dTup dNilA))) (sRet (dTup dNilA)) sNil)
    (sCons (sTup [3, 4, 5, 6] (dVar 1))
    (sCons (sIf (dTest (dBin gEq (dVar 2) (dC (.str "tick")))) (sRet (dTup (dConsA (dVar 3) (dConsA (dVar 4) (dConsA (dVar 5) (dConsA (dC (.int 0)) dNilA)))))) sNil)
    (sCons (sIf (dTest (dBin gEq (dVar 2) (dC (.str "take")))) (sRet (dTup (dConsA (dC (.int 0)) (dConsA (dC (.int 0)) (dConsA (dC (.int 0)) (dConsA (dVar 6) dNilA)))))) sNil)
    (sRet (dTup (dConsA (dC (.int 0)) (dConsA (dIf (dAndT (dTest (dBin gEq (dVar 2) (dC (.str "small")))) (dTest (dApp den_is_there (dConsA (dVar 0) dNilA)))) (dVar 4) (dC (.int 0))) (dConsA (dVar 6) (dConsA (dVar 6) dNilA))))))))))
def den_copy_after : List PyData → Option PyData := dRun 3 7 f_copy_after
theorem ok_copy_after (T : Tx w K mg) : DOk P w K mg base 2 "copy_after" 3 den_copy_after := dok_of 3 rfl T.g_copy_after sc_copy_after f_copy_after fun cd A outer s H E fa hr =>
  (s_cons (s_if (t_cmp (c_eq hr.units) (d_var 1) (d_tup a_nil) (by rfl)) (s_one (s_ret (d_tup a_nil))) s_nil) (s_cons (s_tup [3, 4, 5, 6] rfl (d_var 1) (n_cons 3 sc_copy_after.nd (n_cons 4 sc_copy_after.nd (n_cons 5 sc_copy_after.nd (n_cons 6 sc_copy_after.nd n_nil))))) (s_cons (s_if (t_cmp (c_eq hr.units) (d_var 2) (d_glob T.c_TICK) (by rfl)) (s_one (s_ret (d_tup (a_cons (d_var 3) (a_cons (d_var 4) (a_cons (d_var 5) (a_cons d_int a_nil))))))) s_nil) (s_cons (s_if (t_cmp (c_eq hr.units) (d_var 2) (d_glob T.c_TAKE) (by rfl)) (s_one (s_ret (d_tup (a_cons d_int (a_cons d_int (a_cons d_int (a_cons (d_var 6) a_nil))))))) s_nil) (s_one (s_ret (d_tup (a_cons d_int (a_cons (d_if (w_and (t_cmp (c_eq hr.units) (d_var 2) (d_glob T.c_SMALL) (by rfl)) (w_and1 (t_val (d_call (ok_is_there T) (hr.mono (by decide)) (a_cons (d_var 0) a_nil))))).pt (d_var 4) d_int) (a_cons (d_var 6) (a_cons (d_var 6) a_nil)))))))))))
theorem sc_matches : FnScope ["copy", "condition"] ["copy", "condition"] (defScope st_matches) := ⟨rfl, rfl, rfl, by decide +kernel, rfl, by decide +kernel, by decide +kernel⟩
def f_matches : DS := (sRet (dBin gEq (dBin gIxD (dVar 0) (dUn (fun d => gGetK (.dict kd_PLACES) d) (dVar 1))) (dC (.int 1))))
def den_matches : List PyData → Option PyData := dRun 2 2 f_matches
theorem ok_matches (T : Tx w K mg) : DOk P w K mg base 1 "matches" 2 den_matches := dok_of 2 rfl T.g_matches sc_matches f_matches fun cd A outer s H E fa hr =>
  (s_one (s_ret (d_cmp (c_eq hr.units) (d_ix (hu_of hr) (d_var 0) (d_getK T.k_PLACES (d_var 1) (by intro _ _; rfl))) d_int (by rfl))))
theorem sc_is_left_out : FnScope ["copy", "condition"] ["copy", "condition"] (defScope st_is_left_out) := ⟨rfl, rfl, rfl, by decide +kernel, rfl, by decide +kernel, by decide +kernel⟩
def f_is_left_out : DS := (sRet (dOr (dBin gEq (dVar 1) (dC (.str "plain"))) (dAnd (dUn (fun d => gInK d (.dict kd_PLACES)) (dVar 1)) (dBin gEq (dVar 0) (dTup dNilA)))))
def den_is_left_out : List PyData → Option PyData := dRun 2 2 f_is_left_out
theorem ok_is_left_out (T : Tx w K mg) : DOk P w K mg base 1 "is_left_out" 2 den_is_left_out := dok_of 2 rfl T.g_is_left_out sc_is_left_out f_is_left_out fun cd A outer s H E fa hr =>
  (s_one (s_ret (d_or (d_cmp (c_eq hr.units) (d_var 1) (d_glob T.c_PLAIN) (by rfl)) (d_one (d_and (d_inK T.k_PLACES (d_var 1)) (d_one (d_cmp (c_eq hr.units) (d_var 0) (d_tup a_nil) (by rfl))))))))
theorem sc_read_by : FnScope ["server", "copy", "condition"] ["server", "copy", "condition"] (defScope st_read_by) := ⟨rfl, rfl, rfl, by decide +kernel, rfl, by decide +kernel, by decide +kernel⟩
def f_read_by : DS := (sCons (sIf (dNotT (dTest (dApp den_is_there (dConsA (dVar 0) dNilA)))) (sRet (dC (.str "absent"))) sNil)
    (sCons (sIf (dTest (dApp den_is_left_out (dConsA (dVar 1) (dConsA (dVar 2) dNilA)))) (sRet (dC (.str "got"))) sNil)
    (sRet (dIf (dTest (dApp den_matches (dConsA (dVar 1) (dConsA (dVar 2) dNilA)))) (dC (.str "unchanged")) (dC (.str "got"))))))
def den_read_by : List PyData → Option PyData := dRun 3 3 f_read_by
theorem ok_read_by (T : Tx w K mg) : DOk P w K mg base 2 "read_by" 3 den_read_by := dok_of 3 rfl T.g_read_by sc_read_by f_read_by fun cd A outer s H E fa hr =>
  (s_cons (s_if (t_not (t_val (d_call (ok_is_there T) (hr.mono (by decide)) (a_cons (d_var 0) a_nil)))) (s_one (s_ret (d_glob T.c_ABSENT))) s_nil) (s_cons (s_if (t_val (d_call (ok_is_left_out T) (hr.mono (by decide)) (a_cons (d_var 1) (a_cons (d_var 2) a_nil)))) (s_one (s_ret (d_glob T.c_GOT))) s_nil) (s_one (s_ret (d_if (t_val (d_call (ok_matches T) (hr.mono (by decide)) (a_cons (d_var 1) (a_cons (d_var 2) a_nil)))) (d_glob T.c_UNCHANGED) (d_glob T.c_GOT))))))
theorem sc_does_hold : FnScope ["server", "copy", "condition"] ["server", "copy", "condition"] (defScope st_does_hold) := ⟨rfl, rfl, rfl, by decide +kernel, rfl, by decide +kernel, by decide +kernel⟩
def f_does_hold : DS := (sCons (sIf (dTest (dBin gEq (dVar 2) (dC (.str "there")))) (sRet (dApp den_is_there (dConsA (dVar 0) dNilA))) sNil)
    (sCons (sIf (dTest (dBin gEq (dVar 2) (dC (.str "none")))) (sRet (dUn gNot (dApp den_is_there (dConsA (dVar 0) dNilA)))) sNil)
    (sRet (dOr (dApp den_is_left_out (dConsA (dVar 1) (dConsA (dVar 2) dNilA))) (dApp den_matches (dConsA (dVar 1) (dConsA (dVar 2) dNilA)))))))
def den_does_hold : List PyData → Option PyData := dRun 3 3 f_does_hold
theorem ok_does_hold (T : Tx w K mg) : DOk P w K mg base 2 "does_hold" 3 den_does_hold := dok_of 3 rfl T.g_does_hold sc_does_hold f_does_hold fun cd A outer s H E fa hr =>
  (s_cons (s_if (t_cmp (c_eq hr.units) (d_var 2) (d_glob T.c_IF_THERE) (by rfl)) (s_one (s_ret (d_call (ok_is_there T) (hr.mono (by decide)) (a_cons (d_var 0) a_nil)))) s_nil) (s_cons (s_if (t_cmp (c_eq hr.units) (d_var 2) (d_glob T.c_IF_NONE) (by rfl)) (s_one (s_ret (d_notV (d_call (ok_is_there T) (hr.mono (by decide)) (a_cons (d_var 0) a_nil))))) s_nil) (s_one (s_ret (d_or (d_call (ok_is_left_out T) (hr.mono (by decide)) (a_cons (d_var 1) (a_cons (d_var 2) a_nil))) (d_one (d_call (ok_matches T) (hr.mono (by decide)) (a_cons (d_var 1) (a_cons (d_var 2) a_nil)))))))))
theorem sc_put_by : FnScope ["server", "copy", "condition"] ["server", "copy", "condition"] (defScope st_put_by) := ⟨rfl, rfl, rfl, by decide +kernel, rfl, by decide +kernel, by decide +kernel⟩
def f_put_by : DS := (sRet (dIf (dTest (dApp den_does_hold (dConsA (dVar 0) (dConsA (dVar 1) (dConsA (dVar 2) dNilA))))) (dC (.str "yes")) (dC (.str "no"))))
def den_put_by : List PyData → Option PyData := dRun 3 3 f_put_by
theorem ok_put_by (T : Tx w K mg) : DOk P w K mg base 3 "put_by" 3 den_put_by := dok_of 3 rfl T.g_put_by sc_put_by f_put_by fun cd A outer s H E fa hr =>
  (s_one (s_ret (d_if (t_val (d_call (ok_does_hold T) (hr.mono (by decide)) (a_cons (d_var 0) (a_cons (d_var 1) (a_cons (d_var 2) a_nil))))) (d_glob T.c_YES) (d_glob T.c_NO))))
theorem sc_take_by : FnScope ["server", "copy", "condition"] ["server", "copy", "condition"] (defScope st_take_by) := ⟨rfl, rfl, rfl, by decide +kernel, rfl, by decide +kernel, by decide +kernel⟩
def f_take_by : DS := (sCons (sIf (dNotT (dTest (dApp den_is_there (dConsA (dVar 0) dNilA)))) (sRet (dIf (dTest (dApp den_is_left_out (dConsA (dVar 1) (dConsA (dVar 2) dNilA)))) (dC (.str "absent")) (dC (.str "no")))) sNil)
    (sRet (dIf (dTest (dApp den_does_hold (dConsA (dVar 0) (dConsA (dVar 1) (dConsA (dVar 2) dNilA))))) (dC (.str "yes")) (dC (.str "no")))))
def den_take_by : List PyData → Option PyData := dRun 3 3 f_take_by
theorem ok_take_by (T : Tx w K mg) : DOk P w K mg base 3 "take_by" 3 den_take_by := dok_of 3 rfl T.g_take_by sc_take_by f_take_by fun cd A outer s H E fa hr =>
  (s_cons (s_if (t_not (t_val (d_call (ok_is_there T) (hr.mono (by decide)) (a_cons (d_var 0) a_nil)))) (s_one (s_ret (d_if (t_val (d_call (ok_is_left_out T) (hr.mono (by decide)) (a_cons (d_var 1) (a_cons (d_var 2) a_nil)))) (d_glob T.c_ABSENT) (d_glob T.c_NO)))) s_nil) (s_one (s_ret (d_if (t_val (d_call (ok_does_hold T) (hr.mono (by decide)) (a_cons (d_var 0) (a_cons (d_var 1) (a_cons (d_var 2) a_nil))))) (d_glob T.c_YES) (d_glob T.c_NO)))))
theorem sc_is_number : FnScope ["value", "many"] ["value", "many"] (defScope st_is_number) := ⟨rfl, rfl, rfl, by decide +kernel, rfl, by decide +kernel, by decide +kernel⟩
def f_is_number : DS := (sRet (dAnd (dUn (gIsi .int) (dVar 0)) (dAnd (dUn gNot (dUn (gIsi .bool) (dVar 0))) (dChain gLe gLt (dC (.int 0)) (dVar 0) (dVar 1)))))
def den_is_number : List PyData → Option PyData := dRun 2 2 f_is_number
theorem ok_is_number (T : Tx w K mg) : DOk P w K mg base 1 "is_number" 2 den_is_number := dok_of 2 rfl T.g_is_number sc_is_number f_is_number fun cd A outer s H E fa hr =>
  (s_one (s_ret (d_and (d_isi .int T.b_isinstance T.b_int (by decide +kernel) (d_var 0)) (d_and (d_notV (d_isi .bool T.b_isinstance T.b_bool (by decide +kernel) (d_var 0))) (d_one (d_chain c_le c_lt d_int (d_var 0) (d_var 1)))))))
theorem sc_is_step : FnScope ["value", "many", "nexts", "one"] ["value", "many"] (defScope st_is_step) := ⟨rfl, rfl, rfl, by decide +kernel, rfl, by decide +kernel, by decide +kernel⟩
def f_is_step : DS := (sCons (sIf (dOrT (dNotT (dTest (dUn (gIsi .tuple) (dVar 0)))) (dOrT (dTest (dBin gLt (dApp gLenA (dConsA (dVar 0) dNilA)) (dC (.int 2)))) (dNotT (dTest (dUn (gIsi .str) (dBin gIxD (dVar 0) (dC (.int 0)))))))) (sRet (dC (.bool false))) sNil)
    (sCons (sIf (dTest (dBin gEq (dBin gIxD (dVar 0) (dC (.int 0))) (dC (.str "end")))) (sRet (dAnd (dBin gEq (dApp gLenA (dConsA (dVar 0) dNilA)) (dC (.int 2))) (dApp den_is_one_of (dConsA (dBin gIxD (dVar 0) (dC (.int 1))) (dConsA (dC (.tuple [(.str "yes"), (.str "no"), (.str "open")])) dNilA))))) sNil)
    (sCons (sIf (dTest (dBin gEq (dBin gIxD (dVar 0) (dC (.int 0))) (dC (.str "forget")))) (sRet (dAnd (dBin gEq (dApp gLenA (dConsA (dVar 0) dNilA)) (dC (.int 2))) (dApp den_is_number (dConsA (dBin gIxD (dVar 0) (dC (.int 1))) (dConsA (dVar 1) dNilA))))) sNil)
    (sCons (sIf (dOrT (dTest (dUn (fun d => gNotInK d (.dict kd_CONDITIONS)) (dBin gIxD (dVar 0) (dC (.int 0))))) (dNotT (dTest (dApp den_is_one_of (dConsA (dBin gIxD (dVar 0) (dC (.int 1))) (dConsA (dUn (fun d => gGetK (.dict kd_CONDITIONS) d) (dBin gIxD (dVar 0) (dC (.int 0)))) dNilA)))))) (sRet (dC (.bool false))) sNil)
    (sCons (sSet 2 (dSlice (dVar 0) (oSome (dC (.int 2))) oNone))
    (sCons (sIf (dTest (dBin gEq (dBin gIxD (dVar 0) (dC (.int 0))) (dC (.str "put")))) (sCons (sIf (dOrT (dTest (dBin gLt (dApp gLenA (dConsA (dVar 0) dNilA)) (dC (.int 3)))) (dNotT (dTest (dApp den_is_one_of (dConsA (dBin gIxD (dVar 0) (dC (.int 2))) (dConsA (dTup (dConsA (dC (.str "small")) (dConsA (dC (.str "great")) dNilA))) dNilA)))))) (sRet (dC (.bool false))) sNil)
    (sSet 2 (dSlice (dVar 0) (oSome (dC (.int 3))) oNone))) sNil)
    (sRet (dAnd (dBin gEq (dApp gLenA (dConsA (dVar 2) dNilA)) (dApp gLenA (dConsA (dUn (fun d => gGetK (.dict kd_ANSWERS) d) (dBin gIxD (dVar 0) (dC (.int 0)))) dNilA))) (dApp gAllA (dConsA (dLc (dVar 2) 3 yesT (dApp den_is_number (dConsA (dVar 3) (dConsA (dVar 1) dNilA)))) dNilA))))))))))
def den_is_step : List PyData → Option PyData := dRun 2 4 f_is_step
theorem ok_is_step (T : Tx w K mg) : DOk P w K mg base 2 "is_step" 2 den_is_step := dok_of 2 rfl T.g_is_step sc_is_step f_is_step fun cd A outer s H E fa hr =>
  (s_cons (s_if (w_or (t_not (t_val (d_isi .tuple T.b_isinstance T.b_tuple (by decide +kernel) (d_var 0)))) (w_or (t_cmp c_lt (d_callB b_len T.b_len (by decide +kernel) (a_cons (d_var 0) a_nil)) d_int (by rfl)) (w_or1 (t_not (t_val (d_isi .str T.b_isinstance T.b_str (by decide +kernel) (d_ix (hu_of hr) (d_var 0) d_int))))))).pt (s_one (s_ret d_bl)) s_nil) (s_cons (s_if (t_cmp (c_eq hr.units) (d_ix (hu_of hr) (d_var 0) d_int) (d_glob T.c_END) (by rfl)) (s_one (s_ret (d_and (d_cmp (c_eq hr.units) (d_callB b_len T.b_len (by decide +kernel) (a_cons (d_var 0) a_nil)) d_int (by rfl)) (d_one (d_call (ok_is_one_of T) (hr.mono (by decide)) (a_cons (d_ix (hu_of hr) (d_var 0) d_int) (a_cons (d_glob T.c_ENDS) a_nil))))))) s_nil) (s_cons (s_if (t_cmp (c_eq hr.units) (d_ix (hu_of hr) (d_var 0) d_int) (d_glob T.c_FORGET) (by rfl)) (s_one (s_ret (d_and (d_cmp (c_eq hr.units) (d_callB b_len T.b_len (by decide +kernel) (a_cons (d_var 0) a_nil)) d_int (by rfl)) (d_one (d_call (ok_is_number T) (hr.mono (by decide)) (a_cons (d_ix (hu_of hr) (d_var 0) d_int) (a_cons (d_var 1) a_nil))))))) s_nil) (s_cons (s_if (w_or (t_notinK T.k_CONDITIONS (d_ix (hu_of hr) (d_var 0) d_int)) (w_or1 (t_not (t_val (d_call (ok_is_one_of T) (hr.mono (by decide)) (a_cons (d_ix (hu_of hr) (d_var 0) d_int) (a_cons (d_getK T.k_CONDITIONS (d_ix (hu_of hr) (d_var 0) d_int) (by intro _ _; rfl)) a_nil))))))).pt (s_one (s_ret d_bl)) s_nil) (s_cons (s_set 2 (d_slice (d_var 0) (o_some d_int) o_none) sc_is_step.nd) (s_cons (s_if (t_cmp (c_eq hr.units) (d_ix (hu_of hr) (d_var 0) d_int) (d_glob T.c_PUT) (by rfl)) (s_cons (s_if (w_or (t_cmp c_lt (d_callB b_len T.b_len (by decide +kernel) (a_cons (d_var 0) a_nil)) d_int (by rfl)) (w_or1 (t_not (t_val (d_call (ok_is_one_of T) (hr.mono (by decide)) (a_cons (d_ix (hu_of hr) (d_var 0) d_int) (a_cons (d_tup (a_cons (d_glob T.c_SMALL) (a_cons (d_glob T.c_GREAT) a_nil))) a_nil))))))).pt (s_one (s_ret d_bl)) s_nil) (s_one (s_set 2 (d_slice (d_var 0) (o_some d_int) o_none) sc_is_step.nd))) s_nil) (s_one (s_ret (d_and (d_cmp (c_eq hr.units) (d_callB b_len T.b_len (by decide +kernel) (a_cons (d_var 2) a_nil)) (d_callB b_len T.b_len (by decide +kernel) (a_cons (d_getK T.k_ANSWERS (d_ix (hu_of hr) (d_var 0) d_int) (by intro _ _; rfl)) a_nil)) (by rfl)) (d_one (d_callB (b_all rfl) T.b_all (by decide +kernel) (a_cons (d_lcT 3 rfl sc_is_step.nd (d_var 2) (blkOk_by (N := ["value", "many", "nexts", "one"]) (sc := defScope st_is_step) (by decide +kernel)) (fun _ _ _ _ _ => pg_name (i := 3) sc_is_step.nd rfl (Or.inl rfl)) (fun _ _ _ _ _ => ts_nil) (fun _ _ _ _ _ => (d_call (ok_is_number T) (hr.mono (by decide)) (a_cons (d_var 3) (a_cons (d_var 1) a_nil))))) a_nil))))))))))))
theorem sc_need_others : FnScope ["value", "act", "one", "other"] ["value"] (defScope st_need_others) := ⟨rfl, rfl, rfl, by decide +kernel, rfl, by decide +kernel, by decide +kernel⟩
def f_need_others : DS := (sCons (sIf (dOrT (dNotT (dTest (dUn (gIsi .tuple) (dVar 0)))) (dNotT (dTest (dApp gAllA (dConsA (dLc (dVar 0) 1 yesT (dApp den_is_one_of (dConsA (dVar 1) (dConsA (dC (.tuple [(.str "great"), (.str "small"), (.str "take")])) dNilA)))) dNilA))))) sNever sNil)
    (sIf (dNotT (dTest (dApp gAllA (dConsA (dLcZ (dVar 0) (dSlice (dVar 0) (oSome (dC (.int 1))) oNone) 2 3 yesT (dBin gLt (dVar 2) (dVar 3))) dNilA)))) sNever sNil))
def den_need_others : List PyData → Option PyData := dRun 1 4 f_need_others
theorem ok_need_others (T : Tx w K mg) : DOk P w K mg base 2 "need_others" 1 den_need_others := dok_of 1 rfl T.g_need_others sc_need_others f_need_others fun cd A outer s H E fa hr =>
  (s_cons (s_if (w_or (t_not (t_val (d_isi .tuple T.b_isinstance T.b_tuple (by decide +kernel) (d_var 0)))) (w_or1 (t_not (t_val (d_callB (b_all rfl) T.b_all (by decide +kernel) (a_cons (d_lcT 1 rfl sc_need_others.nd (d_var 0) (blkOk_by (N := ["value", "act", "one", "other"]) (sc := defScope st_need_others) (by decide +kernel)) (fun _ _ _ _ _ => pg_name (i := 1) sc_need_others.nd rfl (Or.inl rfl)) (fun _ _ _ _ _ => ts_nil) (fun _ _ _ _ _ => (d_call (ok_is_one_of T) (hr.mono (by decide)) (a_cons (d_var 1) (a_cons (d_glob T.c_WRITINGS) a_nil))))) a_nil)))))).pt (s_one s_never) s_nil) (s_one (s_if (t_not (t_val (d_callB (b_all rfl) T.b_all (by decide +kernel) (a_cons (d_lcZ 2 3 (by decide) T.b_zip rfl sc_need_others.nd (d_var 0) (d_slice (d_var 0) (o_some d_int) o_none) (blkOk_by (N := ["value", "act", "one", "other"]) (sc := defScope st_need_others) (by decide +kernel)) (fun _ _ _ _ _ => n_cons 2 sc_need_others.nd (n_cons 3 sc_need_others.nd n_nil)) (fun _ _ _ _ _ => ts_nil) (fun _ _ _ _ _ => (d_cmp c_lt (d_var 2) (d_var 3) (by rfl)))) a_nil)))) (s_one s_never) s_nil)))
theorem sc_need_net : FnScope ["value"] ["value"] (defScope st_need_net) := ⟨rfl, rfl, rfl, by decide +kernel, rfl, by decide +kernel, by decide +kernel⟩
def f_need_net : DS := (sIf (dNotT (dTest (dApp den_is_one_of (dConsA (dVar 0) (dConsA (dC (.tuple [(.str "sure"), (.str "lost"), (.str "late"), (.str "again")])) dNilA))))) sNever sNil)
def den_need_net : List PyData → Option PyData := dRun 1 1 f_need_net
theorem ok_need_net (T : Tx w K mg) : DOk P w K mg base 2 "need_net" 1 den_need_net := dok_of 1 rfl T.g_need_net sc_need_net f_need_net fun cd A outer s H E fa hr =>
  (s_one (s_if (t_not (t_val (d_call (ok_is_one_of T) (hr.mono (by decide)) (a_cons (d_var 0) (a_cons (d_glob T.c_NETS) a_nil))))) (s_one s_never) s_nil))
theorem sc_first_of : FnScope ["server"] ["server"] (defScope st_first_of) := ⟨rfl, rfl, rfl, by decide +kernel, rfl, by decide +kernel, by decide +kernel⟩
def f_first_of : DS := (sRet (dTup (dConsA (dVar 0) (dConsA (dC (.int 0)) (dConsA (dTup dNilA) (dConsA (dC (.int 0)) (dConsA (dC (.int 0)) (dConsA (dC (.int 0)) (dConsA (dTup dNilA) dNilA)))))))))
def den_first_of : List PyData → Option PyData := dRun 1 1 f_first_of
theorem ok_first_of (T : Tx w K mg) : DOk P w K mg base 1 "first_of" 1 den_first_of := dok_of 1 rfl T.g_first_of sc_first_of f_first_of fun cd A outer s H E fa hr =>
  (s_one (s_ret (d_tup (a_cons (d_var 0) (a_cons d_int (a_cons (d_tup a_nil) (a_cons d_int (a_cons d_int (a_cons d_int (a_cons (d_tup a_nil) a_nil))))))))))
theorem sc_answer_to : FnScope ["one", "server", "copy"] ["one", "server", "copy"] (defScope st_answer_to) := ⟨rfl, rfl, rfl, by decide +kernel, rfl, by decide +kernel, by decide +kernel⟩
def f_answer_to : DS := (sCons (sIf (dTest (dBin gEq (dBin gIxD (dVar 0) (dC (.int 0))) (dC (.str "read")))) (sRet (dApp den_read_by (dConsA (dVar 1) (dConsA (dVar 2) (dConsA (dBin gIxD (dVar 0) (dC (.int 1))) dNilA))))) sNil)
    (sRet (dIf (dTest (dBin gEq (dBin gIxD (dVar 0) (dC (.int 0))) (dC (.str "put")))) (dApp den_put_by (dConsA (dVar 1) (dConsA (dVar 2) (dConsA (dBin gIxD (dVar 0) (dC (.int 1))) dNilA)))) (dApp den_take_by (dConsA (dVar 1) (dConsA (dVar 2) (dConsA (dBin gIxD (dVar 0) (dC (.int 1))) dNilA)))))))
def den_answer_to : List PyData → Option PyData := dRun 3 3 f_answer_to
theorem ok_answer_to (T : Tx w K mg) : DOk P w K mg base 4 "answer_to" 3 den_answer_to := dok_of 3 rfl T.g_answer_to sc_answer_to f_answer_to fun cd A outer s H E fa hr =>
  (s_cons (s_if (t_cmp (c_eq hr.units) (d_ix (hu_of hr) (d_var 0) d_int) (d_glob T.c_READ) (by rfl)) (s_one (s_ret (d_call (ok_read_by T) (hr.mono (by decide)) (a_cons (d_var 1) (a_cons (d_var 2) (a_cons (d_ix (hu_of hr) (d_var 0) d_int) a_nil)))))) s_nil) (s_one (s_ret (d_if (t_cmp (c_eq hr.units) (d_ix (hu_of hr) (d_var 0) d_int) (d_glob T.c_PUT) (by rfl)) (d_call (ok_put_by T) (hr.mono (by decide)) (a_cons (d_var 1) (a_cons (d_var 2) (a_cons (d_ix (hu_of hr) (d_var 0) d_int) a_nil)))) (d_call (ok_take_by T) (hr.mono (by decide)) (a_cons (d_var 1) (a_cons (d_var 2) (a_cons (d_ix (hu_of hr) (d_var 0) d_int) a_nil))))))))
theorem sc_act_of : FnScope ["one"] ["one"] (defScope st_act_of) := ⟨rfl, rfl, rfl, by decide +kernel, rfl, by decide +kernel, by decide +kernel⟩
def f_act_of : DS := (sRet (dIf (dTest (dBin gEq (dBin gIxD (dVar 0) (dC (.int 0))) (dC (.str "put")))) (dBin gIxD (dVar 0) (dC (.int 2))) (dC (.str "take"))))
def den_act_of : List PyData → Option PyData := dRun 1 1 f_act_of
theorem ok_act_of (T : Tx w K mg) : DOk P w K mg base 1 "act_of" 1 den_act_of := dok_of 1 rfl T.g_act_of sc_act_of f_act_of fun cd A outer s H E fa hr =>
  (s_one (s_ret (d_if (t_cmp (c_eq hr.units) (d_ix (hu_of hr) (d_var 0) d_int) (d_glob T.c_PUT) (by rfl)) (d_ix (hu_of hr) (d_var 0) d_int) (d_glob T.c_TAKE))))
theorem sc_is_done_by : FnScope ["one", "server", "copy"] ["one", "server", "copy"] (defScope st_is_done_by) := ⟨rfl, rfl, rfl, by decide +kernel, rfl, by decide +kernel, by decide +kernel⟩
def f_is_done_by : DS := (sRet (dAnd (dBin gIn (dBin gIxD (dVar 0) (dC (.int 0))) (dTup (dConsA (dC (.str "put")) (dConsA (dC (.str "take")) dNilA)))) (dBin gEq (dApp den_answer_to (dConsA (dVar 0) (dConsA (dVar 1) (dConsA (dVar 2) dNilA)))) (dC (.str "yes")))))
def den_is_done_by : List PyData → Option PyData := dRun 3 3 f_is_done_by
theorem ok_is_done_by (T : Tx w K mg) : DOk P w K mg base 5 "is_done_by" 3 den_is_done_by := dok_of 3 rfl T.g_is_done_by sc_is_done_by f_is_done_by fun cd A outer s H E fa hr =>
  (s_one (s_ret (d_and (d_cmp c_in (d_ix (hu_of hr) (d_var 0) d_int) (d_tup (a_cons (d_glob T.c_PUT) (a_cons (d_glob T.c_TAKE) a_nil))) (by rfl)) (d_one (d_cmp (c_eq hr.units) (d_call (ok_answer_to T) (hr.mono (by decide)) (a_cons (d_var 0) (a_cons (d_var 1) (a_cons (d_var 2) a_nil)))) (d_glob T.c_YES) (by rfl))))))
theorem sc_can_happen : FnScope ["script", "state", "event", "others", "net", "server", "number", "copy", "known", "own", "done", "late", "one"] ["script", "state", "event", "others", "net"] (defScope st_can_happen) := ⟨rfl, rfl, rfl, by decide +kernel, rfl, by decide +kernel, by decide +kernel⟩
def f_can_happen : DS := (sCons (sTup [5, 6, 7, 8, 9, 10, 11] (dVar 1))
    (sCons (sSet 12 (dBin gIxD (dUn gSteps (dVar 0)) (dVar 6)))
    (sCons (sIf (dTest (dBin gEq (dVar 2) (dC (.str "tick")))) (sRet (dC (.bool true))) sNil)
    (sCons (sIf (dTest (dBin gIn (dVar 2) (dC (.tuple [(.str "great"), (.str "small"), (.str "take")])))) (sRet (dAnd (dBin gIn (dVar 2) (dVar 3)) (dOr (dBin gEq (dVar 2) (dC (.str "great"))) (dApp den_is_there (dConsA (dVar 5) dNilA))))) sNil)
    (sCons (sIf (dTest (dBin gEq (dVar 2) (dC (.str "answered")))) (sRet (dBin gNe (dBin gIxD (dVar 12) (dC (.int 0))) (dC (.str "end")))) sNil)
    (sCons (sIf (dTest (dBin gEq (dVar 4) (dC (.str "sure")))) (sRet (dC (.bool false))) sNil)
    (sCons (sIf (dTest (dBin gEq (dVar 2) (dC (.str "unheard")))) (sRet (dApp den_is_done_by (dConsA (dVar 12) (dConsA (dVar 5) (dConsA (dVar 7) dNilA))))) sNil)
    (sCons (sIf (dTest (dBin gEq (dVar 2) (dC (.str "unsent")))) (sRet (dBin gNotIn (dBin gIxD (dVar 12) (dC (.int 0))) (dTup (dConsA (dC (.str "end")) (dConsA (dC (.str "forget")) dNilA))))) sNil)
    (sRet (dAnd (dBin gIn (dVar 4) (dTup (dConsA (dC (.str "late")) (dConsA (dC (.str "again")) dNilA)))) (dBin gNe (dVar 11) (dTup dNilA))))))))))))
def den_can_happen : List PyData → Option PyData := dRun 5 13 f_can_happen
theorem ok_can_happen (T : Tx w K mg) : DOk P w K mg base 6 "can_happen" 5 den_can_happen := dok_of 5 rfl T.g_can_happen sc_can_happen f_can_happen fun cd A outer s H E fa hr =>
  (s_cons (s_tup [5, 6, 7, 8, 9, 10, 11] rfl (d_var 1) (n_cons 5 sc_can_happen.nd (n_cons 6 sc_can_happen.nd (n_cons 7 sc_can_happen.nd (n_cons 8 sc_can_happen.nd (n_cons 9 sc_can_happen.nd (n_cons 10 sc_can_happen.nd (n_cons 11 sc_can_happen.nd n_nil)))))))) (s_cons (s_set 12 (d_ix (hu_of hr) (d_steps (d_var 0)) (d_var 6)) sc_can_happen.nd) (s_cons (s_if (t_cmp (c_eq hr.units) (d_var 2) (d_glob T.c_TICK) (by rfl)) (s_one (s_ret d_bl)) s_nil) (s_cons (s_if (t_cmp c_in (d_var 2) (d_glob T.c_WRITINGS) (by rfl)) (s_one (s_ret (d_and (d_cmp c_in (d_var 2) (d_var 3) (by rfl)) (d_one (d_or (d_cmp (c_eq hr.units) (d_var 2) (d_glob T.c_GREAT) (by rfl)) (d_one (d_call (ok_is_there T) (hr.mono (by decide)) (a_cons (d_var 5) a_nil)))))))) s_nil) (s_cons (s_if (t_cmp (c_eq hr.units) (d_var 2) (d_glob T.c_ANSWERED) (by rfl)) (s_one (s_ret (d_cmp (c_ne hr.units) (d_ix (hu_of hr) (d_var 12) d_int) (d_glob T.c_END) (by rfl)))) s_nil) (s_cons (s_if (t_cmp (c_eq hr.units) (d_var 4) (d_glob T.c_SURE) (by rfl)) (s_one (s_ret d_bl)) s_nil) (s_cons (s_if (t_cmp (c_eq hr.units) (d_var 2) (d_glob T.c_UNHEARD) (by rfl)) (s_one (s_ret (d_call (ok_is_done_by T) (hr.mono (by decide)) (a_cons (d_var 12) (a_cons (d_var 5) (a_cons (d_var 7) a_nil)))))) s_nil) (s_cons (s_if (t_cmp (c_eq hr.units) (d_var 2) (d_glob T.c_UNSENT) (by rfl)) (s_one (s_ret (d_cmp c_notin (d_ix (hu_of hr) (d_var 12) d_int) (d_tup (a_cons (d_glob T.c_END) (a_cons (d_glob T.c_FORGET) a_nil))) (by rfl)))) s_nil) (s_one (s_ret (d_and (d_cmp c_in (d_var 4) (d_tup (a_cons (d_glob T.c_LATE_NET) (a_cons (d_glob T.c_AGAIN) a_nil))) (by rfl)) (d_one (d_cmp (c_ne hr.units) (d_var 11) (d_tup a_nil) (by rfl))))))))))))))
theorem sc_late_after : FnScope ["server", "late", "act"] ["server", "late", "act"] (defScope st_late_after) := ⟨rfl, rfl, rfl, by decide +kernel, rfl, by decide +kernel, by decide +kernel⟩
def f_late_after : DS := (sRet (dIf (dTest (dBin gEq (dVar 1) (dTup dNilA))) (dTup dNilA) (dTup (dConsA (dBin gIxD (dVar 1) (dC (.int 0))) (dConsA (dApp den_copy_after (dConsA (dVar 0) (dConsA (dBin gIxD (dVar 1) (dC (.int 1))) (dConsA (dVar 2) dNilA)))) (dConsA (dBin gIxD (dVar 1) (dC (.int 2))) dNilA))))))
def den_late_after : List PyData → Option PyData := dRun 3 3 f_late_after
theorem ok_late_after (T : Tx w K mg) : DOk P w K mg base 3 "late_after" 3 den_late_after := dok_of 3 rfl T.g_late_after sc_late_after f_late_after fun cd A outer s H E fa hr =>
  (s_one (s_ret (d_if (t_cmp (c_eq hr.units) (d_var 1) (d_tup a_nil) (by rfl)) (d_tup a_nil) (d_tup (a_cons (d_ix (hu_of hr) (d_var 1) d_int) (a_cons (d_call (ok_copy_after T) (hr.mono (by decide)) (a_cons (d_var 0) (a_cons (d_ix (hu_of hr) (d_var 1) d_int) (a_cons (d_var 2) a_nil)))) (a_cons (d_ix (hu_of hr) (d_var 1) d_int) a_nil)))))))
theorem sc_acted : FnScope ["state", "act", "is_own", "server", "number", "copy", "known", "own", "done", "late", "later", "many"] ["state", "act", "is_own"] (defScope st_acted) := ⟨rfl, rfl, rfl, by decide +kernel, rfl, by decide +kernel, by decide +kernel⟩
def f_acted : DS := (sCons (sTup [3, 4, 5, 6, 7, 8, 9] (dVar 0))
    (sCons (sSet 10 (dApp den_late_after (dConsA (dVar 3) (dConsA (dVar 9) (dConsA (dVar 1) dNilA)))))
    (sCons (sIf (dAndT (dNotT (dTest (dVar 2))) (dTest (dBin gNe (dVar 10) (dTup dNilA)))) (sSet 10 (dTup (dConsA (dBin gIxD (dVar 10) (dC (.int 0))) (dConsA (dBin gIxD (dVar 10) (dC (.int 1))) (dConsA (dC (.int 0)) dNilA))))) sNil)
    (sCons (sSet 11 (dIf (dTest (dVar 2)) (dApp gMinA (dConsA (dC (.int 2)) (dConsA (dBin gAdd (dVar 8) (dC (.int 1))) dNilA))) (dVar 8)))
    (sRet (dTup (dConsA (dApp den_server_after (dConsA (dVar 3) (dConsA (dVar 1) dNilA))) (dConsA (dVar 4) (dConsA (dApp den_copy_after (dConsA (dVar 3) (dConsA (dVar 5) (dConsA (dVar 1) dNilA)))) (dConsA (dC (.int 0)) (dConsA (dApp gIntA (dConsA (dVar 2) dNilA)) (dConsA (dVar 11) (dConsA (dVar 10) dNilA)))))))))))))
def den_acted : List PyData → Option PyData := dRun 3 12 f_acted
theorem ok_acted (T : Tx w K mg) : DOk P w K mg base 4 "acted" 3 den_acted := dok_of 3 rfl T.g_acted sc_acted f_acted fun cd A outer s H E fa hr =>
  (s_cons (s_tup [3, 4, 5, 6, 7, 8, 9] rfl (d_var 0) (n_cons 3 sc_acted.nd (n_cons 4 sc_acted.nd (n_cons 5 sc_acted.nd (n_cons 6 sc_acted.nd (n_cons 7 sc_acted.nd (n_cons 8 sc_acted.nd (n_cons 9 sc_acted.nd n_nil)))))))) (s_cons (s_set 10 (d_call (ok_late_after T) (hr.mono (by decide)) (a_cons (d_var 3) (a_cons (d_var 9) (a_cons (d_var 1) a_nil)))) sc_acted.nd) (s_cons (s_if (w_and (t_not (t_val (d_var 2))) (w_and1 (t_cmp (c_ne hr.units) (d_var 10) (d_tup a_nil) (by rfl)))).pt (s_one (s_set 10 (d_tup (a_cons (d_ix (hu_of hr) (d_var 10) d_int) (a_cons (d_ix (hu_of hr) (d_var 10) d_int) (a_cons d_int a_nil)))) sc_acted.nd)) s_nil) (s_cons (s_set 11 (d_if (t_val (d_var 2)) (d_callB (b_min rfl) T.b_min (by decide +kernel) (a_cons (d_glob T.c_MOST_DONE) (a_cons (d_add (d_var 8) d_int) a_nil))) (d_var 8)) sc_acted.nd) (s_one (s_ret (d_tup (a_cons (d_call (ok_server_after T) (hr.mono (by decide)) (a_cons (d_var 3) (a_cons (d_var 1) a_nil))) (a_cons (d_var 4) (a_cons (d_call (ok_copy_after T) (hr.mono (by decide)) (a_cons (d_var 3) (a_cons (d_var 5) (a_cons (d_var 1) a_nil)))) (a_cons d_int (a_cons (d_callTy b_int T.b_int (by decide +kernel) (a_cons (d_var 2) a_nil)) (a_cons (d_var 11) (a_cons (d_var 10) a_nil))))))))))))))
theorem sc_ticked : FnScope ["state", "server", "number", "copy", "known", "own", "done", "late", "later"] ["state"] (defScope st_ticked) := ⟨rfl, rfl, rfl, by decide +kernel, rfl, by decide +kernel, by decide +kernel⟩
def f_ticked : DS := (sCons (sTup [1, 2, 3, 4, 5, 6, 7] (dVar 0))
    (sCons (sSet 8 (dApp den_late_after (dConsA (dVar 1) (dConsA (dVar 7) (dConsA (dC (.str "tick")) dNilA)))))
    (sRet (dTup (dConsA (dApp den_server_after (dConsA (dVar 1) (dConsA (dC (.str "tick")) dNilA))) (dConsA (dVar 2) (dConsA (dApp den_copy_after (dConsA (dVar 1) (dConsA (dVar 3) (dConsA (dC (.str "tick")) dNilA)))) (dConsA (dVar 4) (dConsA (dVar 5) (dConsA (dVar 6) (dConsA (dVar 8) dNilA)))))))))))
def den_ticked : List PyData → Option PyData := dRun 1 9 f_ticked
theorem ok_ticked (T : Tx w K mg) : DOk P w K mg base 4 "ticked" 1 den_ticked := dok_of 1 rfl T.g_ticked sc_ticked f_ticked fun cd A outer s H E fa hr =>
  (s_cons (s_tup [1, 2, 3, 4, 5, 6, 7] rfl (d_var 0) (n_cons 1 sc_ticked.nd (n_cons 2 sc_ticked.nd (n_cons 3 sc_ticked.nd (n_cons 4 sc_ticked.nd (n_cons 5 sc_ticked.nd (n_cons 6 sc_ticked.nd (n_cons 7 sc_ticked.nd n_nil)))))))) (s_cons (s_set 8 (d_call (ok_late_after T) (hr.mono (by decide)) (a_cons (d_var 1) (a_cons (d_var 7) (a_cons (d_glob T.c_TICK) a_nil)))) sc_ticked.nd) (s_one (s_ret (d_tup (a_cons (d_call (ok_server_after T) (hr.mono (by decide)) (a_cons (d_var 1) (a_cons (d_glob T.c_TICK) a_nil))) (a_cons (d_var 2) (a_cons (d_call (ok_copy_after T) (hr.mono (by decide)) (a_cons (d_var 1) (a_cons (d_var 3) (a_cons (d_glob T.c_TICK) a_nil)))) (a_cons (d_var 4) (a_cons (d_var 5) (a_cons (d_var 6) (a_cons (d_var 8) a_nil))))))))))))
theorem sc_at_step : FnScope ["state", "number"] ["state", "number"] (defScope st_at_step) := ⟨rfl, rfl, rfl, by decide +kernel, rfl, by decide +kernel, by decide +kernel⟩
def f_at_step : DS := (sRet (dBin gAdd (dBin gAdd (dSlice (dVar 0) oNone (oSome (dC (.int 1)))) (dTup (dConsA (dVar 1) dNilA))) (dSlice (dVar 0) (oSome (dC (.int 2))) oNone)))
def den_at_step : List PyData → Option PyData := dRun 2 2 f_at_step
theorem ok_at_step (T : Tx w K mg) : DOk P w K mg base 1 "at_step" 2 den_at_step := dok_of 2 rfl T.g_at_step sc_at_step f_at_step fun cd A outer s H E fa hr =>
  (s_one (s_ret (d_add (d_add (d_slice (d_var 0) o_none (o_some d_int)) (d_tup (a_cons (d_var 1) a_nil))) (d_slice (d_var 0) (o_some d_int) o_none))))
theorem sc_seen_now : FnScope ["state", "copy"] ["state", "copy"] (defScope st_seen_now) := ⟨rfl, rfl, rfl, by decide +kernel, rfl, by decide +kernel, by decide +kernel⟩
def f_seen_now : DS := (sRet (dBin gAdd (dBin gAdd (dSlice (dVar 0) oNone (oSome (dC (.int 2)))) (dTup (dConsA (dVar 1) (dConsA (dC (.int 1)) dNilA)))) (dSlice (dVar 0) (oSome (dC (.int 4))) oNone)))
def den_seen_now : List PyData → Option PyData := dRun 2 2 f_seen_now
theorem ok_seen_now (T : Tx w K mg) : DOk P w K mg base 1 "seen_now" 2 den_seen_now := dok_of 2 rfl T.g_seen_now sc_seen_now f_seen_now fun cd A outer s H E fa hr =>
  (s_one (s_ret (d_add (d_add (d_slice (d_var 0) o_none (o_some d_int)) (d_tup (a_cons (d_var 1) (a_cons d_int a_nil)))) (d_slice (d_var 0) (o_some d_int) o_none))))
theorem sc_answered : FnScope ["script", "state", "server", "number", "copy", "known", "own", "done", "late", "one", "answer", "here"] ["script", "state"] (defScope st_answered) := ⟨rfl, rfl, rfl, by decide +kernel, rfl, by decide +kernel, by decide +kernel⟩
def f_answered : DS := (sCons (sTup [2, 3, 4, 5, 6, 7, 8] (dVar 1))
    (sCons (sSet 9 (dBin gIxD (dUn gSteps (dVar 0)) (dVar 3)))
    (sCons (sIf (dTest (dBin gEq (dBin gIxD (dVar 9) (dC (.int 0))) (dC (.str "forget")))) (sRet (dBin gAdd (dTup (dConsA (dVar 2) (dConsA (dBin gIxD (dVar 9) (dC (.int 1))) (dConsA (dTup dNilA) dNilA)))) (dSlice (dVar 1) (oSome (dC (.int 3))) oNone))) sNil)
    (sCons (sSet 10 (dApp den_answer_to (dConsA (dVar 9) (dConsA (dVar 2) (dConsA (dVar 4) dNilA)))))
    (sCons (sIf (dAndT (dTest (dBin gEq (dVar 10) (dC (.str "got")))) (dTest (dBin gEq (dVar 6) (dC (.int 1))))) (sSet 10 (dC (.str "mine"))) sNil)
    (sCons (sSet 11 (dApp den_at_step (dConsA (dVar 1) (dConsA (dApp den_next_behind (dConsA (dVar 9) (dConsA (dVar 10) dNilA))) dNilA))))
    (sCons (sIf (dTest (dBin gIn (dVar 10) (dTup (dConsA (dC (.str "got")) (dConsA (dC (.str "mine")) dNilA))))) (sRet (dApp den_seen_now (dConsA (dVar 11) (dConsA (dIf (dTest (dBin gEq (dVar 2) (dC (.str "fresh")))) (dC (.tuple [(.int 1), (.int 1), (.int 1), (.int 1)])) (dC (.tuple [(.int 1), (.int 1), (.int 1), (.int 0)]))) dNilA)))) sNil)
    (sCons (sIf (dTest (dBin gEq (dVar 10) (dC (.str "yes")))) (sRet (dApp den_seen_now (dConsA (dApp den_acted (dConsA (dVar 11) (dConsA (dApp den_act_of (dConsA (dVar 9) dNilA)) (dConsA (dC (.bool true)) dNilA)))) (dConsA (dIf (dTest (dBin gEq (dBin gIxD (dVar 9) (dC (.int 0))) (dC (.str "put")))) (dC (.tuple [(.int 1), (.int 1), (.int 1), (.int 1)])) (dTup dNilA)) dNilA)))) sNil)
    (sRet (dIf (dTest (dBin gEq (dVar 10) (dC (.str "absent")))) (dApp den_seen_now (dConsA (dVar 11) (dConsA (dTup dNilA) dNilA))) (dVar 11)))))))))))
def den_answered : List PyData → Option PyData := dRun 2 12 f_answered
theorem ok_answered (T : Tx w K mg) : DOk P w K mg base 5 "answered" 2 den_answered := dok_of 2 rfl T.g_answered sc_answered f_answered fun cd A outer s H E fa hr =>
  (s_cons (s_tup [2, 3, 4, 5, 6, 7, 8] rfl (d_var 1) (n_cons 2 sc_answered.nd (n_cons 3 sc_answered.nd (n_cons 4 sc_answered.nd (n_cons 5 sc_answered.nd (n_cons 6 sc_answered.nd (n_cons 7 sc_answered.nd (n_cons 8 sc_answered.nd n_nil)))))))) (s_cons (s_set 9 (d_ix (hu_of hr) (d_steps (d_var 0)) (d_var 3)) sc_answered.nd) (s_cons (s_if (t_cmp (c_eq hr.units) (d_ix (hu_of hr) (d_var 9) d_int) (d_glob T.c_FORGET) (by rfl)) (s_one (s_ret (d_add (d_tup (a_cons (d_var 2) (a_cons (d_ix (hu_of hr) (d_var 9) d_int) (a_cons (d_tup a_nil) a_nil)))) (d_slice (d_var 1) (o_some d_int) o_none)))) s_nil) (s_cons (s_set 10 (d_call (ok_answer_to T) (hr.mono (by decide)) (a_cons (d_var 9) (a_cons (d_var 2) (a_cons (d_var 4) a_nil)))) sc_answered.nd) (s_cons (s_if (w_and (t_cmp (c_eq hr.units) (d_var 10) (d_glob T.c_GOT) (by rfl)) (w_and1 (t_cmp (c_eq hr.units) (d_var 6) d_int (by rfl)))).pt (s_one (s_set 10 (d_glob T.c_MINE) sc_answered.nd)) s_nil) (s_cons (s_set 11 (d_call (ok_at_step T) (hr.mono (by decide)) (a_cons (d_var 1) (a_cons (d_call (ok_next_behind T) (hr.mono (by decide)) (a_cons (d_var 9) (a_cons (d_var 10) a_nil))) a_nil))) sc_answered.nd) (s_cons (s_if (t_cmp c_in (d_var 10) (d_tup (a_cons (d_glob T.c_GOT) (a_cons (d_glob T.c_MINE) a_nil))) (by rfl)) (s_one (s_ret (d_call (ok_seen_now T) (hr.mono (by decide)) (a_cons (d_var 11) (a_cons (d_if (t_cmp (c_eq hr.units) (d_var 2) d_str (by rfl)) (d_glob T.c_PRESENT) (d_glob T.c_ELDER)) a_nil))))) s_nil) (s_cons (s_if (t_cmp (c_eq hr.units) (d_var 10) (d_glob T.c_YES) (by rfl)) (s_one (s_ret (d_call (ok_seen_now T) (hr.mono (by decide)) (a_cons (d_call (ok_acted T) (hr.mono (by decide)) (a_cons (d_var 11) (a_cons (d_call (ok_act_of T) (hr.mono (by decide)) (a_cons (d_var 9) a_nil)) (a_cons d_bl a_nil)))) (a_cons (d_if (t_cmp (c_eq hr.units) (d_ix (hu_of hr) (d_var 9) d_int) (d_glob T.c_PUT) (by rfl)) (d_glob T.c_PRESENT) (d_tup a_nil)) a_nil))))) s_nil) (s_one (s_ret (d_if (t_cmp (c_eq hr.units) (d_var 10) (d_glob T.c_ABSENT) (by rfl)) (d_call (ok_seen_now T) (hr.mono (by decide)) (a_cons (d_var 11) (a_cons (d_tup a_nil) a_nil))) (d_var 11))))))))))))
theorem sc_sent_now : FnScope ["state", "kept_copy"] ["state", "kept_copy"] (defScope st_sent_now) := ⟨rfl, rfl, rfl, by decide +kernel, rfl, by decide +kernel, by decide +kernel⟩
def f_sent_now : DS := (sRet (dTup (dConsA (dBin gIxD (dVar 0) (dC (.int 1))) (dConsA (dVar 1) (dConsA (dApp gIntA (dConsA (dOr (dBin gEq (dBin gIxD (dVar 0) (dC (.int 3))) (dC (.int 1))) (dBin gEq (dBin gIxD (dVar 0) (dC (.int 4))) (dC (.int 1)))) dNilA)) dNilA)))))
def den_sent_now : List PyData → Option PyData := dRun 2 2 f_sent_now
theorem ok_sent_now (T : Tx w K mg) : DOk P w K mg base 1 "sent_now" 2 den_sent_now := dok_of 2 rfl T.g_sent_now sc_sent_now f_sent_now fun cd A outer s H E fa hr =>
  (s_one (s_ret (d_tup (a_cons (d_ix (hu_of hr) (d_var 0) d_int) (a_cons (d_var 1) (a_cons (d_callTy b_int T.b_int (by decide +kernel) (a_cons (d_or (d_cmp (c_eq hr.units) (d_ix (hu_of hr) (d_var 0) d_int) d_int (by rfl)) (d_one (d_cmp (c_eq hr.units) (d_ix (hu_of hr) (d_var 0) d_int) d_int (by rfl)))) a_nil)) a_nil))))))
theorem sc_unheard : FnScope ["script", "state", "net", "one", "later"] ["script", "state", "net"] (defScope st_unheard) := ⟨rfl, rfl, rfl, by decide +kernel, rfl, by decide +kernel, by decide +kernel⟩
def f_unheard : DS := (sCons (sSet 3 (dBin gIxD (dUn gSteps (dVar 0)) (dBin gIxD (dVar 1) (dC (.int 1)))))
    (sCons (sSet 4 (dApp den_at_step (dConsA (dApp den_acted (dConsA (dVar 1) (dConsA (dApp den_act_of (dConsA (dVar 3) dNilA)) (dConsA (dC (.bool true)) dNilA)))) (dConsA (dApp den_next_behind (dConsA (dVar 3) (dConsA (dC (.str "lost")) dNilA))) dNilA))))
    (sRet (dIf (dTest (dBin gEq (dVar 2) (dC (.str "again")))) (dBin gAdd (dSlice (dVar 4) oNone (oSome (dC (.int 6)))) (dTup (dConsA (dApp den_sent_now (dConsA (dVar 1) (dConsA (dBin gIxD (dVar 4) (dC (.int 2))) dNilA))) dNilA))) (dVar 4)))))
def den_unheard : List PyData → Option PyData := dRun 3 5 f_unheard
theorem ok_unheard (T : Tx w K mg) : DOk P w K mg base 5 "unheard" 3 den_unheard := dok_of 3 rfl T.g_unheard sc_unheard f_unheard fun cd A outer s H E fa hr =>
  (s_cons (s_set 3 (d_ix (hu_of hr) (d_steps (d_var 0)) (d_ix (hu_of hr) (d_var 1) d_int)) sc_unheard.nd) (s_cons (s_set 4 (d_call (ok_at_step T) (hr.mono (by decide)) (a_cons (d_call (ok_acted T) (hr.mono (by decide)) (a_cons (d_var 1) (a_cons (d_call (ok_act_of T) (hr.mono (by decide)) (a_cons (d_var 3) a_nil)) (a_cons d_bl a_nil)))) (a_cons (d_call (ok_next_behind T) (hr.mono (by decide)) (a_cons (d_var 3) (a_cons (d_glob T.c_LOST) a_nil))) a_nil))) sc_unheard.nd) (s_one (s_ret (d_if (t_cmp (c_eq hr.units) (d_var 2) (d_glob T.c_AGAIN) (by rfl)) (d_add (d_slice (d_var 4) o_none (o_some d_int)) (d_tup (a_cons (d_call (ok_sent_now T) (hr.mono (by decide)) (a_cons (d_var 1) (a_cons (d_ix (hu_of hr) (d_var 4) d_int) a_nil))) a_nil))) (d_var 4))))))
theorem sc_unsent : FnScope ["script", "state", "net", "one", "later"] ["script", "state", "net"] (defScope st_unsent) := ⟨rfl, rfl, rfl, by decide +kernel, rfl, by decide +kernel, by decide +kernel⟩
def f_unsent : DS := (sCons (sSet 3 (dBin gIxD (dUn gSteps (dVar 0)) (dBin gIxD (dVar 1) (dC (.int 1)))))
    (sCons (sSet 4 (dApp den_at_step (dConsA (dVar 1) (dConsA (dApp den_next_behind (dConsA (dVar 3) (dConsA (dC (.str "lost")) dNilA))) dNilA))))
    (sCons (sIf (dOrT (dTest (dBin gEq (dVar 2) (dC (.str "lost")))) (dTest (dBin gEq (dBin gIxD (dVar 3) (dC (.int 0))) (dC (.str "read"))))) (sRet (dVar 4)) sNil)
    (sRet (dBin gAdd (dSlice (dVar 4) oNone (oSome (dC (.int 6)))) (dTup (dConsA (dApp den_sent_now (dConsA (dVar 1) (dConsA (dBin gIxD (dVar 1) (dC (.int 2))) dNilA))) dNilA)))))))
def den_unsent : List PyData → Option PyData := dRun 3 5 f_unsent
theorem ok_unsent (T : Tx w K mg) : DOk P w K mg base 2 "unsent" 3 den_unsent := dok_of 3 rfl T.g_unsent sc_unsent f_unsent fun cd A outer s H E fa hr =>
  (s_cons (s_set 3 (d_ix (hu_of hr) (d_steps (d_var 0)) (d_ix (hu_of hr) (d_var 1) d_int)) sc_unsent.nd) (s_cons (s_set 4 (d_call (ok_at_step T) (hr.mono (by decide)) (a_cons (d_var 1) (a_cons (d_call (ok_next_behind T) (hr.mono (by decide)) (a_cons (d_var 3) (a_cons (d_glob T.c_LOST) a_nil))) a_nil))) sc_unsent.nd) (s_cons (s_if (w_or (t_cmp (c_eq hr.units) (d_var 2) (d_glob T.c_LOST) (by rfl)) (w_or1 (t_cmp (c_eq hr.units) (d_ix (hu_of hr) (d_var 3) d_int) (d_glob T.c_READ) (by rfl)))).pt (s_one (s_ret (d_var 4))) s_nil) (s_one (s_ret (d_add (d_slice (d_var 4) o_none (o_some d_int)) (d_tup (a_cons (d_call (ok_sent_now T) (hr.mono (by decide)) (a_cons (d_var 1) (a_cons (d_ix (hu_of hr) (d_var 1) d_int) a_nil))) a_nil))))))))
theorem sc_come : FnScope ["script", "state", "net", "one", "copy", "later"] ["script", "state", "net"] (defScope st_come) := ⟨rfl, rfl, rfl, by decide +kernel, rfl, by decide +kernel, by decide +kernel⟩
def f_come : DS := (sCons (sPar 3 4 (dBin gIxD (dUn gSteps (dVar 0)) (dBin gIxD (dBin gIxD (dVar 1) (dC (.int 6))) (dC (.int 0)))) (dBin gIxD (dBin gIxD (dVar 1) (dC (.int 6))) (dC (.int 1))))
    (sCons (sSet 5 (dIf (dTest (dApp den_is_done_by (dConsA (dVar 3) (dConsA (dBin gIxD (dVar 1) (dC (.int 0))) (dConsA (dVar 4) dNilA))))) (dApp den_acted (dConsA (dVar 1) (dConsA (dApp den_act_of (dConsA (dVar 3) dNilA)) (dConsA (dC (.bool true)) dNilA)))) (dVar 1)))
    (sRet (dIf (dTest (dBin gEq (dVar 2) (dC (.str "again")))) (dVar 5) (dBin gAdd (dSlice (dVar 5) oNone (oSome (dC (.int 6)))) (dTup (dConsA (dTup dNilA) dNilA)))))))
def den_come : List PyData → Option PyData := dRun 3 6 f_come
theorem ok_come (T : Tx w K mg) : DOk P w K mg base 6 "come" 3 den_come := dok_of 3 rfl T.g_come sc_come f_come fun cd A outer s H E fa hr =>
  (s_cons (s_par 3 4 rfl sc_come.nd (d_ix (hu_of hr) (d_steps (d_var 0)) (d_ix (hu_of hr) (d_ix (hu_of hr) (d_var 1) d_int) d_int)) (d_ix (hu_of hr) (d_ix (hu_of hr) (d_var 1) d_int) d_int)) (s_cons (s_set 5 (d_if (t_val (d_call (ok_is_done_by T) (hr.mono (by decide)) (a_cons (d_var 3) (a_cons (d_ix (hu_of hr) (d_var 1) d_int) (a_cons (d_var 4) a_nil))))) (d_call (ok_acted T) (hr.mono (by decide)) (a_cons (d_var 1) (a_cons (d_call (ok_act_of T) (hr.mono (by decide)) (a_cons (d_var 3) a_nil)) (a_cons d_bl a_nil)))) (d_var 1)) sc_come.nd) (s_one (s_ret (d_if (t_cmp (c_eq hr.units) (d_var 2) (d_glob T.c_AGAIN) (by rfl)) (d_var 5) (d_add (d_slice (d_var 5) o_none (o_some d_int)) (d_tup (a_cons (d_tup a_nil) a_nil))))))))
theorem sc_stepped : FnScope ["script", "state", "event", "net"] ["script", "state", "event", "net"] (defScope st_stepped) := ⟨rfl, rfl, rfl, by decide +kernel, rfl, by decide +kernel, by decide +kernel⟩
def f_stepped : DS := (sCons (sIf (dTest (dBin gIn (dVar 2) (dC (.tuple [(.str "great"), (.str "small"), (.str "take")])))) (sRet (dApp den_acted (dConsA (dVar 1) (dConsA (dVar 2) (dConsA (dC (.bool false)) dNilA))))) sNil)
    (sCons (sIf (dTest (dBin gEq (dVar 2) (dC (.str "tick")))) (sRet (dApp den_ticked (dConsA (dVar 1) dNilA))) sNil)
    (sCons (sIf (dTest (dBin gEq (dVar 2) (dC (.str "answered")))) (sRet (dApp den_answered (dConsA (dVar 0) (dConsA (dVar 1) dNilA)))) sNil)
    (sCons (sIf (dTest (dBin gEq (dVar 2) (dC (.str "unheard")))) (sRet (dApp den_unheard (dConsA (dVar 0) (dConsA (dVar 1) (dConsA (dVar 3) dNilA))))) sNil)
    (sRet (dIf (dTest (dBin gEq (dVar 2) (dC (.str "unsent")))) (dApp den_unsent (dConsA (dVar 0) (dConsA (dVar 1) (dConsA (dVar 3) dNilA)))) (dApp den_come (dConsA (dVar 0) (dConsA (dVar 1) (dConsA (dVar 3) dNilA))))))))))
def den_stepped : List PyData → Option PyData := dRun 4 4 f_stepped
theorem ok_stepped (T : Tx w K mg) : DOk P w K mg base 7 "stepped" 4 den_stepped := dok_of 4 rfl T.g_stepped sc_stepped f_stepped fun cd A outer s H E fa hr =>
  (s_cons (s_if (t_cmp c_in (d_var 2) (d_glob T.c_WRITINGS) (by rfl)) (s_one (s_ret (d_call (ok_acted T) (hr.mono (by decide)) (a_cons (d_var 1) (a_cons (d_var 2) (a_cons d_bl a_nil)))))) s_nil) (s_cons (s_if (t_cmp (c_eq hr.units) (d_var 2) (d_glob T.c_TICK) (by rfl)) (s_one (s_ret (d_call (ok_ticked T) (hr.mono (by decide)) (a_cons (d_var 1) a_nil)))) s_nil) (s_cons (s_if (t_cmp (c_eq hr.units) (d_var 2) (d_glob T.c_ANSWERED) (by rfl)) (s_one (s_ret (d_call (ok_answered T) (hr.mono (by decide)) (a_cons (d_var 0) (a_cons (d_var 1) a_nil))))) s_nil) (s_cons (s_if (t_cmp (c_eq hr.units) (d_var 2) (d_glob T.c_UNHEARD) (by rfl)) (s_one (s_ret (d_call (ok_unheard T) (hr.mono (by decide)) (a_cons (d_var 0) (a_cons (d_var 1) (a_cons (d_var 3) a_nil)))))) s_nil) (s_one (s_ret (d_if (t_cmp (c_eq hr.units) (d_var 2) (d_glob T.c_UNSENT) (by rfl)) (d_call (ok_unsent T) (hr.mono (by decide)) (a_cons (d_var 0) (a_cons (d_var 1) (a_cons (d_var 3) a_nil)))) (d_call (ok_come T) (hr.mono (by decide)) (a_cons (d_var 0) (a_cons (d_var 1) (a_cons (d_var 3) a_nil)))))))))))
theorem sc_events_in : FnScope ["script", "state", "others", "net", "event"] ["script", "state", "others", "net"] (defScope st_events_in) := ⟨rfl, rfl, rfl, by decide +kernel, rfl, by decide +kernel, by decide +kernel⟩
def f_events_in : DS := (sRet (dLc (dC (.tuple [(.str "great"), (.str "small"), (.str "take"), (.str "tick"), (.str "answered"), (.str "unheard"), (.str "unsent"), (.str "come")])) 4 (dTest (dApp den_can_happen (dConsA (dVar 0) (dConsA (dVar 1) (dConsA (dVar 4) (dConsA (dVar 2) (dConsA (dVar 3) dNilA))))))) (dVar 4)))
def den_events_in : List PyData → Option PyData := dRun 4 5 f_events_in
theorem ok_events_in (T : Tx w K mg) : DOk P w K mg base 7 "events_in" 4 den_events_in := dok_of 4 rfl T.g_events_in sc_events_in f_events_in fun cd A outer s H E fa hr =>
  (s_one (s_ret (d_lcT 4 rfl sc_events_in.nd (d_glob T.c_EVENTS) (blkOk_by (N := ["script", "state", "others", "net", "event"]) (sc := defScope st_events_in) (by decide +kernel)) (fun _ _ _ _ _ => pg_name (i := 4) sc_events_in.nd rfl (Or.inl rfl)) (fun _ _ _ _ _ => ts_one (t_val (d_call (ok_can_happen T) (hr.mono (by decide)) (a_cons (d_var 0) (a_cons (d_var 1) (a_cons (d_var 4) (a_cons (d_var 2) (a_cons (d_var 3) a_nil)))))))) (fun _ _ _ _ _ => (d_var 4)))))
theorem sc_firsts : FnScope ["server"] [] (defScope st_firsts) := ⟨rfl, rfl, rfl, by decide +kernel, rfl, by decide +kernel, by decide +kernel⟩
def f_firsts : DS := (sRet (dLc (dC (.tuple [(.str "fresh"), (.str "gone"), (.str "never"), (.str "there")])) 0 yesT (dApp den_first_of (dConsA (dVar 0) dNilA))))
def den_firsts : List PyData → Option PyData := dRun 0 1 f_firsts
theorem ok_firsts (T : Tx w K mg) : DOk P w K mg base 2 "firsts" 0 den_firsts := dok_of 0 rfl T.g_firsts sc_firsts f_firsts fun cd A outer s H E fa hr =>
  (s_one (s_ret (d_lcT 0 rfl sc_firsts.nd (d_glob T.c_SERVERS) (blkOk_by (N := ["server"]) (sc := defScope st_firsts) (by decide +kernel)) (fun _ _ _ _ _ => pg_name (i := 0) sc_firsts.nd rfl (Or.inl rfl)) (fun _ _ _ _ _ => ts_nil) (fun _ _ _ _ _ => (d_call (ok_first_of T) (hr.mono (by decide)) (a_cons (d_var 0) a_nil))))))
theorem sc_need_promise : FnScope ["value", "some"] ["value", "some"] (defScope st_need_promise) := ⟨rfl, rfl, rfl, by decide +kernel, rfl, by decide +kernel, by decide +kernel⟩
def f_need_promise : DS := (sIf (dNotT (dTest (dApp den_is_one_of (dConsA (dVar 0) (dConsA (dVar 1) dNilA))))) sNever sNil)
def den_need_promise : List PyData → Option PyData := dRun 2 2 f_need_promise
theorem ok_need_promise (T : Tx w K mg) : DOk P w K mg base 2 "need_promise" 2 den_need_promise := dok_of 2 rfl T.g_need_promise sc_need_promise f_need_promise fun cd A outer s H E fa hr =>
  (s_one (s_if (t_not (t_val (d_call (ok_is_one_of T) (hr.mono (by decide)) (a_cons (d_var 0) (a_cons (d_var 1) a_nil))))) (s_one s_never) s_nil))
theorem sc_is_amiss : FnScope ["script", "state", "promise", "one"] ["script", "state", "promise"] (defScope st_is_amiss) := ⟨rfl, rfl, rfl, by decide +kernel, rfl, by decide +kernel, by decide +kernel⟩
def f_is_amiss : DS := (sCons (sIf (dTest (dBin gEq (dVar 2) (dC (.str "once")))) (sRet (dBin gEq (dBin gIxD (dVar 1) (dC (.int 5))) (dC (.int 2)))) sNil)
    (sCons (sSet 3 (dBin gIxD (dUn gSteps (dVar 0)) (dBin gIxD (dVar 1) (dC (.int 1)))))
    (sRet (dAnd (dBin gEq (dVar 2) (dC (.str "true"))) (dAnd (dBin gEq (dBin gIxD (dVar 3) (dC (.int 0))) (dC (.str "end"))) (dOr (dAnd (dBin gEq (dBin gIxD (dVar 3) (dC (.int 1))) (dC (.str "yes"))) (dBin gEq (dBin gIxD (dVar 1) (dC (.int 5))) (dC (.int 0)))) (dAnd (dBin gEq (dBin gIxD (dVar 3) (dC (.int 1))) (dC (.str "no"))) (dBin gGt (dBin gIxD (dVar 1) (dC (.int 5))) (dC (.int 0))))))))))
def den_is_amiss : List PyData → Option PyData := dRun 3 4 f_is_amiss
theorem ok_is_amiss (T : Tx w K mg) : DOk P w K mg base 1 "is_amiss" 3 den_is_amiss := dok_of 3 rfl T.g_is_amiss sc_is_amiss f_is_amiss fun cd A outer s H E fa hr =>
  (s_cons (s_if (t_cmp (c_eq hr.units) (d_var 2) (d_glob T.c_ONCE) (by rfl)) (s_one (s_ret (d_cmp (c_eq hr.units) (d_ix (hu_of hr) (d_var 1) d_int) (d_glob T.c_MOST_DONE) (by rfl)))) s_nil) (s_cons (s_set 3 (d_ix (hu_of hr) (d_steps (d_var 0)) (d_ix (hu_of hr) (d_var 1) d_int)) sc_is_amiss.nd) (s_one (s_ret (d_and (d_cmp (c_eq hr.units) (d_var 2) (d_glob T.c_TRUE) (by rfl)) (d_and (d_cmp (c_eq hr.units) (d_ix (hu_of hr) (d_var 3) d_int) (d_glob T.c_END) (by rfl)) (d_one (d_or (d_and (d_cmp (c_eq hr.units) (d_ix (hu_of hr) (d_var 3) d_int) (d_glob T.c_YES) (by rfl)) (d_one (d_cmp (c_eq hr.units) (d_ix (hu_of hr) (d_var 1) d_int) d_int (by rfl)))) (d_one (d_and (d_cmp (c_eq hr.units) (d_ix (hu_of hr) (d_var 3) d_int) (d_glob T.c_NO) (by rfl)) (d_one (d_cmp c_gt (d_ix (hu_of hr) (d_var 1) d_int) d_int (by rfl)))))))))))))
theorem sc_is_bad : FnScope ["script", "state", "promise", "others", "net", "event"] ["script", "state", "promise", "others", "net"] (defScope st_is_bad) := ⟨rfl, rfl, rfl, by decide +kernel, rfl, by decide +kernel, by decide +kernel⟩
def f_is_bad : DS := (sCons (sIf (dTest (dBin gIn (dVar 2) (dTup (dConsA (dC (.str "once")) (dConsA (dC (.str "true")) dNilA))))) (sRet (dApp den_is_amiss (dConsA (dVar 0) (dConsA (dVar 1) (dConsA (dVar 2) dNilA))))) sNil) sNever)
def den_is_bad : List PyData → Option PyData := dRun 5 6 f_is_bad
theorem ok_is_bad (T : Tx w K mg) : DOk P w K mg base 2 "is_bad" 5 den_is_bad := dok_of 5 rfl T.g_is_bad sc_is_bad f_is_bad fun cd A outer s H E fa hr =>
  (s_cons (s_if (t_cmp c_in (d_var 2) (d_tup (a_cons (d_glob T.c_ONCE) (a_cons (d_glob T.c_TRUE) a_nil))) (by rfl)) (s_one (s_ret (d_call (ok_is_amiss T) (hr.mono (by decide)) (a_cons (d_var 0) (a_cons (d_var 1) (a_cons (d_var 2) a_nil)))))) s_nil) ss_never)
theorem sc__law_held_in : FnScope ["_law_world"] ["_law_world"] (defScope st__law_held_in) := ⟨rfl, rfl, rfl, by decide +kernel, rfl, by decide +kernel, by decide +kernel⟩
def f__law_held_in : DS := (sRet (dTup (dConsA (dBin gIxD (dVar 0) (dC (.str "tag"))) (dConsA (dBin gIxD (dVar 0) (dC (.str "look"))) (dConsA (dBin gIxD (dVar 0) (dC (.str "stamp"))) dNilA)))))
def den__law_held_in : List PyData → Option PyData := dRun 1 1 f__law_held_in
theorem ok__law_held_in (T : Tx w K mg) : DOk P w K mg base 1 "_law_held_in" 1 den__law_held_in := dok_of 1 rfl T.g__law_held_in sc__law_held_in f__law_held_in fun cd A outer s H E fa hr =>
  (s_one (s_ret (d_tup (a_cons (d_ix (hu_of hr) (d_var 0) d_str) (a_cons (d_ix (hu_of hr) (d_var 0) d_str) (a_cons (d_ix (hu_of hr) (d_var 0) d_str) a_nil))))))
theorem sc__law_reply_to : FnScope ["_law_world", "_law_copy", "_law_one", "_law_kind", "_law_word", "_law_bare_so", "_law_same", "_law_place"] ["_law_world", "_law_copy", "_law_one"] (defScope st__law_reply_to) := ⟨rfl, rfl, rfl, by decide +kernel, rfl, by decide +kernel, by decide +kernel⟩
def f__law_reply_to : DS := (sCons (sPar 3 4 (dBin gIxD (dVar 2) (dC (.int 0))) (dBin gIxD (dVar 2) (dC (.int 1))))
    (sCons (sIf (dOrT (dTest (dBin gEq (dVar 4) (dC (.str "there")))) (dTest (dBin gEq (dVar 4) (dC (.str "none"))))) (sRet (dIf (dTest (dBin gEq (dBin gIxD (dVar 0) (dC (.str "is_there"))) (dBin gEq (dVar 4) (dC (.str "there"))))) (dC (.str "yes")) (dC (.str "no")))) sNil)
    (sCons (sSet 5 (dOr (dBin gEq (dVar 4) (dC (.str "plain"))) (dUn gIsN (dVar 1))))
    (sCons (sIf (dNotT (dTest (dBin gIxD (dVar 0) (dC (.str "is_there"))))) (sCons (sIf (dTest (dBin gEq (dVar 3) (dC (.str "put")))) (sRet (dIf (dTest (dVar 5)) (dC (.str "yes")) (dC (.str "no")))) sNil)
    (sRet (dIf (dOrT (dTest (dBin gEq (dVar 3) (dC (.str "read")))) (dTest (dVar 5))) (dC (.str "absent")) (dC (.str "no"))))) sNil)
    (sCons (sSet 6 (dC (.bool true)))
    (sCons (sIf (dNotT (dTest (dVar 5))) (sCons (sSet 7 (dBin gLIndex (dLst (dConsA (dC (.str "tag")) (dConsA (dC (.str "look")) (dConsA (dC (.str "stamp")) dNilA)))) (dVar 4)))
    (sSet 6 (dBin gEq (dBin gIxD (dVar 1) (dVar 7)) (dBin gIxD (dApp den__law_held_in (dConsA (dVar 0) dNilA)) (dVar 7))))) sNil)
    (sCons (sIf (dTest (dBin gNe (dVar 3) (dC (.str "read")))) (sRet (dIf (dTest (dVar 6)) (dC (.str "yes")) (dC (.str "no")))) sNil)
    (sCons (sIf (dAndT (dTest (dVar 6)) (dNotT (dTest (dVar 5)))) (sRet (dC (.str "unchanged"))) sNil)
    (sRet (dIf (dTest (dBin gEq (dBin gIxD (dBin gIxD (dVar 0) (dC (.str "authors"))) (dUn gNeg (dC (.int 1)))) (dC (.str "own")))) (dC (.str "mine")) (dC (.str "got"))))))))))))
def den__law_reply_to : List PyData → Option PyData := dRun 3 8 f__law_reply_to
theorem ok__law_reply_to (T : Tx w K mg) : DOk P w K mg base 2 "_law_reply_to" 3 den__law_reply_to := dok_of 3 rfl T.g__law_reply_to sc__law_reply_to f__law_reply_to fun cd A outer s H E fa hr =>
  (s_cons (s_par 3 4 rfl sc__law_reply_to.nd (d_ix (hu_of hr) (d_var 2) d_int) (d_ix (hu_of hr) (d_var 2) d_int)) (s_cons (s_if (w_or (t_cmp (c_eq hr.units) (d_var 4) d_str (by rfl)) (w_or1 (t_cmp (c_eq hr.units) (d_var 4) d_str (by rfl)))).pt (s_one (s_ret (d_if (t_cmp (c_eq hr.units) (d_ix (hu_of hr) (d_var 0) d_str) (d_cmp (c_eq hr.units) (d_var 4) d_str (by rfl)) (by rfl)) d_str d_str))) s_nil) (s_cons (s_set 5 (d_or (d_cmp (c_eq hr.units) (d_var 4) d_str (by rfl)) (d_one (d_isN (d_var 1)))) sc__law_reply_to.nd) (s_cons (s_if (t_not (t_val (d_ix (hu_of hr) (d_var 0) d_str))) (s_cons (s_if (t_cmp (c_eq hr.units) (d_var 3) d_str (by rfl)) (s_one (s_ret (d_if (t_val (d_var 5)) d_str d_str))) s_nil) (s_one (s_ret (d_if (w_or (t_cmp (c_eq hr.units) (d_var 3) d_str (by rfl)) (w_or1 (t_val (d_var 5)))).pt d_str d_str)))) s_nil) (s_cons (s_set 6 d_bl sc__law_reply_to.nd) (s_cons (s_if (t_not (t_val (d_var 5))) (s_cons (s_set 7 (d_lindex (d_lst (a_cons d_str (a_cons d_str (a_cons d_str a_nil)))) (d_var 4)) sc__law_reply_to.nd) (s_one (s_set 6 (d_cmp (c_eq hr.units) (d_ix (hu_of hr) (d_var 1) (d_var 7)) (d_ix (hu_of hr) (d_call (ok__law_held_in T) (hr.mono (by decide)) (a_cons (d_var 0) a_nil)) (d_var 7)) (by rfl)) sc__law_reply_to.nd))) s_nil) (s_cons (s_if (t_cmp (c_ne hr.units) (d_var 3) d_str (by rfl)) (s_one (s_ret (d_if (t_val (d_var 6)) d_str d_str))) s_nil) (s_cons (s_if (w_and (t_val (d_var 6)) (w_and1 (t_not (t_val (d_var 5))))).pt (s_one (s_ret d_str)) s_nil) (s_one (s_ret (d_if (t_cmp (c_eq hr.units) (d_ix (hu_of hr) (d_ix (hu_of hr) (d_var 0) d_str) (d_neg d_int)) d_str (by rfl)) d_str d_str)))))))))))
theorem sc__law_act_of : FnScope ["_law_one"] ["_law_one"] (defScope st__law_act_of) := ⟨rfl, rfl, rfl, by decide +kernel, rfl, by decide +kernel, by decide +kernel⟩
def f__law_act_of : DS := (sRet (dIf (dTest (dBin gEq (dBin gIxD (dVar 0) (dC (.int 0))) (dC (.str "put")))) (dBin gIxD (dVar 0) (dC (.int 2))) (dC (.str "take"))))
def den__law_act_of : List PyData → Option PyData := dRun 1 1 f__law_act_of
theorem ok__law_act_of (T : Tx w K mg) : DOk P w K mg base 1 "_law_act_of" 1 den__law_act_of := dok_of 1 rfl T.g__law_act_of sc__law_act_of f__law_act_of fun cd A outer s H E fa hr =>
  (s_one (s_ret (d_if (t_cmp (c_eq hr.units) (d_ix (hu_of hr) (d_var 0) d_int) d_str (by rfl)) (d_ix (hu_of hr) (d_var 0) d_int) d_str)))
theorem sc__law_is_done : FnScope ["_law_world", "_law_copy", "_law_one"] ["_law_world", "_law_copy", "_law_one"] (defScope st__law_is_done) := ⟨rfl, rfl, rfl, by decide +kernel, rfl, by decide +kernel, by decide +kernel⟩
def f__law_is_done : DS := (sRet (dAnd (dBin gIn (dBin gIxD (dVar 2) (dC (.int 0))) (dTup (dConsA (dC (.str "put")) (dConsA (dC (.str "take")) dNilA)))) (dBin gEq (dApp den__law_reply_to (dConsA (dVar 0) (dConsA (dVar 1) (dConsA (dVar 2) dNilA)))) (dC (.str "yes")))))
def den__law_is_done : List PyData → Option PyData := dRun 3 3 f__law_is_done
theorem ok__law_is_done (T : Tx w K mg) : DOk P w K mg base 3 "_law_is_done" 3 den__law_is_done := dok_of 3 rfl T.g__law_is_done sc__law_is_done f__law_is_done fun cd A outer s H E fa hr =>
  (s_one (s_ret (d_and (d_cmp c_in (d_ix (hu_of hr) (d_var 2) d_int) (d_tup (a_cons d_str (a_cons d_str a_nil))) (by rfl)) (d_one (d_cmp (c_eq hr.units) (d_call (ok__law_reply_to T) (hr.mono (by decide)) (a_cons (d_var 0) (a_cons (d_var 1) (a_cons (d_var 2) a_nil)))) d_str (by rfl))))))
theorem sc__law_knows : FnScope ["_law_world"] ["_law_world"] (defScope st__law_knows) := ⟨rfl, rfl, rfl, by decide +kernel, rfl, by decide +kernel, by decide +kernel⟩
def f__law_knows : DS := (sRet (dOr (dBin gEq (dBin gIxD (dVar 0) (dC (.str "seen"))) (dBin gSub (dApp gLenA (dConsA (dBin gIxD (dVar 0) (dC (.str "authors"))) dNilA)) (dC (.int 1)))) (dBin gEq (dBin gIxD (dBin gIxD (dVar 0) (dC (.str "authors"))) (dUn gNeg (dC (.int 1)))) (dC (.str "own")))))
def den__law_knows : List PyData → Option PyData := dRun 1 1 f__law_knows
theorem ok__law_knows (T : Tx w K mg) : DOk P w K mg base 1 "_law_knows" 1 den__law_knows := dok_of 1 rfl T.g__law_knows sc__law_knows f__law_knows fun cd A outer s H E fa hr =>
  (s_one (s_ret (d_or (d_cmp (c_eq hr.units) (d_ix (hu_of hr) (d_var 0) d_str) (d_sub (d_callB b_len T.b_len (by decide +kernel) (a_cons (d_ix (hu_of hr) (d_var 0) d_str) a_nil)) d_int) (by rfl)) (d_one (d_cmp (c_eq hr.units) (d_ix (hu_of hr) (d_ix (hu_of hr) (d_var 0) d_str) (d_neg d_int)) d_str (by rfl))))))
theorem sc__law_sent_in : FnScope ["_law_world"] ["_law_world"] (defScope st__law_sent_in) := ⟨rfl, rfl, rfl, by decide +kernel, rfl, by decide +kernel, by decide +kernel⟩
def f__law_sent_in : DS := (sRet (dTup (dConsA (dBin gIxD (dVar 0) (dC (.str "step"))) (dConsA (dBin gIxD (dVar 0) (dC (.str "copy"))) (dConsA (dIf (dTest (dApp den__law_knows (dConsA (dVar 0) dNilA))) (dBin gSub (dApp gLenA (dConsA (dBin gIxD (dVar 0) (dC (.str "authors"))) dNilA)) (dC (.int 1))) (dUn gNeg (dC (.int 1)))) dNilA)))))
def den__law_sent_in : List PyData → Option PyData := dRun 1 1 f__law_sent_in
theorem ok__law_sent_in (T : Tx w K mg) : DOk P w K mg base 2 "_law_sent_in" 1 den__law_sent_in := dok_of 1 rfl T.g__law_sent_in sc__law_sent_in f__law_sent_in fun cd A outer s H E fa hr =>
  (s_one (s_ret (d_tup (a_cons (d_ix (hu_of hr) (d_var 0) d_str) (a_cons (d_ix (hu_of hr) (d_var 0) d_str) (a_cons (d_if (t_val (d_call (ok__law_knows T) (hr.mono (by decide)) (a_cons (d_var 0) a_nil))) (d_sub (d_callB b_len T.b_len (by decide +kernel) (a_cons (d_ix (hu_of hr) (d_var 0) d_str) a_nil)) d_int) (d_neg d_int)) a_nil))))))
theorem sc__law_is_meant : FnScope ["_law_world", "_law_edition", "_law_one"] ["_law_world"] (defScope st__law_is_meant) := ⟨rfl, rfl, rfl, by decide +kernel, rfl, by decide +kernel, by decide +kernel⟩
def f__law_is_meant : DS := (sCons (sSet 1 (dBin gIxD (dBin gIxD (dVar 0) (dC (.str "late"))) (dC (.int 2))))
    (sRet (dAnd (dBin gGe (dVar 1) (dC (.int 0))) (dBin gEq (dLcL (dSlice (dBin gIxD (dVar 0) (dC (.str "authors"))) (oSome (dBin gAdd (dVar 1) (dC (.int 1)))) oNone) 2 (dTest (dBin gNe (dVar 2) (dC (.str "own")))) (dVar 2)) (dLst dNilA)))))
def den__law_is_meant : List PyData → Option PyData := dRun 1 3 f__law_is_meant
theorem ok__law_is_meant (T : Tx w K mg) : DOk P w K mg base 1 "_law_is_meant" 1 den__law_is_meant := dok_of 1 rfl T.g__law_is_meant sc__law_is_meant f__law_is_meant fun cd A outer s H E fa hr =>
  (s_cons (s_set 1 (d_ix (hu_of hr) (d_ix (hu_of hr) (d_var 0) d_str) d_int) sc__law_is_meant.nd) (s_one (s_ret (d_and (d_cmp c_ge (d_var 1) d_int (by rfl)) (d_one (d_cmp (c_eq hr.units) (d_lcL 2 rfl sc__law_is_meant.nd (d_slice (d_ix (hu_of hr) (d_var 0) d_str) (o_some (d_add (d_var 1) d_int)) o_none) (blkOk_by (N := ["_law_world", "_law_edition", "_law_one"]) (sc := defScope st__law_is_meant) (by decide +kernel)) (fun _ _ _ _ _ => pg_name (i := 2) sc__law_is_meant.nd rfl (Or.inl rfl)) (fun _ _ _ _ _ => ts_one (t_cmp (c_ne hr.units) (d_var 2) d_str (by rfl))) (fun _ _ _ _ _ => (d_var 2))) (d_lst a_nil) (by rfl)))))))
theorem sc__law_can : FnScope ["_law_world", "_law_steps", "_law_event", "_law_others", "_law_net", "_law_one"] ["_law_world", "_law_steps", "_law_event", "_law_others", "_law_net"] (defScope st__law_can) := ⟨rfl, rfl, rfl, by decide +kernel, rfl, by decide +kernel, by decide +kernel⟩
def f__law_can : DS := (sCons (sSet 5 (dBin gIxD (dVar 1) (dBin gIxD (dVar 0) (dC (.str "step")))))
    (sCons (sIf (dTest (dBin gIn (dVar 2) (dTup (dConsA (dC (.str "great")) (dConsA (dC (.str "small")) (dConsA (dC (.str "take")) dNilA)))))) (sRet (dAnd (dBin gIn (dVar 2) (dVar 3)) (dOr (dBin gEq (dVar 2) (dC (.str "great"))) (dBin gIxD (dVar 0) (dC (.str "is_there")))))) sNil)
    (sCons (sIf (dOrT (dTest (dBin gEq (dVar 2) (dC (.str "tick")))) (dTest (dBin gEq (dVar 2) (dC (.str "answered"))))) (sRet (dOr (dBin gEq (dVar 2) (dC (.str "tick"))) (dBin gNe (dBin gIxD (dVar 5) (dC (.int 0))) (dC (.str "end"))))) sNil)
    (sCons (sIf (dTest (dBin gEq (dVar 2) (dC (.str "unheard")))) (sRet (dAnd (dBin gNe (dVar 4) (dC (.str "sure"))) (dApp den__law_is_done (dConsA (dVar 0) (dConsA (dBin gIxD (dVar 0) (dC (.str "copy"))) (dConsA (dVar 5) dNilA)))))) sNil)
    (sCons (sIf (dTest (dBin gEq (dVar 2) (dC (.str "unsent")))) (sRet (dAnd (dBin gNe (dVar 4) (dC (.str "sure"))) (dBin gIn (dBin gIxD (dVar 5) (dC (.int 0))) (dTup (dConsA (dC (.str "read")) (dConsA (dC (.str "put")) (dConsA (dC (.str "take")) dNilA))))))) sNil)
    (sRet (dAnd (dBin gIn (dVar 4) (dTup (dConsA (dC (.str "late")) (dConsA (dC (.str "again")) dNilA)))) (dUn gNotN (dBin gIxD (dVar 0) (dC (.str "late")))))))))))
def den__law_can : List PyData → Option PyData := dRun 5 6 f__law_can
theorem ok__law_can (T : Tx w K mg) : DOk P w K mg base 4 "_law_can" 5 den__law_can := dok_of 5 rfl T.g__law_can sc__law_can f__law_can fun cd A outer s H E fa hr =>
  (s_cons (s_set 5 (d_ix (hu_of hr) (d_var 1) (d_ix (hu_of hr) (d_var 0) d_str)) sc__law_can.nd) (s_cons (s_if (t_cmp c_in (d_var 2) (d_tup (a_cons d_str (a_cons d_str (a_cons d_str a_nil)))) (by rfl)) (s_one (s_ret (d_and (d_cmp c_in (d_var 2) (d_var 3) (by rfl)) (d_one (d_or (d_cmp (c_eq hr.units) (d_var 2) d_str (by rfl)) (d_one (d_ix (hu_of hr) (d_var 0) d_str))))))) s_nil) (s_cons (s_if (w_or (t_cmp (c_eq hr.units) (d_var 2) d_str (by rfl)) (w_or1 (t_cmp (c_eq hr.units) (d_var 2) d_str (by rfl)))).pt (s_one (s_ret (d_or (d_cmp (c_eq hr.units) (d_var 2) d_str (by rfl)) (d_one (d_cmp (c_ne hr.units) (d_ix (hu_of hr) (d_var 5) d_int) d_str (by rfl)))))) s_nil) (s_cons (s_if (t_cmp (c_eq hr.units) (d_var 2) d_str (by rfl)) (s_one (s_ret (d_and (d_cmp (c_ne hr.units) (d_var 4) d_str (by rfl)) (d_one (d_call (ok__law_is_done T) (hr.mono (by decide)) (a_cons (d_var 0) (a_cons (d_ix (hu_of hr) (d_var 0) d_str) (a_cons (d_var 5) a_nil)))))))) s_nil) (s_cons (s_if (t_cmp (c_eq hr.units) (d_var 2) d_str (by rfl)) (s_one (s_ret (d_and (d_cmp (c_ne hr.units) (d_var 4) d_str (by rfl)) (d_one (d_cmp c_in (d_ix (hu_of hr) (d_var 5) d_int) (d_tup (a_cons d_str (a_cons d_str (a_cons d_str a_nil)))) (by rfl)))))) s_nil) (s_one (s_ret (d_and (d_cmp c_in (d_var 4) (d_tup (a_cons d_str (a_cons d_str a_nil))) (by rfl)) (d_one (d_notN (d_ix (hu_of hr) (d_var 0) d_str)))))))))))
theorem sc__law_server_of : FnScope ["_law_world"] ["_law_world"] (defScope st__law_server_of) := ⟨rfl, rfl, rfl, by decide +kernel, rfl, by decide +kernel, by decide +kernel⟩
def f__law_server_of : DS := (sCons (sIf (dNotT (dTest (dBin gIxD (dVar 0) (dC (.str "is_there"))))) (sRet (dIf (dTest (dBin gIxD (dVar 0) (dC (.str "was_there")))) (dC (.str "gone")) (dC (.str "never")))) sNil)
    (sRet (dIf (dTest (dBin gEq (dBin gIxD (dVar 0) (dC (.str "stamp"))) (dBin gIxD (dVar 0) (dC (.str "second"))))) (dC (.str "fresh")) (dC (.str "there")))))
def den__law_server_of : List PyData → Option PyData := dRun 1 1 f__law_server_of
theorem ok__law_server_of (T : Tx w K mg) : DOk P w K mg base 1 "_law_server_of" 1 den__law_server_of := dok_of 1 rfl T.g__law_server_of sc__law_server_of f__law_server_of fun cd A outer s H E fa hr =>
  (s_cons (s_if (t_not (t_val (d_ix (hu_of hr) (d_var 0) d_str))) (s_one (s_ret (d_if (t_val (d_ix (hu_of hr) (d_var 0) d_str)) d_str d_str))) s_nil) (s_one (s_ret (d_if (t_cmp (c_eq hr.units) (d_ix (hu_of hr) (d_var 0) d_str) (d_ix (hu_of hr) (d_var 0) d_str) (by rfl)) d_str d_str))))
theorem sc__law_standing_of : FnScope ["_law_world", "_law_copy", "_law_here", "_law_mine", "_law_own"] ["_law_world", "_law_copy"] (defScope st__law_standing_of) := ⟨rfl, rfl, rfl, by decide +kernel, rfl, by decide +kernel, by decide +kernel⟩
def f__law_standing_of : DS := (sCons (sIf (dTest (dUn gIsN (dVar 1))) (sRet (dTup dNilA)) sNil)
    (sCons (sSet 2 (dLcZ (dVar 1) (dApp den__law_held_in (dConsA (dVar 0) dNilA)) 3 4 yesT (dApp gIntA (dConsA (dAnd (dBin gIxD (dVar 0) (dC (.str "is_there"))) (dBin gEq (dVar 3) (dVar 4))) dNilA))))
    (sRet (dTup (dConsA (dBin gIxD (dVar 2) (dC (.int 0))) (dConsA (dBin gIxD (dVar 2) (dC (.int 1))) (dConsA (dBin gIxD (dVar 2) (dC (.int 2))) (dConsA (dApp gIntA (dConsA (dBin gEq (dBin gIxD (dVar 1) (dC (.int 2))) (dBin gIxD (dVar 0) (dC (.str "second")))) dNilA)) dNilA))))))))
def den__law_standing_of : List PyData → Option PyData := dRun 2 5 f__law_standing_of
theorem ok__law_standing_of (T : Tx w K mg) : DOk P w K mg base 2 "_law_standing_of" 2 den__law_standing_of := dok_of 2 rfl T.g__law_standing_of sc__law_standing_of f__law_standing_of fun cd A outer s H E fa hr =>
  (s_cons (s_if (t_isN (d_var 1)) (s_one (s_ret (d_tup a_nil))) s_nil) (s_cons (s_setLcZ 2 3 4 (by decide) T.b_zip rfl sc__law_standing_of.nd (d_var 1) (d_call (ok__law_held_in T) (hr.mono (by decide)) (a_cons (d_var 0) a_nil)) (blkOk_by (N := ["_law_world", "_law_copy", "_law_here", "_law_mine", "_law_own"]) (sc := defScope st__law_standing_of) (by decide +kernel)) (sw_true rfl rfl rfl (by decide +kernel)) (fun _ _ _ _ _ => n_cons 3 sc__law_standing_of.nd (n_cons 4 sc__law_standing_of.nd n_nil)) (fun _ _ _ _ _ => ts_nil) (fun _ _ _ _ _ => (d_callTy b_int T.b_int (by decide +kernel) (a_cons (d_and (d_ix (hu_of hr) (d_var 0) d_str) (d_one (d_cmp (c_eq hr.units) (d_var 3) (d_var 4) (by rfl)))) a_nil)))) (s_one (s_ret (d_tup (a_cons (d_ix (hu_of hr) (d_var 2) d_int) (a_cons (d_ix (hu_of hr) (d_var 2) d_int) (a_cons (d_ix (hu_of hr) (d_var 2) d_int) (a_cons (d_callTy b_int T.b_int (by decide +kernel) (a_cons (d_cmp (c_eq hr.units) (d_ix (hu_of hr) (d_var 1) d_int) (d_ix (hu_of hr) (d_var 0) d_str) (by rfl)) a_nil)) a_nil)))))))))
theorem sc__law_state_of : FnScope ["_law_world", "_law_late", "_law_edition", "_law_told", "_law_found"] ["_law_world"] (defScope st__law_state_of) := ⟨rfl, rfl, rfl, by decide +kernel, rfl, by decide +kernel, by decide +kernel⟩
def f__law_state_of : DS := (sCons (sPar 1 2 (dBin gIxD (dVar 0) (dC (.str "late"))) (dBin gSub (dApp gLenA (dConsA (dBin gIxD (dVar 0) (dC (.str "authors"))) dNilA)) (dC (.int 1))))
    (sCons (sSet 3 (dTup dNilA))
    (sCons (sIf (dTest (dUn gNotN (dVar 1))) (sSet 3 (dTup (dConsA (dBin gIxD (dVar 1) (dC (.int 0))) (dConsA (dApp den__law_standing_of (dConsA (dVar 0) (dConsA (dBin gIxD (dVar 1) (dC (.int 1))) dNilA))) (dConsA (dApp gIntA (dConsA (dApp den__law_is_meant (dConsA (dVar 0) dNilA)) dNilA)) dNilA))))) sNil)
    (sCons (sSet 4 (dTup (dConsA (dApp den__law_server_of (dConsA (dVar 0) dNilA)) (dConsA (dBin gIxD (dVar 0) (dC (.str "step"))) (dConsA (dApp den__law_standing_of (dConsA (dVar 0) (dConsA (dBin gIxD (dVar 0) (dC (.str "copy"))) dNilA))) dNilA)))))
    (sCons (sSet 4 (dBin gAdd (dVar 4) (dTup (dConsA (dApp gIntA (dConsA (dBin gEq (dBin gIxD (dVar 0) (dC (.str "seen"))) (dVar 2)) dNilA)) (dConsA (dApp gIntA (dConsA (dBin gEq (dBin gIxD (dBin gIxD (dVar 0) (dC (.str "authors"))) (dUn gNeg (dC (.int 1)))) (dC (.str "own"))) dNilA)) dNilA)))))
    (sRet (dBin gAdd (dVar 4) (dTup (dConsA (dApp gMinA (dConsA (dC (.int 2)) (dConsA (dBin gIxD (dVar 0) (dC (.str "done"))) dNilA))) (dConsA (dVar 3) dNilA))))))))))
def den__law_state_of : List PyData → Option PyData := dRun 1 5 f__law_state_of
theorem ok__law_state_of (T : Tx w K mg) : DOk P w K mg base 3 "_law_state_of" 1 den__law_state_of := dok_of 1 rfl T.g__law_state_of sc__law_state_of f__law_state_of fun cd A outer s H E fa hr =>
  (s_cons (s_par 1 2 rfl sc__law_state_of.nd (d_ix (hu_of hr) (d_var 0) d_str) (d_sub (d_callB b_len T.b_len (by decide +kernel) (a_cons (d_ix (hu_of hr) (d_var 0) d_str) a_nil)) d_int)) (s_cons (s_set 3 (d_tup a_nil) sc__law_state_of.nd) (s_cons (s_if (t_notN (d_var 1)) (s_one (s_set 3 (d_tup (a_cons (d_ix (hu_of hr) (d_var 1) d_int) (a_cons (d_call (ok__law_standing_of T) (hr.mono (by decide)) (a_cons (d_var 0) (a_cons (d_ix (hu_of hr) (d_var 1) d_int) a_nil))) (a_cons (d_callTy b_int T.b_int (by decide +kernel) (a_cons (d_call (ok__law_is_meant T) (hr.mono (by decide)) (a_cons (d_var 0) a_nil)) a_nil)) a_nil)))) sc__law_state_of.nd)) s_nil) (s_cons (s_set 4 (d_tup (a_cons (d_call (ok__law_server_of T) (hr.mono (by decide)) (a_cons (d_var 0) a_nil)) (a_cons (d_ix (hu_of hr) (d_var 0) d_str) (a_cons (d_call (ok__law_standing_of T) (hr.mono (by decide)) (a_cons (d_var 0) (a_cons (d_ix (hu_of hr) (d_var 0) d_str) a_nil))) a_nil)))) sc__law_state_of.nd) (s_cons (s_set 4 (d_add (d_var 4) (d_tup (a_cons (d_callTy b_int T.b_int (by decide +kernel) (a_cons (d_cmp (c_eq hr.units) (d_ix (hu_of hr) (d_var 0) d_str) (d_var 2) (by rfl)) a_nil)) (a_cons (d_callTy b_int T.b_int (by decide +kernel) (a_cons (d_cmp (c_eq hr.units) (d_ix (hu_of hr) (d_ix (hu_of hr) (d_var 0) d_str) (d_neg d_int)) d_str (by rfl)) a_nil)) a_nil)))) sc__law_state_of.nd) (s_one (s_ret (d_add (d_var 4) (d_tup (a_cons (d_callB (b_min rfl) T.b_min (by decide +kernel) (a_cons d_int (a_cons (d_ix (hu_of hr) (d_var 0) d_str) a_nil))) (a_cons (d_var 3) a_nil)))))))))))
theorem sc__law_is_over : FnScope ["_law_world", "_law_steps", "_law_event", "_law_promise", "_law_word"] ["_law_world", "_law_steps", "_law_event", "_law_promise"] (defScope st__law_is_over) := ⟨rfl, rfl, rfl, by decide +kernel, rfl, by decide +kernel, by decide +kernel⟩
def f__law_is_over : DS := (sCons (sIf (dTest (dUn gNotN (dVar 2))) (sRet (dC (.bool false))) sNil)
    (sCons (sIf (dTest (dBin gEq (dVar 3) (dC (.str "once")))) (sRet (dBin gGt (dBin gIxD (dVar 0) (dC (.str "done"))) (dC (.int 1)))) sNil)
    (sCons (sSet 4 (dIf (dTest (dBin gEq (dBin gIxD (dBin gIxD (dVar 1) (dBin gIxD (dVar 0) (dC (.str "step")))) (dC (.int 0))) (dC (.str "end")))) (dBin gIxD (dBin gAdd (dBin gIxD (dVar 1) (dBin gIxD (dVar 0) (dC (.str "step")))) (dTup (dConsA (dC (.str "")) dNilA))) (dC (.int 1))) (dC (.str ""))))
    (sRet (dOr (dAnd (dBin gEq (dVar 4) (dC (.str "yes"))) (dBin gEq (dBin gIxD (dVar 0) (dC (.str "done"))) (dC (.int 0)))) (dAnd (dBin gEq (dVar 4) (dC (.str "no"))) (dBin gGt (dBin gIxD (dVar 0) (dC (.str "done"))) (dC (.int 0)))))))))
def den__law_is_over : List PyData → Option PyData := dRun 4 5 f__law_is_over
theorem ok__law_is_over (T : Tx w K mg) : DOk P w K mg base 1 "_law_is_over" 4 den__law_is_over := dok_of 4 rfl T.g__law_is_over sc__law_is_over f__law_is_over fun cd A outer s H E fa hr =>
  (s_cons (s_if (t_notN (d_var 2)) (s_one (s_ret d_bl)) s_nil) (s_cons (s_if (t_cmp (c_eq hr.units) (d_var 3) d_str (by rfl)) (s_one (s_ret (d_cmp c_gt (d_ix (hu_of hr) (d_var 0) d_str) d_int (by rfl)))) s_nil) (s_cons (s_set 4 (d_if (t_cmp (c_eq hr.units) (d_ix (hu_of hr) (d_ix (hu_of hr) (d_var 1) (d_ix (hu_of hr) (d_var 0) d_str)) d_int) d_str (by rfl)) (d_ix (hu_of hr) (d_add (d_ix (hu_of hr) (d_var 1) (d_ix (hu_of hr) (d_var 0) d_str)) (d_tup (a_cons d_str a_nil))) d_int) d_str) sc__law_is_over.nd) (s_one (s_ret (d_or (d_and (d_cmp (c_eq hr.units) (d_var 4) d_str (by rfl)) (d_one (d_cmp (c_eq hr.units) (d_ix (hu_of hr) (d_var 0) d_str) d_int (by rfl)))) (d_one (d_and (d_cmp (c_eq hr.units) (d_var 4) d_str (by rfl)) (d_one (d_cmp c_gt (d_ix (hu_of hr) (d_var 0) d_str) d_int (by rfl)))))))))))
end
end Dn
set_option Elab.async false
set_option linter.all false
set_option maxRecDepth 100000
set_option maxHeartbeats 4000000
namespace Dn
open PySem PySem.Spec L2 PyProof.Rows
/-! ### the typed words -/
inductive Srv where
  | fresh | gone | never | there
  deriving DecidableEq
def Srv.s : Srv → Str
  | .fresh => "fresh" | .gone => "gone" | .never => "never" | .there => "there"
def Srv.isThere : Srv → Bool
  | .fresh => true | .there => true | _ => false
structure Cp where
  same : Bool
  look : Bool
  stamp : Bool
  now : Bool
  deriving DecidableEq
abbrev Copy := Option Cp
def bI (b : Bool) : Int := if b then 1 else 0
def bD (b : Bool) : PyData := .int (bI b)
def is1 (b : Bool) : Bool := decide (bI b = 1)
theorem is1_eq (b : Bool) : is1 b = b := by cases b <;> rfl
def Cp.d (c : Cp) : PyData := .tuple [bD c.same, bD c.look, bD c.stamp, bD c.now]
def cpD : Copy → PyData
  | none => .tuple []
  | some c => c.d
inductive Act where
  | great | small | take | tick
  deriving DecidableEq
def Act.s : Act → Str
  | .great => "great" | .small => "small" | .take => "take" | .tick => "tick"
inductive Cnd where
  | plain | tag | look | stamp | there | none
  deriving DecidableEq
def Cnd.s : Cnd → Str
  | .plain => "plain" | .tag => "tag" | .look => "look" | .stamp => "stamp" | .there => "there" | .none => "none"
inductive Wd where
  | yes | no | open_
  deriving DecidableEq
def Wd.s : Wd → Str
  | .yes => "yes" | .no => "no" | .open_ => "open"
inductive Stp where
  | read (c : Cnd) (got mine unch absent lost : Nat)
  | put (c : Cnd) (small : Bool) (yes no lost : Nat)
  | take (c : Cnd) (yes no absent lost : Nat)
  | forget (n : Nat)
  | fin (w : Wd)
  deriving DecidableEq
def sizeS (b : Bool) : Str := match b with | true => "small" | false => "great"
def iN (n : Nat) : PyData := .int (n : Nat)
def Stp.d : Stp → PyData
  | .read c a b u e l => .tuple [.str "read", .str c.s, iN a, iN b, iN u, iN e, iN l]
  | .put c z y n l => .tuple [.str "put", .str c.s, .str (sizeS z), iN y, iN n, iN l]
  | .take c y n a l => .tuple [.str "take", .str c.s, iN y, iN n, iN a, iN l]
  | .forget n => .tuple [.str "forget", iN n]
  | .fin w => .tuple [.str "end", .str w.s]
inductive Ans where
  | got | mine | unchanged | absent | yes | no | lost
  deriving DecidableEq
def Ans.s : Ans → Str
  | .got => "got" | .mine => "mine" | .unchanged => "unchanged" | .absent => "absent" | .yes => "yes" | .no => "no" | .lost => "lost"
/-- the conditions that a step may have -/
def Stp.cOk : Stp → Bool
  | .read c .. => (match c with | .there => false | .none => false | _ => true)
  | .put c .. => (match c with | .look => false | _ => true)
  | .take c .. => (match c with | .look => false | .none => false | _ => true)
  | _ => true
inductive Dn3 where
  | zero | one | more
  deriving DecidableEq
def Dn3.i : Dn3 → Int
  | .zero => 0 | .one => 1 | .more => 2
def Dn3.inc : Dn3 → Dn3
  | .zero => .one | _ => .more
abbrev Late := Option (Nat × Copy × Bool)
def ltD : Late → PyData
  | none => .tuple []
  | some (n, k, m) => .tuple [iN n, cpD k, bD m]
structure Sta where
  srv : Srv
  step : Nat
  copy : Copy
  known : Bool
  own : Bool
  done : Dn3
  late : Late
  deriving DecidableEq
def Sta.d (s : Sta) : PyData := .tuple [.str s.srv.s, iN s.step, cpD s.copy, bD s.known, bD s.own, .int s.done.i, ltD s.late]
inductive Ev where
  | great | small | take | tick | answered | unheard | unsent | come
  deriving DecidableEq
def Ev.s : Ev → Str
  | .great => "great" | .small => "small" | .take => "take" | .tick => "tick" | .answered => "answered" | .unheard => "unheard" | .unsent => "unsent" | .come => "come"
inductive Net where
  | sure | lost | late | again
  deriving DecidableEq
def Net.s : Net → Str
  | .sure => "sure" | .lost => "lost" | .late => "late" | .again => "again"
structure Oth where
  great : Bool
  small : Bool
  take : Bool
def oneIf (b : Bool) (x : Str) : List Str := match b with | true => [x] | false => []
def Oth.l (o : Oth) : List Str := oneIf o.great "great" ++ (oneIf o.small "small" ++ oneIf o.take "take")
def Oth.d (o : Oth) : PyData := .tuple (o.l.map .str)
def scrD (steps : List Stp) : PyData := .dict [(.none, .tuple (steps.map Stp.d))]

/-! ### the mirror -/
def serverAfter (v : Srv) : Act → Srv
  | .take => if v.isThere then .gone else v
  | .tick => match v with | .fresh => .there | v => v
  | _ => .fresh
def Cp.after (v : Srv) (c : Cp) : Act → Cp
  | .tick => ⟨c.same, c.look, c.stamp, false⟩
  | .take => ⟨false, false, false, c.now⟩
  | .small => ⟨false, if v.isThere then c.look else false, c.now, c.now⟩
  | .great => ⟨false, false, c.now, c.now⟩
def copyAfter (v : Srv) (c : Copy) (a : Act) : Copy := c.map fun c => c.after v a
def bare (k : Copy) : Cnd → Bool
  | .plain => true
  | .tag => k.isNone | .look => k.isNone | .stamp => k.isNone
  | _ => false
def fits (k : Copy) : Cnd → Bool
  | .tag => (match k with | some c => is1 c.same | none => false)
  | .look => (match k with | some c => is1 c.look | none => false)
  | .stamp => (match k with | some c => is1 c.stamp | none => false)
  | _ => false
def holds (v : Srv) (k : Copy) (c : Cnd) : Bool := match c with
  | .there => v.isThere
  | .none => !v.isThere
  | c => if bare k c then true else fits k c
def answer (v : Srv) (k : Copy) : Stp → Ans
  | .read c .. => if v.isThere then (if bare k c then .got else if fits k c then .unchanged else .got) else .absent
  | .put c .. => if holds v k c then .yes else .no
  | .take c .. => if v.isThere then (if holds v k c then .yes else .no) else if bare k c then .absent else .no
  | _ => .no
def Stp.writes : Stp → Bool
  | .put .. => true | .take .. => true | _ => false
def Stp.act : Stp → Act
  | .put _ z .. => (match z with | true => .small | false => .great)
  | _ => .take
def isDone (one : Stp) (v : Srv) (k : Copy) : Bool := one.writes && (match answer v k one with | .yes => true | _ => false)
def next : Stp → Ans → Nat
  | .read _ a b u e l, w => (match w with | .got => a | .mine => b | .unchanged => u | .absent => e | _ => l)
  | .put _ _ y n l, w => (match w with | .yes => y | .no => n | _ => l)
  | .take _ y n a l, w => (match w with | .yes => y | .no => n | .absent => a | _ => l)
  | _, _ => 0

/-! ### the small defs -/
theorem e_is_there (v : Srv) : den_is_there [.str v.s] = some (.bool v.isThere) := by cases v <;> kernel_rfl
theorem e_server_after (v : Srv) (a : Act) : den_server_after [.str v.s, .str a.s] = some (.str (serverAfter v a).s) := by cases v <;> cases a <;> kernel_rfl
theorem e_copy_after (v : Srv) (c : Copy) (a : Act) : den_copy_after [.str v.s, cpD c, .str a.s] = some (cpD (copyAfter v c a)) := by
  cases c with
  | none => cases v <;> cases a <;> kernel_rfl
  | some c => cases v <;> cases a <;> kernel_rfl
theorem e_answer_to (v : Srv) (k : Copy) (one : Stp) (h : one.writes = true ∨ (∃ c a b u e l, one = .read c a b u e l)) (hc : one.cOk = true) : den_answer_to [one.d, .str v.s, cpD k] = some (.str (answer v k one).s) := by
  cases one with
  | read c a b u e l =>
    cases k with
    | none => cases v <;> cases c <;> first | (cases hc; done) | kernel_rfl
    | some k =>
      obtain ⟨k1, k2, k3, k4⟩ := k
      cases v <;> cases c <;> first | (cases hc; done) | (cases k1 <;> cases k2 <;> cases k3 <;> kernel_rfl)
  | put c z y n l =>
    cases k with
    | none => cases v <;> cases c <;> first | (cases hc; done) | kernel_rfl
    | some k =>
      obtain ⟨k1, k2, k3, k4⟩ := k
      cases v <;> cases c <;> first | (cases hc; done) | (cases k1 <;> cases k2 <;> cases k3 <;> kernel_rfl)
  | take c y n a l =>
    cases k with
    | none => cases v <;> cases c <;> first | (cases hc; done) | kernel_rfl
    | some k =>
      obtain ⟨k1, k2, k3, k4⟩ := k
      cases v <;> cases c <;> first | (cases hc; done) | (cases k1 <;> cases k2 <;> cases k3 <;> kernel_rfl)
  | _ => rcases h with h | ⟨_, _, _, _, _, _, h⟩ <;> cases h
end Dn
set_option Elab.async false
set_option linter.all false
set_option maxRecDepth 100000
set_option maxHeartbeats 4000000
namespace Dn
open PySem PySem.Spec L2 PyProof.Rows
/-! ### steps of an evaluation -/
theorem x_run {n N : Nat} {f : DS} {ds : List PyData} {d : PyData} (hl : ds.length = n) (h : f (ds.map some ++ List.replicate (N - n) none) = some (.rt d)) : dRun n N f ds = some d := by
  unfold dRun
  rw [if_pos hl, h]
theorem x_n {f g : DS} {env env1 : DE} {o : Option Out} (h : f env = some (.nx env1)) (h2 : g env1 = o) : sCons f g env = o := by
  unfold sCons
  rw [h]
  exact h2
theorem x_r {f g : DS} {env : DE} {d : PyData} (h : f env = some (.rt d)) : sCons f g env = some (.rt d) := by
  unfold sCons
  rw [h]
  rfl
theorem x_set {i : Nat} {fe : DF} {env : DE} {d : PyData} (h : fe env = some d) : sSet i fe env = some (.nx (env.set i (some d))) := by
  unfold sSet
  rw [h]
  rfl
theorem x_ret {fe : DF} {env : DE} {d : PyData} (h : fe env = some d) : sRet fe env = some (.rt d) := by
  unfold sRet
  rw [h]
  rfl
theorem x_if {gc : DE → Option Bool} {f g : DS} {env : DE} {b : Bool} {o : Option Out} (h : gc env = some b) (h2 : (cond b (f env) (g env)) = o) : sIf gc f g env = o := by
  unfold sIf
  rw [h]
  cases b <;> exact h2
theorem x_app {g : List PyData → Option PyData} {fs : DE → Option (List PyData)} {env : DE} {ds : List PyData} {o : Option PyData} (h : fs env = some ds) (h2 : g ds = o) : dApp g fs env = o := by
  unfold dApp
  rw [h]
  exact h2
theorem x_un {g : PyData → Option PyData} {fa : DF} {env : DE} {a : PyData} {o : Option PyData} (h : fa env = some a) (h2 : g a = o) : dUn g fa env = o := by
  unfold dUn
  rw [h]
  exact h2
theorem x_bin {g : PyData → PyData → Option PyData} {fa fb : DF} {env : DE} {a b : PyData} {o : Option PyData} (h : fa env = some a) (h1 : fb env = some b) (h2 : g a b = o) : dBin g fa fb env = o := by
  unfold dBin
  rw [h, Option.bind_some, h1]
  exact h2
theorem x_test {fa : DF} {env : DE} {b : Bool} (h : fa env = some (.bool b)) : dTest fa env = some b := by
  unfold dTest
  rw [h]
  rfl
theorem x_ife {gc : DE → Option Bool} {f g : DF} {env : DE} {b : Bool} {o : Option PyData} (h : gc env = some b) (h2 : (cond b (f env) (g env)) = o) : dIf gc f g env = o := by
  unfold dIf
  rw [h]
  cases b <;> exact h2
theorem x_and {fa fb : DF} {env : DE} {b : Bool} {o : Option PyData} (h : fa env = some (.bool b)) (h2 : (cond b (fb env) (some (.bool false))) = o) : dAnd fa fb env = o := by
  unfold dAnd
  rw [x_test h]
  cases b <;> exact h2
theorem x_or {fa fb : DF} {env : DE} {b : Bool} {o : Option PyData} (h : fa env = some (.bool b)) (h2 : (cond b (some (.bool true)) (fb env)) = o) : dOr fa fb env = o := by
  unfold dOr
  rw [x_test h]
  cases b <;> exact h2
theorem x_not {gc : DE → Option Bool} {env : DE} {b : Bool} (h : gc env = some b) : dNotT gc env = some (!b) := by
  unfold dNotT
  rw [h]
  rfl
theorem x_nilA {env : DE} : dNilA env = some [] := rfl
theorem x_consA {f : DF} {g : DE → Option (List PyData)} {env : DE} {d : PyData} {ds : List PyData} (h : f env = some d) (h2 : g env = some ds) : dConsA f g env = some (d :: ds) := by
  unfold dConsA
  rw [h, Option.bind_some, h2]
  rfl

/-! ### the mirror of a step -/
def acted (s : Sta) (a : Act) (own : Bool) : Sta :=
  ⟨serverAfter s.srv a, s.step, copyAfter s.srv s.copy a, false, own, match own with | true => s.done.inc | false => s.done, match s.late with | none => none | some (n, k, m) => some (n, copyAfter s.srv k a, match own with | true => m | false => false)⟩
def ticked (s : Sta) : Sta := ⟨serverAfter s.srv .tick, s.step, copyAfter s.srv s.copy .tick, s.known, s.own, s.done, match s.late with | none => none | some (n, k, m) => some (n, copyAfter s.srv k .tick, m)⟩
def present (v : Srv) : Copy := match v with | .fresh => some ⟨true, true, true, true⟩ | _ => some ⟨true, true, true, false⟩
def Sta.at (s : Sta) (n : Nat) : Sta := { s with step := n }
def Sta.seen (s : Sta) (k : Copy) : Sta := { s with copy := k, known := true }
def word (w : Ans) (own : Bool) : Ans := match w with
  | .got => (match own with | true => .mine | false => .got)
  | a => a
def wordOf (one : Stp) (s : Sta) : Ans := word (answer s.srv s.copy one) s.own
def putCopy : Stp → Copy
  | .put .. => some ⟨true, true, true, true⟩
  | _ => none
def finA (one : Stp) (s : Sta) (z : Ans) : Sta := match z with
  | .got => (s.at (next one z)).seen (present s.srv)
  | .mine => (s.at (next one z)).seen (present s.srv)
  | .yes => (acted (s.at (next one z)) one.act true).seen (putCopy one)
  | .absent => (s.at (next one z)).seen none
  | _ => s.at (next one z)
def answered (one : Stp) (s : Sta) : Sta := match one with
  | .forget n => { s with step := n, copy := none }
  | one => finA one s (wordOf one s)
def sent (s : Sta) (k : Copy) : Late := some (s.step, k, s.known || s.own)
def unheard (one : Stp) (s : Sta) (net : Net) : Sta :=
  let later := (acted s one.act true).at (next one .lost)
  match net with
  | .again => { later with late := sent s later.copy }
  | _ => later
def unsent (one : Stp) (s : Sta) (net : Net) : Sta :=
  let later := s.at (next one .lost)
  match net, one with
  | .lost, _ => later
  | _, .read .. => later
  | _, _ => { later with late := sent s s.copy }
/-- lone: the step of the request that comes late -/
def come (lone : Stp) (s : Sta) (net : Net) : Sta := match s.late with
  | none => s
  | some (_, k, _) =>
    let later := if isDone lone s.srv k then acted s lone.act true else s
    (match net with | .again => later | _ => { later with late := none })
def Ev.act? : Ev → Option Act
  | .great => some .great | .small => some .small | .take => some .take | _ => none
def stp (steps : List Stp) (n : Nat) : Stp := steps.getD n (.fin .yes)
def lateStep (s : Sta) : Nat := match s.late with | none => 0 | some (n, _, _) => n
def stepped (steps : List Stp) (s : Sta) (ev : Ev) (net : Net) : Sta := match ev with
  | .great => acted s .great false
  | .small => acted s .small false
  | .take => acted s .take false
  | .tick => ticked s
  | .answered => answered (stp steps s.step) s
  | .unheard => unheard (stp steps s.step) s net
  | .unsent => unsent (stp steps s.step) s net
  | .come => come (stp steps (lateStep s)) s net
def Stp.isEnd : Stp → Bool
  | .fin _ => true | _ => false
def Stp.asks : Stp → Bool
  | .fin _ => false | .forget _ => false | _ => true
def Oth.has (o : Oth) : Act → Bool
  | .great => o.great | .small => o.small | .take => o.take | .tick => false
def canHappen (one : Stp) (s : Sta) (ev : Ev) (o : Oth) (net : Net) : Bool := match ev with
  | .tick => true
  | .great => o.great
  | .small => o.small && s.srv.isThere
  | .take => o.take && s.srv.isThere
  | .answered => !one.isEnd
  | .unheard => (match net with | .sure => false | _ => isDone one s.srv s.copy)
  | .unsent => (match net with | .sure => false | _ => one.asks)
  | .come => (match net with | .late => s.late.isSome | .again => s.late.isSome | _ => false)

/-! ### the defs by the mirror -/
theorem e_act_of (one : Stp) (h : one.writes = true) : den_act_of [one.d] = some (.str one.act.s) := by
  cases one with
  | put c z y n l => cases z <;> kernel_rfl
  | take c y n a l => kernel_rfl
  | _ => cases h
theorem e_is_done_by (one : Stp) (v : Srv) (k : Copy) (hc : one.cOk = true) : den_is_done_by [one.d, .str v.s, cpD k] = some (.bool (isDone one v k)) := by
  cases h : one.writes with
  | true =>
    have e := e_answer_to v k one (.inl h) hc
    have e2 : isDone one v k = (match answer v k one with | .yes => true | _ => false) := by unfold isDone; rw [h]; rfl
    rw [e2]
    refine x_run rfl (x_ret (x_and (b := true) ?_ (x_bin (x_app (ds := [one.d, .str v.s, cpD k]) rfl e) rfl ?_)))
    · cases one <;> first | (cases h; done) | kernel_rfl
    · cases answer v k one <;> kernel_rfl
  | false =>
    have e2 : isDone one v k = false := by unfold isDone; rw [h]; rfl
    rw [e2]
    refine x_run rfl (x_ret (x_and (b := false) ?_ rfl))
    cases one <;> first | (cases h; done) | kernel_rfl
theorem e_next (one : Stp) (w : Ans) (h : match one, w with | .read .., .yes => False | .read .., .no => False | .read .., _ => True | .put .., .yes => True | .put .., .no => True | .put .., .lost => True | .put .., _ => False | .take .., .yes => True | .take .., .no => True | .take .., .absent => True | .take .., .lost => True | .take .., _ => False | _, _ => False) :
    den_next_behind [one.d, .str w.s] = some (iN (next one w)) := by
  cases one with
  | read c a b u e l => cases w <;> first | (exact h.elim) | kernel_rfl
  | put c z y n l => cases w <;> first | (exact h.elim) | kernel_rfl
  | take c y n a l => cases w <;> first | (exact h.elim) | kernel_rfl
  | _ => exact h.elim
theorem e_at_step (s : Sta) (n : Nat) : den_at_step [s.d, iN n] = some (s.at n).d := by kernel_rfl
theorem e_seen_now (s : Sta) (k : Copy) : den_seen_now [s.d, cpD k] = some (s.seen k).d := by cases k <;> kernel_rfl
theorem e_acted (s : Sta) (a : Act) (own : Bool) : den_acted [s.d, .str a.s, .bool own] = some (acted s a own).d := by
  obtain ⟨v, st, k, kn, ow, dn, lt⟩ := s
  cases lt with
  | none =>
    cases k with
    | none => cases v <;> cases a <;> cases own <;> cases dn <;> kernel_rfl
    | some k => cases v <;> cases a <;> cases own <;> cases dn <;> kernel_rfl
  | some lt =>
    obtain ⟨n, k2, m⟩ := lt
    cases k with
    | none =>
      cases k2 with
      | none => cases v <;> cases a <;> cases own <;> cases dn <;> kernel_rfl
      | some k2 => cases v <;> cases a <;> cases own <;> cases dn <;> kernel_rfl
    | some k =>
      cases k2 with
      | none => cases v <;> cases a <;> cases own <;> cases dn <;> kernel_rfl
      | some k2 => cases v <;> cases a <;> cases own <;> cases dn <;> kernel_rfl
theorem e_ticked (s : Sta) : den_ticked [s.d] = some (ticked s).d := by
  obtain ⟨v, st, k, kn, ow, dn, lt⟩ := s
  cases lt with
  | none => cases k <;> cases v <;> kernel_rfl
  | some lt =>
    obtain ⟨n, k2, m⟩ := lt
    cases k <;> cases k2 <;> cases v <;> kernel_rfl
theorem e_sent_now (s : Sta) (k : Copy) : den_sent_now [s.d, cpD k] = some (ltD (sent s k)) := by
  obtain ⟨v, st, k1, kn, ow, dn, lt⟩ := s
  cases k <;> cases kn <;> cases ow <;> kernel_rfl
end Dn
set_option Elab.async false
set_option linter.all false
set_option maxRecDepth 100000
set_option maxHeartbeats 4000000
namespace Dn
open PySem PySem.Spec L2 PyProof.Rows
def okW : Stp → Ans → Prop
  | .read .., .yes => False | .read .., .no => False | .read .., _ => True | .put .., .yes => True | .put .., .no => True | .put .., .lost => True | .put .., _ => False
  | .take .., .yes => True | .take .., .no => True | .take .., .absent => True | .take .., .lost => True | .take .., _ => False | _, _ => False
theorem e_next' (one : Stp) (w : Ans) (h : okW one w) : den_next_behind [one.d, .str w.s] = some (iN (next one w)) := by
  cases one with
  | read c a b u e l => cases w <;> first | (exact h.elim) | kernel_rfl
  | put c z y n l => cases w <;> first | (exact h.elim) | kernel_rfl
  | take c y n a l => cases w <;> first | (exact h.elim) | kernel_rfl
  | _ => exact h.elim
theorem okW_ans (one : Stp) (v : Srv) (k : Copy) (own : Bool) (ha : one.asks = true) : okW one (word (answer v k one) own) := by
  cases one with
  | read c a b u e l =>
    show okW _ (word (if v.isThere then (if bare k c then .got else if fits k c then .unchanged else .got) else .absent) own)
    cases v.isThere <;> cases bare k c <;> cases fits k c <;> cases own <;> trivial
  | put c z y n l =>
    show okW _ (word (if holds v k c then .yes else .no) own)
    cases holds v k c <;> trivial
  | take c y n a l =>
    show okW _ (word (if v.isThere then (if holds v k c then .yes else .no) else if bare k c then .absent else .no) own)
    cases v.isThere <;> cases bare k c <;> cases holds v k c <;> trivial
  | _ => cases ha
theorem okW_lost (one : Stp) (ha : one.asks = true) : okW one .lost := by cases one <;> first | trivial | cases ha
theorem asks_of {one : Stp} (h : one.asks = true) : one.writes = true ∨ (∃ c a b u e l, one = .read c a b u e l) := by
  cases one with
  | read c a b u e l => exact .inr ⟨c, a, b, u, e, l, rfl⟩
  | put _ _ _ _ _ => exact .inl rfl
  | take _ _ _ _ _ => exact .inl rfl
  | _ => cases h
theorem writes_asks {one : Stp} (h : one.writes = true) : one.asks = true := by cases one <;> first | rfl | cases h
theorem ans_writes {v : Srv} {k : Copy} {one : Stp} (h : answer v k one = .yes) : one.writes = true := by
  cases one with
  | read c a b u e l =>
    have h : (if v.isThere then (if bare k c then Ans.got else if fits k c then .unchanged else .got) else .absent) = .yes := h
    revert h
    cases v.isThere <;> cases bare k c <;> cases fits k c <;> intro h <;> cases h
  | put _ _ _ _ _ => rfl
  | take _ _ _ _ _ => rfl
  | _ => cases h
theorem e_seen_present (s t : Sta) (env : DE) (fa : DF) (hs : fa env = some t.d) (h2 : env[2]? = some (some (.str s.srv.s))) :
    dApp den_seen_now (dConsA fa (dConsA (dIf (dTest (dBin gEq (dVar 2) (dC (.str "fresh")))) (dC (.tuple [(.int 1), (.int 1), (.int 1), (.int 1)])) (dC (.tuple [(.int 1), (.int 1), (.int 1), (.int 0)]))) dNilA)) env = some (t.seen (present s.srv)).d := by
  refine x_app (x_consA hs (x_consA (d := cpD (present s.srv)) ?_ x_nilA)) (e_seen_now t (present s.srv))
  have e2 : dVar 2 env = some (.str s.srv.s) := by unfold dVar; rw [h2]; rfl
  cases h : s.srv with
  | fresh => rw [h] at e2; exact x_ife (b := true) (x_test (x_bin e2 rfl (by kernel_rfl))) (by kernel_rfl)
  | gone => rw [h] at e2; exact x_ife (b := false) (x_test (x_bin e2 rfl (by kernel_rfl))) (by kernel_rfl)
  | never => rw [h] at e2; exact x_ife (b := false) (x_test (x_bin e2 rfl (by kernel_rfl))) (by kernel_rfl)
  | there => rw [h] at e2; exact x_ife (b := false) (x_test (x_bin e2 rfl (by kernel_rfl))) (by kernel_rfl)
theorem e_answered (steps : List Stp) (s : Sta) (one : Stp) (h : atI (steps.map Stp.d) (s.step : Int) = some one.d) (hc : one.cOk = true) (he : one.isEnd = false) : den_answered [scrD steps, s.d] = some (answered one s).d := by
  refine x_run rfl (x_n (env1 := [some (scrD steps), some s.d, some (.str s.srv.s), some (iN s.step), some (cpD s.copy), some (bD s.known), some (bD s.own), some (.int s.done.i), some (ltD s.late), none, none, none]) (by kernel_rfl) (x_n (x_set (d := one.d) h) ?_))
  by_cases hf : ∃ n, one = .forget n
  · obtain ⟨n, rfl⟩ := hf
    kernel_rfl
  · have ha : one.asks = true := by
      cases one with
      | forget n => exact (hf ⟨n, rfl⟩).elim
      | fin w => cases he
      | _ => rfl
    have e1 := e_answer_to s.srv s.copy one (asks_of ha) hc
    have hw := okW_ans one s.srv s.copy s.own ha
    have e3 := e_next' one _ hw
    have hA : answered one s = finA one s (wordOf one s) := by
      cases one with
      | forget n => exact (hf ⟨n, rfl⟩).elim
      | _ => rfl
    rw [hA]
    unfold wordOf
    refine x_n (env1 := [some (scrD steps), some s.d, some (.str s.srv.s), some (iN s.step), some (cpD s.copy), some (bD s.known), some (bD s.own), some (.int s.done.i), some (ltD s.late), some one.d, none, none]) (x_if (b := false) ?_ rfl) ?_
    · cases one <;> first | exact (hf ⟨_, rfl⟩).elim | kernel_rfl
    refine x_n (x_set (x_app (ds := [one.d, .str s.srv.s, cpD s.copy]) rfl e1)) ?_
    have hy : answer s.srv s.copy one = .yes → one.writes = true := ans_writes
    revert e3 hw hy
    generalize answer s.srv s.copy one = w
    intro hw e3 hy
    refine x_n (env1 := [some (scrD steps), some s.d, some (.str s.srv.s), some (iN s.step), some (cpD s.copy), some (bD s.known), some (bD s.own), some (.int s.done.i), some (ltD s.late), some one.d, some (.str (word w s.own).s), none]) ?_ ?_
    · obtain ⟨v, st, k, kn, ow, dn, lt⟩ := s
      cases w <;> cases ow <;> kernel_rfl
    have hyy : word w s.own = .yes → one.writes = true := by
      intro q
      apply hy
      cases w with
      | got => cases ho : s.own <;> rw [ho] at q <;> cases q
      | yes => rfl
      | _ => cases q
    revert e3 hyy
    generalize word w s.own = z
    intro e3 hyy
    refine x_n (x_set (x_app (x_consA rfl (x_consA (x_app (ds := [one.d, .str z.s]) rfl e3) x_nilA)) (e_at_step s (next one z)))) ?_
    cases z with
    | got => exact x_r (x_if (b := true) (by kernel_rfl) (x_ret (e_seen_present s (s.at (next one .got)) _ _ rfl rfl)))
    | mine => exact x_r (x_if (b := true) (by kernel_rfl) (x_ret (e_seen_present s (s.at (next one .mine)) _ _ rfl rfl)))
    | yes =>
      have hwr := hyy rfl
      refine x_n (x_if (b := false) (by kernel_rfl) rfl) (x_r (x_if (b := true) (by kernel_rfl) (x_ret ?_)))
      refine x_app (x_consA (x_app (x_consA rfl (x_consA (x_app (ds := [one.d]) rfl (e_act_of one hwr)) (x_consA rfl x_nilA))) (e_acted (s.at (next one .yes)) one.act true)) (x_consA (d := cpD (putCopy one)) ?_ x_nilA)) (e_seen_now _ _)
      cases one <;> first | (cases hwr; done) | kernel_rfl
    | absent =>
      refine x_n (x_if (b := false) (by kernel_rfl) rfl) (x_n (x_if (b := false) (by kernel_rfl) rfl) (x_ret (x_ife (b := true) (by kernel_rfl) ?_)))
      exact x_app (x_consA rfl (x_consA rfl x_nilA)) (e_seen_now (s.at (next one .absent)) none)
    | unchanged => exact x_n (x_if (b := false) (by kernel_rfl) rfl) (x_n (x_if (b := false) (by kernel_rfl) rfl) (x_ret (x_ife (b := false) (by kernel_rfl) rfl)))
    | no => exact x_n (x_if (b := false) (by kernel_rfl) rfl) (x_n (x_if (b := false) (by kernel_rfl) rfl) (x_ret (x_ife (b := false) (by kernel_rfl) rfl)))
    | lost => exact x_n (x_if (b := false) (by kernel_rfl) rfl) (x_n (x_if (b := false) (by kernel_rfl) rfl) (x_ret (x_ife (b := false) (by kernel_rfl) rfl)))
end Dn
set_option Elab.async false
set_option linter.all false
set_option maxRecDepth 100000
set_option maxHeartbeats 4000000
namespace Dn
open PySem PySem.Spec L2 PyProof.Rows
def fitD (s : Sta) (l : Late) : PyData := .tuple ([.str s.srv.s, iN s.step, cpD s.copy, bD s.known, bD s.own, .int s.done.i] ++ [ltD l])
theorem e_unheard (steps : List Stp) (s : Sta) (net : Net) (one : Stp) (h : atI (steps.map Stp.d) (s.step : Int) = some one.d) (hw : one.writes = true) : den_unheard [scrD steps, s.d, .str net.s] = some (unheard one s net).d := by
  refine x_run rfl (x_n (x_set (d := one.d) h) (x_n (x_set (d := ((acted s one.act true).at (next one .lost)).d) ?_) ?_))
  · exact x_app (x_consA (x_app (x_consA rfl (x_consA (x_app (ds := [one.d]) rfl (e_act_of one hw)) (x_consA rfl x_nilA))) (e_acted s one.act true)) (x_consA (x_app (ds := [one.d, .str Ans.lost.s]) rfl (e_next' one .lost (okW_lost one (writes_asks hw)))) x_nilA)) (e_at_step _ _)
  · cases net with
    | again =>
      refine x_ret (x_ife (b := true) (by kernel_rfl) ?_)
      refine x_bin (a := .tuple [.str (acted s one.act true).srv.s, iN (next one .lost), cpD (acted s one.act true).copy, bD false, bD true, .int (acted s one.act true).done.i]) (by kernel_rfl) (b := .tuple [ltD (sent s (acted s one.act true).copy)]) ?_ (by kernel_rfl)
      have e := x_app (g := den_sent_now) (env := [some (scrD steps), some s.d, some (.str Net.again.s), some one.d, some ((acted s one.act true).at (next one .lost)).d]) (fs := dConsA (dVar 1) (dConsA (dBin gIxD (dVar 4) (dC (.int 2))) dNilA)) rfl (e_sent_now s (acted s one.act true).copy)
      have e2 := x_consA e (x_nilA (env := [some (scrD steps), some s.d, some (.str Net.again.s), some one.d, some ((acted s one.act true).at (next one .lost)).d]))
      have e3 : ∀ d : PyData, isDat d = true → (some [d]).bind (fun ds => if (decide (ds.length ≤ 1000) && ds.all isDat) = true then some (PyData.tuple ds) else none) = some (.tuple [d]) := fun d hd => by
        show (if (decide ([d].length ≤ 1000) && [d].all isDat) = true then some (PyData.tuple [d]) else none) = _
        rw [if_pos (by simp [hd])]
      exact (congrArg (fun o : Option (List PyData) => o.bind (fun ds => if (decide (ds.length ≤ 1000) && ds.all isDat) = true then some (PyData.tuple ds) else none)) e2).trans (e3 _ rfl)
    | sure => exact x_ret (x_ife (b := false) (by kernel_rfl) rfl)
    | lost => exact x_ret (x_ife (b := false) (by kernel_rfl) rfl)
    | late => exact x_ret (x_ife (b := false) (by kernel_rfl) rfl)
theorem x_tup1 {f : DF} {env : DE} {d : PyData} (h : f env = some d) (hd : isDat d = true) : dTup (dConsA f dNilA) env = some (.tuple [d]) := by
  unfold dTup
  rw [x_consA h x_nilA]
  show (if (decide ([d].length ≤ 1000) && [d].all isDat) = true then some (PyData.tuple [d]) else none) = _
  rw [if_pos (by simp [hd])]
theorem e_unsent (steps : List Stp) (s : Sta) (net : Net) (one : Stp) (h : atI (steps.map Stp.d) (s.step : Int) = some one.d) (ha : one.asks = true) : den_unsent [scrD steps, s.d, .str net.s] = some (unsent one s net).d := by
  refine x_run rfl (x_n (x_set (d := one.d) h) (x_n (x_set (d := (s.at (next one .lost)).d) ?_) ?_))
  · exact x_app (x_consA rfl (x_consA (x_app (ds := [one.d, .str Ans.lost.s]) rfl (e_next' one .lost (okW_lost one ha))) x_nilA)) (e_at_step _ _)
  · have put : ∀ net', (unsent one s net').d = fitD (s.at (next one .lost)) (sent s s.copy) → ∀ env : DE, env = [some (scrD steps), some s.d, some (.str net'.s), some one.d, some (s.at (next one .lost)).d] →
        sRet (dBin gAdd (dSlice (dVar 4) oNone (oSome (dC (.int 6)))) (dTup (dConsA (dApp den_sent_now (dConsA (dVar 1) (dConsA (dBin gIxD (dVar 1) (dC (.int 2))) dNilA))) dNilA))) env = some (.rt (unsent one s net').d) := by
      intro net' e env he
      subst he
      rw [e]
      exact x_ret (x_bin (a := .tuple [.str s.srv.s, iN (next one .lost), cpD s.copy, bD s.known, bD s.own, .int s.done.i]) (by kernel_rfl) (x_tup1 (x_app (ds := [s.d, cpD s.copy]) rfl (e_sent_now s s.copy)) rfl) (by kernel_rfl))
    have out : ∀ net', (unsent one s net').d = (s.at (next one .lost)).d → ∀ env : DE, env = [some (scrD steps), some s.d, some (.str net'.s), some one.d, some (s.at (next one .lost)).d] → sRet (dVar 4) env = some (.rt (unsent one s net').d) := by
      intro net' e env he
      subst he
      rw [e]
      exact x_ret rfl
    cases net with
    | lost => exact x_r (x_if (b := true) (by kernel_rfl) (out _ rfl _ rfl))
    | sure =>
      cases one with
      | read c a b u e l => exact x_r (x_if (b := true) (by kernel_rfl) (out _ rfl _ rfl))
      | put c z y n l => exact x_n (x_if (b := false) (by kernel_rfl) rfl) (put _ rfl _ rfl)
      | take c y n a l => exact x_n (x_if (b := false) (by kernel_rfl) rfl) (put _ rfl _ rfl)
      | _ => cases ha
    | late =>
      cases one with
      | read c a b u e l => exact x_r (x_if (b := true) (by kernel_rfl) (out _ rfl _ rfl))
      | put c z y n l => exact x_n (x_if (b := false) (by kernel_rfl) rfl) (put _ rfl _ rfl)
      | take c y n a l => exact x_n (x_if (b := false) (by kernel_rfl) rfl) (put _ rfl _ rfl)
      | _ => cases ha
    | again =>
      cases one with
      | read c a b u e l => exact x_r (x_if (b := true) (by kernel_rfl) (out _ rfl _ rfl))
      | put c z y n l => exact x_n (x_if (b := false) (by kernel_rfl) rfl) (put _ rfl _ rfl)
      | take c y n a l => exact x_n (x_if (b := false) (by kernel_rfl) rfl) (put _ rfl _ rfl)
      | _ => cases ha
theorem x_par {i j : Nat} {f g : DF} {env : DE} {d e : PyData} (h : f env = some d) (h2 : g env = some e) : sPar i j f g env = some (.nx ((env.set i (some d)).set j (some e))) := by
  unfold sPar
  rw [h, Option.bind_some, h2]
  rfl
theorem e_come (steps : List Stp) (s : Sta) (net : Net) (n : Nat) (k : Copy) (m : Bool) (hl : s.late = some (n, k, m)) (one : Stp) (h : atI (steps.map Stp.d) (n : Int) = some one.d) (hw : one.writes = true) (hc : one.cOk = true) : den_come [scrD steps, s.d, .str net.s] = some (come one s net).d := by
  have hd : s.d = .tuple [.str s.srv.s, iN s.step, cpD s.copy, bD s.known, bD s.own, .int s.done.i, .tuple [iN n, cpD k, bD m]] := by unfold Sta.d; rw [hl]; rfl
  have hcm : come one s net = (match net with | .again => (if isDone one s.srv k then acted s one.act true else s) | _ => { (if isDone one s.srv k then acted s one.act true else s) with late := none }) := by (unfold come; rw [hl]) <;> (cases net <;> rfl)
  refine x_run rfl (x_n (x_par (d := one.d) (e := cpD k) ?_ ?_) (x_n (x_set (d := (if isDone one s.srv k then acted s one.act true else s).d) ?_) ?_))
  · rw [hd]; exact h
  · rw [hd]; rfl
  · have e1 := e_is_done_by one s.srv k hc
    refine x_ife (x_test (x_app (ds := [one.d, .str s.srv.s, cpD k]) rfl e1)) ?_
    cases isDone one s.srv k with
    | true => exact x_app (x_consA rfl (x_consA (x_app (ds := [one.d]) rfl (e_act_of one hw)) (x_consA rfl x_nilA))) (e_acted s one.act true)
    | false => rfl
  · rw [hcm]
    generalize (if isDone one s.srv k then acted s one.act true else s) = t
    cases net with
    | again => exact x_ret (x_ife (b := true) (by kernel_rfl) rfl)
    | sure => exact x_ret (x_ife (b := false) (by kernel_rfl) (by kernel_rfl))
    | lost => exact x_ret (x_ife (b := false) (by kernel_rfl) (by kernel_rfl))
    | late => exact x_ret (x_ife (b := false) (by kernel_rfl) (by kernel_rfl))
/-- the steps of a script are right, and the state stands in it -/
structure StOk (steps : List Stp) (s : Sta) : Prop where
  step : s.step < steps.length
  late : ∀ n k m, s.late = some (n, k, m) → n < steps.length ∧ (stp steps n).writes = true
def Stp.nexts : Stp → List Nat
  | .read _ a b u e l => [a, b, u, e, l]
  | .put _ _ y n l => [y, n, l]
  | .take _ y n a l => [y, n, a, l]
  | .forget n => [n]
  | .fin _ => []
def Stp.ok (m : Nat) (one : Stp) : Bool := one.cOk && one.nexts.all fun n => decide (n < m)
def scrOk (steps : List Stp) : Prop := ∀ one ∈ steps, one.ok steps.length = true
theorem stp_at {steps : List Stp} {n : Nat} (h : n < steps.length) : atI (steps.map Stp.d) (n : Int) = some (stp steps n).d := by
  have e : (steps.map Stp.d)[n]? = some (stp steps n).d := by
    rw [List.getElem?_map, List.getElem?_eq_getElem h]
    unfold stp
    rw [List.getD_eq_getElem?_getD, List.getElem?_eq_getElem h]
    rfl
  exact atI_nat e
theorem stp_mem {steps : List Stp} {n : Nat} (h : n < steps.length) : stp steps n ∈ steps := by
  unfold stp
  rw [List.getD_eq_getElem?_getD, List.getElem?_eq_getElem h]
  exact List.getElem_mem h
theorem scrOk.c {steps : List Stp} (o : scrOk steps) {n : Nat} (h : n < steps.length) : (stp steps n).cOk = true := (Bool.and_eq_true_iff.mp (o _ (stp_mem h))).1
theorem canHappen_isEnd {steps : List Stp} {s : Sta} {o : Oth} {net : Net} (h : canHappen (stp steps s.step) s .answered o net = true) : (stp steps s.step).isEnd = false := by
  unfold canHappen at h
  simpa using h
theorem canHappen_unheard {one : Stp} {s : Sta} {o : Oth} {net : Net} (h : canHappen one s .unheard o net = true) : isDone one s.srv s.copy = true := by
  unfold canHappen at h
  cases net <;> first | cases h | exact h
theorem isDone_writes {one : Stp} {v : Srv} {k : Copy} (h : isDone one v k = true) : one.writes = true := (Bool.and_eq_true_iff.mp h).1
theorem canHappen_unsent {one : Stp} {s : Sta} {o : Oth} {net : Net} (h : canHappen one s .unsent o net = true) : one.asks = true := by
  unfold canHappen at h
  cases net <;> first | cases h | exact h
theorem canHappen_come {one : Stp} {s : Sta} {o : Oth} {net : Net} (h : canHappen one s .come o net = true) : s.late.isSome = true := by
  unfold canHappen at h
  cases net <;> first | cases h | exact h
theorem e_stepped (steps : List Stp) (s : Sta) (ev : Ev) (o : Oth) (net : Net) (so : scrOk steps) (st : StOk steps s) (hc : canHappen (stp steps s.step) s ev o net = true) :
    den_stepped [scrD steps, s.d, .str ev.s, .str net.s] = some (stepped steps s ev net).d := by
  have h := stp_at st.step
  cases ev with
  | great => exact x_run rfl (x_r (x_if (b := true) (by kernel_rfl) (x_ret (x_app (ds := [s.d, .str Act.great.s, .bool false]) rfl (e_acted s .great false)))))
  | small => exact x_run rfl (x_r (x_if (b := true) (by kernel_rfl) (x_ret (x_app (ds := [s.d, .str Act.small.s, .bool false]) rfl (e_acted s .small false)))))
  | take => exact x_run rfl (x_r (x_if (b := true) (by kernel_rfl) (x_ret (x_app (ds := [s.d, .str Act.take.s, .bool false]) rfl (e_acted s .take false)))))
  | tick => exact x_run rfl (x_n (x_if (b := false) (by kernel_rfl) rfl) (x_r (x_if (b := true) (by kernel_rfl) (x_ret (x_app (ds := [s.d]) rfl (e_ticked s))))))
  | answered => exact x_run rfl (x_n (x_if (b := false) (by kernel_rfl) rfl) (x_n (x_if (b := false) (by kernel_rfl) rfl) (x_r (x_if (b := true) (by kernel_rfl) (x_ret (x_app (ds := [scrD steps, s.d]) rfl (e_answered steps s _ h (so.c st.step) (canHappen_isEnd hc))))))))
  | unheard => exact x_run rfl (x_n (x_if (b := false) (by kernel_rfl) rfl) (x_n (x_if (b := false) (by kernel_rfl) rfl) (x_n (x_if (b := false) (by kernel_rfl) rfl) (x_r (x_if (b := true) (by kernel_rfl) (x_ret (x_app (ds := [scrD steps, s.d, .str net.s]) rfl (e_unheard steps s net _ h (isDone_writes (canHappen_unheard hc))))))))))
  | unsent => exact x_run rfl (x_n (x_if (b := false) (by kernel_rfl) rfl) (x_n (x_if (b := false) (by kernel_rfl) rfl) (x_n (x_if (b := false) (by kernel_rfl) rfl) (x_n (x_if (b := false) (by kernel_rfl) rfl) (x_ret (x_ife (b := true) (by kernel_rfl) (x_app (ds := [scrD steps, s.d, .str net.s]) rfl (e_unsent steps s net _ h (canHappen_unsent hc)))))))))
  | come =>
    have hl := canHappen_come hc
    cases hs : s.late with
    | none => rw [hs] at hl; cases hl
    | some l =>
      obtain ⟨n, k, m⟩ := l
      obtain ⟨h1, h2⟩ := st.late n k m hs
      have e := e_come steps s net n k m hs _ (stp_at h1) h2 (so.c h1)
      have hn : lateStep s = n := by unfold lateStep; rw [hs]
      have e2 : stepped steps s .come net = come (stp steps n) s net := by show come (stp steps (lateStep s)) s net = _; rw [hn]
      rw [e2]
      exact x_run rfl (x_n (x_if (b := false) (by kernel_rfl) rfl) (x_n (x_if (b := false) (by kernel_rfl) rfl) (x_n (x_if (b := false) (by kernel_rfl) rfl) (x_n (x_if (b := false) (by kernel_rfl) rfl) (x_ret (x_ife (b := false) (by kernel_rfl) (x_app (ds := [scrD steps, s.d, .str net.s]) rfl e)))))))
end Dn
set_option Elab.async false
set_option linter.all false
set_option maxRecDepth 100000
set_option maxHeartbeats 4000000
namespace Dn
open PySem PySem.Spec L2 PyProof.Rows
theorem e_can_happen (steps : List Stp) (s : Sta) (ev : Ev) (o : Oth) (net : Net) (one : Stp) (h : atI (steps.map Stp.d) (s.step : Int) = some one.d) (hc : one.cOk = true) :
    den_can_happen [scrD steps, s.d, .str ev.s, o.d, .str net.s] = some (.bool (canHappen one s ev o net)) := by
  refine x_run rfl (x_n (env1 := [some (scrD steps), some s.d, some (.str ev.s), some o.d, some (.str net.s), some (.str s.srv.s), some (iN s.step), some (cpD s.copy), some (bD s.known), some (bD s.own), some (.int s.done.i), some (ltD s.late), none]) (by kernel_rfl) (x_n (x_set (d := one.d) h) ?_))
  obtain ⟨og, os, ot⟩ := o
  cases ev with
  | tick => kernel_rfl
  | great => cases og <;> cases os <;> cases ot <;> kernel_rfl
  | small =>
    obtain ⟨v, st, k, kn, ow, dn, lt⟩ := s
    cases og <;> cases os <;> cases ot <;> cases v <;> kernel_rfl
  | take =>
    obtain ⟨v, st, k, kn, ow, dn, lt⟩ := s
    cases og <;> cases os <;> cases ot <;> cases v <;> kernel_rfl
  | answered => cases one <;> kernel_rfl
  | unheard =>
    refine x_n (x_if (b := false) (by kernel_rfl) rfl) (x_n (x_if (b := false) (by kernel_rfl) rfl) (x_n (x_if (b := false) (by kernel_rfl) rfl) ?_))
    have fin : ∀ env : DE, env[12]? = some (some one.d) → env[5]? = some (some (.str s.srv.s)) → env[7]? = some (some (cpD s.copy)) → sRet (dApp den_is_done_by (dConsA (dVar 12) (dConsA (dVar 5) (dConsA (dVar 7) dNilA)))) env = some (.rt (.bool (isDone one s.srv s.copy))) := fun env e1 e2 e3 =>
      x_ret (x_app (x_consA (by unfold dVar; rw [e1]; rfl) (x_consA (by unfold dVar; rw [e2]; rfl) (x_consA (by unfold dVar; rw [e3]; rfl) x_nilA))) (e_is_done_by one s.srv s.copy hc))
    cases net with
    | sure => exact x_r (x_if (b := true) (by kernel_rfl) (by kernel_rfl))
    | lost => exact x_n (x_if (b := false) (by kernel_rfl) rfl) (x_r (x_if (b := true) (by kernel_rfl) (fin _ rfl rfl rfl)))
    | late => exact x_n (x_if (b := false) (by kernel_rfl) rfl) (x_r (x_if (b := true) (by kernel_rfl) (fin _ rfl rfl rfl)))
    | again => exact x_n (x_if (b := false) (by kernel_rfl) rfl) (x_r (x_if (b := true) (by kernel_rfl) (fin _ rfl rfl rfl)))
  | unsent => cases net <;> cases one <;> kernel_rfl
  | come =>
    obtain ⟨v, st, k, kn, ow, dn, lt⟩ := s
    cases lt with
    | none => cases net <;> kernel_rfl
    | some lt =>
      obtain ⟨n, k2, m⟩ := lt
      cases k2 <;> cases net <;> kernel_rfl
theorem lcGo_filter {α : Type} {gc : DE → Option Bool} {fe : DF} (f : α → DE) (b : α → Bool) (d : α → PyData) : ∀ (xs : List α), (∀ x ∈ xs, gc (f x) = some (b x)) → (∀ x ∈ xs, b x = true → fe (f x) = some (d x)) → (∀ x ∈ xs, noL (d x) = true) → lcGo gc fe (xs.map f) = some ((xs.filter b).map d)
  | [], _, _, _ => rfl
  | x :: xs, h1, h2, h3 => by
    have ih := lcGo_filter f b d xs (fun y hy => h1 y (List.mem_cons_of_mem _ hy)) (fun y hy => h2 y (List.mem_cons_of_mem _ hy)) (fun y hy => h3 y (List.mem_cons_of_mem _ hy))
    rw [List.map_cons]
    show ((gc (f x)).bind fun b => if b = true then (fe (f x)).bind fun d => if noL d = true then (lcGo gc fe (xs.map f)).map (d :: ·) else none else lcGo gc fe (xs.map f)) = _
    rw [h1 x List.mem_cons_self, Option.bind_some, ih]
    cases hb : b x with
    | false => rw [if_neg (by decide), List.filter_cons, hb]; rfl
    | true =>
      rw [if_pos rfl, h2 x List.mem_cons_self hb, Option.bind_some, if_pos (h3 x List.mem_cons_self), List.filter_cons, hb]
      rfl
def evs : List Ev := [.great, .small, .take, .tick, .answered, .unheard, .unsent, .come]
def eventsIn (steps : List Stp) (s : Sta) (o : Oth) (net : Net) : List Ev := evs.filter fun ev => canHappen (stp steps s.step) s ev o net
def evL (es : List Ev) : List PyData := es.map fun ev => .str ev.s
theorem e_events_in (steps : List Stp) (s : Sta) (o : Oth) (net : Net) (so : scrOk steps) (st : s.step < steps.length) : den_events_in [scrD steps, s.d, o.d, .str net.s] = some (.list (evL (eventsIn steps s o net))) := by
  refine x_run rfl (x_ret ?_)
  have e := lcGo_filter (gc := dTest (dApp den_can_happen (dConsA (dVar 0) (dConsA (dVar 1) (dConsA (dVar 4) (dConsA (dVar 2) (dConsA (dVar 3) dNilA))))))) (fe := dVar 4)
    (fun ev : Ev => [some (scrD steps), some s.d, some o.d, some (.str net.s), some (.str ev.s)]) (fun ev => canHappen (stp steps s.step) s ev o net) (fun ev => .str ev.s) evs
    (fun ev _ => x_test (x_app (ds := [scrD steps, s.d, .str ev.s, o.d, .str net.s]) rfl (e_can_happen steps s ev o net _ (stp_at st) (so.c st)))) (fun ev _ _ => rfl) (fun ev _ => rfl)
  exact congrArg (fun z : Option (List PyData) => z.map PyData.list) e
inductive Pr where
  | once | true_
  deriving DecidableEq
def Pr.s : Pr → Str
  | .once => "once" | .true_ => "true"
def amiss (one : Stp) (s : Sta) (p : Pr) : Bool := match p with
  | .once => (match s.done with | .more => true | _ => false)
  | .true_ => (match one with
    | .fin .yes => (match s.done with | .zero => true | _ => false)
    | .fin .no => (match s.done with | .zero => false | _ => true)
    | _ => false)
theorem e_is_amiss (steps : List Stp) (s : Sta) (p : Pr) (one : Stp) (h : atI (steps.map Stp.d) (s.step : Int) = some one.d) : den_is_amiss [scrD steps, s.d, .str p.s] = some (.bool (amiss one s p)) := by
  cases p with
  | once =>
    obtain ⟨v, st, k, kn, ow, dn, lt⟩ := s
    refine x_run rfl (x_r (x_if (b := true) (by kernel_rfl) ?_))
    cases dn <;> kernel_rfl
  | true_ =>
    refine x_run rfl (x_n (x_if (b := false) (by kernel_rfl) rfl) (x_n (x_set (d := one.d) h) ?_))
    obtain ⟨v, st, k, kn, ow, dn, lt⟩ := s
    cases one with
    | fin w => cases w <;> cases dn <;> kernel_rfl
    | _ => kernel_rfl
theorem e_is_bad (steps : List Stp) (s : Sta) (p : Pr) (o : Oth) (net : Net) (one : Stp) (h : atI (steps.map Stp.d) (s.step : Int) = some one.d) : den_is_bad [scrD steps, s.d, .str p.s, o.d, .str net.s] = some (.bool (amiss one s p)) := by
  refine x_run rfl (x_r (x_if (b := true) ?_ (x_ret (x_app (ds := [scrD steps, s.d, .str p.s]) rfl (e_is_amiss steps s p one h)))))
  cases p <;> kernel_rfl
def firstOf (v : Srv) : Sta := ⟨v, 0, none, false, false, .zero, none⟩
theorem e_first_of (v : Srv) : den_first_of [.str v.s] = some (firstOf v).d := by cases v <;> kernel_rfl
def srvs : List Srv := [.fresh, .gone, .never, .there]
def firsts : List Sta := srvs.map firstOf
theorem e_firsts : den_firsts [] = some (.list (firsts.map Sta.d)) := by kernel_rfl
theorem e_need_net (net : Net) : den_need_net [.str net.s] = some .none := by cases net <;> kernel_rfl
theorem e_need_others (o : Oth) : den_need_others [o.d] = some .none := by
  obtain ⟨og, os, ot⟩ := o
  cases og <;> cases os <;> cases ot <;> kernel_rfl
theorem e_need_promise (p : Pr) : den_need_promise [.str p.s, .tuple [.str "kept", .str "gone", .str "once", .str "true", .str "ends"]] = some .none := by cases p <;> kernel_rfl
end Dn
set_option Elab.async false
set_option linter.all false
set_option maxRecDepth 100000
set_option maxHeartbeats 4000000
namespace Dn
open PySem PySem.Spec L2 PyProof.Rows
/-! ### the law's worlds -/
/-- a copy: tag, look, stamp -/
abbrev Ed := Nat × Nat × Nat
def edD : Option Ed → PyData
  | none => .none
  | some (t, l, s) => .tuple [iN t, iN l, iN s]
structure Wld where
  second : Nat
  isThere : Bool
  wasThere : Bool
  tag : Nat
  look : Nat
  stamp : Nat
  ids : Nat
  authors : List Bool
  step : Nat
  copy : Option Ed
  seen : Option Nat
  done : Nat
  late : Option (Nat × Option Ed × Int)
def auS (b : Bool) : Str := match b with | true => "own" | false => "others"
def auL (l : List Bool) : List PyData := l.map fun b => .str (auS b)
def snD : Option Nat → PyData
  | none => .none
  | some n => iN n
def wlD : Option (Nat × Option Ed × Int) → PyData
  | none => .none
  | some (n, e, i) => .tuple [iN n, edD e, .int i]
def Wld.kds (w : Wld) : List (PyData × PyData) :=
  [(.str "second", iN w.second), (.str "is_there", .bool w.isThere), (.str "was_there", .bool w.wasThere), (.str "tag", iN w.tag), (.str "look", iN w.look), (.str "stamp", iN w.stamp), (.str "ids", iN w.ids), (.str "authors", .list (auL w.authors)),
    (.str "step", iN w.step), (.str "copy", edD w.copy), (.str "seen", snD w.seen), (.str "done", iN w.done), (.str "late", wlD w.late)]
def Wld.d (w : Wld) : PyData := .dict w.kds
def lastOwn (w : Wld) : Bool := w.authors.getLastD false
def Wld.held (w : Wld) : Ed := (w.tag, w.look, w.stamp)
def wBare (e : Option Ed) : Cnd → Bool
  | .plain => true
  | _ => e.isNone
def iEq (a b : Nat) : Bool := decide ((a : Int) = (b : Int))
theorem iEq_eq (a b : Nat) : iEq a b = decide (a = b) := decide_eq_decide.mpr Int.ofNat_inj
def wFits (w : Wld) (e : Option Ed) : Cnd → Bool
  | .tag => (match e with | some (t, _, _) => iEq t w.tag | none => false)
  | .look => (match e with | some (_, l, _) => iEq l w.look | none => false)
  | .stamp => (match e with | some (_, _, s) => iEq s w.stamp | none => false)
  | _ => false
def wReply (w : Wld) (e : Option Ed) : Stp → Ans
  | .read c .. => if w.isThere then (if wBare e c then (if lastOwn w then .mine else .got) else if wFits w e c then .unchanged else (if lastOwn w then .mine else .got)) else .absent
  | .put c .. => (match c with
    | .there => if w.isThere then .yes else .no
    | .none => if w.isThere then .no else .yes
    | c => if w.isThere then (if wBare e c then .yes else if wFits w e c then .yes else .no) else if wBare e c then .yes else .no)
  | .take c .. => (match c with
    | .there => if w.isThere then .yes else .no
    | .none => if w.isThere then .no else .yes
    | c => if w.isThere then (if wBare e c then .yes else if wFits w e c then .yes else .no) else if wBare e c then .absent else .no)
  | _ => .no
def wIsDone (w : Wld) (e : Option Ed) (one : Stp) : Bool := one.writes && (match wReply w e one with | .yes => true | _ => false)
def seenB (w : Wld) : Bool := match w.seen with | none => false | some n => decide ((n : Int) = (w.authors.length : Nat) - 1)
def wKnows (w : Wld) : Bool := seenB w || lastOwn w
def wSent (w : Wld) : Nat × Option Ed × Int := (w.step, w.copy, if wKnows w then ((w.authors.length : Nat) : Int) - 1 else -1)
def wMeantBy (w : Wld) (i : Int) : Bool := decide (0 ≤ i) && (w.authors.drop (i.toNat + 1)).all id
def wServer (w : Wld) : Srv := if w.isThere then (if iEq w.stamp w.second then .fresh else .there) else if w.wasThere then .gone else .never
def wStanding (w : Wld) (e : Option Ed) : Copy := e.map fun (t, l, s) => ⟨w.isThere && iEq t w.tag, w.isThere && iEq l w.look, w.isThere && iEq s w.stamp, iEq s w.second⟩
def dn3 (n : Nat) : Dn3 := match n with | 0 => .zero | 1 => .one | _ => .more
def wState (w : Wld) : Sta := ⟨wServer w, w.step, wStanding w w.copy, seenB w, lastOwn w, dn3 w.done, match w.late with | none => none | some (n, e, i) => some (n, wStanding w e, wMeantBy w i)⟩
def wCan (w : Wld) (one : Stp) (ev : Ev) (o : Oth) (net : Net) : Bool := match ev with
  | .tick => true
  | .great => o.great
  | .small => o.small && w.isThere
  | .take => o.take && w.isThere
  | .answered => !one.isEnd
  | .unheard => (match net with | .sure => false | _ => wIsDone w w.copy one)
  | .unsent => (match net with | .sure => false | _ => one.asks)
  | .come => (match net with | .late => w.late.isSome | .again => w.late.isSome | _ => false)
def wOver (w : Wld) (one : Stp) (p : Pr) : Bool := match p with
  | .once => decide (1 < w.done)
  | .true_ => (match one with
    | .fin .yes => decide (w.done = 0)
    | .fin .no => decide (0 < w.done)
    | _ => false)

/-! ### the law's small defs -/
theorem e_held_in (w : Wld) : den__law_held_in [w.d] = some (edD (some w.held)) := by kernel_rfl
theorem au_last (w : Wld) (h : w.authors ≠ []) : atI (auL w.authors) (-1) = some (.str (auS (lastOwn w))) := by
  have hl : 0 < w.authors.length := List.length_pos_iff.mpr h
  unfold lastOwn auL atI ixN
  rw [List.length_map, if_neg (by omega), if_pos (by omega)]
  show (List.map _ w.authors)[((-1 : Int) + (w.authors.length : Nat)).toNat]? = _
  have e : ((-1 : Int) + (w.authors.length : Nat)).toNat = w.authors.length - 1 := by omega
  rw [e, List.getElem?_map, ← List.getLast?_eq_getElem?]
  cases hg : w.authors.getLast? with
  | none => exact absurd (List.getLast?_eq_none_iff.mp hg) h
  | some b => rw [List.getLastD_eq_getLast?, hg]; rfl
theorem e_last_is_own {env : DE} (w : Wld) (h : w.authors ≠ []) (i : Nat) (he : env[i]? = some (some w.d)) : dBin gEq (dBin gIxD (dBin gIxD (dVar i) (dC (.str "authors"))) (dUn gNeg (dC (.int 1)))) (dC (.str "own")) env = some (.bool (lastOwn w)) := by
  refine x_bin (x_bin (a := .list (auL w.authors)) (b := .int (-1)) (x_bin (a := w.d) (by unfold dVar; rw [he]; rfl) rfl (by kernel_rfl)) rfl (au_last w h)) rfl ?_
  cases lastOwn w <;> kernel_rfl
theorem e_reply_to (w : Wld) (h : w.authors ≠ []) (e : Option Ed) (one : Stp) (ha : one.asks = true) (hc : one.cOk = true) : den__law_reply_to [w.d, edD e, one.d] = some (.str (wReply w e one).s) := by
  have put : ∀ (b : Bool), True := fun _ => trivial
  cases hth : w.isThere with
  | false =>
    have hd : w.d = .dict [(.str "second", iN w.second), (.str "is_there", .bool false), (.str "was_there", .bool w.wasThere), (.str "tag", iN w.tag), (.str "look", iN w.look), (.str "stamp", iN w.stamp), (.str "ids", iN w.ids), (.str "authors", .list (auL w.authors)),
        (.str "step", iN w.step), (.str "copy", edD w.copy), (.str "seen", snD w.seen), (.str "done", iN w.done), (.str "late", wlD w.late)] := by unfold Wld.d Wld.kds; rw [hth]
    rw [hd]
    cases one with
    | read c a b u n l =>
      have e1 : wReply w e (.read c a b u n l) = .absent := by unfold wReply; rw [hth]; rfl
      rw [e1]
      cases e <;> cases c <;> first | (cases hc; done) | kernel_rfl
    | put c z y n l =>
      have e1 : wReply w e (.put c z y n l) = (match c with | .there => .no | .none => .yes | c => if wBare e c then .yes else .no) := by unfold wReply; rw [hth]; cases c <;> rfl
      rw [e1]
      cases e <;> cases c <;> first | (cases hc; done) | kernel_rfl
    | take c y n a l =>
      have e1 : wReply w e (.take c y n a l) = (match c with | .there => .no | .none => .yes | c => if wBare e c then .absent else .no) := by unfold wReply; rw [hth]; cases c <;> rfl
      rw [e1]
      cases e <;> cases c <;> first | (cases hc; done) | kernel_rfl
    | _ => cases ha
  | true =>
    have hd : w.d = .dict [(.str "second", iN w.second), (.str "is_there", .bool true), (.str "was_there", .bool w.wasThere), (.str "tag", iN w.tag), (.str "look", iN w.look), (.str "stamp", iN w.stamp), (.str "ids", iN w.ids), (.str "authors", .list (auL w.authors)),
        (.str "step", iN w.step), (.str "copy", edD w.copy), (.str "seen", snD w.seen), (.str "done", iN w.done), (.str "late", wlD w.late)] := by unfold Wld.d Wld.kds; rw [hth]
    -- the tests that compare: same
    cases one with
    | put c z y n l =>
      have e1 : wReply w e (.put c z y n l) = (match c with | .there => .yes | .none => .no | c => if wBare e c then .yes else if wFits w e c then .yes else .no) := by unfold wReply; rw [hth]; cases c <;> rfl
      rw [e1, hd]
      cases e with
      | none => cases c <;> first | (cases hc; done) | kernel_rfl
      | some e =>
        obtain ⟨t, l2, st⟩ := e
        cases c with
        | tag =>
          show _ = some (PyData.str (Ans.s (if iEq t w.tag then Ans.yes else Ans.no)))
          refine x_run rfl (x_n (x_par (d := .str "put") (e := .str "tag") rfl rfl) (x_n (x_if (b := false) (by kernel_rfl) rfl) (x_n (x_set (d := .bool false) (by kernel_rfl)) (x_n (x_if (b := false) (by kernel_rfl) rfl) (x_n (x_set rfl) (x_n (x_if (b := true) (by kernel_rfl) (x_n (x_set (d := .int 0) (by kernel_rfl)) (x_set (d := .bool (iEq t w.tag)) (by kernel_rfl)))) ?_))))))
          cases iEq t w.tag <;> kernel_rfl
        | stamp =>
          show _ = some (PyData.str (Ans.s (if iEq st w.stamp then Ans.yes else Ans.no)))
          refine x_run rfl (x_n (x_par (d := .str "put") (e := .str "stamp") rfl rfl) (x_n (x_if (b := false) (by kernel_rfl) rfl) (x_n (x_set (d := .bool false) (by kernel_rfl)) (x_n (x_if (b := false) (by kernel_rfl) rfl) (x_n (x_set rfl) (x_n (x_if (b := true) (by kernel_rfl) (x_n (x_set (d := .int 2) (by kernel_rfl)) (x_set (d := .bool (iEq st w.stamp)) (by kernel_rfl)))) ?_))))))
          cases iEq st w.stamp <;> kernel_rfl
        | look => cases hc
        | _ => kernel_rfl
    | take c y n a l =>
      have e1 : wReply w e (.take c y n a l) = (match c with | .there => .yes | .none => .no | c => if wBare e c then .yes else if wFits w e c then .yes else .no) := by unfold wReply; rw [hth]; cases c <;> rfl
      rw [e1, hd]
      cases e with
      | none => cases c <;> first | (cases hc; done) | kernel_rfl
      | some e =>
        obtain ⟨t, l2, st⟩ := e
        cases c with
        | tag =>
          show _ = some (PyData.str (Ans.s (if iEq t w.tag then Ans.yes else Ans.no)))
          refine x_run rfl (x_n (x_par (d := .str "take") (e := .str "tag") rfl rfl) (x_n (x_if (b := false) (by kernel_rfl) rfl) (x_n (x_set (d := .bool false) (by kernel_rfl)) (x_n (x_if (b := false) (by kernel_rfl) rfl) (x_n (x_set rfl) (x_n (x_if (b := true) (by kernel_rfl) (x_n (x_set (d := .int 0) (by kernel_rfl)) (x_set (d := .bool (iEq t w.tag)) (by kernel_rfl)))) ?_))))))
          cases iEq t w.tag <;> kernel_rfl
        | stamp =>
          show _ = some (PyData.str (Ans.s (if iEq st w.stamp then Ans.yes else Ans.no)))
          refine x_run rfl (x_n (x_par (d := .str "take") (e := .str "stamp") rfl rfl) (x_n (x_if (b := false) (by kernel_rfl) rfl) (x_n (x_set (d := .bool false) (by kernel_rfl)) (x_n (x_if (b := false) (by kernel_rfl) rfl) (x_n (x_set rfl) (x_n (x_if (b := true) (by kernel_rfl) (x_n (x_set (d := .int 2) (by kernel_rfl)) (x_set (d := .bool (iEq st w.stamp)) (by kernel_rfl)))) ?_))))))
          cases iEq st w.stamp <;> kernel_rfl
        | look => cases hc
        | none => cases hc
        | _ => kernel_rfl
    | read c a b u n l =>
      have e1 : wReply w e (.read c a b u n l) = (if wBare e c then (if lastOwn w then .mine else .got) else if wFits w e c then .unchanged else (if lastOwn w then .mine else .got)) := by unfold wReply; rw [hth]; rfl
      rw [e1]
      -- the last line: mine or got
      have fin : ∀ env : DE, env[0]? = some (some w.d) → sRet (dIf (dTest (dBin gEq (dBin gIxD (dBin gIxD (dVar 0) (dC (.str "authors"))) (dUn gNeg (dC (.int 1)))) (dC (.str "own")))) (dC (.str "mine")) (dC (.str "got"))) env = some (.rt (.str (Ans.s (if lastOwn w then .mine else .got)))) := fun env he => by
        refine x_ret (x_ife (x_test (e_last_is_own w h 0 he)) ?_)
        cases lastOwn w <;> rfl
      have bareT : ∀ e2 : Option Ed, ∀ c2 : Cnd, Stp.cOk (.read c2 a b u n l) = true → wBare e2 c2 = true → den__law_reply_to [w.d, edD e2, Stp.d (.read c2 a b u n l)] = some (.str (Ans.s (if lastOwn w then .mine else .got))) := by
        intro e2 c2 hc2 hb
        refine x_run rfl (x_n (x_par (d := .str "read") (e := .str c2.s) rfl rfl) (x_n (x_if (b := false) (by cases c2 <;> first | (cases hc2; done) | kernel_rfl) rfl) (x_n (x_set (d := .bool true) (by cases e2 <;> cases c2 <;> first | (cases hb; done) | (cases hc2; done) | kernel_rfl)) (x_n (x_if (b := false) (by rw [hd]; cases c2 <;> kernel_rfl) rfl) (x_n (x_set rfl) (x_n (x_if (b := false) (by kernel_rfl) rfl) (x_n (x_if (b := false) (by kernel_rfl) rfl) (x_n (x_if (b := false) (by kernel_rfl) rfl) (fin _ rfl)))))))))
      cases e with
      | none =>
        have hb : wBare none c = true := by cases c <;> rfl
        rw [if_pos hb]
        exact bareT none c hc hb
      | some e =>
        obtain ⟨t, l2, st⟩ := e
        have go : ∀ (c2 : Cnd) (i : Int) (x y : Nat), Stp.cOk (.read c2 a b u n l) = true → wBare (some (t, l2, st)) c2 = false → gLIndex (.list [.str "tag", .str "look", .str "stamp"]) (.str c2.s) = some (.int i) → gIxD (.tuple [iN t, iN l2, iN st]) (.int i) = some (iN x) → gIxD (.tuple [iN w.tag, iN w.look, iN w.stamp]) (.int i) = some (iN y) →
            den__law_reply_to [w.d, edD (some (t, l2, st)), Stp.d (.read c2 a b u n l)] = some (.str (Ans.s (if iEq x y then .unchanged else (if lastOwn w then .mine else .got)))) := by
          intro c2 i x y hc2 hb h1 h2 h3
          refine x_run rfl (x_n (x_par (d := .str "read") (e := .str c2.s) rfl rfl) (x_n (x_if (b := false) (by cases c2 <;> first | (cases hc2; done) | kernel_rfl) rfl) (x_n (x_set (d := .bool false) (by cases c2 <;> first | (cases hb; done) | (cases hc2; done) | kernel_rfl)) (x_n (x_if (b := false) (by rw [hd]; kernel_rfl) rfl) (x_n (x_set rfl) (x_n (x_if (b := true) (by kernel_rfl) (x_n (x_set (d := .int i) (x_bin (a := .list [.str "tag", .str "look", .str "stamp"]) (by kernel_rfl) rfl h1)) (x_set (d := .bool (iEq x y)) (x_bin (x_bin rfl rfl h2) (x_bin (x_app (ds := [w.d]) rfl (e_held_in w)) rfl h3) (by kernel_rfl))))) ?_))))))
          cases hxy : iEq x y with
          | true => kernel_rfl
          | false => exact x_n (x_if (b := false) (by kernel_rfl) rfl) (x_n (x_if (b := false) (by kernel_rfl) rfl) (fin _ rfl))
        cases c with
        | plain => exact bareT _ _ hc rfl
        | tag => exact go .tag 0 t w.tag hc rfl (by kernel_rfl) (by kernel_rfl) (by kernel_rfl)
        | look => exact go .look 1 l2 w.look hc rfl (by kernel_rfl) (by kernel_rfl) (by kernel_rfl)
        | stamp => exact go .stamp 2 st w.stamp hc rfl (by kernel_rfl) (by kernel_rfl) (by kernel_rfl)
        | _ => cases hc
    | _ => cases ha
end Dn
set_option Elab.async false
set_option linter.all false
set_option maxRecDepth 100000
set_option maxHeartbeats 4000000
namespace Dn
open PySem PySem.Spec L2 PyProof.Rows
theorem e_l_act_of (one : Stp) (h : one.writes = true) : den__law_act_of [one.d] = some (.str one.act.s) := by
  cases one with
  | put c z y n l => cases z <;> kernel_rfl
  | take c y n a l => kernel_rfl
  | _ => cases h
theorem e_l_is_done (w : Wld) (h : w.authors ≠ []) (e : Option Ed) (one : Stp) (hc : one.cOk = true) : den__law_is_done [w.d, edD e, one.d] = some (.bool (wIsDone w e one)) := by
  cases hw : one.writes with
  | true =>
    have e1 := e_reply_to w h e one (writes_asks hw) hc
    have e2 : wIsDone w e one = (match wReply w e one with | .yes => true | _ => false) := by unfold wIsDone; rw [hw]; rfl
    rw [e2]
    refine x_run rfl (x_ret (x_and (b := true) ?_ (x_bin (x_app (ds := [w.d, edD e, one.d]) rfl e1) rfl ?_)))
    · cases one <;> first | (cases hw; done) | kernel_rfl
    · cases wReply w e one <;> kernel_rfl
  | false =>
    have e2 : wIsDone w e one = false := by unfold wIsDone; rw [hw]; rfl
    rw [e2]
    refine x_run rfl (x_ret (x_and (b := false) ?_ rfl))
    cases one <;> first | (cases hw; done) | kernel_rfl
theorem d_of {env : DE} {i : Nat} {d : PyData} (he : env[i]? = some (some d)) : dVar i env = some d := by unfold dVar; rw [he]; rfl
theorem len_au (l : List Bool) : (auL l).length = l.length := by unfold auL; simp
theorem e_len1 {env : DE} (w : Wld) (i : Nat) (he : env[i]? = some (some w.d)) : dBin gSub (dApp gLenA (dConsA (dBin gIxD (dVar i) (dC (.str "authors"))) dNilA)) (dC (.int 1)) env = some (.int ((w.authors.length : Nat) - 1)) := by
  refine x_bin (a := .int (w.authors.length : Nat)) (b := .int 1) (x_app (x_consA (x_bin (d_of he) rfl (o := some (.list (auL w.authors))) (by kernel_rfl)) x_nilA) ?_) rfl rfl
  show some (PyData.int ((auL w.authors).length : Nat)) = _
  rw [len_au]
theorem e_seen {env : DE} (w : Wld) (i : Nat) (he : env[i]? = some (some w.d)) (fb : DF) (hb : fb env = some (.int ((w.authors.length : Nat) - 1))) :
    dBin gEq (dBin gIxD (dVar i) (dC (.str "seen"))) fb env = some (.bool (seenB w)) := by
  unfold seenB
  refine x_bin (x_bin (d_of he) rfl (o := some (snD w.seen)) (by kernel_rfl)) hb ?_
  cases w.seen with
  | none => rfl
  | some n => rfl
theorem e_knows (w : Wld) (h : w.authors ≠ []) : den__law_knows [w.d] = some (.bool (wKnows w)) := by
  unfold wKnows
  refine x_run rfl (x_ret (x_or (e_seen w 0 rfl _ (e_len1 w 0 rfl)) ?_))
  cases seenB w with
  | true => rfl
  | false => exact e_last_is_own w h 0 rfl
theorem e_sent_in (w : Wld) (h : w.authors ≠ []) : den__law_sent_in [w.d] = some (wlD (some (wSent w))) := by
  refine x_run rfl (x_ret ?_)
  have e3 : dIf (dTest (dApp den__law_knows (dConsA (dVar 0) dNilA))) (dBin gSub (dApp gLenA (dConsA (dBin gIxD (dVar 0) (dC (.str "authors"))) dNilA)) (dC (.int 1))) (dUn gNeg (dC (.int 1))) [some w.d] = some (.int (if wKnows w then ((w.authors.length : Nat) : Int) - 1 else -1)) := by
    refine x_ife (x_test (x_app (ds := [w.d]) rfl (e_knows w h))) ?_
    cases wKnows w with
    | true => exact e_len1 w 0 rfl
    | false => kernel_rfl
  have e4 : ∀ x : Int, (some [iN w.step, edD w.copy, PyData.int x]).bind (fun ds => if (decide (ds.length ≤ 1000) && ds.all isDat) = true then some (PyData.tuple ds) else none) = some (.tuple [iN w.step, edD w.copy, .int x]) := fun x => by
    cases w.copy <;> kernel_rfl
  have e5 := x_consA (f := dBin gIxD (dVar 0) (dC (.str "step"))) (env := [some w.d]) (d := iN w.step) (by kernel_rfl) (x_consA (f := dBin gIxD (dVar 0) (dC (.str "copy"))) (d := edD w.copy) (by kernel_rfl) (x_consA e3 x_nilA))
  exact (congrArg (fun o : Option (List PyData) => o.bind (fun ds => if (decide (ds.length ≤ 1000) && ds.all isDat) = true then some (PyData.tuple ds) else none)) e5).trans (e4 _)
theorem lay_strs (l : List Bool) : PyData.canLayAll0 (auL l) = true := by
  induction l with
  | nil => rfl
  | cons b l ih =>
    show (PyData.canLay0 (.str (auS b)) && PyData.canLayAll0 (auL l)) = true
    rw [ih]
    cases b <;> decide +kernel
theorem depth_strs (l : List Bool) : PyData.depthAll (auL l) = 0 := by
  induction l with
  | nil => rfl
  | cons b l ih =>
    show max (PyData.depth (.str (auS b))) (PyData.depthAll (auL l)) = 0
    rw [ih]
    rfl
theorem shaped_strs (l : List Bool) : SeqAt.shaped (.list (auL l)) = true := by
  unfold SeqAt.shaped
  rw [show PyData.canLay0 (.list (auL l)) = PyData.canLayAll0 (auL l) from rfl, lay_strs, show PyData.depth (.list (auL l)) = PyData.depthAll (auL l) + 1 from rfl, depth_strs]
  rfl
theorem e_eq_nil {fa fb : DF} {env : DE} (l : List Bool) (ha : fa env = some (.list (auL l))) (hb : fb env = some (.list [])) : dBin gEq fa fb env = some (.bool l.isEmpty) := by
  refine x_bin ha hb ?_
  unfold gEq eqD?
  have e1 : scalD (.list (auL l)) (.list []) = false := rfl
  rw [e1, shaped_strs l]
  have e2 : SeqAt.shaped (.list []) = true := shaped_strs []
  rw [e2]
  cases l with
  | nil => rfl
  | cons b l => rfl
theorem cut_from (xs : List PyData) (n : Nat) : cutD xs (some (n : Int)) none = xs.drop n := by
  unfold cutD
  rw [HT.sIx_none, HT.sIx_nat]
  by_cases h : n ≤ xs.length
  · rw [Nat.min_eq_left h]
    rw [List.take_of_length_le (by simp)]
  · rw [Nat.min_eq_right (by omega)]
    simp
    omega
theorem e_is_meant (w : Wld) (hlen : w.authors.length ≤ 100000) (n : Nat) (e : Option Ed) (i : Int) (hl : w.late = some (n, e, i)) : den__law_is_meant [w.d] = some (.bool (wMeantBy w i)) := by
  have hd : w.d = .dict [(.str "second", iN w.second), (.str "is_there", .bool w.isThere), (.str "was_there", .bool w.wasThere), (.str "tag", iN w.tag), (.str "look", iN w.look), (.str "stamp", iN w.stamp), (.str "ids", iN w.ids), (.str "authors", .list (auL w.authors)),
        (.str "step", iN w.step), (.str "copy", edD w.copy), (.str "seen", snD w.seen), (.str "done", iN w.done), (.str "late", .tuple [iN n, edD e, .int i])] := by unfold Wld.d Wld.kds; rw [hl]; rfl
  refine x_run rfl (x_n (x_set (d := .int i) (by rw [hd]; kernel_rfl)) (x_ret (x_and (b := decide (0 ≤ i)) (by kernel_rfl) ?_)))
  unfold wMeantBy
  by_cases hi : 0 ≤ i
  · rw [decide_eq_true hi]
    obtain ⟨m, rfl⟩ : ∃ m : Nat, i = (m : Int) := ⟨i.toNat, by omega⟩
    have em : ((m : Int)).toNat = m := by omega
    rw [em]
    show dBin gEq _ _ _ = _
    have e1 : dSlice (dBin gIxD (dVar 0) (dC (.str "authors"))) (oSome (dBin gAdd (dVar 1) (dC (.int 1)))) oNone (List.set (List.map some [w.d] ++ List.replicate (3 - 1) none) 1 (some (.int (m : Int)))) = some (.list (auL (w.authors.drop (m + 1)))) := by
      have : some (PyData.list (cutD (auL w.authors) (some ((m : Int) + 1)) none)) = some (.list (auL (w.authors.drop (m + 1)))) := by
        have := cut_from (auL w.authors) (m + 1)
        rw [show ((m + 1 : Nat) : Int) = (m : Int) + 1 from by omega] at this
        rw [this]
        unfold auL
        rw [List.map_drop]
      exact this
    have e2 := lcGo_filter (gc := dTest (dBin gNe (dVar 2) (dC (.str "own")))) (fe := dVar 2) (fun b : Bool => [some w.d, some (.int (m : Int)), some (.str (auS b))]) (fun b => !b) (fun b => .str (auS b)) (w.authors.drop (m + 1))
      (fun b _ => by cases b <;> kernel_rfl) (fun b _ _ => rfl) (fun b _ => rfl)
    have hlen2 : (auL (w.authors.drop (m + 1))).length ≤ 100000 := by rw [len_au, List.length_drop]; omega
    have e3 : dLcL (dSlice (dBin gIxD (dVar 0) (dC (.str "authors"))) (oSome (dBin gAdd (dVar 1) (dC (.int 1)))) oNone) 2 (dTest (dBin gNe (dVar 2) (dC (.str "own")))) (dVar 2) (List.set (List.map some [w.d] ++ List.replicate (3 - 1) none) 1 (some (.int (m : Int)))) = some (.list (auL ((w.authors.drop (m + 1)).filter fun b => !b))) := by
      unfold dLcL
      rw [e1]
      show (if (auL (w.authors.drop (m + 1))).length ≤ 100000 then (lcGo _ _ ((auL (w.authors.drop (m + 1))).map fun x => List.set _ 2 (some x))).map PyData.list else none) = _
      rw [if_pos hlen2]
      unfold auL
      rw [List.map_map]
      have e4 := congrArg (fun z : Option (List PyData) => z.map PyData.list) e2
      exact e4
    rw [e_eq_nil _ e3 rfl, Bool.true_and]
    have e5 : ∀ l : List Bool, (l.filter fun b => !b).isEmpty = l.all id := by
      intro l
      induction l with
      | nil => rfl
      | cons b l ih => cases b <;> simp_all
    rw [e5]
  · rw [decide_eq_false hi]
    rfl
theorem e_server_of (w : Wld) : den__law_server_of [w.d] = some (.str (wServer w).s) := by
  unfold wServer
  refine x_run rfl ?_
  cases h : w.isThere with
  | false =>
    refine x_r (x_if (b := true) (x_not (b := false) (by unfold Wld.d Wld.kds; rw [h]; kernel_rfl)) ?_)
    refine x_ret (x_ife (b := w.wasThere) (by kernel_rfl) ?_)
    cases w.wasThere <;> rfl
  | true =>
    refine x_n (x_if (b := false) (x_not (b := true) (by unfold Wld.d Wld.kds; rw [h]; kernel_rfl)) rfl) ?_
    refine x_ret (x_ife (b := iEq w.stamp w.second) (by kernel_rfl) ?_)
    cases iEq w.stamp w.second <;> rfl
theorem e_standing_of (w : Wld) (e : Option Ed) : den__law_standing_of [w.d, edD e] = some (cpD (wStanding w e)) := by
  cases e with
  | none => kernel_rfl
  | some e =>
    obtain ⟨t, l, s⟩ := e
    cases h : w.isThere with
    | false =>
      have hd : w.d = .dict [(.str "second", iN w.second), (.str "is_there", .bool false), (.str "was_there", .bool w.wasThere), (.str "tag", iN w.tag), (.str "look", iN w.look), (.str "stamp", iN w.stamp), (.str "ids", iN w.ids), (.str "authors", .list (auL w.authors)),
        (.str "step", iN w.step), (.str "copy", edD w.copy), (.str "seen", snD w.seen), (.str "done", iN w.done), (.str "late", wlD w.late)] := by unfold Wld.d Wld.kds; rw [h]
      unfold wStanding
      rw [hd, h]
      kernel_rfl
    | true =>
      have hd : w.d = .dict [(.str "second", iN w.second), (.str "is_there", .bool true), (.str "was_there", .bool w.wasThere), (.str "tag", iN w.tag), (.str "look", iN w.look), (.str "stamp", iN w.stamp), (.str "ids", iN w.ids), (.str "authors", .list (auL w.authors)),
        (.str "step", iN w.step), (.str "copy", edD w.copy), (.str "seen", snD w.seen), (.str "done", iN w.done), (.str "late", wlD w.late)] := by unfold Wld.d Wld.kds; rw [h]
      unfold wStanding
      rw [hd, h]
      kernel_rfl
theorem e_l_can (w : Wld) (h : w.authors ≠ []) (steps : List Stp) (ev : Ev) (o : Oth) (net : Net) (one : Stp) (ha : atI (steps.map Stp.d) (w.step : Int) = some one.d) (hc : one.cOk = true) :
    den__law_can [w.d, .tuple (steps.map Stp.d), .str ev.s, o.d, .str net.s] = some (.bool (wCan w one ev o net)) := by
  refine x_run rfl (x_n (x_set (d := one.d) ha) ?_)
  obtain ⟨og, os, ot⟩ := o
  have thr : ∀ env : DE, env[0]? = some (some w.d) → dBin gIxD (dVar 0) (dC (.str "is_there")) env = some (.bool w.isThere) := fun env he => x_bin (d_of he) rfl (by kernel_rfl)
  cases ev with
  | tick => kernel_rfl
  | great => cases og <;> cases os <;> cases ot <;> kernel_rfl
  | small =>
    cases os with
    | false => cases og <;> cases ot <;> kernel_rfl
    | true =>
      show _ = some (Out.rt (.bool w.isThere))
      cases og <;> cases ot <;> exact x_r (x_if (b := true) (by kernel_rfl) (x_ret (x_and (b := true) (by kernel_rfl) (x_or (b := false) (by kernel_rfl) (thr _ rfl)))))
  | take =>
    cases ot with
    | false => cases og <;> cases os <;> kernel_rfl
    | true =>
      show _ = some (Out.rt (.bool w.isThere))
      cases og <;> cases os <;> exact x_r (x_if (b := true) (by kernel_rfl) (x_ret (x_and (b := true) (by kernel_rfl) (x_or (b := false) (by kernel_rfl) (thr _ rfl)))))
  | answered => cases one <;> kernel_rfl
  | unheard =>
    have dn := e_l_is_done w h w.copy one hc
    have fin : ∀ (net : Net) (env : DE), env[0]? = some (some w.d) → env[5]? = some (some one.d) → env[4]? = some (some (.str net.s)) → sRet (dAnd (dBin gNe (dVar 4) (dC (.str "sure"))) (dApp den__law_is_done (dConsA (dVar 0) (dConsA (dBin gIxD (dVar 0) (dC (.str "copy"))) (dConsA (dVar 5) dNilA))))) env = some (.rt (.bool (match net with | .sure => false | _ => wIsDone w w.copy one))) := by
      intro net env h0 h5 h4
      have e6 : dApp den__law_is_done (dConsA (dVar 0) (dConsA (dBin gIxD (dVar 0) (dC (.str "copy"))) (dConsA (dVar 5) dNilA))) env = some (.bool (wIsDone w w.copy one)) := x_app (x_consA (d_of h0) (x_consA (x_bin (d_of h0) rfl (o := some (edD w.copy)) (by kernel_rfl)) (x_consA (d_of h5) x_nilA))) dn
      cases net with
      | sure => exact x_ret (x_and (b := false) (x_bin (d_of h4) rfl (by kernel_rfl)) rfl)
      | lost => exact x_ret (x_and (b := true) (x_bin (d_of h4) rfl (by kernel_rfl)) e6)
      | late => exact x_ret (x_and (b := true) (x_bin (d_of h4) rfl (by kernel_rfl)) e6)
      | again => exact x_ret (x_and (b := true) (x_bin (d_of h4) rfl (by kernel_rfl)) e6)
    exact x_n (x_if (b := false) (by kernel_rfl) rfl) (x_n (x_if (b := false) (by kernel_rfl) rfl) (x_r (x_if (b := true) (by kernel_rfl) (fin net _ rfl rfl rfl))))
  | unsent => cases net <;> cases one <;> kernel_rfl
  | come =>
    have e7 : dUn gNotN (dBin gIxD (dVar 0) (dC (.str "late"))) [some w.d, some (.tuple (steps.map Stp.d)), some (.str Ev.come.s), some (Oth.d ⟨og, os, ot⟩), some (.str net.s), some one.d] = some (.bool w.late.isSome) := by
      refine x_un (x_bin rfl rfl (o := some (wlD w.late)) (by kernel_rfl)) ?_
      cases w.late <;> rfl
    refine x_n (x_if (b := false) (by kernel_rfl) rfl) (x_n (x_if (b := false) (by kernel_rfl) rfl) (x_n (x_if (b := false) (by kernel_rfl) rfl) (x_n (x_if (b := false) (by kernel_rfl) rfl) ?_)))
    cases net with
    | sure => exact x_ret (x_and (b := false) (by kernel_rfl) rfl)
    | lost => exact x_ret (x_and (b := false) (by kernel_rfl) rfl)
    | late => exact x_ret (x_and (b := true) (by kernel_rfl) e7)
    | again => exact x_ret (x_and (b := true) (by kernel_rfl) e7)
theorem e_is_over (w : Wld) (steps : List Stp) (p : Pr) (one : Stp) (ha : atI (steps.map Stp.d) (w.step : Int) = some one.d) : den__law_is_over [w.d, .tuple (steps.map Stp.d), .none, .str p.s] = some (.bool (wOver w one p)) := by
  have dn : ∀ env : DE, env[0]? = some (some w.d) → dBin gIxD (dVar 0) (dC (.str "done")) env = some (iN w.done) := fun env he => x_bin (d_of he) rfl (by kernel_rfl)
  have i0 : decide ((w.done : Int) = 0) = decide (w.done = 0) := decide_eq_decide.mpr (by omega)
  have i1 : decide ((1 : Int) < (w.done : Int)) = decide (1 < w.done) := decide_eq_decide.mpr (by omega)
  have i2 : decide ((0 : Int) < (w.done : Int)) = decide (0 < w.done) := decide_eq_decide.mpr (by omega)
  cases p with
  | once =>
    show _ = some (PyData.bool (decide (1 < w.done)))
    rw [← i1]
    exact x_run rfl (x_n (x_if (b := false) (by kernel_rfl) rfl) (x_r (x_if (b := true) (by kernel_rfl) (x_ret (x_bin (dn _ rfl) rfl rfl)))))
  | true_ =>
    have st : ∀ env : DE, env[0]? = some (some w.d) → env[1]? = some (some (.tuple (steps.map Stp.d))) → dBin gIxD (dVar 1) (dBin gIxD (dVar 0) (dC (.str "step"))) env = some one.d := fun env h0 h1 => x_bin (d_of h1) (x_bin (d_of h0) rfl (o := some (iN w.step)) (by kernel_rfl)) ha
    refine x_run rfl (x_n (x_if (b := false) (by kernel_rfl) rfl) (x_n (x_if (b := false) (by kernel_rfl) rfl) ?_))
    cases one with
    | fin wd =>
      refine x_n (x_set (d := .str wd.s) (x_ife (b := true) (x_test (x_bin (x_bin (st _ rfl rfl) rfl (o := some (.str "end")) (by kernel_rfl)) rfl (by kernel_rfl))) (x_bin (x_bin (st _ rfl rfl) rfl (o := some (.tuple [.str "end", .str wd.s, .str ""])) (by kernel_rfl)) rfl (by kernel_rfl)))) ?_
      cases wd with
      | yes =>
        show _ = some (Out.rt (.bool (decide (w.done = 0))))
        rw [← i0]
        refine x_ret (x_or (b := decide ((w.done : Int) = 0)) (x_and (b := true) (by kernel_rfl) (x_bin (dn _ rfl) rfl rfl)) ?_)
        cases decide ((w.done : Int) = 0) <;> kernel_rfl
      | no =>
        show _ = some (Out.rt (.bool (decide (0 < w.done))))
        rw [← i2]
        exact x_ret (x_or (b := false) (x_and (b := false) (by kernel_rfl) rfl) (x_and (b := true) (by kernel_rfl) (x_bin (dn _ rfl) rfl rfl)))
      | open_ => kernel_rfl
    | read c a b u n l =>
      refine x_n (x_set (d := .str "") (x_ife (b := false) (x_test (x_bin (x_bin (st _ rfl rfl) rfl (o := some (.str "read")) (by kernel_rfl)) rfl (by kernel_rfl))) rfl)) ?_
      kernel_rfl
    | put c z y n l =>
      refine x_n (x_set (d := .str "") (x_ife (b := false) (x_test (x_bin (x_bin (st _ rfl rfl) rfl (o := some (.str "put")) (by kernel_rfl)) rfl (by kernel_rfl))) rfl)) ?_
      kernel_rfl
    | take c y n a l =>
      refine x_n (x_set (d := .str "") (x_ife (b := false) (x_test (x_bin (x_bin (st _ rfl rfl) rfl (o := some (.str "take")) (by kernel_rfl)) rfl (by kernel_rfl))) rfl)) ?_
      kernel_rfl
    | forget n =>
      refine x_n (x_set (d := .str "") (x_ife (b := false) (x_test (x_bin (x_bin (st _ rfl rfl) rfl (o := some (.str "forget")) (by kernel_rfl)) rfl (by kernel_rfl))) rfl)) ?_
      kernel_rfl
end Dn
set_option Elab.async false
set_option linter.all false
set_option maxRecDepth 100000
set_option maxHeartbeats 4000000
namespace Dn
open PySem PySem.Spec L2 PyProof.Rows
theorem x_tup {fs : DE → Option (List PyData)} {env : DE} {ds : List PyData} (h : fs env = some ds) (hc : (decide (ds.length ≤ 1000) && ds.all isDat) = true) : dTup fs env = some (.tuple ds) := by
  unfold dTup
  rw [h, Option.bind_some, if_pos hc]
theorem x_int (b : Bool) {fs : DE → Option (List PyData)} {env : DE} (h : fs env = some [.bool b]) : dApp gIntA fs env = some (bD b) := x_app h (by cases b <;> rfl)
theorem isDat_cpD (k : Copy) : isDat (cpD k) = true := by cases k <;> rfl
theorem isDat_ltD (k : Late) : isDat (ltD k) = true := by
  cases k with
  | none => rfl
  | some k => obtain ⟨n, c, m⟩ := k; rfl
theorem dn3_min (n : Nat) : (if (n : Int) < 2 then (n : Int) else 2) = (dn3 n).i := by
  match n with
  | 0 => rfl
  | 1 => rfl
  | n + 2 =>
    rw [if_neg (by omega)]
    rfl
theorem e_state_of (w : Wld) (h : w.authors ≠ []) (hlen : w.authors.length ≤ 100000) : den__law_state_of [w.d] = some (wState w).d := by
  have hst : (wState w).d = .tuple [.str (wServer w).s, iN w.step, cpD (wStanding w w.copy), bD (seenB w), bD (lastOwn w), .int (dn3 w.done).i, ltD (wState w).late] := rfl
  rw [hst]
  refine x_run rfl (x_n (x_par (d := wlD w.late) (e := .int ((w.authors.length : Nat) - 1)) (by kernel_rfl) (e_len1 w 0 rfl)) (x_n (x_set (d := .tuple []) rfl) ?_))
  refine x_n (env1 := [some w.d, some (wlD w.late), some (.int ((w.authors.length : Nat) - 1)), some (ltD (wState w).late), none]) ?_ ?_
  · cases hl : w.late with
    | none =>
      refine x_if (b := false) (by kernel_rfl) ?_
      have : (wState w).late = none := by unfold wState; rw [hl]
      rw [this]
      rfl
    | some l =>
      obtain ⟨n, e, i⟩ := l
      have e2 : (wState w).late = some (n, wStanding w e, wMeantBy w i) := by unfold wState; rw [hl]
      rw [e2]
      refine x_if (b := true) (by kernel_rfl) (x_set (d := ltD (some (n, wStanding w e, wMeantBy w i))) ?_)
      refine x_tup (ds := [iN n, cpD (wStanding w e), bD (wMeantBy w i)]) (x_consA (by kernel_rfl) (x_consA (x_app (ds := [w.d, edD e]) (by kernel_rfl) (e_standing_of w e)) (x_consA (x_int _ (x_consA (x_app (ds := [w.d]) rfl (e_is_meant w hlen n e i hl)) x_nilA)) x_nilA))) ?_
      simp [isDat_cpD]
      exact ⟨rfl, rfl⟩
  refine x_n (x_set (d := .tuple [.str (wServer w).s, iN w.step, cpD (wStanding w w.copy)]) ?_) (x_n (x_set (d := .tuple [.str (wServer w).s, iN w.step, cpD (wStanding w w.copy), bD (seenB w), bD (lastOwn w)]) ?_) ?_)
  · refine x_tup (x_consA (x_app (ds := [w.d]) rfl (e_server_of w)) (x_consA (d := iN w.step) (by kernel_rfl) (x_consA (x_app (ds := [w.d, edD w.copy]) (by kernel_rfl) (e_standing_of w w.copy)) x_nilA))) ?_
    simp [isDat_cpD]
    exact ⟨rfl, rfl⟩
  · refine x_bin (a := .tuple [.str (wServer w).s, iN w.step, cpD (wStanding w w.copy)]) (b := .tuple [bD (seenB w), bD (lastOwn w)]) rfl (x_tup (x_consA (x_int _ (x_consA (e_seen w 0 rfl _ rfl) x_nilA)) (x_consA (x_int _ (x_consA (e_last_is_own w h 0 rfl) x_nilA)) x_nilA)) rfl) rfl
  · refine x_ret (x_bin (a := .tuple [.str (wServer w).s, iN w.step, cpD (wStanding w w.copy), bD (seenB w), bD (lastOwn w)]) (b := .tuple [.int (dn3 w.done).i, ltD (wState w).late]) rfl (x_tup (x_consA (x_app (ds := [.int 2, iN w.done]) (by kernel_rfl) ?_) (x_consA rfl x_nilA)) ?_) rfl)
    · show some (PyData.int (if (w.done : Int) < 2 then (w.done : Int) else 2)) = _
      rw [dn3_min]
    · simp [isDat_ltD]
      rfl
end Dn
set_option Elab.async false
set_option linter.all false
set_option maxRecDepth 100000
set_option maxHeartbeats 4000000
namespace Dn
open PySem PySem.Spec L2 PyProof.Rows
/-! ### hashes of nested tuples -/
mutual
def hsh (w : World) : PyData → Int
  | .int i => hashInt i
  | .str x => hashStr w x
  | .tuple ds => reduceHash (Builtin.Tuple.tupleHashOf (hshAll w ds))
  | _ => 0
def hshAll (w : World) : List PyData → List Int
  | [] => []
  | d :: ds => hsh w d :: hshAll w ds
end
mutual
def drw : PyData → Nat
  | .tuple ds => drwAll ds + 1
  | _ => 1
def drwAll : List PyData → Nat
  | [] => 0
  | d :: ds => drw d + drwAll ds
end
mutual
def keyOk : Nat → PyData → Bool
  | _, .int _ => true
  | _, .str x => PyData.strOk x
  | n, .tuple ds => (match n with | 0 => false | n + 1 => keyOkAll n ds)
  | _, _ => false
def keyOkAll : Nat → List PyData → Bool
  | _, [] => true
  | n, d :: ds => keyOk n d && keyOkAll n ds
end
section
variable {prog : Program} {w : World} {h : Heap}
theorem readsAll_len : ∀ {us : List Value} {ds : List PyData} {as : List Addr}, ReadsAll h us ds as → us.length = ds.length
  | _, _, _, .nil => rfl
  | _, _, _, .cons _ t => by simp [readsAll_len t]
mutual
theorem reads_inj : ∀ (n : Nat) (d e : PyData) {u : Value} {as bs : List Addr}, keyOk n d = true → keyOk n e = true → Reads h u d as → Reads h u e bs → d = e
  | n, .int i, e, _, _, _, k1, k2, .int _ t, r2 => by cases r2; rfl
  | n, .str x, e, _, _, _, k1, k2, .str _ t, r2 => by cases r2; rfl
  | 0, .tuple ds, e, _, _, _, k1, _, _, _ => by simp [keyOk] at k1
  | n + 1, .tuple ds, e, _, _, _, k1, k2, .tuple g1 g2 g3 g4, r2 => by
    cases r2 with
    | list f1 f2 f3 f4 => simp [keyOk] at k2
    | dict f1 f2 f3 f4 f5 => simp [keyOk] at k2
    | tuple f1 f2 f3 f4 =>
      rw [g1] at f1
      cases f1
      rw [g3] at f3
      cases f3
      rw [readsAll_inj n ds _ (by simpa [keyOk] using k1) (by simpa [keyOk] using k2) g4 f4]
  | n, .none, _, _, _, _, k1, _, _, _ => by simp [keyOk] at k1
  | n, .bool _, _, _, _, _, k1, _, _, _ => by simp [keyOk] at k1
  | n, .list _, _, _, _, _, k1, _, _, _ => by simp [keyOk] at k1
  | n, .dict _, _, _, _, _, k1, _, _, _ => by simp [keyOk] at k1
theorem readsAll_inj : ∀ (n : Nat) (ds es : List PyData) {us : List Value} {as bs : List Addr}, keyOkAll n ds = true → keyOkAll n es = true → ReadsAll h us ds as → ReadsAll h us es bs → ds = es
  | n, [], es, _, _, _, _, _, .nil, r2 => by cases r2; rfl
  | n, d :: ds, es, _, _, _, k1, k2, .cons g1 g2, r2 => by
    cases r2 with
    | cons f1 f2 =>
      simp only [keyOkAll, Bool.and_eq_true] at k1 k2
      rw [reads_inj n d _ k1.1 k2.1 g1 f1, readsAll_inj n ds _ k1.2 k2.2 g2 f2]
end
mutual
theorem reads_keep {h' : Heap} {q : Addr} {o : Obj} {es : Array DictEntry} {ep : Nat} (ho : h.get? q = some o) (hd : o.data = .dict es ep) (hs : Heap.SameBut q h h') : ∀ (n : Nat) (d : PyData) {u : Value} {as : List Addr}, keyOk n d = true → Reads h u d as → Reads h' u d as
  | n, .int i, _, _, k1, .int _ t => .int _ t
  | n, .str x, _, _, k1, .str _ t => .str _ t
  | 0, .tuple ds, _, _, k1, _ => by simp [keyOk] at k1
  | n + 1, .tuple ds, _, _, k1, .tuple (a := a) g1 g2 g3 g4 => by
    have ne : a ≠ q := by
      rintro rfl
      rw [ho] at g1
      cases g1
      rw [hd] at g3
      cases g3
    exact .tuple ((hs.2 a ne).trans g1) g2 g3 (readsAll_keep ho hd hs n ds (by simpa [keyOk] using k1) g4)
  | n, .none, _, _, k1, _ => by simp [keyOk] at k1
  | n, .bool _, _, _, k1, _ => by simp [keyOk] at k1
  | n, .list _, _, _, k1, _ => by simp [keyOk] at k1
  | n, .dict _, _, _, k1, _ => by simp [keyOk] at k1
theorem readsAll_keep {h' : Heap} {q : Addr} {o : Obj} {es : Array DictEntry} {ep : Nat} (ho : h.get? q = some o) (hd : o.data = .dict es ep) (hs : Heap.SameBut q h h') : ∀ (n : Nat) (ds : List PyData) {us : List Value} {as : List Addr}, keyOkAll n ds = true → ReadsAll h us ds as → ReadsAll h' us ds as
  | n, [], _, _, _, .nil => .nil
  | n, d :: ds, _, _, k1, .cons g1 g2 => by
    simp only [keyOkAll, Bool.and_eq_true] at k1
    exact .cons (reads_keep ho hd hs n d k1.1 g1) (readsAll_keep ho hd hs n ds k1.2 g2)
end
/-- the hash of what is read -/
theorem hash_reads {E : Value → Shared → Prop} : ∀ (n : Nat) (d : PyData) (A : Around) (s : Shared) (u : Value) (as : List Addr) (Q : Int → Shared → Prop), keyOk n d = true → A.units + n < cLine → Reads s.heap u d as → Q (hsh w d) { s with toks := s.toks + drw d } →
    wpAny (model prog w) A (pyHash u) Q E s
  | n, .int i, A, s, _, _, Q, k1, hu, .int _ t, q => wpAny_pyHash_int q
  | n, .str x, A, s, _, _, Q, k1, hu, .str _ t, q => wpAny_pyHash_str q
  | 0, .tuple ds, _, _, _, _, _, k1, _, _, _ => by simp [keyOk] at k1
  | n + 1, .tuple ds, A, s, _, _, Q, k1, hu, .tuple (a := a) (o := o) (vs := vs) (n := m) (xs := _) g1 g2 g3 g4, q => by
    have kk : keyOkAll n ds = true := by simpa [keyOk] using k1
    have hT : s.TypeIs (.ref a) "tuple" := ⟨o, g1, g2⟩
    show wpAny _ _ (pyHashByItsType (.ref a)) Q E s
    unfold pyHashByItsType
    refine wpAny_bind (wpAny_cRoomFor_or (.inr (by omega)) (wpAny_bind (wpAny_specialOf hT F.slot_tuple_hash.lookup ?_)))
    show wpAny _ _ (if (some (Value.builtin "tuple.__hash__") == some Value.none) = true then _ else _) Q E s
    rw [if_neg (by rw [beq_builtin_none]; exact Bool.false_ne_true)]
    refine wpAny_bind (wpAny_specialOf hT F.slot_tuple_hash.lookup ?_)
    show wpAny _ _ (callSpecialIfBoundUnlessNone? (.ref a) "__hash__" _ >>= _) Q E s
    refine wpAny_bind (wpAny_callSpecialIfBoundUnlessNone?_slot hT F.slot_tuple_hash (wpAny_call_entry F.slot_tuple_hash hT F.entry_tuple_hash ?_ (F.args_tuple_hash_1 _)))
    show wpAny _ _ (Builtin.Tuple.tupleItemsOf (.ref a) >>= _) _ _ s
    refine wpAny_bind (wpAny_tupleItemsOf g1 g3 (wpAny_bind ?_))
    rw [← Array.forIn_toList]
    refine wpAny_forIn_list _ (fun rest (b : Array Int) s' => ∃ ds1 ds2 bs, ds = ds1 ++ ds2 ∧ keyOkAll n ds2 = true ∧ ReadsAll s.heap rest ds2 bs ∧ b.toList = hshAll w ds1 ∧ s' = { s with toks := s.toks + drwAll ds1 }) _ ?_ ?_ _ _ ⟨[], ds, _, rfl, kk, g4, rfl, rfl⟩
    · rintro x rest b s' ⟨ds1, ds2, bs, e1, k2, r, e3, rfl⟩
      cases r with
      | @cons _ _ d ds3 as1 bs1 r1 r2 =>
        simp only [keyOkAll, Bool.and_eq_true] at k2
        have hA : ({ A.in1 with } : Around).units = A.units + 1 := rfl
        refine wpAny_bind (hash_reads n d _ _ x as1 _ k2.1 (by show A.units + 1 + n < cLine; omega) r1 ?_)
        have fin : ∃ ds1' ds2' bs', ds = ds1' ++ ds2' ∧ keyOkAll n ds2' = true ∧ ReadsAll s.heap rest ds2' bs' ∧ (b.push (hsh w d)).toList = hshAll w ds1' ∧ ({ s with toks := s.toks + drwAll ds1 + drw d } : Shared) = { s with toks := s.toks + drwAll ds1' } := by
          refine ⟨ds1 ++ [d], ds3, bs1, by rw [e1]; simp, k2.2, r2, ?_, ?_⟩
          · have : ∀ l : List PyData, hshAll w (l ++ [d]) = hshAll w l ++ [hsh w d] := by
              intro l
              induction l with
              | nil => rfl
              | cons a l ih => show hsh w a :: hshAll w (l ++ [d]) = _; rw [ih]; rfl
            rw [this, Array.toList_push, e3]
          · have : ∀ l : List PyData, drwAll (l ++ [d]) = drwAll l + drw d := by
              intro l
              induction l with
              | nil => show drw d + 0 = 0 + drw d; omega
              | cons a l ih => show drw a + drwAll (l ++ [d]) = drw a + drwAll l + drw d; rw [ih]; omega
            rw [this, Nat.add_assoc]
        first
          | exact wpAny_pure fin
          | exact wpAny_bind (wpAny_pure (wpAny_pure fin))
    · rintro b s' ⟨ds1, ds2, bs, e1, k2, r, e3, rfl⟩
      cases r
      rw [List.append_nil] at e1
      subst e1
      show wpAny _ _ (retInt (Builtin.Tuple.tupleHashOf b.toList)) _ _ _
      rw [e3]
      refine wpAny_ret_mkInt ?_
      have q' : Q (reduceHash (Builtin.Tuple.tupleHashOf (hshAll w ds))) { s with toks := s.toks + drwAll ds + 1 } := by
        have : hsh w (.tuple ds) = reduceHash (Builtin.Tuple.tupleHashOf (hshAll w ds)) := rfl
        rw [← this, Nat.add_assoc]
        exact q
      unfold reduceHash at q'
      generalize Builtin.Tuple.tupleHashOf (hshAll w ds) = z at q' ⊢
      show wpAny _ _ (if (decide (-(2 : Int) ^ 63 ≤ z) && decide (z < 2 ^ 63)) = true then _ else _) Q E _
      cases hr : (decide (-(2 : Int) ^ 63 ≤ z) && decide (z < 2 ^ 63)) with
      | true =>
        rw [hr, if_pos rfl] at q'
        rw [if_pos rfl]
        exact wpAny_pure q'
      | false =>
        rw [hr, if_neg (by decide)] at q'
        rw [if_neg (by decide)]
        exact wpAny_bind (wpAny_rule (wpAny_pure q'))
  | n, .none, _, _, _, _, _, k1, _, _, _ => by simp [keyOk] at k1
  | n, .bool _, _, _, _, _, _, k1, _, _, _ => by simp [keyOk] at k1
  | n, .list _, _, _, _, _, _, k1, _, _, _ => by simp [keyOk] at k1
  | n, .dict _, _, _, _, _, _, k1, _, _, _ => by simp [keyOk] at k1
/-- asking whether such a key's == is quiet -/
theorem quiet_reads {E : Value → Shared → Prop} : ∀ (n m : Nat) (d : PyData) (A : Around) (s : Shared) (u : Value) (as : List Addr) (Q : Bool → Shared → Prop), keyOk n d = true → n ≤ m → Reads s.heap u d as → Q true s → wpAny (model prog w) A (eqIsQuiet m u) Q E s
  | n, m, .int i, A, s, _, _, Q, k1, hm, .int _ t, q => by rw [eqIsQuiet_byValue _ rfl]; exact wpAny_pure q
  | n, m, .str x, A, s, _, _, Q, k1, hm, .str _ t, q => by rw [eqIsQuiet_byValue _ rfl]; exact wpAny_pure q
  | 0, _, .tuple ds, _, _, _, _, _, k1, _, _, _ => by simp [keyOk] at k1
  | n + 1, 0, .tuple ds, _, _, _, _, _, _, hm, _, _ => absurd hm (by omega)
  | n + 1, m + 1, .tuple ds, A, s, _, _, Q, k1, hm, .tuple (a := a) (o := o) (vs := vs) g1 g2 g3 g4, q => by
    have kk : keyOkAll n ds = true := by simpa [keyOk] using k1
    have hT : s.TypeIs (.ref a) "tuple" := ⟨o, g1, g2⟩
    unfold eqIsQuiet
    refine wpAny_bind (wpAny_specialOf hT F.slot_tuple_eq.lookup ?_)
    show wpAny _ _ (isInstance (.ref a) (.type "tuple") >>= _) _ _ s
    refine wpAny_bind (wpAny_isInstance hT isSubtype_tuple_tuple ?_)
    simp only [Bool.not_true, Bool.false_eq_true, if_false]
    refine wpAny_bind (wpAny_seqItems g1 g3 (wpAny_bind ?_))
    show wpAny _ _ (forIn vs _ _) _ _ s
    rw [← Array.forIn_toList]
    refine wpAny_forIn_list _ (fun rest r s' => r.1 = none ∧ s' = s ∧ ∃ ds2 bs, keyOkAll n ds2 = true ∧ ReadsAll s.heap rest ds2 bs) _ ?_ ?_ _ _ ⟨rfl, rfl, ds, _, kk, g4⟩
    · rintro v rest r s' ⟨hr, rfl, ds2, bs, k2, rr⟩
      cases rr with
      | cons r1 r2 =>
        simp only [keyOkAll, Bool.and_eq_true] at k2
        refine wpAny_bind (quiet_reads n m _ _ _ v _ _ k2.1 (by omega) r1 ?_)
        simp only [Bool.not_true, Bool.false_eq_true, if_false]
        exact wpAny_pure ⟨rfl, rfl, _, _, k2.2, r2⟩
    · rintro ⟨r1, r2⟩ s' ⟨hr, rfl, _⟩
      simp only at hr
      subst hr
      exact wpAny_pure q
  | n, _, .none, _, _, _, _, _, k1, _, _, _ => by simp [keyOk] at k1
  | n, _, .bool _, _, _, _, _, _, k1, _, _, _ => by simp [keyOk] at k1
  | n, _, .list _, _, _, _, _, _, k1, _, _, _ => by simp [keyOk] at k1
  | n, _, .dict _, _, _, _, _, _, k1, _, _, _ => by simp [keyOk] at k1
end
end Dn
set_option Elab.async false
set_option linter.all false
set_option maxRecDepth 100000
set_option maxHeartbeats 4000000
namespace Dn
open PySem PySem.Spec L2 PyProof.Rows
mutual
theorem keyOk_lay : ∀ (n : Nat) (d : PyData), keyOk n d = true → d.canLay0 = true ∧ d.depth ≤ n
  | _, .int _, _ => ⟨rfl, Nat.zero_le _⟩
  | _, .str x, h => ⟨h, Nat.zero_le _⟩
  | 0, .tuple ds, h => by simp [keyOk] at h
  | n + 1, .tuple ds, h => by
    obtain ⟨h1, h2⟩ := keyOkAll_lay n ds (by simpa [keyOk] using h)
    exact ⟨h1, Nat.succ_le_succ h2⟩
  | _, .none, h => by simp [keyOk] at h
  | _, .bool _, h => by simp [keyOk] at h
  | _, .list _, h => by simp [keyOk] at h
  | _, .dict _, h => by simp [keyOk] at h
theorem keyOkAll_lay : ∀ (n : Nat) (ds : List PyData), keyOkAll n ds = true → PyData.canLayAll0 ds = true ∧ PyData.depthAll ds ≤ n
  | _, [], _ => ⟨rfl, Nat.zero_le _⟩
  | n, d :: ds, h => by
    simp only [keyOkAll, Bool.and_eq_true] at h
    obtain ⟨h1, h2⟩ := keyOk_lay n d h.1
    obtain ⟨h3, h4⟩ := keyOkAll_lay n ds h.2
    refine ⟨?_, ?_⟩
    · show (d.canLay0 && PyData.canLayAll0 ds) = true
      rw [h1, h3]; rfl
    · show max d.depth (PyData.depthAll ds) ≤ n
      omega
end
theorem cp_key (k : Copy) : keyOk 2 (cpD k) = true := by cases k <;> rfl
theorem lt_key (l : Late) : keyOk 2 (ltD l) = true := by
  cases l with
  | none => rfl
  | some l =>
    obtain ⟨n, k, m⟩ := l
    cases k <;> rfl
theorem sta_key (s : Sta) : keyOk 3 s.d = true := by
  obtain ⟨v, st, k, kn, ow, dn, lt⟩ := s
  have h1 := cp_key k
  have h2 := lt_key lt
  have h3 : keyOk 2 (.str v.s) = true := by cases v <;> decide +kernel
  show (keyOk 2 (.str v.s) && (keyOk 2 (iN st) && (keyOk 2 (cpD k) && (keyOk 2 (bD kn) && (keyOk 2 (bD ow) && (keyOk 2 (.int dn.i) && (keyOk 2 (ltD lt) && true))))))) = true
  rw [h1, h2, h3]
  rfl
/-! ### states are told apart by their data -/
theorem bI_inj {a b : Bool} (h : bI a = bI b) : a = b := by cases a <;> cases b <;> first | rfl | exact absurd h (by decide)
theorem eqv_cp (a b : Copy) : PyData.eqv (cpD a) (cpD b) = decide (a = b) := by
  cases a with
  | none =>
    cases b with
    | none => rfl
    | some b => rfl
  | some a =>
    cases b with
    | none => rfl
    | some b =>
      obtain ⟨a1, a2, a3, a4⟩ := a
      obtain ⟨b1, b2, b3, b4⟩ := b
      show (decide (bI a1 = bI b1) && (decide (bI a2 = bI b2) && (decide (bI a3 = bI b3) && (decide (bI a4 = bI b4) && true)))) = _
      have e : ∀ x y : Bool, decide (bI x = bI y) = decide (x = y) := fun x y => decide_eq_decide.mpr ⟨bI_inj, fun h => by rw [h]⟩
      rw [e, e, e, e]
      cases a1 <;> cases a2 <;> cases a3 <;> cases a4 <;> cases b1 <;> cases b2 <;> cases b3 <;> cases b4 <;> rfl
theorem eqv_lt (a b : Late) : PyData.eqv (ltD a) (ltD b) = decide (a = b) := by
  cases a with
  | none =>
    cases b with
    | none => rfl
    | some b => rfl
  | some a =>
    cases b with
    | none => rfl
    | some b =>
      obtain ⟨a1, a2, a3⟩ := a
      obtain ⟨b1, b2, b3⟩ := b
      show (decide ((a1 : Int) = (b1 : Int)) && (PyData.eqv (cpD a2) (cpD b2) && (decide (bI a3 = bI b3) && true))) = _
      rw [eqv_cp]
      by_cases h1 : a1 = b1
      · by_cases h2 : a2 = b2
        · by_cases h3 : a3 = b3
          · simp [h1, h2, h3]
          · have : ¬ bI a3 = bI b3 := fun q => h3 (bI_inj q)
            simp [h1, h2, h3, this]
        · simp [h2]
      · have : ¬ (a1 : Int) = (b1 : Int) := by omega
        simp [h1, this]
theorem dn_inj {a b : Dn3} (h : a.i = b.i) : a = b := by cases a <;> cases b <;> first | rfl | exact absurd h (by decide)
theorem srv_inj {a b : Srv} (h : a.s = b.s) : a = b := by cases a <;> cases b <;> first | rfl | exact absurd h (by decide +kernel)
theorem eqv_sta (a b : Sta) : PyData.eqv a.d b.d = decide (a = b) := by
  obtain ⟨v, st, k, kn, ow, dn, lt⟩ := a
  obtain ⟨v2, st2, k2, kn2, ow2, dn2, lt2⟩ := b
  show ((v.s == v2.s) && (decide ((st : Int) = (st2 : Int)) && (PyData.eqv (cpD k) (cpD k2) && (decide (bI kn = bI kn2) && (decide (bI ow = bI ow2) && (decide (dn.i = dn2.i) && (PyData.eqv (ltD lt) (ltD lt2) && true))))))) = _
  rw [eqv_cp, eqv_lt]
  have e1 : (v.s == v2.s) = decide (v = v2) := by rw [Bool.eq_iff_iff]; simp only [beq_iff_eq, decide_eq_true_eq]; exact ⟨srv_inj, fun h => by rw [h]⟩
  have e2 : decide ((st : Int) = (st2 : Int)) = decide (st = st2) := decide_eq_decide.mpr Int.ofNat_inj
  have e3 : ∀ x y : Bool, decide (bI x = bI y) = decide (x = y) := fun x y => decide_eq_decide.mpr ⟨bI_inj, fun h => by rw [h]⟩
  have e4 : decide (dn.i = dn2.i) = decide (dn = dn2) := decide_eq_decide.mpr ⟨dn_inj, fun h => by rw [h]⟩
  rw [e1, e2, e3, e3, e4, Bool.eq_iff_iff]
  simp only [Bool.and_eq_true, decide_eq_true_eq, Sta.mk.injEq, and_true]
theorem sta_inj {a b : Sta} (h : a.d = b.d) : a = b := by
  have e := eqv_sta a b
  rw [h] at e
  have e2 := eqv_sta b b
  rw [decide_eq_true rfl] at e2
  rw [e2] at e
  exact of_decide_eq_true e.symm
/-! ### the kind of keys -/
def stKind (prog : Program) (w : World) : HeapKind prog w Sta where
  is := fun h s a => ∃ as, Reads h (.ref a) s.d as
  hash := fun s => hsh w s.d
  draws := fun s => drw s.d
  room := fun A => A.units + 8 < cLine
  inj := fun ⟨_, r1⟩ ⟨_, r2⟩ => sta_inj (reads_inj 3 _ _ (sta_key _) (sta_key _) r1 r2)
  keeps := fun ⟨as, r⟩ ho hd hs => ⟨as, reads_keep ho hd hs 3 _ (sta_key _) r⟩
  pyHash := fun hu ⟨as, r⟩ q => hash_reads 3 _ _ _ _ as _ (sta_key _) (by have : _ + 8 < cLine := hu; omega) r q
  eqBool := fun {A E s x y a b Q} hu ⟨as, r1⟩ ⟨bs, r2⟩ q => by
    have k1 := keyOk_lay 3 x.d (sta_key x)
    have k2 := keyOk_lay 3 y.d (sta_key y)
    exact SeqAt.eqBoolOverData prog w A E s (.ref a) (.ref b) x.d y.d as bs Q r1 r2 k1.1 k2.1 (by have : A.units + 8 < cLine := hu; have := k1.2; omega) (by rw [eqv_sta]; exact q)
  quiet := fun ⟨as, r⟩ q => quiet_reads 3 8 _ _ _ _ as _ (sta_key _) (by decide) r q
end Dn
set_option Elab.async false
set_option linter.all false
set_option maxRecDepth 100000
set_option maxHeartbeats 4000000
namespace Dn
open PySem PySem.Spec L2 PyProof.Rows
/-! ### dicts whose keys are states -/
/-- an entry: the key, the address of its tuple, the value -/
abbrev Fe := Sta × Addr × V
def vOf : V → Value
  | .bl b => .bool b
  | .ref a => .ref a
  | _ => .none
def okV : V → Bool
  | .non => true | .bl _ => true | .ref _ => true | _ => false
theorem relV_vOf {v : V} (h : okV v = true) : RelV v (vOf v) := by cases v <;> first | rfl | cases h
theorem vOf_rel {v : V} {u : Value} (h : okV v = true) (r : RelV v u) : u = vOf v := by cases v <;> first | exact r | cases h
def feL (kvs : List Fe) : List (Sta × Addr × Value) := kvs.map fun x => (x.1, x.2.1, vOf x.2.2)
def fdO (P : Program) (w : World) (a : Addr) (kvs : List Fe) : HO := .ext fun h => (a == sysModules) = false ∧ kvs.length ≤ sizeLine ∧ ∃ o es ep, h.get? a = some o ∧ o.ExactDict ∧ o.data = .dict es ep ∧ es.toList = (feL kvs).map (entryOfKey (stKind P w))
def getF (kvs : List Fe) (k : Sta) : Option V := (kvs.find? fun x => decide (x.1 = k)).map (·.2.2)
/-- what is known of the keys -/
structure FdK (K : PySem.W.Frag) (H : Hp) (kvs : List Fe) : Prop where
  keys : ∀ x ∈ kvs, Dp K H (.ref x.2.1) x.1.d
  nd : (kvs.map (·.1)).Nodup
  ok : ∀ x ∈ kvs, okV x.2.2 = true
/-- lists, tuples, locked things -/
def isLT : HO → Bool
  | .lst _ => true | .tup _ => true | .frz _ _ => true | _ => false
def SameLT (H H' : Hp) : Prop := ∀ a o, H a = some o → isLT o = true → H' a = some o
section
variable {K : PySem.W.Frag} {H H' H1 : Hp} {P : Program} {w : World} {a : Addr} {kvs : List Fe}
theorem Same.lt (h : Same H H') : SameLT H H' := fun a o e _ => h a o e
theorem SameLT.trans (h : SameLT H H') (h' : SameLT H' H1) : SameLT H H1 := fun a o e n => h' a o (h a o e n) n
theorem sameLT_upd {D : Addr} {u o : HO} (h : H D = some u) (hu : isLT u = false) : SameLT H (upd H D o) := fun b v e n => by
  have : b ≠ D := by
    rintro rfl
    rw [h] at e
    cases e
    rw [hu] at n
    cases n
  rw [upd_ne this]
  exact e
theorem sqT_LT {b : Addr} {xs : List V} (e : SameLT H H') (h : SqT K H b xs) : SqT K H' b xs := by
  rcases h with (h | ⟨o, h⟩) | h
  · exact .inl (.inl (e _ _ h rfl))
  · exact .inl (.inr ⟨o, e _ _ h rfl⟩)
  · exact .inr h
theorem sqL_LT {b : Addr} {xs : List V} (e : SameLT H H') (h : SqL K H b xs) : SqL K H' b xs := by
  rcases h with (h | ⟨o, h⟩) | h
  · exact .inl (.inl (e _ _ h rfl))
  · exact .inl (.inr ⟨o, e _ _ h rfl⟩)
  · exact .inr h
mutual
theorem dp_LT (e : SameLT H H') : ∀ (d : PyData) (v : V), Dp K H v d → Dp K H' v d
  | .none, _, h => by cases h; exact .non
  | .bool b, _, h => by cases h; exact .bl b
  | .int i, _, h => by cases h; exact .int i
  | .str x, _, h => by cases h; exact .str x
  | .list ds, _, h => by
    cases h with
    | lst hs ha => exact .lst (sqL_LT e hs) (dpAll_LT e ds _ ha)
  | .tuple ds, _, h => by
    cases h with
    | tup hs ha => exact .tup (sqT_LT e hs) (dpAll_LT e ds _ ha)
  | .dict _, _, h => by cases h
theorem dpAll_LT (e : SameLT H H') : ∀ (ds : List PyData) (vs : List V), DpAll K H vs ds → DpAll K H' vs ds
  | [], _, h => by cases h; exact .nil
  | d :: ds, _, h => by
    cases h with
    | cons h1 h2 => exact .cons (dp_LT e d _ h1) (dpAll_LT e ds _ h2)
end
theorem FdK.mono (e : SameLT H H') (k : FdK K H kvs) : FdK K H' kvs := ⟨fun x hx => dp_LT e _ _ (k.keys x hx), k.nd, k.ok⟩
/-- .. lists may change too: the keys hold none -/
theorem sta_noL (s : Sta) : noL s.d = true := by
  obtain ⟨v, st, k, kn, ow, dn, lt⟩ := s
  have h1 : noL (cpD k) = true := by cases k <;> rfl
  have h2 : noL (ltD lt) = true := by
    cases lt with
    | none => rfl
    | some l =>
      obtain ⟨n, k, m⟩ := l
      cases k <;> rfl
  show (true && (true && (noL (cpD k) && (true && (true && (true && (noL (ltD lt) && true))))))) = true
  rw [h1, h2]
  rfl
theorem FdK.monoT (e : SameT H H') (k : FdK K H kvs) : FdK K H' kvs := ⟨fun x hx => dp_sameT e _ _ (sta_noL _) (k.keys x hx), k.nd, k.ok⟩
theorem sta_ref {v : V} {s : Sta} (h : Dp K H v s.d) : ∃ b, v = .ref b := by
  cases h
  exact ⟨_, rfl⟩
theorem getF_atKey (kvs : List Fe) (k : Sta) : (atKey (feL kvs) k).map (·.2) = (getF kvs k).map vOf := by
  unfold atKey getF feL
  induction kvs with
  | nil => rfl
  | cons x r ih =>
    rw [List.map_cons, List.find?_cons, List.find?_cons]
    by_cases h : x.1 = k
    · simp [h]
    · simp only [h, decide_false]
      exact ih
theorem getF_some_at {kvs : List Fe} {k : Sta} {v : V} (h : getF kvs k = some v) : ∃ p, atKey (feL kvs) k = some p ∧ p.2 = vOf v := by
  have e := getF_atKey kvs k
  rw [h] at e
  cases q : atKey (feL kvs) k with
  | none => rw [q] at e; cases e
  | some p => rw [q] at e; exact ⟨p, rfl, Option.some.inj e⟩
theorem getF_isSome (kvs : List Fe) (k : Sta) : (atKey (feL kvs) k).isSome = (getF kvs k).isSome := by
  have e := congrArg Option.isSome (getF_atKey kvs k)
  simpa using e
theorem getF_none_at {kvs : List Fe} {k : Sta} (h : getF kvs k = none) : atKey (feL kvs) k = none := by
  have e := getF_isSome kvs k
  rw [h] at e
  cases q : atKey (feL kvs) k with
  | none => rfl
  | some p => rw [q] at e; cases e
theorem getF_mem {kvs : List Fe} {k : Sta} {v : V} (h : getF kvs k = some v) : ∃ b, (k, b, v) ∈ kvs := by
  unfold getF at h
  cases q : kvs.find? (fun x => decide (x.1 = k)) with
  | none => rw [q] at h; cases h
  | some x =>
    rw [q] at h
    have e1 := List.find?_some q
    have e2 := List.mem_of_find?_eq_some q
    obtain ⟨x1, x2, x3⟩ := x
    have e3 : x1 = k := of_decide_eq_true e1
    have e4 : x3 = v := Option.some.inj h
    subst e3 e4
    exact ⟨x2, e2⟩
theorem getF_not {kvs : List Fe} {k : Sta} (h : getF kvs k = none) : k ∉ kvs.map (·.1) := by
  intro hm
  obtain ⟨x, hx, rfl⟩ := List.mem_map.mp hm
  unfold getF at h
  have h2 := List.find?_eq_none.mp (Option.map_eq_none_iff.mp h) x hx
  exact h2 (decide_eq_true rfl)
theorem FdK.add (k : FdK K H kvs) {s : Sta} {b : Addr} {v : V} (hs : Dp K H (.ref b) s.d) (hn : getF kvs s = none) (hv : okV v = true) : FdK K H (kvs ++ [(s, b, v)]) := by
  refine ⟨fun x hx => ?_, ?_, fun x hx => ?_⟩
  · rcases List.mem_append.mp hx with h | h
    · exact k.keys x h
    · rw [List.mem_singleton.mp h]; exact hs
  · rw [List.map_append]
    refine List.nodup_append.mpr ⟨k.nd, by simp, fun x hx y hy => ?_⟩
    have e : y = s := by simpa using hy
    rw [e]
    rintro rfl
    exact getF_not hn hx
  · rcases List.mem_append.mp hx with h | h
    · exact k.ok x h
    · rw [List.mem_singleton.mp h]; exact hv
end
section
variable {X : Cx} {pins : List (Addr × Obj)} {σ : L2.St} {H : Hp} {s : Shared} {a : Addr} {kvs : List Fe} {A : Around} {E : Value → Shared → Prop}
theorem fd_size (I : Inv X pins σ H s) (h : Rd H a (fdO X.prog X.w a kvs)) : (a == sysModules) = false ∧ kvs.length ≤ sizeLine := by
  obtain ⟨⟨h1, h2, _⟩, _⟩ := h.ok I.hok
  exact ⟨h1, h2⟩
theorem fd_dict (I : Inv X pins σ H s) (h : Rd H a (fdO X.prog X.w a kvs)) (k : FdK X.K H kvs) : s.heap.DictOfH (stKind X.prog X.w) a (feL kvs) := by
  obtain ⟨⟨_, _, o, es, ep, h1, h2, h3, h4⟩, _⟩ := h.ok I.hok
  refine ⟨o, es, ep, h1, h2, h3, h4, fun x hx => ?_, ?_⟩
  · obtain ⟨y, hy, rfl⟩ := List.mem_map.mp hx
    exact Dp.reads I _ _ _ (k.keys y hy) rfl
  · have e : (feL kvs).map (·.1) = kvs.map (·.1) := by unfold feL; rw [List.map_map]; rfl
    rw [e]
    exact k.nd
theorem key_is (I : Inv X pins σ H s) {b : Addr} {k : Sta} (h : Dp X.K H (.ref b) k.d) : (stKind X.prog X.w).is s.heap k b := Dp.reads I _ _ _ h rfl
theorem fd_mk {P : Program} {w : World} {h : Heap} {H' : Hp} {xs : List (Sta × Addr × Value)} (hs : (a == sysModules) = false) (hz : kvs.length ≤ sizeLine) (hx : xs = feL kvs) (dd : h.DictOfH (stKind P w) a xs) : ObjOk P w H' h a (fdO P w a kvs) := by
  obtain ⟨o, es, ep, h1, h2, h3, h4, _, _⟩ := dd
  subst hx
  exact ⟨⟨hs, hz, o, es, ep, h1, h2, h3, h4⟩, ⟨o, h1⟩, fun g1 g2 ⟨k1, k2, o', es', ep', k3, k4⟩ st => ⟨k1, k2, o', es', ep', st _ k3, k4⟩⟩
/-- d[k] -/
theorem ix_fd (hu : X.A.units + 16 < cLine) : IxR X (fun x y H Q => ∃ ad kvs k v, x = .ref ad ∧ Rd H ad (fdO X.prog X.w ad kvs) ∧ FdK X.K H kvs ∧ Dp X.K H y k.d ∧ getF kvs k = some v ∧ Q v H) := by
  intro value slice pins s σ H x y v u Q I rx ry h hs
  obtain ⟨ad, kvs, k, r, rfl, hr, hk, hy, hg, q⟩ := h
  obtain ⟨b, rfl⟩ := sta_ref hy
  obtain rfl : v = Value.ref ad := rx
  obtain rfl : u = Value.ref b := ry
  have dd := fd_dict I hr hk
  obtain ⟨p, hp, hp2⟩ := getF_some_at hg
  have hok : okV r = true := by
    obtain ⟨c, hc⟩ := getF_mem hg
    exact hk.ok _ hc
  refine tail_any dd.typeIs slot_dict_getitem.lookup (wpAny_getItem_heap (knd := stKind X.prog X.w) (show X.A.units + 1 + 8 < cLine by omega) (key_is I hy) dd hp ?_) hs
  rw [hp2]
  exact ⟨r, H, I.tok _, relV_vOf hok, q⟩
/-- k not in d -/
theorem op_notin_fd (hu : X.A.units + 16 < cLine) : OpR X (compareOp .NotIn) (fun x y H Q => ∃ ad kvs k, y = .ref ad ∧ Rd H ad (fdO X.prog X.w ad kvs) ∧ FdK X.K H kvs ∧ Dp X.K H x k.d ∧ Q (.bl (!(getF kvs k).isSome)) H) := by
  intro pins s σ H x y v u Q I rx ry h
  obtain ⟨ad, kvs, k, rfl, hr, hk, hy, q⟩ := h
  obtain ⟨b, rfl⟩ := sta_ref hy
  obtain rfl : v = Value.ref b := rx
  obtain rfl : u = Value.ref ad := ry
  refine wpAny_notIn_heap (knd := stKind X.prog X.w) (show X.A.units + 1 + 8 < cLine by omega) (key_is I hy) (fd_size I hr).1 (fd_dict I hr hk) ?_
  rw [getF_isSome]
  exact ⟨.bl _, H, I.tok _, rfl, q⟩
/-- d[k] = v, k new -/
theorem set_fd (hu : X.A.units + 16 < cLine) : PSet X (fun o i v H Q => ∃ ad kvs k, o = .ref ad ∧ H ad = some (fdO X.prog X.w ad kvs) ∧ FdK X.K H kvs ∧ Dp X.K H i k.d ∧ getF kvs k = none ∧ okV v = true ∧ kvs.length < sizeLine ∧ ∀ b, i = .ref b → Q (upd H ad (fdO X.prog X.w ad (kvs ++ [(k, b, v)])))) := by
  intro pins s σ H o i v ov iv u Q I ro ri rv h
  obtain ⟨ad, kvs, k, rfl, hr, hk, hy, hg, hv, hz, q⟩ := h
  obtain ⟨b, rfl⟩ := sta_ref hy
  obtain rfl : ov = Value.ref ad := ro
  obtain rfl : iv = Value.ref b := ri
  obtain rfl := vOf_rel hv rv
  have hl : (feL kvs).length = kvs.length := by unfold feL; simp
  refine wpAny_setItem_heap (knd := stKind X.prog X.w) (hsz := by rw [hl]; omega) (show X.A.units + 1 + 8 < cLine by omega) (key_is I hy) (fd_dict I (.inl hr) hk) fun h' dd' hs => ?_
  have e : storedH (feL kvs) k b (vOf v) = feL (kvs ++ [(k, b, v)]) := by
    rw [storedH_new (getF_none_at hg)]
    unfold feL
    rw [List.map_append]
    rfl
  obtain ⟨o', _, _, ho', _⟩ := id dd'
  exact ⟨_, d_write I (by rw [hr]; exact True.intro) hs ⟨o', ho'⟩ (fd_mk (fd_size I (.inl hr)).1 (by rw [List.length_append]; exact hz) e dd'), q b rfl⟩
/-- len(d) -/
theorem call_len_fd : CallR X (.builtin "len") (fun xs H Q => ∃ ad kvs, xs = [.ref ad] ∧ Rd H ad (fdO X.prog X.w ad kvs) ∧ FdK X.K H kvs ∧ Q (.int ((kvs.length : Nat) : Int)) H) := by
  intro pins s σ H xs us Q I r h
  obtain ⟨ad, kvs, rfl, hr, hk, q⟩ := h
  obtain ⟨u, rfl, rx⟩ := vals1 r
  obtain rfl : u = .ref ad := rx
  have hz := (fd_size I hr).2
  have hl : (feL kvs).length = kvs.length := by unfold feL; simp
  refine call_len_dictH (fd_size I hr).1 (fd_dict I hr hk) (by rw [hl]; rw [sizeLine_eq] at hz; omega) ?_
  rw [hl]
  exact ⟨.int _, H, I.tok _, ⟨_, rfl⟩, q⟩
/-- {} -/
theorem fd_empty {P : Program} {w : World} {H' : Hp} (h : Heap) (hb : sysModules < h.objs.size) : ObjOk P w H' (h.push { cls := .type "dict", data := .dict #[] }) h.objs.size (fdO P w h.objs.size []) :=
  fd_mk (beq_eq_false_iff_ne.mpr (Ne.symm (Nat.ne_of_lt hb))) (Nat.zero_le _) rfl (Heap.DictOfH.new h)
theorem pe_dnewF {pos : Pos} : PE X (.Dict [] [] pos) (fun _ H Q => ∀ p, H p = none → Q (.ref p) (upd H p (fdO X.prog X.w p []))) := by
  refine ⟨fun pins s σ H Q I h => ?_⟩
  have hn := I.hok.fresh (Nat.le_refl s.heap.objs.size)
  exact wpAny_Dict_empty ⟨.ref s.heap.objs.size, _, I.laid (t' := s.toks) (fun _ _ q => Heap.get?_push_of_some _ q) (Nat.le_refl _) (fd_empty s.heap I.big), rfl, h _ hn⟩
end
end Dn
set_option Elab.async false
set_option linter.all false
set_option maxRecDepth 100000
set_option maxHeartbeats 4000000
namespace Dn
open PySem PySem.Spec L2 PyProof.Rows
/-! ### for state in found (locked) -/
section
variable {X : Cx} {pins : List (Addr × Obj)} {σ : L2.St} {H : Hp} {s : Shared} {d : Addr} {o : Obj} {kvs : List Fe}
theorem fd_frz (I : Inv X pins σ H s) (h : H d = some (.frz o (fdO X.prog X.w d kvs))) : (d == sysModules) = false ∧ s.heap.get? d = some o ∧ o.ExactDict ∧ ∃ (es : Array DictEntry) (ep : Nat), o.data = .dict es ep ∧ es.size = kvs.length ∧
    ∀ (i : Nat) (e : Fe), kvs[i]? = some e → ∃ en : DictEntry, es[i]? = some en ∧ en.key = .ref e.2.1 := by
  obtain ⟨g, ⟨hm, hz, o', es, ep, g', ex, dt, ent⟩, _⟩ := I.hok d _ h
  obtain rfl : o = o' := Option.some.inj (g.symm.trans g')
  refine ⟨hm, g, ex, es, ep, dt, ?_, fun i e he => ⟨_, (entry_at ent i).trans (by unfold feL; rw [List.getElem?_map, he]; rfl), rfl⟩⟩
  rw [size_of_entries ent]
  unfold feL
  simp
def ItF (P : Program) (w : World) (d : Addr) (o : Obj) (kvs : List Fe) : It :=
  ⟨fun i H => i < kvs.length ∧ H d = some (.frz o (fdO P w d kvs)), fun i H x H' => H' = H ∧ ∃ e, kvs[i]? = some e ∧ x = .ref e.2.1, fun i H => kvs.length ≤ i ∧ H d = some (.frz o (fdO P w d kvs))⟩
theorem turn_fd {P : Program} {w : World} {K : PySem.W.Frag} {tg : Expr} {es : Array DictEntry} {ep : Nat} (it : Addr) (hod : o.data = .dict es ep) : Turn P w K tg (ItF P w d o kvs) [it] it (fun i h => h.IsKeyIter it d i kvs.length ep) where
  mem := List.mem_singleton.mpr rfl
  obj := fun i h st b hb => by
    obtain rfl := List.mem_singleton.mp hb
    obtain ⟨oi, g, _, dd⟩ := st
    exact ⟨oi, g, fun v z => by rw [dd] at z; nomatch z⟩
  keep := fun i h h' st k => st.at fun oi g => k it (List.mem_singleton.mpr rfl) oi g
  item := by
    rintro Y rfl rfl rfl hc i pins s σ H E I hf st ⟨hi, hd⟩
    obtain ⟨f0, f1, f2, f3, f4, f5⟩ := hf it (List.mem_singleton.mpr rfl)
    obtain ⟨hm, hg, ex, es', ep', dt, sz, ent⟩ := fd_frz I hd
    obtain ⟨rfl, rfl⟩ := dict_ep hod dt
    obtain ⟨en, he, hk⟩ := ent i _ (List.getElem?_eq_getElem hi)
    refine next_key_item st hg dt sz he fun h' st' sb => ?_
    obtain ⟨oi, g, c, dd⟩ := id st'
    refine ⟨en.key, rfl, go_of (s := { s with heap := h' }) g c dd (by decide) ⟨.ref kvs[i].2.1, H, ?_, hk, ⟨rfl, _, List.getElem?_eq_getElem hi, rfl⟩, st', fun b hb => (hf b hb).1⟩⟩
    exact I.turned (t' := s.toks) (fun b ob hb z => (sb.2 b hb).trans z) f0 f1 f3 f4 f5
  done := by
    rintro Y rfl rfl rfl hc i pins s σ H E I hf st ⟨hi, hd⟩
    obtain ⟨f0, f1, f2, f3, f4, f5⟩ := hf it (List.mem_singleton.mpr rfl)
    obtain ⟨hm, hg, ex, es', ep', dt, sz, ent⟩ := fd_frz I hd
    obtain ⟨rfl, rfl⟩ := dict_ep hod dt
    exact next_key_end (I.ok.hd hc) st hg dt sz hi fun h' eb => ⟨rfl, I.turned (t' := s.toks) (fun b ob hb z => eb b ob hb z) f0 f1 f3 f4 f5⟩
  self := fun A i s Q E st h => wpAny_pyIter_keyiter st h
def iFd (P : Program) (w : World) (td : TE) : TI := fun σ H R => td σ H fun x H1 => ∃ d o kvs, x = .ref d ∧ H1 d = some (.frz o (fdO P w d kvs)) ∧ R (ItF P w d o kvs) H1
theorem pi_fd {tg e : Expr} {td : TE} (he : PE X e td) : PI X tg e (iFd X.prog X.w td) := by
  refine ⟨fun pins s σ H R I h => thn (he.run pins s σ H _ I h) fun u s1 ⟨x, H1, I1, rx, d, o, kvs, ex, hd, q⟩ => ?_⟩
  subst ex
  obtain rfl : u = Value.ref d := rx
  obtain ⟨hm, hg, exd, es, ep, dt, sz, ent⟩ := fd_frz I1 hd
  refine iter_keys hm hg exd dt (pi_one (tk := s1.toks) I1 _ (turn_fd _ dt) ⟨_, Heap.get?_push_size _ rfl, rfl, ?_⟩ q)
  rw [sz] <;> rfl
theorem walk_fd {P : Program} {w : World} : Walk (ItF P w d o kvs) kvs.length (fun H => H d = some (.frz o (fdO P w d kvs))) (fun i H x H' => H' = H ∧ ∃ e, kvs[i]? = some e ∧ x = .ref e.2.1) :=
  ⟨fun i H hi h => ⟨hi, h⟩, fun H h => ⟨Nat.le_refl _, h⟩, fun i H x H' hi h y => y⟩
end
/-! ### {state: None for state in states} -/
def tDcF (P : Program) (w : World) (K : PySem.W.Frag) (wi : TI) (g : TG) (tk tv : TE) (vs : List Nat) : TE := fun σ H Q => wi σ H fun J H1 => ∀ D, H1 D = none → ∃ W : Nat → Nat → Hp → Prop, (∃ m, W 0 m (upd H1 D (fdO P w D []))) ∧ ∀ i m H, W i m H →
  (J.stop i H ∧ Q (.ref D) H) ∨ (J.go i H ∧ ∃ Nx : Hp → Prop, (∀ H', Nx H' → ∃ m', m' < m ∧ W (i + 1) m' H') ∧ ∀ x H', J.yld i H x H' → g x (L2.wipe σ vs) H' fun σ2 H2 => L2.wipe σ2 vs = L2.wipe σ vs ∧
    tk σ2 H2 fun y H4 => tv σ2 H4 fun z H5 => ∃ kvs k b, y = .ref b ∧ H5 D = some (fdO P w D kvs) ∧ FdK K H5 kvs ∧ Dp K H5 y k.d ∧ getF kvs k = none ∧ okV z = true ∧ kvs.length < sizeLine ∧ Nx (upd H5 D (fdO P w D (kvs ++ [(k, b, z)]))))
section
variable {X : Cx}
theorem fd_set {pins : List (Addr × Obj)} {σ : L2.St} {H : Hp} {s : Shared} {E : Value → Shared → Prop} {D b : Addr} {kvs : List Fe} {k : Sta} {v : V} {r : Value} {Q : Unit → Shared → Prop} (hu : X.A.units + 16 < cLine) (I : Inv X pins σ H s) (hD : H D = some (fdO X.prog X.w D kvs)) (hk : FdK X.K H kvs)
    (hy : Dp X.K H (.ref b) k.d) (hg : getF kvs k = none) (hv : okV v = true) (hz : kvs.length < sizeLine) (rv : RelV v r) (h : ∀ s', Inv X pins σ (upd H D (fdO X.prog X.w D (kvs ++ [(k, b, v)]))) s' → Q () s') : wpAny (model X.prog X.w) X.A (dictSet D (.ref b) r) Q E s := by
  obtain rfl := vOf_rel hv rv
  have hl : (feL kvs).length = kvs.length := by unfold feL; simp
  refine wpAny_dictSet_heap (knd := stKind X.prog X.w) (hsz := by rw [hl]; omega) (show X.A.units + 8 < cLine by omega) (key_is I hy) (fd_dict I (.inl hD) hk) fun h' dd' hs => h _ ?_
  have e : storedH (feL kvs) k b (vOf v) = feL (kvs ++ [(k, b, v)]) := by
    rw [storedH_new (getF_none_at hg)]
    unfold feL
    rw [List.map_append]
    rfl
  obtain ⟨o', _, _, ho', _⟩ := id dd'
  exact d_write I (by rw [hD]; exact True.intro) hs ⟨o', ho'⟩ (fd_mk (fd_size I (.inl hD)).1 (by rw [List.length_append]; exact hz) e dd')
theorem dcF_core {pins : List (Addr × Obj)} {s : Shared} {σ : L2.St} {H : Hp} {Q : VK} {kx vx tg iter : Expr} {scope : Scope} {own : List (Str × Nat)} {pos pos' : Pos} {wi : TI} {g : TG} {tk tv : TE} {use : Option (Value → Sem Unit)} {Qf : Value → Shared → Prop} (hu : X.A.units + 16 < cLine) (hc : X.calm = true) (hN : X.N.Nodup) (I : Inv X pins σ H s) (hi : PI X tg iter wi) (ok : BlkOk X.N X.env.scope scope own)
    (hg : ∀ s H C cl fp, PG (Blk X scope s H C cl fp) tg g) (hk : ∀ s H C cl fp, PE (Blk X scope s H C cl fp) kx tk) (he : ∀ s H C cl fp, PE (Blk X scope s H C cl fp) vx tv) (hs : ∀ x, foldedSetIterable iter X.env x = pure x)
    (h : tDcF X.prog X.w X.K wi g tk tv (own.map (·.2)) σ H Q) (fin : ∀ D C s' m H', Inv X pins σ H' s' → Q (.ref D) H' → s'.heap.Ns C m → FpOk X pins H' C → compPost (model X.prog X.w) X.A X.xe use Qf (.ref D) C (.ok .next) s') :
    wpAny (model X.prog X.w) X.A (comprehension (.DictComp kx vx [⟨tg, iter, [], 0⟩] scope pos) scope X.env pos' newDict false (eval iter X.env) use) Qf X.xe s := by
  have cells : ∀ y ∈ scope.names, y.2 = .free → ∃ c, X.env.cells.lookup y.1 = some c := fun y hy e => by
    rcases ok.free y hy e with k | k
    · exact I.ok.has _ (.inl k)
    · exact I.ok.has _ (.inr k)
  refine wpAny_comprehension_free (use := use) rfl hs (closure_ok cells) ok.kind (fun y hy e => by rw [ok.uniq y hy, e]) (thn (hi.run pins s σ H _ I h) fun xv s1 hx => thn hx fun itv s2 ⟨it, fp, tn, J, H2, e, I2, T, st2, f2, q⟩ => ?_)
  subst e
  refine wpAny_newObj_type (newEnv_comp ?_)
  obtain ⟨D, hD⟩ : ∃ D, s2.heap.objs.size = D := ⟨_, rfl⟩
  rw [hD]
  have free : H2 D = none := I2.hok.fresh (Nat.le_of_eq hD)
  obtain ⟨W, ⟨m0, w0⟩, turn⟩ := q D free
  obtain ⟨s3, e3⟩ : ∃ s3 : Shared, s3 = { s2 with heap := s2.heap.push { cls := .type "dict", data := .dict #[] } } := ⟨_, rfl⟩
  have h3 : s3.heap = s2.heap.push { cls := .type "dict", data := .dict #[] } := by rw [e3]
  have I3 : Inv X pins σ (upd H2 D (fdO X.prog X.w D [])) s3 := by
    rw [e3]
    refine I2.laid (t' := s2.toks) (fun b ob z => Heap.get?_push_of_some _ z) (Nat.le_of_eq hD) ?_
    rw [← hD]
    exact fd_empty s2.heap I2.big
  have f3 : ∀ b ∈ fp, FpOk X pins (upd H2 D (fdO X.prog X.w D [])) b ∧ b < s3.heap.objs.size := fun b hb => by
    obtain ⟨ob, g, _⟩ := T.obj _ _ st2 b hb
    have lt := Heap.lt_size g
    refine ⟨⟨?_, (f2 b hb).2⟩, by rw [h3, Heap.size_push]; exact Nat.lt_succ_of_lt lt⟩
    rw [upd_ne (hD ▸ Nat.ne_of_lt lt)]
    exact (f2 b hb).1
  have st3 : tn 0 s3.heap := T.keep _ _ _ st2 fun b _ ob z => by rw [h3]; exact Heap.get?_push_of_some _ z
  have I4 := block_start I3 ok hN f3
  obtain ⟨cl, ecl⟩ : ∃ cl, cl = cellsFrom (s3.heap.objs.size + 1) scope.names (cloFrom X.env.cells scope.names []) := ⟨_, rfl⟩
  obtain ⟨H3, eH⟩ : ∃ H3, H3 = upd H2 D (fdO X.prog X.w D []) := ⟨_, rfl⟩
  rw [← ecl, ← eH] at I4
  rw [← eH] at I3 w0 f3
  have pg : PG (X.blk s3 H3 scope (compEnvC scope cl s3.heap.objs.size X.env) fp) tg g := hg s3 H3 s3.heap.objs.size cl fp
  have pk : PE (X.blk s3 H3 scope (compEnvC scope cl s3.heap.objs.size X.env) fp) kx tk := hk s3 H3 s3.heap.objs.size cl fp
  have pv : PE (X.blk s3 H3 scope (compEnvC scope cl s3.heap.objs.size X.env) fp) vx tv := he s3 H3 s3.heap.objs.size cl fp
  rw [e3.symm, ← ecl]
  have nfp : ∀ b ∈ fp, H3 b = none := fun b hb => (f3 b hb).1.1
  show codeAny _ _ (.compStart (.DictComp kx vx [⟨tg, iter, [], 0⟩] scope pos) 0 (.ref it) (.ref D) (compEnvC scope cl s3.heap.objs.size X.env)) _ { s3 with heap := pushCells (s3.heap.push { cls := .type "dict", data := .dict #[] }) scope.names }
  generalize hce : compEnvC scope cl s3.heap.objs.size X.env = ce at I4 pg pk pv ⊢
  have cL : ce.locals = s3.heap.objs.size := by subst hce; rfl
  generalize hs4 : ({ s3 with heap := pushCells (s3.heap.push { cls := .type "dict", data := .dict #[] }) scope.names } : Shared) = s4 at I4 ⊢
  have st4 : tn 0 s4.heap := T.keep _ _ _ st3 fun b _ ob z => by rw [← hs4]; exact pushCells_keeps _ _ _ _ (Heap.get?_push_of_some _ z)
  have stat : ∀ {σ' : L2.St} {H' : Hp} {s' : Shared}, Inv (X.blk s3 H3 scope ce fp) [] σ' H' s' → (∀ b ∈ fp, H' b = none) → ∀ b ∈ fp, FpOk (X.blk s3 H3 scope ce fp) [] H' b := fun {σ' H' s'} I' hn b hb =>
    ⟨hn b hb, (I'.ok.exf b hb).1, I'.ok.exfs b hb, .inl hb, fun x c z => (I'.ok.exf b hb).2 x c z, fun p hp => by cases (show p ∈ ([] : List (Addr × Obj)) ++ [] from hp)⟩
  suffices loop : codeAny (model X.prog X.w) X.A (.compLoop (.DictComp kx vx [⟨tg, iter, [], 0⟩] scope pos) 0 (.ref it) (.ref D) ce) (compPost (model X.prog X.w) X.A X.xe use Qf (.ref D) s3.heap.objs.size) s4 from codeAny_compStart_dict loop (T.self X.A 0 _ _ _ st4 loop)
  refine compLoop_anyD (fun n s' => ∃ i H', Inv (X.blk s3 H3 scope ce fp) [] (L2.wipe σ (own.map (·.2))) H' s' ∧ tn i s'.heap ∧ (∀ b ∈ fp, H' b = none) ∧ W i n H') ?_ m0 ⟨0, H3, I4, st4, nfp, w0⟩
  rintro n s5 ⟨i, H5, I5, st5, n5, w5⟩
  rcases turn i n H5 w5 with ⟨stop, qq⟩ | ⟨go, Nx, hNx, step⟩
  · refine thnF (T.done (X.blk s3 H3 scope ce fp) rfl rfl rfl hc i [] s5 _ H5 (fun _ _ => False) I5 (stat I5 n5) st5 stop) fun r s6 ⟨hr, I6⟩ => ?_
    subst hr
    have I7 : Inv X pins σ H5 s6 := I3.call' (ch := fp) I6.os I6.base I6.hok I6.bare fun b hb => ⟨(f3 b hb).1.2.2.2.1, (f3 b hb).1.2.1, (f3 b hb).1.2.2.2.2.1, (f3 b hb).1.2.2.2.2.2⟩
    have nC : H5 s3.heap.objs.size = none := cL ▸ (show H5 ce.locals = none from I6.free)
    obtain ⟨m, hn, _⟩ := I6.loc
    have hn : s6.heap.Ns s3.heap.objs.size m := cL ▸ (show s6.heap.Ns ce.locals m from hn)
    exact fin D s3.heap.objs.size s6 m H5 I7 qq hn (I3.fpOk (Nat.le_refl _) nC)
  · refine thnF (T.item (X.blk s3 H3 scope ce fp) rfl rfl rfl hc i [] s5 _ H5 (fun _ _ => False) I5 (stat I5 n5) st5 go) fun r s6 ⟨u, hr, h6⟩ => ?_
    subst hr
    refine thnF h6 fun _ s7 ⟨x, H7, I7, r7, y7, st7, n7⟩ => ?_
    refine thnF (pg.run _ s7 _ H7 x u _ (I7.pinned (stat I7 n7) (T.obj _ _ st7)) r7 (step x H7 y7)) fun _ s8 ⟨σ8, H8, I8, hw8, q8⟩ => ?_
    refine wpAny_tests_nil ?_
    show wpAny _ _ _ _ _ _
    refine thnF (pk.run _ s8 σ8 H8 _ I8 q8) fun z s10 ⟨yk, H10, I10, r10, q10⟩ => ?_
    refine thnF (pv.run _ s10 σ8 H10 _ I10 q10) fun z2 s11 ⟨yv, H11, I11, r11, kvs, k, b, ek, hD11, hk11, hy, hg11, hv, hz11, nx⟩ => ?_
    subst ek
    obtain rfl : z = Value.ref b := r10
    refine fd_set (X := X.blk s3 H3 scope ce fp) hu I11 hD11 hk11 hy hg11 hv hz11 r11 fun s12 I12 => ?_
    obtain ⟨m', hm, w'⟩ := hNx _ nx
    have pin' : ∀ b ∈ fp, ∀ ob, s7.heap.get? b = some ob → s12.heap.get? b = some ob ∧ _ := fun b hb ob z =>
      let p := I12.pin (b, ob) (List.mem_append_right _ (List.mem_append_right _ (mem_pinsAt hb z)))
      ⟨p.1, p.2.1⟩
    refine ⟨m', hm, i + 1, _, (I12.unpinned (pins := [])).weak (by rw [← hw8, L2.wipe_length]) (fun j v z => ?_), T.keep _ _ _ st7 fun b hb ob z => (pin' b hb ob z).1, fun b hb => ?_, w'⟩
    · rw [← hw8] at z
      exact (L2.wipe_some z).1
    · obtain ⟨ob, z, _⟩ := T.obj _ _ st7 b hb
      exact (pin' b hb ob z).2
theorem pe_dcF {kx vx tg iter : Expr} {scope : Scope} {own : List (Str × Nat)} {pos : Pos} {wi : TI} {g : TG} {tk tv : TE} (hu : X.A.units + 16 < cLine) (hc : X.calm = true) (hN : X.N.Nodup) (hi : PI X tg iter wi) (ok : BlkOk X.N X.env.scope scope own)
    (hg : ∀ s H C cl fp, PG (Blk X scope s H C cl fp) tg g) (hk : ∀ s H C cl fp, PE (Blk X scope s H C cl fp) kx tk) (he : ∀ s H C cl fp, PE (Blk X scope s H C cl fp) vx tv) (hs : ∀ x, foldedSetIterable iter X.env x = pure x := by intro _; rfl) :
    PE X (.DictComp kx vx [⟨tg, iter, [], 0⟩] scope pos) (tDcF X.prog X.w X.K wi g tk tv (own.map (·.2))) := by
  refine ⟨fun pins s σ H Q I h => ?_⟩
  rw [arm_eval_DictComp]
  refine dcF_core hu hc hN I hi ok hg hk he hs h fun D C s' m H' I' q hn f => ⟨m, hn, fun h'' sb => ?_⟩
  obtain ⟨f0, f1, f2, f3, f4, f5⟩ := f
  exact ⟨.ref D, H', I'.turned (t' := s'.toks) (fun b ob hb z => (sb.2 b hb).trans z) f0 f1 f3 f4 f5, rfl, q⟩
/-- y = {..} on one line -/
theorem ps_setDcF {i : Nat} {y : Str} {py spos : Pos} {kx vx tg iter : Expr} {scope : Scope} {own : List (Str × Nat)} {pos : Pos} {wi : TI} {g : TG} {tk tv : TE} (hu : X.A.units + 16 < cLine) (hc : X.calm = true) (hN : X.N.Nodup) (hy : X.N[i]? = some y) (hyl : X.env.scope.names.lookup y = some .local)
    (hsw : swapsWith (.DictComp kx vx [⟨tg, iter, [], 0⟩] scope pos) (some (.Name y py)) spos.line X.env = pure true) (hi : PI X tg iter wi) (ok : BlkOk X.N X.env.scope scope own)
    (hg : ∀ s H C cl fp, PG (Blk X scope s H C cl fp) tg g) (hk : ∀ s H C cl fp, PE (Blk X scope s H C cl fp) kx tk) (he : ∀ s H C cl fp, PE (Blk X scope s H C cl fp) vx tv) (hs : ∀ x, foldedSetIterable iter X.env x = pure x := by intro _; rfl) :
    PS X (.Assign [.Name y py] (.DictComp kx vx [⟨tg, iter, [], 0⟩] scope pos) spos) (tAsg (tDcF X.prog X.w X.K wi g tk tv (own.map (·.2))) (gName i)) := by
  refine ⟨fun pins s σ H D I h => ?_⟩
  rw [exec_Assign_Name_used _ _ _ _ hsw]
  refine wpAny_bind (wpAny_standAt (wpAny_bind ?_))
  have h : tDcF X.prog X.w X.K wi g tk tv (own.map (·.2)) σ H (fun x H1 => gName i x σ H1 D.nx) := h
  show wpAny _ X.A (do let _ ← comprehension (.DictComp kx vx [⟨tg, iter, [], 0⟩] scope pos) scope X.env (firstIterPos [⟨tg, iter, [], 0⟩] pos) newDict false (eval iter X.env) (some (assign (.Name y py) X.env))) _ _ s
  refine wpAny_bind (thn (dcF_core (Qf := fun _ s' => SP X pins D .next s') hu hc hN I hi ok hg hk he hs h fun L C s' m H' I' q hn f => ?_) fun _ s' hq => wpAny_pure (wpAny_pure hq))
  show wpAny _ _ (assign (.Name y py) X.env (.ref L)) _ _ _
  refine wpAny_assign_Name (store_ok2 (v := V.ref L) I' hN hy (.inl hyl) rfl (fun s2 I2 ⟨a, sb, ha⟩ => ?_) (.inr hyl))
  obtain ⟨f0, f1, f2, f3, f4, f5⟩ := f
  have ne : C ≠ a := ha.elim (fun z => z ▸ f1) fun z q => f4 y a z q.symm
  exact ⟨m, hn.sameBut sb ne, fun h3 sb3 => ⟨_, H', I2.turned (t' := s2.toks) (fun b ob hb z => (sb3.2 b hb).trans z) f0 f1 f3 f4 f5, q⟩⟩
theorem sw_trueD {kx vx : Expr} {gs : List Comprehension} {scope : Scope} {pos py : Pos} {y : Str} {l : Nat} {env : Env} (hk : env.scope.kind = .function) (hy : env.scope.names.lookup y = some .local) (hl : (py.line == pos.line) = true)
    (ha : (scope.names.any fun (n, k) => n == y && (k == .local || k == .cell)) = false) : swapsWith (.DictComp kx vx gs scope pos) (some (.Name y py)) l env = pure true := by
  have ky : env.kindOf y = some .local := hy
  have hb : env.blockKind = .function := by unfold Env.blockKind; rw [hk]; rfl
  unfold swapsWith
  simp only [hb, ky, ha, Expr.pos, hl]
  rfl
end
end Dn
set_option Elab.async false
set_option linter.all false
set_option maxRecDepth 100000
set_option maxHeartbeats 4000000
namespace Dn
open PySem PySem.Spec L2 PyProof.Rows
/-! ### what no loop touches -/
def isStrV : V → Bool
  | .str _ => true | .int _ => true | _ => false
def headS : List V → Bool
  | v :: _ => isStrV v
  | [] => false
def isImm : HO → Bool
  | .lst xs => headS xs
  | .tup _ => true | .ins _ _ _ => true | .dK _ => true
  | .frz _ (.lst xs) => headS xs
  | .frz _ (.tup _) => true
  | _ => false
def SameW (H H' : Hp) : Prop := ∀ a o, H a = some o → isImm o = true → H' a = some o
/-- lists within begin with a text or an int -/
def headD : List PyData → Bool
  | .str _ :: _ => true
  | .int _ :: _ => true
  | _ => false
mutual
def imL : PyData → Bool
  | .list ds => headD ds && imLAll ds
  | .tuple ds => imLAll ds
  | .dict _ => false
  | _ => true
def imLAll : List PyData → Bool
  | [] => true
  | d :: ds => imL d && imLAll ds
end
def imR : PyData → Bool
  | .dict kds => kds.all fun p => imL p.2
  | d => imL d
section
variable {K : PySem.W.Frag} {w : World} {H H' H1 : Hp}
theorem Same.toW (h : Same H H') : SameW H H' := fun a o e _ => h a o e
theorem SameW.trans (h : SameW H H') (h' : SameW H' H1) : SameW H H1 := fun a o e n => h' a o (h a o e n) n
theorem sameW_upd {D : Addr} {u o : HO} (h : H D = some u) (hu : isImm u = false) : SameW H (upd H D o) := fun b v e n => by
  have : b ≠ D := by
    rintro rfl
    rw [h] at e
    cases e
    rw [hu] at n
    cases n
  rw [upd_ne this]
  exact e
theorem headS_of {xs : List V} {ds : List PyData} (h : DpAll K H xs ds) (hd : headD ds = true) : headS xs = true := by
  cases h with
  | nil => cases hd
  | cons h1 h2 =>
    cases h1 <;> first | rfl | cases hd
theorem sqT_W {a : Addr} {xs : List V} (e : SameW H H') (h : SqT K H a xs) : SqT K H' a xs := by
  rcases h with (h | ⟨o, h⟩) | h
  · exact .inl (.inl (e _ _ h rfl))
  · exact .inl (.inr ⟨o, e _ _ h rfl⟩)
  · exact .inr h
theorem sqL_W {a : Addr} {xs : List V} (e : SameW H H') (hx : headS xs = true) (h : SqL K H a xs) : SqL K H' a xs := by
  rcases h with (h | ⟨o, h⟩) | h
  · exact .inl (.inl (e _ _ h hx))
  · exact .inl (.inr ⟨o, e _ _ h hx⟩)
  · exact .inr h
mutual
theorem dp_W (e : SameW H H') : ∀ (d : PyData) (v : V), imL d = true → Dp K H v d → Dp K H' v d
  | .none, _, _, h => by cases h; exact .non
  | .bool b, _, _, h => by cases h; exact .bl b
  | .int i, _, _, h => by cases h; exact .int i
  | .str x, _, _, h => by cases h; exact .str x
  | .list ds, _, n, h => by
    cases h with
    | lst hs ha =>
      simp only [imL, Bool.and_eq_true] at n
      exact .lst (sqL_W e (headS_of ha n.1) hs) (dpAll_W e ds _ n.2 ha)
  | .tuple ds, _, n, h => by
    cases h with
    | tup hs ha => exact .tup (sqT_W e hs) (dpAll_W e ds _ n ha)
  | .dict _, _, n, h => by cases n
theorem dpAll_W (e : SameW H H') : ∀ (ds : List PyData) (vs : List V), imLAll ds = true → DpAll K H vs ds → DpAll K H' vs ds
  | [], _, _, h => by cases h; exact .nil
  | d :: ds, _, n, h => by
    simp only [imLAll, Bool.and_eq_true] at n
    cases h with
    | cons h1 h2 => exact .cons (dp_W e d _ n.1 h1) (dpAll_W e ds _ n.2 h2)
end
theorem kvD_W (e : SameW H H') : ∀ {kvs : List (Key × V)} {kds : List (PyData × PyData)}, (kds.all fun p => imL p.2) = true → KvD K H kvs kds → KvD K H' kvs kds
  | _, _, _, .nil => .nil
  | _, _, n, .cons h t => by
    simp only [List.all_cons, Bool.and_eq_true] at n
    exact .cons ⟨h.1, dp_W e _ _ n.1 h.2⟩ (kvD_W e n.2 t)
theorem rp_W {v : V} {d : PyData} (e : SameW H H') (n : imR d = true) (h : Rp K w H v d) : Rp K w H' v d := by
  cases h with
  | dat h =>
    refine .dat (dp_W e _ _ ?_ h)
    cases d <;> first | exact n | cases h
  | dct h k => exact .dct (e _ _ h rfl) (kvD_W e n k)
  | obj h c k =>
    simp only [imR, List.all_cons, Bool.and_eq_true] at n
    exact .obj (e _ _ h rfl) c (dp_W e _ _ n.1 k)
  | kd h => exact .kd h
mutual
theorem imL_noL : ∀ (d : PyData), noL d = true → imL d = true
  | .none, _ => rfl
  | .bool _, _ => rfl
  | .int _, _ => rfl
  | .str _, _ => rfl
  | .list _, h => by cases h
  | .tuple ds, h => imLAll_noL ds h
  | .dict _, h => by cases h
theorem imLAll_noL : ∀ (ds : List PyData), noLAll ds = true → imLAll ds = true
  | [], _ => rfl
  | d :: ds, h => by
    simp only [noLAll, Bool.and_eq_true] at h
    simp only [imLAll, Bool.and_eq_true]
    exact ⟨imL_noL d h.1, imLAll_noL ds h.2⟩
end
theorem sta_W {v : V} {s : Sta} (e : SameW H H') (h : Dp K H v s.d) : Dp K H' v s.d := dp_W e _ _ (imL_noL _ (sta_noL s)) h
theorem FdK.monoW {kvs : List Fe} (e : SameW H H') (k : FdK K H kvs) : FdK K H' kvs := ⟨fun x hx => sta_W e (k.keys x hx), k.nd, k.ok⟩
theorem stp_noL (one : Stp) : noL one.d = true := by cases one <;> rfl
theorem stps_noL : ∀ (l : List Stp), noLAll (l.map Stp.d) = true
  | [] => rfl
  | x :: r => by
    simp only [List.map_cons, noLAll, Bool.and_eq_true]
    exact ⟨stp_noL x, stps_noL r⟩
theorem scr_im (l : List Stp) : imR (scrD l) = true := by
  unfold scrD imR
  simp only [List.all_cons, List.all_nil, Bool.and_true]
  exact imLAll_noL _ (stps_noL l)
theorem ed_noL (e : Option Ed) : noL (edD e) = true := by
  cases e with
  | none => rfl
  | some e => rfl
theorem wl_noL (l : Option (Nat × Option Ed × Int)) : noL (wlD l) = true := by
  cases l with
  | none => rfl
  | some l =>
    obtain ⟨n, e, i⟩ := l
    show (true && (noL (edD e) && (true && true))) = true
    rw [ed_noL]
    rfl
theorem au_im : ∀ (l : List Bool), imLAll (auL l) = true
  | [] => rfl
  | x :: r => by
    show (true && imLAll (auL r)) = true
    rw [au_im r]
    rfl
theorem wld_im (wl : Wld) (h : wl.authors ≠ []) : imR wl.d = true := by
  obtain ⟨a, r, e⟩ : ∃ a r, wl.authors = a :: r := by
    cases q : wl.authors with
    | nil => exact absurd q h
    | cons a r => exact ⟨a, r, rfl⟩
  have h1 : imL (PyData.list (auL wl.authors)) = true := by
    rw [e]
    show (true && imLAll (auL (a :: r))) = true
    rw [au_im]
    rfl
  have h2 : imL (snD wl.seen) = true := by cases wl.seen <;> rfl
  unfold Wld.d Wld.kds imR
  simp only [List.all_cons, List.all_nil, Bool.and_eq_true]
  exact ⟨rfl, rfl, rfl, rfl, rfl, rfl, rfl, h1, rfl, imL_noL _ (ed_noL _), h2, rfl, imL_noL _ (wl_noL _), trivial⟩
end
/-! ### a list beside the empty list -/
section
variable {X : Cx}
theorem op_ne_nil (hu : X.A.units < cLine) : OpR X (compareOp .NotEq) (fun x y H Q => ∃ a b xs, x = .ref a ∧ y = .ref b ∧ SqL X.K H a xs ∧ SqL X.K H b [] ∧ Q (.bl (!xs.isEmpty)) H) := by
  intro pins s σ H x y v u Q I rx ry h
  obtain ⟨a, b, xs, rfl, rfl, ha, hb, q⟩ := h
  obtain rfl : v = Value.ref a := rx
  obtain rfl : u = Value.ref b := ry
  obtain ⟨its, rv, p, _⟩ := I.list ha
  obtain ⟨its2, rv2, p2, _⟩ := I.list hb
  cases rv2
  cases xs with
  | nil =>
    cases rv
    exact SeqAt.RcNeAt.lists (e := fun _ => true) p.isList p2.isList rfl hu (fun j h1 h2 => absurd h1 (Nat.not_lt_zero _)) X.prog X.w _ _ ⟨.bl _, H, I, rfl, q⟩
  | cons x r =>
    cases rv with
    | cons r1 r2 => exact SeqAt.RcNeAt.lists_lengths p.isList p2.isList (by simp) hu X.prog X.w _ _ ⟨.bl _, H, I, rfl, q⟩
theorem op_eq_nil (hu : X.A.units < cLine) : OpR X (compareOp .Eq) (fun x y H Q => ∃ a b xs, x = .ref a ∧ y = .ref b ∧ SqL X.K H a xs ∧ SqL X.K H b [] ∧ Q (.bl xs.isEmpty) H) := by
  intro pins s σ H x y v u Q I rx ry h
  obtain ⟨a, b, xs, rfl, rfl, ha, hb, q⟩ := h
  obtain rfl : v = Value.ref a := rx
  obtain rfl : u = Value.ref b := ry
  obtain ⟨its, rv, p, _⟩ := I.list ha
  obtain ⟨its2, rv2, p2, _⟩ := I.list hb
  cases rv2
  cases xs with
  | nil =>
    cases rv
    exact SeqAt.RcAt.lists (e := fun _ => true) p.isList p2.isList rfl hu (fun j h1 h2 => absurd h1 (Nat.not_lt_zero _)) X.prog X.w _ _ ⟨.bl _, H, I, rfl, q⟩
  | cons x r =>
    cases rv with
    | cons r1 r2 => exact SeqAt.RcAt.lists_lengths p.isList p2.isList (by simp) hu X.prog X.w _ _ ⟨.bl _, H, I, rfl, q⟩
end
end Dn
set_option Elab.async false
set_option linter.all false
set_option maxRecDepth 100000
set_option maxHeartbeats 4000000
namespace Dn
open PySem PySem.Spec L2 PyProof.Rows
/-! ### the mirror of ways -/
abbrev Fp := Sta × Option (Sta × Ev)
abbrev Acc := List Fp × List Sta
def addOne (steps : List Stp) (net : Net) (s : Sta) (acc : Acc) (e : Ev) : Acc :=
  if stepped steps s e net ∈ acc.1.map (·.1) then acc else (acc.1 ++ [(stepped steps s e net, some (s, e))], acc.2 ++ [stepped steps s e net])
def addAll (steps : List Stp) (o : Oth) (net : Net) (acc : Acc) (s : Sta) : Acc := (eventsIn steps s o net).foldl (addOne steps net s) acc
def layerOf (steps : List Stp) (o : Oth) (net : Net) (acc : Acc) : Acc := acc.2.foldl (addAll steps o net) (acc.1, [])
def waysAt (steps : List Stp) (o : Oth) (net : Net) : Nat → Acc
  | 0 => (firsts.map fun s => (s, none), firsts)
  | n + 1 => layerOf steps o net (waysAt steps o net n)
/-- all states that can come are among these, and few -/
structure Bnd (steps : List Stp) (o : Oth) (net : Net) (U : List Sta) : Prop where
  few : U.length ≤ 5000
  begins : ∀ s ∈ firsts, s ∈ U
  right : ∀ s ∈ U, StOk steps s
  goes : ∀ s ∈ U, ∀ e ∈ eventsIn steps s o net, stepped steps s e net ∈ U
/-- right among the states -/
structure AccOk (U : List Sta) (acc : Acc) : Prop where
  nd : (acc.1.map (·.1)).Nodup
  sub : ∀ s ∈ acc.1.map (·.1), s ∈ U
  later : ∀ s ∈ acc.2, s ∈ acc.1.map (·.1)
  short : acc.2.length ≤ acc.1.length
theorem nodup_len {α : Type} [DecidableEq α] : ∀ {l U : List α}, l.Nodup → (∀ x ∈ l, x ∈ U) → l.length ≤ U.length
  | [], _, _, _ => Nat.zero_le _
  | x :: r, U, hn, hs => by
    have hx := hs x (List.mem_cons_self ..)
    have hn' := List.nodup_cons.mp hn
    have := nodup_len (l := r) (U := U.erase x) hn'.2 fun y hy => by
      have : y ≠ x := fun e => hn'.1 (e ▸ hy)
      exact (List.mem_erase_of_ne this).mpr (hs y (List.mem_cons_of_mem _ hy))
    rw [List.length_erase_of_mem hx] at this
    have : 0 < U.length := List.length_pos_of_mem hx
    simp only [List.length_cons]
    omega
section
variable {steps : List Stp} {o : Oth} {net : Net} {U : List Sta} {acc : Acc} {s : Sta} {e : Ev}
theorem AccOk.len (a : AccOk U acc) : acc.1.length ≤ U.length := by
  have := nodup_len a.nd a.sub
  simpa using this
theorem AccOk.one (B : Bnd steps o net U) (a : AccOk U acc) (hs : s ∈ U) (he : e ∈ eventsIn steps s o net) : AccOk U (addOne steps net s acc e) := by
  unfold addOne
  split
  · exact a
  · rename_i hn
    refine ⟨?_, ?_, ?_, ?_⟩
    · rw [List.map_append]
      refine List.nodup_append.mpr ⟨a.nd, by simp, fun x hx y hy => ?_⟩
      rw [List.map_cons, List.map_nil, List.mem_singleton] at hy
      subst hy
      rintro rfl
      exact hn hx
    · intro x hx
      rw [List.map_append, List.mem_append] at hx
      rcases hx with hx | hx
      · exact a.sub x hx
      · rw [List.map_cons, List.map_nil, List.mem_singleton] at hx
        subst hx
        exact B.goes s hs e he
    · intro x hx
      rw [List.map_append]
      rcases List.mem_append.mp hx with hx | hx
      · exact List.mem_append_left _ (a.later x hx)
      · exact List.mem_append_right _ (by simpa using hx)
    · simp only [List.length_append, List.length_singleton]
      have := a.short
      omega
theorem AccOk.fold (B : Bnd steps o net U) (hs : s ∈ U) : ∀ (es : List Ev) (acc : Acc), (∀ e ∈ es, e ∈ eventsIn steps s o net) → AccOk U acc → AccOk U (es.foldl (addOne steps net s) acc)
  | [], _, _, a => a
  | e :: es, acc, h, a => AccOk.fold B hs es _ (fun x hx => h x (List.mem_cons_of_mem _ hx)) (a.one B hs (h e (List.mem_cons_self ..)))
theorem AccOk.all (B : Bnd steps o net U) (hs : s ∈ U) (a : AccOk U acc) : AccOk U (addAll steps o net acc s) := AccOk.fold B hs _ _ (fun _ h => h) a
theorem AccOk.foldAll (B : Bnd steps o net U) : ∀ (ws : List Sta) (acc : Acc), (∀ s ∈ ws, s ∈ U) → AccOk U acc → AccOk U (ws.foldl (addAll steps o net) acc)
  | [], _, _, a => a
  | s :: ws, acc, h, a => AccOk.foldAll B ws _ (fun x hx => h x (List.mem_cons_of_mem _ hx)) (a.all B (h s (List.mem_cons_self ..)))
theorem AccOk.layer (B : Bnd steps o net U) (a : AccOk U acc) : AccOk U (layerOf steps o net acc) :=
  AccOk.foldAll B _ _ (fun s hs => a.sub s (a.later s hs)) ⟨a.nd, a.sub, fun _ h => (by cases h), Nat.zero_le _⟩
theorem waysAt_ok (B : Bnd steps o net U) : ∀ n, AccOk U (waysAt steps o net n)
  | 0 => by
    have e : (waysAt steps o net 0).1.map (·.1) = firsts := by show (firsts.map fun s => (s, none)).map (·.1) = firsts; rw [List.map_map]; exact List.map_id _
    refine ⟨?_, ?_, ?_, ?_⟩
    · rw [e]; decide
    · rw [e]; exact B.begins
    · rw [e]; exact fun _ h => h
    · show firsts.length ≤ (firsts.map _).length
      rw [List.length_map]
      exact Nat.le_refl _
  | n + 1 => (waysAt_ok B n).layer B
/-- how much grows -/
theorem addOne_len : (addOne steps net s acc e).1.length + acc.2.length = acc.1.length + (addOne steps net s acc e).2.length := by
  unfold addOne
  split <;> simp <;> omega
theorem fold_len : ∀ (es : List Ev) (acc : Acc), (es.foldl (addOne steps net s) acc).1.length + acc.2.length = acc.1.length + (es.foldl (addOne steps net s) acc).2.length
  | [], acc => by simp
  | e :: es, acc => by
    have h1 := fold_len es (addOne steps net s acc e)
    have h2 := addOne_len (steps := steps) (net := net) (s := s) (acc := acc) (e := e)
    rw [List.foldl_cons]
    omega
theorem foldAll_len : ∀ (ws : List Sta) (acc : Acc), (ws.foldl (addAll steps o net) acc).1.length + acc.2.length = acc.1.length + (ws.foldl (addAll steps o net) acc).2.length
  | [], acc => by simp
  | s :: ws, acc => by
    have h1 := foldAll_len ws (addAll steps o net acc s)
    have h2 := fold_len (steps := steps) (net := net) (s := s) (eventsIn steps s o net) acc
    rw [List.foldl_cons]
    unfold addAll at h1 ⊢
    omega
theorem layer_len : (layerOf steps o net acc).1.length = acc.1.length + (layerOf steps o net acc).2.length := foldAll_len (steps := steps) (o := o) (net := net) acc.2 (acc.1, [])
theorem waysAt_grows : ∀ n, (∀ m, m ≤ n → (waysAt steps o net m).2 ≠ []) → n < (waysAt steps o net n).1.length
  | 0, _ => by show 0 < (firsts.map _).length; decide
  | n + 1, h => by
    have h1 := waysAt_grows n fun m hm => h m (by omega)
    have h2 := layer_len (steps := steps) (o := o) (net := net) (acc := waysAt steps o net n)
    have h3 : 0 < (layerOf steps o net (waysAt steps o net n)).2.length := List.length_pos_iff.mpr (h (n + 1) (Nat.le_refl _))
    show n + 1 < (layerOf steps o net (waysAt steps o net n)).1.length
    omega
theorem waysAt_stays {n : Nat} (h : (waysAt steps o net n).2 = []) : ∀ k, waysAt steps o net (n + k) = waysAt steps o net n
  | 0 => rfl
  | k + 1 => by
    show layerOf steps o net (waysAt steps o net (n + k)) = _
    rw [waysAt_stays h k]
    unfold layerOf
    rw [h]
    show ((waysAt steps o net n).1, []) = waysAt steps o net n
    rw [← h]
def waysN : Nat := 5000
theorem waysAt_end (B : Bnd steps o net U) : (waysAt steps o net waysN).2 = [] := by
  by_cases h : ∀ m, m ≤ waysN → (waysAt steps o net m).2 ≠ []
  · have h1 := waysAt_grows waysN h
    have h2 := (waysAt_ok B waysN).len
    have h3 := B.few
    unfold waysN at h1 h2
    omega
  · have ⟨m, hm⟩ := Classical.not_forall.mp h
    have ⟨hm, he⟩ := Classical.not_imp.mp hm
    have he := Classical.not_not.mp he
    have e := waysAt_stays he (waysN - m)
    rw [show m + (waysN - m) = waysN by omega] at e
    rw [e, he]
def waysF (steps : List Stp) (o : Oth) (net : Net) : List Fp := (waysAt steps o net waysN).1
theorem waysF_of {n : Nat} (hn : n ≤ waysN) (h : (waysAt steps o net n).2 = []) : (waysAt steps o net n).1 = waysF steps o net := by
  have e := waysAt_stays h (waysN - n)
  rw [show n + (waysN - n) = waysN by omega] at e
  unfold waysF
  rw [e]
end
end Dn
set_option Elab.async false
set_option linter.all false
set_option maxRecDepth 100000
set_option maxHeartbeats 4000000
namespace Dn
open PySem PySem.Spec L2 PyProof.Rows
/-! ### a def with a promise of its own -/
structure SOk (P : Program) (w : World) (K : PySem.W.Frag) (mg : Str → Option Value) (base : Heap) (k : Nat) (x : Str) (n : Nat) (sp : Sp) : Prop where
  ok : ∃ f fd ps, mg x = some (.ref f) ∧ PySem.W.keepIn K (.ref f) = true ∧ Binds K fd ps [] ∧ ps.length = n ∧ FnOk P w K mg base CX0 k f fd ps sp
section
variable {X : Cx} {e : Expr} {es : List Expr} {ta : TA} {p pos : Pos} {x : Str} {k n : Nat} {sp : Sp}
def tSp (sp : Sp) (ta : TA) : TE := fun σ H Q => ta σ H fun xs H1 => sp xs H1 Q E0
theorem p_call (h : SOk X.prog X.w X.K X.mg X.base k x n sp) (hr : Room k X.A) (ha : PA X (e :: es) ta) (hg : Gl X x := by rfl)
    (hdb : (x == ("__debug__" : Str)) = false := by decide) (he : starEach (e :: es) X.env = (false, eval e X.env) :: starEach es X.env := by rfl) (hpl : (backTo pos (starEach es X.env)).any (·.1) = false := by rfl) :
    PE X (.Call (.Name x p) (e :: es) [] pos) (tSp sp ta) := by
  obtain ⟨f, fd, ps, hm, hk, hb, hl, F⟩ := h.ok
  exact pe_imp (pe_call F hr hg hm hk hb .nil pass0 ha hdb he hpl) fun σ H Q q => by
    show ta σ H fun xs H1 => sp (xs ++ []) H1 Q E0
    simp only [List.append_nil]
    exact q
end
theorem sok_of {P : Program} {w : World} {K : PySem.W.Frag} {mg : Str → Option Value} {base : Heap} {k : Nat} {x : Str} {st : Stmt} {Ns ps : List Str} {sp : Sp} (n : Nat) (hn : ps.length = n) (G : Glob K mg x st ps) (S : FnScope Ns ps (defScope st)) (hl : ∀ vs H Q E, sp vs H Q E → vs.length = n)
    (body : ∀ (cd : Value) (A : Around) (outer : List Env) (s : Shared) (H0 : Hp) (E : XK) (fa : Addr), Room k (A.deeper (envOfC x (defScope st) s.heap.objs.size fa cd)) → ∃ t, PSs (cxOf CX0 P w K mg base Ns x (defScope st) fa cd A outer s H0 E).nox (defBody st) t ∧
      ∀ vs H Q E, sp vs H Q E → t { nx := fun _ H' => Q .non H', rt := Q } (L2.start Ns vs) H) : SOk P w K mg base (k + 1) x n sp := by
  obtain ⟨fa, fd, hm, F, hb⟩ := G.ok
  refine ⟨⟨fa, fd, ps, hm, F.kp, hb, hn, F.ok S (fun vs H Q E h => by rw [hn]; exact hl vs H Q E h) fun cdv A outer s H vs Q E hr h => ?_⟩⟩
  obtain ⟨t, h1, h2⟩ := body cdv A outer s H E fa hr
  exact ⟨t, h1, h2 vs H Q E h⟩
/-! ### values of the dict -/
def evP : Option (Sta × Ev) → PyData
  | none => .none
  | some (s, e) => .tuple [s.d, .str e.s]
theorem evP_noL (p : Option (Sta × Ev)) : noL (evP p) = true := by
  cases p with
  | none => rfl
  | some p =>
    show (noL p.1.d && (true && true)) = true
    rw [sta_noL]
    rfl
def FdV (K : PySem.W.Frag) (H : Hp) (kvs : List Fe) (fps : List Fp) : Prop := Paired (fun x y => x.1 = y.1 ∧ Dp K H x.2.2 (evP y.2)) kvs fps
section
variable {K : PySem.W.Frag} {w : World} {H H' H1 : Hp} {kvs : List Fe} {fps : List Fp}
theorem FdV.mono (e : SameW H H') : ∀ {kvs : List Fe} {fps : List Fp}, FdV K H kvs fps → FdV K H' kvs fps
  | _, _, .nil => .nil
  | _, _, .cons h t => .cons ⟨h.1, dp_W e _ _ (imL_noL _ (evP_noL _)) h.2⟩ (FdV.mono e t)
theorem FdV.keys : ∀ {kvs : List Fe} {fps : List Fp}, FdV K H kvs fps → kvs.map (·.1) = fps.map (·.1)
  | _, _, .nil => rfl
  | _, _, .cons h t => by rw [List.map_cons, List.map_cons, h.1, FdV.keys t]
theorem FdV.len (h : FdV K H kvs fps) : kvs.length = fps.length := Paired.length h
theorem FdV.snoc {x : Fe} {y : Fp} : ∀ {kvs : List Fe} {fps : List Fp}, FdV K H kvs fps → x.1 = y.1 → Dp K H x.2.2 (evP y.2) → FdV K H (kvs ++ [x]) (fps ++ [y])
  | _, _, .nil, h1, h2 => .cons ⟨h1, h2⟩ .nil
  | _, _, .cons h t, h1, h2 => .cons h (FdV.snoc t h1 h2)
theorem getF_none_iff {s : Sta} : getF kvs s = none ↔ s ∉ kvs.map (·.1) := by
  constructor
  · exact getF_not
  · intro h
    unfold getF
    rw [Option.map_eq_none_iff, List.find?_eq_none]
    intro x hx hd
    exact h (List.mem_map.mpr ⟨x, hx, of_decide_eq_true hd⟩)
theorem FdV.has (h : FdV K H kvs fps) (s : Sta) : (getF kvs s).isSome = decide (s ∈ fps.map (·.1)) := by
  rw [← h.keys]
  cases hg : getF kvs s with
  | none => exact (decide_eq_false (getF_none_iff.mp hg)).symm
  | some v =>
    refine (decide_eq_true ?_).symm
    obtain ⟨b, hb⟩ := getF_mem hg
    exact List.mem_map.mpr ⟨_, hb, rfl⟩
end
/-- a list that stands whatever L is -/
def SqLx (K : PySem.W.Frag) (L : Addr) (H : Hp) (a : Addr) (xs : List V) : Prop := ∀ o, SqL K (upd H L o) a xs
theorem upd_upd {H : Hp} {a : Addr} {o o' : HO} : upd (upd H a o) a o' = upd H a o' := by
  funext b
  unfold upd
  split <;> rfl
theorem upd_self {H : Hp} {a : Addr} {o : HO} (h : H a = some o) : upd H a o = H := by
  funext b
  unfold upd
  split
  · rename_i e
    subst e
    exact h.symm
  · rfl
theorem same_upd2 {H H' : Hp} {L : Addr} {o : HO} (s : Same H H') : Same (upd H L o) (upd H' L o) := by
  intro a u e
  by_cases h : a = L
  · subst h
    rw [upd_same] at e ⊢
    exact e
  · rw [upd_ne h] at e ⊢
    exact s _ _ e
section
variable {K : PySem.W.Frag} {w : World} {L a : Addr} {H H' H1 : Hp} {xs : List V}
theorem SqLx.new (h : SqL K H a xs) (hL : H L = none) : SqLx K L H a xs := fun o => Same.seq (same_new hL) h
theorem SqLx.mono (s : Same H H') (h : SqLx K L H a xs) : SqLx K L H' a xs := fun o => Same.seq (same_upd2 s) (h o)
theorem SqLx.put {o : HO} (h : SqLx K L H a xs) : SqLx K L (upd H L o) a xs := fun o' => by rw [upd_upd]; exact h o'
theorem SqLx.at {o : HO} (h : SqLx K L H a xs) (e : H L = some o) : SqL K H a xs := by
  have := h o
  rwa [upd_self e] at this
theorem SqLx.other {F : Addr} {u o : HO} (h : SqLx K L H a xs) (e : H F = some u) (hu : isLT u = false) (hF : F ≠ L) : SqLx K L (upd H F o) a xs := fun o' => by
  refine sqL_LT (fun b v eb n => ?_) (h o')
  by_cases hb : b = L
  · subst hb
    rw [upd_same] at eb ⊢
    exact eb
  · rw [upd_ne hb] at eb ⊢
    have : b ≠ F := by
      rintro rfl
      rw [e] at eb
      cases eb
      rw [hu] at n
      cases n
    rw [upd_ne this]
    exact eb
theorem EnvOk.monoW {σ : L2.St} {env : DE} (e : SameW H H') (im : ∀ (i : Nat) (d : PyData), env[i]? = some (some d) → imR d = true) (E : EnvOk K w H σ env) : EnvOk K w H' σ env :=
  ⟨E.len, fun i d h => let ⟨v, h1, h2⟩ := E.get i d h; ⟨v, h1, rp_W e (im i d h) h2⟩⟩
end
/-- what a turn of ways knows -/
structure WI (P : Program) (w : World) (K : PySem.W.Frag) (H0 : Hp) (F L Wa : Addr) (wv : List V) (ws : List Sta) (env : DE) (acc : Acc) (σ : L2.St) (H : Hp) : Prop where
  ev : EnvOk K w H σ env
  im : ∀ (i : Nat) (d : PyData), env[i]? = some (some d) → imR d = true
  vF : σ[3]? = some (some (.ref F))
  vL : σ[5]? = some (some (.ref L))
  fd : ∃ kvs, H F = some (fdO P w F kvs) ∧ FdK K H kvs ∧ FdV K H kvs acc.1
  ls : ∃ lv, H L = some (.lst lv) ∧ DpAll K H lv (acc.2.map Sta.d)
  wt : SqLx K L H Wa wv
  wd : DpAll K H wv (ws.map Sta.d)
  s0 : Same H0 H
  nF : H0 F = none
  nL : H0 L = none
section
variable {P : Program} {w : World} {K : PySem.W.Frag} {H0 H H' : Hp} {F L Wa : Addr} {wv : List V} {ws : List Sta} {env : DE} {acc : Acc} {σ : L2.St}
theorem stas_im : ∀ l : List Sta, imLAll (l.map Sta.d) = true
  | [] => rfl
  | s :: r => by
    show (imL s.d && imLAll (r.map Sta.d)) = true
    rw [imL_noL _ (sta_noL s), stas_im r]
    rfl
theorem WI.mono (s : Same H H') (I : WI P w K H0 F L Wa wv ws env acc σ H) : WI P w K H0 F L Wa wv ws env acc σ H' := by
  obtain ⟨kvs, f1, f2, f3⟩ := I.fd
  obtain ⟨lv, l1, l2⟩ := I.ls
  exact ⟨I.ev.mono s, I.im, I.vF, I.vL, ⟨kvs, s _ _ f1, f2.monoW (Same.toW s), f3.mono (Same.toW s)⟩, ⟨lv, s _ _ l1, dpAll_W (Same.toW s) _ _ (stas_im _) l2⟩, I.wt.mono s, dpAll_W (Same.toW s) _ _ (stas_im _) I.wd, I.s0.trans s, I.nF, I.nL⟩
theorem WI.set {v : V} {d : PyData} (I : WI P w K H0 F L Wa wv ws env acc σ H) (i : Nat) (h3 : i ≠ 3) (h5 : i ≠ 5) (r : Rp K w H v d) (n : imR d = true) : WI P w K H0 F L Wa wv ws (env.set i (some d)) acc (σ.set i (some v)) H := by
  refine ⟨I.ev.set i r, fun j e h => ?_, by rw [List.getElem?_set_ne h3]; exact I.vF, by rw [List.getElem?_set_ne h5]; exact I.vL, I.fd, I.ls, I.wt, I.wd, I.s0, I.nF, I.nL⟩
  by_cases hj : j = i
  · subst hj
    have hl : j < env.length := by
      have := (List.getElem?_eq_some_iff.mp h).1
      simpa using this
    rw [List.getElem?_set_self hl] at h
    cases h
    exact n
  · rw [List.getElem?_set_ne (Ne.symm hj)] at h
    exact I.im j e h
/-- a weaker word of the slots -/
theorem WI.forget (I : WI P w K H0 F L Wa wv ws env acc σ H) (i : Nat) : WI P w K H0 F L Wa wv ws (env.set i none) acc σ H := by
  refine ⟨⟨by rw [List.length_set]; exact I.ev.len, fun j e h => I.ev.get j e ?_⟩, fun j e h => I.im j e ?_, I.vF, I.vL, I.fd, I.ls, I.wt, I.wd, I.s0, I.nF, I.nL⟩
  all_goals
    by_cases hj : j = i
    · subst hj
      have hl : j < env.length := by
        have := (List.getElem?_eq_some_iff.mp h).1
        simpa using this
      rw [List.getElem?_set_self hl] at h
      cases h
    · rw [List.getElem?_set_ne (Ne.symm hj)] at h
      exact h
theorem WI.FL (I : WI P w K H0 F L Wa wv ws env acc σ H) : F ≠ L := by
  obtain ⟨kvs, f1, _, _⟩ := I.fd
  obtain ⟨lv, l1, _⟩ := I.ls
  rintro rfl
  rw [f1] at l1
  cases l1
end
end Dn
set_option Elab.async false
set_option linter.all false
set_option maxRecDepth 100000
set_option maxHeartbeats 4000000
namespace Dn
open PySem PySem.Spec L2 PyProof.Rows
section
variable {P : Program} {w : World} {K : PySem.W.Frag} {H0 H H' : Hp} {F L Wa : Addr} {wv : List V} {ws : List Sta} {env : DE} {acc : Acc} {σ : L2.St}
theorem headS_stas {lv : List V} {l : List Sta} (h : DpAll K H lv (l.map Sta.d)) : headS lv = false := by
  cases l with
  | nil => cases h; rfl
  | cons s r =>
    cases h with
    | cons h1 h2 =>
      obtain ⟨b, rfl⟩ := sta_ref h1
      rfl
theorem fdO_imm {kvs : List Fe} : isImm (fdO P w F kvs) = false := rfl
theorem WI.add (I : WI P w K H0 F L Wa wv ws env acc σ H) {kvs : List Fe} {lv : List V} (f1 : H F = some (fdO P w F kvs)) (f2 : FdK K H kvs) (f3 : FdV K H kvs acc.1) (l1 : H L = some (.lst lv)) (l2 : DpAll K H lv (acc.2.map Sta.d))
    {t : Sta} {p : Option (Sta × Ev)} {b : Addr} {v : V} (ht : Dp K H (.ref b) t.d) (hv : Dp K H v (evP p)) (hn : t ∉ acc.1.map (·.1)) :
    WI P w K H0 F L Wa wv ws env (acc.1 ++ [(t, p)], acc.2 ++ [t]) σ (upd (upd H F (fdO P w F (kvs ++ [(t, b, v)]))) L (.lst (lv ++ [.ref b]))) := by
  have hFL := I.FL
  have s1 : SameW H (upd H F (fdO P w F (kvs ++ [(t, b, v)]))) := sameW_upd f1 fdO_imm
  have l1' : upd H F (fdO P w F (kvs ++ [(t, b, v)])) L = some (.lst lv) := by rw [upd_ne hFL.symm]; exact l1
  have s2 : SameW H (upd (upd H F (fdO P w F (kvs ++ [(t, b, v)]))) L (.lst (lv ++ [.ref b]))) := s1.trans (sameW_upd l1' (headS_stas l2))
  have hok : okV v = true := by
    cases p with
    | none => cases hv; rfl
    | some p => cases hv; rfl
  have hg : getF kvs t = none := getF_none_iff.mpr (by rw [f3.keys]; exact hn)
  refine ⟨I.ev.monoW s2 I.im, I.im, I.vF, I.vL, ⟨kvs ++ [(t, b, v)], ?_, (f2.monoW s2).add (sta_W s2 ht) hg hok, (f3.mono s2).snoc rfl (dp_W s2 _ _ (imL_noL _ (evP_noL _)) hv)⟩, ⟨lv ++ [.ref b], upd_same, ?_⟩, ?_, dpAll_W s2 _ _ (stas_im _) I.wd, ?_, I.nF, I.nL⟩
  · rw [upd_ne hFL, upd_same]
  · show DpAll K _ (lv ++ [.ref b]) ((acc.2 ++ [t]).map Sta.d)
    rw [List.map_append]
    exact dpAll_append (dpAll_W s2 _ _ (stas_im _) l2) (.cons (sta_W s2 ht) .nil)
  · exact (I.wt.other f1 rfl hFL).put
  · intro a o e
    rw [upd_ne (ne_of_none e I.nL), upd_ne (ne_of_none e I.nF)]
    exact I.s0 _ _ e
end
/-- a dict comprehension over a list that stays -/
theorem dcF_list {P : Program} {w : World} {K : PySem.W.Frag} {a : Addr} {xs : List V} {g : TG} {tk tv : TE} {vs : List Nat} {σ : L2.St} {H1 : Hp} {D : Addr} {Qd : Hp → Prop} (Pv : Nat → Hp → Prop) (h0 : Pv 0 (upd H1 D (fdO P w D []))) (hl : ∀ i H, Pv i H → SqL K H a xs)
    (hs : ∀ i x H, xs[i]? = some x → Pv i H → g x (L2.wipe σ vs) H fun σ2 H2 => L2.wipe σ2 vs = L2.wipe σ vs ∧ tk σ2 H2 fun y H4 => tv σ2 H4 fun z H5 => ∃ kvs k b, y = .ref b ∧ H5 D = some (fdO P w D kvs) ∧ FdK K H5 kvs ∧ Dp K H5 y k.d ∧ getF kvs k = none ∧ okV z = true ∧ kvs.length < sizeLine ∧ Pv (i + 1) (upd H5 D (fdO P w D (kvs ++ [(k, b, z)]))))
    (hd : ∀ H, Pv xs.length H → Qd H) : ∃ W : Nat → Nat → Hp → Prop, (∃ m, W 0 m (upd H1 D (fdO P w D []))) ∧ ∀ i m H, W i m H →
      ((Itl K a).stop i H ∧ Qd H) ∨ ((Itl K a).go i H ∧ ∃ Nx : Hp → Prop, (∀ H', Nx H' → ∃ m', m' < m ∧ W (i + 1) m' H') ∧ ∀ x H', (Itl K a).yld i H x H' → g x (L2.wipe σ vs) H' fun σ2 H2 => L2.wipe σ2 vs = L2.wipe σ vs ∧
        tk σ2 H2 fun y H4 => tv σ2 H4 fun z H5 => ∃ kvs k b, y = .ref b ∧ H5 D = some (fdO P w D kvs) ∧ FdK K H5 kvs ∧ Dp K H5 y k.d ∧ getF kvs k = none ∧ okV z = true ∧ kvs.length < sizeLine ∧ Nx (upd H5 D (fdO P w D (kvs ++ [(k, b, z)])))) := by
  refine ⟨fun i m H => m = xs.length - i ∧ i ≤ xs.length ∧ Pv i H, ⟨xs.length, by simp, Nat.zero_le _, h0⟩, ?_⟩
  rintro i m H ⟨rfl, hi, p⟩
  have q := hl i H p
  by_cases hlt : i < xs.length
  · refine .inr ⟨⟨xs, xs[i], q, by simp [hlt]⟩, Pv (i + 1), fun H' p' => ⟨xs.length - (i + 1), by omega, rfl, hlt, p'⟩, fun x H' ⟨e, y⟩ => ?_⟩
    subst e
    exact hs i x _ (y xs q) p
  · have e : i = xs.length := by omega
    subst e
    exact .inl ⟨⟨xs, q, Nat.le_refl _⟩, hd H p⟩
theorem same_none {H H' : Hp} {a : Addr} (s : Same H H') (h : H' a = none) : H a = none := by
  cases e : H a with
  | none => rfl
  | some o => rw [s _ _ e] at h; cases h
theorem get_set {σ : L2.St} {i : Nat} {v : V} (h : i < σ.length) : (σ.set i (some v))[i]? = some (some v) := List.getElem?_set_self h
theorem dpAll_at {K : PySem.W.Frag} {H : Hp} {α : Type} {f : α → PyData} : ∀ {vs : List V} {l : List α} {i : Nat} {v : V}, DpAll K H vs (l.map f) → vs[i]? = some v → ∃ x, l[i]? = some x ∧ Dp K H v (f x)
  | [], _, i, v, _, e => by simp at e
  | v :: vs, [], _, _, h, _ => by cases h
  | v :: vs, x :: r, 0, u, h, e => by
    cases h with
    | cons h1 h2 =>
      simp only [List.getElem?_cons_zero, Option.some.injEq] at e
      subst e
      exact ⟨x, rfl, h1⟩
  | v :: vs, x :: r, i + 1, u, h, e => by
    cases h with
    | cons h1 h2 =>
      obtain ⟨y, h3, h4⟩ := dpAll_at h2 (by simpa using e)
      exact ⟨y, by simpa using h3, h4⟩
theorem foldl_take {α β : Type} {f : β → α → β} {b : β} {l : List α} {i : Nat} {x : α} (h : l[i]? = some x) : (l.take (i + 1)).foldl f b = f ((l.take i).foldl f b) x := by
  rw [List.take_add_one, h]
  simp [List.foldl_append]
theorem oth_noL (o : Oth) : noL o.d = true := by
  obtain ⟨a, b, c⟩ := o
  cases a <;> cases b <;> cases c <;> rfl
theorem evs_im : ∀ l : List Ev, imLAll (evL l) = true
  | [] => rfl
  | s :: r => by
    show (true && imLAll (evL r)) = true
    rw [evs_im r]
    rfl
def bWays (steps : List Stp) (o : Oth) (net : Net) : DE := [some (scrD steps), some o.d, some (.str net.s), none, none, none, none, none, none]
def spWays (P : Program) (w : World) (K : PySem.W.Frag) : Sp := fun vs H Q _ => ∃ steps o net U, RpAll K w H vs [scrD steps, Oth.d o, .str (Net.s net)] ∧ scrOk steps ∧ Bnd steps o net U ∧
  ∀ F H' kvs, Same H H' → H F = none → H' F = some (fdO P w F kvs) → FdK K H' kvs → FdV K H' kvs (waysF steps o net) → Q (.ref F) H'
abbrev nWays : List Str := ["script", "others", "net", "found", "waiting", "later", "state", "event", "other"]
section
variable {P : Program} {w : World} {K : PySem.W.Frag} {mg : Str → Option Value} {base : Heap}
theorem sc_ways : FnScope nWays ["script", "others", "net"] (defScope st_ways) := ⟨rfl, rfl, rfl, by decide +kernel, rfl, by decide +kernel, by decide +kernel⟩
theorem ok_ways (T : Tx w K mg) : SOk P w K mg base 9 "ways" 3 (spWays P w K) := by
  refine sok_of 3 rfl T.g_ways sc_ways (fun vs H Q E ⟨steps, o, net, U, r, _⟩ => by rw [r.length]; rfl) fun cd A outer s H0 E fa hr => ?_
  have hu : (A.deeper (envOfC "ways" (defScope st_ways) s.heap.objs.size fa cd)).units + 64 < cLine := hr.units
  refine ⟨_, pss_cons (ps_setDcF (i := 3) (own := [("state", 6)]) (Nat.lt_of_le_of_lt (Nat.add_le_add_left (by decide) _) hu) rfl sc_ways.nd rfl rfl (sw_trueD rfl rfl rfl rfl) (pi_list (d_call0 (ok_firsts T) (hr.mono (by decide)))) (blkOk_by (N := nWays) (sc := defScope st_ways) (by decide +kernel))
      (fun _ _ _ _ _ => pg_name (i := 6) sc_ways.nd rfl (Or.inl rfl)) (fun _ _ _ _ _ => pv 6) (fun _ _ _ _ _ => pe_non))
    (pss_cons (ps_set (i := 4) sc_ways.nd rfl (Or.inl rfl) (d_call0 (ok_firsts T) (hr.mono (by decide))))
    (pss_cons (ps_while (PassesOwn.never) (pt_cmpR (op_ne_nil (Nat.lt_of_le_of_lt (Nat.le_add_right _ 64) hu)) (pv 4) (pe_lst pa_nil) (by rfl))
      (pss_cons (ps_set (i := 5) sc_ways.nd rfl (Or.inl rfl) (pe_lst pa_nil))
      (pss_cons (ps_for (PassesOwn.never) rfl (pi_list (pv 4)) (pg_name (i := 6) sc_ways.nd rfl (Or.inl rfl))
        (pss_one (ps_for (PassesOwn.never) rfl (pi_list (d_call (ok_events_in T) (hr.mono (by decide)) (a_cons (d_var 0) (a_cons (d_var 6) (a_cons (d_var 1) (a_cons (d_var 2) a_nil)))))) (pg_name (i := 7) sc_ways.nd rfl (Or.inl rfl))
          (pss_cons (ps_set (i := 8) sc_ways.nd rfl (Or.inl rfl) (d_call (ok_stepped T) (hr.mono (by decide)) (a_cons (d_var 0) (a_cons (d_var 6) (a_cons (d_var 7) (a_cons (d_var 2) a_nil))))))
          (pss_one (ps_if (pt_cmpR (op_notin_fd (Nat.lt_of_le_of_lt (Nat.add_le_add_left (by decide) _) hu)) (pv 8) (pv 3) (by rfl))
            (pss_cons (ps_if (pt_cmpR op_eq (pe_callB call_len_fd (by rfl) T.b_len PySem.boot_len (pa_cons (pv 3) pa_nil)) (d_glob T.c_MOST_STATES) (by rfl)) (pss_one ps_never) pss_nil)
            (pss_cons (ps_asg (pe_tup (pa_cons (pv 6) (pa_cons (pv 7) pa_nil))) (pg_sub (pv 3) (pv 8) (set_fd (Nat.lt_of_le_of_lt (Nat.add_le_add_left (by decide) _) hu))))
            (pss_one (ps_expr (pe_bm PySem.F.plainAttrs_list PySem.F.slot_list_append PySem.F.type_list_append mt_append (pv 5) (pa_cons (pv 8) pa_nil)))))) pss_nil))))))
      (pss_one (ps_set (i := 4) sc_ways.nd rfl (Or.inl rfl) (pv 5))))))
    (pss_one (ps_ret (pv 3))))), ?_⟩
  rintro vs H0 Q E ⟨steps, o, net, U, r, so, B, q⟩
  have E0 : EnvOk K w H0 (L2.start nWays vs) (bWays steps o net) := start_ok (Ns := nWays) r
  have big : (5000 : Nat) < sizeLine := by decide
  -- found
  refine ⟨_, _, E0, e_firsts, fun v H1 s1 r1 => ?_⟩
  obtain ⟨a, xs, rfl, h1, h2⟩ := rp_lst r1
  refine ⟨a, rfl, ⟨xs, h1⟩, fun F hF => ?_⟩
  refine dcF_list (xs := xs) (fun j H => Same H1 H ∧ ∃ kvs, H F = some (fdO P w F kvs) ∧ FdK K H kvs ∧ FdV K H kvs ((firsts.take j).map fun s => (s, none))) ⟨same_new hF, [], upd_same, ⟨fun _ h => (by cases h), .nil, fun _ h => (by cases h)⟩, .nil⟩ (fun j H p => Same.seq p.1 h1)
    (fun j x H hj p => ?_) fun H p => ?_
  · obtain ⟨s2, kvs, f1, f2, f3⟩ := p
    obtain ⟨t, ht, hd⟩ := dpAll_at (l := firsts) h2 hj
    obtain ⟨b, rfl⟩ := sta_ref hd
    have hd := dp_mono s2 _ _ hd
    have hj2 : j < 4 := (List.getElem?_eq_some_iff.mp ht).1
    have hnk : t ∉ ((firsts.take j).map fun s => ((s, none) : Fp)).map (·.1) := by
      rw [List.map_map]
      show t ∉ (firsts.take j).map id
      rw [List.map_id]
      have nd : firsts.Nodup := by decide
      intro hm
      obtain ⟨i, hi, e⟩ := List.mem_iff_getElem.mp hm
      have hi2 : i < j := by rw [List.length_take] at hi; omega
      rw [List.getElem_take] at e
      have ht2 : firsts[j]'(by show j < 4; exact hj2) = t := (List.getElem?_eq_some_iff.mp ht).2
      have := (List.getElem_inj nd).mp (e.trans ht2.symm)
      omega
    refine ⟨by rw [wipe_set (by simp), wipe_wipe], .ref b, get_set (by rw [L2.wipe_length, E0.len]; exact (show 6 < 9 by decide)), kvs, t, b, rfl, f1, f2, hd, getF_none_iff.mpr (by rw [f3.keys]; exact hnk), rfl, ?_, ?_, ?_⟩
    · rw [f3.len, List.length_map, List.length_take]
      exact Nat.lt_of_le_of_lt (Nat.min_le_right _ _) (by decide)
    · intro c ob e
      rw [upd_ne (ne_of_none e hF)]
      exact s2 _ _ e
    · have sw : SameW H (upd H F (fdO P w F (kvs ++ [(t, b, .non)]))) := sameW_upd f1 fdO_imm
      refine ⟨_, upd_same, (f2.monoW sw).add (sta_W sw hd) (getF_none_iff.mpr (by rw [f3.keys]; exact hnk)) rfl, ?_⟩
      rw [List.take_add_one, ht]
      show FdV K _ (kvs ++ [(t, b, .non)]) ((firsts.take j ++ [t]).map fun s => (s, none))
      rw [List.map_append]
      exact (f3.mono sw).snoc rfl .non
  obtain ⟨s2, kvs, f1, f2, f3⟩ := p
  have hx4 : xs.length = 4 := by rw [dpAll_length h2, List.length_map]; rfl
  rw [hx4] at f3
  -- waiting
  have hl0 : (L2.start nWays vs).length = 9 := E0.len
  have E1 : EnvOk K w H ((L2.start nWays vs).set 3 (some (.ref F))) (bWays steps o net) := by
    refine ⟨by rw [List.length_set]; exact E0.len, fun i d h => ?_⟩
    obtain ⟨v, g1, g2⟩ := E0.get i d h
    have : i ≠ 3 := by rintro rfl; cases h
    exact ⟨v, by rw [List.getElem?_set_ne (Ne.symm this)]; exact g1, g2.mono (s1.trans s2)⟩
  refine ⟨_, _, E1, e_firsts, fun v H2 s3 r2 => ?_⟩
  obtain ⟨a2, xs2, rfl, g1, g2⟩ := rp_lst r2
  -- while
  have sk := Same.toW s3
  have nF0 : H0 F = none := same_none s1 hF
  have s03 : Same H0 H2 := (s1.trans s2).trans s3
  refine ⟨fun m σ H => ∃ i, m = waysN - i ∧ i ≤ waysN ∧ ∃ Wa wv kvs, EnvOk K w H σ (bWays steps o net) ∧ σ[3]? = some (some (.ref F)) ∧ σ[4]? = some (some (.ref Wa)) ∧ H F = some (fdO P w F kvs) ∧ FdK K H kvs ∧ FdV K H kvs (waysAt steps o net i).1 ∧ SqL K H Wa wv ∧ DpAll K H wv ((waysAt steps o net i).2.map Sta.d) ∧ Same H0 H, ⟨_, 0, rfl, Nat.zero_le _, a2, xs2, kvs, ?_, ?_, ?_, s3 _ _ f1, f2.monoW sk, f3.mono sk, g1, g2, s03⟩, ?_⟩
  · refine ⟨by rw [List.length_set]; exact E1.len, fun i d h => ?_⟩
    obtain ⟨v, k1, k2⟩ := E1.get i d h
    have : i ≠ 4 := by rintro rfl; cases h
    exact ⟨v, by rw [List.getElem?_set_ne (Ne.symm this)]; exact k1, k2.mono s3⟩
  · rw [List.getElem?_set_ne (by decide)]
    exact get_set (by rw [hl0]; decide)
  · exact get_set (by rw [List.length_set, hl0]; decide)
  rintro m σ H ⟨i, rfl, hi, Wa, wv, kvs, Ew, v3, v4, f1, f2, f3, w1, w2, s0⟩
  have hsl : σ.length = 9 := Ew.len
  refine ⟨.ref Wa, v4, Nat.zero_le _, fun p hp => ⟨Wa, p, wv, rfl, rfl, Same.seq (same_new hp) w1, SqL.of upd_same, _, rfl, ?_⟩⟩
  have sp := same_new (o := .lst []) hp
  cases hwv : wv with
  | nil =>
    -- the end
    have he : (waysAt steps o net i).2 = [] := by
      have := dpAll_length w2
      rw [hwv, List.length_map] at this
      exact List.eq_nil_of_length_eq_zero this.symm
    have e := waysF_of hi he
    exact ⟨.ref F, v3, q F _ kvs (s0.trans sp) nF0 (sp _ _ f1) (f2.monoW (Same.toW sp)) (e ▸ f3.mono (Same.toW sp))⟩
  | cons x0 r0 =>
    have hwn : (waysAt steps o net i).2 ≠ [] := by
      intro h
      rw [h, hwv] at w2
      cases w2
    have hin : i < waysN := by
      refine Nat.lt_of_le_of_ne hi fun h => hwn ?_
      rw [h]
      exact waysAt_end B
    have AO := waysAt_ok B i
    generalize hA : waysAt steps o net i = A0 at *
    obtain ⟨fps, ws⟩ := A0
    simp only at f3 w2 AO hwn
    refine ⟨fun σ' H' => ∃ Wa wv kvs, EnvOk K w H' σ' (bWays steps o net) ∧ σ'[3]? = some (some (.ref F)) ∧ σ'[4]? = some (some (.ref Wa)) ∧ H' F = some (fdO P w F kvs) ∧ FdK K H' kvs ∧ FdV K H' kvs (waysAt steps o net (i + 1)).1 ∧ SqL K H' Wa wv ∧ DpAll K H' wv ((waysAt steps o net (i + 1)).2.map Sta.d) ∧ Same H0 H', fun σ' H' h => ⟨_, ?_, i + 1, rfl, hin, h⟩, ?_⟩
    · show waysN - (i + 1) < waysN - i
      omega
    refine ⟨Nat.zero_le _, fun L hL => ?_⟩
    have sL := same_new (o := .lst []) hL
    have s0L := (s0.trans sp).trans sL
    have sa := sp.trans sL
    have nL : H L = none := same_none sp hL
    have IM : ∀ (j : Nat) (d : PyData), (bWays steps o net)[j]? = some (some d) → imR d = true := by
      intro j d h
      match j, h with
      | 0, h => cases h; exact scr_im steps
      | 1, h => cases h; exact imL_noL _ (oth_noL o)
      | 2, h => cases h; rfl
      | 3, h => cases h
      | 4, h => cases h
      | 5, h => cases h
      | 6, h => cases h
      | 7, h => cases h
      | 8, h => cases h
      | n + 9, h => cases h
    have I0 : WI P w K H0 F L Wa wv ws (bWays steps o net) (fps, []) (σ.set 5 (some (.ref L))) (upd (upd H p (.lst [])) L (.lst [])) := by
      refine ⟨⟨by rw [List.length_set]; exact Ew.len, fun j d h => ?_⟩, IM, by rw [List.getElem?_set_ne (by decide)]; exact v3, get_set (by rw [hsl]; decide), ⟨kvs, sa _ _ f1, f2.monoW (Same.toW sa), f3.mono (Same.toW sa)⟩, ⟨[], upd_same, .nil⟩, (SqLx.new (Same.seq sp w1) hL).put, dpAll_W (Same.toW sa) _ _ (stas_im _) w2, s0L, nF0, same_none (s0.trans sp) hL⟩
      obtain ⟨v, k1, k2⟩ := Ew.get j d h
      have : j ≠ 5 := by rintro rfl; cases h
      exact ⟨v, by rw [List.getElem?_set_ne (Ne.symm this)]; exact k1, k2.mono sa⟩
    refine ⟨.ref Wa, by rw [List.getElem?_set_ne (by decide)]; exact v4, Wa, rfl, ⟨wv, I0.wt.at upd_same⟩, ?_⟩
    refine for_list (xs := wv) (fun j σ H => WI P w K H0 F L Wa wv ws (bWays steps o net) ((ws.take j).foldl (addAll steps o net) (fps, [])) σ H) I0 (fun j σ H _ I => ?_) (fun j x σ H hj I => ?_) fun σ H I => ?_
    · obtain ⟨lv, l1, _⟩ := I.ls
      exact I.wt.at l1
    · -- a state
      obtain ⟨st, hst, hd⟩ := dpAll_at (l := ws) I.wd hj
      have stU : st ∈ U := AO.sub _ (AO.later _ (List.mem_of_getElem? hst))
      have stO := B.right st stU
      have I1 := I.set 6 (by decide) (by decide) (.dat hd) (imL_noL _ (sta_noL st))
      have am : AccOk U ((ws.take j).foldl (addAll steps o net) (fps, [])) := AccOk.foldAll B _ _ (fun s hs => AO.sub s (AO.later s (List.mem_of_mem_take hs))) ⟨AO.nd, AO.sub, fun _ h => (by cases h), Nat.zero_le _⟩
      rw [foldl_take hst]
      generalize (ws.take j).foldl (addAll steps o net) (fps, []) = acc at I1 am
      refine ⟨_, _, I1.ev, e_events_in steps st o net so stO.step, fun v H2 s2 r2 => ?_⟩
      obtain ⟨Ea, evv, rfl, k1, k2⟩ := rp_lst r2
      refine ⟨Ea, rfl, ⟨evv, k1⟩, ?_⟩
      refine for_list (xs := evv) (fun k σ H => WI P w K H0 F L Wa wv ws ((bWays steps o net).set 6 (some st.d)) (((eventsIn steps st o net).take k).foldl (addOne steps net st) acc) σ H ∧ SqL K H Ea evv ∧ DpAll K H evv (evL (eventsIn steps st o net))) ⟨I1.mono s2, k1, k2⟩ (fun k σ H _ p => p.2.1) (fun k x σ H hk p => ?_) fun σ H p => ?_
      · -- an event
        obtain ⟨I, k1, k2⟩ := p
        obtain ⟨ev, hev, hde⟩ := dpAll_at (f := fun ev : Ev => .str ev.s) (l := eventsIn steps st o net) k2 hk
        cases hde
        have hem := List.mem_of_getElem? hev
        have hcan : canHappen (stp steps st.step) st ev o net = true := (List.mem_filter.mp hem).2
        have hh : headS evv = true := by
          cases hq : evv with
          | nil => rw [hq] at hk; cases hk
          | cons y r =>
            rw [hq] at k2
            cases hl : eventsIn steps st o net with
            | nil => rw [hl] at k2; cases k2
            | cons e' r' =>
              rw [hl] at k2
              cases k2 with
              | cons a1 a2 => cases a1; rfl
        have am2 : AccOk U (((eventsIn steps st o net).take k).foldl (addOne steps net st) acc) := AccOk.fold B stU _ _ (fun e he => List.mem_of_mem_take he) am
        rw [foldl_take hev]
        generalize ((eventsIn steps st o net).take k).foldl (addOne steps net st) acc = ac at I am2
        have I1 := I.set (v := .str ev.s) (d := .str ev.s) 7 (by decide) (by decide) (.dat (.str _)) rfl
        refine ⟨_, _, I1.ev, e_stepped steps st ev o net so stO hcan, fun v H2 s2 r2 => ?_⟩
        have I2 := (I1.mono s2).set 8 (by decide) (by decide) r2 (imL_noL _ (sta_noL _))
        have hd2 := r2.dp rfl
        obtain ⟨bt, rfl⟩ := sta_ref hd2
        have k1' : SqL K H2 Ea evv := Same.seq s2 k1
        have k2' := dpAll_mono s2 _ _ k2
        have hsl2 : σ.length = 9 := I.ev.len
        obtain ⟨kvs, f1, f2, f3⟩ := I2.fd
        have v8 : ((σ.set 7 (some (.str ev.s))).set 8 (some (V.ref bt)))[8]? = some (some (.ref bt)) := get_set (by rw [List.length_set, hsl2]; decide)
        refine ⟨.ref bt, v8, .ref F, I2.vF, F, kvs, stepped steps st ev net, rfl, .inl f1, f2, hd2, _, rfl, ?_⟩
        rw [f3.has]
        have fin : ∀ {σ' : L2.St} {H' : Hp} {ac' : Acc}, WI P w K H0 F L Wa wv ws ((((bWays steps o net).set 6 (some st.d)).set 7 (some (.str ev.s))).set 8 (some (stepped steps st ev net).d)) ac' σ' H' → SqL K H' Ea evv → DpAll K H' evv (evL (eventsIn steps st o net)) →
            WI P w K H0 F L Wa wv ws ((bWays steps o net).set 6 (some st.d)) ac' σ' H' ∧ SqL K H' Ea evv ∧ DpAll K H' evv (evL (eventsIn steps st o net)) := fun I h1 h2 => ⟨(I.forget 8).forget 7, h1, h2⟩
        by_cases hmem : stepped steps st ev net ∈ ac.1.map (·.1)
        · have e1 : addOne steps net st ac ev = ac := if_pos hmem
          rw [decide_eq_true hmem, e1]
          exact fin I2 k1' k2'
        · have e1 : addOne steps net st ac ev = (ac.1 ++ [(stepped steps st ev net, some (st, ev))], ac.2 ++ [stepped steps st ev net]) := if_neg hmem
          have am3 : AccOk U (addOne steps net st ac ev) := am2.one B stU hem
          rw [decide_eq_false hmem, e1]
          rw [e1] at am3
          have hlen : kvs.length < 5000 := by
            have h1 := am3.len
            have h2 := B.few
            rw [f3.len]
            simp only [List.length_append, List.length_singleton] at h1
            omega
          refine ⟨.ref F, I2.vF, F, kvs, rfl, .inl f1, f2, _, .int 5000, I2.ev, rfl, fun v5 H3 s3 r3 => ?_⟩
          cases rp_int r3
          have I3 := I2.mono s3
          have hne : ((kvs.length : Nat) : Int) ≠ 5000 := by omega
          refine ⟨rfl, _, rfl, ?_⟩
          rw [decide_eq_false (by intro h; exact hne (V.int.inj h))]
          obtain ⟨v6, g6, q6⟩ := I3.ev.get 6 st.d rfl
          obtain ⟨v7, g7, q7⟩ := I3.ev.get 7 (.str ev.s) rfl
          refine ⟨v6, g6, v7, g7, (show 2 ≤ sizeLine by decide), fun p hp => ?_⟩
          have sP := same_new (o := .tup [v6, v7]) hp
          have I4 := I3.mono sP
          have s23 := s3.trans sP
          have F2 := f2.monoW (Same.toW s23)
          have F3 := f3.mono (Same.toW s23)
          obtain ⟨lv, l1, l2⟩ := I4.ls
          have hd4 := dp_mono s23 _ _ hd2
          have hpv : Dp K (upd H3 p (.tup [v6, v7])) (.ref p) (evP (some (st, ev))) := .tup (SqT.of upd_same) (.cons (dp_mono sP _ _ (q6.dp rfl)) (.cons (dp_mono sP _ _ (q7.dp rfl)) .nil))
          refine ⟨.ref F, I4.vF, .ref bt, v8, F, kvs, _, rfl, s23 _ _ f1, F2, hd4, getF_none_iff.mpr (by rw [F3.keys]; exact hmem), rfl, Nat.lt_trans hlen big, fun b hb => ?_⟩
          obtain rfl : bt = b := by cases hb; rfl
          have I5 := I4.add (s23 _ _ f1) F2 F3 l1 l2 hd4 hpv hmem
          have hFL := I4.FL
          have lz : lv.length < sizeLine := by
            refine Nat.lt_trans (m := 5000) ?_ big
            have h1 := dpAll_length l2
            have h2 := am2.short
            have h3 := f3.len
            rw [List.length_map] at h1
            omega
          have l1' : upd (upd H3 p (.tup [v6, v7])) F (fdO P w F (kvs ++ [(stepped steps st ev net, bt, .ref p)])) L = some (.lst lv) := by rw [upd_ne hFL.symm]; exact l1
          refine ⟨.ref L, I4.vL, .inl ⟨rfl, lv, SqL.of l1'⟩, .ref bt, v8, L, lv, .ref bt, rfl, rfl, l1', lz, ?_⟩
          have sw1 : SameW (upd H3 p (.tup [v6, v7])) (upd (upd H3 p (.tup [v6, v7])) F (fdO P w F (kvs ++ [(stepped steps st ev net, bt, .ref p)]))) := sameW_upd (s23 _ _ f1) fdO_imm
          have sw2 := sw1.trans (sameW_upd (o := .lst (lv ++ [.ref bt])) l1' (headS_stas l2))
          refine fin I5 (sqL_W ((Same.toW s23).trans sw2) hh k1') (dpAll_W ((Same.toW s23).trans sw2) _ _ (evs_im _) k2')
      · have hle : evv.length = (eventsIn steps st o net).length := by rw [dpAll_length k2]; exact List.length_map _
        have I2 := p.1
        rw [hle, List.take_length] at I2
        exact I2.forget 6
    · -- the layer's end
      have hle : wv.length = ws.length := by rw [dpAll_length w2]; exact List.length_map _
      rw [hle, List.take_length] at I
      have hA1 : waysAt steps o net (i + 1) = ws.foldl (addAll steps o net) (fps, []) := by
        show layerOf steps o net (waysAt steps o net i) = _
        rw [hA]
        rfl
      obtain ⟨kvs, f1, f2, f3⟩ := I.fd
      obtain ⟨lv, l1, l2⟩ := I.ls
      have hsl : σ.length = 9 := I.ev.len
      refine ⟨.ref L, I.vL, L, lv, kvs, ⟨by rw [List.length_set]; exact I.ev.len, fun j d h => ?_⟩, by rw [List.getElem?_set_ne (by decide)]; exact I.vF, get_set (by rw [hsl]; decide), f1, f2, by rw [hA1]; exact f3, SqL.of l1, by rw [hA1]; exact l2, I.s0⟩
      obtain ⟨v, k1, k2⟩ := I.ev.get j d h
      have : j ≠ 4 := by rintro rfl; cases h
      exact ⟨v, by rw [List.getElem?_set_ne (Ne.symm this)]; exact k1, k2⟩
end
end Dn
set_option Elab.async false
set_option linter.all false
set_option maxRecDepth 100000
set_option maxHeartbeats 4000000
namespace Dn
open PySem PySem.Spec L2 PyProof.Rows
/-! ### row_to -/
inductive Chain (fps : List Fp) : Sta → List Ev → Sta → Prop
  | nil {s : Sta} : (s, none) ∈ fps → Chain fps s [] s
  | step {s s' f : Sta} {e : Ev} {es : List Ev} : (s, some (s', e)) ∈ fps → Chain fps s' es f → Chain fps s (es ++ [e]) f
theorem FdV.get {K : PySem.W.Frag} {H : Hp} : ∀ {kvs : List Fe} {fps : List Fp} {s : Sta} {p : Option (Sta × Ev)}, FdV K H kvs fps → (kvs.map (·.1)).Nodup → (s, p) ∈ fps → ∃ v, getF kvs s = some v ∧ Dp K H v (evP p)
  | _, _, s, p, .nil, _, h => by cases h
  | x :: kvs, y :: fps, s, p, .cons h1 t, nd, h => by
    rw [List.map_cons, List.nodup_cons] at nd
    by_cases hx : x.1 = s
    · refine ⟨x.2.2, by simp [getF, hx], ?_⟩
      rcases List.mem_cons.mp h with h | h
      · subst h
        exact h1.2
      · exact absurd (by rw [FdV.keys t, hx]; exact List.mem_map.mpr ⟨_, h, rfl⟩) nd.1
    · rcases List.mem_cons.mp h with h | h
      · subst h
        exact absurd h1.1 hx
      · obtain ⟨v, h3, h4⟩ := FdV.get t nd.2 h
        refine ⟨v, ?_, h4⟩
        unfold getF at h3 ⊢
        rw [List.find?_cons]
        simp only [hx, decide_false]
        exact h3
theorem FdV.monoT {K : PySem.W.Frag} {H H' : Hp} (e : SameT H H') : ∀ {kvs : List Fe} {fps : List Fp}, FdV K H kvs fps → FdV K H' kvs fps
  | _, _, .nil => .nil
  | _, _, .cons h t => .cons ⟨h.1, dp_sameT e _ _ (evP_noL _) h.2⟩ (FdV.monoT e t)
theorem Same.toT {H H' : Hp} (h : Same H H') : SameT H H' := fun a o e _ => h a o e
theorem evs_dp {K : PySem.W.Frag} {H : Hp} : ∀ l : List Ev, DpAll K H (l.map fun e => V.str e.s) (evL l)
  | [] => .nil
  | e :: r => .cons (.str _) (evs_dp r)
def spRow (P : Program) (w : World) (K : PySem.W.Frag) : Sp := fun vs H Q _ => ∃ F v kvs fps s es f, vs = [.ref F, v] ∧ H F = some (fdO P w F kvs) ∧ FdK K H kvs ∧ FdV K H kvs fps ∧ Dp K H v (Sta.d s) ∧ Chain fps s es f ∧ es.length < 10000 ∧
  ∀ v' H', Same H H' → Dp K H' v' (.tuple [.str f.srv.s, .list (evL es)]) → Q v' H'
section
variable {P : Program} {w : World} {K : PySem.W.Frag} {mg : Str → Option Value} {base : Heap}
theorem sc_row_to : FnScope ["found", "state", "row", "event"] ["found", "state"] (defScope st_row_to) := ⟨rfl, rfl, rfl, by decide +kernel, rfl, by decide +kernel, by decide +kernel⟩
theorem ok_row_to (T : Tx w K mg) : SOk P w K mg base 1 "row_to" 2 (spRow P w K) := by
  refine sok_of 2 rfl T.g_row_to sc_row_to (fun vs H Q E ⟨F, v, kvs, fps, s, es, f, e, _⟩ => by rw [e]; rfl) fun cd A outer s H0 E fa hr => ?_
  have hu : (A.deeper (envOfC "row_to" (defScope st_row_to) s.heap.objs.size fa cd)).units + 64 < cLine := hr.units
  have hu16 := Nat.lt_of_le_of_lt (Nat.add_le_add_left (show 16 ≤ 64 by decide) (A.deeper (envOfC "row_to" (defScope st_row_to) s.heap.objs.size fa cd)).units) hu
  refine ⟨_, pss_cons (ps_set (i := 2) sc_row_to.nd rfl (Or.inl rfl) (pe_lst pa_nil))
    (pss_cons (ps_while PassesOwn.never (pt_cmp (pc_notN (pe_ix (ix_fd hu16) (pv 0) (pv 1) (fun _ _ => rfl))))
      (pss_cons (ps_asg (pe_ix (ix_fd hu16) (pv 0) (pv 1) (fun _ _ => rfl)) (pg_tup (n := 2) rfl (pgs_cons (pg_name (i := 1) sc_row_to.nd rfl (Or.inl rfl)) (pgs_cons (pg_name (i := 3) sc_row_to.nd rfl (Or.inl rfl)) pgs_nil))))
      (pss_one (ps_expr (pe_bm PySem.F.plainAttrs_list PySem.F.slot_list_append PySem.F.type_list_append mt_append (pv 2) (pa_cons (pv 3) pa_nil))))))
    (pss_one (ps_ret (pe_tup (pa_cons (pe_ix ix_tup (pv 1) pe_int (fun _ _ => rfl)) (pa_cons (pe_revL (pv 2)) pa_nil)))))), ?_⟩
  rintro vs H0 Q E ⟨F, v, kvs, fps, s, es0, f, rfl, f1, f2, f3, hd, ch, hl, q⟩
  refine ⟨Nat.zero_le _, fun R hR => ?_⟩
  have sR := same_new (o := .lst []) hR
  refine ⟨fun m σ H => ∃ s es v lv done, m = es.length ∧ es0 = es ++ done ∧ σ.length = 4 ∧ σ[0]? = some (some (.ref F)) ∧ σ[1]? = some (some v) ∧ σ[2]? = some (some (.ref R)) ∧ H F = some (fdO P w F kvs) ∧ FdK K H kvs ∧ FdV K H kvs fps ∧ Dp K H v (Sta.d s) ∧ Chain fps s es f ∧
    H R = some (.lst lv) ∧ lv = done.reverse.map (fun e => V.str e.s) ∧ Same H0 H, ⟨es0.length, s, es0, v, [], [], rfl, by simp, rfl, rfl, rfl, rfl, sR _ _ f1, f2.monoW (Same.toW sR), f3.mono (Same.toW sR), dp_mono sR _ _ hd, ch, upd_same, rfl, sR⟩, ?_⟩
  rintro m σ H ⟨s, es, v, lv, done, rfl, rfl, hsl, v0, v1, v2, f1, f2, f3, hd, ch, hR2, hlv, sH⟩
  cases ch with
  | nil hm =>
    obtain ⟨u, g1, g2⟩ := f3.get f2.nd hm
    cases g2
    obtain ⟨b, rfl⟩ := sta_ref hd
    refine ⟨.ref F, v0, .ref b, v1, F, kvs, f, .non, rfl, .inl f1, f2, hd, g1, false, rfl, ?_⟩
    cases hd with
    | tup ht ha =>
      rename_i xs
      obtain ⟨x0, r0⟩ : ∃ x0 r0, xs = x0 :: r0 := by
        cases ha with
        | cons h1 h2 => exact ⟨_, _, rfl⟩
      obtain ⟨r0, rfl⟩ := r0
      cases ha with
      | cons h1 h2 =>
        cases h1
        refine ⟨.ref b, v1, b, _, 0, (.str f.srv.s), rfl, rfl, ht, atI_nat (j := 0) rfl, .ref R, v2, R, lv, rfl, SqL.of hR2, fun p hp => ⟨(show 2 ≤ sizeLine by decide), fun p2 hp2 => ?_⟩⟩
        have s1 := same_new (o := .lst lv.reverse) hp
        have s2 := same_new (o := .tup [.str f.srv.s, .ref p]) hp2
        refine q _ _ ((sH.trans s1).trans s2) (.tup (SqT.of upd_same) (.cons (.str _) (.cons (.lst (SqL.of (s2 _ _ upd_same)) ?_) .nil)))
        rw [hlv, ← List.map_reverse, List.reverse_reverse, List.nil_append]
        exact evs_dp _
  | step hm hc =>
    rename_i s' e es'
    obtain ⟨u, g1, g2⟩ := f3.get f2.nd hm
    cases g2 with
    | tup ht ha =>
      rename_i b xs
      obtain ⟨c, rfl⟩ := sta_ref hd
      refine ⟨.ref F, v0, .ref c, v1, F, kvs, s, .ref b, rfl, .inl f1, f2, hd, g1, true, rfl, ?_⟩
      cases ha with
      | cons h1 ha =>
        cases ha with
        | cons h2 ha =>
          cases ha
          cases h2
          rename_i v1'
          obtain ⟨c', rfl⟩ := sta_ref h1
          refine ⟨fun σ' H' => _, fun σ' H' h => ⟨es'.length, by simp, s', es', .ref c', lv ++ [.str e.s], e :: done, rfl, by simp, h⟩, ?_⟩
          refine ⟨.ref F, v0, .ref c, v1, F, kvs, s, .ref b, rfl, .inl f1, f2, hd, g1, b, _, rfl, ht, rfl, .ref c', [.str e.s], rfl, .str e.s, [], rfl, rfl, ?_⟩
          have hlz : lv.length < sizeLine := by
            refine Nat.lt_trans (m := 10000) ?_ (by decide)
            rw [hlv]
            simp only [List.length_append, List.length_cons, List.length_nil] at hl
            rw [List.length_map, List.length_reverse]
            omega
          refine ⟨.ref R, ?_, .inl ⟨rfl, lv, SqL.of hR2⟩, .str e.s, get_set (by rw [List.length_set, hsl]; decide), R, lv, .str e.s, rfl, rfl, hR2, hlz, ?_⟩
          · rw [List.getElem?_set_ne (by decide), List.getElem?_set_ne (by decide)]; exact v2
          have sT : SameT H (upd H R (.lst (lv ++ [.str e.s]))) := sameT_upd hR2
          have hRF : F ≠ R := by
            rintro rfl
            rw [f1] at hR2
            cases hR2
          refine ⟨by rw [List.length_set, List.length_set]; exact hsl, ?_, ?_, ?_, ?_, f2.monoT sT, f3.monoT sT, dp_sameT sT _ _ (sta_noL _) h1, hc, upd_same, by rw [hlv]; simp, ?_⟩
          · rw [List.getElem?_set_ne (by decide), List.getElem?_set_ne (by decide)]; exact v0
          · rw [List.getElem?_set_ne (by decide)]; exact get_set (by rw [hsl]; decide)
          · rw [List.getElem?_set_ne (by decide), List.getElem?_set_ne (by decide)]; exact v2
          · rw [upd_ne hRF]; exact f1
          · intro a o ea
            rw [upd_ne (ne_of_none ea hR)]
            exact sH _ _ ea
end
end Dn
set_option Elab.async false
set_option linter.all false
set_option maxRecDepth 100000
set_option maxHeartbeats 4000000
namespace Dn
open PySem PySem.Spec L2 PyProof.Rows
/-! ### bad_states, ways_for, keeps, breaking -/
def isBadS (steps : List Stp) (p : Pr) (s : Sta) : Bool := amiss (stp steps s.step) s p
def spBad (P : Program) (w : World) (K : PySem.W.Frag) : Sp := fun vs H Q _ => ∃ v0 F v2 v3 v4 kvs steps p o net, vs = [v0, .ref F, v2, v3, v4] ∧ RpAll K w H [v0, v2, v3, v4] [scrD steps, .str (Pr.s p), Oth.d o, .str (Net.s net)] ∧ H F = some (fdO P w F kvs) ∧ FdK K H kvs ∧
  (∀ x ∈ kvs, x.1.step < steps.length) ∧ kvs.length ≤ 5000 ∧ ∀ L lv H', Same H H' → H' L = some (.lst lv) → DpAll K H' lv (((kvs.map (·.1)).filter (isBadS steps p)).map Sta.d) → Q (.ref L) H'
abbrev nBad : List Str := ["script", "found", "promise", "others", "net", "state"]
section
variable {P : Program} {w : World} {K : PySem.W.Frag} {mg : Str → Option Value} {base : Heap}
theorem pe_lcF {X : Cx} {elt iter : Expr} {ifs : List Expr} {scope : Scope} {x : Str} {p pos : Pos} {td te : TE} {gc : DE → Option Bool} (i : Nat) (hc : X.calm = true) (hN : X.N.Nodup) (hi : PE X iter td) (ok : BlkOk X.N X.env.scope scope [(x, i)])
    (hg : ∀ s H C cl fp, PG (Blk X scope s H C cl fp) (.Name x p) (gName i)) (ht : ∀ s H C cl fp, PTs (Blk X scope s H C cl fp) ifs (tDT X.K X.w gc)) (he : ∀ s H C cl fp, PE (Blk X scope s H C cl fp) elt te)
    (hs : ∀ z, foldedSetIterable iter X.env z = pure z := by intro _; rfl) : PE X (.ListComp elt [⟨.Name x p, iter, ifs, 0⟩] scope pos) (tLockE (tLc (iFd X.prog X.w td) (gName i) (tDT X.K X.w gc) te [i])) :=
  pe_lock (pe_lc (own := [(x, i)]) hc hN (pi_fd hi) ok hg ht he hs)
theorem stas_noL : ∀ l : List Sta, noLAll (l.map Sta.d) = true
  | [] => rfl
  | s :: r => by
    show (noL s.d && noLAll (r.map Sta.d)) = true
    rw [sta_noL s, stas_noL r]
    rfl
theorem sc_bad_states : FnScope nBad ["script", "found", "promise", "others", "net"] (defScope st_bad_states) := ⟨rfl, rfl, rfl, by decide +kernel, rfl, by decide +kernel, by decide +kernel⟩
theorem ok_bad_states (T : Tx w K mg) : SOk P w K mg base 3 "bad_states" 5 (spBad P w K) := by
  refine sok_of 5 rfl T.g_bad_states sc_bad_states (fun vs H Q E ⟨v0, F, v2, v3, v4, kvs, steps, p, o, net, e, _⟩ => by rw [e]; rfl) fun cd A outer s H0 E fa hr => ?_
  refine ⟨_, pss_cons (ps_if (t_cmp (c_eq hr.units) (d_var 2) (d_glob T.c_ENDING) (by rfl)) pss_never pss_nil)
    (pss_one (ps_ret (pe_lcF 5 rfl sc_bad_states.nd (pv 1) (blkOk_by (N := nBad) (sc := defScope st_bad_states) (by decide +kernel)) (fun _ _ _ _ _ => pg_name (i := 5) sc_bad_states.nd rfl (Or.inl rfl))
      (fun _ _ _ _ _ => ts_one (t_val (d_call (ok_is_bad T) (hr.mono (by decide)) (a_cons (d_var 0) (a_cons (d_var 5) (a_cons (d_var 2) (a_cons (d_var 3) (a_cons (d_var 4) a_nil)))))))) (fun _ _ _ _ _ => pv 5)))), ?_⟩
  rintro vs H Q E ⟨v0, F, v2, v3, v4, kvs, steps, p, o, net, rfl, r, f1, f2, hst, hlen, q⟩
  have EE : EnvOk K w H (L2.start nBad [v0, .ref F, v2, v3, v4]) [some (scrD steps), none, some (.str p.s), some o.d, some (.str net.s), none] := by
    refine ⟨rfl, fun i d h => ?_⟩
    match i, h with
    | 0, h => obtain ⟨v, e1, e2⟩ := r.get (i := 0) rfl; cases e1; cases h; exact ⟨_, rfl, e2⟩
    | 1, h => cases h
    | 2, h => obtain ⟨v, e1, e2⟩ := r.get (i := 1) rfl; cases e1; cases h; exact ⟨_, rfl, e2⟩
    | 3, h => obtain ⟨v, e1, e2⟩ := r.get (i := 2) rfl; cases e1; cases h; exact ⟨_, rfl, e2⟩
    | 4, h => obtain ⟨v, e1, e2⟩ := r.get (i := 3) rfl; cases e1; cases h; exact ⟨_, rfl, e2⟩
    | 5, h => cases h
    | n + 6, h => cases h
  have IM : ∀ (i : Nat) (d : PyData), [some (scrD steps), none, some (.str p.s), some o.d, some (.str net.s), none][i]? = some (some d) → imR d = true := by
    intro i d h
    match i, h with
    | 0, h => cases h; exact scr_im steps
    | 1, h => cases h
    | 2, h => cases h; rfl
    | 3, h => cases h; exact imL_noL _ (oth_noL o)
    | 4, h => cases h; rfl
    | 5, h => cases h
    | n + 6, h => cases h
  refine ⟨_, false, EE, by cases p <;> kernel_rfl, fun H1 s1 => ?_⟩
  refine ⟨F, fdO P w F kvs, s1 _ _ f1, trivial, fun od => ?_⟩
  refine ⟨.ref F, rfl, F, od, kvs, rfl, upd_same, fun D hD => ?_⟩
  have sw : SameW H1 (upd H1 F (.frz od (fdO P w F kvs))) := sameW_upd (s1 _ _ f1) fdO_imm
  generalize hHL : upd H1 F (.frz od (fdO P w F kvs)) = HL at sw hD
  have hF : HL F = some (.frz od (fdO P w F kvs)) := by rw [← hHL]; exact upd_same
  have hFD : F ≠ D := by rintro rfl; rw [hF] at hD; cases hD
  have E1 := (EE.mono s1).monoW sw IM
  have k1 : FdK K HL kvs := (f2.monoW (Same.toW s1)).monoW sw
  refine lc_it (walk_fd (P := P) (w := w)) (fun j H' => Same HL H' ∧ ∃ lv, H' D = some (.lst lv) ∧ DpAll K H' lv ((((kvs.take j).map (·.1)).filter (isBadS steps p)).map Sta.d) ∧ lv.length ≤ j) ⟨same_new hD, [], upd_same, .nil, Nat.le_refl _⟩ (fun j H' _ I => I.1 _ _ hF) (fun j x H2 H2' hj I y => ?_) fun H2 I => ?_
  · obtain ⟨rfl, e, he, rfl⟩ := y
    obtain ⟨sI, lv, l1, l2, l3⟩ := I
    have hm : e ∈ kvs := List.mem_of_getElem? he
    have hde := dp_mono sI _ _ (k1.keys e hm)
    refine ⟨by rw [wipe_set (by simp), wipe_wipe], _, isBadS steps p e.1, env_lc (E1.mono sI) (.dat hde), ?_, fun H3 s3 => ?_⟩
    · exact x_test (x_app (ds := [scrD steps, e.1.d, .str p.s, o.d, .str net.s]) rfl (e_is_bad steps e.1 p o net _ (stp_at (hst e hm))))
    have ht : (kvs.take (j + 1)).map (·.1) = (kvs.take j).map (·.1) ++ [e.1] := by
      rw [List.take_add_one, he]
      simp
    rw [ht, List.filter_append, List.map_append]
    cases hb : isBadS steps p e.1 with
    | false =>
      have hz : [e.1].filter (isBadS steps p) = [] := by simp [hb]
      rw [hz, List.map_nil, List.append_nil]
      exact ⟨sI.trans s3, lv, s3 _ _ l1, dpAll_mono s3 _ _ l2, Nat.le_succ_of_le l3⟩
    | true =>
      have hz : [e.1].filter (isBadS steps p) = [e.1] := by simp [hb]
      rw [hz]
      refine ⟨.ref e.2.1, get_set (by rw [L2.wipe_length]; show 5 < 6; decide), lv, s3 _ _ l1, Nat.lt_of_le_of_lt l3 (Nat.lt_of_lt_of_le hj (Nat.le_trans hlen (by decide))), ?_, lv ++ [.ref e.2.1], upd_same, ?_, ?_⟩
      · intro a ob ea
        rw [upd_ne (ne_of_none ea hD)]
        exact s3 _ _ (sI _ _ ea)
      · have sT : SameT H3 (upd H3 D (.lst (lv ++ [.ref e.2.1]))) := sameT_upd (s3 _ _ l1)
        exact dpAll_append (dpAll_sameT sT _ _ (stas_noL _) (dpAll_mono s3 _ _ l2)) (.cons (dp_sameT sT _ _ (sta_noL _) (dp_mono s3 _ _ hde)) .nil)
      · rw [List.length_append]; exact Nat.succ_le_succ l3
  · obtain ⟨sI, lv, l1, l2, l3⟩ := I
    rw [List.take_length] at l2
    refine ⟨sI _ _ hF, q D lv _ ?_ (by rw [upd_ne hFD.symm]; exact l1) ?_⟩
    · intro a ob ea
      by_cases ha : a = F
      · subst ha
        rw [f1] at ea
        cases ea
        exact upd_same
      · rw [upd_ne ha]
        refine sI _ _ ?_
        rw [← hHL, upd_ne ha]
        exact s1 _ _ ea
    · have sT : SameW H2 (upd H2 F (fdO P w F kvs)) := sameW_upd (sI _ _ hF) rfl
      exact dpAll_W sT _ _ (stas_im _) l2
end
end Dn
set_option Elab.async false
set_option linter.all false
set_option maxRecDepth 100000
set_option maxHeartbeats 4000000
namespace Dn
open PySem PySem.Spec L2 PyProof.Rows
def proms : PyData := .tuple [.str "kept", .str "gone", .str "once", .str "true", .str "ends"]
def spWaysFor (P : Program) (w : World) (K : PySem.W.Frag) : Sp := fun vs H Q _ => ∃ steps o net U p, RpAll K w H vs [scrD steps, Oth.d o, .str (Net.s net), .str (Pr.s p), proms] ∧ scrOk steps ∧ Bnd steps o net U ∧
  ∀ F H' kvs, Same H H' → H F = none → H' F = some (fdO P w F kvs) → FdK K H' kvs → FdV K H' kvs (waysF steps o net) → Q (.ref F) H'
def badsOf (steps : List Stp) (o : Oth) (net : Net) (p : Pr) : List Sta := ((waysF steps o net).map (·.1)).filter (isBadS steps p)
def spKeeps (P : Program) (w : World) (K : PySem.W.Frag) : Sp := fun vs H Q _ => ∃ steps o net U p, RpAll K w H vs [scrD steps, Oth.d o, .str (Net.s net), .str (Pr.s p)] ∧ scrOk steps ∧ Bnd steps o net U ∧ ∀ H', Same H H' → Q (.bl (badsOf steps o net p).isEmpty) H'
def spBreaking (P : Program) (w : World) (K : PySem.W.Frag) : Sp := fun vs H Q _ => ∃ steps o net U p, RpAll K w H vs [scrD steps, Oth.d o, .str (Net.s net), .str (Pr.s p)] ∧ scrOk steps ∧ Bnd steps o net U ∧
  ((badsOf steps o net p = [] ∧ ∀ H', Same H H' → Q .non H') ∨ ∃ s r es f, badsOf steps o net p = s :: r ∧ Chain (waysF steps o net) s es f ∧ es.length < 10000 ∧ ∀ v H', Same H H' → Dp K H' v (.tuple [.str f.srv.s, .tuple (evL es)]) → Q v H')
section
variable {P : Program} {w : World} {K : PySem.W.Frag} {mg : Str → Option Value} {base : Heap}
theorem sc_ways_for : FnScope ["script", "others", "net", "promise", "some", "found"] ["script", "others", "net", "promise", "some"] (defScope st_ways_for) := ⟨rfl, rfl, rfl, by decide +kernel, rfl, by decide +kernel, by decide +kernel⟩
theorem ok_ways_for (T : Tx w K mg) : SOk P w K mg base 10 "ways_for" 5 (spWaysFor P w K) := by
  refine sok_of 5 rfl T.g_ways_for sc_ways_for (fun vs H Q E ⟨steps, o, net, U, p, r, _⟩ => by rw [r.length]; rfl) fun cd A outer s H0 E fa hr => ?_
  refine ⟨_, pss_cons (ps_expr (d_call (ok_need_others T) (hr.mono (by decide)) (a_cons (d_var 1) a_nil)))
    (pss_cons (ps_expr (d_call (ok_need_net T) (hr.mono (by decide)) (a_cons (d_var 2) a_nil)))
    (pss_cons (ps_set (i := 5) sc_ways_for.nd rfl (Or.inl rfl) (p_call (ok_ways T) hr (a_cons (d_var 0) (a_cons (d_var 1) (a_cons (d_var 2) a_nil)))))
    (pss_cons (ps_expr (d_call (ok_need_promise T) (hr.mono (by decide)) (a_cons (d_var 3) (a_cons (d_var 4) a_nil))))
    (pss_one (ps_ret (pv 5)))))), ?_⟩
  rintro vs H0 Q E ⟨steps, o, net, U, p, r, so, B, q⟩
  have E0 := start_ok (Ns := ["script", "others", "net", "promise", "some", "found"]) r
  refine ⟨_, _, E0, e_need_others o, fun v1 H1 s1 _ => ⟨_, _, E0.mono s1, e_need_net net, fun v2 H2 s2 _ => ?_⟩⟩
  have E2 := E0.mono (s1.trans s2)
  refine ⟨_, _, E2, rfl, fun vs3 H3 s3 r3 => ⟨steps, o, net, U, r3, so, B, fun F H4 kvs s4 n4 f1 f2 f3 => ?_⟩⟩
  have s34 := s3.trans s4
  have nF : H2 F = none := same_none s3 n4
  have E4 : EnvOk K w H4 ((L2.start ["script", "others", "net", "promise", "some", "found"] vs).set 5 (some (.ref F))) (([scrD steps, Oth.d o, .str (Net.s net), .str (Pr.s p), proms].map some ++ List.replicate (6 - 5) none)) := by
    refine ⟨by rw [List.length_set]; exact E2.len, fun i d h => ?_⟩
    obtain ⟨v, g1, g2⟩ := E2.get i d h
    have : i ≠ 5 := by rintro rfl; cases h
    exact ⟨v, by rw [List.getElem?_set_ne (Ne.symm this)]; exact g1, g2.mono s34⟩
  refine ⟨_, _, E4, e_need_promise p, fun v5 H5 s5 _ => ⟨.ref F, get_set (by rw [E0.len]; show 5 < 6; decide), ?_⟩⟩
  exact q F H5 kvs (((s1.trans s2).trans s34).trans s5) (same_none (s1.trans s2) nF) (s5 _ _ f1) (f2.monoW (Same.toW s5)) (f3.mono (Same.toW s5))
theorem waysF_sub {steps : List Stp} {o : Oth} {net : Net} {U : List Sta} (B : Bnd steps o net U) : (∀ s ∈ (waysF steps o net).map (·.1), s ∈ U) ∧ (waysF steps o net).length ≤ 5000 := by
  unfold waysF
  generalize waysN = n
  have AO := waysAt_ok B n
  exact ⟨AO.sub, Nat.le_trans AO.len B.few⟩
theorem fdv_steps {steps : List Stp} {o : Oth} {net : Net} {U : List Sta} {H : Hp} {kvs : List Fe} (B : Bnd steps o net U) (f3 : FdV K H kvs (waysF steps o net)) : (∀ x ∈ kvs, x.1.step < steps.length) ∧ kvs.length ≤ 5000 := by
  have h := waysF_sub B
  generalize waysF steps o net = fps at f3 h
  refine ⟨fun x hx => (B.right _ (h.1 _ ?_)).step, ?_⟩
  · rw [← f3.keys]
    exact List.mem_map.mpr ⟨_, hx, rfl⟩
  · rw [f3.len]
    exact h.2
abbrev nKeeps : List Str := ["script", "others", "net", "promise", "found"]
theorem sc_keeps : FnScope nKeeps ["script", "others", "net", "promise"] (defScope st_keeps) := ⟨rfl, rfl, rfl, by decide +kernel, rfl, by decide +kernel, by decide +kernel⟩
theorem ok_keeps (T : Tx w K mg) : SOk P w K mg base 11 "keeps" 4 (spKeeps P w K) := by
  refine sok_of 4 rfl T.g_keeps sc_keeps (fun vs H Q E ⟨steps, o, net, U, p, r, _⟩ => by rw [r.length]; rfl) fun cd A outer s H0 E fa hr => ?_
  have hu : (A.deeper (envOfC "keeps" (defScope st_keeps) s.heap.objs.size fa cd)).units + 64 < cLine := hr.units
  refine ⟨_, pss_cons (ps_set (i := 4) sc_keeps.nd rfl (Or.inl rfl) (p_call (ok_ways_for T) hr (a_cons (d_var 0) (a_cons (d_var 1) (a_cons (d_var 2) (a_cons (d_var 3) (a_cons (d_glob T.c_PROMISES) a_nil)))))))
    (pss_one (ps_ret (pe_cmpR (op_eq_nil (Nat.lt_of_le_of_lt (Nat.le_add_right _ 64) hu)) (p_call (ok_bad_states T) (hr.mono (by decide)) (pa_cons (pv 0) (pa_cons (pv 4) (pa_cons (pv 3) (pa_cons (pv 1) (pa_cons (pv 2) pa_nil)))))) (pe_lst pa_nil) (by rfl)))), ?_⟩
  rintro vs H0 Q E ⟨steps, o, net, U, p, r, so, B, q⟩
  have E0 := start_ok (Ns := nKeeps) r
  refine ⟨_, _, E0, rfl, fun vs3 H3 s3 r3 => ⟨steps, o, net, U, p, r3, so, B, fun F H4 kvs s4 n4 f1 f2 f3 => ?_⟩⟩
  have s34 := s3.trans s4
  have hl0 : (L2.start nKeeps vs).length = 5 := E0.len
  have gt : ∀ (i : Nat) (d : PyData), i ≠ 4 → ([scrD steps, Oth.d o, .str (Net.s net), .str (Pr.s p)].map some ++ List.replicate (5 - 4) none)[i]? = some (some d) → ∃ v, ((L2.start nKeeps vs).set 4 (some (.ref F)))[i]? = some (some v) ∧ Rp K w H4 v d := fun i d hi h => by
    obtain ⟨v, g1, g2⟩ := E0.get i d h
    exact ⟨v, by rw [List.getElem?_set_ne (Ne.symm hi)]; exact g1, g2.mono s34⟩
  obtain ⟨v0, g0, r0⟩ := gt 0 _ (by decide) rfl
  obtain ⟨v1, g1, r1⟩ := gt 1 _ (by decide) rfl
  obtain ⟨v2, g2, r2⟩ := gt 2 _ (by decide) rfl
  obtain ⟨v3, g3, r3⟩ := gt 3 _ (by decide) rfl
  have hst := fdv_steps B f3
  refine ⟨v0, g0, .ref F, get_set (by rw [hl0]; decide), v3, g3, v1, g1, v2, g2, v0, F, v3, v1, v2, kvs, steps, p, o, net, rfl, .cons r0 (.cons r3 (.cons r1 (.cons r2 .nil))), f1, f2, hst.1, hst.2, fun L lv H5 s5 l1 l2 => ⟨Nat.zero_le _, fun z hz => ?_⟩⟩
  have s6 := same_new (o := .lst []) hz
  refine ⟨L, z, lv, rfl, rfl, Same.seq s6 (SqL.of l1), SqL.of upd_same, ?_⟩
  have e : lv.isEmpty = (badsOf steps o net p).isEmpty := by
    rw [f3.keys] at l2
    have hl := dpAll_length l2
    rw [List.length_map] at hl
    show lv.isEmpty = (((waysF steps o net).map (·.1)).filter (isBadS steps p)).isEmpty
    cases lv <;> cases hb : ((waysF steps o net).map (·.1)).filter (isBadS steps p) <;> first | rfl | (rw [hb] at hl; cases hl)
  rw [e]
  exact q _ ((s34.trans s5).trans s6)
abbrev nBrk : List Str := ["script", "others", "net", "promise", "found", "bad", "server", "row", "some", "event"]
theorem sc_breaking : FnScope nBrk ["script", "others", "net", "promise"] (defScope st_breaking) := ⟨rfl, rfl, rfl, by decide +kernel, rfl, by decide +kernel, by decide +kernel⟩
theorem ok_breaking (T : Tx w K mg) : SOk P w K mg base 11 "breaking" 4 (spBreaking P w K) := by
  refine sok_of 4 rfl T.g_breaking sc_breaking (fun vs H Q E ⟨steps, o, net, U, p, r, _⟩ => by rw [r.length]; rfl) fun cd A outer s H0 E fa hr => ?_
  have hu : (A.deeper (envOfC "breaking" (defScope st_breaking) s.heap.objs.size fa cd)).units + 64 < cLine := hr.units
  refine ⟨_, pss_cons (ps_set (i := 4) sc_breaking.nd rfl (Or.inl rfl) (p_call (ok_ways_for T) hr (a_cons (d_var 0) (a_cons (d_var 1) (a_cons (d_var 2) (a_cons (d_var 3) (a_cons (d_glob T.c_PROMISES) a_nil)))))))
    (pss_cons (ps_set (i := 5) sc_breaking.nd rfl (Or.inr rfl) (p_call (ok_bad_states T) (hr.mono (by decide)) (pa_cons (pv 0) (pa_cons (pv 4) (pa_cons (pv 3) (pa_cons (pv 1) (pa_cons (pv 2) pa_nil)))))))
    (pss_cons (ps_if (pt_cmpR (op_eq_nil (Nat.lt_of_le_of_lt (Nat.le_add_right _ 64) hu)) (pv 5) (pe_lst pa_nil) (by rfl)) (pss_one (ps_ret pe_non)) pss_nil)
    (pss_cons (ps_asg (p_call (ok_row_to T) (hr.mono (by decide)) (pa_cons (pv 4) (pa_cons (pe_ix ix_list (pv 5) pe_int (fun _ _ => rfl)) pa_nil))) (pg_tup (n := 2) rfl (pgs_cons (pg_name (i := 6) sc_breaking.nd rfl (Or.inl rfl)) (pgs_cons (pg_name (i := 7) sc_breaking.nd rfl (Or.inl rfl)) pgs_nil))))
    (pss_cons (ps_if (t_cmp c_in (d_var 3) (d_tup (a_cons (d_glob T.c_KEPT) (a_cons (d_glob T.c_TAKEN) a_nil))) (by rfl)) pss_never pss_nil)
    (pss_one (ps_ret (d_tup (a_cons (d_var 6) (a_cons (d_callTy b_tuple T.b_tuple (by rfl) (a_cons (d_var 7) a_nil)) a_nil))))))))), ?_⟩
  rintro vs H0 Q E ⟨steps, o, net, U, p, r, so, B, q⟩
  have E0 := start_ok (Ns := nBrk) r
  refine ⟨_, _, E0, rfl, fun vs3 H3 s3 r3 => ⟨steps, o, net, U, p, r3, so, B, fun F H4 kvs s4 n4 f1 f2 f3 => ?_⟩⟩
  have s34 := s3.trans s4
  have hl0 : (L2.start nBrk vs).length = 10 := E0.len
  have gt : ∀ (i : Nat) (d : PyData), i ≠ 4 → ([scrD steps, Oth.d o, .str (Net.s net), .str (Pr.s p)].map some ++ List.replicate (10 - 4) none)[i]? = some (some d) → ∃ v, ((L2.start nBrk vs).set 4 (some (.ref F)))[i]? = some (some v) ∧ Rp K w H4 v d := fun i d hi h => by
    obtain ⟨v, g1, g2⟩ := E0.get i d h
    exact ⟨v, by rw [List.getElem?_set_ne (Ne.symm hi)]; exact g1, g2.mono s34⟩
  obtain ⟨v0, g0, r0⟩ := gt 0 _ (by decide) rfl
  obtain ⟨v1, g1, r1⟩ := gt 1 _ (by decide) rfl
  obtain ⟨v2, g2, r2⟩ := gt 2 _ (by decide) rfl
  obtain ⟨v3, g3, r3⟩ := gt 3 _ (by decide) rfl
  have hst := fdv_steps B f3
  have hl1 : ((L2.start nBrk vs).set 4 (some (.ref F))).length = 10 := by rw [List.length_set]; exact hl0
  have g4 : ((L2.start nBrk vs).set 4 (some (.ref F)))[4]? = some (some (.ref F)) := get_set (by rw [hl0]; decide)
  refine ⟨v0, g0, .ref F, g4, v3, g3, v1, g1, v2, g2, v0, F, v3, v1, v2, kvs, steps, p, o, net, rfl, .cons r0 (.cons r3 (.cons r1 (.cons r2 .nil))), f1, f2, hst.1, hst.2, fun L lv H5 s5 l1 l2 => ?_⟩
  rw [f3.keys] at l2
  change DpAll K H5 lv ((badsOf steps o net p).map Sta.d) at l2
  generalize ((L2.start nBrk vs).set 4 (some (.ref F))) = σ1 at g0 g1 g2 g3 g4 hl1
  have g5 : (σ1.set 5 (some (V.ref L)))[5]? = some (some (.ref L)) := get_set (by rw [hl1]; decide)
  refine ⟨.ref L, g5, Nat.zero_le _, fun z hz => ?_⟩
  have s6 := same_new (o := .lst []) hz
  have s56 := s5.trans s6
  refine ⟨L, z, lv, rfl, rfl, Same.seq s6 (SqL.of l1), SqL.of upd_same, _, rfl, ?_⟩
  rcases q with ⟨hb, q⟩ | ⟨s, rs, es, f, hb, ch, hle, q⟩
  · rw [hb] at l2
    cases l2
    exact q _ (s34.trans s56)
  · rw [hb] at l2
    cases l2 with
    | cons d1 d2 =>
      rename_i b0 lr
      refine ⟨.ref F, by rw [List.getElem?_set_ne (by decide)]; exact g4, .ref L, g5, L, _, 0, b0, rfl, rfl, Same.seq s6 (SqL.of l1), atI_nat (j := 0) rfl, ?_⟩
      refine ⟨F, b0, kvs, waysF steps o net, s, es, f, rfl, s56 _ _ f1, f2.monoW (Same.toW s56), f3.mono (Same.toW s56), dp_mono s6 _ _ d1, ch, hle, fun v' H7 s7 d7 => ?_⟩
      cases d7 with
      | tup ht ha =>
        rename_i a7 xs7
        cases ha with
        | cons h1 ha =>
          cases ha with
          | cons h2 ha =>
            cases ha
            cases h1
            rename_i v7
            refine ⟨a7, _, rfl, ht, rfl, .str f.srv.s, [v7], rfl, v7, [], rfl, rfl, ?_⟩
            have EE : EnvOk K w H7 (((σ1.set 5 (some (V.ref L))).set 6 (some (.str f.srv.s))).set 7 (some v7)) [some (scrD steps), some o.d, some (.str net.s), some (.str p.s), none, none, some (.str f.srv.s), some (.list (evL es)), none, none] := by
              refine ⟨by simp [hl1], fun i d h => ?_⟩
              have s57 := s56.trans s7
              have low : ∀ {i : Nat} {v : V}, i < 5 → σ1[i]? = some (some v) → (((σ1.set 5 (some (V.ref L))).set 6 (some (.str f.srv.s))).set 7 (some v7))[i]? = some (some v) := fun {i v} hi e => by
                rw [List.getElem?_set_ne (by omega), List.getElem?_set_ne (by omega), List.getElem?_set_ne (by omega)]
                exact e
              match i, h with
              | 0, h => cases h; exact ⟨_, low (by decide) g0, r0.mono s57⟩
              | 1, h => cases h; exact ⟨_, low (by decide) g1, r1.mono s57⟩
              | 2, h => cases h; exact ⟨_, low (by decide) g2, r2.mono s57⟩
              | 3, h => cases h; exact ⟨_, low (by decide) g3, r3.mono s57⟩
              | 4, h => cases h
              | 5, h => cases h
              | 6, h =>
                cases h
                refine ⟨.str f.srv.s, ?_, .dat (.str _)⟩
                rw [List.getElem?_set_ne (by decide)]
                exact get_set (by rw [List.length_set, hl1]; decide)
              | 7, h => cases h; exact ⟨v7, get_set (by rw [List.length_set, List.length_set, hl1]; decide), .dat h2⟩
              | 8, h => cases h
              | 9, h => cases h
              | n + 10, h => cases h
            refine ⟨_, false, EE, by cases p <;> kernel_rfl, fun H8 s8 => ?_⟩
            refine ⟨_, _, EE.mono s8, by kernel_rfl, fun v9 H9 s9 r9 => q v9 H9 ?_ (r9.dp rfl)⟩
            exact (((s34.trans s56).trans s7).trans s8).trans s9
end
end Dn
set_option Elab.async false
set_option linter.all false
set_option maxRecDepth 100000
set_option maxHeartbeats 4000000
namespace PySem
open Sem (wp)
theorem dn_enum_new {v : Value} {o : Obj} {H : Heap → Prop} (B : Begins v o H) :
    Meets (Builtin.«enumerate.__new__» ⟨[.type "enumerate", v], []⟩) (fun _ R s => H s.heap ∧
      R (.ok (.ret (.ref (s.heap.push o).objs.size))) { s with heap := (s.heap.push o).push { cls := .type "enumerate", data := .fields #[.none, .bool false, .ref s.heap.objs.size, rawInt 0, .none, .none] } }) :=
  .of_wp fun prog w A R s h => by
    obtain ⟨hp, g, d, tk, os⟩ := s
    obtain ⟨h1, h⟩ := h
    have hsub := sub_enumerate
    have q1 : ∀ {A' : Around} {E : Value → Shared → Prop} {Q : Value → Shared → Prop}, Q (.ref hp.objs.size) ⟨hp.push o, g, d, tk, os⟩ → wpAny (model prog w) A' (pyIter v) Q E ⟨hp, g, d, tk, os⟩ := fun q => B.iter prog w _ _ ⟨hp, g, d, tk, os⟩ _ h1 q
    wp_walk using q1
    refine wpAny_stack_any fun st => wpAny_pure ?_
    split
    · rename_i c _ _ _ _ _
      cases (c == Value.type "enumerate") <;> (wp_walk using q1; exact ⟨_, rfl, h⟩)
    · wp_walk using q1
      exact ⟨_, rfl, h⟩
theorem dn_call_enum {prog : Program} {w : World} {A : Around} {E : Value → Shared → Prop} {s : Shared} {v : Value} {o : Obj} {H : Heap → Prop} {Q : Value → Shared → Prop} (B : Begins v o H) (h1 : H s.heap)
    (h : ∀ h', IsEnum h' (s.heap.objs.size + 1) s.heap.objs.size 0 .none → h'.get? s.heap.objs.size = some o → (∀ b o, s.heap.get? b = some o → h'.get? b = some o) → Q (.ref (s.heap.objs.size + 1)) { s with heap := h' }) :
    wpAny (model prog w) A (call (.type "enumerate") [v]) Q E s := by
  refine callType_new F.called_enumerate (by decide) (F.typeCall_enumerate_1 _) (F.newCall_enumerate_1 _) (fun obj => F.args_object_init_2 obj _) F.entry_enumerate_new (dn_enum_new B) ⟨h1, ?_⟩
  have hz : (s.heap.push o).objs.size = s.heap.objs.size + 1 := Heap.size_push ..
  show _ ∧ _
  have he := Heap.get?_push_size (s.heap.push o) (o := { cls := .type "enumerate", data := .fields #[.none, .bool false, .ref s.heap.objs.size, rawInt 0, .none, .none] }) rfl
  rw [hz] at he ⊢
  exact ⟨⟨_, he, rfl⟩, h _ he (Heap.get?_push_of_some _ (Heap.get?_push_size _ B.free)) fun b o x => Heap.get?_push_of_some _ (Heap.get?_push_of_some _ x)⟩
end PySem
namespace Dn
open PySem PySem.Spec L2 PyProof.Rows
/-- the tuple at a, each item in a new pair with its number -/
def IteT (K : PySem.W.Frag) (a : Addr) : It :=
  ⟨fun i H => ∃ (xs : List V) (x : V), SqT K H a xs ∧ xs[i]? = some x, fun i H v H' => ∃ T x, v = .ref T ∧ H T = none ∧ H' = upd H T (.tup [.int (i : Nat), x]) ∧ ∀ xs, SqT K H a xs → xs[i]? = some x, fun i H => ∃ xs : List V, SqT K H a xs ∧ xs.length = i⟩
theorem turn_enumT {P : Program} {w : World} {K : PySem.W.Frag} {elts : List Expr} {kk : Nat} {tpos : Pos} (a e it : Addr) (hae : a ≠ e) (hai : a ≠ it) :
    Turn P w K (.Tuple elts kk tpos) (IteT K a) [e, it] e (fun i h => (∃ old, IsEnum h e it ((i : Nat) : Int) old) ∧ h.IsTupleIter it a i ∧ e ≠ it) where
  mem := by simp
  obj := fun i h st b hb => by
    obtain ⟨⟨old, he⟩, ⟨o, ho, hc, hd⟩, _⟩ := st
    rcases List.mem_cons.mp hb with z | z
    · rw [z]; exact ⟨_, he, fun v q => nomatch q⟩
    · rw [List.mem_singleton.mp z]; exact ⟨o, ho, fun v q => by rw [hd] at q; nomatch q⟩
  keep := fun i h h' st k => let ⟨⟨old, he⟩, hi, hne⟩ := st; ⟨⟨old, k e (by simp) _ he⟩, hi.at fun o q => k it (by simp) o q, hne⟩
  item := by
    rintro Y rfl rfl rfl hc i pins s σ H E I hf ⟨⟨old, he⟩, hit, hne⟩ ⟨xs, x, hq, hx⟩
    obtain ⟨its, rv, p, hz⟩ := I.tuple hq
    obtain ⟨u, hu, ru⟩ := rv.get hx
    have hel : e < s.heap.objs.size := Heap.lt_size he
    have hil : it < s.heap.objs.size := by obtain ⟨_, q, _⟩ := hit; exact Heap.lt_size q
    have hlt : i < its.toArray.size := by
      have := (List.getElem?_eq_some_iff.mp hu).1
      simpa using this
    refine wpAny_pyNext_enum_itemD (Draws.tuple (prog := Y.prog) (w := Y.w) (A := Y.A.in1) (show Y.A.in1.handled = none from I.ok.hd hc) it a hai its.toArray) he ⟨hit, p⟩ hlt hne (by simp [hne, Ne.symm hae]) fun y h' tk hP ho hS hT hsz hk => ?_
    have hy : y = u := by
      have : its[i]? = some y := by simpa using hP
      rw [this] at hu
      exact Option.some.inj hu
    subst hy
    refine ⟨_, rfl, wpAny_letOwnedTupleGo_enum (s := { s with heap := h', toks := tk + 1 }) ho fun h'' he' sb => ?_⟩
    have hT2 : h''.get? s.heap.objs.size = some { cls := .type "tuple", data := .seq #[.int i tk, y] } := (sb.2 _ (Nat.ne_of_gt hel)).trans hT
    have new : ObjOk Y.prog Y.w (upd H s.heap.objs.size (.tup [.int (i : Nat), x])) h'' s.heap.objs.size (.tup [.int (i : Nat), x]) :=
      ⟨show 2 ≤ sizeLine by decide, [.int i tk, y], .cons ⟨_, rfl⟩ (.cons ru .nil), ⟨_, hT2, rfl, _, rfl⟩⟩
    have I1 : Inv Y pins σ (upd H s.heap.objs.size (.tup [.int (i : Nat), x])) { s with heap := h'', toks := tk + 1 } :=
      I.turnedNew (ch := [e, it]) (fun b ob hb q => (sb.2 b (fun z => hb (by simp [z]))).trans (hk b ob (fun z => hb (by simp [z])) (fun z => hb (by simp [z])) q)) hf (Nat.le_refl _) new
    refine ⟨.ref s.heap.objs.size, _, I1, rfl, ⟨_, x, rfl, I.hok.fresh (Nat.le_refl _), rfl, fun ys hy => by rw [I.tuple_inj hy hq]; exact hx⟩, ⟨⟨y, ?_⟩, hS.1.at fun o q => (sb.2 it (Ne.symm hne)).trans q, hne⟩, fun b hb => ?_⟩
    · have e1 : ((i + 1 : Nat) : Int) = (i : Int) + 1 := by omega
      rw [e1]
      exact he'
    · have hb' : b < s.heap.objs.size := by
        rcases List.mem_cons.mp hb with z | z
        · rw [z]; exact hel
        · rw [List.mem_singleton.mp z]; exact hil
      rw [upd_ne (Nat.ne_of_lt hb')]
      exact (hf b hb).1
  done := by
    rintro Y rfl rfl rfl hc i pins s σ H E I hf ⟨⟨old, he⟩, hit, hne⟩ ⟨xs, hq, hx⟩
    obtain ⟨its, rv, p, hz⟩ := I.tuple hq
    obtain ⟨f0, f1, f2, f3, f4, f5⟩ := hf it (by simp)
    have hl : its.toArray.size = i := by rw [List.size_toArray, ← rv.length]; exact hx
    exact wpAny_pyNext_enum_endD (Draws.tuple (prog := Y.prog) (w := Y.w) (A := Y.A.in1) (show Y.A.in1.handled = none from I.ok.hd hc) it a hai its.toArray) he (by rw [hl]; exact ⟨hit, p⟩) fun h' eb => ⟨rfl, I.turned (t' := s.toks) (fun b o hb q => eb b o hb q) f0 f1 f3 f4 f5⟩
  self := fun A i s Q E st h => let ⟨⟨_, he⟩, _⟩ := st; wpAny_pyIter_enum he h
/-- over a list, or a tuple -/
def iEnum2 (K : PySem.W.Frag) (ta : TA) : TI := fun σ H R => ta σ H fun vs H1 => ∃ a xs, vs = [.ref a] ∧ ((SqL K H1 a xs ∧ R (Ite K a) H1) ∨ (SqT K H1 a xs ∧ R (IteT K a) H1))
theorem pi_enum2 {X : Cx} {e : Expr} {ta : TA} {p pos tpos : Pos} {elts : List Expr} {kk : Nat} (hg : Gl X "enumerate") (hm : X.mg "enumerate" = none) (ha : PA X [e] ta) (hs : starEach [e] X.env = [(false, eval e X.env)] := by rfl) :
    PI X (.Tuple elts kk tpos) (.Call (.Name "enumerate" p) [e] [] pos) (iEnum2 X.K ta) := by
  refine ⟨fun pins s σ H R I h => ?_⟩
  refine Call_ (ld_blt I hg hm boot_enumerate (PyProof.Rows.callWith_type1 (thn (ha.run pos pins s σ H _ I h) fun us s1 ⟨vs, H1, I1, r1, a, xs, ex, q⟩ => ?_) hs rfl))
  subst ex
  obtain ⟨u, rfl, ru⟩ := vals1 r1
  obtain rfl : u = Value.ref a := ru
  have hfp : ∀ b ∈ [s1.heap.objs.size + 1, s1.heap.objs.size], FpOk X pins H1 b := fun b hb => by
    have hle : s1.heap.objs.size ≤ b := by
      rcases List.mem_cons.mp hb with z | z
      · rw [z]; exact Nat.le_add_right _ _
      · rw [List.mem_singleton.mp z]; exact Nat.le_refl _
    exact I1.fpOk hle (I1.hok.fresh hle)
  rcases q with ⟨hq, q⟩ | ⟨hq, q⟩
  · obtain ⟨its, rv, p', hz⟩ := I1.list hq
    refine call_enumerate_list p'.isList fun h' he hit hsz hk => wpAny_pyIter_enum he ?_
    exact ⟨s1.heap.objs.size + 1, [s1.heap.objs.size + 1, s1.heap.objs.size], _, _, H1, rfl, I1.kept (t' := s1.toks) hk, turn_enum a (s1.heap.objs.size + 1) s1.heap.objs.size, ⟨⟨.none, he⟩, hit, Nat.succ_ne_self _⟩, hfp, q⟩
  · obtain ⟨its, rv, p', hz⟩ := I1.tuple hq
    have hal : a < s1.heap.objs.size := by
      obtain ⟨o, ho, _⟩ := p'
      exact Heap.lt_size ho
    refine dn_call_enum (begins_tuple a its.toArray) p' fun h' he ho hk => wpAny_pyIter_enum he ?_
    exact ⟨s1.heap.objs.size + 1, [s1.heap.objs.size + 1, s1.heap.objs.size], _, _, H1, rfl, I1.kept (t' := s1.toks) hk, turn_enumT a (s1.heap.objs.size + 1) s1.heap.objs.size (Nat.ne_of_lt (Nat.lt_succ_of_lt hal)) (Nat.ne_of_lt hal), ⟨⟨.none, he⟩, ⟨_, ho, rfl, rfl⟩, Nat.succ_ne_self _⟩, hfp, q⟩
end Dn
set_option Elab.async false
set_option linter.all false
set_option maxRecDepth 100000
set_option maxHeartbeats 4000000
namespace Dn
open PySem PySem.Spec L2 PyProof.Rows
/-! ### Script(steps) -/
def gSeq : PyData → Option PyData
  | .list _ => some (.bool true)
  | .tuple _ => some (.bool true)
  | _ => none
section
variable {X : Cx} {a : Expr} {fa : DF} {p p2 p3 p4 pos : Pos} {kk : Nat}
theorem d_isSeq (hm : X.mg "isinstance" = none) (hm2 : X.mg "list" = none) (hm3 : X.mg "tuple" = none) (ha : PE X a (tD X.K X.w fa)) (hg : Gl X "isinstance" := by rfl) (hg2 : Gl X "list" := by rfl) (hg3 : Gl X "tuple" := by rfl)
    (he : starEach [a, .Tuple [.Name "list" p2, .Name "tuple" p3] kk p4] X.env = (false, eval a X.env) :: starEach [.Tuple [.Name "list" p2, .Name "tuple" p3] kk p4] X.env := by rfl)
    (he2 : starEach [.Tuple [.Name "list" p2, .Name "tuple" p3] kk p4] X.env = (false, eval (.Tuple [.Name "list" p2, .Name "tuple" p3] kk p4) X.env) :: starEach [] X.env := by rfl)
    (he3 : starEach [.Name "list" p2, .Name "tuple" p3] X.env = (false, eval (.Name "list" p2) X.env) :: starEach [.Name "tuple" p3] X.env := by rfl)
    (he4 : starEach [.Name "tuple" p3] X.env = (false, eval (.Name "tuple" p3) X.env) :: starEach [] X.env := by rfl)
    (hpl : (backTo pos (starEach [.Tuple [.Name "list" p2, .Name "tuple" p3] kk p4] X.env)).any (·.1) = false := by rfl) :
    PE X (.Call (.Name "isinstance" p) [a, .Tuple [.Name "list" p2, .Name "tuple" p3] kk p4] [] pos) (tD X.K X.w (dUn gSeq fa)) := by
  refine pe_imp (pe_callB call_isiT hg hm (by decide +kernel) (pa_cons ha (pa_cons (pe_tup (pa_cons (pe_bltn (v := .ty "list") hg2 hm2 (by decide +kernel) rfl) (pa_cons (pe_bltn (v := .ty "tuple") hg3 hm3 (by decide +kernel) rfl) pa_nil he4) he3)) pa_nil he2) he) (by decide) (by decide) he hpl) fun σ H Q q => ?_
  exact imp_un (r := fun x H1 => fun Q => 2 ≤ sizeLine ∧ ∀ p, H1 p = none → rIsiT X.K [x, .ref p] (upd H1 p (.tup [.ty "list", .ty "tuple"])) Q) (fun x H Q d z rx g q => by
    refine ⟨by decide, fun p hp => ?_⟩
    have s := same_new (o := .tup [.ty "list", .ty "tuple"]) hp
    cases d with
    | list ds =>
      cases g
      exact ⟨x, p, _, .type "list", [.type "list", .type "tuple"], true, rfl, upd_same, .cons (.ty _) (.cons (.ty _) .nil), tyX_of (rx.mono s) rfl, kitAny_cons (b := true) (kit_ty (by decide +kernel)) (fun h => by cases h) (fun _ => rfl), q _ _ s (.dat (.bl _))⟩
    | tuple ds =>
      cases g
      exact ⟨x, p, _, .type "tuple", [.type "list", .type "tuple"], true, rfl, upd_same, .cons (.ty _) (.cons (.ty _) .nil), tyX_of (rx.mono s) rfl, kitAny_cons (b := false) (kit_ty (by decide +kernel)) (fun _ => kitAny_cons (b := true) (kit_ty (by decide +kernel)) (fun h => by cases h) (fun _ => rfl)) (fun h => by cases h), q _ _ s (.dat (.bl _))⟩
    | _ => cases g) q
end
theorem e_is_number (n m : Nat) (h : n < m) : den_is_number [iN n, iN m] = some (.bool true) := by
  refine x_run rfl (x_ret (x_and (b := true) (by kernel_rfl) (x_and (b := true) (by kernel_rfl) ?_)))
  have h1 : decide ((0 : Int) ≤ ((n : Nat) : Int)) = true := decide_eq_true (Int.natCast_nonneg n)
  have h2 : decide (((n : Nat) : Int) < ((m : Nat) : Int)) = true := decide_eq_true (Int.ofNat_lt.mpr h)
  show (((gLe (.int 0) (iN n)).bind boolOf).bind fun k => if k = true then gLt (iN n) (iN m) else some (.bool false)) = _
  have e1 : gLe (.int 0) (iN n) = some (.bool true) := congrArg (fun b => some (PyData.bool b)) h1
  have e2 : gLt (iN n) (iN m) = some (.bool true) := congrArg (fun b => some (PyData.bool b)) h2
  rw [e1]
  exact e2
theorem e_nexts (m : Nat) (ns : List Nat) (v : PyData) (hn : ∀ n ∈ ns, n < m) (hl : ns.length ≤ 100) :
    dLc (dVar 2) 3 yesT (dApp den_is_number (dConsA (dVar 3) (dConsA (dVar 1) dNilA))) [some v, some (iN m), some (.tuple (ns.map iN)), none] = some (.list (ns.map fun _ => .bool true)) := by
  have e := lcGo_filter (gc := yesT) (fe := dApp den_is_number (dConsA (dVar 3) (dConsA (dVar 1) dNilA))) (fun n : Nat => [some v, some (iN m), some (.tuple (ns.map iN)), some (iN n)]) (fun _ => true) (fun _ => PyData.bool true) ns (fun _ _ => rfl)
    (fun n h _ => x_app (ds := [iN n, iN m]) rfl (e_is_number n m (hn n h))) (fun _ _ => rfl)
  have e3 : ns.filter (fun _ => true) = ns := List.filter_eq_self.mpr fun _ _ => rfl
  rw [e3] at e
  have hl2 : (ns.map iN).length ≤ 100000 := by rw [List.length_map]; omega
  show (if (ns.map iN).length ≤ 100000 then (lcGo yesT (dApp den_is_number (dConsA (dVar 3) (dConsA (dVar 1) dNilA))) ((ns.map iN).map fun x => [some v, some (iN m), some (.tuple (ns.map iN)), none].set 3 (some x))).map PyData.list else none) = _
  rw [if_pos hl2, List.map_map]
  exact congrArg (Option.map PyData.list) e
theorem e_is_step (one : Stp) (m : Nat) (h : one.ok m = true) : den_is_step [one.d, iN m] = some (.bool true) := by
  obtain ⟨hc, hn⟩ := Bool.and_eq_true_iff.mp h
  have hn : ∀ n ∈ one.nexts, n < m := fun n hx => of_decide_eq_true (List.all_eq_true.mp hn n hx)
  cases one with
  | fin w => cases w <;> kernel_rfl
  | forget n =>
    refine x_run rfl (x_n (x_if (b := false) (by kernel_rfl) rfl) (x_n (x_if (b := false) (by kernel_rfl) rfl) (x_r (x_if (b := true) (by kernel_rfl) (x_ret (x_and (b := true) (by kernel_rfl) ?_))))))
    exact x_app (ds := [iN n, iN m]) rfl (e_is_number n m (hn n (List.mem_singleton.mpr rfl)))
  | read c a b u e l =>
    have e1 := e_nexts m [a, b, u, e, l] (Stp.d (.read c a b u e l)) hn (by simp)
    refine x_run rfl (x_n (x_if (b := false) (by kernel_rfl) rfl) (x_n (x_if (b := false) (by kernel_rfl) rfl) (x_n (x_if (b := false) (by kernel_rfl) rfl) (x_n (x_if (b := false) (by cases c <;> first | (cases hc; done) | kernel_rfl) rfl)
      (x_n (x_set (d := .tuple ([a, b, u, e, l].map iN)) (by kernel_rfl)) (x_n (x_if (b := false) (by kernel_rfl) rfl) (x_ret (x_and (b := true) (by kernel_rfl) (x_app (x_consA e1 x_nilA) (by kernel_rfl)))))))))) 
  | put c z y n l =>
    have e1 := e_nexts m [y, n, l] (Stp.d (.put c z y n l)) hn (by simp)
    refine x_run rfl (x_n (x_if (b := false) (by kernel_rfl) rfl) (x_n (x_if (b := false) (by kernel_rfl) rfl) (x_n (x_if (b := false) (by kernel_rfl) rfl) (x_n (x_if (b := false) (by cases c <;> first | (cases hc; done) | kernel_rfl) rfl)
      (x_n (x_set (d := .tuple (.str (sizeS z) :: [y, n, l].map iN)) (by kernel_rfl)) (x_n (x_if (b := true) (by kernel_rfl) (x_n (x_if (b := false) (by cases z <;> kernel_rfl) rfl) (x_set (d := .tuple ([y, n, l].map iN)) (by kernel_rfl)))) (x_ret (x_and (b := true) (by kernel_rfl) (x_app (x_consA e1 x_nilA) (by kernel_rfl))))))))))
  | take c y n a l =>
    have e1 := e_nexts m [y, n, a, l] (Stp.d (.take c y n a l)) hn (by simp)
    refine x_run rfl (x_n (x_if (b := false) (by kernel_rfl) rfl) (x_n (x_if (b := false) (by kernel_rfl) rfl) (x_n (x_if (b := false) (by kernel_rfl) rfl) (x_n (x_if (b := false) (by cases c <;> first | (cases hc; done) | kernel_rfl) rfl)
      (x_n (x_set (d := .tuple ([y, n, a, l].map iN)) (by kernel_rfl)) (x_n (x_if (b := false) (by kernel_rfl) rfl) (x_ret (x_and (b := true) (by kernel_rfl) (x_app (x_consA e1 x_nilA) (by kernel_rfl))))))))))
structure ScriptH (K : PySem.W.Frag) (mg : Str → Option Value) (C : Addr) : Prop where
  gl : mg "Script" = some (.ref C)
  cs : ClsS K C
  mkr : ∃ f fd, Mk K C f ∧ Fun K "__init__" "Script.__init__" st_init f fd ∧ Binds K fd ["self", "steps"] []
/-- steps as a tuple, or a list -/
def seqD (b : Bool) (ds : List PyData) : PyData := match b with
  | true => .tuple ds
  | false => .list ds
def spInit (K : PySem.W.Frag) : Sp := fun vs H Q _ => ∃ a C dx v b steps, vs = [.ref a, v] ∧ H a = some (.ins C dx []) ∧ ClsS K C ∧ Dp K H v (seqD b (steps.map Stp.d)) ∧ scrOk steps ∧ 1 ≤ steps.length ∧ steps.length ≤ 8 ∧
  ∀ H' u, (∀ c o, H c = some o → c ≠ a → H' c = some o) → H' a = some (.ins C dx [("steps", u)]) → Dp K H' u (.tuple (steps.map Stp.d)) → Q .non H'
abbrev nInit : List Str := ["self", "steps", "number", "one"]
section
variable {P : Program} {w : World} {K : PySem.W.Frag} {mg : Str → Option Value} {base : Heap}
theorem sc_init : FnScope nInit ["self", "steps"] (defScope st_init) := ⟨rfl, rfl, rfl, by decide +kernel, rfl, by decide +kernel, by decide +kernel⟩
theorem ok_init (T : Tx w K mg) {f : Addr} {fd : FuncData} (F : Fun K "__init__" "Script.__init__" st_init f fd) : FnOk P w K mg base CX0 3 f fd ["self", "steps"] (spInit K) := by
  refine F.ok sc_init (fun vs H Q E ⟨a, C, dx, v, b, steps, e, _⟩ => by rw [e]; rfl) fun cd A outer s H vs Q E hr h => ?_
  refine ⟨_, pss_cons (ps_if (w_or (t_not (t_val (d_isSeq T.b_isinstance T.b_list T.b_tuple (d_var 1)))) (w_or1 (t_not (t_chain c_le c_le d_int (d_callB b_len T.b_len PySem.boot_len (a_cons (d_var 1) a_nil)) (d_glob T.c_MOST_STEPS))))).pt (pss_one ps_never) pss_nil)
    (pss_cons (ps_for PassesOwn.never rfl (pi_enum2 (by rfl) T.b_enumerate (pa_cons (pv 1) pa_nil)) (pg_tup (n := 2) rfl (pgs_cons (pg_name (i := 2) sc_init.nd rfl (Or.inl rfl)) (pgs_cons (pg_name (i := 3) sc_init.nd rfl (Or.inl rfl)) pgs_nil)))
      (pss_one (ps_if (t_not (t_val (d_call (ok_is_step T) (hr.mono (by decide)) (a_cons (d_var 3) (a_cons (d_callB b_len T.b_len PySem.boot_len (a_cons (d_var 1) a_nil)) a_nil))))) (pss_one ps_never) pss_nil)))
    (pss_one (ps_fld (pv 0) (d_callTy b_tuple T.b_tuple (by decide +kernel) (a_cons (d_var 1) a_nil)) (by rfl)))), ?_⟩
  obtain ⟨a, C, dx, v, b, steps, rfl, ho, hcs, hd, so, hl1, hl8, q⟩ := h
  have E0 : EnvOk K w H (L2.start nInit [.ref a, v]) [none, some (seqD b (steps.map Stp.d)), none, none] := by
    refine ⟨rfl, fun i d h => ?_⟩
    match i, h with
    | 0, h => cases h
    | 1, h => cases h; exact ⟨v, rfl, .dat hd⟩
    | 2, h => cases h
    | 3, h => cases h
    | n + 4, h => cases h
  have hlen : ∀ env : DE, env[1]? = some (some (seqD b (steps.map Stp.d))) → dApp gLenA (dConsA (dVar 1) dNilA) env = some (.int ((steps.length : Nat) : Int)) := fun env he => by
    refine x_app (ds := [seqD b (steps.map Stp.d)]) (x_consA (by unfold dVar; rw [he]; rfl) x_nilA) ?_
    cases b
    · show some (PyData.int (((steps.map Stp.d).length : Nat) : Int)) = _
      rw [List.length_map]
    · show some (PyData.int (((steps.map Stp.d).length : Nat) : Int)) = _
      rw [List.length_map]
  refine ⟨_, false, E0, ?_, fun H1 s1 => ?_⟩
  · have e1 : dNotT (dTest (dUn gSeq (dVar 1))) [none, some (seqD b (steps.map Stp.d)), none, none] = some false := by cases b <;> rfl
    have h1 : decide ((1 : Int) ≤ ((steps.length : Nat) : Int)) = true := decide_eq_true (by omega)
    have h2 : decide (((steps.length : Nat) : Int) ≤ 8) = true := decide_eq_true (by omega)
    have e2 : dChain gLe gLe (dC (.int 1)) (dApp gLenA (dConsA (dVar 1) dNilA)) (dC (.int 8)) [none, some (seqD b (steps.map Stp.d)), none, none] = some (.bool true) := by
      unfold dChain
      rw [hlen _ rfl]
      show (((gLe (.int 1) (.int ((steps.length : Nat) : Int))).bind boolOf).bind fun k => if k = true then gLe (.int ((steps.length : Nat) : Int)) (.int 8) else some (.bool false)) = _
      rw [show gLe (.int 1) (.int ((steps.length : Nat) : Int)) = some (.bool true) from congrArg (fun b => some (PyData.bool b)) h1]
      exact congrArg (fun b => some (PyData.bool b)) h2
    have e3 : dNotT (dTest (dChain gLe gLe (dC (.int 1)) (dApp gLenA (dConsA (dVar 1) dNilA)) (dC (.int 8)))) [none, some (seqD b (steps.map Stp.d)), none, none] = some false := x_not (x_test e2)
    unfold dOrT
    rw [e1]
    exact e3
  · have E1 := E0.mono s1
    have hd1 := dp_mono s1 _ _ hd
    have ho1 := s1 _ _ ho
    have v0 : (L2.start nInit [V.ref a, v])[0]? = some (some (.ref a)) := rfl
    have v1 : (L2.start nInit [V.ref a, v])[1]? = some (some v) := rfl
    obtain ⟨sa, xs, rfl, hseq⟩ : ∃ sa xs, v = .ref sa ∧ ((b = false ∧ SqL K H1 sa xs) ∨ (b = true ∧ SqT K H1 sa xs)) ∧ DpAll K H1 xs (steps.map Stp.d) := by
      cases b with
      | false => cases hd1 with | lst h1 h2 => exact ⟨_, _, rfl, .inl ⟨rfl, h1⟩, h2⟩
      | true => cases hd1 with | tup h1 h2 => exact ⟨_, _, rfl, .inr ⟨rfl, h1⟩, h2⟩
    obtain ⟨hseq, hall⟩ := hseq
    -- what stays
    have hslen : xs.length = steps.length := by rw [dpAll_length hall, List.length_map]
    have turnT : ∀ (i : Nat) (σ : L2.St) (H2 : Hp) (D : Ends), i < steps.length → σ.length = 4 → σ[0]? = some (some (.ref a)) → σ[1]? = some (some (.ref sa)) → Same H1 H2 → (∀ σ' H', σ'.length = 4 → σ'[0]? = some (some (.ref a)) → σ'[1]? = some (some (.ref sa)) → Same H1 H' → D.nx σ' H') →
        ∀ x T, xs[i]? = some x → H2 T = none → gTup K 2 (gCons (gName 2) (gCons (gName 3) gNil)) (.ref T) σ (upd H2 T (.tup [.int (i : Nat), x])) fun σ2 H3 => (tIfS (tDT K w (dNotT (dTest (dApp den_is_step (dConsA (dVar 3) (dConsA (dApp gLenA (dConsA (dVar 1) dNilA)) dNilA)))))) tNever tNext) D σ2 H3 := by
      intro i σ H2 D hi hsl g0 g1 s12 hD x T hx hT
      have sT := same_new (o := .tup [.int (i : Nat), x]) hT
      refine ⟨T, _, rfl, SqT.of upd_same, rfl, .int (i : Nat), [x], rfl, x, [], rfl, rfl, ?_⟩
      obtain ⟨one, hone, hdo⟩ := dpAll_at (l := steps) hall hx
      have hdo := dp_mono (s12.trans sT) _ _ hdo
      have E3 : EnvOk K w (upd H2 T (.tup [.int (i : Nat), x])) ((σ.set 2 (some (.int (i : Nat)))).set 3 (some x)) [none, some (seqD b (steps.map Stp.d)), none, some one.d] := by
        refine ⟨by simp [hsl], fun j d h => ?_⟩
        match j, h with
        | 0, h => cases h
        | 1, h => cases h; exact ⟨.ref sa, by rw [List.getElem?_set_ne (by decide), List.getElem?_set_ne (by decide)]; exact g1, .dat (dp_mono (s12.trans sT) _ _ hd1)⟩
        | 2, h => cases h
        | 3, h => cases h; exact ⟨x, get_set (by rw [List.length_set, hsl]; decide), .dat hdo⟩
        | n + 4, h => cases h
      refine ⟨_, false, E3, ?_, fun H4 s4 => ?_⟩
      · exact x_not (x_test (x_app (x_consA rfl (x_consA (hlen _ rfl) x_nilA)) (e_is_step one steps.length (so one (List.mem_of_getElem? hone)))))
      · refine hD _ _ (by simp [hsl]) ?_ ?_ ((s12.trans sT).trans s4)
        · rw [List.getElem?_set_ne (by decide), List.getElem?_set_ne (by decide)]; exact g0
        · rw [List.getElem?_set_ne (by decide), List.getElem?_set_ne (by decide)]; exact g1
    have fin : ∀ (σ : L2.St) (H2 : Hp), σ.length = 4 → σ[0]? = some (some (.ref a)) → σ[1]? = some (some (.ref sa)) → Same H1 H2 → sFld K (tVar 0) (tD K w (dApp gTupleA (dConsA (dVar 1) dNilA))) "steps" { nx := fun _ H' => Q .non H', rt := Q } σ H2 := by
      intro σ H2 hsl g0 g1 s12
      have E3 : EnvOk K w H2 σ [none, some (seqD b (steps.map Stp.d)), none, none] := by
        refine ⟨hsl, fun j d h => ?_⟩
        match j, h with
        | 0, h => cases h
        | 1, h => cases h; exact ⟨.ref sa, g1, .dat (dp_mono s12 _ _ hd1)⟩
        | 2, h => cases h
        | 3, h => cases h
        | n + 4, h => cases h
      refine ⟨_, .tuple (steps.map Stp.d), E3, by cases b <;> rfl, fun u H3 s3 r3 => ⟨.ref a, g0, a, C, dx, [], rfl, s3 _ _ (s12 _ _ ho1), hcs.cl, hcs.na, by decide, ?_⟩⟩
      have sall := (s1.trans s12).trans s3
      have sl : SameLT H3 (upd H3 a (.ins C dx [("steps", u)])) := sameLT_upd (s3 _ _ (s12 _ _ ho1)) rfl
      exact q _ u (fun c o e hc => by rw [upd_ne hc]; exact sall _ _ e) upd_same (dp_LT sl _ _ (r3.dp rfl))
    rcases hseq with ⟨rfl, hq⟩ | ⟨rfl, hq⟩
    · refine ⟨.ref sa, v1, sa, xs, rfl, .inl ⟨hq, ?_⟩⟩
      refine ⟨fun i m σ H2 => m = steps.length - i ∧ i ≤ steps.length ∧ σ.length = 4 ∧ σ[0]? = some (some (.ref a)) ∧ σ[1]? = some (some (.ref sa)) ∧ Same H1 H2, ⟨_, rfl, Nat.zero_le _, rfl, v0, v1, Same.refl H1⟩, ?_⟩
      rintro i m σ H2 ⟨rfl, hi, hsl, g0, g1, s12⟩
      have hq2 := Same.seq s12 hq
      by_cases hlt : i < steps.length
      · have hx : xs[i]? = some (xs[i]'(by rw [hslen]; exact hlt)) := List.getElem?_eq_getElem _
        refine .inr ⟨⟨xs, _, hq2, hx⟩, fun σ' H' => σ'.length = 4 ∧ σ'[0]? = some (some (.ref a)) ∧ σ'[1]? = some (some (.ref sa)) ∧ Same H1 H', fun σ' H' h => ⟨_, ?_, rfl, hlt, h⟩, ?_⟩
        · omega
        · rintro x H' ⟨T, y, rfl, hT, rfl, hy⟩
          refine turnT i σ H2 ?_ hlt hsl g0 g1 s12 ?_ y T (hy xs hq2) hT
          exact fun σ' H' a1 a2 a3 a4 => ⟨a1, a2, a3, a4⟩
      · exact .inl ⟨⟨xs, hq2, by omega⟩, fin σ H2 hsl g0 g1 s12⟩
    · refine ⟨.ref sa, v1, sa, xs, rfl, .inr ⟨hq, ?_⟩⟩
      refine ⟨fun i m σ H2 => m = steps.length - i ∧ i ≤ steps.length ∧ σ.length = 4 ∧ σ[0]? = some (some (.ref a)) ∧ σ[1]? = some (some (.ref sa)) ∧ Same H1 H2, ⟨_, rfl, Nat.zero_le _, rfl, v0, v1, Same.refl H1⟩, ?_⟩
      rintro i m σ H2 ⟨rfl, hi, hsl, g0, g1, s12⟩
      have hq2 := sqT_mono s12 hq
      by_cases hlt : i < steps.length
      · have hx : xs[i]? = some (xs[i]'(by rw [hslen]; exact hlt)) := List.getElem?_eq_getElem _
        refine .inr ⟨⟨xs, _, hq2, hx⟩, fun σ' H' => σ'.length = 4 ∧ σ'[0]? = some (some (.ref a)) ∧ σ'[1]? = some (some (.ref sa)) ∧ Same H1 H', fun σ' H' h => ⟨_, ?_, rfl, hlt, h⟩, ?_⟩
        · omega
        · rintro x H' ⟨T, y, rfl, hT, rfl, hy⟩
          refine turnT i σ H2 ?_ hlt hsl g0 g1 s12 ?_ y T (hy xs hq2) hT
          exact fun σ' H' a1 a2 a3 a4 => ⟨a1, a2, a3, a4⟩
      · exact .inl ⟨⟨xs, hq2, by omega⟩, fin σ H2 hsl g0 g1 s12⟩
end
end Dn
set_option Elab.async false
set_option linter.all false
set_option maxRecDepth 100000
set_option maxHeartbeats 4000000
namespace Dn
open PySem PySem.Spec L2 PyProof.Rows
/-! ### dicts by text keys, with data -/
abbrev Kl := List (Str × PyData)
def klD (kl : Kl) : List (PyData × PyData) := kl.map fun q => (.str q.1, q.2)
def KvS (K : PySem.W.Frag) (H : Hp) : List (Key × V) → Kl → Prop := Paired fun p q => p.1 = .inr q.1 ∧ Dp K H p.2 q.2
def putS (kl : Kl) (x : Str) (d : PyData) : Kl := if (kl.any fun q => decide (q.1 = x)) = true then kl.map (fun q => if q.1 = x then (q.1, d) else q) else kl ++ [(x, d)]
section
variable {K : PySem.W.Frag} {w : World} {H H' H1 : Hp} {kvs : List (Key × V)} {kl : Kl}
theorem KvS.d : ∀ {kvs : List (Key × V)} {kl : Kl}, KvS K H kvs kl → KvD K H kvs (klD kl)
  | _, _, .nil => .nil
  | _, _, .cons h t => .cons ⟨by rw [h.1]; rfl, h.2⟩ (KvS.d t)
theorem KvS.mono (e : SameD H H') : ∀ {kvs : List (Key × V)} {kl : Kl}, KvS K H kvs kl → KvS K H' kvs kl
  | _, _, .nil => .nil
  | _, _, .cons h t => .cons ⟨h.1, dp_sameD e _ _ h.2⟩ (KvS.mono e t)
theorem KvS.monoW (e : SameW H H') : ∀ {kvs : List (Key × V)} {kl : Kl}, (kl.all fun q => imL q.2) = true → KvS K H kvs kl → KvS K H' kvs kl
  | _, _, _, .nil => .nil
  | _, _, n, .cons h t => by
    simp only [List.all_cons, Bool.and_eq_true] at n
    exact .cons ⟨h.1, dp_W e _ _ n.1 h.2⟩ (KvS.monoW e n.2 t)
theorem KvS.len (h : KvS K H kvs kl) : kvs.length = kl.length := Paired.length h
theorem KvS.any (x : Str) : ∀ {kvs : List (Key × V)} {kl : Kl}, KvS K H kvs kl → (kvs.any fun kv => decide (kv.1 = (.inr x : Key))) = (kl.any fun q => decide (q.1 = x))
  | _, _, .nil => rfl
  | p :: _, q :: _, .cons h t => by
    rw [List.any_cons, List.any_cons, KvS.any x t, h.1]
    congr 1
    exact decide_eq_decide.mpr ⟨fun e => Sum.inr.inj e, fun e => by rw [e]⟩
theorem KvS.put_at {x : Str} {v : V} {d : PyData} (h : KvS K H kvs kl) (hd : Dp K H v d) : KvS K H (kvs.map (fun kv => if kv.1 = (.inr x : Key) then (kv.1, v) else kv)) (kl.map (fun q => if q.1 = x then (q.1, d) else q)) := by
  induction h with
  | nil => exact .nil
  | @cons p q ps qs h1 t ih =>
    refine .cons ?_ ih
    by_cases e : q.1 = x
    · have e2 : p.1 = (.inr x : Key) := by rw [h1.1, e]
      simp only [if_pos e, if_pos e2]
      exact ⟨h1.1, hd⟩
    · have e2 : ¬ p.1 = (.inr x : Key) := by rw [h1.1]; exact fun z => e (Sum.inr.inj z)
      simp only [if_neg e, if_neg e2]
      exact h1
theorem KvS.put {x : Str} {v : V} {d : PyData} (h : KvS K H kvs kl) (hd : Dp K H v d) : KvS K H (putK kvs (.inr x) v) (putS kl x d) := by
  unfold putK putS
  rw [h.any x]
  split
  · exact KvS.put_at h hd
  · exact Paired.snoc h ⟨rfl, hd⟩
theorem KvS.merge : ∀ {more : List (Key × V)} {ml : Kl} {kvs : List (Key × V)} {kl : Kl}, KvS K H more ml → KvS K H kvs kl → KvS K H (mergeK kvs more) (ml.foldl (fun acc q => putS acc q.1 q.2) kl)
  | _, _, _, _, .nil, h => h
  | p :: _, q :: _, kvs, kl, .cons h1 t, h => by
    obtain ⟨k, v⟩ := p
    obtain ⟨e, hd⟩ := h1
    subst e
    show KvS K H (mergeK (putK kvs (.inr q.1) v) _) (List.foldl _ (putS kl q.1 q.2) _)
    exact KvS.merge t (h.put hd)
/-- a dict of text keys stands at a -/
def SD (K : PySem.W.Frag) (H : Hp) (a : Addr) (kl : Kl) : Prop := ∃ kvs, H a = some (.dK kvs) ∧ KvS K H kvs kl
theorem SD.rp {a : Addr} (h : SD K H a kl) : Rp K w H (.ref a) (.dict (klD kl)) := let ⟨_, h1, h2⟩ := h; .dct h1 h2.d
theorem SD.mono {a : Addr} (s : Same H H') (h : SD K H a kl) : SD K H' a kl := let ⟨kvs, h1, h2⟩ := h; ⟨kvs, s _ _ h1, h2.mono (Same.d s)⟩
theorem SD.monoW {a : Addr} (s : SameW H H') (n : (kl.all fun q => imL q.2) = true) (h : SD K H a kl) : SD K H' a kl := let ⟨kvs, h1, h2⟩ := h; ⟨kvs, s _ _ h1 rfl, h2.monoW s n⟩
end
/-! ### dict(d), d.update(e) -/
section
variable {X : Cx}
theorem call_dict_of : CallR X (.type "dict") (fun xs H Q => ∃ a kvs, xs = [.ref a] ∧ H a = some (.dK kvs) ∧ ∀ p, H p = none → Q (.ref p) (upd H p (.dK kvs))) := by
  intro pins s σ H xs us Q I r h
  obtain ⟨a, kvs, rfl, e, q⟩ := h
  obtain ⟨u, rfl, ru⟩ := vals1 r
  obtain rfl : u = Value.ref a := ru
  exact d_copyOf I (.inl e) fun p s' hp I' => ⟨.ref p, _, I', rfl, q p hp⟩
theorem mt_update : MtM X "dict.update" (fun x vs H Q => ∃ a b kvs more, x = .ref a ∧ vs = [.ref b] ∧ a ≠ b ∧ H a = some (.dK kvs) ∧ H b = some (.dK more) ∧ kvs.length + more.length ≤ 1000 ∧ Q .non (upd H a (.dK (mergeK kvs more)))) := by
  intro pins s σ H x vs v us Q I rx rv h
  obtain ⟨a, b, kvs, more, rfl, rfl, hne, ha, hb, hz, q⟩ := h
  obtain rfl : v = Value.ref a := rx
  obtain ⟨u, rfl, ru⟩ := vals1 rv
  obtain rfl : u = Value.ref b := ru
  obtain ⟨z1, m1, vs1, r1, d1⟩ := dk_of I.hok ha
  obtain ⟨z2, m2, vs2, r2, d2⟩ := dk_of I.hok hb
  have l1 : kvs.length = vs1.length := Paired.length r1
  have l2 : more.length = vs2.length := Paired.length r2
  have big : (1000 : Nat) ≤ sizeLine := by decide
  refine call_meetsIn PySem.F.slot_dict_update d1.typeIs PySem.F.entry_dict_update (PySem.F.args_dict_update_2 _ _) (meets_dict_update (mixKind X.prog X.w) a b hne m2) ⟨vs1, vs2, d1, d2, by omega, fun h' da db hs => ⟨.non, _, ?_, rfl, q⟩⟩
  have hl : (mergeK kvs more).length ≤ sizeLine := by
    have := length_mergeK more kvs
    omega
  have he : ∃ q, h'.get? a = some q := let ⟨q, _, _, hq, _⟩ := da; ⟨q, hq⟩
  exact d_write I (by rw [ha]; exact True.intro) hs he (dk_new hl m1 (KV.merge r2 r1) da)
end
/-! ### displays -/
def evalAll (l : List (Str × DF)) (env : DE) : Option Kl := match l with
  | [] => some []
  | (x, f) :: r => (f env).bind fun d => if isDat d = true then (evalAll r env).map ((x, d) :: ·) else none
def dispT (K : PySem.W.Frag) (w : World) (l : List (Str × DF)) : List (TE × TE) := l.map fun p => (tC (.str p.1), tD K w p.2)
theorem pairs_ok {K : PySem.W.Frag} {w : World} {σ : L2.St} : ∀ (l : List (Str × DF)) {env : DE} {kl : Kl} {H : Hp} {Q : List (V × V) → Hp → Prop}, EnvOk K w H σ env → evalAll l env = some kl → (∀ H' kvs, Same H H' → KvS K H' kvs kl → Q (kvs.map fun kv => (kV kv.1, kv.2)) H') → tPairs (dispT K w l) σ H Q
  | [], env, kl, H, Q, E, e, q => by cases e; exact q H [] (Same.refl H) .nil
  | (x, f) :: r, env, kl, H, Q, E, e, q => by
    unfold evalAll at e
    cases ef : f env with
    | none => rw [ef] at e; cases e
    | some d =>
      rw [ef] at e
      simp only [Option.bind_some] at e
      by_cases hd : isDat d = true
      · rw [if_pos hd] at e
        obtain ⟨kl', e2, rfl⟩ := Option.map_eq_some_iff.mp e
        refine ⟨env, d, E, ef, fun v H1 s1 r1 => ?_⟩
        exact pairs_ok r (E.mono s1) e2 fun H2 kvs s2 h2 => q H2 ((.inr x, v) :: kvs) (s1.trans s2) (.cons ⟨rfl, dp_mono s2 _ _ (r1.dp hd)⟩ h2)
      · rw [if_neg hd] at e
        cases e
/-- {"x": e, ..}: a new dict -/
def tDispS (K : PySem.W.Frag) (w : World) (l : List (Str × DF)) : TE := fun σ H Q => ∃ env kl, EnvOk K w H σ env ∧ evalAll l env = some kl ∧ kl.length ≤ 15 ∧ ∀ p H', Same H H' → H p = none → SD K H' p (kl.foldl (fun acc q => putS acc q.1 q.2) []) → Q (.ref p) H'
theorem pe_dispS {X : Cx} {pos : Pos} {keys : List (Option Expr)} {values : List Expr} (l : List (Str × DF)) (h : PPs X pos keys values (dispT X.K X.w l)) (hall : keys.all (·.isSome) = true) (hl : keys.length = values.length) (h0 : keys ≠ [])
    (h15 : keys.length ≤ 15) : PE X (.Dict keys values pos) (tDispS X.K X.w l) := by
  refine pe_imp (pe_disp h hall hl h0 h15) fun σ H Q ⟨env, kl, E, e, hk, q⟩ p hp => ?_
  have s0 := same_new (o := .dK []) hp
  refine pairs_ok l (E.mono s0) e fun H2 kvs s2 h2 => ⟨s2 _ _ upd_same, kvs, rfl, by rw [h2.len]; exact hk, ?_⟩
  have sD : SameD H2 (upd H2 p (.dK (mergeK [] kvs))) := sameD_upd (s2 _ _ upd_same)
  refine q p _ ?_ hp ⟨_, upd_same, KvS.merge (h2.mono sD) .nil⟩
  intro a o ea
  rw [upd_ne (ne_of_none ea hp)]
  exact s2 _ _ (s0 _ _ ea)
/-! ### a dict that a def makes and changes: at a, in slot j -/
structure LI (K : PySem.W.Frag) (w : World) (H0 : Hp) (a : Addr) (j : Nat) (env : DE) (kl : Kl) (σ : L2.St) (H : Hp) : Prop where
  ev : ∀ o, EnvOk K w (upd H a o) σ env
  no : env[j]? = some none
  vl : σ[j]? = some (some (.ref a))
  ob : SD K H a kl
  s0 : Same H0 H
  n0 : H0 a = none
section
variable {K : PySem.W.Frag} {w : World} {H0 H H' : Hp} {a : Addr} {j : Nat} {env : DE} {kl : Kl} {σ : L2.St} {D : Ends}
theorem LI.start {H1 : Hp} (E : EnvOk K w H0 σ env) (no : env[j]? = some none) (s : Same H0 H1) (n0 : H0 a = none) (ob : SD K H1 a kl) : LI K w H0 a j env kl (σ.set j (some (.ref a))) H1 := by
  have hj : j < σ.length := by rw [E.len]; exact (List.getElem?_eq_some_iff.mp no).1
  refine ⟨fun o => ⟨by rw [List.length_set]; exact E.len, fun i d h => ?_⟩, no, get_set hj, ob, s, n0⟩
  obtain ⟨v, g1, g2⟩ := E.get i d h
  have hij : i ≠ j := by rintro rfl; rw [no] at h; cases h
  refine ⟨v, by rw [List.getElem?_set_ne (Ne.symm hij)]; exact g1, g2.mono fun b u e => ?_⟩
  rw [upd_ne (ne_of_none e n0)]
  exact s _ _ e
theorem LI.mono (s : Same H H') (I : LI K w H0 a j env kl σ H) : LI K w H0 a j env kl σ H' :=
  ⟨fun o => (I.ev o).mono (same_upd2 s), I.no, I.vl, I.ob.mono s, I.s0.trans s, I.n0⟩
theorem LI.full (I : LI K w H0 a j env kl σ H) : EnvOk K w H σ (env.set j (some (.dict (klD kl)))) := by
  obtain ⟨kvs, h1, h2⟩ := id I.ob
  have E := I.ev (.dK kvs)
  rw [upd_self h1] at E
  refine ⟨by rw [List.length_set]; exact E.len, fun i d h => ?_⟩
  by_cases hij : i = j
  · subst hij
    have hl : i < env.length := (List.getElem?_eq_some_iff.mp I.no).1
    rw [List.getElem?_set_self hl] at h
    cases h
    exact ⟨_, I.vl, I.ob.rp⟩
  · rw [List.getElem?_set_ne (Ne.symm hij)] at h
    exact E.get i d h
theorem LI.put {x : Str} {v : V} {d : PyData} (I : LI K w H0 a j env kl σ H) {kvs : List (Key × V)} (h1 : H a = some (.dK kvs)) (h2 : KvS K H kvs kl) (hd : Dp K H v d) : LI K w H0 a j env (putS kl x d) σ (upd H a (.dK (putK kvs (.inr x) v))) := by
  have sD : SameD H (upd H a (.dK (putK kvs (.inr x) v))) := sameD_upd h1
  refine ⟨fun o => by rw [upd_upd]; exact I.ev o, I.no, I.vl, ⟨_, upd_same, (h2.put hd).mono sD⟩, fun b u e => ?_, I.n0⟩
  rw [upd_ne (ne_of_none e I.n0)]
  exact I.s0 _ _ e
/-- later["x"] = e -/
theorem li_put {x : Str} {f : DF} {d : PyData} {kl' : Kl} (I : LI K w H0 a j env kl σ H) (hl : kl.length ≤ 100) (e : f (env.set j (some (.dict (klD kl)))) = some d) (hd : isDat d = true) (hk : putS kl x d = kl') (q : ∀ H', LI K w H0 a j env kl' σ H' → D.nx σ H') :
    tAsg (tD K w f) (L2.gSub (tVar j) (tC (.str x)) rSetD) D σ H := by
  refine ⟨_, d, I.full, e, fun v H1 s1 r1 => ?_⟩
  have I1 := I.mono s1
  obtain ⟨kvs, h1, h2⟩ := id I1.ob
  refine ⟨.ref a, I1.vl, a, _, rfl, DPut.k (k := .inr x) h1 ?_, q _ ?_⟩
  · rw [h2.len]; exact Nat.lt_of_le_of_lt hl (by decide)
  · rw [← hk]
    exact I1.put h1 h2 (r1.dp hd)
/-- later["x"], later["y"] = e, f -/
theorem li_put2 {x y : Str} {f g : DF} {d d2 : PyData} {kl' : Kl} (I : LI K w H0 a j env kl σ H) (hl : kl.length ≤ 100) (e : f (env.set j (some (.dict (klD kl)))) = some d) (e2 : g (env.set j (some (.dict (klD kl)))) = some d2) (hd : isDat d = true) (hd2 : isDat d2 = true) (hk : putS (putS kl x d) y d2 = kl')
    (hl2 : (putS kl x d).length ≤ 100) (q : ∀ H', LI K w H0 a j env kl' σ H' → D.nx σ H') :
    tAsg (tTup (tCons (tD K w f) (tCons (tD K w g) tNil))) (gTup K 2 (gCons (L2.gSub (tVar j) (tC (.str x)) rSetD) (gCons (L2.gSub (tVar j) (tC (.str y)) rSetD) gNil))) D σ H := by
  refine ⟨_, d, I.full, e, fun v H1 s1 r1 => ⟨_, d2, (I.mono s1).full, e2, fun v2 H2 s2 r2 => ⟨(show 2 ≤ sizeLine by decide), fun p hp => ?_⟩⟩⟩
  have sp := same_new (o := .tup [v, v2]) hp
  have I1 := (I.mono (s1.trans s2)).mono sp
  refine ⟨p, _, rfl, SqT.of upd_same, rfl, v, [v2], rfl, ?_⟩
  obtain ⟨kvs, h1, h2⟩ := id I1.ob
  refine ⟨.ref a, I1.vl, a, _, rfl, DPut.k (k := .inr x) h1 ?_, ?_⟩
  · rw [h2.len]; exact Nat.lt_of_le_of_lt hl (by decide)
  have I2 := I1.put (x := x) h1 h2 (dp_mono (s2.trans sp) _ _ (r1.dp hd))
  obtain ⟨kvs2, g1, g2⟩ := id I2.ob
  refine ⟨v2, [], rfl, .ref a, I2.vl, a, _, rfl, DPut.k (k := .inr y) g1 ?_, rfl, q _ ?_⟩
  · rw [g2.len]; exact Nat.lt_of_le_of_lt hl2 (by decide)
  · rw [← hk]
    exact I2.put g1 g2 (dp_sameD ((sameD_upd h1).trans (fun _ _ e _ => e)) _ _ (dp_mono sp _ _ (r2.dp hd2)))
end
end Dn
set_option Elab.async false
set_option linter.all false
set_option maxRecDepth 100000
set_option maxHeartbeats 4000000
namespace Dn
open PySem PySem.Spec L2 PyProof.Rows
/-! ### list + list -/
def gAddL : PyData → PyData → Option PyData
  | .list xs, .list ys => if xs.length + ys.length ≤ 1000000 then some (.list (xs ++ ys)) else none
  | _, _ => none
section
variable {X : Cx} {a b : Expr} {fa fb : DF} {pos : Pos}
theorem op_catL : OpR X (binaryOp .Add) (fun x y H Q => ∃ l b xs zs, x = .ref l ∧ y = .ref b ∧ SqL X.K H l xs ∧ SqL X.K H b zs ∧ xs.length + zs.length ≤ 1000000 ∧ ∀ p, H p = none → Q (.ref p) (upd H p (.lst (xs ++ zs)))) := by
  intro pins s σ H x y v u Q I rx ry h
  obtain ⟨l, b, xs, zs, rfl, rfl, ha, hb, hz, q⟩ := h
  obtain rfl : v = Value.ref l := rx
  obtain rfl : u = Value.ref b := ry
  obtain ⟨its, r1, p1, _⟩ := I.list ha
  obtain ⟨its2, r2, p2, _⟩ := I.list hb
  obtain ⟨⟨cls, dd, data, sl⟩, ho, hc, n, hd⟩ := id p1.isList
  obtain ⟨⟨cls2, dd2, data2, sl2⟩, ho2, hc2, n2, hd2⟩ := id p2.isList
  simp only at hc hd hc2 hd2
  subst hc hd hc2 hd2
  have big : (1000000 : Nat) ≤ sizeLine := by decide
  have l1 := r1.length
  have l2 := r2.length
  have ea : its.toArray ++ its2.toArray = (its ++ its2).toArray := by simp
  refine concat_meets ⟨_, ho, rfl⟩ ⟨_, ho2, rfl⟩ PySem.noFill_list_add PySem.seq_list_add PySem.F.slot_list_add PySem.F.entry_list_add (PySem.F.args_list_add_2 _ _) (list_addW l b its.toArray its2.toArray _ _ dd dd2 sl sl2 (by simp only [List.size_toArray]; omega)) ⟨ho, ho2, ?_⟩
  rw [ea]
  exact ⟨.ref _, _, I.lnew (t' := s.toks) (r1.append r2) (by rw [List.length_append]; omega), rfl, q _ I.fresh⟩
theorem d_addL (ha : PE X a (tD X.K X.w fa)) (hb : PE X b (tD X.K X.w fb)) : PE X (.BinOp a .Add b pos) (tD X.K X.w (dBin gAddL fa fb)) := by
  refine pe_imp (pe_op op_catL ha hb) fun σ H Q => imp_bin fun x y H Q d e z rx ry g q => ?_
  obtain ⟨ds, rfl⟩ : ∃ ds, d = .list ds := by cases d <;> first | exact ⟨_, rfl⟩ | (cases e <;> cases g)
  obtain ⟨es, rfl⟩ : ∃ es, e = .list es := by cases e <;> first | exact ⟨_, rfl⟩ | cases g
  have g : (if ds.length + es.length ≤ 1000000 then some (PyData.list (ds ++ es)) else none) = some z := g
  by_cases hl : ds.length + es.length ≤ 1000000
  · rw [if_pos hl] at g
    cases g
    obtain ⟨l, xs, rfl, h1, h2⟩ := rp_lst rx
    obtain ⟨b, ys, rfl, h3, h4⟩ := rp_lst ry
    refine ⟨l, b, xs, ys, rfl, rfl, h1, h3, by rw [dpAll_length h2, dpAll_length h4]; exact hl, fun p hp => ?_⟩
    have s := same_new (o := .lst (xs ++ ys)) hp
    exact q _ _ s (.dat (.lst (SqL.of upd_same) (dpAll_append (dpAll_mono s _ _ h2) (dpAll_mono s _ _ h4))))
  · rw [if_neg hl] at g
    cases g
end
/-! ### the mirror of the worlds -/
def Wld.kl (w : Wld) : Kl :=
  [("second", iN w.second), ("is_there", .bool w.isThere), ("was_there", .bool w.wasThere), ("tag", iN w.tag), ("look", iN w.look), ("stamp", iN w.stamp), ("ids", iN w.ids), ("authors", .list (auL w.authors)),
    ("step", iN w.step), ("copy", edD w.copy), ("seen", snD w.seen), ("done", iN w.done), ("late", wlD w.late)]
theorem Wld.kl_d (w : Wld) : klD w.kl = w.kds := rfl
def startW (v : Srv) : Wld := ⟨5, v.isThere, (match v with | .never => false | _ => true), 0, 0, (match v with | .fresh => 5 | _ => 2), 0, [false], 0, none, none, 0, none⟩
def edited (w : Wld) (a : Act) (own : Bool) : Wld := match a with
  | .take => if w.isThere then { w with authors := w.authors ++ [own], isThere := false } else w
  | .great => { w with authors := w.authors ++ [own], ids := w.ids + 1, tag := w.ids + 1, stamp := w.second, look := w.ids + 1, isThere := true, wasThere := true }
  | _ => { w with authors := w.authors ++ [own], ids := w.ids + 1, tag := w.ids + 1, stamp := w.second, look := if w.isThere then w.look else w.ids + 1, isThere := true, wasThere := true }
def ownAct (w : Wld) (one : Stp) : Wld := { edited w one.act true with done := w.done + 1 }
def tellsW : Ans → Bool
  | .got => true | .mine => true | .absent => true | .yes => true | _ => false
def heardW (l : Wld) : Wld := { l with seen := some (l.authors.length - 1), copy := if l.isThere then some l.held else none }
def answeredW (w : Wld) (one : Stp) : Wld := match one with
  | .forget n => { w with copy := none, step := n }
  | one =>
    let a := wReply w w.copy one
    let l := { (match a with | .yes => ownAct w one | _ => w) with step := next one a }
    if tellsW a then heardW l else l
def lostW (w l : Wld) (one : Stp) (ev : Ev) (net : Net) : Wld :=
  let l := { l with step := next one .lost }
  match one with
  | .read .. => l
  | _ => (match net with | .again => { l with late := some (wSent w) } | .late => (match ev with | .unsent => { l with late := some (wSent w) } | _ => l) | _ => l)
def lateW (w : Wld) : Nat := match w.late with | none => 0 | some (n, _, _) => n
def dropLate (net : Net) (L : Wld) : Wld := match net with
  | .again => L
  | _ => { L with late := none }
def lateL (steps : List Stp) (w : Wld) : Wld := match w.late with
  | none => w
  | some (n, e, _) => cond (wIsDone w e (stp steps n)) (ownAct w (stp steps n)) w
def behindW (steps : List Stp) (w : Wld) (ev : Ev) (net : Net) : Wld := match ev with
  | .great => edited w .great false
  | .small => edited w .small false
  | .take => edited w .take false
  | .answered => answeredW w (stp steps w.step)
  | .tick => { w with second := w.second + 1 }
  | .come => dropLate net (lateL steps w)
  | .unheard => lostW w (ownAct w (stp steps w.step)) (stp steps w.step) .unheard net
  | .unsent => lostW w w (stp steps w.step) .unsent net
end Dn
set_option Elab.async false
set_option linter.all false
set_option maxRecDepth 100000
set_option maxHeartbeats 4000000
namespace Dn
open PySem PySem.Spec L2 PyProof.Rows
theorem kl_len (W : Wld) : W.kl.length ≤ 100 := by show 13 ≤ 100; decide
def stampI (v : Srv) : Int := match v with | .fresh => 5 | _ => 2
def wasB (v : Srv) : Bool := match v with | .never => false | _ => true
/-- later.update({..}) -/
theorem li_upd {K : PySem.W.Frag} {w : World} {H0 H H1 : Hp} {a p : Addr} {j : Nat} {env : DE} {kl ml : Kl} {σ : L2.St} {G : Hp → Prop} (I : LI K w H0 a j env kl σ H) (hm : SD K H p ml) (hp : H1 p = none) (ha : SD K H1 a kl) (hl : kl.length + ml.length ≤ 1000)
    (q : ∀ H', LI K w H0 a j env (ml.foldl (fun acc q => putS acc q.1 q.2) kl) σ H' → G H') : ∃ a' b kvs more, V.ref a = .ref a' ∧ [V.ref p] = [.ref b] ∧ a' ≠ b ∧ H a' = some (.dK kvs) ∧ H b = some (.dK more) ∧ kvs.length + more.length ≤ 1000 ∧ G (upd H a' (.dK (mergeK kvs more))) := by
  obtain ⟨kvs, h1, h2⟩ := id I.ob
  obtain ⟨more, m1, m2⟩ := hm
  have hne : a ≠ p := by
    rintro rfl
    obtain ⟨_, e, _⟩ := ha
    rw [hp] at e
    cases e
  refine ⟨a, p, kvs, more, rfl, rfl, hne, h1, m1, by rw [h2.len, m2.len]; exact hl, q _ ?_⟩
  have sD : SameD H (upd H a (.dK (mergeK kvs more))) := sameD_upd h1
  refine ⟨fun o => by rw [upd_upd]; exact I.ev o, I.no, I.vl, ⟨_, upd_same, (KvS.merge m2 h2).mono sD⟩, fun b u e => ?_, I.n0⟩
  rw [upd_ne (ne_of_none e I.n0)]
  exact I.s0 _ _ e
section
variable {P : Program} {w : World} {K : PySem.W.Frag} {mg : Str → Option Value} {base : Heap}
/-- a new world handed back -/
def NewW (K : PySem.W.Frag) (H : Hp) (Q : VK) (W : Wld) : Prop := ∀ b H', Same H H' → H b = none → SD K H' b W.kl → Q (.ref b) H'
/-! ### world_at -/
def spAt (K : PySem.W.Frag) : Sp := fun vs H Q _ => ∃ v : Srv, vs = [.str v.s] ∧ NewW K H Q (startW v)
abbrev nAt : List Str := ["_law_server", "_law_stamp", "_law_world"]
theorem sc_world_at : FnScope nAt ["_law_server"] (defScope st__law_world_at) := ⟨rfl, rfl, rfl, by decide +kernel, rfl, by decide +kernel, by decide +kernel⟩
theorem ok_world_at (T : Tx w K mg) : SOk P w K mg base 1 "_law_world_at" 1 (spAt K) := by
  refine sok_of 1 rfl T.g__law_world_at sc_world_at (fun vs H Q E ⟨v, e, _⟩ => by rw [e]; rfl) fun cd A outer s H0 E fa hr => ?_
  have hu := hr.units
  refine ⟨_, pss_cons (ps_set (i := 1) sc_world_at.nd rfl (Or.inl rfl) (d_if (t_cmp (c_eq hu) (d_var 0) d_str (by rfl)) d_int d_int))
    (pss_cons (ps_set (i := 2) sc_world_at.nd rfl (Or.inl rfl) (pe_dispS [("second", dC (.int 5)), ("is_there", dBin gIn (dVar 0) (dTup (dConsA (dC (.str "fresh")) (dConsA (dC (.str "there")) dNilA)))), ("was_there", dBin gNe (dVar 0) (dC (.str "never")))]
      (pps_cons pe_str d_int (pps_cons pe_str (d_cmp c_in (d_var 0) (d_tup (a_cons d_str (a_cons d_str a_nil))) (by rfl)) (pps_cons pe_str (d_cmp (c_ne hu) (d_var 0) d_str (by rfl)) pps_nil))) rfl rfl (by decide) (by decide)))
    (pss_cons (ps_expr (pe_bm PySem.F.plainAttrs_dict PySem.F.slot_dict_update PySem.F.type_dict_update mt_update (pv 2) (pa_cons (pe_dispS [("tag", dC (.int 0)), ("look", dC (.int 0)), ("stamp", dVar 1), ("ids", dC (.int 0)), ("authors", dLst (dConsA (dC (.str "others")) dNilA))]
      (pps_cons pe_str d_int (pps_cons pe_str d_int (pps_cons pe_str (d_var 1) (pps_cons pe_str d_int (pps_cons pe_str (d_lst (a_cons d_str a_nil)) pps_nil))))) rfl rfl (by decide) (by decide)) pa_nil)))
    (pss_cons (ps_expr (pe_bm PySem.F.plainAttrs_dict PySem.F.slot_dict_update PySem.F.type_dict_update mt_update (pv 2) (pa_cons (pe_dispS [("step", dC (.int 0)), ("copy", dC .none), ("seen", dC .none), ("done", dC (.int 0)), ("late", dC .none)]
      (pps_cons pe_str d_int (pps_cons pe_str d_non (pps_cons pe_str d_non (pps_cons pe_str d_int (pps_cons pe_str d_non pps_nil))))) rfl rfl (by decide) (by decide)) pa_nil)))
    (pss_one (ps_ret (pv 2)))))), ?_⟩
  rintro vs H0 Q E ⟨v, rfl, q⟩
  have E0 : EnvOk K w H0 (L2.start nAt [.str v.s]) [some (.str v.s), none, none] := start_ok (Ns := nAt) (.cons (.dat (.str _)) .nil)
  refine ⟨_, .int (stampI v), E0, by cases v <;> kernel_rfl, fun v1 H1 s1 r1 => ?_⟩
  have E1 := (E0.mono s1).set 1 r1
  refine ⟨_, [("second", .int 5), ("is_there", .bool v.isThere), ("was_there", .bool (wasB v))], E1, by cases v <;> kernel_rfl, (by simp), fun p H2 s2 hp ob => ?_⟩
  have I := LI.start (j := 2) E1 rfl s2 hp ob
  refine ⟨.ref p, I.vl, .inr (.inr (.inl ⟨rfl, .inl (let ⟨kvs, h, _⟩ := I.ob; ⟨kvs, h⟩)⟩)), ?_⟩
  refine ⟨_, [("tag", .int 0), ("look", .int 0), ("stamp", .int (stampI v)), ("ids", .int 0), ("authors", .list [.str "others"])], I.full, by kernel_rfl, (by simp), fun p2 H3 s3 hp2 ob2 => ?_⟩
  refine li_upd (I.mono s3) ob2 hp2 I.ob (by cases v <;> decide +kernel) ?_
  intro H4 I
  refine ⟨.ref p, I.vl, .inr (.inr (.inl ⟨rfl, .inl (let ⟨kvs, h, _⟩ := I.ob; ⟨kvs, h⟩)⟩)), ?_⟩
  refine ⟨_, [("step", .int 0), ("copy", .none), ("seen", .none), ("done", .int 0), ("late", .none)], I.full, by kernel_rfl, (by simp), fun p3 H5 s5 hp3 ob3 => ?_⟩
  refine li_upd (I.mono s5) ob3 hp3 I.ob (by cases v <;> decide +kernel) ?_
  intro H6 I
  refine ⟨.ref p, I.vl, ?_⟩
  have e : SD K H6 p (startW v).kl := by
    have e := I.ob
    cases v <;> exact e
  refine q p H6 (s1.trans I.s0) (same_none s1 I.n0) ?_
  exact e
/-! ### edited_by -/
def spEdit (K : PySem.W.Frag) : Sp := fun vs H Q _ => ∃ a W act own, vs = [.ref a, .str (Act.s act), .str (auS own)] ∧ SD K H a (Wld.kl W) ∧ act ≠ .tick ∧ W.authors.length < 100000 ∧ NewW K H Q (edited W act own)
abbrev nEdit : List Str := ["_law_world", "_law_act", "_law_author", "_law_later"]
theorem sc_edited_by : FnScope nEdit ["_law_world", "_law_act", "_law_author"] (defScope st__law_edited_by) := ⟨rfl, rfl, rfl, by decide +kernel, rfl, by decide +kernel, by decide +kernel⟩
theorem ok_edited_by (T : Tx w K mg) : SOk P w K mg base 1 "_law_edited_by" 3 (spEdit K) := by
  refine sok_of 3 rfl T.g__law_edited_by sc_edited_by (fun vs H Q E ⟨a, W, act, own, e, _⟩ => by rw [e]; rfl) fun cd A outer s H0 E fa hr => ?_
  have hu := hr.units
  have hu1 : (A.deeper (envOfC "_law_edited_by" (defScope st__law_edited_by) s.heap.objs.size fa cd)).units + 1 < cLine := Nat.lt_of_le_of_lt (Nat.add_le_add_left (by decide) _) hu
  refine ⟨_, pss_cons (ps_set (i := 3) sc_edited_by.nd rfl (Or.inl rfl) (pe_callTy call_dict_of (by rfl) T.b_dict (by rfl) (pa_cons (pv 0) pa_nil)))
    (pss_cons (ps_if (w_and (t_cmp (c_eq hu) (d_var 1) d_str (by rfl)) (w_and1 (t_not (t_val (d_ix hu1 (d_var 0) d_str))))).pt (pss_one (ps_ret (pv 3))) pss_nil)
    (pss_cons (ps_asg (d_addL (d_ix hu1 (d_var 0) d_str) (d_lst (a_cons (d_var 2) a_nil))) (pg_sub (pv 3) pe_str (set_dict hu1)))
    (pss_cons (ps_if (t_cmp (c_eq hu) (d_var 1) d_str (by rfl)) (pss_cons (ps_asg d_bl (pg_sub (pv 3) pe_str (set_dict hu1))) (pss_one (ps_ret (pv 3)))) pss_nil)
    (pss_cons (ps_asg (d_add (d_ix hu1 (d_var 0) d_str) d_int) (pg_sub (pv 3) pe_str (set_dict hu1)))
    (pss_cons (ps_asg (pe_tup (pa_cons (d_ix hu1 (d_var 3) d_str) (pa_cons (d_ix hu1 (d_var 0) d_str) pa_nil))) (pg_tup (n := 2) rfl (pgs_cons (pg_sub (pv 3) pe_str (set_dict hu1)) (pgs_cons (pg_sub (pv 3) pe_str (set_dict hu1)) pgs_nil))))
    (pss_cons (ps_if (w_or (t_cmp (c_eq hu) (d_var 1) d_str (by rfl)) (w_or1 (t_not (t_val (d_ix hu1 (d_var 0) d_str))))).pt (pss_one (ps_asg (d_ix hu1 (d_var 3) d_str) (pg_sub (pv 3) pe_str (set_dict hu1)))) pss_nil)
    (pss_cons (ps_asg (pe_tup (pa_cons d_bl (pa_cons d_bl pa_nil))) (pg_tup (n := 2) rfl (pgs_cons (pg_sub (pv 3) pe_str (set_dict hu1)) (pgs_cons (pg_sub (pv 3) pe_str (set_dict hu1)) pgs_nil))))
    (pss_one (ps_ret (pv 3)))))))))), ?_⟩
  rintro vs H0 Q E ⟨a, W, act, own, rfl, hW, hact, hlen, q⟩
  have E0 : EnvOk K w H0 (L2.start nEdit [.ref a, .str act.s, .str (auS own)]) [some (.dict (klD W.kl)), some (.str act.s), some (.str (auS own)), none] := start_ok (Ns := nEdit) (.cons hW.rp (.cons (.dat (.str _)) (.cons (.dat (.str _)) .nil)))
  obtain ⟨kvs, h1, h2⟩ := id hW
  refine ⟨.ref a, rfl, a, kvs, rfl, h1, fun p hp => ?_⟩
  have I := LI.start (j := 3) E0 rfl (same_new (o := .dK kvs) hp) hp ⟨kvs, upd_same, h2.mono (Same.d (same_new hp))⟩
  have fin : ∀ {W' : Wld} {σ : L2.St} {H : Hp}, edited W act own = W' → LI K w H0 p 3 [some (.dict (klD W.kl)), some (.str act.s), some (.str (auS own)), none] W'.kl σ H → tRet (tVar 3) { nx := fun _ H' => Q .non H', rt := Q } σ H := fun {W' σ H} e I => ⟨.ref p, I.vl, q p H I.s0 I.n0 (by rw [e]; exact I.ob)⟩
  have auth : ∀ env : DE, env[0]? = some (some (.dict (klD W.kl))) → env[2]? = some (some (.str (auS own))) → dBin gAddL (dBin gIxD (dVar 0) (dC (.str "authors"))) (dLst (dConsA (dVar 2) dNilA)) env = some (.list (auL (W.authors ++ [own]))) := fun env e1 e2 => by
    refine x_bin (a := .list (auL W.authors)) (b := .list [.str (auS own)]) (x_bin (a := .dict (klD W.kl)) (by unfold dVar; rw [e1]; rfl) rfl (by kernel_rfl)) ?_ ?_
    · unfold dLst
      rw [x_consA (d := .str (auS own)) (ds := []) (by unfold dVar; rw [e2]; rfl) x_nilA]
      kernel_rfl
    · show (if (auL W.authors).length + 1 ≤ 1000000 then some (PyData.list (auL W.authors ++ [.str (auS own)])) else none) = _
      have hl : (auL W.authors).length = W.authors.length := List.length_map _
      rw [if_pos (by rw [hl]; omega)]
      unfold auL
      rw [List.map_append]
      rfl
  have put1 : ∀ {σ : L2.St} {H : Hp} {D : Ends}, LI K w H0 p 3 [some (.dict (klD W.kl)), some (.str act.s), some (.str (auS own)), none] W.kl σ H → (∀ H', LI K w H0 p 3 [some (.dict (klD W.kl)), some (.str act.s), some (.str (auS own)), none] (Wld.kl { W with authors := W.authors ++ [own] }) σ H' → D.nx σ H') →
      tAsg (tD K w (dBin gAddL (dBin gIxD (dVar 0) (dC (.str "authors"))) (dLst (dConsA (dVar 2) dNilA)))) (L2.gSub (tVar 3) (tC (.str "authors")) rSetD) D σ H := fun {σ H D} I q => li_put I (kl_len _) (auth _ rfl rfl) rfl (by kernel_rfl) q
  obtain ⟨sec, th, wt, tg, lk, sp, ids, au, st, cp, sn, dn, lt⟩ := W
  cases act with
  | tick => exact absurd rfl hact
  | take =>
    cases th with
    | false => exact ⟨_, true, I.full, by kernel_rfl, fun H2 s2 => fin (by kernel_rfl) (I.mono s2)⟩
    | true =>
      refine ⟨_, false, I.full, by kernel_rfl, fun H2 s2 => put1 (I.mono s2) fun H3 I => ?_⟩
      refine ⟨_, true, I.full, by kernel_rfl, fun H4 s4 => li_put (d := .bool false) (I.mono s4) (kl_len _) (by kernel_rfl) rfl (kl' := Wld.kl ⟨sec, false, wt, tg, lk, sp, ids, au ++ [own], st, cp, sn, dn, lt⟩) (by kernel_rfl) fun H5 I => ?_⟩
      exact fin (W' := ⟨sec, false, wt, tg, lk, sp, ids, au ++ [own], st, cp, sn, dn, lt⟩) (by kernel_rfl) I
  | great =>
    refine ⟨_, false, I.full, by cases th <;> kernel_rfl, fun H2 s2 => put1 (I.mono s2) fun H3 I => ?_⟩
    refine ⟨_, false, I.full, by kernel_rfl, fun H4 s4 => li_put (d := iN (ids + 1)) (I.mono s4) (kl_len _) (by kernel_rfl) rfl (kl' := Wld.kl ⟨sec, th, wt, tg, lk, sp, ids + 1, au ++ [own], st, cp, sn, dn, lt⟩) (by kernel_rfl) fun H5 I => ?_⟩
    refine li_put2 (d := iN (ids + 1)) (d2 := iN sec) I (kl_len _) (by kernel_rfl) (by kernel_rfl) rfl rfl (kl' := Wld.kl ⟨sec, th, wt, ids + 1, lk, sec, ids + 1, au ++ [own], st, cp, sn, dn, lt⟩) (by kernel_rfl) (kl_len ⟨sec, th, wt, ids + 1, lk, sp, ids + 1, au ++ [own], st, cp, sn, dn, lt⟩) fun H6 I => ?_
    have go : ∀ {lk2 : Nat} {H : Hp}, edited ⟨sec, th, wt, tg, lk, sp, ids, au, st, cp, sn, dn, lt⟩ .great own = ⟨sec, true, true, ids + 1, lk2, sec, ids + 1, au ++ [own], st, cp, sn, dn, lt⟩ → LI K w H0 p 3 [some (.dict (klD (Wld.kl ⟨sec, th, wt, tg, lk, sp, ids, au, st, cp, sn, dn, lt⟩))), some (.str (Act.s .great)), some (.str (auS own)), none] (Wld.kl ⟨sec, th, wt, ids + 1, lk2, sec, ids + 1, au ++ [own], st, cp, sn, dn, lt⟩) ((L2.start nEdit [.ref a, .str (Act.s .great), .str (auS own)]).set 3 (some (.ref p))) H →
        (tSeq (tAsg (tTup (tCons (tD K w (dC (.bool true))) (tCons (tD K w (dC (.bool true))) tNil))) (gTup K 2 (gCons (L2.gSub (tVar 3) (tC (.str "is_there")) rSetD) (gCons (L2.gSub (tVar 3) (tC (.str "was_there")) rSetD) gNil)))) (tRet (tVar 3))) { nx := fun _ H' => Q .non H', rt := Q } ((L2.start nEdit [.ref a, .str (Act.s .great), .str (auS own)]).set 3 (some (.ref p))) H := fun {lk2 H} e I =>
      li_put2 (d := .bool true) (d2 := .bool true) I (kl_len _) rfl rfl rfl rfl (kl' := Wld.kl ⟨sec, true, true, ids + 1, lk2, sec, ids + 1, au ++ [own], st, cp, sn, dn, lt⟩) (by kernel_rfl) (kl_len ⟨sec, true, wt, ids + 1, lk2, sec, ids + 1, au ++ [own], st, cp, sn, dn, lt⟩) fun H7 I => fin e I
    cases th with
    | true => exact ⟨_, true, I.full, by kernel_rfl, fun H7 s7 => li_put (d := iN (ids + 1)) (I.mono s7) (kl_len _) (by kernel_rfl) rfl (kl' := Wld.kl ⟨sec, true, wt, ids + 1, ids + 1, sec, ids + 1, au ++ [own], st, cp, sn, dn, lt⟩) (by kernel_rfl) fun H8 I => go (by kernel_rfl) I⟩
    | false => exact ⟨_, true, I.full, by kernel_rfl, fun H7 s7 => li_put (d := iN (ids + 1)) (I.mono s7) (kl_len _) (by kernel_rfl) rfl (kl' := Wld.kl ⟨sec, false, wt, ids + 1, ids + 1, sec, ids + 1, au ++ [own], st, cp, sn, dn, lt⟩) (by kernel_rfl) fun H8 I => go (by kernel_rfl) I⟩
  | small =>
    refine ⟨_, false, I.full, by cases th <;> kernel_rfl, fun H2 s2 => put1 (I.mono s2) fun H3 I => ?_⟩
    refine ⟨_, false, I.full, by kernel_rfl, fun H4 s4 => li_put (d := iN (ids + 1)) (I.mono s4) (kl_len _) (by kernel_rfl) rfl (kl' := Wld.kl ⟨sec, th, wt, tg, lk, sp, ids + 1, au ++ [own], st, cp, sn, dn, lt⟩) (by kernel_rfl) fun H5 I => ?_⟩
    refine li_put2 (d := iN (ids + 1)) (d2 := iN sec) I (kl_len _) (by kernel_rfl) (by kernel_rfl) rfl rfl (kl' := Wld.kl ⟨sec, th, wt, ids + 1, lk, sec, ids + 1, au ++ [own], st, cp, sn, dn, lt⟩) (by kernel_rfl) (kl_len ⟨sec, th, wt, ids + 1, lk, sp, ids + 1, au ++ [own], st, cp, sn, dn, lt⟩) fun H6 I => ?_
    have go : ∀ {lk2 : Nat} {H : Hp}, edited ⟨sec, th, wt, tg, lk, sp, ids, au, st, cp, sn, dn, lt⟩ .small own = ⟨sec, true, true, ids + 1, lk2, sec, ids + 1, au ++ [own], st, cp, sn, dn, lt⟩ → LI K w H0 p 3 [some (.dict (klD (Wld.kl ⟨sec, th, wt, tg, lk, sp, ids, au, st, cp, sn, dn, lt⟩))), some (.str (Act.s .small)), some (.str (auS own)), none] (Wld.kl ⟨sec, th, wt, ids + 1, lk2, sec, ids + 1, au ++ [own], st, cp, sn, dn, lt⟩) ((L2.start nEdit [.ref a, .str (Act.s .small), .str (auS own)]).set 3 (some (.ref p))) H →
        (tSeq (tAsg (tTup (tCons (tD K w (dC (.bool true))) (tCons (tD K w (dC (.bool true))) tNil))) (gTup K 2 (gCons (L2.gSub (tVar 3) (tC (.str "is_there")) rSetD) (gCons (L2.gSub (tVar 3) (tC (.str "was_there")) rSetD) gNil)))) (tRet (tVar 3))) { nx := fun _ H' => Q .non H', rt := Q } ((L2.start nEdit [.ref a, .str (Act.s .small), .str (auS own)]).set 3 (some (.ref p))) H := fun {lk2 H} e I =>
      li_put2 (d := .bool true) (d2 := .bool true) I (kl_len _) rfl rfl rfl rfl (kl' := Wld.kl ⟨sec, true, true, ids + 1, lk2, sec, ids + 1, au ++ [own], st, cp, sn, dn, lt⟩) (by kernel_rfl) (kl_len ⟨sec, true, wt, ids + 1, lk2, sec, ids + 1, au ++ [own], st, cp, sn, dn, lt⟩) fun H7 I => fin e I
    cases th with
    | true => exact ⟨_, false, I.full, by kernel_rfl, fun H7 s7 => go (by kernel_rfl) (I.mono s7)⟩
    | false => exact ⟨_, true, I.full, by kernel_rfl, fun H7 s7 => li_put (d := iN (ids + 1)) (I.mono s7) (kl_len _) (by kernel_rfl) rfl (kl' := Wld.kl ⟨sec, false, wt, ids + 1, ids + 1, sec, ids + 1, au ++ [own], st, cp, sn, dn, lt⟩) (by kernel_rfl) fun H8 I => go (by kernel_rfl) I⟩
end
end Dn
set_option Elab.async false
set_option linter.all false
set_option maxRecDepth 100000
set_option maxHeartbeats 4000000
namespace Dn
open PySem PySem.Spec L2 PyProof.Rows
section
variable {P : Program} {w : World} {K : PySem.W.Frag} {mg : Str → Option Value} {base : Heap}
theorem LI.env0 {H0 H : Hp} {a : Addr} {j : Nat} {env : DE} {kl : Kl} {σ : L2.St} (I : LI K w H0 a j env kl σ H) : EnvOk K w H σ env := by
  obtain ⟨kvs, h1, h2⟩ := id I.ob
  have E := I.ev (.dK kvs)
  rw [upd_self h1] at E
  exact E
theorem NewW.mono {H H' : Hp} {Q : VK} {W : Wld} (s : Same H H') (h : NewW K H Q W) : NewW K H' Q W := fun b H2 s2 n ob => h b H2 (s.trans s2) (same_none s n) ob
/-! ### own_act -/
def spOwn (K : PySem.W.Frag) (w : World) : Sp := fun vs H Q _ => ∃ a v W one, vs = [.ref a, v] ∧ SD K H a (Wld.kl W) ∧ Rp K w H v (Stp.d one) ∧ one.writes = true ∧ W.authors.length < 100000 ∧ NewW K H Q (ownAct W one)
abbrev nOwn : List Str := ["_law_world", "_law_one", "_law_later"]
theorem sc_own_act : FnScope nOwn ["_law_world", "_law_one"] (defScope st__law_own_act) := ⟨rfl, rfl, rfl, by decide +kernel, rfl, by decide +kernel, by decide +kernel⟩
theorem act_ne_tick (one : Stp) : one.act ≠ .tick := by
  cases one with
  | put c z y n l => cases z <;> (intro h; cases h)
  | _ => intro h; cases h
theorem ok_own_act (T : Tx w K mg) : SOk P w K mg base 2 "_law_own_act" 2 (spOwn K w) := by
  refine sok_of 2 rfl T.g__law_own_act sc_own_act (fun vs H Q E ⟨a, v, W, one, e, _⟩ => by rw [e]; rfl) fun cd A outer s H0 E fa hr => ?_
  have hu := hr.units
  have hu1 : (A.deeper (envOfC "_law_own_act" (defScope st__law_own_act) s.heap.objs.size fa cd)).units + 1 < cLine := Nat.lt_of_le_of_lt (Nat.add_le_add_left (by decide) _) hu
  refine ⟨_, pss_cons (ps_set (i := 2) sc_own_act.nd rfl (Or.inl rfl) (p_call (ok_edited_by T) hr (pa_cons (pv 0) (pa_cons (d_call (ok__law_act_of T) (hr.mono (by decide)) (a_cons (d_var 1) a_nil)) (pa_cons d_str pa_nil)))))
    (pss_cons (ps_asg (d_add (d_ix hu1 (d_var 0) d_str) d_int) (pg_sub (pv 2) pe_str (set_dict hu1)))
    (pss_one (ps_ret (pv 2)))), ?_⟩
  rintro vs H0 Q E ⟨a, v, W, one, rfl, hW, hone, hw, hlen, q⟩
  have E0 : EnvOk K w H0 (L2.start nOwn [.ref a, v]) [some (.dict (klD W.kl)), some one.d, none] := start_ok (Ns := nOwn) (.cons hW.rp (.cons hone .nil))
  refine ⟨.ref a, rfl, _, .str one.act.s, E0, x_app (ds := [one.d]) rfl (e_l_act_of one hw), fun v1 H1 s1 r1 => ?_⟩
  cases rp_str r1
  refine ⟨_, .str "own", E0.mono s1, rfl, fun v2 H2 s2 r2 => ?_⟩
  cases rp_str r2
  have s12 := s1.trans s2
  refine ⟨a, W, one.act, true, rfl, hW.mono s12, act_ne_tick one, hlen, fun b H3 s3 hb ob => ?_⟩
  have I := LI.start (j := 2) (E0.mono s12) rfl s3 hb ob
  refine li_put (d := iN (W.done + 1)) I (kl_len _) (by kernel_rfl) rfl (kl' := (ownAct W one).kl) (by unfold ownAct; kernel_rfl) fun H4 I => ?_
  exact ⟨.ref b, I.vl, q b H4 (s12.trans I.s0) (same_none s12 hb) I.ob⟩
/-! ### next_step -/
def spNext (K : PySem.W.Frag) (w : World) : Sp := fun vs H Q _ => ∃ one a, RpAll K w H vs [Stp.d one, .str (Ans.s a)] ∧ okW one a ∧ ∀ v H', Same H H' → Rp K w H' v (iN (next one a)) → Q v H'
abbrev nNext : List Str := ["_law_one", "_law_answer", "_law_words", "_law_some"]
theorem sc_next_step : FnScope nNext ["_law_one", "_law_answer"] (defScope st__law_next_step) := ⟨rfl, rfl, rfl, by decide +kernel, rfl, by decide +kernel, by decide +kernel⟩
def wordsOf : Stp → List PyData
  | .read .. => [.str "got", .str "mine", .str "unchanged", .str "absent", .str "lost"]
  | .put .. => [.str "yes", .str "no", .str "lost"]
  | _ => [.str "yes", .str "no", .str "absent", .str "lost"]
def kindOf : Stp → Str
  | .read .. => "read" | .put .. => "put" | .take .. => "take" | .forget _ => "forget" | .fin _ => "end"
theorem ok_next_step (T : Tx w K mg) : SOk P w K mg base 1 "_law_next_step" 2 (spNext K w) := by
  refine sok_of 2 rfl T.g__law_next_step sc_next_step (fun vs H Q E ⟨one, a, r, _⟩ => by rw [r.length]; rfl) fun cd A outer s H0 E fa hr => ?_
  have hu := hr.units
  have hu1 : (A.deeper (envOfC "_law_next_step" (defScope st__law_next_step) s.heap.objs.size fa cd)).units + 1 < cLine := Nat.lt_of_le_of_lt (Nat.add_le_add_left (by decide) _) hu
  refine ⟨_, pss_cons (ps_set (i := 2) sc_next_step.nd rfl (Or.inl rfl) (pe_dispS [("read", dLst (dConsA (dC (.str "got")) (dConsA (dC (.str "mine")) (dConsA (dC (.str "unchanged")) (dConsA (dC (.str "absent")) (dConsA (dC (.str "lost")) dNilA)))))), ("put", dLst (dConsA (dC (.str "yes")) (dConsA (dC (.str "no")) (dConsA (dC (.str "lost")) dNilA))))]
      (pps_cons pe_str (d_lst (a_cons d_str (a_cons d_str (a_cons d_str (a_cons d_str (a_cons d_str a_nil)))))) (pps_cons pe_str (d_lst (a_cons d_str (a_cons d_str (a_cons d_str a_nil)))) pps_nil)) rfl rfl (by decide) (by decide)))
    (pss_cons (ps_set (i := 3) sc_next_step.nd rfl (Or.inl rfl) (pe_dget2 hu1 (pv 2) (d_ix hu1 (d_var 0) d_int) (d_lst (a_cons d_str (a_cons d_str (a_cons d_str (a_cons d_str a_nil))))) ⟨rfl, rfl, rfl, rfl⟩))
    (pss_one (ps_ret (d_ix hu1 (d_var 0) (d_add (d_sub (d_callB b_len T.b_len PySem.boot_len (a_cons (d_var 0) a_nil)) (d_callB b_len T.b_len PySem.boot_len (a_cons (d_var 3) a_nil))) (d_lindex (d_var 3) (d_var 1))))))), ?_⟩
  rintro vs H0 Q E ⟨one, ans, r, hok, q⟩
  have E0 := start_ok (Ns := nNext) r
  refine ⟨_, _, E0, rfl, by decide, fun p H1 s1 hp ob => ?_⟩
  have E1 : EnvOk K w H1 ((L2.start nNext vs).set 2 (some (.ref p))) [some one.d, some (.str ans.s), some (.dict (klD [("read", .list [.str "got", .str "mine", .str "unchanged", .str "absent", .str "lost"]), ("put", .list [.str "yes", .str "no", .str "lost"])])), none] := (E0.mono s1).set 2 ob.rp
  have hl0 : (L2.start nNext vs).length = 4 := E0.len
  obtain ⟨kvs, k1, k2⟩ := id ob
  refine ⟨.ref p, get_set (by rw [hl0]; decide), p, rfl, .inl ⟨kvs, .inl k1⟩, _, .str (kindOf one), E1, by cases one <;> kernel_rfl, fun v2 H2 s2 r2 => ?_⟩
  cases rp_str r2
  refine ⟨_, .list [.str "yes", .str "no", .str "absent", .str "lost"], E1.mono s2, by kernel_rfl, fun v3 H3 s3 r3 => ?_⟩
  have s23 := s2.trans s3
  refine ⟨_, DGet.k (k := .inr (kindOf one)) (s23 _ _ k1), ?_⟩
  have E3 := E1.mono s23
  have get : Rp K w H3 ((valV kvs (.inr (kindOf one))).getD v3) (.list (wordsOf one)) := by
    have hk := (k2.mono (Same.d s23)).d
    cases one with
    | read c a b u e l =>
      obtain ⟨v, e1, e2⟩ := kvD_val hk "read" (d := .list [.str "got", .str "mine", .str "unchanged", .str "absent", .str "lost"]) (by kernel_rfl)
      have e1 : valV kvs (.inr (kindOf (.read c a b u e l))) = some v := e1
      rw [e1]
      exact .dat e2
    | put c z y n l =>
      obtain ⟨v, e1, e2⟩ := kvD_val hk "put" (d := .list [.str "yes", .str "no", .str "lost"]) (by kernel_rfl)
      have e1 : valV kvs (.inr (kindOf (.put c z y n l))) = some v := e1
      rw [e1]
      exact .dat e2
    | take c y n a l =>
      have e1 : valV kvs (.inr (kindOf (.take c y n a l))) = none := by
        cases k2 with
        | cons h1 t =>
          cases t with
          | cons h2 t =>
            cases t
            unfold valV
            rw [List.find?_cons, h1.1, List.find?_cons, h2.1]
            kernel_rfl
      rw [e1]
      exact r3
    | _ => exact hok.elim
  have E4 := E3.set 3 get
  refine ⟨_, iN (next one ans), E4, ?_, fun v4 H4 s4 r4 => q v4 H4 ((s1.trans s23).trans s4) r4⟩
  cases one with
  | read c a b u e l => cases ans <;> first | (exact hok.elim) | kernel_rfl
  | put c z y n l => cases ans <;> first | (exact hok.elim) | kernel_rfl
  | take c y n a l => cases ans <;> first | (exact hok.elim) | kernel_rfl
  | _ => exact hok.elim
end
end Dn
set_option Elab.async false
set_option linter.all false
set_option maxRecDepth 100000
set_option maxHeartbeats 4000000
namespace Dn
open PySem PySem.Spec L2 PyProof.Rows
section
variable {P : Program} {w : World} {K : PySem.W.Frag} {mg : Str → Option Value} {base : Heap}
abbrev stD (steps : List Stp) : PyData := .tuple (steps.map Stp.d)
/-! ### answered_in -/
def spAns (K : PySem.W.Frag) (w : World) : Sp := fun vs H Q _ => ∃ a v W steps, vs = [.ref a, v] ∧ SD K H a (Wld.kl W) ∧ Rp K w H v (stD steps) ∧ W.step < steps.length ∧ scrOk steps ∧ (stp steps W.step).isEnd = false ∧ W.authors ≠ [] ∧ W.authors.length < 100000 ∧ NewW K H Q (answeredW W (stp steps W.step))
abbrev nAns : List Str := ["_law_world", "_law_steps", "_law_one", "_law_later", "_law_answer"]
theorem sc_answered_in : FnScope nAns ["_law_world", "_law_steps"] (defScope st__law_answered_in) := ⟨rfl, rfl, rfl, by decide +kernel, rfl, by decide +kernel, by decide +kernel⟩
theorem edited_authors (W : Wld) (a : Act) (own : Bool) : (edited W a own).authors = W.authors ∨ (edited W a own).authors = W.authors ++ [own] := by
  obtain ⟨sec, th, wt, tg, lk, sp, ids, au, st, cp, sn, dn, lt⟩ := W
  cases a <;> cases th <;> first | exact .inl rfl | exact .inr rfl
theorem okW_reply (W : Wld) (e : Option Ed) (one : Stp) (ha : one.asks = true) : okW one (wReply W e one) := by
  cases one with
  | read c a b u e1 l =>
    show okW _ (if W.isThere then (if wBare e c then (if lastOwn W then .mine else .got) else if wFits W e c then .unchanged else (if lastOwn W then .mine else .got)) else .absent)
    cases W.isThere <;> cases wBare e c <;> cases wFits W e c <;> cases lastOwn W <;> trivial
  | put c z y n l =>
    have h : ∀ c2, okW (.put c z y n l) (if W.isThere then (if wBare e c2 then .yes else if wFits W e c2 then .yes else .no) else if wBare e c2 then .yes else .no) := fun c2 => by cases W.isThere <;> cases wBare e c2 <;> cases wFits W e c2 <;> trivial
    cases c with
    | there => show okW _ (if W.isThere then .yes else .no); cases W.isThere <;> trivial
    | none => show okW _ (if W.isThere then .no else .yes); cases W.isThere <;> trivial
    | plain => exact h .plain
    | tag => exact h .tag
    | look => exact h .look
    | stamp => exact h .stamp
  | take c y n a l =>
    have h : ∀ c2, okW (.take c y n a l) (if W.isThere then (if wBare e c2 then .yes else if wFits W e c2 then .yes else .no) else if wBare e c2 then .absent else .no) := fun c2 => by cases W.isThere <;> cases wBare e c2 <;> cases wFits W e c2 <;> trivial
    cases c with
    | there => show okW _ (if W.isThere then .yes else .no); cases W.isThere <;> trivial
    | none => show okW _ (if W.isThere then .no else .yes); cases W.isThere <;> trivial
    | plain => exact h .plain
    | tag => exact h .tag
    | look => exact h .look
    | stamp => exact h .stamp
  | _ => cases ha
theorem reply_yes {W : Wld} {e : Option Ed} {one : Stp} (h : wReply W e one = .yes) (hc : one.asks = true) : one.writes = true := by
  have := okW_reply W e one hc
  rw [h] at this
  cases one <;> first | rfl | exact this.elim | cases hc
theorem e_heard (L : Wld) (i : Nat) (env : DE) (he : env[i]? = some (some (.dict (klD L.kl)))) : dIf (dTest (dBin gIxD (dVar i) (dC (.str "is_there")))) (dApp den__law_held_in (dConsA (dVar i) dNilA)) (dC .none) env = some (edD (if L.isThere then some L.held else none)) := by
  have hv : dVar i env = some (.dict (klD L.kl)) := by unfold dVar; rw [he]; rfl
  have eh := e_held_in L
  obtain ⟨sec, th, wt, tg, lk, sp', ids, au, st, cp, sn, dn, lt⟩ := L
  cases th with
  | false => exact x_ife (b := false) (x_test (x_bin hv rfl (by kernel_rfl))) rfl
  | true => exact x_ife (b := true) (x_test (x_bin hv rfl (by kernel_rfl))) (x_app (x_consA hv x_nilA) eh)
theorem ok_answered_in (T : Tx w K mg) : SOk P w K mg base 3 "_law_answered_in" 2 (spAns K w) := by
  refine sok_of 2 rfl T.g__law_answered_in sc_answered_in (fun vs H Q E ⟨a, v, W, steps, e, _⟩ => by rw [e]; rfl) fun cd A outer s H0 E fa hr => ?_
  have hu := hr.units
  have hu1 : (A.deeper (envOfC "_law_answered_in" (defScope st__law_answered_in) s.heap.objs.size fa cd)).units + 1 < cLine := Nat.lt_of_le_of_lt (Nat.add_le_add_left (by decide) _) hu
  refine ⟨_, pss_cons (ps_set (i := 2) sc_answered_in.nd rfl (Or.inl rfl) (d_ix hu1 (d_var 1) (d_ix hu1 (d_var 0) d_str)))
    (pss_cons (ps_set (i := 3) sc_answered_in.nd rfl (Or.inl rfl) (pe_callTy call_dict_of (by rfl) T.b_dict (by rfl) (pa_cons (pv 0) pa_nil)))
    (pss_cons (ps_if (t_cmp (c_eq hu) (d_ix hu1 (d_var 2) d_int) d_str (by rfl)) (pss_cons (ps_asg (pe_tup (pa_cons d_non (pa_cons (d_ix hu1 (d_var 2) d_int) pa_nil))) (pg_tup (n := 2) rfl (pgs_cons (pg_sub (pv 3) pe_str (set_dict hu1)) (pgs_cons (pg_sub (pv 3) pe_str (set_dict hu1)) pgs_nil)))) (pss_one (ps_ret (pv 3)))) pss_nil)
    (pss_cons (ps_set (i := 4) sc_answered_in.nd rfl (Or.inl rfl) (d_call (ok__law_reply_to T) (hr.mono (by decide)) (a_cons (d_var 0) (a_cons (d_ix hu1 (d_var 0) d_str) (a_cons (d_var 2) a_nil)))))
    (pss_cons (ps_if (t_cmp (c_eq hu) (d_var 4) d_str (by rfl)) (pss_one (ps_set (i := 3) sc_answered_in.nd rfl (Or.inl rfl) (p_call (ok_own_act T) hr (pa_cons (pv 0) (pa_cons (pv 2) pa_nil))))) pss_nil)
    (pss_cons (ps_asg (p_call (ok_next_step T) (hr.mono (by decide)) (a_cons (d_var 2) (a_cons (d_var 4) a_nil))) (pg_sub (pv 3) pe_str (set_dict hu1)))
    (pss_cons (ps_if (t_cmp c_in (d_var 4) (d_tup (a_cons d_str (a_cons d_str (a_cons d_str (a_cons d_str a_nil))))) (by rfl))
      (pss_cons (ps_asg (d_sub (d_callB b_len T.b_len PySem.boot_len (a_cons (d_ix hu1 (d_var 3) d_str) a_nil)) d_int) (pg_sub (pv 3) pe_str (set_dict hu1)))
      (pss_one (ps_asg (d_if (t_val (d_ix hu1 (d_var 3) d_str)) (d_call (ok__law_held_in T) (hr.mono (by decide)) (a_cons (d_var 3) a_nil)) d_non) (pg_sub (pv 3) pe_str (set_dict hu1))))) pss_nil)
    (pss_one (ps_ret (pv 3))))))))), ?_⟩
  rintro vs H0 Q E ⟨a, v, W, steps, rfl, hW, hst, hstep, so, hend, hau, hlen, q⟩
  have E0 : EnvOk K w H0 (L2.start nAns [.ref a, v]) [some (.dict (klD W.kl)), some (stD steps), none, none, none] := start_ok (Ns := nAns) (.cons hW.rp (.cons hst .nil))
  have hone := stp_at hstep
  have hcok := so.c hstep
  generalize stp steps W.step = one at hone hcok hend q
  refine ⟨_, one.d, E0, hone, fun v1 H1 s1 r1 => ?_⟩
  have E1 := (E0.mono s1).set 2 r1
  have q1 := q.mono s1
  have hW1 := hW.mono s1
  obtain ⟨kvs, h1, h2⟩ := id hW1
  refine ⟨.ref a, by rw [List.getElem?_set_ne (by decide)]; rfl, a, kvs, rfl, h1, fun p hp => ?_⟩
  have sp := same_new (o := .dK kvs) hp
  have I := LI.start (j := 3) E1 rfl sp hp ⟨kvs, upd_same, h2.mono (Same.d sp)⟩
  change LI K w H1 p 3 [some (.dict (klD W.kl)), some (stD steps), some one.d, none, none] W.kl _ _ at I
  have v0 : (((L2.start nAns [V.ref a, v]).set 2 (some v1)).set 3 (some (V.ref p)))[0]? = some (some (.ref a)) := rfl
  have sk : ∀ (g : Nat) (l : Wld), True := fun _ _ => trivial
  by_cases hf : ∃ n, one = .forget n
  · obtain ⟨n, rfl⟩ := hf
    refine ⟨_, true, I.full, by kernel_rfl, fun H2 s2 => ?_⟩
    obtain ⟨sec, th, wt, tg, lk, sp', ids, au, st, cp, sn, dn, lt⟩ := W
    refine li_put2 (d := .none) (d2 := iN n) (I.mono s2) (kl_len _) rfl (by kernel_rfl) rfl rfl (kl' := Wld.kl ⟨sec, th, wt, tg, lk, sp', ids, au, n, none, sn, dn, lt⟩) (by kernel_rfl) (kl_len ⟨sec, th, wt, tg, lk, sp', ids, au, st, none, sn, dn, lt⟩) fun H3 I => ?_
    exact ⟨.ref p, I.vl, q1 p H3 I.s0 I.n0 I.ob⟩
  · have hask : one.asks = true := by cases one <;> first | rfl | exact absurd ⟨_, rfl⟩ hf | cases hend
    have hans : answeredW W one = (if tellsW (wReply W W.copy one) then heardW { (match wReply W W.copy one with | .yes => ownAct W one | _ => W) with step := next one (wReply W W.copy one) } else { (match wReply W W.copy one with | .yes => ownAct W one | _ => W) with step := next one (wReply W W.copy one) }) := by
      cases one <;> first | rfl | exact absurd ⟨_, rfl⟩ hf
    have hok := okW_reply W W.copy one hask
    have hyes := fun h => reply_yes (W := W) (e := W.copy) (one := one) h hask
    have erep := e_reply_to W hau W.copy one hask hcok
    rw [hans] at q1
    generalize wReply W W.copy one = ans at q1 hok hyes erep
    refine ⟨_, false, I.full, by cases one <;> first | exact absurd ⟨_, rfl⟩ hf | kernel_rfl, fun H2 s2 => ?_⟩
    refine ⟨_, .str ans.s, (I.mono s2).full, x_app (ds := [W.d, edD W.copy, one.d]) (by kernel_rfl) erep, fun v4 H3 s3 r3 => ?_⟩
    cases rp_str r3
    have s23 := s2.trans s3
    have I3 := I.mono s23
    -- the rest, from a world that is later's
    have rest : ∀ (L : Wld) (b : Addr) (σ : L2.St) (H : Hp), L.authors ≠ [] → LI K w H1 b 3 [some (.dict (klD W.kl)), some (stD steps), some one.d, none, some (.str ans.s)] L.kl σ H → NewW K H1 Q (if tellsW ans then heardW { L with step := next one ans } else { L with step := next one ans }) →
        (tSeq (tAsg (tSp (spNext K w) (tDA K w (dConsA (dVar 2) (dConsA (dVar 4) dNilA)))) (L2.gSub (tVar 3) (tC (.str "step")) rSetD))
          (tSeq (tIfS (tDT K w (dTest (dBin gIn (dVar 4) (dTup (dConsA (dC (.str "got")) (dConsA (dC (.str "mine")) (dConsA (dC (.str "absent")) (dConsA (dC (.str "yes")) dNilA))))))))
            (tSeq (tAsg (tD K w (dBin gSub (dApp gLenA (dConsA (dBin gIxD (dVar 3) (dC (.str "authors"))) dNilA)) (dC (.int 1)))) (L2.gSub (tVar 3) (tC (.str "seen")) rSetD))
              (tAsg (tD K w (dIf (dTest (dBin gIxD (dVar 3) (dC (.str "is_there")))) (dApp den__law_held_in (dConsA (dVar 3) dNilA)) (dC .none))) (L2.gSub (tVar 3) (tC (.str "copy")) rSetD))) tNext)
            (tRet (tVar 3)))) { nx := fun _ H' => Q .non H', rt := Q } σ H := by
      intro L b σ H hL I q
      refine ⟨_, _, I.full, rfl, fun vs5 H5 s5 r5 => ⟨one, ans, r5, hok, fun v6 H6 s6 r6 => ?_⟩⟩
      have I6 := I.mono (s5.trans s6)
      obtain ⟨kvs6, k1, k2⟩ := id I6.ob
      refine ⟨.ref b, I6.vl, b, _, rfl, DPut.k (k := .inr "step") k1 (by rw [k2.len]; exact Nat.lt_of_le_of_lt (kl_len _) (by decide)), ?_⟩
      have I7 := I6.put (x := "step") k1 k2 (r6.dp rfl)
      have ek : putS L.kl "step" (iN (next one ans)) = Wld.kl { L with step := next one ans } := by kernel_rfl
      rw [ek] at I7
      have hL' : ({ L with step := next one ans } : Wld).authors ≠ [] := hL
      generalize ({ L with step := next one ans } : Wld) = L' at I7 q hL'
      cases ht : tellsW ans with
      | false =>
        rw [ht] at q
        exact ⟨_, false, I7.full, by cases ans <;> first | (cases ht; done) | kernel_rfl, fun H8 s8 => ⟨.ref b, (I7.mono s8).vl, q b H8 (I7.mono s8).s0 I7.n0 (I7.mono s8).ob⟩⟩
      | true =>
        rw [ht] at q
        refine ⟨_, true, I7.full, by cases ans <;> first | (cases ht; done) | kernel_rfl, fun H8 s8 => ?_⟩
        have hz : some (PyData.int ((L'.authors.length : Nat) - 1)) = some (snD (some (L'.authors.length - 1))) := by
          have : 0 < L'.authors.length := List.length_pos_iff.mpr hL'
          show some (PyData.int _) = some (PyData.int _)
          congr 2
          omega
        refine li_put (d := snD (some (L'.authors.length - 1))) (I7.mono s8) (kl_len _) ((e_len1 L' 3 rfl).trans hz) rfl (kl' := Wld.kl { L' with seen := some (L'.authors.length - 1) }) (by kernel_rfl) fun H9 I9 => ?_
        exact li_put (d := edD (if L'.isThere then some L'.held else none)) I9 (kl_len _) (e_heard { L' with seen := some (L'.authors.length - 1) } 3 _ rfl) (by cases L'.isThere <;> rfl) (kl' := Wld.kl (heardW L')) (by kernel_rfl) fun H10 I10 => ⟨.ref b, I10.vl, q b H10 I10.s0 I10.n0 I10.ob⟩
    have I4 : LI K w H1 p 3 [some (.dict (klD W.kl)), some (stD steps), some one.d, none, some (.str ans.s)] W.kl ((((L2.start nAns [V.ref a, v]).set 2 (some v1)).set 3 (some (V.ref p))).set 4 (some (.str ans.s))) H3 := by
      refine ⟨fun o => (I3.ev o).set 4 (.dat (.str _)), rfl, by rw [List.getElem?_set_ne (by decide)]; exact I3.vl, I3.ob, I3.s0, I3.n0⟩
    by_cases hy : ans = .yes
    · subst hy
      refine ⟨_, true, I4.full, by kernel_rfl, fun H4 s4 => ?_⟩
      have I5 := I4.mono s4
      obtain ⟨v2', g2, r2'⟩ := I5.env0.get 2 one.d rfl
      refine ⟨.ref a, by rw [List.getElem?_set_ne (by decide)]; exact v0, v2', g2, a, v2', W, one, rfl, hW1.mono I5.s0, r2', hyes rfl, hlen, fun b H6 s6 hb ob => ?_⟩
      have I6 := LI.start (j := 3) I5.env0 rfl s6 hb ob
      have I7 : LI K w H1 b 3 [some (.dict (klD W.kl)), some (stD steps), some one.d, none, some (.str Ans.yes.s)] (ownAct W one).kl (((((L2.start nAns [V.ref a, v]).set 2 (some v1)).set 3 (some (V.ref p))).set 4 (some (.str Ans.yes.s))).set 3 (some (.ref b))) H6 := ⟨I6.ev, I6.no, I6.vl, I6.ob, I5.s0.trans I6.s0, same_none I5.s0 I6.n0⟩
      have hL : (ownAct W one).authors ≠ [] := by
        show (edited W one.act true).authors ≠ []
        rcases edited_authors W one.act true with e | e <;> rw [e]
        · exact hau
        · simp
      exact rest (ownAct W one) b _ H6 hL I7 q1
    · refine ⟨_, false, I4.full, by cases ans <;> first | exact absurd rfl hy | kernel_rfl, fun H4 s4 => ?_⟩
      refine rest W p _ H4 hau (I4.mono s4) ?_
      cases ans <;> first | exact absurd rfl hy | exact q1
end
end Dn
set_option Elab.async false
set_option linter.all false
set_option maxRecDepth 100000
set_option maxHeartbeats 4000000
namespace Dn
open PySem PySem.Spec L2 PyProof.Rows
section
variable {P : Program} {w : World} {K : PySem.W.Frag} {mg : Str → Option Value} {base : Heap}
def WLate (steps : List Stp) (W : Wld) : Prop := ∀ n e i, W.late = some (n, e, i) → n < steps.length ∧ (stp steps n).writes = true
def spBeh (K : PySem.W.Frag) (w : World) : Sp := fun vs H Q _ => ∃ a v W steps ev net o, vs = [.ref a, v, .str (Ev.s ev), .str (Net.s net)] ∧ SD K H a (Wld.kl W) ∧ Rp K w H v (stD steps) ∧ W.step < steps.length ∧ scrOk steps ∧ wCan W (stp steps W.step) ev o net = true ∧ WLate steps W ∧ W.authors ≠ [] ∧ W.authors.length < 100000 ∧
  NewW K H Q (behindW steps W ev net)
abbrev nBeh : List Str := ["_law_world", "_law_steps", "_law_event", "_law_net", "_law_one", "_law_later"]
theorem sc_world_behind : FnScope nBeh ["_law_world", "_law_steps", "_law_event", "_law_net"] (defScope st__law_world_behind) := ⟨rfl, rfl, rfl, by decide +kernel, rfl, by decide +kernel, by decide +kernel⟩
theorem ok_world_behind (T : Tx w K mg) : SOk P w K mg base 4 "_law_world_behind" 4 (spBeh K w) := by
  refine sok_of 4 rfl T.g__law_world_behind sc_world_behind (fun vs H Q E ⟨a, v, W, steps, ev, net, o, e, _⟩ => by rw [e]; rfl) fun cd A outer s H0 E fa hr => ?_
  have hu := hr.units
  have hu1 : (A.deeper (envOfC "_law_world_behind" (defScope st__law_world_behind) s.heap.objs.size fa cd)).units + 1 < cLine := Nat.lt_of_le_of_lt (Nat.add_le_add_left (by decide) _) hu
  refine ⟨_, pss_cons (ps_set (i := 4) sc_world_behind.nd rfl (Or.inl rfl) (d_ix hu1 (d_var 1) (d_ix hu1 (d_var 0) d_str)))
    (pss_cons (ps_if (t_cmp c_in (d_var 2) (d_tup (a_cons d_str (a_cons d_str (a_cons d_str a_nil)))) (by rfl)) (pss_one (ps_ret (p_call (ok_edited_by T) (hr.mono (by decide)) (pa_cons (pv 0) (pa_cons (pv 2) (pa_cons d_str pa_nil)))))) pss_nil)
    (pss_cons (ps_if (t_cmp (c_eq hu) (d_var 2) d_str (by rfl)) (pss_one (ps_ret (p_call (ok_answered_in T) hr (pa_cons (pv 0) (pa_cons (pv 1) pa_nil))))) pss_nil)
    (pss_cons (ps_set (i := 5) sc_world_behind.nd rfl (Or.inl rfl) (pe_callTy call_dict_of (by rfl) T.b_dict (by rfl) (pa_cons (pv 0) pa_nil)))
    (pss_cons (ps_if (t_cmp (c_eq hu) (d_var 2) d_str (by rfl)) (pss_one (ps_asg (d_add (d_ix hu1 (d_var 0) d_str) d_int) (pg_sub (pv 5) pe_str (set_dict hu1))))
      (pss_one (ps_if (t_cmp (c_eq hu) (d_var 2) d_str (by rfl))
        (pss_cons (ps_if (t_val (d_call (ok__law_is_done T) hr (a_cons (d_var 0) (a_cons (d_ix hu1 (d_ix hu1 (d_var 0) d_str) d_int) (a_cons (d_ix hu1 (d_var 1) (d_ix hu1 (d_ix hu1 (d_var 0) d_str) d_int)) a_nil)))))
          (pss_one (ps_set (i := 5) sc_world_behind.nd rfl (Or.inl rfl) (p_call (ok_own_act T) (hr.mono (by decide)) (pa_cons (pv 0) (pa_cons (d_ix hu1 (d_var 1) (d_ix hu1 (d_ix hu1 (d_var 0) d_str) d_int)) pa_nil))))) pss_nil)
        (pss_one (ps_asg (d_if (t_cmp (c_eq hu) (d_var 3) d_str (by rfl)) (d_ix hu1 (d_var 5) d_str) d_non) (pg_sub (pv 5) pe_str (set_dict hu1)))))
        (pss_cons (ps_if (t_cmp (c_eq hu) (d_var 2) d_str (by rfl)) (pss_one (ps_set (i := 5) sc_world_behind.nd rfl (Or.inl rfl) (p_call (ok_own_act T) (hr.mono (by decide)) (pa_cons (pv 0) (pa_cons (pv 4) pa_nil))))) pss_nil)
        (pss_cons (ps_asg (p_call (ok_next_step T) (hr.mono (by decide)) (a_cons (d_var 4) (a_cons d_str a_nil))) (pg_sub (pv 5) pe_str (set_dict hu1)))
        (pss_one (ps_if (w_and (t_cmp (c_ne hu) (d_ix hu1 (d_var 4) d_int) d_str (by rfl)) (w_and1 (w_or (t_cmp (c_eq hu) (d_var 3) d_str (by rfl)) (w_or1 (w_and (t_cmp (c_eq hu) (d_var 3) d_str (by rfl)) (w_and1 (t_cmp (c_eq hu) (d_var 2) d_str (by rfl)))).pt)).pt)).pt
          (pss_one (ps_asg (d_call (ok__law_sent_in T) (hr.mono (by decide)) (a_cons (d_var 0) a_nil)) (pg_sub (pv 5) pe_str (set_dict hu1)))) pss_nil)))))))
    (pss_one (ps_ret (pv 5))))))), ?_⟩
  rintro vs H0 Q E ⟨a, v, W, steps, ev, net, o, rfl, hW, hst, hstep, so, hcan, hlate, hau, hlen, q⟩
  have E0 : EnvOk K w H0 (L2.start nBeh [.ref a, v, .str ev.s, .str net.s]) [some (.dict (klD W.kl)), some (stD steps), some (.str ev.s), some (.str net.s), none, none] := start_ok (Ns := nBeh) (.cons hW.rp (.cons hst (.cons (.dat (.str _)) (.cons (.dat (.str _)) .nil))))
  have hone := stp_at hstep
  have hcok := so.c hstep
  have hbeh : ∀ W', behindW steps W ev net = W' → NewW K H0 Q W' := fun W' e => e ▸ q
  generalize hst1 : stp steps W.step = one at hone hcok hcan
  refine ⟨_, one.d, E0, hone, fun v1 H1 s1 r1 => ?_⟩
  have E1 := (E0.mono s1).set 4 r1
  change EnvOk K w H1 _ [some (.dict (klD W.kl)), some (stD steps), some (.str ev.s), some (.str net.s), some one.d, none] at E1
  have hW1 := hW.mono s1
  have v0 : ((L2.start nBeh [V.ref a, v, V.str ev.s, V.str net.s]).set 4 (some v1))[0]? = some (some (.ref a)) := rfl
  have v1' : ((L2.start nBeh [V.ref a, v, V.str ev.s, V.str net.s]).set 4 (some v1))[1]? = some (some v) := rfl
  have v2 : ((L2.start nBeh [V.ref a, v, V.str ev.s, V.str net.s]).set 4 (some v1))[2]? = some (some (.str ev.s)) := rfl
  -- a writing of others
  have writes : ∀ (nx : L2.St → Hp → Prop) (act : Act), act.s = ev.s → act ≠ .tick → behindW steps W ev net = edited W act false → dTest (dBin gIn (dVar 2) (dTup (dConsA (dC (.str "great")) (dConsA (dC (.str "small")) (dConsA (dC (.str "take")) dNilA))))) [some (.dict (klD W.kl)), some (stD steps), some (.str ev.s), some (.str net.s), some one.d, none] = some true →
      tIfS (tDT K w (dTest (dBin gIn (dVar 2) (dTup (dConsA (dC (.str "great")) (dConsA (dC (.str "small")) (dConsA (dC (.str "take")) dNilA)))))))
        (tRet (tSp (spEdit K) (tCons (tVar 0) (tCons (tVar 2) (tCons (tD K w (dC (.str "others"))) tNil))))) tNext { nx := nx, rt := Q } ((L2.start nBeh [V.ref a, v, V.str ev.s, V.str net.s]).set 4 (some v1)) H1 := by
    intro nx act ha hne he hb
    refine ⟨_, true, E1, hb, fun H2 s2 => ⟨.ref a, v0, .str ev.s, v2, _, .str "others", E1.mono s2, rfl, fun v3 H3 s3 r3 => ?_⟩⟩
    cases rp_str r3
    exact ⟨a, W, act, false, by rw [ha]; rfl, hW1.mono (s2.trans s3), hne, hlen, (hbeh _ he).mono (s1.trans (s2.trans s3))⟩
  have noW : ev ≠ .great → ev ≠ .small → ev ≠ .take → dTest (dBin gIn (dVar 2) (dTup (dConsA (dC (.str "great")) (dConsA (dC (.str "small")) (dConsA (dC (.str "take")) dNilA))))) [some (.dict (klD W.kl)), some (stD steps), some (.str ev.s), some (.str net.s), some one.d, none] = some false := by
    intro h1 h2 h3
    cases ev <;> first | exact absurd rfl h1 | exact absurd rfl h2 | exact absurd rfl h3 | kernel_rfl
  obtain ⟨kvs, h1, h2⟩ := id hW1
  -- a copy of the world
  have copy : ∀ {H2 : Hp}, Same H1 H2 → ∀ p, H2 p = none → LI K w H1 p 5 [some (.dict (klD W.kl)), some (stD steps), some (.str ev.s), some (.str net.s), some one.d, none] W.kl (((L2.start nBeh [V.ref a, v, V.str ev.s, V.str net.s]).set 4 (some v1)).set 5 (some (V.ref p))) (upd H2 p (.dK kvs)) := by
    intro H2 s2 p hp
    have sp := same_new (o := .dK kvs) hp
    have I := LI.start (j := 5) (E1.mono s2) rfl sp hp ⟨kvs, upd_same, (h2.mono (Same.d s2)).mono (Same.d sp)⟩
    exact ⟨I.ev, I.no, I.vl, I.ob, s2.trans I.s0, same_none s2 I.n0⟩
  -- own_act
  have own : ∀ {b : Addr} {σ : L2.St} {H : Hp} {kl : Kl} (one2 : Stp) (u : V) (G : V → Hp → Prop), LI K w H1 b 5 [some (.dict (klD W.kl)), some (stD steps), some (.str ev.s), some (.str net.s), some one.d, none] kl σ H → Rp K w H u one2.d → one2.writes = true →
      (∀ b' H', LI K w H1 b' 5 [some (.dict (klD W.kl)), some (stD steps), some (.str ev.s), some (.str net.s), some one.d, none] (ownAct W one2).kl (σ.set 5 (some (.ref b'))) H' → G (.ref b') H') → spOwn K w [.ref a, u] H G L2.E0 := by
    intro b σ H kl one2 u G I r hw g
    refine ⟨a, u, W, one2, rfl, hW1.mono I.s0, r, hw, hlen, fun b' H' s' hb ob => g b' H' ?_⟩
    have I2 := LI.start (j := 5) I.env0 rfl s' hb ob
    exact ⟨I2.ev, I2.no, I2.vl, I2.ob, I.s0.trans I2.s0, same_none I.s0 I2.n0⟩
  -- behind an answer that is lost
  have lost : ∀ (L : Wld) {b : Addr} {σ : L2.St} {H : Hp}, (ev = .unheard ∨ ev = .unsent) → one.asks = true → behindW steps W ev net = lostW W L one ev net → LI K w H1 b 5 [some (.dict (klD W.kl)), some (stD steps), some (.str ev.s), some (.str net.s), some one.d, none] L.kl σ H →
      (tSeq (tAsg (tSp (spNext K w) (tDA K w (dConsA (dVar 4) (dConsA (dC (.str "lost")) dNilA)))) (L2.gSub (tVar 5) (tC (.str "step")) rSetD))
        (tIfS (tDT K w (dAndT (dTest (dBin gNe (dBin gIxD (dVar 4) (dC (.int 0))) (dC (.str "read")))) (dOrT (dTest (dBin gEq (dVar 3) (dC (.str "again")))) (dAndT (dTest (dBin gEq (dVar 3) (dC (.str "late")))) (dTest (dBin gEq (dVar 2) (dC (.str "unsent"))))))))
          (tAsg (tD K w (dApp den__law_sent_in (dConsA (dVar 0) dNilA))) (L2.gSub (tVar 5) (tC (.str "late")) rSetD)) tNext)) { nx := tRet (tVar 5) { nx := fun _ H' => Q .non H', rt := Q }, rt := Q } σ H := by
    intro L b σ H hev hask he I
    refine ⟨_, [one.d, .str Ans.lost.s], I.full, rfl, fun vs5 H5 s5 r5 => ⟨one, .lost, r5, okW_lost one hask, fun v6 H6 s6 r6 => ?_⟩⟩
    have I6 := I.mono (s5.trans s6)
    obtain ⟨kvs6, k1, k2⟩ := id I6.ob
    refine ⟨.ref b, I6.vl, b, _, rfl, DPut.k (k := .inr "step") k1 (by rw [k2.len]; exact Nat.lt_of_le_of_lt (kl_len _) (by decide)), ?_⟩
    have I7 := I6.put (x := "step") k1 k2 (r6.dp rfl)
    have ek : putS L.kl "step" (iN (next one .lost)) = Wld.kl { L with step := next one .lost } := by kernel_rfl
    rw [ek] at I7
    have qq := hbeh _ he
    have out : ∀ {L' : Wld} {H' : Hp}, lostW W L one ev net = L' → LI K w H1 b 5 [some (.dict (klD W.kl)), some (stD steps), some (.str ev.s), some (.str net.s), some one.d, none] L'.kl σ H' → tRet (tVar 5) { nx := fun _ H' => Q .non H', rt := Q } σ H' := fun {L' H'} e I => ⟨.ref b, I.vl, (e ▸ qq) b H' (s1.trans I.s0) (same_none s1 I.n0) I.ob⟩
    have no : ∀ {x : DE → Option Bool}, x ([some (.dict (klD W.kl)), some (stD steps), some (.str ev.s), some (.str net.s), some one.d, none].set 5 (some (.dict (klD (Wld.kl { L with step := next one .lost }))))) = some false → lostW W L one ev net = { L with step := next one .lost } →
        tIfS (tDT K w x) (tAsg (tD K w (dApp den__law_sent_in (dConsA (dVar 0) dNilA))) (L2.gSub (tVar 5) (tC (.str "late")) rSetD)) tNext { nx := tRet (tVar 5) { nx := fun _ H' => Q .non H', rt := Q }, rt := Q } σ _ := fun {x} hx e => ⟨_, false, I7.full, hx, fun H8 s8 => out e (I7.mono s8)⟩
    have yes : ∀ {x : DE → Option Bool}, x ([some (.dict (klD W.kl)), some (stD steps), some (.str ev.s), some (.str net.s), some one.d, none].set 5 (some (.dict (klD (Wld.kl { L with step := next one .lost }))))) = some true → lostW W L one ev net = { L with step := next one .lost, late := some (wSent W) } →
        tIfS (tDT K w x) (tAsg (tD K w (dApp den__law_sent_in (dConsA (dVar 0) dNilA))) (L2.gSub (tVar 5) (tC (.str "late")) rSetD)) tNext { nx := tRet (tVar 5) { nx := fun _ H' => Q .non H', rt := Q }, rt := Q } σ _ := fun {x} hx e =>
      ⟨_, true, I7.full, hx, fun H8 s8 => li_put (d := wlD (some (wSent W))) (I7.mono s8) (kl_len _) (x_app (ds := [W.d]) rfl (e_sent_in W hau)) rfl (kl' := Wld.kl { L with step := next one .lost, late := some (wSent W) }) (by kernel_rfl) fun H9 I9 => out e I9⟩
    cases one with
    | fin _ => cases hask
    | forget _ => cases hask
    | read c a' b' u e l => rcases hev with rfl | rfl <;> exact no (by cases net <;> kernel_rfl) rfl
    | put c z y n l =>
      cases net with
      | again => rcases hev with rfl | rfl <;> exact yes (by kernel_rfl) rfl
      | late =>
        rcases hev with rfl | rfl
        · exact no (by kernel_rfl) rfl
        · exact yes (by kernel_rfl) rfl
      | _ => rcases hev with rfl | rfl <;> exact no (by kernel_rfl) rfl
    | take c y n a' l =>
      cases net with
      | again => rcases hev with rfl | rfl <;> exact yes (by kernel_rfl) rfl
      | late =>
        rcases hev with rfl | rfl
        · exact no (by kernel_rfl) rfl
        · exact yes (by kernel_rfl) rfl
      | _ => rcases hev with rfl | rfl <;> exact no (by kernel_rfl) rfl
  have back : ∀ (W' : Wld) {b : Addr} {σ : L2.St} {H : Hp}, behindW steps W ev net = W' → LI K w H1 b 5 [some (.dict (klD W.kl)), some (stD steps), some (.str ev.s), some (.str net.s), some one.d, none] W'.kl σ H → tRet (tVar 5) { nx := fun _ H' => Q .non H', rt := Q } σ H := fun W' {b σ H} e I => ⟨.ref b, I.vl, (hbeh _ e) b H (s1.trans I.s0) (same_none s1 I.n0) I.ob⟩
  cases ev with
  | great => exact writes _ .great rfl (by decide) rfl (by kernel_rfl)
  | small => exact writes _ .small rfl (by decide) rfl (by kernel_rfl)
  | take => exact writes _ .take rfl (by decide) rfl (by kernel_rfl)
  | answered =>
    refine ⟨_, false, E1, by kernel_rfl, fun H2 s2 => ⟨_, true, E1.mono s2, by kernel_rfl, fun H3 s3 => ⟨.ref a, v0, v, v1', ?_⟩⟩⟩
    have s13 := s1.trans (s2.trans s3)
    refine ⟨a, v, W, steps, rfl, hW.mono s13, hst.mono s13, hstep, so, ?_, hau, hlen, q.mono s13⟩
    rw [hst1]
    unfold wCan at hcan
    simpa using hcan
  | tick =>
    refine ⟨_, false, E1, by kernel_rfl, fun H2 s2 => ⟨_, false, E1.mono s2, by kernel_rfl, fun H3 s3 => ⟨.ref a, v0, a, kvs, rfl, s3 _ _ (s2 _ _ h1), fun p hp => ?_⟩⟩⟩
    have I := copy (s2.trans s3) p hp
    refine ⟨_, true, I.full, by kernel_rfl, fun H4 s4 => ?_⟩
    refine li_put (d := iN (W.second + 1)) (I.mono s4) (kl_len _) (by kernel_rfl) rfl (kl' := Wld.kl { W with second := W.second + 1 }) (by kernel_rfl) fun H5 I => ?_
    exact ⟨.ref p, I.vl, q p H5 (s1.trans I.s0) (same_none s1 I.n0) I.ob⟩
  | come =>
    cases hl : W.late with
    | none => unfold wCan at hcan; rw [hl] at hcan; cases net <;> cases hcan
    | some l =>
      obtain ⟨n, e, i⟩ := l
      obtain ⟨hn, hw⟩ := hlate n e i hl
      have hdl : ∀ env : DE, env[0]? = some (some (.dict (klD W.kl))) → dBin gIxD (dVar 0) (dC (.str "late")) env = some (.tuple [iN n, edD e, .int i]) := fun env he => by
        refine x_bin (a := .dict (klD W.kl)) (by unfold dVar; rw [he]; rfl) rfl ?_
        have : gIxD (.dict (klD W.kl)) (.str "late") = some (wlD W.late) := by kernel_rfl
        rw [this, hl]
        rfl
      have hd0 : ∀ env : DE, env[0]? = some (some (.dict (klD W.kl))) → env[1]? = some (some (stD steps)) → dBin gIxD (dVar 1) (dBin gIxD (dBin gIxD (dVar 0) (dC (.str "late"))) (dC (.int 0))) env = some (stp steps n).d := fun env he h1 =>
        x_bin (a := stD steps) (b := iN n) (by unfold dVar; rw [h1]; rfl) (x_bin (hdl env he) rfl rfl) (stp_at hn)
      have hd1 : ∀ env : DE, env[0]? = some (some (.dict (klD W.kl))) → dBin gIxD (dBin gIxD (dVar 0) (dC (.str "late"))) (dC (.int 1)) env = some (edD e) := fun env he => x_bin (hdl env he) rfl rfl
      refine ⟨_, false, E1, by kernel_rfl, fun H2 s2 => ⟨_, false, E1.mono s2, by kernel_rfl, fun H3 s3 => ⟨.ref a, v0, a, kvs, rfl, s3 _ _ (s2 _ _ h1), fun p hp => ?_⟩⟩⟩
      have I := copy (s2.trans s3) p hp
      refine ⟨_, false, I.full, by kernel_rfl, fun H4 s4 => ⟨_, true, (I.mono s4).full, by kernel_rfl, fun H5 s5 => ?_⟩⟩
      have I5 := I.mono (s4.trans s5)
      -- the last row
      have fin : ∀ (L : Wld) {b : Addr} {σ : L2.St} {H : Hp}, behindW steps W .come net = dropLate net L → LI K w H1 b 5 [some (.dict (klD W.kl)), some (stD steps), some (.str Ev.come.s), some (.str net.s), some one.d, none] L.kl σ H →
          tAsg (tD K w (dIf (dTest (dBin gEq (dVar 3) (dC (.str "again")))) (dBin gIxD (dVar 5) (dC (.str "late"))) (dC .none))) (L2.gSub (tVar 5) (tC (.str "late")) rSetD) { nx := tRet (tVar 5) { nx := fun _ H' => Q .non H', rt := Q }, rt := Q } σ H := by
        intro L b σ H he I
        cases net with
        | again => exact li_put (d := wlD L.late) I (kl_len _) (by kernel_rfl) (by cases L.late <;> rfl) (kl' := Wld.kl L) (by kernel_rfl) fun H6 I6 => back L he I6
        | sure => exact li_put (d := .none) I (kl_len _) (by kernel_rfl) rfl (kl' := Wld.kl { L with late := none }) (by kernel_rfl) fun H6 I6 => back _ he I6
        | lost => exact li_put (d := .none) I (kl_len _) (by kernel_rfl) rfl (kl' := Wld.kl { L with late := none }) (by kernel_rfl) fun H6 I6 => back _ he I6
        | late => exact li_put (d := .none) I (kl_len _) (by kernel_rfl) rfl (kl' := Wld.kl { L with late := none }) (by kernel_rfl) fun H6 I6 => back _ he I6
      have hb0 : behindW steps W .come net = dropLate net (cond (wIsDone W e (stp steps n)) (ownAct W (stp steps n)) W) := by
        show dropLate net (lateL steps W) = _
        unfold lateL
        rw [hl]
      have hdn := e_l_is_done W hau e (stp steps n) (so.c hn)
      have hds : ∀ env : DE, env[0]? = some (some (.dict (klD W.kl))) → env[1]? = some (some (stD steps)) → dConsA (dVar 0) (dConsA (dBin gIxD (dBin gIxD (dVar 0) (dC (.str "late"))) (dC (.int 1))) (dConsA (dBin gIxD (dVar 1) (dBin gIxD (dBin gIxD (dVar 0) (dC (.str "late"))) (dC (.int 0)))) dNilA)) env = some [W.d, edD e, (stp steps n).d] := fun env e0 e1 =>
        x_consA (by unfold dVar; rw [e0]; rfl) (x_consA (hd1 env e0) (x_consA (hd0 env e0 e1) x_nilA))
      cases hdone : wIsDone W e (stp steps n) with
      | true =>
        rw [hdone] at hdn hb0
        refine ⟨_, true, I5.full, x_test (x_app (hds _ rfl rfl) hdn), fun H6 s6 => ⟨.ref a, by first | rfl | exact v0, _, (stp steps n).d, (I5.mono s6).full, hd0 _ rfl rfl, fun u H7 s7 r7 => ?_⟩⟩
        exact own (stp steps n) u _ ((I5.mono s6).mono s7) r7 hw fun b' H8 I8 => fin (ownAct W (stp steps n)) hb0 I8
      | false =>
        rw [hdone] at hdn hb0
        exact ⟨_, false, I5.full, x_test (x_app (hds _ rfl rfl) hdn), fun H6 s6 => fin W hb0 (I5.mono s6)⟩
  | unheard =>
    have hdone : wIsDone W W.copy one = true := by unfold wCan at hcan; cases net <;> first | cases hcan | exact hcan
    have hw : one.writes = true := (Bool.and_eq_true_iff.mp hdone).1
    refine ⟨_, false, E1, by kernel_rfl, fun H2 s2 => ⟨_, false, E1.mono s2, by kernel_rfl, fun H3 s3 => ⟨.ref a, v0, a, kvs, rfl, s3 _ _ (s2 _ _ h1), fun p hp => ?_⟩⟩⟩
    have I := copy (s2.trans s3) p hp
    refine ⟨_, false, I.full, by kernel_rfl, fun H4 s4 => ⟨_, false, (I.mono s4).full, by kernel_rfl, fun H5 s5 => ?_⟩⟩
    have I5 := I.mono (s4.trans s5)
    refine ⟨_, true, I5.full, by kernel_rfl, fun H6 s6 => ?_⟩
    have I6 := I5.mono s6
    obtain ⟨u, g4, r4⟩ := I6.env0.get 4 one.d rfl
    refine ⟨.ref a, by first | rfl | exact v0, u, g4, own one u _ I6 r4 hw fun b' H8 I8 => lost (ownAct W one) (.inl rfl) (writes_asks hw) (by rw [← hst1]; rfl) I8⟩
  | unsent =>
    have hask : one.asks = true := by unfold wCan at hcan; cases net <;> first | cases hcan | exact hcan
    refine ⟨_, false, E1, by kernel_rfl, fun H2 s2 => ⟨_, false, E1.mono s2, by kernel_rfl, fun H3 s3 => ⟨.ref a, v0, a, kvs, rfl, s3 _ _ (s2 _ _ h1), fun p hp => ?_⟩⟩⟩
    have I := copy (s2.trans s3) p hp
    refine ⟨_, false, I.full, by kernel_rfl, fun H4 s4 => ⟨_, false, (I.mono s4).full, by kernel_rfl, fun H5 s5 => ?_⟩⟩
    have I5 := I.mono (s4.trans s5)
    exact ⟨_, false, I5.full, by kernel_rfl, fun H6 s6 => lost W (.inr rfl) hask (by rw [← hst1]; rfl) (I5.mono s6)⟩
end
end Dn
set_option Elab.async false
set_option linter.all false
set_option maxRecDepth 100000
set_option maxHeartbeats 4000000
namespace Dn
open PySem PySem.Spec L2 PyProof.Rows
/-! ### next_worlds -/
theorem ownAct_authors (W : Wld) (one : Stp) (h : W.authors ≠ []) : (ownAct W one).authors ≠ [] ∧ (ownAct W one).authors.length ≤ W.authors.length + 1 := by
  show (edited W one.act true).authors ≠ [] ∧ (edited W one.act true).authors.length ≤ _
  rcases edited_authors W one.act true with e | e <;> rw [e]
  · exact ⟨h, Nat.le_succ _⟩
  · exact ⟨by simp, by simp⟩
theorem edited_au (W : Wld) (a : Act) (own : Bool) (h : W.authors ≠ []) : (edited W a own).authors ≠ [] ∧ (edited W a own).authors.length ≤ W.authors.length + 1 := by
  rcases edited_authors W a own with e | e <;> rw [e]
  · exact ⟨h, Nat.le_succ _⟩
  · exact ⟨by simp, by simp⟩
theorem answeredW_au (W : Wld) (one : Stp) (h : W.authors ≠ []) : (answeredW W one).authors ≠ [] ∧ (answeredW W one).authors.length ≤ W.authors.length + 1 := by
  have h0 : W.authors ≠ [] ∧ W.authors.length ≤ W.authors.length + 1 := ⟨h, Nat.le_succ _⟩
  have h1 := ownAct_authors W one h
  have hl : ∀ a : Ans, ∀ L : Wld, L.authors = (match a with | .yes => ownAct W one | _ => W).authors → L.authors ≠ [] ∧ L.authors.length ≤ W.authors.length + 1 := by
    intro a L e
    rw [e]
    cases a <;> first | exact h1 | exact h0
  have hl2 : ∀ a : Ans, ∀ n : Nat, (if tellsW a then heardW { (match a with | .yes => ownAct W one | _ => W) with step := n } else { (match a with | .yes => ownAct W one | _ => W) with step := n }).authors = (match a with | .yes => ownAct W one | _ => W).authors := by
    intro a n
    cases a <;> rfl
  cases one with
  | forget n => exact h0
  | read _ _ _ _ _ _ => exact hl _ _ (hl2 _ _)
  | put _ _ _ _ _ => exact hl _ _ (hl2 _ _)
  | take _ _ _ _ _ => exact hl _ _ (hl2 _ _)
  | fin _ => exact h0
theorem lostW_au (W L : Wld) (one : Stp) (ev : Ev) (net : Net) : (lostW W L one ev net).authors = L.authors := by
  cases one with
  | read _ _ _ _ _ _ => rfl
  | put _ _ _ _ _ => cases net <;> cases ev <;> rfl
  | take _ _ _ _ _ => cases net <;> cases ev <;> rfl
  | forget _ => cases net <;> cases ev <;> rfl
  | fin _ => cases net <;> cases ev <;> rfl
theorem behindW_au (steps : List Stp) (W : Wld) (ev : Ev) (net : Net) (h : W.authors ≠ []) : (behindW steps W ev net).authors ≠ [] ∧ (behindW steps W ev net).authors.length ≤ W.authors.length + 1 := by
  have h0 : W.authors ≠ [] ∧ W.authors.length ≤ W.authors.length + 1 := ⟨h, Nat.le_succ _⟩
  cases ev with
  | great => exact edited_au W _ _ h
  | small => exact edited_au W _ _ h
  | take => exact edited_au W _ _ h
  | tick => exact h0
  | answered => exact answeredW_au W _ h
  | unheard =>
    show (lostW W _ _ _ _).authors ≠ [] ∧ (lostW W _ _ _ _).authors.length ≤ _
    rw [lostW_au]
    exact ownAct_authors W _ h
  | unsent =>
    show (lostW W _ _ _ _).authors ≠ [] ∧ (lostW W _ _ _ _).authors.length ≤ _
    rw [lostW_au]
    exact h0
  | come =>
    show (dropLate net (lateL steps W)).authors ≠ [] ∧ (dropLate net (lateL steps W)).authors.length ≤ _
    have e : (dropLate net (lateL steps W)).authors = (lateL steps W).authors := by cases net <;> rfl
    rw [e]
    unfold lateL
    cases W.late with
    | none => exact h0
    | some l =>
      obtain ⟨n, e, i⟩ := l
      show (cond (wIsDone W e (stp steps n)) (ownAct W (stp steps n)) W).authors ≠ [] ∧ (cond (wIsDone W e (stp steps n)) (ownAct W (stp steps n)) W).authors.length ≤ _
      cases wIsDone W e (stp steps n)
      · exact h0
      · exact ownAct_authors W _ h
/-- what is right of a world -/
structure WOk (steps : List Stp) (W : Wld) : Prop where
  step : W.step < steps.length
  late : WLate steps W
  au : W.authors ≠ []
def nextsW (steps : List Stp) (W : Wld) (o : Oth) (net : Net) : List (Ev × Wld) := (evs.filter fun e => wCan W (stp steps W.step) e o net).map fun e => (e, behindW steps W e net)
def PW (K : PySem.W.Frag) (H : Hp) (v : V) (x : Ev × Wld) : Prop := ∃ T b, v = .ref T ∧ SqT K H T [.str x.1.s, .ref b] ∧ SD K H b x.2.kl
def AllP {α β : Type} (R : α → β → Prop) : List α → List β → Prop := Paired R
theorem kl_im (W : Wld) (h : W.authors ≠ []) : (W.kl.all fun q => imL q.2) = true := by
  have := wld_im W h
  unfold Wld.d imR Wld.kds at this
  unfold Wld.kl
  simpa using this
section
variable {P : Program} {w : World} {K : PySem.W.Frag} {mg : Str → Option Value} {base : Heap}
theorem PW.monoW {H H' : Hp} {v : V} {x : Ev × Wld} (s : SameW H H') (hx : x.2.authors ≠ []) (h : PW K H v x) : PW K H' v x := by
  obtain ⟨T, b, e, h1, h2⟩ := h
  exact ⟨T, b, e, sqT_W s h1, h2.monoW s (kl_im _ hx)⟩
theorem pws_mono {H H' : Hp} (s : SameW H H') : ∀ {lv : List V} {l : List (Ev × Wld)}, (∀ x ∈ l, x.2.authors ≠ []) → Paired (PW K H) lv l → Paired (PW K H') lv l
  | _, _, _, .nil => .nil
  | _, _, n, .cons h t => .cons (h.monoW s (n _ (List.mem_cons_self ..))) (pws_mono s (fun x hx => n x (List.mem_cons_of_mem _ hx)) t)
theorem headS_pw {H : Hp} {lv : List V} {l : List (Ev × Wld)} (h : Paired (PW K H) lv l) : headS lv = false := by
  cases h with
  | nil => rfl
  | cons h t => obtain ⟨T, b, rfl, _⟩ := h; rfl
def spNexts (K : PySem.W.Frag) (w : World) : Sp := fun vs H Q _ => ∃ a v1 v2 W steps o net, vs = [.ref a, v1, v2, .str (Net.s net)] ∧ SD K H a (Wld.kl W) ∧ Rp K w H v1 (stD steps) ∧ Rp K w H v2 (Oth.d o) ∧ scrOk steps ∧ WOk steps W ∧ W.authors.length < 100000 ∧
  ∀ L lv H', Same H H' → H L = none → H' L = some (.lst lv) → Paired (PW K H') lv (nextsW steps W o net) → Q (.ref L) H'
abbrev nNexts : List Str := ["_law_world", "_law_steps", "_law_others", "_law_net", "_law_found", "_law_event"]
theorem sc_next_worlds : FnScope nNexts ["_law_world", "_law_steps", "_law_others", "_law_net"] (defScope st__law_next_worlds) := ⟨rfl, rfl, rfl, by decide +kernel, rfl, by decide +kernel, by decide +kernel⟩
theorem stD_im (steps : List Stp) : imR (stD steps) = true := imL_noL _ (stps_noL steps)
theorem ok_next_worlds (T : Tx w K mg) : SOk P w K mg base 5 "_law_next_worlds" 4 (spNexts K w) := by
  refine sok_of 4 rfl T.g__law_next_worlds sc_next_worlds (fun vs H Q E ⟨a, v1, v2, W, steps, o, net, e, _⟩ => by rw [e]; rfl) fun cd A outer s H0 E fa hr => ?_
  refine ⟨_, pss_cons (ps_set (i := 4) sc_next_worlds.nd rfl (Or.inl rfl) (pe_lst pa_nil))
    (pss_cons (ps_for PassesOwn.never rfl (pi_tup (d_tup (a_cons d_str (a_cons d_str (a_cons d_str (a_cons d_str (a_cons d_str (a_cons d_str (a_cons d_str (a_cons d_str a_nil)))))))))) (pg_name (i := 5) sc_next_worlds.nd rfl (Or.inl rfl))
      (pss_one (ps_if (t_val (d_call (ok__law_can T) hr (a_cons (d_var 0) (a_cons (d_var 1) (a_cons (d_var 5) (a_cons (d_var 2) (a_cons (d_var 3) a_nil)))))))
        (pss_one (ps_expr (pe_bm PySem.F.plainAttrs_list PySem.F.slot_list_append PySem.F.type_list_append mt_append (pv 4) (pa_cons (pe_tup (pa_cons (pv 5) (pa_cons (p_call (ok_world_behind T) hr (pa_cons (pv 0) (pa_cons (pv 1) (pa_cons (pv 5) (pa_cons (pv 3) pa_nil))))) pa_nil))) pa_nil)))) pss_nil)))
    (pss_one (ps_ret (pv 4)))), ?_⟩
  rintro vs H0 Q E ⟨a, v1, v2, W, steps, o, net, rfl, hW, r1, r2, so, ok, hlen, q⟩
  have E0 : EnvOk K w H0 (L2.start nNexts [.ref a, v1, v2, .str net.s]) [some (.dict (klD W.kl)), some (stD steps), some o.d, some (.str net.s), none, none] := start_ok (Ns := nNexts) (.cons hW.rp (.cons r1 (.cons r2 (.cons (.dat (.str _)) .nil))))
  have IM : ∀ (i : Nat) (d : PyData), [some (.dict (klD W.kl)), some (stD steps), some o.d, some (.str net.s), none, none][i]? = some (some d) → imR d = true := by
    intro i d h
    match i, h with
    | 0, h => cases h; exact wld_im W ok.au
    | 1, h => cases h; exact stD_im steps
    | 2, h => cases h; exact imL_noL _ (oth_noL o)
    | 3, h => cases h; rfl
    | 4, h => cases h
    | 5, h => cases h
    | n + 6, h => cases h
  refine ⟨Nat.zero_le _, fun L hL => ?_⟩
  have sL := same_new (o := .lst []) hL
  have E1 : EnvOk K w (upd H0 L (.lst [])) ((L2.start nNexts [.ref a, v1, v2, .str net.s]).set 4 (some (.ref L))) [some (.dict (klD W.kl)), some (stD steps), some o.d, some (.str net.s), none, none] := by
    refine ⟨rfl, fun i d h => ?_⟩
    obtain ⟨v, g1, g2⟩ := E0.get i d h
    have : i ≠ 4 := by rintro rfl; cases h
    exact ⟨v, by rw [List.getElem?_set_ne (Ne.symm this)]; exact g1, g2.mono sL⟩
  refine ⟨_, .tuple (evL evs), E1, by kernel_rfl, fun v3 H1 s3 r3 => ?_⟩
  obtain ⟨T0, xs, rfl, k1, k2⟩ := rp_tup r3
  refine ⟨T0, rfl, ⟨xs, k1⟩, ?_⟩
  have s03 := sL.trans s3
  refine for_tup (xs := xs) (fun j σ H => SqT K H T0 xs ∧ EnvOk K w H σ [some (.dict (klD W.kl)), some (stD steps), some o.d, some (.str net.s), none, none] ∧ σ[4]? = some (some (.ref L)) ∧ σ[0]? = some (some (.ref a)) ∧ SD K H a W.kl ∧ Same H0 H ∧
      ∃ lv, H L = some (.lst lv) ∧ Paired (PW K H) lv (((evs.take j).filter fun e => wCan W (stp steps W.step) e o net).map fun e => (e, behindW steps W e net)) ∧ lv.length ≤ j)
    ⟨k1, E1.mono s3, rfl, rfl, hW.mono s03, s03, [], s3 _ _ upd_same, .nil, Nat.le_refl _⟩ (fun j σ H _ p => p.1) (fun j x σ H hj p => ?_) fun σ H p => ?_
  · obtain ⟨p1, p2, p3, p4, p5, p6, lv, l1, l2, l3⟩ := p
    obtain ⟨ev, hev, hde⟩ := dpAll_at (f := fun ev : Ev => .str ev.s) (l := evs) k2 hj
    cases hde
    have hsl : σ.length = 6 := p2.len
    have hj8 : j < 8 := (List.getElem?_eq_some_iff.mp hev).1
    have E2 := p2.set 5 (.dat (.str ev.s))
    have htk : (evs.take (j + 1)) = evs.take j ++ [ev] := by rw [List.take_add_one, hev]; rfl
    have hall : ∀ (es : List Ev), ∀ x ∈ (es.filter fun e => wCan W (stp steps W.step) e o net).map fun e => (e, behindW steps W e net), x.2.authors ≠ [] := by
      intro es x hx
      obtain ⟨e, _, rfl⟩ := List.mem_map.mp hx
      exact (behindW_au steps W e net ok.au).1
    have forget : ∀ {H' : Hp}, EnvOk K w H' (σ.set 5 (some (.str ev.s))) ([some (.dict (klD W.kl)), some (stD steps), some o.d, some (.str net.s), none, none].set 5 (some (.str ev.s))) → EnvOk K w H' (σ.set 5 (some (.str ev.s))) [some (.dict (klD W.kl)), some (stD steps), some o.d, some (.str net.s), none, none] := by
      intro H' E
      refine ⟨by rw [List.length_set]; exact hsl, fun i d h => E.get i d ?_⟩
      have : i ≠ 5 := by rintro rfl; cases h
      rw [List.getElem?_set_ne (Ne.symm this)]
      exact h
    have hsv : ∀ (i : Nat) {u : V}, i ≠ 5 → σ[i]? = some (some u) → (σ.set 5 (some (V.str ev.s)))[i]? = some (some u) := fun i u hi h => by rw [List.getElem?_set_ne (Ne.symm hi)]; exact h
    refine ⟨_, _, E2, x_test (x_app (ds := [W.d, stD steps, .str ev.s, o.d, .str net.s]) rfl (e_l_can W ok.au steps ev o net _ (stp_at ok.step) (so.c ok.step))), fun H2 s2 => ?_⟩
    rw [htk, List.filter_append, List.map_append]
    cases hc : wCan W (stp steps W.step) ev o net with
    | false =>
      have hz : [ev].filter (fun e => wCan W (stp steps W.step) e o net) = [] := by simp [hc]
      rw [hz, List.map_nil, List.append_nil]
      exact ⟨sqT_mono s2 p1, forget (E2.mono s2), hsv 4 (by decide) p3, hsv 0 (by decide) p4, p5.mono s2, p6.trans s2, lv, s2 _ _ l1, pws_mono (Same.toW s2) (hall _) l2, Nat.le_succ_of_le l3⟩
    | true =>
      have hz : [ev].filter (fun e => wCan W (stp steps W.step) e o net) = [ev] := by simp [hc]
      rw [hz]
      obtain ⟨u1, g1, q1⟩ := (E2.mono s2).get 1 (stD steps) rfl
      obtain ⟨u3, g3, q3⟩ := (E2.mono s2).get 3 (.str net.s) rfl
      cases rp_str q3
      have g5 : (σ.set 5 (some (V.str ev.s)))[5]? = some (some (.str ev.s)) := get_set (by rw [hsl]; decide)
      refine ⟨.ref L, hsv 4 (by decide) p3, .inl ⟨rfl, lv, SqL.of (s2 _ _ l1)⟩, .str ev.s, g5, .ref a, hsv 0 (by decide) p4, u1, g1, .str ev.s, g5, .str net.s, g3, ?_⟩
      refine ⟨a, u1, W, steps, ev, net, o, rfl, p5.mono s2, q1, ok.step, so, hc, ok.late, ok.au, hlen, fun b H3 s3 hb ob => ⟨(show 2 ≤ sizeLine by decide), fun Tn hTn => ?_⟩⟩
      have s4 := same_new (o := .tup [.str ev.s, .ref b]) hTn
      have s24 := (s2.trans s3).trans s4
      have l1' := s24 _ _ l1
      refine ⟨L, lv, .ref Tn, rfl, rfl, l1', Nat.lt_of_le_of_lt l3 (Nat.lt_of_lt_of_le hj8 (by decide)), ?_⟩
      have sw : SameW (upd H3 Tn (.tup [.str ev.s, .ref b])) (upd (upd H3 Tn (.tup [.str ev.s, .ref b])) L (.lst (lv ++ [.ref Tn]))) := sameW_upd l1' (headS_pw l2)
      have swa := (Same.toW s24).trans sw
      have hbau := behindW_au steps W ev net ok.au
      refine ⟨sqT_W swa p1, (forget (E2.mono s24)).monoW sw IM, hsv 4 (by decide) p3, hsv 0 (by decide) p4, p5.monoW swa (kl_im _ ok.au), ?_, lv ++ [.ref Tn], upd_same, Paired.snoc (pws_mono swa (hall _) l2) ⟨Tn, b, rfl, sqT_W sw (SqT.of upd_same), (ob.mono s4).monoW sw (kl_im _ hbau.1)⟩, ?_⟩
      · intro c ob' ec
        rw [upd_ne (ne_of_none ec hL)]
        exact s24 _ _ (p6 _ _ ec)
      · rw [List.length_append]; exact Nat.succ_le_succ l3
  · obtain ⟨p1, p2, p3, p4, p5, p6, lv, l1, l2, l3⟩ := p
    have hx : xs.length = 8 := by rw [dpAll_length k2]; rfl
    rw [hx] at l2
    exact ⟨.ref L, p3, q L lv H p6 hL l1 l2⟩
end
end Dn
set_option Elab.async false
set_option linter.all false
set_option maxRecDepth 100000
set_option maxHeartbeats 4000000
namespace Dn
open PySem PySem.Spec L2 PyProof.Rows
/-! ### the mirror of the law's search -/
abbrev LAcc := List Sta × List Wld
def starts : List Wld := srvs.map startW
def lOne (acc : LAcc) (W : Wld) : LAcc := if wState W ∈ acc.1 then acc else (acc.1 ++ [wState W], acc.2 ++ [W])
def lAll (steps : List Stp) (o : Oth) (net : Net) (acc : LAcc) (W : Wld) : LAcc := (nextsW steps W o net).foldl (fun acc x => lOne acc x.2) acc
def lLayer (steps : List Stp) (o : Oth) (net : Net) (acc : LAcc) : LAcc := acc.2.foldl (lAll steps o net) (acc.1, [])
def lAt (steps : List Stp) (o : Oth) (net : Net) : Nat → LAcc
  | 0 => ([], starts)
  | n + 1 => lLayer steps o net (lAt steps o net n)
def isOverW (steps : List Stp) (p : Pr) (W : Wld) : Bool := wOver W (stp steps W.step) p
def overAny (steps : List Stp) (p : Pr) (ws : List Wld) : Bool := ws.any (isOverW steps p)
structure LBnd (steps : List Stp) (o : Oth) (net : Net) (U : List Sta) (Good : Wld → Prop) : Prop where
  few : U.length ≤ 5000
  begins : ∀ W ∈ starts, Good W
  goes : ∀ W, Good W → ∀ x ∈ nextsW steps W o net, Good x.2
  ok : ∀ W, Good W → WOk steps W
  st : ∀ W, Good W → wState W ∈ U
structure LOk (U : List Sta) (Good : Wld → Prop) (n : Nat) (acc : LAcc) : Prop where
  nd : acc.1.Nodup
  sub : ∀ s ∈ acc.1, s ∈ U
  good : ∀ W ∈ acc.2, Good W ∧ W.authors.length ≤ n + 1
  short : acc.2.length ≤ acc.1.length + 4
section
variable {steps : List Stp} {o : Oth} {net : Net} {U : List Sta} {Good : Wld → Prop} {acc : LAcc} {n : Nat}
theorem LOk.len (a : LOk U Good n acc) : acc.1.length ≤ U.length := nodup_len a.nd a.sub
theorem LOk.one (B : LBnd steps o net U Good) (a : LOk U Good n acc) {W : Wld} (g : Good W) (hl : W.authors.length ≤ n + 1) : LOk U Good n (lOne acc W) := by
  unfold lOne
  split
  · exact a
  · rename_i hn
    refine ⟨List.nodup_append.mpr ⟨a.nd, by simp, fun x hx y hy => ?_⟩, fun s hs => ?_, fun V hV => ?_, by have := a.short; simp only [List.length_append, List.length_singleton]; omega⟩
    · rw [List.mem_singleton] at hy
      subst hy
      rintro rfl
      exact hn hx
    · rcases List.mem_append.mp hs with h | h
      · exact a.sub s h
      · rw [List.mem_singleton.mp h]; exact B.st W g
    · rcases List.mem_append.mp hV with h | h
      · exact a.good V h
      · rw [List.mem_singleton.mp h]; exact ⟨g, hl⟩
theorem LOk.fold (B : LBnd steps o net U Good) : ∀ (xs : List (Ev × Wld)) (acc : LAcc), (∀ x ∈ xs, Good x.2 ∧ x.2.authors.length ≤ n + 1) → LOk U Good n acc → LOk U Good n (xs.foldl (fun acc x => lOne acc x.2) acc)
  | [], _, _, a => a
  | x :: xs, acc, h, a => LOk.fold B xs _ (fun y hy => h y (List.mem_cons_of_mem _ hy)) (a.one B (h x (List.mem_cons_self ..)).1 (h x (List.mem_cons_self ..)).2)
theorem nexts_good (B : LBnd steps o net U Good) {W : Wld} (g : Good W) (hl : W.authors.length ≤ n + 1) : ∀ x ∈ nextsW steps W o net, Good x.2 ∧ x.2.authors.length ≤ n + 1 + 1 := by
  intro x hx
  refine ⟨B.goes W g x hx, ?_⟩
  obtain ⟨e, _, rfl⟩ := List.mem_map.mp hx
  have := (behindW_au steps W e net (B.ok W g).au).2
  show (behindW steps W e net).authors.length ≤ _
  omega
theorem LOk.foldAll (B : LBnd steps o net U Good) : ∀ (ws : List Wld) (acc : LAcc), (∀ W ∈ ws, Good W ∧ W.authors.length ≤ n + 1) → LOk U Good (n + 1) acc → LOk U Good (n + 1) (ws.foldl (lAll steps o net) acc)
  | [], _, _, a => a
  | W :: ws, acc, h, a => LOk.foldAll B ws _ (fun y hy => h y (List.mem_cons_of_mem _ hy)) (LOk.fold B _ _ (nexts_good B (h W (List.mem_cons_self ..)).1 (h W (List.mem_cons_self ..)).2) a)
theorem lAt_ok (B : LBnd steps o net U Good) : ∀ n, LOk U Good n (lAt steps o net n)
  | 0 => ⟨List.nodup_nil, fun s h => (by cases h), fun W h => ⟨B.begins W h, by
    obtain ⟨v, _, rfl⟩ := List.mem_map.mp h
    exact Nat.le_refl _⟩, Nat.le_refl 4⟩
  | n + 1 => by
    have ih := lAt_ok B n
    exact LOk.foldAll B _ _ ih.good ⟨ih.nd, ih.sub, fun W h => (by cases h), Nat.zero_le _⟩
theorem lOne_len {W : Wld} : (lOne acc W).1.length + acc.2.length = acc.1.length + (lOne acc W).2.length := by
  unfold lOne
  split <;> simp <;> omega
theorem lfold_len : ∀ (xs : List (Ev × Wld)) (acc : LAcc), (xs.foldl (fun acc x => lOne acc x.2) acc).1.length + acc.2.length = acc.1.length + (xs.foldl (fun acc x => lOne acc x.2) acc).2.length
  | [], acc => by simp
  | x :: xs, acc => by
    have h1 := lfold_len xs (lOne acc x.2)
    have h2 := lOne_len (acc := acc) (W := x.2)
    rw [List.foldl_cons]
    omega
theorem lfoldAll_len : ∀ (ws : List Wld) (acc : LAcc), (ws.foldl (lAll steps o net) acc).1.length + acc.2.length = acc.1.length + (ws.foldl (lAll steps o net) acc).2.length
  | [], acc => by simp
  | W :: ws, acc => by
    have h1 := lfoldAll_len ws (lAll steps o net acc W)
    have h2 := lfold_len (nextsW steps W o net) acc
    rw [List.foldl_cons]
    unfold lAll at h1 ⊢
    omega
theorem lAt_grows : ∀ n, (∀ m, m ≤ n → (lAt steps o net m).2 ≠ []) → n ≤ (lAt steps o net n).1.length
  | 0, _ => Nat.zero_le _
  | n + 1, h => by
    have h1 := lAt_grows n fun m hm => h m (by omega)
    have h2 : (lAt steps o net (n + 1)).1.length + 0 = (lAt steps o net n).1.length + (lAt steps o net (n + 1)).2.length := lfoldAll_len (steps := steps) (o := o) (net := net) (lAt steps o net n).2 ((lAt steps o net n).1, [])
    have h3 : 0 < (lAt steps o net (n + 1)).2.length := List.length_pos_iff.mpr (h (n + 1) (Nat.le_refl _))
    omega
theorem lAt_end (B : LBnd steps o net U Good) : ∃ n, n ≤ 5001 ∧ (lAt steps o net n).2 = [] := by
  by_cases h : ∀ m, m ≤ 5001 → (lAt steps o net m).2 ≠ []
  · have h1 := lAt_grows 5001 h
    have h2 := (lAt_ok B 5001).len
    have h3 := B.few
    omega
  · have ⟨m, hm⟩ := Classical.not_forall.mp h
    have ⟨hm, he⟩ := Classical.not_imp.mp hm
    exact ⟨m, hm, Classical.not_not.mp he⟩
end
/-- what least tells -/
def LeastIs (steps : List Stp) (o : Oth) (net : Net) (p : Pr) : Option Nat → Prop
  | some n => (∀ m, m < n → overAny steps p (lAt steps o net m).2 = false) ∧ overAny steps p (lAt steps o net n).2 = true
  | none => ∃ n, (lAt steps o net n).2 = [] ∧ ∀ m, m < n → overAny steps p (lAt steps o net m).2 = false
def rV : Option Nat → V
  | none => .non
  | some n => .int (n : Nat)
end Dn
set_option Elab.async false
set_option linter.all false
set_option maxRecDepth 100000
set_option maxHeartbeats 4000000
namespace Dn
open PySem PySem.Spec L2 PyProof.Rows
/-! ### least -/
/-- a local name that holds a def -/
def tDL (K : PySem.W.Frag) (w : World) (i : Nat) (f : Addr) (den : List PyData → Option PyData) (fs : DE → Option (List PyData)) : TE := fun σ H Q => σ[i]? = some (some (.ref f)) ∧ tD K w (dApp den fs) σ H Q
theorem d_callL {X : Cx} {e : Expr} {es : List Expr} {fs : DE → Option (List PyData)} {p pos : Pos} {x : Str} {k n i : Nat} {den : List PyData → Option PyData} {f : Addr} {fd : FuncData} {ps : List Str} (F : FnOk X.prog X.w X.K X.mg X.base CX0 k f fd ps (spD X.K X.w n den)) (hk : PySem.W.keepIn X.K (.ref f) = true) (hb : Binds X.K fd ps []) (hl : ∀ ds d, den ds = some d → ds.length = n)
    (hr : Room k X.A) (hN : X.N[i]? = some x) (hv : Vis X.env.scope x) (ha : PA X (e :: es) (tDA X.K X.w fs)) (hdb : (x == ("__debug__" : Str)) = false := by decide) (hcd : (x == ("__classdict__" : Str)) = false := by decide)
    (he : starEach (e :: es) X.env = (false, eval e X.env) :: starEach es X.env := by rfl) (hpl : (backTo pos (starEach es X.env)).any (·.1) = false := by rfl) : PE X (.Call (.Name x p) (e :: es) [] pos) (tDL X.K X.w i f den fs) := by
  refine pe_imp (pe_callL F hr hN hv hk hb .nil pass0 ha hdb hcd he hpl) fun σ H Q ⟨q0, q⟩ => ⟨q0, ?_⟩
  exact imp_app (r := fun xs H1 Q => spD X.K X.w n den (xs ++ []) H1 Q E0) (fun xs H Q ds z r g q => by
    rw [List.append_nil]
    exact ⟨by rw [r.length]; exact hl ds z g, ds, z, r, g, q⟩) q
def PWd (K : PySem.W.Frag) (H : Hp) (v : V) (W : Wld) : Prop := ∃ b, v = .ref b ∧ SD K H b W.kl
theorem pwd_mono {K : PySem.W.Frag} {H H' : Hp} (s : SameW H H') : ∀ {lv : List V} {l : List Wld}, (∀ W ∈ l, W.authors ≠ []) → Paired (PWd K H) lv l → Paired (PWd K H') lv l
  | _, _, _, .nil => .nil
  | _, _, n, .cons ⟨b, e, h⟩ t => .cons ⟨b, e, h.monoW s (kl_im _ (n _ (List.mem_cons_self ..)))⟩ (pwd_mono s (fun x hx => n x (List.mem_cons_of_mem _ hx)) t)
theorem headS_pwd {K : PySem.W.Frag} {H : Hp} {lv : List V} {l : List Wld} (h : Paired (PWd K H) lv l) : headS lv = false := by
  cases h with
  | nil => rfl
  | cons h t => obtain ⟨b, rfl, _⟩ := h; rfl
theorem paired_at {α β : Type} {R : α → β → Prop} : ∀ {l1 : List α} {l2 : List β} {i : Nat} {a : α}, Paired R l1 l2 → l1[i]? = some a → ∃ b, l2[i]? = some b ∧ R a b
  | _, _, i, a, .nil, h => by simp at h
  | _, _, 0, a, .cons h t, e => by
    simp only [List.getElem?_cons_zero, Option.some.injEq] at e
    subst e
    exact ⟨_, rfl, h⟩
  | _, _, i + 1, a, .cons h t, e => by
    obtain ⟨b, h1, h2⟩ := paired_at t (by simpa using e)
    exact ⟨b, by simpa using h1, h2⟩
structure LWI (P : Program) (w : World) (K : PySem.W.Frag) (H0 : Hp) (F L La f : Addr) (wv : List V) (ws : List Wld) (env : DE) (acc : LAcc) (σ : L2.St) (H : Hp) : Prop where
  ev : EnvOk K w H σ env
  im : ∀ (i : Nat) (d : PyData), env[i]? = some (some d) → imR d = true
  v3 : σ[3]? = some (some (.ref f))
  v5 : σ[5]? = some (some (.ref F))
  v6 : σ[6]? = some (some (.ref La))
  v9 : σ[9]? = some (some (.ref L))
  fd : ∃ kvs, H F = some (fdO P w F kvs) ∧ FdK K H kvs ∧ kvs.map (·.1) = acc.1
  ls : ∃ lv, H L = some (.lst lv) ∧ Paired (PWd K H) lv acc.2
  la : ∀ W ∈ acc.2, W.authors ≠ []
  wt : SqLx K L H La wv
  wd : Paired (PWd K H) wv ws
  wa : ∀ W ∈ ws, W.authors ≠ []
  s0 : Same H0 H
  nF : H0 F = none
  nL : H0 L = none
section
variable {P : Program} {w : World} {K : PySem.W.Frag} {H0 H H' : Hp} {F L La f : Addr} {wv : List V} {ws : List Wld} {env : DE} {acc : LAcc} {σ : L2.St}
theorem LWI.mono (s : Same H H') (I : LWI P w K H0 F L La f wv ws env acc σ H) : LWI P w K H0 F L La f wv ws env acc σ H' := by
  obtain ⟨kvs, f1, f2, f3⟩ := I.fd
  obtain ⟨lv, l1, l2⟩ := I.ls
  have sw := Same.toW s
  exact ⟨I.ev.mono s, I.im, I.v3, I.v5, I.v6, I.v9, ⟨kvs, s _ _ f1, f2.monoW sw, f3⟩, ⟨lv, s _ _ l1, pwd_mono sw I.la l2⟩, I.la, I.wt.mono s, pwd_mono sw I.wa I.wd, I.wa, I.s0.trans s, I.nF, I.nL⟩
theorem LWI.put {v : V} (I : LWI P w K H0 F L La f wv ws env acc σ H) (i : Nat) (hi : i ≠ 3 ∧ i ≠ 5 ∧ i ≠ 6 ∧ i ≠ 9) (no : env[i]? = some none) : LWI P w K H0 F L La f wv ws env acc (σ.set i (some v)) H := by
  refine ⟨⟨by rw [List.length_set]; exact I.ev.len, fun j d h => ?_⟩, I.im, by rw [List.getElem?_set_ne hi.1]; exact I.v3, by rw [List.getElem?_set_ne hi.2.1]; exact I.v5, by rw [List.getElem?_set_ne hi.2.2.1]; exact I.v6, by rw [List.getElem?_set_ne hi.2.2.2]; exact I.v9, I.fd, I.ls, I.la, I.wt, I.wd, I.wa, I.s0, I.nF, I.nL⟩
  obtain ⟨v, g1, g2⟩ := I.ev.get j d h
  have : j ≠ i := by rintro rfl; rw [no] at h; cases h
  exact ⟨v, by rw [List.getElem?_set_ne (Ne.symm this)]; exact g1, g2⟩
theorem LWI.set {v : V} {d : PyData} (I : LWI P w K H0 F L La f wv ws env acc σ H) (i : Nat) (hi : i ≠ 3 ∧ i ≠ 5 ∧ i ≠ 6 ∧ i ≠ 9) (r : Rp K w H v d) (n : imR d = true) : LWI P w K H0 F L La f wv ws (env.set i (some d)) acc (σ.set i (some v)) H := by
  refine ⟨I.ev.set i r, fun j e h => ?_, by rw [List.getElem?_set_ne hi.1]; exact I.v3, by rw [List.getElem?_set_ne hi.2.1]; exact I.v5, by rw [List.getElem?_set_ne hi.2.2.1]; exact I.v6, by rw [List.getElem?_set_ne hi.2.2.2]; exact I.v9, I.fd, I.ls, I.la, I.wt, I.wd, I.wa, I.s0, I.nF, I.nL⟩
  by_cases hj : j = i
  · subst hj
    have hl : j < env.length := by
      have := (List.getElem?_eq_some_iff.mp h).1
      simpa using this
    rw [List.getElem?_set_self hl] at h
    cases h
    exact n
  · rw [List.getElem?_set_ne (Ne.symm hj)] at h
    exact I.im j e h
theorem LWI.forget (I : LWI P w K H0 F L La f wv ws env acc σ H) (i : Nat) : LWI P w K H0 F L La f wv ws (env.set i none) acc σ H := by
  refine ⟨⟨by rw [List.length_set]; exact I.ev.len, fun j e h => I.ev.get j e ?_⟩, fun j e h => I.im j e ?_, I.v3, I.v5, I.v6, I.v9, I.fd, I.ls, I.la, I.wt, I.wd, I.wa, I.s0, I.nF, I.nL⟩
  all_goals
    by_cases hj : j = i
    · subst hj
      have hl : j < env.length := by
        have := (List.getElem?_eq_some_iff.mp h).1
        simpa using this
      rw [List.getElem?_set_self hl] at h
      cases h
    · rw [List.getElem?_set_ne (Ne.symm hj)] at h
      exact h
theorem LWI.FL (I : LWI P w K H0 F L La f wv ws env acc σ H) : F ≠ L := by
  obtain ⟨kvs, f1, _, _⟩ := I.fd
  obtain ⟨lv, l1, _⟩ := I.ls
  rintro rfl
  rw [f1] at l1
  cases l1
theorem LWI.add (I : LWI P w K H0 F L La f wv ws env acc σ H) {kvs : List Fe} {lv : List V} (f1 : H F = some (fdO P w F kvs)) (f2 : FdK K H kvs) (f3 : kvs.map (·.1) = acc.1) (l1 : H L = some (.lst lv)) (l2 : Paired (PWd K H) lv acc.2)
    {W : Wld} {b c : Addr} (hW : SD K H c W.kl) (ha : W.authors ≠ []) (ht : Dp K H (.ref b) (wState W).d) (hn : wState W ∉ acc.1) :
    LWI P w K H0 F L La f wv ws env (acc.1 ++ [wState W], acc.2 ++ [W]) σ (upd (upd H F (fdO P w F (kvs ++ [(wState W, b, .bl true)]))) L (.lst (lv ++ [.ref c]))) := by
  have hFL := I.FL
  have s1 : SameW H (upd H F (fdO P w F (kvs ++ [(wState W, b, .bl true)]))) := sameW_upd f1 fdO_imm
  have l1' : upd H F (fdO P w F (kvs ++ [(wState W, b, .bl true)])) L = some (.lst lv) := by rw [upd_ne hFL.symm]; exact l1
  have s2 : SameW H (upd (upd H F (fdO P w F (kvs ++ [(wState W, b, .bl true)]))) L (.lst (lv ++ [.ref c]))) := s1.trans (sameW_upd l1' (headS_pwd l2))
  have hg : getF kvs (wState W) = none := getF_none_iff.mpr (by rw [f3]; exact hn)
  refine ⟨I.ev.monoW s2 I.im, I.im, I.v3, I.v5, I.v6, I.v9, ⟨kvs ++ [(wState W, b, .bl true)], ?_, (f2.monoW s2).add (sta_W s2 ht) hg rfl, by rw [List.map_append, f3]; rfl⟩, ⟨lv ++ [.ref c], upd_same, Paired.snoc (pwd_mono s2 I.la l2) ⟨c, rfl, hW.monoW s2 (kl_im _ ha)⟩⟩, fun V hV => ?_, ?_, pwd_mono s2 I.wa I.wd, I.wa, ?_, I.nF, I.nL⟩
  · rw [upd_ne hFL, upd_same]
  · rcases List.mem_append.mp hV with h | h
    · exact I.la V h
    · rw [List.mem_singleton.mp h]; exact ha
  · exact (I.wt.other f1 rfl hFL).put
  · intro a o e
    rw [upd_ne (ne_of_none e I.nL), upd_ne (ne_of_none e I.nF)]
    exact I.s0 _ _ e
end
theorem e_is_over2 (w : Wld) (steps : List Stp) (p : Pr) (ev : Ev) : den__law_is_over [w.d, .tuple (steps.map Stp.d), .str ev.s, .str p.s] = some (.bool false) := by kernel_rfl
def spLeast (P : Program) (w : World) (K : PySem.W.Frag) (mg : Str → Option Value) : Sp := fun vs H Q _ => ∃ f v0 v1 v2 v4 steps o net p U Good, mg "_law_is_over" = some (.ref f) ∧ vs = [v0, v1, v2, .ref f, v4] ∧ RpAll K w H [v0, v1, v2, v4] [stD steps, Oth.d o, .str (Net.s net), .str (Pr.s p)] ∧ scrOk steps ∧ LBnd steps o net U Good ∧
  ∀ r H', Same H H' → LeastIs steps o net p r → Q (rV r) H'
abbrev nLst : List Str := ["_law_steps", "_law_others", "_law_net", "_law_is_over_here", "_law_promise", "_law_known", "_law_layer", "_law_many", "_law_server", "_law_later", "_law_world", "_law_event", "_law_other", "_law_state"]
def bLst (steps : List Stp) (o : Oth) (net : Net) (p : Pr) : DE := [some (stD steps), some o.d, some (.str net.s), none, some (.str p.s), none, none, none, none, none, none, none, none, none]
section
variable {P : Program} {w : World} {K : PySem.W.Frag} {mg : Str → Option Value} {base : Heap}
theorem sc_least : FnScope nLst ["_law_steps", "_law_others", "_law_net", "_law_is_over_here", "_law_promise"] (defScope st__law_least) := ⟨rfl, rfl, rfl, by decide +kernel, rfl, by decide +kernel, by decide +kernel⟩
theorem ok_least (T : Tx w K mg) : SOk P w K mg base 6 "_law_least" 5 (spLeast P w K mg) := by
  obtain ⟨fo, fdo, pso, hmo, hko, hbo, hlo, Fo⟩ := (ok__law_is_over (P := P) (base := base) T).ok
  have hden := (ok__law_is_over (P := P) (base := base) T).len
  refine sok_of 5 rfl T.g__law_least sc_least (fun vs H Q E ⟨f, v0, v1, v2, v4, steps, o, net, p, U, Good, _, e, _⟩ => by rw [e]; rfl) fun cd A outer s H0 E fa hr => ?_
  have hu := hr.units
  have hu16 : (A.deeper (envOfC "_law_least" (defScope st__law_least) s.heap.objs.size fa cd)).units + 16 < cLine := Nat.lt_of_le_of_lt (Nat.add_le_add_left (by decide) _) hu
  have hu0 : (A.deeper (envOfC "_law_least" (defScope st__law_least) s.heap.objs.size fa cd)).units < cLine := Nat.lt_of_le_of_lt (Nat.le_add_right _ 64) hu
  refine ⟨_, pss_cons (ps_par3 (i := 5) (j := 6) (l := 7) rfl sc_least.nd rfl rfl rfl (by decide) (by decide) (by decide) rfl rfl rfl
      (pa_cons pe_dnewF (pa_cons (pe_lc (own := [("_law_server", 8)]) rfl sc_least.nd (pi_tup (d_tup (a_cons d_str (a_cons d_str (a_cons d_str (a_cons d_str a_nil)))))) (blkOk_by (N := nLst) (sc := defScope st__law_least) (by decide +kernel))
        (fun _ _ _ _ _ => pg_name (i := 8) sc_least.nd rfl (Or.inl rfl)) (fun _ _ _ _ _ => pts_nil) (fun _ _ _ _ _ => p_call (ok_world_at T) (hr.mono (by decide)) (pa_cons (pv 8) pa_nil))) (pa_cons pe_int pa_nil))) rfl)
    (pss_cons (ps_while PassesOwn.never (pt_cmpR (op_ne_nil hu0) (pv 6) (pe_lst pa_nil) (by rfl))
      (pss_cons (ps_set (i := 9) sc_least.nd rfl (Or.inl rfl) (pe_lst pa_nil))
      (pss_cons (ps_for PassesOwn.never rfl (pi_list (pv 6)) (pg_name (i := 10) sc_least.nd rfl (Or.inl rfl))
        (pss_one (ps_if (pt_val (d_callL (i := 3) Fo hko hbo hden (hr.mono (by decide)) rfl (Or.inl rfl) (a_cons (d_var 10) (a_cons (d_var 0) (a_cons d_non (a_cons (d_var 4) a_nil)))))) (pss_one (ps_ret (pv 7))) pss_nil)))
      (pss_cons (ps_set (i := 7) sc_least.nd rfl (Or.inl rfl) (d_add (d_var 7) d_int))
      (pss_cons (ps_for PassesOwn.never rfl (pi_list (pv 6)) (pg_name (i := 10) sc_least.nd rfl (Or.inl rfl))
        (pss_one (ps_for PassesOwn.never rfl (pi_list (p_call (ok_next_worlds T) hr (pa_cons (pv 10) (pa_cons (pv 0) (pa_cons (pv 1) (pa_cons (pv 2) pa_nil)))))) (pg_tup (n := 2) rfl (pgs_cons (pg_name (i := 11) sc_least.nd rfl (Or.inl rfl)) (pgs_cons (pg_name (i := 12) sc_least.nd rfl (Or.inl rfl)) pgs_nil)))
          (pss_cons (ps_if (pt_val (d_callL (i := 3) Fo hko hbo hden (hr.mono (by decide)) rfl (Or.inl rfl) (a_cons (d_var 10) (a_cons (d_var 0) (a_cons (d_var 11) (a_cons (d_var 4) a_nil)))))) (pss_one (ps_ret (pv 7))) pss_nil)
          (pss_cons (ps_set (i := 13) sc_least.nd rfl (Or.inl rfl) (d_call (ok__law_state_of T) (hr.mono (by decide)) (a_cons (d_var 12) a_nil)))
          (pss_one (ps_if (pt_cmpR (op_notin_fd hu16) (pv 13) (pv 5) (by rfl))
            (pss_cons (ps_asg pe_bl (pg_sub (pv 5) (pv 13) (set_fd hu16)))
            (pss_one (ps_expr (pe_bm PySem.F.plainAttrs_list PySem.F.slot_list_append PySem.F.type_list_append mt_append (pv 9) (pa_cons (pv 12) pa_nil))))) pss_nil))))))) 
      (pss_one (ps_set (i := 6) sc_least.nd rfl (Or.inl rfl) (pv 9))))))))
    (pss_one (ps_ret pe_non))), ?_⟩
  rintro vs H0 Q E ⟨f, v0, v1, v2, v4, steps, o, net, p, U, Good, hf, rfl, r, so, B, q⟩
  have hff : f = fo := by
    rw [hmo] at hf
    cases hf
    rfl
  subst hff
  have E0 : EnvOk K w H0 (L2.start nLst [v0, v1, v2, .ref f, v4]) (bLst steps o net p) := by
    refine ⟨rfl, fun i d h => ?_⟩
    match i, h with
    | 0, h => obtain ⟨v, e1, e2⟩ := r.get (i := 0) rfl; cases e1; cases h; exact ⟨_, rfl, e2⟩
    | 1, h => obtain ⟨v, e1, e2⟩ := r.get (i := 1) rfl; cases e1; cases h; exact ⟨_, rfl, e2⟩
    | 2, h => obtain ⟨v, e1, e2⟩ := r.get (i := 2) rfl; cases e1; cases h; exact ⟨_, rfl, e2⟩
    | 3, h => cases h
    | 4, h => obtain ⟨v, e1, e2⟩ := r.get (i := 3) rfl; cases e1; cases h; exact ⟨_, rfl, e2⟩
    | 5, h => cases h
    | 6, h => cases h
    | 7, h => cases h
    | 8, h => cases h
    | 9, h => cases h
    | 10, h => cases h
    | 11, h => cases h
    | 12, h => cases h
    | 13, h => cases h
    | n + 14, h => cases h
  have IM : ∀ (i : Nat) (d : PyData), (bLst steps o net p)[i]? = some (some d) → imR d = true := by
    intro i d h
    match i, h with
    | 0, h => cases h; exact stD_im steps
    | 1, h => cases h; exact imL_noL _ (oth_noL o)
    | 2, h => cases h; rfl
    | 3, h => cases h
    | 4, h => cases h; rfl
    | 5, h => cases h
    | 6, h => cases h
    | 7, h => cases h
    | 8, h => cases h
    | 9, h => cases h
    | 10, h => cases h
    | 11, h => cases h
    | 12, h => cases h
    | 13, h => cases h
    | n + 14, h => cases h
  have big : (5000 : Nat) < sizeLine := by decide
  refine fun F hF => ?_
  have sF := same_new (o := fdO P w F []) hF
  refine ⟨_, .tuple (srvs.map fun v => .str v.s), E0.mono sF, by kernel_rfl, fun vt H1 s1 r1 => ?_⟩
  obtain ⟨a, xs, rfl, k1, k2⟩ := rp_tup r1
  refine ⟨a, rfl, ⟨xs, k1⟩, fun D hD => ?_⟩
  refine lc_tup (xs := xs) (fun j H' => Same H1 H' ∧ ∃ acc, H' D = some (.lst acc) ∧ Paired (PWd K H') acc ((srvs.take j).map startW) ∧ acc.length ≤ j) ⟨same_new hD, [], upd_same, .nil, Nat.le_refl _⟩ (fun j H' _ I => sqT_mono I.1 k1) (fun j y H' hj I => ⟨by rw [wipe_set (by simp), wipe_wipe], ?_⟩) (fun H' I => ?_)
  · obtain ⟨sI, acc, l1, l2, l3⟩ := I
    obtain ⟨v, hv, hdv⟩ := dpAll_at (f := fun v : Srv => .str v.s) (l := srvs) k2 hj
    cases hdv
    have hj4 : j < 4 := (List.getElem?_eq_some_iff.mp hv).1
    refine ⟨.str v.s, get_set (by rw [L2.wipe_length]; show 8 < 14; decide), v, rfl, fun b H4 s4 hb ob => ⟨acc, s4 _ _ l1, Nat.lt_of_le_of_lt l3 (Nat.lt_trans hj4 (by decide)), ?_⟩⟩
    have sau : ∀ W ∈ (srvs.take j).map startW, W.authors ≠ [] := by
      intro W hW
      obtain ⟨v, _, rfl⟩ := List.mem_map.mp hW
      intro h
      cases h
    have sw : SameW H4 (upd H4 D (.lst (acc ++ [.ref b]))) := sameW_upd (s4 _ _ l1) (headS_pwd l2)
    refine ⟨fun c ob' ec => ?_, acc ++ [.ref b], upd_same, ?_, ?_⟩
    · rw [upd_ne (ne_of_none ec hD)]
      exact s4 _ _ (sI _ _ ec)
    · have ht : (srvs.take (j + 1)).map startW = (srvs.take j).map startW ++ [startW v] := by
        rw [List.take_add_one, hv]
        simp
      rw [ht]
      exact Paired.snoc (pwd_mono ((Same.toW s4).trans sw) sau l2) ⟨b, rfl, ob.monoW sw (kl_im _ (by intro h; cases h))⟩
    · rw [List.length_append]; exact Nat.succ_le_succ l3
  obtain ⟨sI, acc, l1, l2, l3⟩ := I
  have hx4 : xs.length = 4 := by rw [dpAll_length k2]; rfl
  rw [hx4] at l2
  have hslF : ∀ {H2 : Hp}, Same H1 H2 → H2 F = some (fdO P w F []) := fun s => s _ _ (s1 _ _ upd_same)
  refine ⟨.ref F, .ref D, .int 0, rfl, ?_⟩
  have s0D : Same H0 H' := (sF.trans s1).trans sI
  refine ⟨fun m σ H => ∃ n, m = 5002 - n ∧ (∀ k, k < n → (lAt steps o net k).2 ≠ []) ∧ (∀ k, k < n → overAny steps p (lAt steps o net k).2 = false) ∧ ∃ La wv kvs, EnvOk K w H σ (bLst steps o net p) ∧ σ[3]? = some (some (.ref f)) ∧ σ[5]? = some (some (.ref F)) ∧ σ[6]? = some (some (.ref La)) ∧ σ[7]? = some (some (.int (n : Nat))) ∧
      H F = some (fdO P w F kvs) ∧ FdK K H kvs ∧ kvs.map (·.1) = (lAt steps o net n).1 ∧ SqL K H La wv ∧ Paired (PWd K H) wv (lAt steps o net n).2 ∧ Same H0 H,
    ⟨_, 0, rfl, fun k h => absurd h (Nat.not_lt_zero _), fun k h => absurd h (Nat.not_lt_zero _), D, acc, [], ?_, rfl, rfl, rfl, rfl, hslF sI, ⟨fun _ h => (by cases h), .nil, fun _ h => (by cases h)⟩, rfl, SqL.of l1, l2, s0D⟩, ?_⟩
  · refine ⟨rfl, fun i d h => ?_⟩
    obtain ⟨v, g1, g2⟩ := E0.get i d h
    have h5 : i ≠ 5 := by rintro rfl; cases h
    have h6 : i ≠ 6 := by rintro rfl; cases h
    have h7 : i ≠ 7 := by rintro rfl; cases h
    exact ⟨v, by rw [List.getElem?_set_ne (Ne.symm h7), List.getElem?_set_ne (Ne.symm h6), List.getElem?_set_ne (Ne.symm h5)]; exact g1, g2.mono s0D⟩
  rintro m σ H ⟨n, rfl, hne, hov, La, wv, kvs, Ew, v3, v5, v6, v7, f1, f2, f3, w1, w2, s0⟩
  have hsl : σ.length = 14 := Ew.len
  refine ⟨.ref La, v6, Nat.zero_le _, fun pp hp => ⟨La, pp, wv, rfl, rfl, Same.seq (same_new hp) w1, SqL.of upd_same, _, rfl, ?_⟩⟩
  have sp := same_new (o := .lst []) hp
  have LO := lAt_ok B n
  cases hwv : wv with
  | nil =>
    have he : (lAt steps o net n).2 = [] := by
      rw [hwv] at w2
      cases hq : (lAt steps o net n).2 with
      | nil => rfl
      | cons x r => rw [hq] at w2; cases w2
    exact q none _ (s0.trans sp) ⟨n, he, hov⟩
  | cons x0 r0 =>
    have hwn : (lAt steps o net n).2 ≠ [] := by
      intro h
      rw [h, hwv] at w2
      cases w2
    have hn5 : n ≤ 5000 := by
      have h1 := lAt_grows n fun k hk => by
        rcases Nat.lt_or_eq_of_le hk with h | h
        · exact hne k h
        · rw [h]; exact hwn
      have h2 := LO.len
      have h3 := B.few
      omega
    generalize hA : lAt steps o net n = A0 at *
    obtain ⟨kn, ws⟩ := A0
    simp only at f3 w2 LO hwn
    have hwa : ∀ W ∈ ws, W.authors ≠ [] := fun W h => (B.ok W (LO.good W h).1).au
    refine ⟨fun σ' H' => (∀ k, k < n + 1 → (lAt steps o net k).2 ≠ []) ∧ (∀ k, k < n + 1 → overAny steps p (lAt steps o net k).2 = false) ∧ ∃ La wv kvs, EnvOk K w H' σ' (bLst steps o net p) ∧ σ'[3]? = some (some (.ref f)) ∧ σ'[5]? = some (some (.ref F)) ∧ σ'[6]? = some (some (.ref La)) ∧ σ'[7]? = some (some (.int ((n + 1 : Nat) : Int))) ∧
      H' F = some (fdO P w F kvs) ∧ FdK K H' kvs ∧ kvs.map (·.1) = (lAt steps o net (n + 1)).1 ∧ SqL K H' La wv ∧ Paired (PWd K H') wv (lAt steps o net (n + 1)).2 ∧ Same H0 H', fun σ' H' h => ⟨_, ?_, n + 1, rfl, h⟩, ?_⟩
    · show 5002 - (n + 1) < 5002 - n
      omega
    refine ⟨Nat.zero_le _, fun L hL => ?_⟩
    have sL := same_new (o := .lst []) hL
    have sa := sp.trans sL
    have nL : H L = none := same_none sp hL
    have I0 : LWI P w K H0 F L La f wv ws (bLst steps o net p) (kn, []) (σ.set 9 (some (.ref L))) (upd (upd H pp (.lst [])) L (.lst [])) := by
      refine ⟨⟨by rw [List.length_set]; exact Ew.len, fun j d h => ?_⟩, IM, by rw [List.getElem?_set_ne (by decide)]; exact v3, by rw [List.getElem?_set_ne (by decide)]; exact v5, by rw [List.getElem?_set_ne (by decide)]; exact v6, get_set (by rw [hsl]; decide), ⟨kvs, sa _ _ f1, f2.monoW (Same.toW sa), f3⟩, ⟨[], upd_same, .nil⟩, (fun _ h => (by cases h)), (SqLx.new (Same.seq sp w1) hL).put, pwd_mono (Same.toW sa) hwa w2, hwa, s0.trans sa, hF, same_none (s0.trans sp) hL⟩
      obtain ⟨v, g1, g2⟩ := Ew.get j d h
      have : j ≠ 9 := by rintro rfl; cases h
      exact ⟨v, by rw [List.getElem?_set_ne (Ne.symm this)]; exact g1, g2.mono sa⟩
    have v7' : (σ.set 9 (some (V.ref L)))[7]? = some (some (.int (n : Nat))) := by rw [List.getElem?_set_ne (by decide)]; exact v7
    -- is one over
    refine ⟨.ref La, I0.v6, La, rfl, ⟨wv, I0.wt.at upd_same⟩, ?_⟩
    refine for_list (xs := wv) (fun j σ H => LWI P w K H0 F L La f wv ws (bLst steps o net p) (kn, []) σ H ∧ σ[7]? = some (some (.int (n : Nat))) ∧ ∀ W ∈ ws.take j, isOverW steps p W = false) ⟨I0, v7', fun W h => (by cases h)⟩ (fun j σ H _ p => let ⟨lv, l1, _⟩ := p.1.ls; p.1.wt.at l1) (fun j x σ H hj pj => ?_) fun σ H pj => ?_
    · obtain ⟨I, u7, hno⟩ := pj
      obtain ⟨W, hWj, c, rfl, hWc⟩ := paired_at I.wd hj
      have hWm := List.mem_of_getElem? hWj
      have gW := (LO.good W hWm).1
      have oW := B.ok W gW
      have I1 := I.set (v := .ref c) (d := .dict (klD W.kl)) 10 (by decide) hWc.rp (wld_im W oW.au)
      refine ⟨I1.v3, _, .bool (isOverW steps p W), I1.ev, x_app (ds := [W.d, stD steps, .none, .str p.s]) (by kernel_rfl) (e_is_over W steps p _ (stp_at oW.step)), fun vb H2 s2 r2 => ?_⟩
      cases rp_bool r2
      refine ⟨_, rfl, ?_⟩
      cases hb : isOverW steps p W with
      | true =>
        refine ⟨.int (n : Nat), by rw [List.getElem?_set_ne (by decide)]; exact u7, ?_⟩
        refine q (some n) _ (I1.mono s2).s0 ⟨hov, ?_⟩
        rw [hA]
        exact List.any_eq_true.mpr ⟨W, hWm, hb⟩
      | false =>
        refine ⟨(I1.mono s2).forget 10, by rw [List.getElem?_set_ne (by decide)]; exact u7, fun V hV => ?_⟩
        rw [List.take_add_one, hWj] at hV
        rcases List.mem_append.mp hV with h | h
        · exact hno V h
        · have : V = W := by simpa using h
          rw [this]; exact hb
    · obtain ⟨I, u7, hno⟩ := pj
      have hlw : wv.length = ws.length := Paired.length I.wd
      rw [hlw, List.take_length] at hno
      have hsl2 : σ.length = 14 := I.ev.len
      have E7 : EnvOk K w H σ ((bLst steps o net p).set 7 (some (.int (n : Nat)))) := by
        refine ⟨by rw [List.length_set]; exact I.ev.len, fun j d h => ?_⟩
        by_cases hj : j = 7
        · subst hj
          cases h
          exact ⟨_, u7, .dat (.int _)⟩
        · rw [List.getElem?_set_ne (Ne.symm hj)] at h
          exact I.ev.get j d h
      refine ⟨_, .int ((n : Int) + 1), E7, rfl, fun vm H2 s2 r2 => ?_⟩
      cases rp_int r2
      have I2 := (I.mono s2).put (v := .int ((n : Int) + 1)) 7 (by decide) rfl
      have u7' : (σ.set 7 (some (V.int ((n : Int) + 1))))[7]? = some (some (.int ((n + 1 : Nat) : Int))) := get_set (by rw [hsl2]; decide)
      have hov' : ∀ k, k < n + 1 → overAny steps p (lAt steps o net k).2 = false := by
        intro k hk
        rcases Nat.lt_succ_iff_lt_or_eq.mp hk with h | h
        · exact hov k h
        · rw [h, hA]
          unfold overAny
          rw [List.any_eq_false]
          intro W hW
          rw [hno W hW]
          decide
      have hne' : ∀ k, k < n + 1 → (lAt steps o net k).2 ≠ [] := by
        intro k hk
        rcases Nat.lt_succ_iff_lt_or_eq.mp hk with h | h
        · exact hne k h
        · rw [h, hA]; exact hwn
      have hA1 : lAt steps o net (n + 1) = ws.foldl (lAll steps o net) (kn, []) := by
        show lLayer steps o net (lAt steps o net n) = _
        rw [hA]
        rfl
      -- what comes behind
      refine ⟨.ref La, I2.v6, La, rfl, ⟨wv, let ⟨lv, l1, _⟩ := I2.ls; I2.wt.at l1⟩, ?_⟩
      refine for_list (xs := wv) (fun j σ H => LWI P w K H0 F L La f wv ws (bLst steps o net p) ((ws.take j).foldl (lAll steps o net) (kn, [])) σ H ∧ σ[7]? = some (some (.int ((n + 1 : Nat) : Int)))) ⟨I2, u7'⟩ (fun j σ H _ p => let ⟨lv, l1, _⟩ := p.1.ls; p.1.wt.at l1) (fun j x σ H hj pj => ?_) fun σ H pj => ?_
      · -- a world
        obtain ⟨I, u7⟩ := pj
        obtain ⟨W, hWj, c, rfl, hWc⟩ := paired_at I.wd hj
        have hWm := List.mem_of_getElem? hWj
        have gW := LO.good W hWm
        have oW := B.ok W gW.1
        have I1 := I.set (v := .ref c) (d := .dict (klD W.kl)) 10 (by decide) hWc.rp (wld_im W oW.au)
        rw [foldl_take hWj]
        have am : LOk U Good (n + 1) ((ws.take j).foldl (lAll steps o net) (kn, [])) := LOk.foldAll B _ _ (fun V hV => LO.good V (List.mem_of_mem_take hV)) ⟨LO.nd, LO.sub, fun V hV => (by cases hV), Nat.zero_le _⟩
        generalize (ws.take j).foldl (lAll steps o net) (kn, []) = acc0 at I1 am
        have hsl4 : σ.length = 14 := I.ev.len
        have g10 : (σ.set 10 (some (V.ref c)))[10]? = some (some (.ref c)) := get_set (by rw [hsl4]; decide)
        obtain ⟨w0', q0', t0⟩ := I1.ev.get 0 (stD steps) rfl
        obtain ⟨w1', q1', t1⟩ := I1.ev.get 1 o.d rfl
        obtain ⟨w2', q2', t2⟩ := I1.ev.get 2 (.str net.s) rfl
        cases rp_str t2
        refine ⟨.ref c, g10, w0', q0', w1', q1', .str net.s, q2', c, w0', w1', W, steps, o, net, rfl, hWc, t0, t1, so, oW, by omega, fun Na nv H3 s3 hNa n1 n2 => ⟨Na, rfl, ⟨nv, SqL.of n1⟩, ?_⟩⟩
        have I3 := I1.mono s3
        obtain ⟨lv0, ll0, _⟩ := I1.ls
        have hNL : Na ≠ L := by
          rintro rfl
          rw [hNa] at ll0
          cases ll0
        have hNx : SqLx K L H3 Na nv := fun ob => SqL.of (by rw [upd_ne hNL]; exact n1)
        have xau : ∀ x ∈ nextsW steps W o net, x.2.authors ≠ [] := fun x hx => by
          obtain ⟨e, _, rfl⟩ := List.mem_map.mp hx
          exact (behindW_au steps W e net oW.au).1
        have xgd := nexts_good B gW.1 gW.2
        refine for_list (xs := nv) (fun k σ H => LWI P w K H0 F L La f wv ws ((bLst steps o net p).set 10 (some (.dict (klD W.kl)))) (((nextsW steps W o net).take k).foldl (fun acc x => lOne acc x.2) acc0) σ H ∧ σ[7]? = some (some (.int ((n + 1 : Nat) : Int))) ∧ SqLx K L H Na nv ∧ Paired (PW K H) nv (nextsW steps W o net)) ⟨I3, by rw [List.getElem?_set_ne (by decide)]; exact u7, hNx, n2⟩
          (fun k σ H _ p => let ⟨lv, l1, _⟩ := p.1.ls; p.2.2.1.at l1) (fun k x σ H hk pk => ?_) fun σ H pk => ?_
        · obtain ⟨I, u7, hNx, hN⟩ := pk
          obtain ⟨x', hx', T, b, rfl, hT, hb⟩ := paired_at hN hk
          obtain ⟨ev, W'⟩ := x'
          have hxm := List.mem_of_getElem? hx'
          have gW' := xgd _ hxm
          have oW' := B.ok W' gW'.1
          rw [foldl_take hx']
          have am2 : LOk U Good (n + 1) (((nextsW steps W o net).take k).foldl (fun acc x => lOne acc x.2) acc0) := LOk.fold B _ _ (fun y hy => xgd y (List.mem_of_mem_take hy)) am
          generalize ((nextsW steps W o net).take k).foldl (fun acc x => lOne acc x.2) acc0 = ac at I am2
          have hsl5 : σ.length = 14 := I.ev.len
          refine ⟨T, _, rfl, hT, rfl, .str ev.s, [.ref b], rfl, .ref b, [], rfl, rfl, ?_⟩
          have I1 := (I.set (v := .str ev.s) (d := .str ev.s) 11 (by decide) (.dat (.str _)) rfl).set (v := .ref b) (d := .dict (klD W'.kl)) 12 (by decide) hb.rp (wld_im W' oW'.au)
          have g12 : ((σ.set 11 (some (V.str ev.s))).set 12 (some (V.ref b)))[12]? = some (some (.ref b)) := get_set (by rw [List.length_set, hsl5]; decide)
          have e7 : ((σ.set 11 (some (V.str ev.s))).set 12 (some (V.ref b)))[7]? = some (some (.int ((n + 1 : Nat) : Int))) := by rw [List.getElem?_set_ne (by decide), List.getElem?_set_ne (by decide)]; exact u7
          refine ⟨I1.v3, _, .bool false, I1.ev, x_app (ds := [W.d, stD steps, .str ev.s, .str p.s]) (by kernel_rfl) (e_is_over2 W steps p ev), fun vb H4 s4 r4 => ?_⟩
          cases rp_bool r4
          refine ⟨_, rfl, ?_⟩
          have I4 := I1.mono s4
          refine ⟨_, (wState W').d, I4.ev, x_app (ds := [W'.d]) (by kernel_rfl) (e_state_of W' oW'.au (by have hq : W'.authors.length ≤ n + 1 + 1 := gW'.2; omega)), fun vs5 H5 s5 r5 => ?_⟩
          have I5 := (I4.mono s5).set 13 (by decide) r5 (imL_noL _ (sta_noL _))
          have hd5 := r5.dp rfl
          obtain ⟨bt, rfl⟩ := sta_ref hd5
          have g13 : (((σ.set 11 (some (V.str ev.s))).set 12 (some (V.ref b))).set 13 (some (V.ref bt)))[13]? = some (some (.ref bt)) := get_set (by rw [List.length_set, List.length_set, hsl5]; decide)
          have g12' : (((σ.set 11 (some (V.str ev.s))).set 12 (some (V.ref b))).set 13 (some (V.ref bt)))[12]? = some (some (.ref b)) := by rw [List.getElem?_set_ne (by decide)]; exact g12
          have e7' : (((σ.set 11 (some (V.str ev.s))).set 12 (some (V.ref b))).set 13 (some (V.ref bt)))[7]? = some (some (.int ((n + 1 : Nat) : Int))) := by rw [List.getElem?_set_ne (by decide)]; exact e7
          obtain ⟨kvs, f1, f2, f3⟩ := I5.fd
          obtain ⟨lv, l1, l2⟩ := I5.ls
          have s45 := s4.trans s5
          have hb5 := hb.mono s45
          refine ⟨.ref bt, g13, .ref F, I5.v5, F, kvs, wState W', rfl, .inl f1, f2, hd5, _, rfl, ?_⟩
          have hhas : (getF kvs (wState W')).isSome = decide (wState W' ∈ ac.1) := by
            rw [← f3]
            cases hg : getF kvs (wState W') with
            | none => exact (decide_eq_false (getF_none_iff.mp hg)).symm
            | some v =>
              refine (decide_eq_true ?_).symm
              obtain ⟨bb, hbb⟩ := getF_mem hg
              exact List.mem_map.mpr ⟨_, hbb, rfl⟩
          rw [hhas]
          have fin : ∀ {σ' : L2.St} {H' : Hp} {ac' : LAcc}, LWI P w K H0 F L La f wv ws (((((bLst steps o net p).set 10 (some (.dict (klD W.kl)))).set 11 (some (.str ev.s))).set 12 (some (.dict (klD W'.kl)))).set 13 (some (wState W').d)) ac' σ' H' → LWI P w K H0 F L La f wv ws ((bLst steps o net p).set 10 (some (.dict (klD W.kl)))) ac' σ' H' := fun I => ((I.forget 13).forget 12).forget 11
          by_cases hm : wState W' ∈ ac.1
          · have e1 : lOne ac W' = ac := if_pos hm
            rw [decide_eq_true hm, e1]
            exact ⟨fin I5, e7', hNx.mono s45, pws_mono (Same.toW s45) xau hN⟩
          · have e1 : lOne ac W' = (ac.1 ++ [wState W'], ac.2 ++ [W']) := if_neg hm
            rw [decide_eq_false hm, e1]
            have hlen : kvs.length < 5001 := by
              have h1 := am2.len
              have h2 := B.few
              have h3 : kvs.length = ac.1.length := by rw [← f3, List.length_map]
              omega
            have hlen2 : lv.length < 10000 := by
              have h1 : lv.length = ac.2.length := Paired.length l2
              have h2 := am2.len
              have h3 := B.few
              have h4 := am2.short
              omega
            refine ⟨.ref F, I5.v5, .ref bt, g13, F, kvs, _, rfl, f1, f2, hd5, getF_none_iff.mpr (by rw [f3]; exact hm), rfl, Nat.lt_trans hlen (by decide), fun b' hb' => ?_⟩
            obtain rfl : bt = b' := by cases hb'; rfl
            have I6 := I5.add f1 f2 f3 l1 l2 hb5 oW'.au hd5 hm
            have hFL := I5.FL
            have l1' : upd H5 F (fdO P w F (kvs ++ [(wState W', bt, .bl true)])) L = some (.lst lv) := by rw [upd_ne hFL.symm]; exact l1
            refine ⟨.ref L, I5.v9, .inl ⟨rfl, lv, SqL.of l1'⟩, .ref b, g12', L, lv, .ref b, rfl, rfl, l1', Nat.lt_trans hlen2 (by decide), ?_⟩
            have sw1 : SameW H5 (upd H5 F (fdO P w F (kvs ++ [(wState W', bt, .bl true)]))) := sameW_upd f1 fdO_imm
            have sw2 := sw1.trans (sameW_upd (o := .lst (lv ++ [.ref b])) l1' (headS_pwd l2))
            exact ⟨fin I6, e7', ((hNx.mono s45).other f1 rfl hFL).put, pws_mono ((Same.toW s45).trans sw2) xau hN⟩
        · obtain ⟨I, u7, hNx, hN⟩ := pk
          have hle : nv.length = (nextsW steps W o net).length := Paired.length hN
          rw [hle, List.take_length] at I
          exact ⟨I.forget 10, u7⟩
      · obtain ⟨I, u7⟩ := pj
        rw [hlw, List.take_length] at I
        obtain ⟨kvs, f1, f2, f3⟩ := I.fd
        obtain ⟨lv, l1, l2⟩ := I.ls
        have hsl3 : σ.length = 14 := I.ev.len
        refine ⟨.ref L, I.v9, hne', hov', L, lv, kvs, ⟨by rw [List.length_set]; exact I.ev.len, fun j d h => ?_⟩, by rw [List.getElem?_set_ne (by decide)]; exact I.v3, by rw [List.getElem?_set_ne (by decide)]; exact I.v5, get_set (by rw [hsl3]; decide), by rw [List.getElem?_set_ne (by decide)]; exact u7, f1, f2, by rw [hA1]; exact f3, SqL.of l1, by rw [hA1]; exact l2, I.s0⟩
        obtain ⟨v, g1, g2⟩ := I.ev.get j d h
        have : j ≠ 6 := by rintro rfl; cases h
        exact ⟨v, by rw [List.getElem?_set_ne (Ne.symm this)]; exact g1, g2⟩
end
end Dn
set_option Elab.async false
set_option linter.all false
set_option maxRecDepth 100000
set_option maxHeartbeats 4000000
namespace Dn
open PySem PySem.Spec L2 PyProof.Rows
/-! ### row_right -/
def runW (steps : List Stp) (net : Net) : Wld → List Ev → Wld
  | W, [] => W
  | W, e :: es => runW steps net (behindW steps W e net) es
def runOk (steps : List Stp) (o : Oth) (net : Net) : Wld → List Ev → Prop
  | _, [] => True
  | W, e :: es => wCan W (stp steps W.step) e o net = true ∧ runOk steps o net (behindW steps W e net) es
theorem DOk.s {P : Program} {w : World} {K : PySem.W.Frag} {mg : Str → Option Value} {base : Heap} {k : Nat} {x : Str} {n : Nat} {den : List PyData → Option PyData} (h : DOk P w K mg base k x n den) : SOk P w K mg base k x n (spD K w n den) := ⟨h.ok⟩
theorem x_orT {ga gb : DE → Option Bool} {env : DE} {b : Bool} (h : ga env = some false) (h2 : gb env = some b) : dOrT ga gb env = some b := by
  unfold dOrT
  rw [h]
  exact h2
theorem run_at {steps : List Stp} {o : Oth} {net : Net} : ∀ {es : List Ev} {W : Wld} {j : Nat} {e : Ev}, runOk steps o net W es → es[j]? = some e → wCan (runW steps net W (es.take j)) (stp steps (runW steps net W (es.take j)).step) e o net = true ∧ runW steps net W (es.take (j + 1)) = behindW steps (runW steps net W (es.take j)) e net
  | [], W, j, e, _, h => by simp at h
  | x :: es, W, 0, e, hr, h => by
    simp only [List.getElem?_cons_zero, Option.some.injEq] at h
    subst h
    exact ⟨hr.1, rfl⟩
  | x :: es, W, j + 1, e, hr, h => by
    have ih := run_at (j := j) hr.2 (by simpa using h)
    exact ih
theorem can_next {steps : List Stp} {o : Oth} {net : Net} {W : Wld} {e : Ev} (h : wCan W (stp steps W.step) e o net = true) : (e, behindW steps W e net) ∈ nextsW steps W o net := by
  refine List.mem_map.mpr ⟨e, List.mem_filter.mpr ⟨?_, h⟩, rfl⟩
  cases e <;> decide
theorem run_good {steps : List Stp} {o : Oth} {net : Net} {U : List Sta} {Good : Wld → Prop} (B : LBnd steps o net U Good) : ∀ (es : List Ev) (W : Wld) (n : Nat), Good W → W.authors.length ≤ n + 1 → runOk steps o net W es → Good (runW steps net W es) ∧ (runW steps net W es).authors.length ≤ n + es.length + 1
  | [], W, n, g, hl, _ => ⟨g, hl⟩
  | e :: es, W, n, g, hl, hr => by
    have h := nexts_good B g hl _ (can_next hr.1)
    have ih := run_good B es (behindW steps W e net) (n + 1) h.1 h.2 hr.2
    refine ⟨ih.1, ?_⟩
    have h2 := ih.2
    show (runW steps net (behindW steps W e net) es).authors.length ≤ _
    rw [List.length_cons]
    omega
theorem runOk_take {steps : List Stp} {o : Oth} {net : Net} : ∀ {es : List Ev} {W : Wld} (j : Nat), runOk steps o net W es → runOk steps o net W (es.take j)
  | [], _, j, _ => by rw [List.take_nil]; trivial
  | e :: es, W, 0, _ => trivial
  | e :: es, W, j + 1, h => ⟨h.1, runOk_take j h.2⟩
theorem atI_last {α : Type} (l : List α) (x : α) : atI (l ++ [x]) (-1) = some x := by
  unfold atI ixN
  rw [List.length_append, List.length_singleton, if_neg (by omega), if_pos (by omega)]
  show (l ++ [x])[((-1 : Int) + ((l.length + 1 : Nat) : Int)).toNat]? = _
  have e : ((-1 : Int) + ((l.length + 1 : Nat) : Int)).toNat = l.length := by omega
  rw [e]
  simp
def spRr (K : PySem.W.Frag) (w : World) (mg : Str → Option Value) : Sp := fun vs H Q _ => ∃ f vt v1 v2 v3 v5 v6 steps o net p U Good v es, mg "_law_is_over" = some (.ref f) ∧ vs = [vt, v1, v2, v3, .ref f, v5, v6] ∧
  RpAll K w H [vt, v1, v2, v3, v5, v6] [.tuple [.str (Srv.s v), .tuple (evL es)], stD steps, Oth.d o, .str (Net.s net), .str (Pr.s p), .int ((es.length : Nat) : Int)] ∧ scrOk steps ∧ LBnd steps o net U Good ∧ es.length < 10000 ∧ runOk steps o net (startW v) es ∧ isOverW steps p (runW steps net (startW v) es) = true ∧
  ∀ H', Same H H' → Q (.bl true) H'
abbrev nRr : List Str := ["_law_told", "_law_steps", "_law_others", "_law_net", "_law_is_over_here", "_law_promise", "_law_least_here", "_law_worlds", "_law_row", "_law_event"]
def bRr (steps : List Stp) (o : Oth) (net : Net) (p : Pr) (v : Srv) (es : List Ev) : DE := [some (.tuple [.str v.s, .tuple (evL es)]), some (stD steps), some o.d, some (.str net.s), none, some (.str p.s), some (.int ((es.length : Nat) : Int)), none, none, none]
section
variable {P : Program} {w : World} {K : PySem.W.Frag} {mg : Str → Option Value} {base : Heap}
theorem sc_row_right : FnScope nRr ["_law_told", "_law_steps", "_law_others", "_law_net", "_law_is_over_here", "_law_promise", "_law_least_here"] (defScope st__law_row_right) := ⟨rfl, rfl, rfl, by decide +kernel, rfl, by decide +kernel, by decide +kernel⟩
theorem ok_row_right (T : Tx w K mg) : SOk P w K mg base 5 "_law_row_right" 7 (spRr K w mg) := by
  obtain ⟨fo, fdo, pso, hmo, hko, hbo, hlo, Fo⟩ := (ok__law_is_over (P := P) (base := base) T).ok
  refine sok_of 7 rfl T.g__law_row_right sc_row_right (fun vs H Q E ⟨f, vt, v1, v2, v3, v5, v6, steps, o, net, p, U, Good, v, es, _, e, _⟩ => by rw [e]; rfl) fun cd A outer s H0 E fa hr => ?_
  have hu := hr.units
  have hu1 : (A.deeper (envOfC "_law_row_right" (defScope st__law_row_right) s.heap.objs.size fa cd)).units + 1 < cLine := Nat.lt_of_le_of_lt (Nat.add_le_add_left (by decide) _) hu
  refine ⟨_, pss_cons (ps_if (w_or (t_not (t_val (d_isi .tuple T.b_isinstance T.b_tuple (by decide +kernel) (d_var 0)))) (w_or (t_cmp (c_ne hu) (d_callB b_len T.b_len PySem.boot_len (a_cons (d_var 0) a_nil)) d_int (by rfl)) (w_or (t_not (t_val (d_isi .tuple T.b_isinstance T.b_tuple (by decide +kernel) (d_ix hu1 (d_var 0) d_int)))) (w_or1 (t_cmp (c_ne hu) (d_callB b_len T.b_len PySem.boot_len (a_cons (d_ix hu1 (d_var 0) d_int) a_nil)) (d_var 6) (by rfl)))))).pt (pss_one (ps_ret d_bl)) pss_nil)
    (pss_cons (ps_par (i := 7) (j := 8) rfl sc_row_right.nd rfl rfl (by decide) rfl rfl (pa_cons (pe_lst (pa_cons (p_call (ok_world_at T) (hr.mono (by decide)) (pa_cons (d_ix hu1 (d_var 0) d_int) pa_nil)) pa_nil)) (pa_cons (d_callTy b_list T.b_list (by decide +kernel) (a_cons (d_ix hu1 (d_var 0) d_int) a_nil)) pa_nil)) rfl rfl)
    (pss_cons (ps_for PassesOwn.never rfl (pi_list (pv 8)) (pg_name (i := 9) sc_row_right.nd rfl (Or.inl rfl))
      (pss_cons (ps_if (pt_not (pt_val (p_call (ok__law_can T).s hr (pa_cons (pe_ix ix_list (pv 7) (d_neg d_int) (fun _ _ => rfl)) (pa_cons (pv 1) (pa_cons (pv 9) (pa_cons (pv 2) (pa_cons (pv 3) pa_nil)))))))) (pss_one (ps_ret d_bl)) pss_nil)
      (pss_one (ps_expr (pe_bm PySem.F.plainAttrs_list PySem.F.slot_list_append PySem.F.type_list_append mt_append (pv 7) (pa_cons (p_call (ok_world_behind T) hr (pa_cons (pe_ix ix_list (pv 7) (d_neg d_int) (fun _ _ => rfl)) (pa_cons (pv 1) (pa_cons (pv 9) (pa_cons (pv 3) pa_nil))))) pa_nil))))))
    (pss_cons (ps_if (pt_val (pe_callL (i := 4) Fo (hr.mono (by decide)) rfl (Or.inl rfl) hko hbo .nil pass0 (pa_cons (pe_ix ix_list (pv 7) (d_neg d_int) (fun _ _ => rfl)) (pa_cons (pv 1) (pa_cons pe_non (pa_cons (pv 5) pa_nil)))))) (pss_one (ps_ret pe_bl)) pss_nil)
    (pss_one ps_never)))), ?_⟩
  rintro vs H0 Q E ⟨f, vt, v1, v2, v3, v5, v6, steps, o, net, p, U, Good, v, es, hf, rfl, r, so, B, hes, hrun, hover, q⟩
  have hff : f = fo := by
    rw [hmo] at hf
    cases hf
    rfl
  subst hff
  have E0 : EnvOk K w H0 (L2.start nRr [vt, v1, v2, v3, .ref f, v5, v6]) (bRr steps o net p v es) := by
    refine ⟨rfl, fun i d h => ?_⟩
    match i, h with
    | 0, h => obtain ⟨v, e1, e2⟩ := r.get (i := 0) rfl; cases e1; cases h; exact ⟨_, rfl, e2⟩
    | 1, h => obtain ⟨v, e1, e2⟩ := r.get (i := 1) rfl; cases e1; cases h; exact ⟨_, rfl, e2⟩
    | 2, h => obtain ⟨v, e1, e2⟩ := r.get (i := 2) rfl; cases e1; cases h; exact ⟨_, rfl, e2⟩
    | 3, h => obtain ⟨v, e1, e2⟩ := r.get (i := 3) rfl; cases e1; cases h; exact ⟨_, rfl, e2⟩
    | 4, h => cases h
    | 5, h => obtain ⟨v, e1, e2⟩ := r.get (i := 4) rfl; cases e1; cases h; exact ⟨_, rfl, e2⟩
    | 6, h => obtain ⟨v, e1, e2⟩ := r.get (i := 5) rfl; cases e1; cases h; exact ⟨_, rfl, e2⟩
    | 7, h => cases h
    | 8, h => cases h
    | 9, h => cases h
    | n + 10, h => cases h
  have IM : ∀ (i : Nat) (d : PyData), (bRr steps o net p v es)[i]? = some (some d) → imR d = true := by
    intro i d h
    match i, h with
    | 0, h =>
      cases h
      show (true && (imLAll (evL es) && true)) = true
      rw [evs_im]
      rfl
    | 1, h => cases h; exact stD_im steps
    | 2, h => cases h; exact imL_noL _ (oth_noL o)
    | 3, h => cases h; rfl
    | 4, h => cases h
    | 5, h => cases h; rfl
    | 6, h => cases h; rfl
    | 7, h => cases h
    | 8, h => cases h
    | 9, h => cases h
    | n + 10, h => cases h
  have big : (20000 : Nat) < sizeLine := by decide
  refine ⟨_, false, E0, ?_, fun H1 s1 => ?_⟩
  · refine x_orT (by kernel_rfl) (x_orT (by kernel_rfl) (x_orT (by kernel_rfl) (x_test (x_bin (a := .int ((es.length : Nat) : Int)) (b := .int ((es.length : Nat) : Int)) ?_ rfl ?_))))
    · refine x_app (ds := [.tuple (evL es)]) (by kernel_rfl) ?_
      show some (PyData.int (((evL es).length : Nat) : Int)) = _
      unfold evL
      rw [List.length_map]
    · show some (PyData.bool (!decide (((es.length : Nat) : Int) = ((es.length : Nat) : Int)))) = _
      rw [decide_eq_true rfl]
      rfl
  have E1 := E0.mono s1
  refine ⟨_, .str v.s, E1, by kernel_rfl, fun u H2 s2 r2 => ?_⟩
  cases rp_str r2
  refine ⟨v, rfl, fun b H3 s3 hb ob => ⟨(show 1 ≤ sizeLine by decide), fun Wl hWl => ?_⟩⟩
  have sW := same_new (o := .lst [.ref b]) hWl
  refine ⟨_, .list (evL es), E1.mono ((s2.trans s3).trans sW), by kernel_rfl, fun u5 H5 s5 r5 => ⟨_, _, rfl, ?_⟩⟩
  have s15 := ((s2.trans s3).trans sW).trans s5
  obtain ⟨Ra, evv, rfl, k1, k2⟩ := rp_lst r5
  have nWl : H0 Wl = none := same_none ((s1.trans s2).trans s3) hWl
  refine ⟨.ref Ra, rfl, Ra, rfl, ⟨evv, k1⟩, ?_⟩
  have hg0 := B.begins (startW v) (List.mem_map.mpr ⟨v, by cases v <;> decide, rfl⟩)
  refine for_list (xs := evv) (fun j σ H => EnvOk K w H σ (bRr steps o net p v es) ∧ σ[4]? = some (some (.ref f)) ∧ σ[7]? = some (some (.ref Wl)) ∧ SqL K H Ra evv ∧ DpAll K H evv (evL es) ∧ Same H0 H ∧
      ∃ wvs c, H Wl = some (.lst wvs) ∧ atI wvs (-1) = some (.ref c) ∧ headS wvs = false ∧ wvs ≠ [] ∧ wvs.length ≤ j + 1 ∧ SD K H c (runW steps net (startW v) (es.take j)).kl)
    ⟨⟨rfl, fun i d h => ?_⟩, rfl, rfl, k1, k2, s1.trans s15, [.ref b], b, s5 _ _ upd_same, atI_last [] _, rfl, by simp, Nat.le_refl _, ((ob.mono sW).mono s5)⟩ (fun j σ H _ p => p.2.2.2.1) (fun j x σ H hj pj => ?_) fun σ H pj => ?_
  · obtain ⟨v, g1, g2⟩ := E0.get i d h
    have h7 : i ≠ 7 := by rintro rfl; cases h
    have h8 : i ≠ 8 := by rintro rfl; cases h
    exact ⟨v, by rw [List.getElem?_set_ne (Ne.symm h8), List.getElem?_set_ne (Ne.symm h7)]; exact g1, g2.mono (s1.trans s15)⟩
  · obtain ⟨Ew, w4, w7, q1, q2, s0, wvs, c, h1, h2, h3, h4, h5, h6⟩ := pj
    obtain ⟨ev, hev, hde⟩ := dpAll_at (f := fun ev : Ev => .str ev.s) (l := es) q2 hj
    cases hde
    obtain ⟨hcan, hnx⟩ := run_at hrun hev
    have hj2 : j < es.length := (List.getElem?_eq_some_iff.mp hev).1
    obtain ⟨gj, lj⟩ := run_good B (es.take j) (startW v) 0 hg0 (Nat.le_refl _) (runOk_take j hrun)
    have ltk : (es.take j).length ≤ j := by rw [List.length_take]; exact Nat.min_le_left _ _
    generalize hWj : runW steps net (startW v) (es.take j) = W at hcan hnx gj lj h6
    have oW := B.ok W gj
    have hsl : σ.length = 10 := Ew.len
    have hh : headS evv = true := by
      cases hq : evv with
      | nil => rw [hq] at hj; cases hj
      | cons y r =>
        rw [hq] at q2
        cases hl : es with
        | nil => rw [hl] at q2; cases q2
        | cons e' r' =>
          rw [hl] at q2
          cases q2 with
          | cons a1 a2 => cases a1; rfl
    have E2 : EnvOk K w H (σ.set 9 (some (.str ev.s))) (bRr steps o net p v es) := by
      refine ⟨by rw [List.length_set]; exact hsl, fun i d h => ?_⟩
      obtain ⟨v, g1, g2⟩ := Ew.get i d h
      have : i ≠ 9 := by rintro rfl; cases h
      exact ⟨v, by rw [List.getElem?_set_ne (Ne.symm this)]; exact g1, g2⟩
    have w7' : (σ.set 9 (some (V.str ev.s)))[7]? = some (some (.ref Wl)) := by rw [List.getElem?_set_ne (by decide)]; exact w7
    have w9' : (σ.set 9 (some (V.str ev.s)))[9]? = some (some (.str ev.s)) := get_set (by rw [hsl]; decide)
    refine ⟨.ref Wl, w7', _, .int (-1), E2, rfl, fun un H6 s6 r6 => ?_⟩
    cases rp_int r6
    obtain ⟨u1, g1, t1⟩ := (E2.mono s6).get 1 (stD steps) rfl
    obtain ⟨u2, g2, t2⟩ := (E2.mono s6).get 2 o.d rfl
    obtain ⟨u3, g3, t3⟩ := (E2.mono s6).get 3 (.str net.s) rfl
    cases rp_str t3
    refine ⟨Wl, wvs, -1, .ref c, rfl, rfl, SqL.of (s6 _ _ h1), h2, u1, g1, .str ev.s, w9', u2, g2, .str net.s, g3, rfl, [W.d, stD steps, .str ev.s, o.d, .str net.s], .bool true, .cons (h6.mono s6).rp (.cons t1 (.cons (.dat (.str _)) (.cons t2 (.cons (.dat (.str _)) .nil)))), ?_, fun vb H7 s7 r7 => ?_⟩
    · rw [e_l_can W oW.au steps ev o net _ (stp_at oW.step) (so.c oW.step), hcan]
    cases rp_bool r7
    refine ⟨_, rfl, ?_⟩
    have s67 := s6.trans s7
    refine ⟨.ref Wl, w7', .inl ⟨rfl, wvs, SqL.of (s67 _ _ h1)⟩, .ref Wl, w7', _, .int (-1), E2.mono s67, rfl, fun un H8 s8 r8 => ?_⟩
    cases rp_int r8
    have s68 := s67.trans s8
    obtain ⟨u1, g1, t1⟩ := (E2.mono s68).get 1 (stD steps) rfl
    obtain ⟨u3, g3, t3⟩ := (E2.mono s68).get 3 (.str net.s) rfl
    cases rp_str t3
    refine ⟨Wl, wvs, -1, .ref c, rfl, rfl, SqL.of (s68 _ _ h1), h2, u1, g1, .str ev.s, w9', .str net.s, g3, c, u1, W, steps, ev, net, o, rfl, h6.mono s68, t1, oW.step, so, hcan, oW.late, oW.au, by omega, fun b' H9 s9 hb' ob' => ?_⟩
    have s69 := s68.trans s9
    have h1' := s69 _ _ h1
    refine ⟨Wl, wvs, .ref b', rfl, rfl, h1', Nat.lt_of_le_of_lt h5 (Nat.lt_trans (m := 20000) (by omega) big), ?_⟩
    have sw : SameW H9 (upd H9 Wl (.lst (wvs ++ [.ref b']))) := sameW_upd h1' h3
    have swa := (Same.toW s69).trans sw
    have hba := behindW_au steps W ev net oW.au
    refine ⟨(E2.monoW swa IM), by rw [List.getElem?_set_ne (by decide)]; exact w4, w7', sqL_W swa hh q1, dpAll_W swa _ _ (evs_im es) q2, ?_, wvs ++ [.ref b'], b', upd_same, atI_last _ _, ?_, by simp, by rw [List.length_append]; exact Nat.succ_le_succ h5, ?_⟩
    · intro a o ea
      rw [upd_ne (ne_of_none ea nWl)]
      exact s69 _ _ (s0 _ _ ea)
    · cases hq : wvs with
      | nil => exact absurd hq h4
      | cons y r => rw [hq] at h3; exact h3
    · rw [hnx]
      exact ob'.monoW sw (kl_im _ hba.1)
  · obtain ⟨Ew, w4, w7, q1, q2, s0, wvs, c, h1, h2, h3, h4, h5, h6⟩ := pj
    have hel : evv.length = es.length := by rw [dpAll_length q2]; exact List.length_map _
    rw [hel, List.take_length] at h6
    obtain ⟨gj, lj⟩ := run_good B es (startW v) 0 hg0 (Nat.le_refl _) hrun
    generalize runW steps net (startW v) es = W at gj lj h6 hover
    have oW := B.ok W gj
    refine ⟨w4, .ref Wl, w7, _, .int (-1), Ew, rfl, fun un H6 s6 r6 => ?_⟩
    cases rp_int r6
    obtain ⟨u1, g1, t1⟩ := (Ew.mono s6).get 1 (stD steps) rfl
    obtain ⟨u5, g5, t5⟩ := (Ew.mono s6).get 5 (.str p.s) rfl
    refine ⟨Wl, wvs, -1, .ref c, rfl, rfl, SqL.of (s6 _ _ h1), h2, u1, g1, u5, g5, rfl, [W.d, stD steps, .none, .str p.s], .bool true, .cons (h6.mono s6).rp (.cons t1 (.cons (.dat .non) (.cons t5 .nil))), ?_, fun vb H7 s7 r7 => ?_⟩
    · rw [e_is_over W steps p _ (stp_at oW.step)]
      exact congrArg (fun b => some (PyData.bool b)) hover
    cases rp_bool r7
    exact ⟨_, rfl, q _ ((s0.trans s6).trans s7)⟩
end
end Dn
set_option Elab.async false
set_option linter.all false
set_option maxRecDepth 100000
set_option maxHeartbeats 4000000
namespace Dn
open PySem PySem.Spec L2 PyProof.Rows
/-! ### *, %, //, ** -/
def gMul : PyData → PyData → Option PyData
  | .int i, .int j => if (decide (-(2 ^ 64) < i) && decide (i < 2 ^ 64)) || (decide (-(2 ^ 64) < j) && decide (j < 2 ^ 64)) then some (.int (i * j)) else none
  | _, _ => none
def gMod : PyData → PyData → Option PyData
  | .int i, .int j => if decide (0 < j) then some (.int (i % j)) else none
  | _, _ => none
def gFd : PyData → PyData → Option PyData
  | .int i, .int j => if decide (0 < j) && decide (j < 1073741824) then some (.int (i / j)) else none
  | _, _ => none
def gPow : PyData → PyData → Option PyData
  | .int i, .int j => if decide (0 ≤ j) && (decide (j ≤ 1000000) && decide (i.natAbs < 2 ^ 64)) then some (.int (i ^ j.toNat)) else none
  | _, _ => none
section
variable {X : Cx} {a b : Expr} {fa fb : DF} {pos : Pos}
theorem int2 {g : PyData → PyData → Option PyData} {d e z : PyData} (hg : ∀ d e, (∀ i j, d = .int i → e = .int j → False) → g d e = none) (h : g d e = some z) : ∃ i j, d = .int i ∧ e = .int j := by
  refine Classical.byContradiction fun hn => ?_
  rw [hg d e fun i j h1 h2 => hn ⟨i, j, h1, h2⟩] at h
  cases h
theorem d_mul (ha : PE X a (tD X.K X.w fa)) (hb : PE X b (tD X.K X.w fb)) : PE X (.BinOp a .Mult b pos) (tD X.K X.w (dBin gMul fa fb)) := by
  refine pe_imp (pe_op op_mul ha hb) fun σ H Q => imp_bin fun x y H Q d e z rx ry g q => ?_
  obtain ⟨i, j, rfl, rfl⟩ := int2 (fun d e h => by cases d <;> cases e <;> first | rfl | exact (h _ _ rfl rfl).elim) g
  have g : (if (decide (-(2 ^ 64) < i) && decide (i < 2 ^ 64)) || (decide (-(2 ^ 64) < j) && decide (j < 2 ^ 64)) then some (PyData.int (i * j)) else none) = some z := g
  split at g
  · rename_i hc
    cases g
    rw [Bool.or_eq_true, Bool.and_eq_true, Bool.and_eq_true] at hc
    refine ⟨i, j, rp_int rx, rp_int ry, ?_, q _ H (Same.refl H) (.dat (.int _))⟩
    rcases hc with ⟨h1, h2⟩ | ⟨h1, h2⟩
    · exact .inl ⟨of_decide_eq_true h1, of_decide_eq_true h2⟩
    · exact .inr ⟨of_decide_eq_true h1, of_decide_eq_true h2⟩
  · cases g
theorem d_mod (ha : PE X a (tD X.K X.w fa)) (hb : PE X b (tD X.K X.w fb)) : PE X (.BinOp a .Mod b pos) (tD X.K X.w (dBin gMod fa fb)) := by
  refine pe_imp (pe_op op_mod ha hb) fun σ H Q => imp_bin fun x y H Q d e z rx ry g q => ?_
  obtain ⟨i, j, rfl, rfl⟩ := int2 (fun d e h => by cases d <;> cases e <;> first | rfl | exact (h _ _ rfl rfl).elim) g
  have g : (if decide (0 < j) then some (PyData.int (i % j)) else none) = some z := g
  split at g
  · rename_i hc
    cases g
    exact ⟨i, j, rp_int rx, rp_int ry, of_decide_eq_true hc, q _ H (Same.refl H) (.dat (.int _))⟩
  · cases g
theorem d_fd (ha : PE X a (tD X.K X.w fa)) (hb : PE X b (tD X.K X.w fb)) : PE X (.BinOp a .FloorDiv b pos) (tD X.K X.w (dBin gFd fa fb)) := by
  refine pe_imp (pe_op op_fdiv ha hb) fun σ H Q => imp_bin fun x y H Q d e z rx ry g q => ?_
  obtain ⟨i, j, rfl, rfl⟩ := int2 (fun d e h => by cases d <;> cases e <;> first | rfl | exact (h _ _ rfl rfl).elim) g
  have g : (if decide (0 < j) && decide (j < 1073741824) then some (PyData.int (i / j)) else none) = some z := g
  split at g
  · rename_i hc
    cases g
    rw [Bool.and_eq_true] at hc
    exact ⟨i, j, rp_int rx, rp_int ry, ⟨of_decide_eq_true hc.1, of_decide_eq_true hc.2⟩, q _ H (Same.refl H) (.dat (.int _))⟩
  · cases g
theorem d_pow (ha : PE X a (tD X.K X.w fa)) (hb : PE X b (tD X.K X.w fb)) : PE X (.BinOp a .Pow b pos) (tD X.K X.w (dBin gPow fa fb)) := by
  refine pe_imp (pe_op op_pow ha hb) fun σ H Q => imp_bin fun x y H Q d e z rx ry g q => ?_
  obtain ⟨i, j, rfl, rfl⟩ := int2 (fun d e h => by cases d <;> cases e <;> first | rfl | exact (h _ _ rfl rfl).elim) g
  have g : (if decide (0 ≤ j) && (decide (j ≤ 1000000) && decide (i.natAbs < 2 ^ 64)) then some (PyData.int (i ^ j.toNat)) else none) = some z := g
  split at g
  · rename_i hc
    cases g
    rw [Bool.and_eq_true, Bool.and_eq_true] at hc
    exact ⟨i, j, rp_int rx, rp_int ry, ⟨of_decide_eq_true hc.1, of_decide_eq_true hc.2.1, of_decide_eq_true hc.2.2⟩, q _ H (Same.refl H) (.dat (.int _))⟩
  · cases g
end
/-! ### evaluation of ints -/
theorem v_mulL {fa fb : DF} {env : DE} {i j : Int} (h : fa env = some (.int i)) (h2 : fb env = some (.int j)) (hi : -(2 ^ 64) < i ∧ i < 2 ^ 64) : dBin gMul fa fb env = some (.int (i * j)) := by
  refine x_bin h h2 ?_
  show (if (decide (-(2 ^ 64) < i) && decide (i < 2 ^ 64)) || (decide (-(2 ^ 64) < j) && decide (j < 2 ^ 64)) then some (PyData.int (i * j)) else none) = _
  rw [if_pos (by rw [decide_eq_true hi.1, decide_eq_true hi.2]; rfl)]
theorem v_mulR {fa fb : DF} {env : DE} {i j : Int} (h : fa env = some (.int i)) (h2 : fb env = some (.int j)) (hj : -(2 ^ 64) < j ∧ j < 2 ^ 64) : dBin gMul fa fb env = some (.int (i * j)) := by
  refine x_bin h h2 ?_
  show (if (decide (-(2 ^ 64) < i) && decide (i < 2 ^ 64)) || (decide (-(2 ^ 64) < j) && decide (j < 2 ^ 64)) then some (PyData.int (i * j)) else none) = _
  rw [if_pos (by rw [decide_eq_true hj.1, decide_eq_true hj.2, Bool.or_comm]; rfl)]
theorem v_mod {fa fb : DF} {env : DE} {i j : Int} (h : fa env = some (.int i)) (h2 : fb env = some (.int j)) (hj : 0 < j) : dBin gMod fa fb env = some (.int (i % j)) := by
  refine x_bin h h2 ?_
  show (if decide (0 < j) then some (PyData.int (i % j)) else none) = _
  rw [if_pos (decide_eq_true hj)]
theorem v_fd {fa fb : DF} {env : DE} {i j : Int} (h : fa env = some (.int i)) (h2 : fb env = some (.int j)) (hj : 0 < j) (hj2 : j < 1073741824) : dBin gFd fa fb env = some (.int (i / j)) := by
  refine x_bin h h2 ?_
  show (if decide (0 < j) && decide (j < 1073741824) then some (PyData.int (i / j)) else none) = _
  rw [if_pos (by rw [decide_eq_true hj, decide_eq_true hj2]; rfl)]
theorem v_add {fa fb : DF} {env : DE} {i j : Int} (h : fa env = some (.int i)) (h2 : fb env = some (.int j)) : dBin gAdd fa fb env = some (.int (i + j)) := x_bin h h2 rfl
theorem v_int {f : DE → Option (List PyData)} {env : DE} {i : Int} (h : f env = some [.int i]) : dApp gIntA f env = some (.int i) := x_app h rfl
/-! ### the draws -/
def mkl (l sd : Int) (cs : List Int) (sp : Int) : Kl := [("left", .int l), ("seed", .int sd), ("cells", .list (cs.map .int)), ("spot", .int sp)]
structure MOk (sd : Int) (cs : List Int) (sp : Int) : Prop where
  sd0 : 0 ≤ sd
  sd1 : sd < 2147483647
  cs0 : cs ≠ []
  cs1 : cs.length ≤ 1000
  sp0 : 0 ≤ sp
  sp1 : sp < 100000
/-- all stands but what is at a -/
def SameB (a : Addr) (H H' : Hp) : Prop := ∀ b o, H b = some o → b ≠ a → H' b = some o
section
variable {K : PySem.W.Frag} {w : World} {H H' H1 : Hp} {a : Addr}
theorem SameB.d {kvs : List (Key × V)} (h : SameB a H H') (e : H a = some (.dK kvs)) : SameD H H' := fun b o eb n => h b o eb fun hb => by
  subst hb
  rw [e] at eb
  cases eb
  exact n _ rfl
theorem SameB.trans (h : SameB a H H1) (h' : SameB a H1 H') : SameB a H H' := fun b o e n => h' b o (h b o e n) n
theorem Same.b (h : Same H H') : SameB a H H' := fun b o e _ => h b o e
/-- a dict with its cells at cv -/
def SDc (K : PySem.W.Frag) (H : Hp) (a : Addr) (cv : V) (kl : Kl) : Prop := ∃ kvs, H a = some (.dK kvs) ∧ KvS K H kvs kl ∧ valV kvs (.inr "cells" : Key) = some cv
theorem SDc.sd {cv : V} {kl : Kl} (h : SDc K H a cv kl) : SD K H a kl := let ⟨kvs, h1, h2, _⟩ := h; ⟨kvs, h1, h2⟩
theorem SDc.mono {cv : V} {kl : Kl} (s : Same H H') (h : SDc K H a cv kl) : SDc K H' a cv kl := let ⟨kvs, h1, h2, h3⟩ := h; ⟨kvs, s _ _ h1, h2.mono (Same.d s), h3⟩
/-- a draw's dict stands at a, in slot j: all but it stands -/
structure MI (K : PySem.W.Frag) (w : World) (H0 : Hp) (a : Addr) (cv : V) (j : Nat) (env : DE) (kl : Kl) (σ : L2.St) (H : Hp) : Prop where
  ev : EnvOk K w H σ env
  dt : ∀ (i : Nat) (d : PyData), env[i]? = some (some d) → isDat d = true
  no : env[j]? = some none
  vl : σ[j]? = some (some (.ref a))
  ob : SDc K H a cv kl
  s0 : SameB a H0 H
variable {H0 : Hp} {cv : V} {j : Nat} {env : DE} {kl : Kl} {σ : L2.St}
theorem valV_put_ne {κ : Type} [DecidableEq κ] {kvs : List (κ × V)} {k k' : κ} {v : V} (h : k ≠ k') : valV (putK kvs k v) k' = valV kvs k' := by rw [valV_put, if_neg (Ne.symm h)]
theorem EnvOk.monoD (e : SameD H H') (dt : ∀ (i : Nat) (d : PyData), env[i]? = some (some d) → isDat d = true) (E : EnvOk K w H σ env) : EnvOk K w H' σ env :=
  ⟨E.len, fun i d h => let ⟨v, h1, h2⟩ := E.get i d h; ⟨v, h1, .dat (dp_sameD e _ _ (h2.dp (dt i d h)))⟩⟩
theorem MI.mono (s : Same H H') (I : MI K w H0 a cv j env kl σ H) : MI K w H0 a cv j env kl σ H' := ⟨I.ev.mono s, I.dt, I.no, I.vl, I.ob.mono s, I.s0.trans (Same.b s)⟩
theorem MI.full (I : MI K w H0 a cv j env kl σ H) : EnvOk K w H σ (env.set j (some (.dict (klD kl)))) := by
  refine ⟨by rw [List.length_set]; exact I.ev.len, fun i d h => ?_⟩
  by_cases hij : i = j
  · subst hij
    have hl : i < env.length := (List.getElem?_eq_some_iff.mp I.no).1
    rw [List.getElem?_set_self hl] at h
    cases h
    exact ⟨_, I.vl, I.ob.sd.rp⟩
  · rw [List.getElem?_set_ne (Ne.symm hij)] at h
    exact I.ev.get i d h
/-- the dict is another, all else stands -/
theorem MI.turn {kl' : Kl} (I : MI K w H0 a cv j env kl σ H) (s : SameB a H H') (ob : SDc K H' a cv kl') : MI K w H0 a cv j env kl' σ H' := by
  obtain ⟨kvs, h1, h2, _⟩ := id I.ob
  exact ⟨I.ev.monoD (s.d h1) I.dt, I.dt, I.no, I.vl, ob, I.s0.trans s⟩
theorem MI.set {v : V} {d : PyData} (I : MI K w H0 a cv j env kl σ H) (i : Nat) (hi : i ≠ j) (r : Rp K w H v d) (hd : isDat d = true) : MI K w H0 a cv j (env.set i (some d)) kl (σ.set i (some v)) H := by
  refine ⟨I.ev.set i r, fun k e h => ?_, by rw [List.getElem?_set_ne hi]; exact I.no, by rw [List.getElem?_set_ne hi]; exact I.vl, I.ob, I.s0⟩
  by_cases hk : k = i
  · subst hk
    have hl : k < env.length := by
      have := (List.getElem?_eq_some_iff.mp h).1
      simpa using this
    rw [List.getElem?_set_self hl] at h
    cases h
    exact hd
  · rw [List.getElem?_set_ne (Ne.symm hk)] at h
    exact I.dt k e h
theorem MI.put {x : Str} {v : V} {d : PyData} {kvs : List (Key × V)} (I : MI K w H0 a cv j env kl σ H) (h1 : H a = some (.dK kvs)) (h2 : KvS K H kvs kl) (h3 : valV kvs (.inr "cells" : Key) = some cv) (hx : x ≠ "cells") (hd : Dp K H v d) : MI K w H0 a cv j env (putS kl x d) σ (upd H a (.dK (putK kvs (.inr x) v))) := by
  have sD : SameD H (upd H a (.dK (putK kvs (.inr x) v))) := sameD_upd h1
  refine I.turn (fun b o eb n => by rw [upd_ne n]; exact eb) ⟨_, upd_same, (h2.put hd).mono sD, by rw [valV_put_ne (fun h => hx (Sum.inr.inj h))]; exact h3⟩
theorem mi_put {D : Ends} {x : Str} {f : DF} {d : PyData} {kl' : Kl} (I : MI K w H0 a cv j env kl σ H) (hl : kl.length ≤ 100) (hx : x ≠ "cells") (e : f (env.set j (some (.dict (klD kl)))) = some d) (hd : isDat d = true) (hk : putS kl x d = kl') (q : ∀ H', MI K w H0 a cv j env kl' σ H' → D.nx σ H') :
    tAsg (tD K w f) (L2.gSub (tVar j) (tC (.str x)) rSetD) D σ H := by
  refine ⟨_, d, I.full, e, fun v H1 s1 r1 => ?_⟩
  have I1 := I.mono s1
  obtain ⟨kvs, h1, h2, h3⟩ := id I1.ob
  refine ⟨.ref a, I1.vl, a, _, rfl, DPut.k (k := .inr x) h1 ?_, q _ ?_⟩
  · rw [h2.len]; exact Nat.lt_of_le_of_lt hl (by decide)
  · rw [← hk]
    exact I1.put h1 h2 h3 hx (r1.dp hd)
end
/-! ### draw -/
def spDraw (K : PySem.W.Frag) : Sp := fun vs H Q _ => ∃ a cv l sd cs sp many, vs = [.ref a, .int many] ∧ SDc K H a cv (mkl l sd cs sp) ∧ MOk sd cs sp ∧ 1 ≤ many ∧ many ≤ 1000 ∧
  ∀ r l' sp' H', 0 ≤ r → r < many → sp ≤ sp' → sp' ≤ sp + 1 → SameB a H H' → SDc K H' a cv (mkl l' sd cs sp') → Q (.int r) H'
abbrev nDraw : List Str := ["_law_m", "_law_many", "_law_found", "_law_spot", "_law_cells", "_law_added", "_law_cell", "_law_blend"]
section
variable {P : Program} {w : World} {K : PySem.W.Frag} {mg : Str → Option Value} {base : Heap}
theorem sc_draw : FnScope nDraw ["_law_m", "_law_many"] (defScope st__law_draw) := ⟨rfl, rfl, rfl, by decide +kernel, rfl, by decide +kernel, by decide +kernel⟩
theorem ok_draw (T : Tx w K mg) : SOk P w K mg base 1 "_law_draw" 2 (spDraw K) := by
  refine sok_of 2 rfl T.g__law_draw sc_draw (fun vs H Q E ⟨a, cv, l, sd, cs, sp, many, e, _⟩ => by rw [e]; rfl) fun cd A outer s H0 E fa hr => ?_
  have hu := hr.units
  have hu1 : (A.deeper (envOfC "_law_draw" (defScope st__law_draw) s.heap.objs.size fa cd)).units + 1 < cLine := Nat.lt_of_le_of_lt (Nat.add_le_add_left (by decide) _) hu
  refine ⟨_, pss_cons (ps_if (t_cmp c_gt (d_ix hu1 (d_var 0) d_str) d_int (by rfl))
      (pss_cons (ps_set (i := 2) sc_draw.nd rfl (Or.inl rfl) (d_mod (d_callTy b_int T.b_int (by decide +kernel) (a_cons (d_ix hu1 (d_var 0) d_str) a_nil)) (d_var 1)))
      (pss_cons (ps_asg (d_fd (d_ix hu1 (d_var 0) d_str) (d_var 1)) (pg_sub (pv 0) pe_str (set_dict hu1)))
      (pss_one (ps_ret (pv 2))))) pss_nil)
    (pss_cons (ps_set (i := 3) sc_draw.nd rfl (Or.inl rfl) (d_ix hu1 (d_var 0) d_str))
    (pss_cons (ps_asg (d_add (d_var 3) d_int) (pg_sub (pv 0) pe_str (set_dict hu1)))
    (pss_cons (ps_par (i := 4) (j := 5) rfl sc_draw.nd rfl rfl (by decide) rfl rfl (pa_cons (d_ix hu1 (d_var 0) d_str) (pa_cons (d_add (d_ix hu1 (d_var 0) d_str) (d_mul (d_mul d_int (d_var 3)) (d_var 3))) pa_nil)) rfl rfl)
    (pss_cons (ps_set (i := 6) sc_draw.nd rfl (Or.inl rfl) (d_ix hu1 (d_var 4) (d_mod (d_callTy b_int T.b_int (by decide +kernel) (a_cons (d_var 3) a_nil)) (d_callB b_len T.b_len PySem.boot_len (a_cons (d_var 4) a_nil)))))
    (pss_cons (ps_set (i := 7) sc_draw.nd rfl (Or.inl rfl) (d_mod (d_callTy b_int T.b_int (by decide +kernel) (a_cons (d_add (d_mul (d_var 6) (d_add (d_mul d_int (d_var 3)) d_int)) (d_var 5)) a_nil)) d_int))
    (pss_cons (ps_set (i := 7) sc_draw.nd rfl (Or.inl rfl) (d_mod (d_callTy b_int T.b_int (by decide +kernel) (a_cons (d_add (d_add (d_mul (d_var 7) (d_var 7)) (d_mul d_int (d_var 3))) (d_ix hu1 (d_var 0) d_str)) a_nil)) d_int))
    (pss_one (ps_ret (d_mod (d_fd (d_mod (d_callTy b_int T.b_int (by decide +kernel) (a_cons (d_add (d_mul (d_var 7) d_int) (d_var 3)) a_nil)) d_int) d_int) (d_var 1)))))))))), ?_⟩
  rintro vs H0 Q E ⟨a, cv, l, sd, cs, sp, many, rfl, hM, ok, h1, h2, q⟩
  have I0 : MI K w H0 a cv 0 [none, some (.int many), none, none, none, none, none, none] (mkl l sd cs sp) (L2.start nDraw [.ref a, .int many]) H0 := by
    refine ⟨⟨rfl, fun i d h => ?_⟩, fun i d h => ?_, rfl, rfl, hM, fun b o e _ => e⟩
    · match i, h with
      | 0, h => cases h
      | 1, h => cases h; exact ⟨_, rfl, .dat (.int _)⟩
      | 2, h => cases h
      | 3, h => cases h
      | 4, h => cases h
      | 5, h => cases h
      | 6, h => cases h
      | 7, h => cases h
      | n + 8, h => cases h
    · match i, h with
      | 0, h => cases h
      | 1, h => cases h; rfl
      | 2, h => cases h
      | 3, h => cases h
      | 4, h => cases h
      | 5, h => cases h
      | 6, h => cases h
      | 7, h => cases h
      | n + 8, h => cases h
  refine ⟨_, decide (0 < l), I0.full, rfl, fun H1 s1 => ?_⟩
  have I1 := I0.mono s1
  by_cases hl : 0 < l
  · rw [decide_eq_true hl]
    refine ⟨_, .int (l % many), I1.full, v_mod (v_int rfl) rfl (by omega), fun v2 H2 s2 r2 => ?_⟩
    cases rp_int r2
    have I2 := (I1.mono s2).set 2 (by decide) r2 rfl
    refine mi_put (d := .int (l / many)) I2 (show 4 ≤ 100 by decide) (by decide +kernel) (v_fd rfl rfl (by omega) (by omega)) rfl (kl' := mkl (l / many) sd cs sp) (by kernel_rfl) fun H3 I3 => ?_
    exact ⟨.int (l % many), rfl, q _ (l / many) sp H3 (Int.emod_nonneg _ (by omega)) (Int.emod_lt_of_pos _ (by omega)) (Int.le_refl _) (by omega) I3.s0 I3.ob⟩
  · rw [decide_eq_false hl]
    have := ok.sp0
    have := ok.sp1
    have := ok.sd0
    have := ok.sd1
    refine ⟨_, .int sp, I1.full, rfl, fun v3 H3 s3 r3 => ?_⟩
    cases rp_int r3
    have I3 := (I1.mono s3).set 3 (by decide) r3 rfl
    refine mi_put (d := .int (sp + 1)) I3 (show 4 ≤ 100 by decide) (by decide +kernel) (v_add rfl rfl) rfl (kl' := mkl l sd cs (sp + 1)) (by kernel_rfl) fun H4 I4 => ?_
    refine ⟨_, .list (cs.map .int), I4.full, rfl, fun v5 H5 s5 r5 => ⟨_, .int (sd + 40503 * sp * sp), (I4.mono s5).full, v_add rfl (v_mulL (v_mulL rfl rfl (by decide)) rfl (by omega)), fun v6 H6 s6 r6 => ⟨v5, v6, rfl, ?_⟩⟩⟩
    cases rp_int r6
    have I6 := ((I4.mono (s5.trans s6)).set 4 (by decide) (r5.mono s6) rfl).set 5 (by decide) r6 rfl
    have hcl : 0 < cs.length := List.length_pos_iff.mpr ok.cs0
    have hk0 : 0 ≤ sp % (cs.length : Nat) := Int.emod_nonneg _ (by omega)
    have hk1 : sp % (cs.length : Nat) < (cs.length : Nat) := Int.emod_lt_of_pos _ (by omega)
    obtain ⟨k, hk⟩ : ∃ k : Nat, sp % (cs.length : Nat) = (k : Int) := ⟨_, (Int.toNat_of_nonneg hk0).symm⟩
    have hkl : k < cs.length := by omega
    have e6 : ∀ env : DE, env[4]? = some (some (.list (cs.map .int))) → env[3]? = some (some (.int sp)) → dBin gIxD (dVar 4) (dBin gMod (dApp gIntA (dConsA (dVar 3) dNilA)) (dApp gLenA (dConsA (dVar 4) dNilA))) env = some (.int cs[k]) := by
      intro env g4 g3
      have q4 : dVar 4 env = some (.list (cs.map .int)) := by unfold dVar; rw [g4]; rfl
      have q3 : dVar 3 env = some (.int sp) := by unfold dVar; rw [g3]; rfl
      refine x_bin q4 (v_mod (j := (cs.length : Nat)) (v_int (x_consA q3 x_nilA)) (x_app (x_consA q4 x_nilA) ?_) (by omega)) ?_
      · show some (PyData.int (((cs.map PyData.int).length : Nat) : Int)) = _
        rw [List.length_map]
      · show atI (cs.map PyData.int) (sp % (cs.length : Nat)) = _
        rw [hk]
        exact atI_nat (by rw [List.getElem?_map, List.getElem?_eq_getElem hkl]; rfl)
    refine ⟨_, .int cs[k], I6.full, e6 _ rfl rfl, fun v7 H7 s7 r7 => ?_⟩
    cases rp_int r7
    have I7 := (I6.mono s7).set 6 (by decide) r7 rfl
    generalize cs[k] = c at I7
    refine ⟨_, .int ((c * (2 * sp + 3) + (sd + 40503 * sp * sp)) % 2147483647), I7.full, v_mod (v_int (x_consA (v_add (v_mulR rfl (v_add (v_mulL rfl rfl (by decide)) rfl) (by omega)) rfl) x_nilA)) rfl (by decide), fun v8 H8 s8 r8 => ?_⟩
    cases rp_int r8
    have b0 := Int.emod_nonneg (c * (2 * sp + 3) + (sd + 40503 * sp * sp)) (show (2147483647 : Int) ≠ 0 by decide)
    have b1 := Int.emod_lt_of_pos (c * (2 * sp + 3) + (sd + 40503 * sp * sp)) (show (0 : Int) < 2147483647 by decide)
    generalize (c * (2 * sp + 3) + (sd + 40503 * sp * sp)) % 2147483647 = b at *
    have I8 := (I7.mono s8).set 7 (by decide) r8 rfl
    refine ⟨_, .int ((b * b + 69621 * sp + sd) % 2147483629), I8.full, v_mod (v_int (x_consA (v_add (v_add (v_mulL rfl rfl (by omega)) (v_mulL rfl rfl (by decide))) rfl) x_nilA)) rfl (by decide), fun v9 H9 s9 r9 => ?_⟩
    cases rp_int r9
    have c0 := Int.emod_nonneg (b * b + 69621 * sp + sd) (show (2147483629 : Int) ≠ 0 by decide)
    have c1 := Int.emod_lt_of_pos (b * b + 69621 * sp + sd) (show (0 : Int) < 2147483629 by decide)
    generalize (b * b + 69621 * sp + sd) % 2147483629 = b' at *
    have I9 := (I8.mono s9).set 7 (by decide) r9 rfl
    refine ⟨_, .int ((b' * 48271 + sp) % 2147483647 / 11 % many), I9.full, v_mod (v_fd (v_mod (v_int (x_consA (v_add (v_mulR rfl rfl (by decide)) rfl) x_nilA)) rfl (by decide)) rfl (by decide) (by decide)) rfl (by omega), fun v10 H10 s10 r10 => ?_⟩
    cases rp_int r10
    exact q _ l (sp + 1) H10 (Int.emod_nonneg _ (by omega)) (Int.emod_lt_of_pos _ (by omega)) (by omega) (Int.le_refl _) (I9.mono s10).s0 (I9.mono s10).ob
end
end Dn
set_option Elab.async false
set_option linter.all false
set_option maxRecDepth 100000
set_option maxHeartbeats 4000000
namespace Dn
open PySem PySem.Spec L2 PyProof.Rows
structure Mst (K : PySem.W.Frag) (Hb H : Hp) (a : Addr) (sd : Int) (cs : List Int) (b : Nat) : Prop where
  ex : ∃ cv l sp, SDc K H a cv (mkl l sd cs sp) ∧ Dp K Hb cv (.list (cs.map .int)) ∧ MOk sd cs sp ∧ sp ≤ (b : Nat)
  sb : SameB a Hb H
  b0 : ∃ kvs, Hb a = some (.dK kvs)
section
variable {K : PySem.W.Frag} {w : World} {Hb H H' : Hp} {a : Addr} {sd : Int} {cs : List Int} {b : Nat}
theorem kvs_of {kvs : List (Key × V)} {l sp : Int} (h : KvS K H kvs (mkl l sd cs sp)) : ∃ v, kvs = [(.inr "left", .int l), (.inr "seed", .int sd), (.inr "cells", v), (.inr "spot", .int sp)] ∧ Dp K H v (.list (cs.map .int)) := by
  cases h with
  | cons h1 t =>
    cases t with
    | cons h2 t =>
      cases t with
      | cons h3 t =>
        cases t with
        | cons h4 t =>
          cases t
          rename_i p1 p2 p3 p4
          obtain ⟨k1, v1⟩ := p1
          obtain ⟨k2, v2⟩ := p2
          obtain ⟨k3, v3⟩ := p3
          obtain ⟨k4, v4⟩ := p4
          obtain ⟨e1, d1⟩ := h1
          obtain ⟨e2, d2⟩ := h2
          obtain ⟨e3, d3⟩ := h3
          obtain ⟨e4, d4⟩ := h4
          subst e1 e2 e3 e4
          cases d1
          cases d2
          cases d4
          exact ⟨v3, rfl, d3⟩
theorem Mst.dk (h : Mst K Hb H a sd cs b) : ∃ kvs, H a = some (.dK kvs) := let ⟨_, _, _, ⟨kvs, h1, _⟩, _⟩ := h.ex; ⟨kvs, h1⟩
theorem Mst.mono (s : Same H H') (h : Mst K Hb H a sd cs b) : Mst K Hb H' a sd cs b := let ⟨cv, l, sp, h1, h2, h3⟩ := h.ex; ⟨⟨cv, l, sp, h1.mono s, h2, h3⟩, h.sb.trans (Same.b s), h.b0⟩
theorem Mst.d (h : Mst K Hb H a sd cs b) (s : SameB a H H') : SameD H H' := let ⟨_, e⟩ := h.dk; s.d e
theorem Mst.le {b' : Nat} (h : Mst K Hb H a sd cs b) (hb : b ≤ b') : Mst K Hb H a sd cs b' := let ⟨cv, l, sp, h1, h2, h3, h4⟩ := h.ex; ⟨⟨cv, l, sp, h1, h2, h3, by omega⟩, h.sb, h.b0⟩
/-- what is changed is new since the base -/
theorem Mst.other {D : Addr} (h : Mst K Hb H a sd cs b) (hD : Hb D = none) (k : ∀ c o, H c = some o → c ≠ D → H' c = some o) : Mst K Hb H' a sd cs b := by
  obtain ⟨cv, l, sp, ⟨kvs, h1, h2, h3⟩, h4, h5⟩ := h.ex
  obtain ⟨kvs0, hb0⟩ := h.b0
  have hDa : a ≠ D := by rintro rfl; rw [hb0] at hD; cases hD
  have sb : SameB a Hb H' := fun c o e n => k c o (h.sb c o e n) (fun hc => by subst hc; rw [hD] at e; cases e)
  obtain ⟨v, rfl, hv⟩ := kvs_of h2
  have hcv : v = cv := by
    have : valV [((.inr "left" : Key), V.int l), (.inr "seed", .int sd), (.inr "cells", v), (.inr "spot", .int sp)] (.inr "cells" : Key) = some v := by kernel_rfl
    rw [this] at h3
    exact Option.some.inj h3
  subst hcv
  exact ⟨⟨v, l, sp, ⟨_, k _ _ h1 hDa, .cons ⟨rfl, .int _⟩ (.cons ⟨rfl, .int _⟩ (.cons ⟨rfl, dp_sameD (sb.d hb0) _ _ h4⟩ (.cons ⟨rfl, .int _⟩ .nil))), h3⟩, h4, h5⟩, sb, h.b0⟩
end
def spDrawM (K : PySem.W.Frag) : Sp := fun vs H Q _ => ∃ a Hb sd cs b many, vs = [.ref a, .int many] ∧ Mst K Hb H a sd cs b ∧ b < 90000 ∧ 1 ≤ many ∧ many ≤ 1000 ∧ ∀ (n : Nat) H', (n : Int) < many → SameB a H H' → Mst K Hb H' a sd cs (b + 1) → Q (.int (n : Nat)) H'
theorem SOk.imp {P : Program} {w : World} {K : PySem.W.Frag} {mg : Str → Option Value} {base : Heap} {k n : Nat} {x : Str} {sp sp' : Sp} (h : SOk P w K mg base k x n sp) (i : ∀ vs H Q E, sp' vs H Q E → sp vs H Q E) : SOk P w K mg base k x n sp' :=
  let ⟨f, fd, ps, h1, h2, h3, h4, F⟩ := h.ok
  ⟨⟨f, fd, ps, h1, h2, h3, h4, F.imp i⟩⟩
theorem ok_drawM {P : Program} {w : World} {K : PySem.W.Frag} {mg : Str → Option Value} {base : Heap} (T : Tx w K mg) : SOk P w K mg base 1 "_law_draw" 2 (spDrawM K) :=
  (ok_draw T).imp fun vs H Q E ⟨a, Hb, sd, cs, b, many, e, h, hb, h1, h2, q⟩ => by
    obtain ⟨cv, l, sp, g1, g2, g3, g4⟩ := h.ex
    refine ⟨a, cv, l, sd, cs, sp, many, e, g1, g3, h1, h2, fun r l' sp' H' r0 r1 s0 s1 sB ob => ?_⟩
    obtain ⟨n, rfl⟩ : ∃ n : Nat, r = (n : Int) := ⟨r.toNat, (Int.toNat_of_nonneg r0).symm⟩
    have h0 := g3.sp0
    exact q n H' r1 sB ⟨⟨cv, l', sp', ob, g2, ⟨g3.sd0, g3.sd1, g3.cs0, g3.cs1, by omega, by omega⟩, by omega⟩, h.sb.trans sB, h.b0⟩
/-! ### of -/
def spOf (K : PySem.W.Frag) : Sp := fun vs H Q _ => ∃ a Hb sd cs b v ds, vs = [.ref a, v] ∧ Mst K Hb H a sd cs b ∧ b < 90000 ∧ Dp K H v (.list ds) ∧ ds ≠ [] ∧ ds.length ≤ 100 ∧ ∀ d ∈ ds, ∀ v' H', SameB a H H' → Mst K Hb H' a sd cs (b + 1) → Dp K H' v' d → Q v' H'
section
variable {P : Program} {w : World} {K : PySem.W.Frag} {mg : Str → Option Value} {base : Heap}
theorem sc_of : FnScope ["_law_m", "_law_some"] ["_law_m", "_law_some"] (defScope st__law_of) := ⟨rfl, rfl, rfl, by decide +kernel, rfl, by decide +kernel, by decide +kernel⟩
theorem ok_of (T : Tx w K mg) : SOk P w K mg base 2 "_law_of" 2 (spOf K) := by
  refine sok_of 2 rfl T.g__law_of sc_of (fun vs H Q E ⟨a, Hb, sd, cs, b, v, ds, e, _⟩ => by rw [e]; rfl) fun cd A outer s H0 E fa hr => ?_
  refine ⟨_, pss_one (ps_ret (pe_ix ix_list (pv 1) (p_call (ok_drawM T) hr (pa_cons (pv 0) (pa_cons (d_callB b_len T.b_len PySem.boot_len (a_cons (d_var 1) a_nil)) pa_nil))) (fun _ _ => rfl))), ?_⟩
  rintro vs H0 Q E ⟨a, Hb, sd, cs, b, v, ds, rfl, hM, hb, hd, h0, h1, q⟩
  have E0 : EnvOk K w H0 (L2.start ["_law_m", "_law_some"] [.ref a, v]) [none, some (.list ds)] := by
    refine ⟨rfl, fun i d h => ?_⟩
    match i, h with
    | 0, h => cases h
    | 1, h => cases h; exact ⟨v, rfl, .dat hd⟩
    | n + 2, h => cases h
  refine ⟨v, rfl, .ref a, rfl, _, .int ((ds.length : Nat) : Int), E0, rfl, fun vn H1 s1 r1 => ?_⟩
  cases rp_int r1
  have hl : 0 < ds.length := List.length_pos_iff.mpr h0
  refine ⟨a, Hb, sd, cs, b, ((ds.length : Nat) : Int), rfl, hM.mono s1, hb, by omega, by omega, fun n H2 hn sB m2 => ?_⟩
  have hd1 := dp_mono s1 _ _ hd
  have hd2 := dp_sameD ((hM.mono s1).d sB) _ _ hd1
  cases hd2 with
  | lst hs ha =>
    rename_i p xs
    have hn2 : n < ds.length := by omega
    obtain ⟨u, g1, g2⟩ := dpAll_get (i := n) (d := ds[n]) ha (List.getElem?_eq_getElem hn2)
    exact ⟨p, xs, (n : Nat), u, rfl, rfl, hs, atI_nat g1, q ds[n] (List.getElem_mem hn2) u H2 ((Same.b s1).trans sB) m2 g2⟩
/-! ### conditions -/
def condsOf : Nat → List Cnd
  | 0 => [.plain, .stamp, .tag, .look]
  | 1 => [.plain, .stamp, .tag, .there, .none]
  | _ => [.plain, .stamp, .tag, .there]
def kindS : Nat → Str
  | 0 => "read" | 1 => "put" | _ => "take"
def extraOf : Nat → List PyData
  | 0 => [.str "look"]
  | 1 => [.str "there", .str "none"]
  | _ => [.str "there"]
theorem extra_len : ∀ k, (extraOf k).length ≤ 2
  | 0 => by decide
  | 1 => by decide
  | _ + 2 => Nat.le_succ 1
theorem conds_eq : ∀ k, ((condsOf k).map fun c => PyData.str c.s) = [.str "plain", .str "stamp", .str "tag"] ++ extraOf k
  | 0 => rfl
  | 1 => rfl
  | _ + 2 => rfl
def spCond (K : PySem.W.Frag) : Sp := fun vs H Q _ => ∃ k : Nat, vs = [.str (kindS k)] ∧ k ≤ 2 ∧ ∀ v' H', Same H H' → Dp K H' v' (.list ((condsOf k).map fun c => .str c.s)) → Q v' H'
theorem sc_conditions : FnScope ["_law_kind", "_law_found"] ["_law_kind"] (defScope st__law_conditions) := ⟨rfl, rfl, rfl, by decide +kernel, rfl, by decide +kernel, by decide +kernel⟩
theorem ok_conditions (T : Tx w K mg) : SOk P w K mg base 1 "_law_conditions" 1 (spCond K) := by
  refine sok_of 1 rfl T.g__law_conditions sc_conditions (fun vs H Q E ⟨k, e, _⟩ => by rw [e]; rfl) fun cd A outer s H0 E fa hr => ?_
  have hu := hr.units
  have hu1 : (A.deeper (envOfC "_law_conditions" (defScope st__law_conditions) s.heap.objs.size fa cd)).units + 1 < cLine := Nat.lt_of_le_of_lt (Nat.add_le_add_left (by decide) _) hu
  refine ⟨_, pss_cons (ps_set (i := 1) sc_conditions.nd rfl (Or.inl rfl) (d_lst (a_cons d_str (a_cons d_str (a_cons d_str a_nil)))))
    (pss_one (ps_ret (pe_op op_catL (d_var 1) (pe_dget hu1 (pe_dispS [("read", dLst (dConsA (dC (.str "look")) dNilA)), ("put", dLst (dConsA (dC (.str "there")) (dConsA (dC (.str "none")) dNilA))), ("take", dLst (dConsA (dC (.str "there")) dNilA))]
      (pps_cons pe_str (d_lst (a_cons d_str a_nil)) (pps_cons pe_str (d_lst (a_cons d_str (a_cons d_str a_nil))) (pps_cons pe_str (d_lst (a_cons d_str a_nil)) pps_nil))) rfl rfl (by decide) (by decide)) (d_var 0) (fun _ _ => rfl))))), ?_⟩
  rintro vs H0 Q E ⟨k, rfl, hk, q⟩
  have E0 : EnvOk K w H0 (L2.start ["_law_kind", "_law_found"] [.str (kindS k)]) [some (.str (kindS k)), none] := start_ok (Ns := ["_law_kind", "_law_found"]) (.cons (.dat (.str _)) .nil)
  refine ⟨_, .list [.str "plain", .str "stamp", .str "tag"], E0, rfl, fun v1 H1 s1 r1 => ?_⟩
  have E1 := (E0.mono s1).set 1 r1
  refine ⟨_, _, E1, rfl, fun v2 H2 s2 r2 => ⟨_, _, E1.mono s2, rfl, by decide, fun p H3 s3 hp ob => ⟨_, .str (kindS k), (E1.mono s2).mono s3, rfl, fun v4 H4 s4 r4 => ?_⟩⟩⟩
  cases rp_str r4
  obtain ⟨kvs, k1, k2⟩ := ob.mono s4
  have key : ∃ u, valV kvs (.inr (kindS k) : Key) = some u ∧ Dp K H4 u (.list (extraOf k)) := by
    match k, hk with
    | 0, _ => exact kvD_val k2.d "read" (by kernel_rfl)
    | 1, _ => exact kvD_val k2.d "put" (by kernel_rfl)
    | 2, _ => exact kvD_val k2.d "take" (by kernel_rfl)
  obtain ⟨u, g1, g2⟩ := key
  refine ⟨p, u, rfl, .inl ⟨kvs, .inr (kindS k), .inl k1, rfl, g1.symm⟩, ?_⟩
  obtain ⟨x1, xs, rfl, h1, h2⟩ := rp_lst r2
  obtain ⟨x2, ys, rfl, h3, h4⟩ := rp_lst (Rp.dat (w := w) g2)
  have s24 := s3.trans s4
  refine ⟨x1, x2, xs, ys, rfl, rfl, Same.seq s24 h1, h3, ?_, fun z hz => ?_⟩
  · rw [dpAll_length h2, dpAll_length h4]
    have := extra_len k
    show 3 + (extraOf k).length ≤ 1000000
    omega
  · have s5 := same_new (o := .lst (xs ++ ys)) hz
    refine q _ _ (((s1.trans s2).trans s24).trans s5) ?_
    rw [conds_eq]
    exact .lst (SqL.of upd_same) (dpAll_append (dpAll_mono (s24.trans s5) _ _ h2) (dpAll_mono s5 _ _ h4))
end
end Dn
set_option Elab.async false
set_option linter.all false
set_option maxRecDepth 100000
set_option maxHeartbeats 4000000
namespace Dn
open PySem PySem.Spec L2 PyProof.Rows
theorem cat_use {K : PySem.W.Frag} {H : Hp} {v u : V} {ds es : List PyData} {Q : VK} (hx : Dp K H v (.tuple ds)) (hy : Dp K H u (.tuple es)) (h1 : ds ≠ []) (h2 : es ≠ []) (hl : ds.length + es.length ≤ 1000) (q : ∀ p H', Same H H' → Dp K H' (.ref p) (.tuple (ds ++ es)) → Q (.ref p) H') : rCatA K v u H Q := by
  cases hx with
  | tup a1 a2 =>
    cases hy with
    | tup b1 b2 =>
      rename_i a xs b ys
      have e1 := dpAll_length a2
      have e2 := dpAll_length b2
      have hx : xs ≠ [] := by intro h; rw [h] at e1; exact h1 (List.eq_nil_of_length_eq_zero e1.symm)
      have hy : ys ≠ [] := by intro h; rw [h] at e2; exact h2 (List.eq_nil_of_length_eq_zero e2.symm)
      have big : (1000 : Nat) ≤ sizeLine := by decide
      refine ⟨a, b, xs, ys, rfl, rfl, a1, b1, by omega, fun h => absurd h hx, fun _ h => absurd h hy, fun _ _ p hp => ?_⟩
      have s := same_new (o := .tup (xs ++ ys)) hp
      exact q p _ s (.tup (SqT.of upd_same) (dpAll_append (dpAll_mono s _ _ a2) (dpAll_mono s _ _ b2)))
/-- slots with data, and the draws' dict in slot 0 -/
structure DI (K : PySem.W.Frag) (w : World) (Hb : Hp) (a : Addr) (sd : Int) (cs : List Int) (env : DE) (b : Nat) (σ : L2.St) (H : Hp) : Prop where
  ev : EnvOk K w H σ env
  dt : ∀ (i : Nat) (d : PyData), env[i]? = some (some d) → isDat d = true
  v0 : σ[0]? = some (some (.ref a))
  m : Mst K Hb H a sd cs b
section
variable {K : PySem.W.Frag} {w : World} {Hb H H' : Hp} {a : Addr} {sd : Int} {cs : List Int} {b b' : Nat} {env : DE} {σ : L2.St}
theorem DI.mono (s : Same H H') (I : DI K w Hb a sd cs env b σ H) : DI K w Hb a sd cs env b σ H' := ⟨I.ev.mono s, I.dt, I.v0, I.m.mono s⟩
theorem DI.turn (s : SameB a H H') (m : Mst K Hb H' a sd cs b') (I : DI K w Hb a sd cs env b σ H) : DI K w Hb a sd cs env b' σ H' := ⟨I.ev.monoD (I.m.d s) I.dt, I.dt, I.v0, m⟩
theorem DI.set {v : V} {d : PyData} (I : DI K w Hb a sd cs env b σ H) (i : Nat) (hi : i ≠ 0) (r : Rp K w H v d) (hd : isDat d = true) : DI K w Hb a sd cs (env.set i (some d)) b (σ.set i (some v)) H := by
  refine ⟨I.ev.set i r, fun k e h => ?_, by rw [List.getElem?_set_ne hi]; exact I.v0, I.m⟩
  by_cases hk : k = i
  · subst hk
    have hl : k < env.length := by
      have := (List.getElem?_eq_some_iff.mp h).1
      simpa using this
    rw [List.getElem?_set_self hl] at h
    cases h
    exact hd
  · rw [List.getElem?_set_ne (Ne.symm hk)] at h
    exact I.dt k e h
theorem Mst.fresh {D : Addr} (h : Mst K Hb H a sd cs b) (hD : H D = none) : Hb D = none := by
  cases e : Hb D with
  | none => rfl
  | some o =>
    have hDa : D ≠ a := by
      rintro rfl
      obtain ⟨kvs, hk⟩ := h.dk
      rw [hk] at hD
      cases hD
    rw [h.sb D o e hDa] at hD
    cases hD
theorem Mst.ne {D : Addr} {xs : List V} (h : Mst K Hb H a sd cs b) (hD : H D = some (.lst xs)) : D ≠ a := by
  rintro rfl
  obtain ⟨kvs, hk⟩ := h.dk
  rw [hk] at hD
  cases hD
end
theorem nat_dp {K : PySem.W.Frag} {H : Hp} : ∀ ns : List Nat, DpAll K H (ns.map fun n : Nat => V.int (n : Nat)) (ns.map iN)
  | [] => .nil
  | n :: r => .cons (.int _) (nat_dp r)
def spStep (K : PySem.W.Frag) : Sp := fun vs H Q _ => ∃ a Hb sd cs b total, vs = [.ref a, .int ((total : Nat) : Int)] ∧ Mst K Hb H a sd cs b ∧ b < 80000 ∧ 1 ≤ total ∧ total ≤ 8 ∧ ∀ one v' H', Stp.ok total one = true → SameB a H H' → Mst K Hb H' a sd cs (b + 8) → Dp K H' v' (Stp.d one) → Q v' H'
abbrev nStep : List Str := ["_law_m", "_law_total", "_law_way", "_law_nexts", "_law_size", "_law_k"]
section
variable {P : Program} {w : World} {K : PySem.W.Frag} {mg : Str → Option Value} {base : Heap}
theorem sc_any_step : FnScope nStep ["_law_m", "_law_total"] (defScope st__law_any_step) := ⟨rfl, rfl, rfl, by decide +kernel, rfl, by decide +kernel, by decide +kernel⟩
theorem ok_any_step (T : Tx w K mg) : SOk P w K mg base 3 "_law_any_step" 2 (spStep K) := by
  refine sok_of 2 rfl T.g__law_any_step sc_any_step (fun vs H Q E ⟨a, Hb, sd, cs, b, total, e, _⟩ => by rw [e]; rfl) fun cd A outer s H0 E fa hr => ?_
  have hu := hr.units
  have hu1 : (A.deeper (envOfC "_law_any_step" (defScope st__law_any_step) s.heap.objs.size fa cd)).units + 1 < cLine := Nat.lt_of_le_of_lt (Nat.add_le_add_left (by decide) _) hu
  refine ⟨_, pss_cons (ps_par (i := 2) (j := 3) rfl sc_any_step.nd rfl rfl (by decide) rfl rfl (pa_cons (p_call (ok_drawM T) (hr.mono (by decide)) (pa_cons (pv 0) (pa_cons d_int pa_nil)))
        (pa_cons (pe_lc (own := [("_law_k", 5)]) rfl sc_any_step.nd (pi_range1 rfl T.b_range (pa_cons pe_int pa_nil)) (blkOk_by (N := nStep) (sc := defScope st__law_any_step) (by decide +kernel)) (fun _ _ _ _ _ => pg_name (i := 5) sc_any_step.nd rfl (Or.inl rfl)) (fun _ _ _ _ _ => pts_nil)
          (fun _ _ _ _ _ => p_call (ok_drawM T) (hr.mono (by decide)) (pa_cons (pv 0) (pa_cons (pv 1) pa_nil)))) pa_nil)) rfl rfl)
    (pss_cons (ps_if (t_cmp c_lt (d_var 2) d_int (by rfl)) (pss_one (ps_ret (pe_op op_catA (pe_tup (pa_cons d_str (pa_cons (p_call (ok_of T) hr (pa_cons (pv 0) (pa_cons (p_call (ok_conditions T) (hr.mono (by decide)) (pa_cons d_str pa_nil)) pa_nil))) pa_nil))) (d_callTy b_tuple T.b_tuple (by decide +kernel) (a_cons (d_var 3) a_nil))))) pss_nil)
    (pss_cons (ps_if (t_cmp c_lt (d_var 2) d_int (by rfl)) (pss_cons (ps_set (i := 4) sc_any_step.nd rfl (Or.inl rfl) (p_call (ok_of T) hr (pa_cons (pv 0) (pa_cons (d_lst (a_cons d_str (a_cons d_str a_nil))) pa_nil))))
      (pss_one (ps_ret (pe_op op_catA (pe_tup (pa_cons d_str (pa_cons (p_call (ok_of T) hr (pa_cons (pv 0) (pa_cons (p_call (ok_conditions T) (hr.mono (by decide)) (pa_cons d_str pa_nil)) pa_nil))) (pa_cons (d_var 4) pa_nil)))) (d_callTy b_tuple T.b_tuple (by decide +kernel) (a_cons (d_slice (d_var 3) o_none (o_some d_int)) a_nil)))))) pss_nil)
    (pss_cons (ps_if (t_cmp (c_eq hu) (d_var 2) d_int (by rfl)) (pss_one (ps_ret (pe_op op_catA (pe_tup (pa_cons d_str (pa_cons (p_call (ok_of T) hr (pa_cons (pv 0) (pa_cons (p_call (ok_conditions T) (hr.mono (by decide)) (pa_cons d_str pa_nil)) pa_nil))) pa_nil))) (d_callTy b_tuple T.b_tuple (by decide +kernel) (a_cons (d_slice (d_var 3) o_none (o_some d_int)) a_nil))))) pss_nil)
    (pss_one (ps_ret (pe_ifExp (t_cmp (c_eq hu) (d_var 2) d_int (by rfl)) (pe_tup (pa_cons d_str (pa_cons (d_ix hu1 (d_var 3) d_int) pa_nil))) (pe_tup (pa_cons d_str (pa_cons (p_call (ok_of T) hr (pa_cons (pv 0) (pa_cons (d_lst (a_cons d_str (a_cons d_str (a_cons d_str a_nil)))) pa_nil))) pa_nil))))))))), ?_⟩
  rintro vs H0 Q E ⟨a, Hb, sd, cs, b, total, rfl, hM, hb, ht1, ht8, q⟩
  have I0 : DI K w Hb a sd cs [none, some (iN total), none, none, none, none] b (L2.start nStep [.ref a, .int ((total : Nat) : Int)]) H0 := by
    refine ⟨⟨rfl, fun i d h => ?_⟩, fun i d h => ?_, rfl, hM⟩
    · match i, h with
      | 0, h => cases h
      | 1, h => cases h; exact ⟨_, rfl, .dat (.int _)⟩
      | 2, h => cases h
      | 3, h => cases h
      | 4, h => cases h
      | 5, h => cases h
      | n + 6, h => cases h
    · match i, h with
      | 0, h => cases h
      | 1, h => cases h; rfl
      | 2, h => cases h
      | 3, h => cases h
      | 4, h => cases h
      | 5, h => cases h
      | n + 6, h => cases h
  refine ⟨.ref a, rfl, _, .int 9, I0.ev, rfl, fun v9 H1 s1 r1 => ?_⟩
  cases rp_int r1
  have I1 := I0.mono s1
  refine ⟨a, Hb, sd, cs, b, 9, rfl, I1.m, by omega, by decide, by decide, fun way H2 hway sB2 m2 => ?_⟩
  have I2 := I1.turn sB2 m2
  refine ⟨5, rfl, by decide, by decide, fun D hD => ?_⟩
  have hbD := m2.fresh hD
  refine lc_range (n := 5) (fun j H' => SameB a H2 H' ∧ Mst K Hb H' a sd cs (b + 1 + j) ∧ ∃ (acc : List V) (ns : List Nat), H' D = some (.lst acc) ∧ acc = ns.map (fun n : Nat => V.int (n : Nat)) ∧ ns.length = j ∧ ∀ n ∈ ns, n < total) ?_ (fun j H' hj I => ⟨by rw [wipe_set (by simp), wipe_wipe], ?_⟩) (fun H' I => ?_)
  · exact ⟨Same.b (same_new hD), (m2.mono (same_new hD)).le (by omega), [], [], upd_same, rfl, rfl, fun n h => (by cases h)⟩
  · obtain ⟨sI, mI, acc, ns, l1, l2, l3, l4⟩ := I
    refine ⟨.ref a, by rw [List.getElem?_set_ne (by decide)]; rfl, .int ((total : Nat) : Int), by rw [List.getElem?_set_ne (by decide)]; rfl, a, Hb, sd, cs, b + 1 + j, ((total : Nat) : Int), rfl, mI, by omega, by omega, by omega, fun n H4 hn sB m4 => ?_⟩
    have hDa := mI.ne l1
    refine ⟨acc, sB _ _ l1 hDa, ?_, ?_, m4.other hbD (fun c o e hc => by rw [upd_ne hc]; exact e), acc ++ [.int (n : Nat)], ns ++ [n], upd_same, by rw [l2]; simp, by simp [l3], fun m hm => ?_⟩
    · refine Nat.lt_trans (m := 5) ?_ (by decide)
      rw [l2, List.length_map, l3]
      exact hj
    · intro c o e hc
      rw [upd_ne (ne_of_none e hD)]
      exact sB _ _ (sI _ _ e hc) hc
    · rcases List.mem_append.mp hm with h | h
      · exact l4 m h
      · rw [List.mem_singleton.mp h]; omega
  obtain ⟨sI, mI, acc, ns, l1, l2, l3, l4⟩ := I
  have I3 := ((I2.turn sI mI).set 2 (by decide) (.dat (.int (way : Nat))) rfl).set 3 (by decide) (.dat (.lst (SqL.of l1) (by rw [l2]; exact nat_dp ns))) rfl
  have sB3 := ((Same.b s1).trans sB2).trans sI
  refine ⟨.int (way : Nat), .ref D, rfl, ?_⟩
  obtain ⟨n0, n1, n2, n3, n4, rfl⟩ : ∃ n0 n1 n2 n3 n4, ns = [n0, n1, n2, n3, n4] := by
    match ns, l3 with
    | [n0, n1, n2, n3, n4], _ => exact ⟨n0, n1, n2, n3, n4, rfl⟩
  have b0 := l4 n0 (by simp)
  have b1 := l4 n1 (by simp)
  have b2 := l4 n2 (by simp)
  have b3 := l4 n3 (by simp)
  have b4 := l4 n4 (by simp)
  -- a condition is drawn
  have cond : ∀ (k : Nat) {b' : Nat} {env : DE} {σ : L2.St} {H : Hp} {G : V → Hp → Prop}, k ≤ 2 → b' < 90000 → DI K w Hb a sd cs env b' σ H → (∀ c ∈ condsOf k, ∀ v' H', SameB a H H' → DI K w Hb a sd cs env (b' + 1) σ H' → Dp K H' v' (.str (Cnd.s c)) → G v' H') →
      tSp (spOf K) (tCons (tVar 0) (tCons (tSp (spCond K) (tCons (tD K w (dC (.str (kindS k)))) tNil)) tNil)) σ H G := by
    intro k b' env σ H G hk hb' I g
    refine ⟨.ref a, I.v0, _, .str (kindS k), I.ev, rfl, fun u H1 s1 r1 => ?_⟩
    cases rp_str r1
    refine ⟨k, rfl, hk, fun v' H2 s2 d2 => ?_⟩
    have s12 := s1.trans s2
    refine ⟨a, Hb, sd, cs, b', v', _, rfl, (I.mono s12).m, hb', d2, ?_, ?_, fun d hd v2 H3 sB m3 dp3 => ?_⟩
    · match k, hk with
      | 0, _ => simp [condsOf]
      | 1, _ => simp [condsOf]
      | 2, _ => simp [condsOf]
    · rw [conds_eq]
      have := extra_len k
      rw [List.length_append]
      show 3 + (extraOf k).length ≤ 100
      omega
    · obtain ⟨c, hc, rfl⟩ := List.mem_map.mp hd
      exact g c hc v2 H3 ((Same.b s12).trans sB) ((I.mono s12).turn sB m3) dp3
  have lt3 : dTest (dBin gLt (dVar 2) (dC (.int 3))) (([none, some (iN total), none, none, none, none].set 2 (some (iN way))).set 3 (some (.list ([n0, n1, n2, n3, n4].map iN)))) = some (decide ((way : Int) < 3)) := rfl
  refine ⟨_, _, I3.ev, lt3, fun H5 s5 => ?_⟩
  have I5 := I3.mono s5
  have sB5 := sB3.trans (Same.b s5)
  by_cases h3 : (way : Int) < 3
  · rw [decide_eq_true h3]
    refine ⟨_, .str "read", I5.ev, rfl, fun u H6 s6 r6 => ?_⟩
    cases rp_str r6
    refine cond 0 (by decide) (by omega) (I5.mono s6) fun c hc v' H7 sB7 I7 dp7 => ⟨(show 2 ≤ sizeLine by decide), fun p hp => ?_⟩
    have sp := same_new (o := .tup [.str "read", v']) hp
    refine ⟨_, .tuple ([n0, n1, n2, n3, n4].map iN), (I7.mono sp).ev, rfl, fun u8 H8 s8 r8 => ?_⟩
    refine cat_use (ds := [.str "read", .str c.s]) (.tup (SqT.of (s8 _ _ upd_same)) (.cons (.str _) (.cons (dp_mono (sp.trans s8) _ _ dp7) .nil))) (r8.dp rfl) (by simp) (by simp) (by simp) fun pp H9 s9 d9 => ?_
    refine q (.read c n0 n1 n2 n3 n4) _ H9 ?_ (((sB5.trans (Same.b s6)).trans sB7).trans (Same.b ((sp.trans s8).trans s9))) ((I7.mono ((sp.trans s8).trans s9)).m.le (by omega)) d9
    simp only [condsOf, List.mem_cons, List.not_mem_nil, or_false] at hc
    rcases hc with rfl | rfl | rfl | rfl <;> simp [Stp.ok, Stp.nexts, Stp.cOk, b0, b1, b2, b3, b4]
  · rw [decide_eq_false h3]
    have lt6 : dTest (dBin gLt (dVar 2) (dC (.int 6))) (([none, some (iN total), none, none, none, none].set 2 (some (iN way))).set 3 (some (.list ([n0, n1, n2, n3, n4].map iN)))) = some (decide ((way : Int) < 6)) := rfl
    refine ⟨_, _, I5.ev, lt6, fun H6 s6 => ?_⟩
    have I6 := I5.mono s6
    have sB6 := sB5.trans (Same.b s6)
    by_cases h6 : (way : Int) < 6
    · rw [decide_eq_true h6]
      refine ⟨.ref a, I6.v0, _, .list [.str "small", .str "great"], I6.ev, rfl, fun u H7 s7 r7 => ?_⟩
      refine ⟨a, Hb, sd, cs, _, u, _, rfl, (I6.mono s7).m, by omega, r7.dp rfl, by simp, by simp, fun d hd v2 H8 sB8 m8 dp8 => ?_⟩
      obtain ⟨z, rfl⟩ : ∃ z, d = .str (sizeS z) := by
        simp only [List.mem_cons, List.not_mem_nil, or_false] at hd
        rcases hd with rfl | rfl
        · exact ⟨true, rfl⟩
        · exact ⟨false, rfl⟩
      have I8 := ((I6.mono s7).turn sB8 m8).set 4 (by decide) (.dat dp8) rfl
      cases dp8
      refine ⟨_, .str "put", I8.ev, rfl, fun u9 H9 s9 r9 => ?_⟩
      cases rp_str r9
      refine cond 1 (by decide) (by omega) (I8.mono s9) fun c hc v' H10 sB10 I10 dp10 => ⟨_, .str (sizeS z), I10.ev, rfl, fun u11 H11 s11 r11 => ⟨(show 3 ≤ sizeLine by decide), fun p hp => ?_⟩⟩
      cases rp_str r11
      have sp := same_new (o := .tup [.str "put", v', .str (sizeS z)]) hp
      refine ⟨_, .tuple ([n0, n1, n2].map iN), ((I10.mono s11).mono sp).ev, by kernel_rfl, fun u12 H12 s12 r12 => ?_⟩
      refine cat_use (ds := [.str "put", .str c.s, .str (sizeS z)]) (.tup (SqT.of (s12 _ _ upd_same)) (.cons (.str _) (.cons (dp_mono ((s11.trans sp).trans s12) _ _ dp10) (.cons (.str _) .nil)))) (r12.dp rfl) (by simp) (by simp) (by simp) fun pp H13 s13 d13 => ?_
      have st := ((s11.trans sp).trans s12).trans s13
      refine q (.put c z n0 n1 n2) _ H13 ?_ ((((sB6.trans (Same.b s7)).trans sB8).trans (Same.b s9)).trans (sB10.trans (Same.b st))) ((I10.mono st).m.le (by omega)) d13
      simp only [condsOf, List.mem_cons, List.not_mem_nil, or_false] at hc
      rcases hc with rfl | rfl | rfl | rfl | rfl <;> simp [Stp.ok, Stp.nexts, Stp.cOk, b0, b1, b2]
    · rw [decide_eq_false h6]
      have eq6 : dTest (dBin gEq (dVar 2) (dC (.int 6))) (([none, some (iN total), none, none, none, none].set 2 (some (iN way))).set 3 (some (.list ([n0, n1, n2, n3, n4].map iN)))) = some (decide ((way : Int) = 6)) := by kernel_rfl
      refine ⟨_, _, I6.ev, eq6, fun H7 s7 => ?_⟩
      have I7 := I6.mono s7
      have sB7 := sB6.trans (Same.b s7)
      by_cases h6 : (way : Int) = 6
      · rw [decide_eq_true h6]
        refine ⟨_, .str "take", I7.ev, rfl, fun u H8 s8 r8 => ?_⟩
        cases rp_str r8
        refine cond 2 (by decide) (by omega) (I7.mono s8) fun c hc v' H9 sB9 I9 dp9 => ⟨(show 2 ≤ sizeLine by decide), fun p hp => ?_⟩
        have sp := same_new (o := .tup [.str "take", v']) hp
        refine ⟨_, .tuple ([n0, n1, n2, n3].map iN), (I9.mono sp).ev, by kernel_rfl, fun u10 H10 s10 r10 => ?_⟩
        refine cat_use (ds := [.str "take", .str c.s]) (.tup (SqT.of (s10 _ _ upd_same)) (.cons (.str _) (.cons (dp_mono (sp.trans s10) _ _ dp9) .nil))) (r10.dp rfl) (by simp) (by simp) (by simp) fun pp H11 s11 d11 => ?_
        have st := (sp.trans s10).trans s11
        refine q (.take c n0 n1 n2 n3) _ H11 ?_ ((sB7.trans (Same.b s8)).trans (sB9.trans (Same.b st))) ((I9.mono st).m.le (by omega)) d11
        simp only [condsOf, List.mem_cons, List.not_mem_nil, or_false] at hc
        rcases hc with rfl | rfl | rfl | rfl <;> simp [Stp.ok, Stp.nexts, Stp.cOk, b0, b1, b2, b3]
      · rw [decide_eq_false h6]
        have eq7 : dTest (dBin gEq (dVar 2) (dC (.int 7))) (([none, some (iN total), none, none, none, none].set 2 (some (iN way))).set 3 (some (.list ([n0, n1, n2, n3, n4].map iN)))) = some (decide ((way : Int) = 7)) := by kernel_rfl
        refine ⟨_, _, I7.ev, eq7, fun H8 s8 => ?_⟩
        have I8 := I7.mono s8
        have sB8 := sB7.trans (Same.b s8)
        by_cases h7 : (way : Int) = 7
        · rw [decide_eq_true h7]
          refine ⟨_, .str "forget", I8.ev, rfl, fun u9 H9 s9 r9 => ⟨_, iN n0, (I8.mono s9).ev, by kernel_rfl, fun u10 H10 s10 r10 => ⟨(show 2 ≤ sizeLine by decide), fun p hp => ?_⟩⟩⟩
          cases rp_str r9
          have sp := same_new (o := .tup [.str "forget", u10]) hp
          have st := (s9.trans s10).trans sp
          refine q (.forget n0) _ _ ?_ (sB8.trans (Same.b st)) ((I8.mono st).m.le (by omega)) (.tup (SqT.of upd_same) (.cons (.str _) (.cons (dp_mono sp _ _ (r10.dp rfl)) .nil)))
          simp [Stp.ok, Stp.nexts, Stp.cOk, b0]
        · rw [decide_eq_false h7]
          refine ⟨_, .str "end", I8.ev, rfl, fun u9 H9 s9 r9 => ⟨.ref a, I8.v0, _, .list [.str "yes", .str "no", .str "open"], (I8.mono s9).ev, rfl, fun u10 H10 s10 r10 => ?_⟩⟩
          cases rp_str r9
          refine ⟨a, Hb, sd, cs, _, u10, _, rfl, (I8.mono (s9.trans s10)).m, by omega, r10.dp rfl, by simp, by simp, fun d hd v2 H11 sB11 m11 dp11 => ⟨(show 2 ≤ sizeLine by decide), fun p hp => ?_⟩⟩
          have sp := same_new (o := .tup [.str "end", v2]) hp
          obtain ⟨wd, rfl⟩ : ∃ wd : Wd, d = .str wd.s := by
            simp only [List.mem_cons, List.not_mem_nil, or_false] at hd
            rcases hd with rfl | rfl | rfl
            · exact ⟨.yes, rfl⟩
            · exact ⟨.no, rfl⟩
            · exact ⟨.open_, rfl⟩
          exact q (.fin wd) _ _ rfl ((sB8.trans (Same.b (s9.trans s10))).trans (sB11.trans (Same.b sp))) ((m11.mono sp).le (by omega)) (.tup (SqT.of upd_same) (.cons (.str _) (.cons (dp_mono sp _ _ dp11) .nil)))
end
end Dn
set_option Elab.async false
set_option linter.all false
set_option maxRecDepth 100000
set_option maxHeartbeats 4000000
namespace Dn
open PySem PySem.Spec L2 PyProof.Rows
theorem dpAll_set {K : PySem.W.Frag} {H : Hp} {v : V} {d : PyData} : ∀ {vs : List V} {ds : List PyData} (i : Nat), DpAll K H vs ds → Dp K H v d → DpAll K H (vs.set i v) (ds.set i d)
  | _, _, _, .nil, _ => .nil
  | _, _, 0, .cons h t, hd => .cons hd t
  | _, _, i + 1, .cons h t, hd => .cons h (dpAll_set i t hd)
def spSteps (K : PySem.W.Frag) : Sp := fun vs H Q _ => ∃ a Hb sd cs b most, vs = [.ref a, .int ((most : Nat) : Int)] ∧ Mst K Hb H a sd cs b ∧ b < 70000 ∧ 1 ≤ most ∧ most ≤ 8 ∧ ∀ steps v' H', 1 ≤ steps.length → steps.length ≤ most → scrOk steps → SameB a H H' → Mst K Hb H' a sd cs (b + 100) → Dp K H' v' (stD steps) → Q v' H'
abbrev nSteps : List Str := ["_law_m", "_law_most", "_law_total", "_law_found", "_law_k"]
section
variable {P : Program} {w : World} {K : PySem.W.Frag} {mg : Str → Option Value} {base : Heap}
theorem sc_any_steps : FnScope nSteps ["_law_m", "_law_most"] (defScope st__law_any_steps) := ⟨rfl, rfl, rfl, by decide +kernel, rfl, by decide +kernel, by decide +kernel⟩
theorem ok_any_steps (T : Tx w K mg) : SOk P w K mg base 4 "_law_any_steps" 2 (spSteps K) := by
  refine sok_of 2 rfl T.g__law_any_steps sc_any_steps (fun vs H Q E ⟨a, Hb, sd, cs, b, most, e, _⟩ => by rw [e]; rfl) fun cd A outer s H0 E fa hr => ?_
  refine ⟨_, pss_cons (ps_set (i := 2) sc_any_steps.nd rfl (Or.inr rfl) (pe_op op_add pe_int (p_call (ok_drawM T) (hr.mono (by decide)) (pa_cons (pv 0) (pa_cons (pv 1) pa_nil)))))
    (pss_cons (ps_setLc (i := 3) (own := [("_law_k", 4)]) rfl sc_any_steps.nd rfl rfl (sw_true rfl rfl rfl rfl) (pi_range1 rfl T.b_range (pa_cons (pv 2) pa_nil)) (blkOk_by (N := nSteps) (sc := defScope st__law_any_steps) (by decide +kernel)) (fun _ _ _ _ _ => pg_name (i := 4) sc_any_steps.nd rfl (Or.inl rfl)) (fun _ _ _ _ _ => pts_nil)
        (fun _ _ _ _ _ => p_call (ok_any_step T) hr (pa_cons (pv 0) (pa_cons (pv 2) pa_nil))))
    (pss_cons (ps_if (pt_cmpR op_gt (p_call (ok_drawM T) (hr.mono (by decide)) (pa_cons (pv 0) (pa_cons d_int pa_nil))) d_int (by rfl))
        (pss_one (ps_asg (pe_tup (pa_cons d_str (pa_cons (p_call (ok_of T) (hr.mono (by decide)) (pa_cons (pv 0) (pa_cons (d_lst (a_cons d_str (a_cons d_str (a_cons d_str a_nil)))) pa_nil))) pa_nil))) (pg_sub (pv 3) (d_neg d_int) set_list))) pss_nil)
    (pss_one (ps_ret (d_callTy b_tuple T.b_tuple (by decide +kernel) (a_cons (d_var 3) a_nil)))))), ?_⟩
  rintro vs H0 Q E ⟨a, Hb, sd, cs, b, most, rfl, hM, hb, hm1, hm8, q⟩
  refine ⟨.ref a, rfl, .int ((most : Nat) : Int), rfl, a, Hb, sd, cs, b, ((most : Nat) : Int), rfl, hM, by omega, by omega, by omega, fun n H1 hn sB1 m1 => ⟨1, (n : Nat), rfl, rfl, ?_⟩⟩
  obtain ⟨total, ht⟩ : ∃ total : Nat, (1 : Int) + (n : Nat) = (total : Nat) := ⟨1 + n, by push_cast; rfl⟩
  have ht1 : 1 ≤ total := by omega
  have htm : total ≤ most := by omega
  show gName 2 (V.int ((1 : Int) + (n : Nat))) _ _ _
  rw [ht]
  refine ⟨.int (total : Nat), rfl, (total : Nat), rfl, by omega, by omega, fun D hD => ?_⟩
  have hbD := m1.fresh hD
  have e0 : ((total : Nat) : Int).toNat = total := Int.toNat_natCast total
  rw [e0]
  refine lc_range (n := total) (fun j H' => SameB a H1 H' ∧ Mst K Hb H' a sd cs (b + 1 + 8 * j) ∧ ∃ (acc : List V) (sts : List Stp), H' D = some (.lst acc) ∧ DpAll K H' acc (sts.map Stp.d) ∧ sts.length = j ∧ ∀ one ∈ sts, Stp.ok total one = true) ?_ (fun j H' hj I => ⟨by rw [wipe_set (by simp), wipe_wipe], ?_⟩) (fun H' I => ?_)
  · exact ⟨Same.b (same_new hD), (m1.mono (same_new hD)).le (by omega), [], [], upd_same, .nil, rfl, fun n h => (by cases h)⟩
  · obtain ⟨sI, mI, acc, sts, l1, l2, l3, l4⟩ := I
    refine ⟨.ref a, by rw [List.getElem?_set_ne (by decide)]; rfl, .int ((total : Nat) : Int), by rw [List.getElem?_set_ne (by decide)]; rfl, a, Hb, sd, cs, b + 1 + 8 * j, total, rfl, mI, by omega, ht1, by omega, fun one v' H4 hok sB m4 d4 => ?_⟩
    have hDa := mI.ne l1
    have l1' := sB _ _ l1 hDa
    have hal : acc.length = j := by rw [dpAll_length l2, List.length_map]; exact l3
    have sT : SameT H4 (upd H4 D (.lst (acc ++ [v']))) := sameT_upd l1'
    have l2' := dpAll_sameD (mI.d sB) _ _ l2
    refine ⟨acc, l1', by rw [hal]; exact Nat.lt_trans (m := 8) (by omega) (by decide), fun c o e hc => ?_, (m4.other hbD (fun c o e hc => by rw [upd_ne hc]; exact e)).le (by omega), acc ++ [v'], sts ++ [one], upd_same, ?_, by simp [l3], fun x hx => ?_⟩
    · rw [upd_ne (ne_of_none e hD)]
      exact sB _ _ (sI _ _ e hc) hc
    · rw [List.map_append]
      exact dpAll_append (dpAll_sameT sT _ _ (stps_noL _) l2') (.cons (dp_sameT sT _ _ (stp_noL _) d4) .nil)
    · rcases List.mem_append.mp hx with h | h
      · exact l4 x h
      · rw [List.mem_singleton.mp h]; exact hok
  obtain ⟨sI, mI, acc, sts, l1, l2, l3, l4⟩ := I
  have sB' := sB1.trans sI
  have fin : ∀ (sts' : List Stp) (H2 : Hp) (acc' : List V), sts'.length = total → (∀ one ∈ sts', Stp.ok total one = true) → SameB a H0 H2 → Mst K Hb H2 a sd cs (b + 100) → H2 D = some (.lst acc') → DpAll K H2 acc' (sts'.map Stp.d) →
      tRet (tD K w (dApp gTupleA (dConsA (dVar 3) dNilA))) { nx := fun _ H' => Q .non H', rt := Q } (((L2.start nSteps [V.ref a, V.int ((most : Nat) : Int)]).set 2 (some (.int (total : Nat)))).set 3 (some (.ref D))) H2 := by
    intro sts' H2 acc' h1 h2 h3 h4 h5 h6
    have E2 : EnvOk K w H2 (((L2.start nSteps [V.ref a, V.int ((most : Nat) : Int)]).set 2 (some (.int (total : Nat)))).set 3 (some (.ref D))) [none, none, none, some (.list (sts'.map Stp.d)), none] := by
      refine ⟨rfl, fun i d h => ?_⟩
      match i, h with
      | 0, h => cases h
      | 1, h => cases h
      | 2, h => cases h
      | 3, h => cases h; exact ⟨_, rfl, .dat (.lst (SqL.of h5) h6)⟩
      | 4, h => cases h
      | n + 5, h => cases h
    refine ⟨_, stD sts', E2, rfl, fun v' H3 s3 r3 => q sts' v' H3 (by omega) (by omega) (by rw [← h1] at h2; exact h2) (h3.trans (Same.b s3)) (h4.mono s3) (r3.dp rfl)⟩
  have E1 : EnvOk K w H' (((L2.start nSteps [V.ref a, V.int ((most : Nat) : Int)]).set 2 (some (.int (total : Nat)))).set 3 (some (.ref D))) [none, none, none, none, none] := by
    refine ⟨rfl, fun i d h => ?_⟩
    match i, h with
    | 0, h => cases h
    | 1, h => cases h
    | 2, h => cases h
    | 3, h => cases h
    | 4, h => cases h
    | n + 5, h => cases h
  refine ⟨.ref a, rfl, _, .int 4, E1, rfl, fun u4 H2 s2 r2 => ?_⟩
  cases rp_int r2
  refine ⟨a, Hb, sd, cs, _, 4, rfl, mI.mono s2, by omega, by decide, by decide, fun n2 H3 hn2 sB3 m3 => ⟨_, .int 0, (E1.mono s2).monoD ((mI.mono s2).d sB3) (fun i d h => ?_), rfl, fun u0 H4 s4 r4 => ?_⟩⟩
  · match i, h with
    | 0, h => cases h
    | 1, h => cases h
    | 2, h => cases h
    | 3, h => cases h
    | 4, h => cases h
    | n + 5, h => cases h
  cases rp_int r4
  have sB4 := ((Same.b s2).trans sB3).trans (Same.b s4)
  have m4 := m3.mono s4
  have l1' := sB4 _ _ l1 (mI.ne l1)
  have l2' := dpAll_sameD (mI.d sB4) _ _ l2
  refine ⟨(n2 : Nat), 0, rfl, rfl, _, rfl, ?_⟩
  by_cases hp : (0 : Int) < (n2 : Nat)
  · rw [decide_eq_true hp]
    have E4 : EnvOk K w H4 (((L2.start nSteps [V.ref a, V.int ((most : Nat) : Int)]).set 2 (some (.int (total : Nat)))).set 3 (some (.ref D))) [none, none, none, none, none] := E1.monoD (mI.d sB4) (fun i d h => by
      match i, h with
      | 0, h => cases h
      | 1, h => cases h
      | 2, h => cases h
      | 3, h => cases h
      | 4, h => cases h
      | n + 5, h => cases h)
    refine ⟨_, .str "end", E4, rfl, fun u5 H5 s5 r5 => ⟨.ref a, rfl, _, .list [.str "yes", .str "no", .str "open"], E4.mono s5, rfl, fun u6 H6 s6 r6 => ?_⟩⟩
    cases rp_str r5
    have s56 := s5.trans s6
    refine ⟨a, Hb, sd, cs, _, u6, _, rfl, m4.mono s56, by omega, r6.dp rfl, by simp, by simp, fun d hd v2 H7 sB7 m7 dp7 => ⟨(show 2 ≤ sizeLine by decide), fun p hp' => ?_⟩⟩
    have sp := same_new (o := .tup [.str "end", v2]) hp'
    obtain ⟨wd, rfl⟩ : ∃ wd : Wd, d = .str wd.s := by
      simp only [List.mem_cons, List.not_mem_nil, or_false] at hd
      rcases hd with rfl | rfl | rfl
      · exact ⟨.yes, rfl⟩
      · exact ⟨.no, rfl⟩
      · exact ⟨.open_, rfl⟩
    have sB5 := ((Same.b s56).trans sB7).trans (Same.b sp)
    have l1'' := sB5 _ _ l1' (mI.ne l1)
    have l2'' := dpAll_sameD (m4.d sB5) _ _ l2'
    have hal : acc.length = total := by rw [dpAll_length l2, List.length_map]; exact l3
    have E6 : EnvOk K w (upd H7 p (.tup [.str "end", v2])) (((L2.start nSteps [V.ref a, V.int ((most : Nat) : Int)]).set 2 (some (.int (total : Nat)))).set 3 (some (.ref D))) [none, none, none, none, none] := E4.monoD (m4.d sB5) (fun i d h => by
      match i, h with
      | 0, h => cases h
      | 1, h => cases h
      | 2, h => cases h
      | 3, h => cases h
      | 4, h => cases h
      | n + 5, h => cases h)
    refine ⟨.ref D, rfl, _, .int (-1), E6, rfl, fun un H8 s8 r8 => ?_⟩
    cases rp_int r8
    refine ⟨D, acc, -1, total - 1, rfl, rfl, s8 _ _ l1'', ?_, ?_⟩
    · rw [hal]
      unfold ixN
      rw [if_neg (by omega), if_pos (by omega)]
      congr 1
      omega
    have sB8 := sB5.trans (Same.b s8)
    have m8 := (m7.mono sp).mono s8
    have sT : SameT H8 (upd H8 D (.lst (acc.set (total - 1) (.ref p)))) := sameT_upd (s8 _ _ l1'')
    refine fin (sts.set (total - 1) (.fin wd)) _ _ (by rw [List.length_set]; exact l3) (fun x hx => ?_) ?_ ((m8.other hbD (fun c o e hc => by rw [upd_ne hc]; exact e)).le (by omega)) upd_same ?_
    · rcases List.mem_or_eq_of_mem_set hx with h | h
      · exact l4 x h
      · rw [h]; rfl
    · intro c o e hc
      rw [upd_ne (fun hcD => by
        subst hcD
        have := sB1 _ _ e hc
        rw [hD] at this
        cases this)]
      exact sB8 _ _ (sB4 _ _ (sB' _ _ e hc) hc) hc
    · rw [List.map_set]
      exact dpAll_set _ (dpAll_sameT sT _ _ (stps_noL _) (dpAll_mono s8 _ _ l2'')) (dp_sameT sT _ _ (stp_noL (.fin wd)) (dp_mono s8 _ _ (.tup (SqT.of upd_same) (.cons (.str _) (.cons (dp_mono sp _ _ dp7) .nil)))))
  · rw [decide_eq_false hp]
    exact fin sts H4 acc l3 l4 (sB'.trans sB4) (m4.le (by omega)) l1' l2'
end
end Dn
set_option Elab.async false
set_option linter.all false
set_option maxRecDepth 100000
set_option maxHeartbeats 4000000
namespace Dn
open PySem PySem.Spec L2 PyProof.Rows
/-! ### any_others -/
def selS (l : List (Bool × Str)) : List Str := l.flatMap fun p => oneIf p.1 p.2
def actsS : List Str := ["great", "small", "take"]
theorem sel_len : ∀ l : List (Bool × Str), (selS l).length ≤ l.length
  | [] => Nat.le_refl _
  | p :: r => by
    have ih := sel_len r
    have e : selS (p :: r) = oneIf p.1 p.2 ++ selS r := rfl
    have h1 : (oneIf p.1 p.2).length ≤ 1 := by
      obtain ⟨b, x⟩ := p
      cases b <;> simp [oneIf]
    rw [e, List.length_append, List.length_cons]
    omega
theorem sel_three : ∀ l : List (Bool × Str), l.map (·.2) = actsS.take 3 → ∃ b0 b1 b2 : Bool, l = [(b0, ("great" : Str)), (b1, ("small" : Str)), (b2, ("take" : Str))]
  | [], h => by cases h
  | [_], h => absurd (congrArg List.length h) (by simp [actsS])
  | [_, _], h => absurd (congrArg List.length h) (by simp [actsS])
  | _ :: _ :: _ :: _ :: _, h => absurd (congrArg List.length h) (by simp [actsS])
  | [(b0, x0), (b1, x1), (b2, x2)], h => by
    have h : [x0, x1, x2] = [("great" : Str), ("small" : Str), ("take" : Str)] := h
    have h0 := (List.cons.inj h).1
    have h1 := (List.cons.inj (List.cons.inj h).2).1
    have h2 := (List.cons.inj (List.cons.inj (List.cons.inj h).2).2).1
    subst h0 h1 h2
    exact ⟨b0, b1, b2, rfl⟩
def spOthers (K : PySem.W.Frag) : Sp := fun vs H Q _ => ∃ a Hb sd cs b, vs = [.ref a] ∧ Mst K Hb H a sd cs b ∧ b < 80000 ∧ ∀ o v' H', SameB a H H' → Mst K Hb H' a sd cs (b + 3) → Dp K H' v' (Oth.d o) → Q v' H'
abbrev nOth : List Str := ["_law_m", "_law_act"]
section
variable {P : Program} {w : World} {K : PySem.W.Frag} {mg : Str → Option Value} {base : Heap}
theorem sc_any_others : FnScope nOth ["_law_m"] (defScope st__law_any_others) := ⟨rfl, rfl, rfl, by decide +kernel, rfl, by decide +kernel, by decide +kernel⟩
theorem ok_any_others (T : Tx w K mg) : SOk P w K mg base 2 "_law_any_others" 1 (spOthers K) := by
  refine sok_of 1 rfl T.g__law_any_others sc_any_others (fun vs H Q E ⟨a, Hb, sd, cs, b, e, _⟩ => by rw [e]; rfl) fun cd A outer s H0 E fa hr => ?_
  refine ⟨_, pss_one (ps_ret (pe_callTy call_tuple_of (by rfl) T.b_tuple (by rfl) (pa_cons (pe_lc (own := [("_law_act", 1)]) rfl sc_any_others.nd (pi_tup (d_tup (a_cons d_str (a_cons d_str (a_cons d_str a_nil))))) (blkOk_by (N := nOth) (sc := defScope st__law_any_others) (by decide +kernel)) (fun _ _ _ _ _ => pg_name (i := 1) sc_any_others.nd rfl (Or.inl rfl))
      (fun _ _ _ _ _ => pts_one (pt_cmpR op_gt (p_call (ok_drawM T) hr (pa_cons (pv 0) (pa_cons pe_int pa_nil))) pe_int (by rfl))) (fun _ _ _ _ _ => pv 1)) pa_nil))), ?_⟩
  rintro vs H0 Q E ⟨a, Hb, sd, cs, b, rfl, hM, hb, q⟩
  have E0 : EnvOk K w H0 (L2.start nOth [.ref a]) [none, none] := ⟨rfl, fun i d h => by
    match i, h with
    | 0, h => cases h
    | 1, h => cases h
    | n + 2, h => cases h⟩
  refine ⟨_, .tuple (actsS.map .str), E0, by kernel_rfl, fun vt H1 s1 r1 => ?_⟩
  obtain ⟨ta, xs, rfl, k1, k2⟩ := rp_tup r1
  refine ⟨ta, rfl, ⟨xs, k1⟩, fun D hD => ?_⟩
  have m1 := hM.mono s1
  have hbD := m1.fresh hD
  have hTD : ta ≠ D ∨ True := .inr trivial
  refine lc_tup (xs := xs) (fun j H' => SameB a H1 H' ∧ Mst K Hb H' a sd cs (b + j) ∧ ∃ (acc : List V) (l : List (Bool × Str)), H' D = some (.lst acc) ∧ acc = (selS l).map V.str ∧ l.map (·.2) = actsS.take j) ⟨Same.b (same_new hD), m1.mono (same_new hD), [], [], upd_same, rfl, rfl⟩
    (fun j H' _ I => ?_) (fun j y H' hj I => ⟨by rw [wipe_set (by simp), wipe_wipe], ?_⟩) (fun H' I => ?_)
  · obtain ⟨kvs, hk⟩ := m1.dk
    exact sqT_sameD (I.1.d hk) k1
  · obtain ⟨sI, mI, acc, l, l1, l2, l3⟩ := I
    obtain ⟨x, hx, hdx⟩ := dpAll_at (f := PyData.str) (l := actsS) k2 hj
    cases hdx
    have hj3 : j < 3 := (List.getElem?_eq_some_iff.mp hx).1
    refine ⟨.ref a, by rw [List.getElem?_set_ne (by decide)]; rfl, a, Hb, sd, cs, b + j, 3, rfl, mI, by omega, by decide, by decide, fun n H4 hn sB m4 => ⟨(n : Nat), 0, rfl, rfl, _, rfl, ?_⟩⟩
    have l1' := sB _ _ l1 (mI.ne l1)
    have htk : actsS.take (j + 1) = actsS.take j ++ [x] := by rw [List.take_add_one, hx]; rfl
    by_cases hp : (0 : Int) < (n : Nat)
    · rw [decide_eq_true hp]
      refine ⟨.str x, get_set (by rw [L2.wipe_length]; show 1 < 2; decide), acc, l1', ?_, fun c o e hc => ?_, (m4.other hbD (fun c o e hc => by rw [upd_ne hc]; exact e)).le (by omega), acc ++ [.str x], l ++ [(true, x)], upd_same, ?_, ?_⟩
      · have hll : l.length = j := by
          have := congrArg List.length l3
          rw [List.length_map, List.length_take] at this
          rw [this]
          exact Nat.min_eq_left (by show j ≤ 3; omega)
        have hs := sel_len l
        rw [l2, List.length_map]
        exact Nat.lt_of_le_of_lt hs (by rw [hll]; exact Nat.lt_trans hj3 (by decide))
      · rw [upd_ne (ne_of_none e hD)]
        exact sB _ _ (sI _ _ e hc) hc
      · rw [l2]
        unfold selS
        rw [List.flatMap_append]
        simp [oneIf]
      · rw [List.map_append, l3, htk]
        rfl
    · rw [decide_eq_false hp]
      refine ⟨sI.trans sB, m4.le (by omega), acc, l ++ [(false, x)], l1', ?_, ?_⟩
      · rw [l2]
        unfold selS
        rw [List.flatMap_append]
        simp [oneIf]
      · rw [List.map_append, l3, htk]
        rfl
  · obtain ⟨sI, mI, acc, l, l1, l2, l3⟩ := I
    have hx : xs.length = 3 := by rw [dpAll_length k2]; rfl
    rw [hx] at l3 mI
    obtain ⟨b0, b1, b2, rfl⟩ := sel_three l l3
    refine ⟨D, acc, rfl, .inl ⟨SqL.of l1, fun p hp => ?_⟩⟩
    have sp := same_new (o := .tup acc) hp
    refine q ⟨b0, b1, b2⟩ _ _ (((Same.b s1).trans sI).trans (Same.b sp)) (mI.mono sp) (.tup (SqT.of upd_same) ?_)
    rw [l2]
    cases b0 <;> cases b1 <;> cases b2 <;> first | exact .nil | exact .cons (.str _) .nil | exact .cons (.str _) (.cons (.str _) .nil) | exact .cons (.str _) (.cons (.str _) (.cons (.str _) .nil))
end
end Dn
set_option Elab.async false
set_option linter.all false
set_option maxRecDepth 100000
set_option maxHeartbeats 4000000
namespace Dn
open PySem PySem.Spec L2 PyProof.Rows
/-! ### begun -/
theorem cut_map (ns : List Int) (lo hi : Option Int) : ∃ ys : List Int, cutD (ns.map PyData.int) lo hi = ys.map .int ∧ ys.length ≤ ns.length := by
  unfold cutD
  rw [← List.map_drop, ← List.map_take]
  refine ⟨_, rfl, ?_⟩
  rw [List.length_take, List.length_drop]
  omega
theorem ints_dp {K : PySem.W.Frag} {H : Hp} : ∀ ns : List Int, DpAll K H (ns.map V.int) (ns.map PyData.int)
  | [] => .nil
  | n :: r => .cons (.int _) (ints_dp r)
theorem ints_of {K : PySem.W.Frag} {H : Hp} : ∀ {xs : List V} {ns : List Int}, DpAll K H xs (ns.map PyData.int) → xs = ns.map V.int
  | [], [], _ => rfl
  | [], _ :: _, h => by cases h
  | _ :: _, [], h => by cases h
  | x :: xs, n :: ns, h => by
    cases h with
    | cons h1 h2 =>
      cases h1
      rw [ints_of h2]
      rfl
theorem lay_ints : ∀ l : List Int, PyData.canLayAll0 (l.map .int) = true ∧ PyData.depthAll (l.map .int) = 0
  | [] => ⟨rfl, rfl⟩
  | x :: r => by
    have ih := lay_ints r
    refine ⟨?_, ?_⟩
    · show (true && PyData.canLayAll0 (r.map .int)) = true
      rw [ih.1]
      rfl
    · show max 0 (PyData.depthAll (r.map .int)) = 0
      rw [ih.2]
      rfl
theorem shaped_ints (l : List Int) : SeqAt.shaped (.list (l.map .int)) = true := by
  unfold SeqAt.shaped
  rw [show PyData.canLay0 (.list (l.map .int)) = PyData.canLayAll0 (l.map .int) from rfl, (lay_ints l).1, show PyData.depth (.list (l.map .int)) = PyData.depthAll (l.map .int) + 1 from rfl, (lay_ints l).2]
  rfl
theorem e_ne_ints {fa fb : DF} {env : DE} (l : List Int) (ha : fa env = some (.list (l.map .int))) (hb : fb env = some (.list [])) : dBin gNe fa fb env = some (.bool (!l.isEmpty)) := by
  refine x_bin ha hb ?_
  unfold gNe eqD?
  have e1 : scalD (.list (l.map .int)) (.list []) = false := rfl
  have e2 : SeqAt.shaped (.list []) = true := shaped_ints []
  rw [e1, shaped_ints l, e2]
  cases l with
  | nil => rfl
  | cons b l => rfl
theorem evalAll_cons {x : Str} {f : DF} {r : List (Str × DF)} {env : DE} {d : PyData} {kl : Kl} (h : f env = some d) (hd : isDat d = true) (hr : evalAll r env = some kl) : evalAll ((x, f) :: r) env = some ((x, d) :: kl) := by
  show ((f env).bind fun d => if isDat d = true then (evalAll r env).map ((x, d) :: ·) else none) = _
  rw [h, Option.bind_some, if_pos hd, hr]
  rfl
def spBegun (K : PySem.W.Frag) : Sp := fun vs H Q _ => ∃ (sc : Addr) (ns : List Int) (k : Nat), vs = [.ref sc, .int ((k : Nat) : Int)] ∧ SqL K H sc (ns.map V.int) ∧ ns.length ≤ 100 ∧ k ≤ 100 ∧ ∀ a sd cs H', Same H H' → H a = none → Mst K H' H' a sd cs 0 → Q (.ref a) H'
abbrev nBeg : List Str := ["_law_script", "_law_k", "_law_cells", "_law_great", "_law_seed", "_law_cell"]
section
variable {P : Program} {w : World} {K : PySem.W.Frag} {mg : Str → Option Value} {base : Heap}
theorem sc_begun : FnScope nBeg ["_law_script", "_law_k"] (defScope st__law_begun) := ⟨rfl, rfl, rfl, by decide +kernel, rfl, by decide +kernel, by decide +kernel⟩
theorem ok_begun (T : Tx w K mg) : SOk P w K mg base 1 "_law_begun" 2 (spBegun K) := by
  refine sok_of 2 rfl T.g__law_begun sc_begun (fun vs H Q E ⟨sc, ns, k, e, _⟩ => by rw [e]; rfl) fun cd A outer s H0 E fa hr => ?_
  have hu := hr.units
  have hu1 : (A.deeper (envOfC "_law_begun" (defScope st__law_begun) s.heap.objs.size fa cd)).units + 1 < cLine := Nat.lt_of_le_of_lt (Nat.add_le_add_left (by decide) _) hu
  refine ⟨_, pss_cons (ps_set (i := 2) sc_begun.nd rfl (Or.inl rfl) (d_addL (d_slice (d_var 0) (o_some (d_var 1)) o_none) (d_slice (d_var 0) o_none (o_some (d_var 1)))))
    (pss_cons (ps_setLc (i := 3) (own := [("_law_cell", 5)]) rfl sc_begun.nd rfl rfl (sw_true rfl rfl rfl rfl) (pi_list (pv 2)) (blkOk_by (N := nBeg) (sc := defScope st__law_begun) (by decide +kernel)) (fun _ _ _ _ _ => pg_name (i := 5) sc_begun.nd rfl (Or.inl rfl))
        (fun _ _ _ _ _ => pts_one (pt_cmpR op_ge (pv 5) (pe_op op_pow pe_int pe_int) (by rfl))) (fun _ _ _ _ _ => pv 5))
    (pss_cons (ps_set (i := 4) sc_begun.nd rfl (Or.inl rfl) (d_add d_int (d_var 1)))
    (pss_cons (ps_for PassesOwn.never rfl (pi_list (pv 2)) (pg_name (i := 5) sc_begun.nd rfl (Or.inl rfl)) (pss_one (ps_set (i := 4) sc_begun.nd rfl (Or.inl rfl) (d_mod (d_callTy b_int T.b_int (by decide +kernel) (a_cons (d_add (d_mul (d_var 4) d_int) (d_var 5)) a_nil)) d_int))))
    (pss_one (ps_ret (pe_dispS [("left", dIf (dTest (dBin gNe (dVar 3) (dLst dNilA))) (dBin gIxD (dVar 3) (dC (.int 0))) (dC (.int 0))), ("seed", dVar 4), ("cells", dBin gAddL (dVar 2) (dLst (dConsA (dBin gAdd (dBin gMul (dC (.int 31)) (dVar 1)) (dC (.int 5))) dNilA))), ("spot", dC (.int 0))]
      (pps_cons pe_str (d_if (t_cmp (c_ne hu) (d_var 3) (d_lst a_nil) (by rfl)) (d_ix hu1 (d_var 3) d_int) d_int) (pps_cons pe_str (d_var 4) (pps_cons pe_str (d_addL (d_var 2) (d_lst (a_cons (d_add (d_mul d_int (d_var 1)) d_int) a_nil))) (pps_cons pe_str d_int pps_nil)))) rfl rfl (by decide) (by decide))))))), ?_⟩
  rintro vs H0 Q E ⟨sc, ns, k, rfl, hsc, hns, hk, q⟩
  have E0 : EnvOk K w H0 (L2.start nBeg [.ref sc, .int ((k : Nat) : Int)]) [some (.list (ns.map .int)), some (iN k), none, none, none, none] := start_ok (Ns := nBeg) (.cons (.dat (.lst hsc (ints_dp ns))) (.cons (.dat (.int _)) .nil))
  obtain ⟨ys, hy, ly⟩ := cut_map ns (some ((k : Nat) : Int)) none
  obtain ⟨zs, hz, lz⟩ := cut_map ns none (some ((k : Nat) : Int))
  have hc0 : dBin gAddL (dSlice (dVar 0) (oSome (dVar 1)) oNone) (dSlice (dVar 0) oNone (oSome (dVar 1))) [some (.list (ns.map .int)), some (iN k), none, none, none, none] = some (.list ((ys ++ zs).map .int)) := by
    refine x_bin (a := .list (ys.map .int)) (b := .list (zs.map .int)) ?_ ?_ ?_
    · show gCut (some ((k : Nat) : Int)) none (.list (ns.map .int)) = _
      show some (PyData.list (cutD (ns.map .int) (some ((k : Nat) : Int)) none)) = _
      rw [hy]
    · show some (PyData.list (cutD (ns.map .int) none (some ((k : Nat) : Int)))) = _
      rw [hz]
    · show (if (ys.map PyData.int).length + (zs.map PyData.int).length ≤ 1000000 then some (PyData.list (ys.map .int ++ zs.map .int)) else none) = _
      rw [if_pos (by rw [List.length_map, List.length_map]; omega), List.map_append]
  refine ⟨_, _, E0, hc0, fun v2 H1 s1 r1 => ?_⟩
  have hcl : (ys ++ zs).length ≤ 200 := by rw [List.length_append]; omega
  generalize ys ++ zs = cs at r1 hcl
  obtain ⟨Ca, cv, rfl, c1, c2⟩ := rp_lst r1
  obtain rfl := ints_of c2
  have E1 := (E0.mono s1).set 2 r1
  refine ⟨.ref Ca, rfl, Ca, rfl, ⟨_, c1⟩, fun D hD => ?_⟩
  refine lc_list (xs := cs.map V.int) (fun j H' => Same H1 H' ∧ ∃ gs : List Int, H' D = some (.lst (gs.map V.int)) ∧ gs.length ≤ j) ⟨same_new hD, [], upd_same, Nat.le_refl _⟩ (fun j H' _ I => Same.seq I.1 c1) (fun j y H' hj I => ⟨by rw [wipe_set (by simp), wipe_wipe], ?_⟩) (fun H' I => ?_)
  · obtain ⟨sI, gs, l1, l2⟩ := I
    have hj2 : j < cs.length := by
      have := (List.getElem?_eq_some_iff.mp hj).1
      simpa using this
    obtain ⟨c, rfl⟩ : ∃ c, y = .int c := by
      rw [List.getElem?_map] at hj
      obtain ⟨c, _, rfl⟩ := Option.map_eq_some_iff.mp hj
      exact ⟨c, rfl⟩
    have g5 : ((L2.wipe ((L2.start nBeg [V.ref sc, V.int ((k : Nat) : Int)]).set 2 (some (V.ref Ca))) [5]).set 5 (some (.int c)))[5]? = some (some (.int c)) := get_set (by rw [L2.wipe_length]; show 5 < 6; decide)
    refine ⟨.int c, g5, 10, 18, rfl, rfl, ⟨by decide, by decide, by decide⟩, c, _, rfl, rfl, _, rfl, ?_⟩
    by_cases hp : (10 : Int) ^ (18 : Int).toNat ≤ c
    · rw [decide_eq_true hp]
      refine ⟨.int c, g5, gs.map V.int, l1, ?_, fun a o e => ?_, gs ++ [c], by rw [upd_same]; simp, by rw [List.length_append]; exact Nat.succ_le_succ l2⟩
      · rw [List.length_map]
        exact Nat.lt_of_le_of_lt l2 (Nat.lt_trans (m := 1000) (by omega) (by decide))
      · rw [upd_ne (ne_of_none e hD)]
        exact sI _ _ e
    · rw [decide_eq_false hp]
      exact ⟨sI, gs, l1, Nat.le_succ_of_le l2⟩
  obtain ⟨sI, gs, l1, l2⟩ := I
  have E3 := (E1.mono sI).set 3 (.dat (.lst (SqL.of l1) (ints_dp gs)))
  refine ⟨_, .int (97 + (k : Nat)), E3, rfl, fun v4 H3 s3 r3 => ?_⟩
  cases rp_int r3
  have E4 := (E3.mono s3).set 4 r3
  have s03 := sI.trans s3
  refine ⟨.ref Ca, rfl, Ca, rfl, ⟨_, Same.seq s03 c1⟩, ?_⟩
  refine for_list (xs := cs.map V.int) (fun j σ H => EnvOk K w H σ [some (.list (ns.map .int)), some (iN k), some (.list (cs.map .int)), some (.list (gs.map .int)), none, none] ∧ Same H3 H ∧ ∃ sd : Int, 0 ≤ sd ∧ sd < 2147483647 ∧ σ[4]? = some (some (.int sd)))
    ⟨?_, Same.refl _, _, by omega, by omega, rfl⟩ (fun j σ H _ I => Same.seq (s03.trans I.2.1) c1) (fun j x σ H hj I => ?_) fun σ H I => ?_
  · refine ⟨rfl, fun i d h => ?_⟩
    have : i ≠ 4 := by rintro rfl; cases h
    exact E4.get i d (by rw [← h]; match i with
      | 0 => rfl
      | 1 => rfl
      | 2 => rfl
      | 3 => rfl
      | 4 => exact absurd rfl this
      | 5 => rfl
      | n + 6 => rfl)
  · obtain ⟨E5, s5, sd, d0, d1, g4⟩ := I
    have hsl : σ.length = 6 := E5.len
    obtain ⟨c, rfl⟩ : ∃ c, x = .int c := by
      rw [List.getElem?_map] at hj
      obtain ⟨c, _, rfl⟩ := Option.map_eq_some_iff.mp hj
      exact ⟨c, rfl⟩
    have E6 : EnvOk K w H (σ.set 5 (some (.int c))) [some (.list (ns.map .int)), some (iN k), some (.list (cs.map .int)), some (.list (gs.map .int)), some (.int sd), some (.int c)] := by
      refine ⟨by rw [List.length_set]; exact hsl, fun i d h => ?_⟩
      match i, h with
      | 0, h => cases h; obtain ⟨v, a1, a2⟩ := E5.get 0 _ rfl; exact ⟨v, by rw [List.getElem?_set_ne (by decide)]; exact a1, a2⟩
      | 1, h => cases h; obtain ⟨v, a1, a2⟩ := E5.get 1 _ rfl; exact ⟨v, by rw [List.getElem?_set_ne (by decide)]; exact a1, a2⟩
      | 2, h => cases h; obtain ⟨v, a1, a2⟩ := E5.get 2 _ rfl; exact ⟨v, by rw [List.getElem?_set_ne (by decide)]; exact a1, a2⟩
      | 3, h => cases h; obtain ⟨v, a1, a2⟩ := E5.get 3 _ rfl; exact ⟨v, by rw [List.getElem?_set_ne (by decide)]; exact a1, a2⟩
      | 4, h => cases h; exact ⟨_, by rw [List.getElem?_set_ne (by decide)]; exact g4, .dat (.int _)⟩
      | 5, h => cases h; exact ⟨_, get_set (by rw [hsl]; decide), .dat (.int _)⟩
      | n + 6, h => cases h
    refine ⟨_, .int ((sd * 48271 + c) % 2147483647), E6, v_mod (v_int (x_consA (v_add (v_mulR rfl rfl (by decide)) rfl) x_nilA)) rfl (by decide), fun v7 H7 s7 r7 => ?_⟩
    cases rp_int r7
    refine ⟨⟨by simp [hsl], fun i d h => ?_⟩, s5.trans s7, _, Int.emod_nonneg _ (by decide), Int.emod_lt_of_pos _ (by decide), get_set (by rw [List.length_set, hsl]; decide)⟩
    obtain ⟨v, a1, a2⟩ := E5.get i d h
    have h4 : i ≠ 4 := by rintro rfl; cases h
    have h5 : i ≠ 5 := by rintro rfl; cases h
    exact ⟨v, by rw [List.getElem?_set_ne (Ne.symm h4), List.getElem?_set_ne (Ne.symm h5)]; exact a1, a2.mono s7⟩
  · obtain ⟨E5, s5, sd, d0, d1, g4⟩ := I
    have E6 : EnvOk K w H σ [some (.list (ns.map .int)), some (iN k), some (.list (cs.map .int)), some (.list (gs.map .int)), some (.int sd), none] := by
      refine ⟨E5.len, fun i d h => ?_⟩
      by_cases h4 : i = 4
      · subst h4
        cases h
        exact ⟨_, g4, .dat (.int _)⟩
      · refine E5.get i d (by rw [← h]; match i with
          | 0 => rfl
          | 1 => rfl
          | 2 => rfl
          | 3 => rfl
          | 4 => exact absurd rfl h4
          | 5 => rfl
          | n + 6 => rfl)
    have el : ∃ l : Int, dIf (dTest (dBin gNe (dVar 3) (dLst dNilA))) (dBin gIxD (dVar 3) (dC (.int 0))) (dC (.int 0)) [some (.list (ns.map .int)), some (iN k), some (.list (cs.map .int)), some (.list (gs.map .int)), some (.int sd), none] = some (.int l) := by
      have e := e_ne_ints (fa := dVar 3) (fb := dLst dNilA) (env := [some (.list (ns.map .int)), some (iN k), some (.list (cs.map .int)), some (.list (gs.map .int)), some (.int sd), none]) gs rfl rfl
      cases gs with
      | nil => exact ⟨0, x_ife (x_test e) rfl⟩
      | cons g r => exact ⟨g, x_ife (x_test e) (x_bin rfl rfl (atI_nat (j := 0) rfl))⟩
    obtain ⟨l, el⟩ := el
    have ec : dBin gAddL (dVar 2) (dLst (dConsA (dBin gAdd (dBin gMul (dC (.int 31)) (dVar 1)) (dC (.int 5))) dNilA)) [some (.list (ns.map .int)), some (iN k), some (.list (cs.map .int)), some (.list (gs.map .int)), some (.int sd), none] = some (.list ((cs ++ [(31 * ((k : Nat) : Int) + 5 : Int)]).map .int)) := by
      refine x_bin (a := .list (cs.map .int)) (b := .list [.int (31 * ((k : Nat) : Int) + 5)]) rfl ?_ ?_
      · unfold dLst
        rw [x_consA (d := .int (31 * ((k : Nat) : Int) + 5)) (ds := []) (v_add (v_mulL rfl rfl (by decide)) rfl) x_nilA]
        kernel_rfl
      · show (if (cs.map PyData.int).length + 1 ≤ 1000000 then some (PyData.list (cs.map .int ++ [.int (31 * ((k : Nat) : Int) + 5)])) else none) = _
        rw [if_pos (by rw [List.length_map]; omega), List.map_append]
        rfl
    have ea : evalAll [("left", dIf (dTest (dBin gNe (dVar 3) (dLst dNilA))) (dBin gIxD (dVar 3) (dC (.int 0))) (dC (.int 0))), ("seed", dVar 4), ("cells", dBin gAddL (dVar 2) (dLst (dConsA (dBin gAdd (dBin gMul (dC (.int 31)) (dVar 1)) (dC (.int 5))) dNilA))), ("spot", dC (.int 0))] [some (.list (ns.map .int)), some (iN k), some (.list (cs.map .int)), some (.list (gs.map .int)), some (.int sd), none]
        = some (mkl l sd (cs ++ [(31 * ((k : Nat) : Int) + 5 : Int)]) 0) := by
      exact evalAll_cons el rfl (evalAll_cons rfl rfl (evalAll_cons ec rfl (evalAll_cons rfl rfl rfl)))
    refine ⟨_, _, E6, ea, by show 4 ≤ 15; decide, fun p H9 s9 hp ob => ?_⟩
    have ob : SD K H9 p (mkl l sd (cs ++ [(31 * ((k : Nat) : Int) + 5 : Int)]) 0) := ob
    obtain ⟨kvs, o1, o2⟩ := ob
    obtain ⟨cv, rfl, o3⟩ := kvs_of o2
    refine q p sd (cs ++ [(31 * ((k : Nat) : Int) + 5 : Int)]) H9 (((s1.trans s03).trans s5).trans s9) (same_none ((s1.trans s03).trans s5) hp) ⟨⟨cv, l, 0, ⟨_, o1, o2, by kernel_rfl⟩, o3, ⟨d0, d1, by simp, by simp; omega, Int.le_refl _, by decide⟩, by decide⟩, fun _ _ e _ => e, ⟨_, o1⟩⟩
end
end Dn
set_option Elab.async false
set_option linter.all false
set_option maxRecDepth 100000
set_option maxHeartbeats 4000000
namespace Dn
/-! ### worlds and states -/
def edB (W : Wld) (e : Option Ed) : Prop := ∀ t l s, e = some (t, l, s) → t ≤ W.ids ∧ l ≤ W.ids ∧ s ≤ W.second
structure WG (steps : List Stp) (W : Wld) : Prop where
  step : W.step < steps.length
  late : ∀ n e i, W.late = some (n, e, i) → n < steps.length ∧ (stp steps n).writes = true ∧ i < (W.authors.length : Nat) ∧ edB W e
  au : W.authors ≠ []
  tag : W.tag ≤ W.ids
  look : W.look ≤ W.ids
  stamp : W.stamp ≤ W.second
  copy : edB W W.copy
  was : W.isThere = true → W.wasThere = true
  seen : ∀ n, W.seen = some n → n + 1 ≤ W.authors.length
theorem iEq_self (a : Nat) : iEq a a = true := decide_eq_true rfl
theorem iEq_ne {a b : Nat} (h : a ≠ b) : iEq a b = false := by rw [iEq_eq]; exact decide_eq_false h
theorem isThere_srv (W : Wld) : (wServer W).isThere = W.isThere := by
  unfold wServer
  cases W.isThere <;> cases W.wasThere <;> cases iEq W.stamp W.second <;> rfl
/-- a copy's standing behind an edit -/
theorem st_edit (W : Wld) (a : Act) (own : Bool) (e : Option Ed) (he : edB W e) (ha : a ≠ .tick) (h : a = .take → W.isThere = true) : wStanding (edited W a own) e = copyAfter (wServer W) (wStanding W e) a := by
  cases e with
  | none => rfl
  | some c =>
    obtain ⟨t, l, s⟩ := c
    obtain ⟨h1, h2, h3⟩ := he t l s rfl
    have hi := isThere_srv W
    cases a with
    | tick => exact absurd rfl ha
    | take =>
      have ht := h rfl
      unfold edited wStanding copyAfter Cp.after
      rw [ht]
      rfl
    | great =>
      show some _ = some _
      congr 1
      show Cp.mk (true && iEq t (W.ids + 1)) (true && iEq l (W.ids + 1)) (true && iEq s W.second) (iEq s W.second) = Cp.mk false false (iEq s W.second) (iEq s W.second)
      rw [iEq_ne (by omega), iEq_ne (by omega)]
      rfl
    | small =>
      show some _ = some _
      congr 1
      show Cp.mk (true && iEq t (W.ids + 1)) (true && iEq l (if W.isThere then W.look else W.ids + 1)) (true && iEq s W.second) (iEq s W.second) = Cp.mk false (if (wServer W).isThere then (W.isThere && iEq l W.look) else false) (iEq s W.second) (iEq s W.second)
      rw [iEq_ne (by omega), hi]
      cases W.isThere with
      | true => rfl
      | false =>
        simp only [Bool.false_eq_true, if_false]
        rw [iEq_ne (by omega)]
        rfl
theorem srv_edit (W : Wld) (a : Act) (own : Bool) (ha : a ≠ .tick) (h : a = .take → W.isThere = true) (hw : W.isThere = true → W.wasThere = true) : wServer (edited W a own) = serverAfter (wServer W) a := by
  cases a with
  | tick => exact absurd rfl ha
  | take =>
    have ht := h rfl
    have hw := hw ht
    unfold serverAfter
    rw [isThere_srv, ht]
    unfold edited wServer
    rw [ht]
    simp [hw]
  | great =>
    show (if true = true then (if iEq W.second W.second then Srv.fresh else .there) else _) = Srv.fresh
    rw [iEq_self]
    rfl
  | small =>
    show (if true = true then (if iEq W.second W.second then Srv.fresh else .there) else _) = Srv.fresh
    rw [iEq_self]
    rfl
theorem au_edit (W : Wld) (a : Act) (own : Bool) (ha : a ≠ .tick) (h : a = .take → W.isThere = true) : (edited W a own).authors = W.authors ++ [own] := by
  cases a with
  | tick => exact absurd rfl ha
  | take => unfold edited; rw [h rfl]; rfl
  | great => rfl
  | small => rfl
theorem rest_edit (W : Wld) (a : Act) (own : Bool) : (edited W a own).step = W.step ∧ (edited W a own).copy = W.copy ∧ (edited W a own).seen = W.seen ∧ (edited W a own).done = W.done ∧ (edited W a own).late = W.late ∧ (edited W a own).second = W.second ∧ W.ids ≤ (edited W a own).ids := by
  obtain ⟨sec, th, wt, tg, lk, sp, ids, au, st, cp, sn, dn, lt⟩ := W
  cases a <;> cases th <;> exact ⟨rfl, rfl, rfl, rfl, rfl, rfl, by first | exact Nat.le_refl _ | exact Nat.le_succ _⟩
theorem meant_snoc (au : List Bool) (own : Bool) (i : Int) (hi : i < (au.length : Nat)) : (decide (0 ≤ i) && ((au ++ [own]).drop (i.toNat + 1)).all id) = (match own with | true => (decide (0 ≤ i) && (au.drop (i.toNat + 1)).all id) | false => false) := by
  by_cases h0 : 0 ≤ i
  · have hd : (au ++ [own]).drop (i.toNat + 1) = au.drop (i.toNat + 1) ++ [own] := List.drop_append_of_le_length (by omega)
    rw [hd, List.all_append]
    cases own <;> simp
  · rw [decide_eq_false h0]
    cases own <;> rfl
theorem seen_edit (W : Wld) (a : Act) (own : Bool) (ha : a ≠ .tick) (h : a = .take → W.isThere = true) (hs : ∀ n, W.seen = some n → n + 1 ≤ W.authors.length) : seenB (edited W a own) = false := by
  unfold seenB
  rw [(rest_edit W a own).2.2.1, au_edit W a own ha h]
  cases hq : W.seen with
  | none => rfl
  | some n =>
    have := hs n hq
    refine decide_eq_false ?_
    rw [List.length_append, List.length_singleton]
    omega
theorem own_edit (W : Wld) (a : Act) (own : Bool) (ha : a ≠ .tick) (h : a = .take → W.isThere = true) : lastOwn (edited W a own) = own := by
  unfold lastOwn
  rw [au_edit W a own ha h]
  simp
def lateS (W : Wld) (l : Option (Nat × Option Ed × Int)) : Late := match l with
  | none => none
  | some (n, e, i) => some (n, wStanding W e, wMeantBy W i)
theorem wState_eq (W : Wld) : wState W = ⟨wServer W, W.step, wStanding W W.copy, seenB W, lastOwn W, dn3 W.done, lateS W W.late⟩ := by
  unfold wState lateS
  cases W.late <;> rfl
def lateA (v : Srv) (a : Act) (own : Bool) (l : Late) : Late := match l with
  | none => none
  | some (n, k, m) => some (n, copyAfter v k a, match own with | true => m | false => false)
theorem acted_eq (s : Sta) (a : Act) (own : Bool) : acted s a own = ⟨serverAfter s.srv a, s.step, copyAfter s.srv s.copy a, false, own, match own with | true => s.done.inc | false => s.done, lateA s.srv a own s.late⟩ := by
  unfold acted lateA
  cases s.late <;> rfl
theorem late_edit {steps : List Stp} (W : Wld) (a : Act) (own : Bool) (g : WG steps W) (ha : a ≠ .tick) (h : a = .take → W.isThere = true) : lateS (edited W a own) W.late = lateA (wServer W) a own (lateS W W.late) := by
  cases hl : W.late with
  | none => rfl
  | some l =>
    obtain ⟨n, e, i⟩ := l
    obtain ⟨h1, h2, h3, h4⟩ := g.late n e i hl
    show some (n, wStanding (edited W a own) e, wMeantBy (edited W a own) i) = some (n, copyAfter (wServer W) (wStanding W e) a, match own with | true => wMeantBy W i | false => false)
    rw [st_edit W a own e h4 ha h]
    have : wMeantBy (edited W a own) i = (match own with | true => wMeantBy W i | false => false) := by
      unfold wMeantBy
      rw [au_edit W a own ha h]
      exact meant_snoc W.authors own i h3
    rw [this]
/-- others write -/
theorem sim_edit {steps : List Stp} (W : Wld) (a : Act) (g : WG steps W) (ha : a ≠ .tick) (h : a = .take → W.isThere = true) : wState (edited W a false) = acted (wState W) a false := by
  rw [wState_eq, acted_eq, wState_eq]
  obtain ⟨r1, r2, r3, r4, r5, r6, r7⟩ := rest_edit W a false
  rw [r1, r2, r4, r5, srv_edit W a false ha h g.was, st_edit W a false _ g.copy ha h, seen_edit W a false ha h g.seen, own_edit W a false ha h, late_edit W a false g ha h]
theorem dn3_inc (n : Nat) : dn3 (n + 1) = (dn3 n).inc := by
  match n with
  | 0 => rfl
  | 1 => rfl
  | n + 2 => rfl
theorem sim_own {steps : List Stp} (W : Wld) (one : Stp) (g : WG steps W) (h : one.act = .take → W.isThere = true) : wState (ownAct W one) = acted (wState W) one.act true := by
  have ha := act_ne_tick one
  have e := wState_eq (edited W one.act true)
  rw [wState_eq (ownAct W one), acted_eq, wState_eq]
  obtain ⟨r1, r2, r3, r4, r5, r6, r7⟩ := rest_edit W one.act true
  show (⟨wServer (edited W one.act true), (edited W one.act true).step, wStanding (edited W one.act true) (edited W one.act true).copy, seenB (edited W one.act true), lastOwn (edited W one.act true), dn3 (W.done + 1), lateS (edited W one.act true) (edited W one.act true).late⟩ : Sta) = _
  rw [r1, r2, r5, srv_edit W _ true ha h g.was, st_edit W _ true _ g.copy ha h, seen_edit W _ true ha h g.seen, own_edit W _ true ha h, late_edit W _ true g ha h, dn3_inc]
/-! ### the invariant behind an edit -/
theorem edB_edit (W : Wld) (a : Act) (own : Bool) (e : Option Ed) (he : edB W e) : edB (edited W a own) e := by
  intro t l s h
  obtain ⟨h1, h2, h3⟩ := he t l s h
  obtain ⟨r1, r2, r3, r4, r5, r6, r7⟩ := rest_edit W a own
  rw [r6]
  exact ⟨by omega, by omega, h3⟩
theorem WG.edit {steps : List Stp} {W : Wld} (g : WG steps W) (a : Act) (own : Bool) : WG steps (edited W a own) := by
  obtain ⟨r1, r2, r3, r4, r5, r6, r7⟩ := rest_edit W a own
  have hau := edited_authors W a own
  have hlen : W.authors.length ≤ (edited W a own).authors.length := by rcases hau with e | e <;> rw [e] <;> simp
  refine ⟨by rw [r1]; exact g.step, fun n e i h => ?_, (edited_au W a own g.au).1, ?_, ?_, ?_, ?_, ?_, fun n h => ?_⟩
  · rw [r5] at h
    obtain ⟨h1, h2, h3, h4⟩ := g.late n e i h
    exact ⟨h1, h2, by omega, edB_edit W a own e h4⟩
  · have := g.tag
    obtain ⟨sec, th, wt, tg, lk, sp, ids, au, st, cp, sn, dn, lt⟩ := W
    cases a <;> cases th <;> first | exact this | exact Nat.le_refl _
  · have h := g.look
    obtain ⟨sec, th, wt, tg, lk, sp, ids, au, st, cp, sn, dn, lt⟩ := W
    cases a <;> cases th <;> first | exact h | exact Nat.le_refl _ | exact Nat.le_succ_of_le h
  · have h := g.stamp
    obtain ⟨sec, th, wt, tg, lk, sp, ids, au, st, cp, sn, dn, lt⟩ := W
    cases a <;> cases th <;> first | exact h | exact Nat.le_refl _
  · rw [r2]; exact edB_edit W a own _ g.copy
  · have h := g.was
    obtain ⟨sec, th, wt, tg, lk, sp, ids, au, st, cp, sn, dn, lt⟩ := W
    cases a <;> cases th <;> first | exact h | exact fun _ => rfl | (intro z; cases z)
  · rw [r3] at h
    have := g.seen n h
    omega
theorem WG.own {steps : List Stp} {W : Wld} (g : WG steps W) (one : Stp) : WG steps (ownAct W one) := by
  have e := g.edit one.act true
  exact ⟨e.step, e.late, e.au, e.tag, e.look, e.stamp, e.copy, e.was, e.seen⟩
end Dn
set_option Elab.async false
set_option linter.all false
set_option maxRecDepth 100000
set_option maxHeartbeats 4000000
namespace Dn
/-! ### answers -/
theorem bare_eq (W : Wld) (e : Option Ed) (c : Cnd) (hc : c ≠ .there ∧ c ≠ .none) : bare (wStanding W e) c = wBare e c := by
  cases e <;> cases c <;> first | rfl | exact absurd rfl hc.1 | exact absurd rfl hc.2
theorem fits_eq (W : Wld) (e : Option Ed) (c : Cnd) (h : W.isThere = true) : fits (wStanding W e) c = wFits W e c := by
  cases e with
  | none => cases c <;> rfl
  | some e =>
    obtain ⟨t, l, s⟩ := e
    cases c <;> first | rfl | (show is1 (W.isThere && _) = _; rw [is1_eq, h, Bool.true_and]; rfl)
theorem fits_off (W : Wld) (e : Option Ed) (c : Cnd) (h : W.isThere = false) : fits (wStanding W e) c = false := by
  cases e with
  | none => cases c <;> rfl
  | some e =>
    obtain ⟨t, l, s⟩ := e
    cases c <;> first | rfl | (show is1 (W.isThere && _) = _; rw [is1_eq, h, Bool.false_and])
theorem reply_eq (W : Wld) (e : Option Ed) (one : Stp) (hc : one.cOk = true) (ha : one.asks = true) : wReply W e one = word (answer (wServer W) (wStanding W e) one) (lastOwn W) := by
  cases one with
  | fin _ => cases ha
  | forget _ => cases ha
  | read c a b u n l =>
    have h1 : c ≠ .there ∧ c ≠ .none := by cases c <;> first | (cases hc; done) | exact ⟨by decide, by decide⟩
    show (if W.isThere then (if wBare e c then (if lastOwn W then .mine else .got) else if wFits W e c then .unchanged else (if lastOwn W then .mine else .got)) else .absent) = word (if (wServer W).isThere then (if bare (wStanding W e) c then .got else if fits (wStanding W e) c then .unchanged else .got) else .absent) (lastOwn W)
    rw [isThere_srv, bare_eq W e c h1]
    cases ht : W.isThere with
    | false => rfl
    | true =>
      rw [fits_eq W e c ht]
      cases wBare e c <;> cases wFits W e c <;> cases lastOwn W <;> rfl
  | put c z y n l =>
    have key : ∀ c2 : Cnd, (c2 ≠ .there ∧ c2 ≠ .none) → (if W.isThere then (if wBare e c2 then .yes else if wFits W e c2 then .yes else .no) else if wBare e c2 then Ans.yes else .no) = word (if (if bare (wStanding W e) c2 then true else fits (wStanding W e) c2) then .yes else .no) (lastOwn W) := by
      intro c2 h1
      rw [bare_eq W e c2 h1]
      cases ht : W.isThere with
      | false => rw [fits_off W e c2 ht]; cases wBare e c2 <;> rfl
      | true => rw [fits_eq W e c2 ht]; cases wBare e c2 <;> cases wFits W e c2 <;> rfl
    cases c with
    | there => show (if W.isThere then .yes else .no) = word (if (wServer W).isThere then .yes else .no) (lastOwn W); rw [isThere_srv]; cases W.isThere <;> rfl
    | none => show (if W.isThere then .no else .yes) = word (if !(wServer W).isThere then .yes else .no) (lastOwn W); rw [isThere_srv]; cases W.isThere <;> rfl
    | plain => exact key .plain ⟨by decide, by decide⟩
    | tag => exact key .tag ⟨by decide, by decide⟩
    | look => cases hc
    | stamp => exact key .stamp ⟨by decide, by decide⟩
  | take c y n a l =>
    have key : ∀ c2 : Cnd, (c2 ≠ .there ∧ c2 ≠ .none) → (if W.isThere then (if wBare e c2 then .yes else if wFits W e c2 then .yes else .no) else if wBare e c2 then Ans.absent else .no) = word (if (wServer W).isThere then (if (if bare (wStanding W e) c2 then true else fits (wStanding W e) c2) then .yes else .no) else if bare (wStanding W e) c2 then .absent else .no) (lastOwn W) := by
      intro c2 h1
      rw [bare_eq W e c2 h1, isThere_srv]
      cases ht : W.isThere with
      | false => cases wBare e c2 <;> rfl
      | true => rw [fits_eq W e c2 ht]; cases wBare e c2 <;> cases wFits W e c2 <;> rfl
    cases c with
    | there => show (if W.isThere then .yes else .no) = word (if (wServer W).isThere then (if (wServer W).isThere then .yes else .no) else .no) (lastOwn W); rw [isThere_srv]; cases W.isThere <;> rfl
    | none => cases hc
    | plain => exact key .plain ⟨by decide, by decide⟩
    | tag => exact key .tag ⟨by decide, by decide⟩
    | look => cases hc
    | stamp => exact key .stamp ⟨by decide, by decide⟩
theorem writes_reads {one : Stp} (h : one.writes = true) : ∀ (v : Srv) (k : Copy), answer v k one ≠ .got := by
  intro v k
  cases one with
  | put c z y n l => show (if holds v k c then Ans.yes else .no) ≠ .got; cases holds v k c <;> (intro h; cases h)
  | take c y n a l => show (if v.isThere then (if holds v k c then Ans.yes else .no) else if bare k c then .absent else .no) ≠ .got; cases v.isThere <;> cases holds v k c <;> cases bare k c <;> (intro h; cases h)
  | _ => cases h
theorem done_eq (W : Wld) (e : Option Ed) (one : Stp) (hc : one.cOk = true) : wIsDone W e one = isDone one (wServer W) (wStanding W e) := by
  unfold wIsDone isDone
  cases hw : one.writes with
  | false => rfl
  | true =>
    rw [reply_eq W e one hc (writes_asks hw)]
    have := writes_reads hw (wServer W) (wStanding W e)
    cases ha : answer (wServer W) (wStanding W e) one <;> first | rfl | exact absurd ha this
theorem done_there {W : Wld} {e : Option Ed} {one : Stp} (hc : one.cOk = true) (h : wIsDone W e one = true) : one.act = .take → W.isThere = true := by
  intro ht
  unfold wIsDone at h
  obtain ⟨hw, h⟩ := Bool.and_eq_true_iff.mp h
  cases one with
  | put c z y n l => cases z <;> cases ht
  | take c y n a l =>
    have h2 : (match wReply W e (.take c y n a l) with | .yes => true | _ => false) = true := h
    unfold wReply at h2
    cases hi : W.isThere with
    | true => rfl
    | false =>
      rw [hi] at h2
      cases c with
      | none => cases hc
      | look => cases hc
      | there => cases h2
      | plain => cases h2
      | tag => cases e <;> cases h2
      | stamp => cases e <;> cases h2
  | _ => cases hw
theorem can_eq {steps : List Stp} (W : Wld) (one : Stp) (ev : Ev) (o : Oth) (net : Net) (hc : one.cOk = true) : wCan W one ev o net = canHappen one (wState W) ev o net := by
  rw [wState_eq]
  have hi := isThere_srv W
  have hl : (lateS W W.late).isSome = W.late.isSome := by
    cases W.late <;> rfl
  cases ev with
  | tick => rfl
  | great => rfl
  | small => show (o.small && W.isThere) = (o.small && (wServer W).isThere); rw [hi]
  | take => show (o.take && W.isThere) = (o.take && (wServer W).isThere); rw [hi]
  | answered => rfl
  | unheard =>
    cases net <;> first | rfl | exact done_eq W W.copy one hc
  | unsent => cases net <;> rfl
  | come => cases net <;> first | rfl | exact hl.symm
end Dn
set_option Elab.async false
set_option linter.all false
set_option maxRecDepth 100000
set_option maxHeartbeats 4000000
namespace Dn
theorem next_in {one : Stp} {a : Ans} (h : okW one a) : next one a ∈ one.nexts := by
  cases one with
  | read c a1 b u e l => cases a <;> first | exact h.elim | simp [next, Stp.nexts]
  | put c z y n l => cases a <;> first | exact h.elim | simp [next, Stp.nexts]
  | take c y n a1 l => cases a <;> first | exact h.elim | simp [next, Stp.nexts]
  | _ => exact h.elim
theorem next_lt {steps : List Stp} (so : scrOk steps) {n : Nat} (hn : n < steps.length) {a : Ans} (h : okW (stp steps n) a) : next (stp steps n) a < steps.length :=
  of_decide_eq_true (List.all_eq_true.mp (Bool.and_eq_true_iff.mp (so _ (stp_mem hn))).2 _ (next_in h))
theorem sim_step (W : Wld) (n : Nat) : wState { W with step := n } = (wState W).at n := by
  rw [wState_eq, wState_eq]
  rfl
theorem WG.step' {steps : List Stp} {W : Wld} (g : WG steps W) {n : Nat} (h : n < steps.length) : WG steps { W with step := n } := ⟨h, g.late, g.au, g.tag, g.look, g.stamp, g.copy, g.was, g.seen⟩
/-! ### a tick -/
theorem st_tick (W : Wld) (e : Option Ed) (he : edB W e) : wStanding { W with second := W.second + 1 } e = copyAfter (wServer W) (wStanding W e) .tick := by
  cases e with
  | none => rfl
  | some c =>
    obtain ⟨t, l, s⟩ := c
    obtain ⟨h1, h2, h3⟩ := he t l s rfl
    show some (Cp.mk (W.isThere && iEq t W.tag) (W.isThere && iEq l W.look) (W.isThere && iEq s W.stamp) (iEq s (W.second + 1))) = some (Cp.mk (W.isThere && iEq t W.tag) (W.isThere && iEq l W.look) (W.isThere && iEq s W.stamp) false)
    rw [iEq_ne (a := s) (b := W.second + 1) (by omega)]
theorem sim_tick {steps : List Stp} (W : Wld) (g : WG steps W) : wState { W with second := W.second + 1 } = ticked (wState W) := by
  have hs : wServer { W with second := W.second + 1 } = serverAfter (wServer W) .tick := by
    show (if W.isThere then (if iEq W.stamp (W.second + 1) then Srv.fresh else .there) else if W.wasThere then .gone else .never) = _
    rw [iEq_ne (a := W.stamp) (b := W.second + 1) (by have := g.stamp; omega)]
    unfold wServer
    cases W.isThere <;> cases W.wasThere <;> cases iEq W.stamp W.second <;> rfl
  have ht : ∀ s : Sta, ticked s = ⟨serverAfter s.srv .tick, s.step, copyAfter s.srv s.copy .tick, s.known, s.own, s.done, match s.late with | none => none | some (n, k, m) => some (n, copyAfter s.srv k .tick, m)⟩ := fun s => rfl
  rw [wState_eq, ht, wState_eq]
  show (⟨wServer { W with second := W.second + 1 }, W.step, wStanding { W with second := W.second + 1 } W.copy, seenB W, lastOwn W, dn3 W.done, lateS { W with second := W.second + 1 } W.late⟩ : Sta) = _
  rw [hs, st_tick W _ g.copy]
  have hl : lateS { W with second := W.second + 1 } W.late = (match lateS W W.late with | none => none | some (n, k, m) => some (n, copyAfter (wServer W) k .tick, m)) := by
    cases hq : W.late with
    | none => rfl
    | some l =>
      obtain ⟨n, e, i⟩ := l
      obtain ⟨h1, h2, h3, h4⟩ := g.late n e i hq
      show some (n, wStanding { W with second := W.second + 1 } e, _) = some (n, copyAfter (wServer W) (wStanding W e) .tick, _)
      rw [st_tick W e h4]
      rfl
  rw [hl]
theorem WG.tick {steps : List Stp} {W : Wld} (g : WG steps W) : WG steps { W with second := W.second + 1 } := by
  refine ⟨g.step, fun n e i h => ?_, g.au, g.tag, g.look, Nat.le_succ_of_le g.stamp, fun t l s h => ?_, g.was, g.seen⟩
  · obtain ⟨h1, h2, h3, h4⟩ := g.late n e i h
    exact ⟨h1, h2, h3, fun t l s h => let ⟨a, b, c⟩ := h4 t l s h; ⟨a, b, Nat.le_succ_of_le c⟩⟩
  · obtain ⟨a, b, c⟩ := g.copy t l s h
    exact ⟨a, b, Nat.le_succ_of_le c⟩
/-! ### what is heard -/
theorem sim_heard (L : Wld) (h : L.authors ≠ []) : wState (heardW L) = (wState L).seen (if L.isThere then some ⟨true, true, true, iEq L.stamp L.second⟩ else none) := by
  have hp : 0 < L.authors.length := List.length_pos_iff.mpr h
  have hs : seenB (heardW L) = true := by
    show decide (((L.authors.length - 1 : Nat) : Int) = (L.authors.length : Nat) - 1) = true
    exact decide_eq_true (by omega)
  rw [wState_eq, wState_eq, hs]
  show (⟨wServer L, L.step, wStanding (heardW L) (if L.isThere then some L.held else none), true, lastOwn L, dn3 L.done, lateS L L.late⟩ : Sta) = ⟨wServer L, L.step, if L.isThere then some ⟨true, true, true, iEq L.stamp L.second⟩ else none, true, lastOwn L, dn3 L.done, lateS L L.late⟩
  have hc : wStanding (heardW L) (if L.isThere then some L.held else none) = if L.isThere then some ⟨true, true, true, iEq L.stamp L.second⟩ else none := by
    cases ht : L.isThere with
    | false => rfl
    | true =>
      show some (Cp.mk (L.isThere && iEq L.tag L.tag) (L.isThere && iEq L.look L.look) (L.isThere && iEq L.stamp L.stamp) (iEq L.stamp L.second)) = _
      rw [ht, iEq_self, iEq_self, iEq_self]
      rfl
  rw [hc]
theorem WG.heard {steps : List Stp} {L : Wld} (g : WG steps L) : WG steps (heardW L) := by
  have hp : 0 < L.authors.length := List.length_pos_iff.mpr g.au
  refine ⟨g.step, g.late, g.au, g.tag, g.look, g.stamp, fun t l s h => ?_, g.was, fun n h => ?_⟩
  · have h : (if L.isThere then some L.held else none) = some (t, l, s) := h
    cases ht : L.isThere with
    | false => rw [ht] at h; cases h
    | true =>
      rw [ht] at h
      have e : (L.tag, L.look, L.stamp) = (t, l, s) := Option.some.inj h
      cases e
      exact ⟨g.tag, g.look, g.stamp⟩
  · have : L.authors.length - 1 = n := Option.some.inj h
    show n + 1 ≤ L.authors.length
    omega
theorem present_eq (L : Wld) (h : L.isThere = true) : present (wServer L) = some ⟨true, true, true, iEq L.stamp L.second⟩ := by
  unfold wServer
  rw [h]
  cases iEq L.stamp L.second <;> rfl
theorem finA_eq (one : Stp) (s : Sta) (z : Ans) : finA one s z = (match z with
    | .got => (s.at (next one z)).seen (present s.srv) | .mine => (s.at (next one z)).seen (present s.srv) | .yes => (acted (s.at (next one z)) one.act true).seen (putCopy one) | .absent => (s.at (next one z)).seen none | _ => s.at (next one z)) := by cases z <;> rfl
/-- how an answer comes -/
theorem there_of {W : Wld} {e : Option Ed} {one : Stp} (hc : one.cOk = true) : ∀ a, wReply W e one = a → (a = .got ∨ a = .mine → W.isThere = true) ∧ (a = .absent → W.isThere = false) := by
  intro a ha
  cases hi : W.isThere with
  | true =>
    refine ⟨fun _ => rfl, fun h => ?_⟩
    exfalso
    rw [h] at ha
    cases one with
    | read c a1 b u n l =>
      have ha : (if W.isThere then (if wBare e c then (if lastOwn W then Ans.mine else .got) else if wFits W e c then .unchanged else (if lastOwn W then .mine else .got)) else .absent) = .absent := ha
      rw [hi] at ha
      cases hb : wBare e c <;> cases hf : wFits W e c <;> cases ho : lastOwn W <;> rw [hb, ho] at ha <;> (try rw [hf] at ha) <;> cases ha
    | put c z y n l =>
      have := okW_reply W e (.put c z y n l) rfl
      rw [ha] at this
      exact this
    | take c y n a1 l =>
      unfold wReply at ha
      rw [hi] at ha
      cases c with
      | there => cases ha
      | none => cases hc
      | look => cases hc
      | plain => cases ha
      | tag => cases hb : wBare e .tag <;> cases hf : wFits W e .tag <;> simp [hb, hf] at ha
      | stamp => cases hb : wBare e .stamp <;> cases hf : wFits W e .stamp <;> simp [hb, hf] at ha
    | _ => cases ha
  | false =>
    refine ⟨fun h => ?_, fun _ => rfl⟩
    exfalso
    cases one with
    | read c a1 b u n l =>
      have ha : (if W.isThere then (if wBare e c then (if lastOwn W then Ans.mine else .got) else if wFits W e c then .unchanged else (if lastOwn W then .mine else .got)) else .absent) = a := ha
      rw [hi] at ha
      rcases h with h | h <;> (rw [h] at ha; cases ha)
    | put c z y n l =>
      have := okW_reply W e (.put c z y n l) rfl
      rcases h with h | h <;> (rw [ha, h] at this; exact this)
    | take c y n a1 l =>
      have := okW_reply W e (.take c y n a1 l) rfl
      rcases h with h | h <;> (rw [ha, h] at this; exact this)
    | fin w => rcases h with h | h <;> (rw [h] at ha; cases ha)
    | forget n => rcases h with h | h <;> (rw [h] at ha; cases ha)
end Dn
set_option Elab.async false
set_option linter.all false
set_option maxRecDepth 100000
set_option maxHeartbeats 4000000
namespace Dn
theorem act_step (s : Sta) (n : Nat) (a : Act) (own : Bool) : acted (s.at n) a own = (acted s a own).at n := by
  rw [acted_eq, acted_eq]
  rfl
theorem sim_ans {steps : List Stp} {W : Wld} (g : WG steps W) (so : scrOk steps) (hend : (stp steps W.step).isEnd = false) : wState (answeredW W (stp steps W.step)) = answered (stp steps W.step) (wState W) ∧ WG steps (answeredW W (stp steps W.step)) := by
  have hcok := so.c g.step
  have hstp : (wState W).step = W.step := by rw [wState_eq]
  cases hone : stp steps W.step with
  | fin w => rw [hone] at hend; cases hend
  | forget n =>
    have hn : n < steps.length := by
      have := (Bool.and_eq_true_iff.mp (so _ (stp_mem g.step))).2
      rw [hone] at this
      exact of_decide_eq_true (List.all_eq_true.mp this n (List.mem_singleton.mpr rfl))
    refine ⟨?_, ⟨hn, g.late, g.au, g.tag, g.look, g.stamp, fun t l s h => (by cases h), g.was, g.seen⟩⟩
    show wState { W with copy := none, step := n } = { wState W with step := n, copy := none }
    rw [wState_eq, wState_eq]
    rfl
  | _ =>
    have hask : (stp steps W.step).asks = true := by rw [hone]; rfl
    have hr := reply_eq W W.copy (stp steps W.step) hcok hask
    have hok := okW_reply W W.copy (stp steps W.step) hask
    have hnx := next_lt so g.step hok
    obtain ⟨th1, th2⟩ := there_of (W := W) (e := W.copy) hcok _ rfl
    have hd : wReply W W.copy (stp steps W.step) = .yes → wIsDone W W.copy (stp steps W.step) = true := by
      intro h
      unfold wIsDone
      rw [h, reply_yes h hask]
      rfl
    rw [← hone]
    have e1 : answeredW W (stp steps W.step) = (if tellsW (wReply W W.copy (stp steps W.step)) then heardW { (match wReply W W.copy (stp steps W.step) with | .yes => ownAct W (stp steps W.step) | _ => W) with step := next (stp steps W.step) (wReply W W.copy (stp steps W.step)) } else { (match wReply W W.copy (stp steps W.step) with | .yes => ownAct W (stp steps W.step) | _ => W) with step := next (stp steps W.step) (wReply W W.copy (stp steps W.step)) }) := by
      rw [hone]
      rfl
    have e2 : answered (stp steps W.step) (wState W) = finA (stp steps W.step) (wState W) (wReply W W.copy (stp steps W.step)) := by
      rw [hr]
      have : wordOf (stp steps W.step) (wState W) = word (answer (wServer W) (wStanding W W.copy) (stp steps W.step)) (lastOwn W) := by
        unfold wordOf
        rw [wState_eq]
      rw [← this, hone]
      rfl
    rw [e1, e2, finA_eq]
    have hput : ∀ (L : Wld), L = ownAct W (stp steps W.step) → wReply W W.copy (stp steps W.step) = .yes → (if L.isThere then some (Cp.mk true true true (iEq L.stamp L.second)) else none) = putCopy (stp steps W.step) := by
      intro L hL hy
      have ht := done_there hcok (hd hy)
      subst hL
      generalize stp steps W.step = one at *
      cases one with
      | put c z y n l =>
        cases z
        · show (if true then some (Cp.mk true true true (iEq W.second W.second)) else none) = _
          rw [iEq_self]
          rfl
        · show (if true then some (Cp.mk true true true (iEq W.second W.second)) else none) = _
          rw [iEq_self]
          rfl
      | take c y n a l =>
        have ht := ht rfl
        show (if (edited W .take true).isThere then _ else _) = _
        have : (edited W .take true).isThere = false := by unfold edited; rw [ht]; rfl
        rw [this]
        rfl
      | read _ _ _ _ _ _ =>
        rw [hy] at hok
        exact hok.elim
      | forget _ => cases hask
      | fin _ => cases hask
    generalize hans : wReply W W.copy (stp steps W.step) = ans at *
    have gs : WG steps { W with step := next (stp steps W.step) ans } := g.step' hnx
    have same : wState (heardW { W with step := next (stp steps W.step) ans }) = ((wState W).at (next (stp steps W.step) ans)).seen (if W.isThere then some ⟨true, true, true, iEq W.stamp W.second⟩ else none) := by
      rw [sim_heard _ gs.au, sim_step]
    have hsrv : (wState W).srv = wServer W := by rw [wState_eq]
    cases ans with
    | unchanged => exact ⟨sim_step _ _, gs⟩
    | no => exact ⟨sim_step _ _, gs⟩
    | lost => exact ⟨sim_step _ _, gs⟩
    | got =>
      have ht := th1 (.inl rfl)
      refine ⟨?_, gs.heard⟩
      show wState (heardW { W with step := next (stp steps W.step) .got }) = ((wState W).at (next (stp steps W.step) .got)).seen (present (wState W).srv)
      rw [same, hsrv, present_eq W ht, ht]
      rfl
    | mine =>
      have ht := th1 (.inr rfl)
      refine ⟨?_, gs.heard⟩
      show wState (heardW { W with step := next (stp steps W.step) .mine }) = ((wState W).at (next (stp steps W.step) .mine)).seen (present (wState W).srv)
      rw [same, hsrv, present_eq W ht, ht]
      rfl
    | absent =>
      have ht := th2 rfl
      refine ⟨?_, gs.heard⟩
      show wState (heardW { W with step := next (stp steps W.step) .absent }) = ((wState W).at (next (stp steps W.step) .absent)).seen none
      rw [same, ht]
      rfl
    | yes =>
      have ht := done_there hcok (hd rfl)
      have go := (g.own (stp steps W.step)).step' hnx
      refine ⟨?_, go.heard⟩
      show wState (heardW { ownAct W (stp steps W.step) with step := next (stp steps W.step) .yes }) = (acted ((wState W).at (next (stp steps W.step) .yes)) (stp steps W.step).act true).seen (putCopy (stp steps W.step))
      rw [sim_heard _ go.au, sim_step, sim_own W _ g ht, act_step, ← hput _ rfl rfl]
theorem late_seen (W L : Wld) (own : List Bool) (hL : L.authors = W.authors ++ own) (ho : own.all id = true) (h : W.authors ≠ []) (n : Nat) (e : Option Ed) : wMeantBy L (if wKnows W then ((W.authors.length : Nat) : Int) - 1 else -1) = wKnows W := by
  have hp : 0 < W.authors.length := List.length_pos_iff.mpr h
  unfold wMeantBy
  cases hk : wKnows W with
  | false => rfl
  | true =>
    show (decide ((0 : Int) ≤ ((W.authors.length : Nat) : Int) - 1) && (L.authors.drop ((((W.authors.length : Nat) : Int) - 1).toNat + 1)).all id) = true
    rw [decide_eq_true (by omega)]
    have e : (((W.authors.length : Nat) : Int) - 1).toNat + 1 = W.authors.length := by omega
    rw [e, hL, List.drop_left]
    exact ho
theorem sim_late (W L : Wld) (own : List Bool) (hL : L.authors = W.authors ++ own) (ho : own.all id = true) (h : W.authors ≠ []) (hc : L.copy = W.copy) : wState { L with late := some (wSent W) } = { wState L with late := sent (wState W) (wState L).copy } := by
  rw [wState_eq, wState_eq]
  show (⟨wServer L, L.step, wStanding L L.copy, seenB L, lastOwn L, dn3 L.done, some (W.step, wStanding L W.copy, wMeantBy L (if wKnows W then ((W.authors.length : Nat) : Int) - 1 else -1))⟩ : Sta) = ⟨wServer L, L.step, wStanding L L.copy, seenB L, lastOwn L, dn3 L.done, sent (wState W) (wStanding L L.copy)⟩
  rw [late_seen W L own hL ho h 0 none, hc]
  have : sent (wState W) (wStanding L W.copy) = some (W.step, wStanding L W.copy, wKnows W) := by
    unfold sent wKnows
    rw [wState_eq]
  rw [this]
theorem WG.late' {steps : List Stp} {W L : Wld} (g : WG steps W) (gl : WG steps L) (hw : (stp steps W.step).writes = true) (hlen : W.authors.length ≤ L.authors.length) (hc : edB L W.copy) : WG steps { L with late := some (wSent W) } := by
  refine ⟨gl.step, fun n e i h => ?_, gl.au, gl.tag, gl.look, gl.stamp, gl.copy, gl.was, gl.seen⟩
  have h : (W.step, W.copy, if wKnows W then ((W.authors.length : Nat) : Int) - 1 else -1) = (n, e, i) := Option.some.inj h
  cases h
  refine ⟨g.step, hw, ?_, hc⟩
  show (if wKnows W then ((W.authors.length : Nat) : Int) - 1 else -1) < (L.authors.length : Nat)
  cases wKnows W
  · show (-1 : Int) < _
    omega
  · show ((W.authors.length : Nat) : Int) - 1 < _
    omega
def againS (net : Net) (a b : Sta) : Sta := match net with
  | .again => a
  | _ => b
def againW (net : Net) (a b : Wld) : Wld := match net with
  | .again => a
  | _ => b
theorem lost_unheard (W L : Wld) (one : Stp) (net : Net) (hw : one.writes = true) : lostW W L one .unheard net = againW net { L with step := next one .lost, late := some (wSent W) } { L with step := next one .lost } := by
  cases one with
  | put c z y n l => cases net <;> rfl
  | take c y n a l => cases net <;> rfl
  | _ => cases hw
theorem come_eq (lone : Stp) (s : Sta) (net : Net) {n : Nat} {k : Copy} {m : Bool} (h : s.late = some (n, k, m)) : come lone s net = againS net (cond (isDone lone s.srv k) (acted s lone.act true) s) { (cond (isDone lone s.srv k) (acted s lone.act true) s) with late := none } := by
  have e : come lone s net = (let later := if isDone lone s.srv k then acted s lone.act true else s; match net with | .again => later | _ => { later with late := none }) := by
    unfold come
    rw [h] <;> rfl
  rw [e]
  cases isDone lone s.srv k <;> cases net <;> rfl
theorem sim {steps : List Stp} {W : Wld} {o : Oth} {net : Net} {ev : Ev} (g : WG steps W) (so : scrOk steps) (hcan : wCan W (stp steps W.step) ev o net = true) : wState (behindW steps W ev net) = stepped steps (wState W) ev net ∧ WG steps (behindW steps W ev net) := by
  have hcok := so.c g.step
  have hstp : (wState W).step = W.step := by rw [wState_eq]
  cases ev with
  | great => exact ⟨sim_edit W .great g (by decide) (fun h => by cases h), g.edit .great false⟩
  | small => exact ⟨sim_edit W .small g (by decide) (fun h => by cases h), g.edit .small false⟩
  | take => exact ⟨sim_edit W .take g (by decide) (fun _ => (Bool.and_eq_true_iff.mp hcan).2), g.edit .take false⟩
  | tick => exact ⟨sim_tick W g, g.tick⟩
  | answered =>
    have hend : (stp steps W.step).isEnd = false := by unfold wCan at hcan; simpa using hcan
    have h := sim_ans g so hend
    refine ⟨?_, h.2⟩
    show wState (answeredW W (stp steps W.step)) = answered (stp steps (wState W).step) (wState W)
    rw [hstp]
    exact h.1
  | unheard =>
    have hdone : wIsDone W W.copy (stp steps W.step) = true := by unfold wCan at hcan; cases net <;> first | cases hcan | exact hcan
    have hw : (stp steps W.step).writes = true := (Bool.and_eq_true_iff.mp hdone).1
    have ht := done_there hcok hdone
    have hnx := next_lt so g.step (okW_lost _ (writes_asks hw))
    have go := (g.own (stp steps W.step)).step' hnx
    have hs : wState { ownAct W (stp steps W.step) with step := next (stp steps W.step) .lost } = (acted (wState W) (stp steps W.step).act true).at (next (stp steps W.step) .lost) := by rw [sim_step, sim_own W _ g ht]
    have hb : behindW steps W .unheard net = againW net { ownAct W (stp steps W.step) with step := next (stp steps W.step) .lost, late := some (wSent W) } { ownAct W (stp steps W.step) with step := next (stp steps W.step) .lost } := lost_unheard W (ownAct W (stp steps W.step)) (stp steps W.step) net hw
    have hu : stepped steps (wState W) .unheard net = againS net { (acted (wState W) (stp steps W.step).act true).at (next (stp steps W.step) .lost) with late := sent (wState W) ((acted (wState W) (stp steps W.step).act true).at (next (stp steps W.step) .lost)).copy } ((acted (wState W) (stp steps W.step).act true).at (next (stp steps W.step) .lost)) := by
      show unheard (stp steps (wState W).step) (wState W) net = _
      rw [hstp]
      cases net <;> rfl
    rw [hb, hu]
    have hau : ({ ownAct W (stp steps W.step) with step := next (stp steps W.step) .lost } : Wld).authors = W.authors ++ [true] := au_edit W _ true (act_ne_tick _) ht
    have hcp : ({ ownAct W (stp steps W.step) with step := next (stp steps W.step) .lost } : Wld).copy = W.copy := (rest_edit W _ true).2.1
    cases net with
    | again =>
      refine ⟨?_, g.late' go hw (by rw [hau]; simp) (edB_edit W _ true _ g.copy)⟩
      have := sim_late W { ownAct W (stp steps W.step) with step := next (stp steps W.step) .lost } [true] hau rfl g.au hcp
      rw [hs] at this
      exact this
    | sure => exact ⟨hs, go⟩
    | lost => exact ⟨hs, go⟩
    | late => exact ⟨hs, go⟩
  | unsent =>
    have hask : (stp steps W.step).asks = true := by unfold wCan at hcan; cases net <;> first | cases hcan | exact hcan
    have hnet : net ≠ .sure := by rintro rfl; unfold wCan at hcan; cases hcan
    have hnx := next_lt so g.step (okW_lost _ hask)
    have go := g.step' hnx
    have hs := sim_step W (next (stp steps W.step) .lost)
    show wState (lostW W W (stp steps W.step) .unsent net) = unsent (stp steps (wState W).step) (wState W) net ∧ WG steps (lostW W W (stp steps W.step) .unsent net)
    rw [hstp]
    have key : ∀ {hw : (stp steps W.step).writes = true}, wState { W with step := next (stp steps W.step) .lost, late := some (wSent W) } = { (wState W).at (next (stp steps W.step) .lost) with late := sent (wState W) (wState W).copy } ∧ WG steps { W with step := next (stp steps W.step) .lost, late := some (wSent W) } := by
      intro hw
      refine ⟨?_, g.late' go hw (Nat.le_refl _) g.copy⟩
      have := sim_late W { W with step := next (stp steps W.step) .lost } [] (by simp) rfl g.au rfl
      rw [hs] at this
      exact this
    generalize hgen : stp steps W.step = one at *
    cases one with
    | fin _ => cases hask
    | forget _ => cases hask
    | read c a b u e l => cases net <;> exact ⟨hs, go⟩
    | put c z y n l =>
      cases net with
      | sure => exact absurd rfl hnet
      | lost => exact ⟨hs, go⟩
      | late => exact key (hw := rfl)
      | again => exact key (hw := rfl)
    | take c y n a l =>
      cases net with
      | sure => exact absurd rfl hnet
      | lost => exact ⟨hs, go⟩
      | late => exact key (hw := rfl)
      | again => exact key (hw := rfl)
  | come =>
    cases hl : W.late with
    | none => unfold wCan at hcan; rw [hl] at hcan; cases net <;> cases hcan
    | some l =>
      obtain ⟨n, e, i⟩ := l
      obtain ⟨h1, h2, h3, h4⟩ := g.late n e i hl
      have hls : (wState W).late = some (n, wStanding W e, wMeantBy W i) := by rw [wState_eq, hl]; rfl
      have hc2 := so.c h1
      have hd := done_eq W e (stp steps n) hc2
      have hlate : lateStep (wState W) = n := by unfold lateStep; rw [hls]
      have hb : behindW steps W .come net = dropLate net (cond (wIsDone W e (stp steps n)) (ownAct W (stp steps n)) W) := by
        show dropLate net (lateL steps W) = _
        unfold lateL
        rw [hl]
      have hsrv : (wState W).srv = wServer W := by rw [wState_eq]
      have hs : stepped steps (wState W) .come net = againS net (cond (isDone (stp steps n) (wServer W) (wStanding W e)) (acted (wState W) (stp steps n).act true) (wState W)) { (cond (isDone (stp steps n) (wServer W) (wStanding W e)) (acted (wState W) (stp steps n).act true) (wState W)) with late := none } := by
        show come (stp steps (lateStep (wState W))) (wState W) net = _
        rw [hlate]
        rw [come_eq _ _ _ hls, hsrv]
      rw [hb, hs, ← hd]
      have drop : ∀ (L : Wld) (s : Sta), wState L = s → WG steps L → wState (dropLate net L) = againS net s { s with late := none } ∧ WG steps (dropLate net L) := by
        intro L s hL gL
        have h0 : wState { L with late := none } = { s with late := none } ∧ WG steps { L with late := none } := by
          refine ⟨?_, ⟨gL.step, fun n e i h => (by cases h), gL.au, gL.tag, gL.look, gL.stamp, gL.copy, gL.was, gL.seen⟩⟩
          rw [← hL, wState_eq, wState_eq]
          rfl
        cases net with
        | again => exact ⟨hL, gL⟩
        | sure => exact h0
        | lost => exact h0
        | late => exact h0
      cases hdn : wIsDone W e (stp steps n) with
      | true => exact drop _ _ (sim_own W _ g (done_there hc2 hdn)) (g.own _)
      | false => exact drop _ _ rfl g
end Dn
set_option Elab.async false
set_option linter.all false
set_option maxRecDepth 100000
set_option maxHeartbeats 4000000
namespace Dn
/-! ### reached in so many events -/
def Rch (steps : List Stp) (o : Oth) (net : Net) : Nat → Sta → Prop
  | 0, s => s ∈ firsts
  | n + 1, t => ∃ s e, Rch steps o net n s ∧ e ∈ eventsIn steps s o net ∧ t = stepped steps s e net
theorem st_step (W : Wld) : (wState W).step = W.step := by rw [wState_eq]
theorem over_eq (steps : List Stp) (p : Pr) (W : Wld) : isOverW steps p W = isBadS steps p (wState W) := by
  unfold isOverW isBadS
  rw [st_step]
  generalize stp steps W.step = one
  have hd : (wState W).done = dn3 W.done := by rw [wState_eq]
  obtain ⟨sec, th, wt, tg, lk, sp, ids, au, st, cp, sn, dn, lt⟩ := W
  unfold wOver amiss
  rw [hd]
  match dn with
  | 0 => cases p <;> cases one <;> first | rfl | (rename_i w; cases w <;> rfl)
  | 1 => cases p <;> cases one <;> first | rfl | (rename_i w; cases w <;> rfl)
  | n + 2 =>
    have h1 : decide (1 < n + 2) = true := decide_eq_true (by omega)
    have h2 : decide (n + 2 = 0) = false := decide_eq_false (by omega)
    have h3 : decide (0 < n + 2) = true := decide_eq_true (by omega)
    cases p with
    | once => exact h1
    | true_ =>
      cases one <;> first | rfl | (rename_i w; cases w <;> first | exact h2 | exact h3 | rfl)
theorem start_state (v : Srv) : wState (startW v) = firstOf v := by cases v <;> rfl
theorem start_good {steps : List Stp} (h : 0 < steps.length) (v : Srv) : WG steps (startW v) := by
  cases v <;> exact ⟨h, (fun n e i q => (by cases q)), (fun q => (by cases q)), Nat.le_refl _, Nat.le_refl _, (by decide), (fun t l s q => (by cases q)), (by decide), (fun n q => (by cases q))⟩
section
variable {steps : List Stp} {o : Oth} {net : Net}
/-- the events of a world are those of its state -/
theorem nexts_sim (so : scrOk steps) {W : Wld} (g : WG steps W) : ∀ x ∈ nextsW steps W o net, x.1 ∈ eventsIn steps (wState W) o net ∧ wState x.2 = stepped steps (wState W) x.1 net ∧ WG steps x.2 := by
  intro x hx
  obtain ⟨e, he, rfl⟩ := List.mem_map.mp hx
  obtain ⟨h1, h2⟩ := List.mem_filter.mp he
  have hs := sim g so h2
  refine ⟨List.mem_filter.mpr ⟨h1, ?_⟩, hs.1, hs.2⟩
  rw [st_step, ← can_eq (steps := steps) W _ e o net (so.c g.step)]
  exact h2
theorem events_nexts (so : scrOk steps) {W : Wld} (g : WG steps W) {e : Ev} (he : e ∈ eventsIn steps (wState W) o net) : (e, behindW steps W e net) ∈ nextsW steps W o net := by
  obtain ⟨h1, h2⟩ := List.mem_filter.mp he
  refine List.mem_map.mpr ⟨e, List.mem_filter.mpr ⟨h1, ?_⟩, rfl⟩
  rw [st_step, ← can_eq (steps := steps) W _ e o net (so.c g.step)] at h2
  exact h2
/-! ### the law's layers -/
theorem lfold_mem : ∀ (xs : List (Ev × Wld)) (acc : LAcc), (∀ s ∈ acc.1, s ∈ (xs.foldl (fun acc x => lOne acc x.2) acc).1) ∧ (∀ x ∈ xs, wState x.2 ∈ (xs.foldl (fun acc x => lOne acc x.2) acc).1) ∧
    (∀ s ∈ (xs.foldl (fun acc x => lOne acc x.2) acc).1, s ∈ acc.1 ∨ ∃ W ∈ (xs.foldl (fun acc x => lOne acc x.2) acc).2, wState W = s) ∧
    (∀ W ∈ (xs.foldl (fun acc x => lOne acc x.2) acc).2, W ∈ acc.2 ∨ ∃ x ∈ xs, x.2 = W) ∧ (∀ W ∈ acc.2, W ∈ (xs.foldl (fun acc x => lOne acc x.2) acc).2)
  | [], acc => ⟨fun _ h => h, fun _ h => (by cases h), fun _ h => .inl h, fun _ h => .inl h, fun _ h => h⟩
  | x :: xs, acc => by
    obtain ⟨i1, i2, i3, i4, i5⟩ := lfold_mem xs (lOne acc x.2)
    have hin : wState x.2 ∈ (lOne acc x.2).1 := by
      unfold lOne
      split
      · assumption
      · simp
    have hsub : ∀ s ∈ acc.1, s ∈ (lOne acc x.2).1 := by
      intro s hs
      unfold lOne
      split
      · exact hs
      · exact List.mem_append_left _ hs
    have hsub2 : ∀ W ∈ acc.2, W ∈ (lOne acc x.2).2 := by
      intro s hs
      unfold lOne
      split
      · exact hs
      · exact List.mem_append_left _ hs
    have hold : ∀ s ∈ (lOne acc x.2).1, s ∈ acc.1 ∨ ∃ W ∈ (lOne acc x.2).2, wState W = s := by
      intro s hs
      unfold lOne at hs ⊢
      split at hs
      · rename_i h; rw [if_pos h]; exact .inl hs
      · rename_i h
        rw [if_neg h]
        rcases List.mem_append.mp hs with q | q
        · exact .inl q
        · exact .inr ⟨x.2, by simp, (List.mem_singleton.mp q).symm⟩
    have hold2 : ∀ W ∈ (lOne acc x.2).2, W ∈ acc.2 ∨ x.2 = W := by
      intro W hW
      unfold lOne at hW
      split at hW
      · exact .inl hW
      · rcases List.mem_append.mp hW with q | q
        · exact .inl q
        · exact .inr (List.mem_singleton.mp q).symm
    refine ⟨fun s hs => i1 s (hsub s hs), fun y hy => ?_, fun s hs => ?_, fun W hW => ?_, fun W hW => i5 W (hsub2 W hW)⟩
    · rcases List.mem_cons.mp hy with rfl | hy
      · exact i1 _ hin
      · exact i2 y hy
    · rcases i3 s hs with q | q
      · rcases hold s q with r | ⟨W, h1, h2⟩
        · exact .inl r
        · exact .inr ⟨W, i5 W h1, h2⟩
      · exact .inr q
    · rcases i4 W hW with q | ⟨y, hy, e⟩
      · rcases hold2 W q with r | r
        · exact .inl r
        · exact .inr ⟨x, List.mem_cons_self .., r⟩
      · exact .inr ⟨y, List.mem_cons_of_mem _ hy, e⟩
theorem lfoldAll_mem : ∀ (ws : List Wld) (acc : LAcc), (∀ s ∈ acc.1, s ∈ (ws.foldl (lAll steps o net) acc).1) ∧ (∀ W ∈ ws, ∀ x ∈ nextsW steps W o net, wState x.2 ∈ (ws.foldl (lAll steps o net) acc).1) ∧
    (∀ s ∈ (ws.foldl (lAll steps o net) acc).1, s ∈ acc.1 ∨ ∃ W ∈ (ws.foldl (lAll steps o net) acc).2, wState W = s) ∧
    (∀ V ∈ (ws.foldl (lAll steps o net) acc).2, V ∈ acc.2 ∨ ∃ W ∈ ws, ∃ x ∈ nextsW steps W o net, x.2 = V) ∧ (∀ V ∈ acc.2, V ∈ (ws.foldl (lAll steps o net) acc).2)
  | [], acc => ⟨fun _ h => h, fun _ h => (by cases h), fun _ h => .inl h, fun _ h => .inl h, fun _ h => h⟩
  | W :: ws, acc => by
    obtain ⟨i1, i2, i3, i4, i5⟩ := lfoldAll_mem ws (lAll steps o net acc W)
    obtain ⟨j1, j2, j3, j4, j5⟩ := lfold_mem (nextsW steps W o net) acc
    refine ⟨fun s hs => i1 s (j1 s hs), fun V hV x hx => ?_, fun s hs => ?_, fun V hV => ?_, fun V hV => i5 V (j5 V hV)⟩
    · rcases List.mem_cons.mp hV with rfl | hV
      · exact i1 _ (j2 x hx)
      · exact i2 V hV x hx
    · rcases i3 s hs with q | q
      · rcases j3 s q with r | ⟨V, h1, h2⟩
        · exact .inl r
        · exact .inr ⟨V, i5 V h1, h2⟩
      · exact .inr q
    · rcases i4 V hV with q | ⟨U, hU, x, hx, e⟩
      · rcases j4 V q with r | ⟨x, hx, e⟩
        · exact .inl r
        · exact .inr ⟨W, List.mem_cons_self .., x, hx, e⟩
      · exact .inr ⟨U, List.mem_cons_of_mem _ hU, x, hx, e⟩
/-- each world of a layer is right, and its state is reached -/
theorem lAt_sound (so : scrOk steps) (h0 : 0 < steps.length) : ∀ n, ∀ W ∈ (lAt steps o net n).2, WG steps W ∧ Rch steps o net n (wState W)
  | 0, W, h => by
    obtain ⟨v, hv, rfl⟩ := List.mem_map.mp h
    refine ⟨start_good h0 v, ?_⟩
    rw [start_state]
    exact List.mem_map.mpr ⟨v, hv, rfl⟩
  | n + 1, W, h => by
    obtain ⟨_, _, _, i4, _⟩ := lfoldAll_mem (steps := steps) (o := o) (net := net) (lAt steps o net n).2 ((lAt steps o net n).1, [])
    rcases i4 W h with q | ⟨V, hV, x, hx, rfl⟩
    · cases q
    · obtain ⟨gV, rV⟩ := lAt_sound so h0 n V hV
      obtain ⟨h1, h2, h3⟩ := nexts_sim so gV x hx
      exact ⟨h3, wState V, x.1, rV, h1, h2⟩
theorem lAt_known : ∀ n, ∀ s ∈ (lAt steps o net n).1, ∃ m, m ≤ n ∧ ∃ W ∈ (lAt steps o net m).2, wState W = s
  | 0, s, h => by cases h
  | n + 1, s, h => by
    obtain ⟨_, _, i3, _, _⟩ := lfoldAll_mem (steps := steps) (o := o) (net := net) (lAt steps o net n).2 ((lAt steps o net n).1, [])
    rcases i3 s h with q | ⟨W, hW, e⟩
    · obtain ⟨m, hm, r⟩ := lAt_known n s q
      exact ⟨m, by omega, r⟩
    · exact ⟨n + 1, Nat.le_refl _, W, hW, e⟩
/-- each state that is reached is that of a world in a layer -/
theorem lAt_full (so : scrOk steps) (h0 : 0 < steps.length) : ∀ n s, Rch steps o net n s → ∃ m, m ≤ n ∧ ∃ W ∈ (lAt steps o net m).2, wState W = s
  | 0, s, h => by
    obtain ⟨v, hv, rfl⟩ := List.mem_map.mp h
    exact ⟨0, Nat.le_refl _, startW v, List.mem_map.mpr ⟨v, hv, rfl⟩, start_state v⟩
  | n + 1, t, ⟨s, e, hs, he, ht⟩ => by
    obtain ⟨m, hm, W, hW, rfl⟩ := lAt_full so h0 n s hs
    obtain ⟨gW, _⟩ := lAt_sound so h0 m W hW
    have hx := events_nexts so gW he
    obtain ⟨_, h2, _⟩ := nexts_sim so gW _ hx
    obtain ⟨_, i2, _, _, _⟩ := lfoldAll_mem (steps := steps) (o := o) (net := net) (lAt steps o net m).2 ((lAt steps o net m).1, [])
    have h3 := i2 W hW _ hx
    rw [h2, ← ht] at h3
    obtain ⟨k, hk, r⟩ := lAt_known (m + 1) t h3
    exact ⟨k, by omega, r⟩
theorem lAt_empty {n : Nat} (h : (lAt steps o net n).2 = []) : ∀ k, (lAt steps o net (n + k)).2 = []
  | 0 => h
  | k + 1 => by
    show (lLayer steps o net (lAt steps o net (n + k))).2 = []
    unfold lLayer
    rw [lAt_empty h k]
    rfl
/-- least tells the least -/
theorem least_spec (so : scrOk steps) (h0 : 0 < steps.length) (p : Pr) : ∀ r, LeastIs steps o net p r → match r with
    | some n => (∃ s, Rch steps o net n s ∧ isBadS steps p s = true) ∧ ∀ m s, m < n → Rch steps o net m s → isBadS steps p s = false
    | none => ∀ m s, Rch steps o net m s → isBadS steps p s = false
  | some n, ⟨h1, h2⟩ => by
    refine ⟨?_, fun m s hm hs => ?_⟩
    · obtain ⟨W, hW, e⟩ := List.any_eq_true.mp h2
      exact ⟨wState W, (lAt_sound so h0 n W hW).2, by rw [← over_eq]; exact e⟩
    · obtain ⟨k, hk, W, hW, rfl⟩ := lAt_full so h0 m s hs
      have := h1 k (by omega)
      unfold overAny at this
      rw [List.any_eq_false] at this
      rw [← over_eq]
      exact Bool.not_eq_true _ ▸ this W hW
  | none, ⟨n, h1, h2⟩ => by
    intro m s hs
    obtain ⟨k, hk, W, hW, rfl⟩ := lAt_full so h0 m s hs
    have hkn : k < n := by
      refine Nat.lt_of_not_le fun hle => ?_
      have := lAt_empty h1 (k - n)
      rw [show n + (k - n) = k by omega] at this
      rw [this] at hW
      cases hW
    have := h2 k hkn
    unfold overAny at this
    rw [List.any_eq_false] at this
    rw [← over_eq]
    exact Bool.not_eq_true _ ▸ this W hW
end
end Dn
set_option Elab.async false
set_option linter.all false
set_option maxRecDepth 100000
set_option maxHeartbeats 4000000
namespace Dn
/-! ### the search of the program is by depth -/
def Dep (steps : List Stp) (o : Oth) (net : Net) (n : Nat) (s : Sta) : Prop := Rch steps o net n s ∧ ∀ m, m < n → ¬ Rch steps o net m s
section
variable {steps : List Stp} {o : Oth} {net : Net}
theorem Dep.uniq {i j : Nat} {s : Sta} (a : Dep steps o net i s) (b : Dep steps o net j s) : i = j := by
  refine Nat.le_antisymm (Nat.le_of_not_lt fun h => a.2 j h b.1) (Nat.le_of_not_lt fun h => b.2 i h a.1)
theorem dep_of : ∀ (n : Nat) {s : Sta}, Rch steps o net n s → ∃ k, k ≤ n ∧ Dep steps o net k s := by
  intro n
  induction n using Nat.strongRecOn with
  | _ n ih =>
    intro s h
    by_cases q : ∃ m, m < n ∧ Rch steps o net m s
    · obtain ⟨m, hm, r⟩ := q
      obtain ⟨k, hk, d⟩ := ih m hm r
      exact ⟨k, by omega, d⟩
    · exact ⟨n, Nat.le_refl _, h, fun m hm r => q ⟨m, hm, r⟩⟩
def ParOk (steps : List Stp) (o : Oth) (net : Net) (fps : List Fp) (x : Fp) : Prop :=
  (x.2 = none ∧ x.1 ∈ firsts) ∨ ∃ s e k, x.2 = some (s, e) ∧ e ∈ eventsIn steps s o net ∧ x.1 = stepped steps s e net ∧ s ∈ fps.map (·.1) ∧ Dep steps o net k s ∧ Dep steps o net (k + 1) x.1
theorem ParOk.mono {fps fps' : List Fp} {x : Fp} (h : ∀ s ∈ fps.map (·.1), s ∈ fps'.map (·.1)) (a : ParOk steps o net fps x) : ParOk steps o net fps' x := by
  rcases a with a | ⟨s, e, k, h1, h2, h3, h4, h5⟩
  · exact .inl a
  · exact .inr ⟨s, e, k, h1, h2, h3, h _ h4, h5⟩
def Ord (steps : List Stp) (o : Oth) (net : Net) (a b : Sta) : Prop := ∀ i j, Dep steps o net i a → Dep steps o net j b → i ≤ j
/-- while a layer is made -/
structure LayJ (steps : List Stp) (o : Oth) (net : Net) (n : Nat) (base : List Sta) (acc : Acc) : Prop where
  old : ∀ s ∈ base, s ∈ acc.1.map (·.1)
  new : ∀ s ∈ acc.1.map (·.1), s ∈ base ∨ s ∈ acc.2
  lat : ∀ s ∈ acc.2, s ∈ acc.1.map (·.1) ∧ Dep steps o net (n + 1) s
  dep : ∀ s ∈ acc.1.map (·.1), ∃ k, k ≤ n + 1 ∧ Dep steps o net k s
  ord : (acc.1.map (·.1)).Pairwise (Ord steps o net)
  par : ∀ x ∈ acc.1, ParOk steps o net acc.1 x
variable {n : Nat} {base : List Sta} {acc : Acc}
theorem keys_one {s : Sta} {e : Ev} : (∀ t ∈ acc.1.map (·.1), t ∈ (addOne steps net s acc e).1.map (·.1)) ∧ stepped steps s e net ∈ (addOne steps net s acc e).1.map (·.1) := by
  unfold addOne
  split
  · exact ⟨fun _ h => h, by assumption⟩
  · rw [List.map_append]
    exact ⟨fun _ h => List.mem_append_left _ h, List.mem_append_right _ (by simp)⟩
theorem LayJ.one (hb : ∀ m, m ≤ n → ∀ t, Rch steps o net m t → t ∈ base) {s : Sta} {e : Ev} (hs : Dep steps o net n s) (hsb : s ∈ base) (he : e ∈ eventsIn steps s o net) (a : LayJ steps o net n base acc) : LayJ steps o net n base (addOne steps net s acc e) := by
  unfold addOne
  split
  · exact a
  · rename_i hn
    have dt : Dep steps o net (n + 1) (stepped steps s e net) := ⟨⟨s, e, hs.1, he, rfl⟩, fun m hm r => hn (a.old _ (hb m (by omega) _ r))⟩
    have sub : ∀ t ∈ acc.1.map (·.1), t ∈ (acc.1 ++ [(stepped steps s e net, some (s, e))]).map (·.1) := fun t h => by
      rw [List.map_append]; exact List.mem_append_left _ h
    refine ⟨fun t h => sub _ (a.old t h), fun t h => ?_, fun t h => ?_, fun t h => ?_, ?_, fun x h => ?_⟩
    · rw [List.map_append] at h
      rcases List.mem_append.mp h with h | h
      · rcases a.new t h with q | q
        · exact .inl q
        · exact .inr (List.mem_append_left _ q)
      · exact .inr (List.mem_append_right _ (by simpa using h))
    · rcases List.mem_append.mp h with h | h
      · exact ⟨sub _ (a.lat t h).1, (a.lat t h).2⟩
      · rw [List.mem_singleton] at h
        subst h
        exact ⟨by rw [List.map_append]; exact List.mem_append_right _ (by simp), dt⟩
    · rw [List.map_append] at h
      rcases List.mem_append.mp h with h | h
      · exact a.dep t h
      · have h : t = stepped steps s e net := by simpa using h
        subst h
        exact ⟨n + 1, Nat.le_refl _, dt⟩
    · rw [List.map_append]
      refine List.pairwise_append.mpr ⟨a.ord, by simp, fun x hx y hy => ?_⟩
      have hy : y = stepped steps s e net := by simpa using hy
      subst hy
      intro i j d1 d2
      obtain ⟨k, hk, d⟩ := a.dep x hx
      rw [d1.uniq d, d2.uniq dt]
      exact hk
    · rcases List.mem_append.mp h with h | h
      · exact (a.par x h).mono sub
      · rw [List.mem_singleton] at h
        subst h
        exact .inr ⟨s, e, n, rfl, he, rfl, sub _ (a.old s hsb), hs, dt⟩
theorem LayJ.fold (hb : ∀ m, m ≤ n → ∀ t, Rch steps o net m t → t ∈ base) {s : Sta} (hs : Dep steps o net n s) (hsb : s ∈ base) : ∀ (es : List Ev) (acc : Acc), (∀ e ∈ es, e ∈ eventsIn steps s o net) → LayJ steps o net n base acc →
    LayJ steps o net n base (es.foldl (addOne steps net s) acc) ∧ (∀ t ∈ acc.1.map (·.1), t ∈ (es.foldl (addOne steps net s) acc).1.map (·.1)) ∧ ∀ e ∈ es, stepped steps s e net ∈ (es.foldl (addOne steps net s) acc).1.map (·.1)
  | [], _, _, a => ⟨a, fun _ h => h, fun _ h => (by cases h)⟩
  | e :: es, acc, h, a => by
    obtain ⟨i1, i2, i3⟩ := LayJ.fold hb hs hsb es _ (fun x hx => h x (List.mem_cons_of_mem _ hx)) (a.one hb hs hsb (h e (List.mem_cons_self ..)))
    have k := keys_one (steps := steps) (net := net) (acc := acc) (s := s) (e := e)
    refine ⟨i1, fun t ht => i2 t (k.1 t ht), fun x hx => ?_⟩
    rcases List.mem_cons.mp hx with rfl | hx
    · exact i2 _ k.2
    · exact i3 x hx
theorem LayJ.foldAll (hb : ∀ m, m ≤ n → ∀ t, Rch steps o net m t → t ∈ base) : ∀ (ws : List Sta) (acc : Acc), (∀ s ∈ ws, Dep steps o net n s ∧ s ∈ base) → LayJ steps o net n base acc →
    LayJ steps o net n base (ws.foldl (addAll steps o net) acc) ∧ (∀ t ∈ acc.1.map (·.1), t ∈ (ws.foldl (addAll steps o net) acc).1.map (·.1)) ∧ ∀ s ∈ ws, ∀ e ∈ eventsIn steps s o net, stepped steps s e net ∈ (ws.foldl (addAll steps o net) acc).1.map (·.1)
  | [], _, _, a => ⟨a, fun _ h => h, fun _ h => (by cases h)⟩
  | s :: ws, acc, h, a => by
    have hs := h s (List.mem_cons_self ..)
    obtain ⟨j1, j2, j3⟩ := LayJ.fold hb hs.1 hs.2 (eventsIn steps s o net) acc (fun _ h => h) a
    obtain ⟨i1, i2, i3⟩ := LayJ.foldAll hb ws _ (fun x hx => h x (List.mem_cons_of_mem _ hx)) j1
    refine ⟨i1, fun t ht => i2 t (j2 t ht), fun x hx e he => ?_⟩
    rcases List.mem_cons.mp hx with rfl | hx
    · exact i2 _ (j3 e he)
    · exact i3 x hx e he
/-- a layer that is made -/
structure LayI (steps : List Stp) (o : Oth) (net : Net) (n : Nat) (acc : Acc) : Prop where
  lat : ∀ s, s ∈ acc.2 ↔ Dep steps o net n s
  all : ∀ s, s ∈ acc.1.map (·.1) ↔ ∃ k, k ≤ n ∧ Rch steps o net k s
  ord : (acc.1.map (·.1)).Pairwise (Ord steps o net)
  par : ∀ x ∈ acc.1, ParOk steps o net acc.1 x
theorem LayI.dep (a : LayI steps o net n acc) {s : Sta} (h : s ∈ acc.1.map (·.1)) : ∃ k, k ≤ n ∧ Dep steps o net k s := by
  obtain ⟨k, hk, r⟩ := (a.all s).mp h
  obtain ⟨j, hj, d⟩ := dep_of k r
  exact ⟨j, by omega, d⟩
theorem lay_next (a : LayI steps o net n acc) : LayI steps o net (n + 1) (layerOf steps o net acc) := by
  have hb : ∀ m, m ≤ n → ∀ t, Rch steps o net m t → t ∈ acc.1.map (·.1) := fun m hm t r => (a.all t).mpr ⟨m, hm, r⟩
  have hw : ∀ s ∈ acc.2, Dep steps o net n s ∧ s ∈ acc.1.map (·.1) := fun s hs => ⟨(a.lat s).mp hs, hb n (Nat.le_refl _) s ((a.lat s).mp hs).1⟩
  obtain ⟨j, _, h3⟩ := LayJ.foldAll hb acc.2 (acc.1, []) hw ⟨fun _ h => h, fun _ h => .inl h, fun _ h => (by cases h), fun s h => by
    obtain ⟨k, hk, d⟩ := a.dep h
    exact ⟨k, by omega, d⟩, a.ord, a.par⟩
  have full : ∀ t, Rch steps o net (n + 1) t → t ∈ (layerOf steps o net acc).1.map (·.1) := by
    rintro t ⟨s, e, hs, he, rfl⟩
    obtain ⟨k, hk, d⟩ := dep_of n hs
    by_cases q : k = n
    · subst q
      exact h3 s ((a.lat s).mpr d) e he
    · exact j.old _ (hb (k + 1) (by omega) _ ⟨s, e, d.1, he, rfl⟩)
  refine ⟨fun s => ⟨fun h => (j.lat s h).2, fun d => ?_⟩, fun s => ⟨fun h => ?_, fun ⟨k, hk, r⟩ => ?_⟩, j.ord, j.par⟩
  · rcases j.new s (full s d.1) with q | q
    · obtain ⟨k, hk, r⟩ := (a.all s).mp q
      exact absurd r (d.2 k (by omega))
    · exact q
  · obtain ⟨k, hk, d⟩ := j.dep s h
    exact ⟨k, hk, d.1⟩
  · by_cases q : k = n + 1
    · subst q; exact full s r
    · exact j.old _ (hb k (by omega) s r)
theorem lay_at : ∀ n, LayI steps o net n (waysAt steps o net n)
  | 0 => by
    have e : (waysAt steps o net 0).1.map (·.1) = firsts := by show (firsts.map fun s => (s, none)).map (·.1) = firsts; rw [List.map_map]; exact List.map_id _
    refine ⟨fun s => ⟨fun h => ⟨h, fun m hm => by omega⟩, fun d => d.1⟩, fun s => ?_, ?_, fun x h => ?_⟩
    · rw [e]
      exact ⟨fun h => ⟨0, Nat.le_refl _, h⟩, fun ⟨k, hk, r⟩ => by
        have : k = 0 := by omega
        subst this
        exact r⟩
    · rw [e]
      refine List.Pairwise.imp_of_mem (R := fun _ _ => True) ?_ (List.pairwise_of_forall fun _ _ => trivial)
      intro x y hx hy _ i j d1 d2
      have := Dep.uniq d1 (⟨hx, fun m hm => by omega⟩ : Dep steps o net 0 x)
      omega
    · obtain ⟨s, hs, rfl⟩ := List.mem_map.mp h
      exact .inl ⟨rfl, hs⟩
  | n + 1 => lay_next (lay_at n)
/-! ### the way to a state -/
def runS (steps : List Stp) (net : Net) : Sta → List Ev → Sta
  | s, [] => s
  | s, e :: es => runS steps net (stepped steps s e net) es
def runSOk (steps : List Stp) (o : Oth) (net : Net) : Sta → List Ev → Prop
  | _, [] => True
  | s, e :: es => e ∈ eventsIn steps s o net ∧ runSOk steps o net (stepped steps s e net) es
theorem runS_snoc {e : Ev} : ∀ {es : List Ev} {s : Sta}, runS steps net s (es ++ [e]) = stepped steps (runS steps net s es) e net
  | [], s => rfl
  | x :: es, s => runS_snoc (es := es)
theorem runSOk_snoc {e : Ev} : ∀ {es : List Ev} {s : Sta}, runSOk steps o net s es → e ∈ eventsIn steps (runS steps net s es) o net → runSOk steps o net s (es ++ [e])
  | [], s, _, h => ⟨h, trivial⟩
  | x :: es, s, a, h => ⟨a.1, runSOk_snoc (es := es) a.2 h⟩
theorem chain_of (a : LayI steps o net n acc) : ∀ (k : Nat) (s : Sta), s ∈ acc.1.map (·.1) → Dep steps o net k s → ∃ es f, Chain acc.1 s es f ∧ es.length = k ∧ f ∈ firsts ∧ runSOk steps o net f es ∧ runS steps net f es = s := by
  intro k
  induction k with
  | zero =>
    intro s h d
    obtain ⟨x, hx, rfl⟩ := List.mem_map.mp h
    rcases a.par x hx with ⟨h1, h2⟩ | ⟨s', e, k, h1, h2, h3, h4, h5, h6⟩
    · refine ⟨[], x.1, .nil ?_, rfl, h2, trivial, rfl⟩
      rw [← h1]
      exact hx
    · have := d.uniq h6
      omega
  | succ k ih =>
    intro s h d
    obtain ⟨x, hx, rfl⟩ := List.mem_map.mp h
    rcases a.par x hx with ⟨h1, h2⟩ | ⟨s', e, k', h1, h2, h3, h4, h5, h6⟩
    · exact absurd (show Rch steps o net 0 x.1 from h2) (d.2 0 (by omega))
    · have e1 := d.uniq h6
      have e1 : k' = k := by omega
      subst e1
      obtain ⟨es, f, c, hl, hf, r1, r2⟩ := ih s' h4 h5
      refine ⟨es ++ [e], f, .step (s' := s') ?_ c, by simp [hl], hf, runSOk_snoc r1 (by rw [r2]; exact h2), by rw [runS_snoc, r2]; exact h3.symm⟩
      rw [← h1]
      exact hx
/-! ### the run of the worlds -/
theorem run_sim (so : scrOk steps) : ∀ (es : List Ev) (W : Wld), WG steps W → runSOk steps o net (wState W) es → runOk steps o net W es ∧ wState (runW steps net W es) = runS steps net (wState W) es
  | [], W, _, _ => ⟨trivial, rfl⟩
  | e :: es, W, g, h => by
    have hx := events_nexts so g h.1
    obtain ⟨_, h2, h3⟩ := nexts_sim so g _ hx
    have h2' : wState (behindW steps W e net) = stepped steps (wState W) e net := h2
    obtain ⟨i1, i2⟩ := run_sim so es (behindW steps W e net) h3 (by rw [h2']; exact h.2)
    refine ⟨⟨?_, i1⟩, ?_⟩
    · obtain ⟨x, hx1, hx2⟩ := List.mem_map.mp hx
      have : x = e := congrArg Prod.fst hx2
      subst this
      exact (List.mem_filter.mp hx1).2
    · show wState (runW steps net (behindW steps W e net) es) = runS steps net (stepped steps (wState W) e net) es
      rw [i2, h2']
end
end Dn
set_option Elab.async false
set_option linter.all false
set_option maxRecDepth 100000
set_option maxHeartbeats 4000000
namespace Dn
section
variable {steps : List Stp} {o : Oth} {net : Net} {U : List Sta}
theorem dep_lt (B : Bnd steps o net U) {k : Nat} {s : Sta} (d : Dep steps o net k s) : k < waysN := by
  refine Nat.lt_of_not_le fun h => ?_
  have e := waysAt_end B
  have e2 := waysAt_stays e (k - waysN)
  rw [show waysN + (k - waysN) = k by omega] at e2
  have := ((lay_at (steps := steps) (o := o) (net := net) k).lat s).mpr d
  rw [e2, e] at this
  cases this
theorem waysF_keys (B : Bnd steps o net U) (s : Sta) : s ∈ (waysF steps o net).map (·.1) ↔ ∃ k, Rch steps o net k s := by
  have hd : ∀ k s, Dep steps o net k s → k < waysN := fun k s d => dep_lt B d
  unfold waysF
  generalize waysN = N at hd
  refine ⟨fun h => ?_, fun ⟨k, r⟩ => ?_⟩
  · obtain ⟨k, _, r⟩ := ((lay_at N).all s).mp h
    exact ⟨k, r⟩
  · obtain ⟨j, _, d⟩ := dep_of k r
    exact ((lay_at N).all s).mpr ⟨j, Nat.le_of_lt (hd j s d), d.1⟩
/-- the search answers the least -/
theorem none_spec (so : scrOk steps) (h0 : 0 < steps.length) (B : Bnd steps o net U) (p : Pr) (h : LeastIs steps o net p none) : badsOf steps o net p = [] := by
  have hm := least_spec so h0 p none h
  refine List.filter_eq_nil_iff.mpr fun s hs => ?_
  obtain ⟨k, r⟩ := (waysF_keys B s).mp hs
  rw [hm k s r]
  decide
def WayIs (steps : List Stp) (o : Oth) (net : Net) (p : Pr) (n : Nat) (es : List Ev) (v : Srv) : Prop := ∃ s rs, badsOf steps o net p = s :: rs ∧ Chain (waysF steps o net) s es (firstOf v) ∧ es.length = n ∧ es.length < 10000 ∧ runOk steps o net (startW v) es ∧ isOverW steps p (runW steps net (startW v) es) = true
theorem some_spec (so : scrOk steps) (h0 : 0 < steps.length) (B : Bnd steps o net U) (p : Pr) (n : Nat) (h : LeastIs steps o net p (some n)) : ∃ es v, WayIs steps o net p n es v := by
  obtain ⟨⟨s0, r0, b0⟩, hm⟩ := least_spec so h0 p (some n) h
  have hin : s0 ∈ badsOf steps o net p := List.mem_filter.mpr ⟨(waysF_keys B s0).mpr ⟨n, r0⟩, b0⟩
  unfold WayIs
  match hb : badsOf steps o net p with
  | [] => rw [hb] at hin; cases hin
  | s :: rs =>
    have hs : s ∈ badsOf steps o net p := by rw [hb]; exact List.mem_cons_self ..
    obtain ⟨hk, hbad⟩ := List.mem_filter.mp hs
    obtain ⟨k0, r⟩ := (waysF_keys B s).mp hk
    obtain ⟨k, _, d⟩ := dep_of k0 r
    have hkn : n ≤ k := Nat.le_of_not_lt fun q => by
      have := hm k s q d.1
      rw [this] at hbad
      cases hbad
    obtain ⟨j, hj, d0⟩ := dep_of n r0
    have hle : k ≤ j := by
      have ho : ((waysF steps o net).map (·.1)).Pairwise (Ord steps o net) := (lay_at waysN).ord
      have hf : (badsOf steps o net p).Pairwise (Ord steps o net) := ho.filter _
      rw [hb] at hf hin
      rcases List.mem_cons.mp hin with rfl | q
      · exact Nat.le_of_eq (d.uniq d0)
      · exact (List.pairwise_cons.mp hf).1 s0 q k j d d0
    have hk' : k = n := by omega
    subst hk'
    have hlt := dep_lt B d
    obtain ⟨es, f, c, hl, hf, r1, r2⟩ := chain_of (lay_at waysN) k s hk d
    obtain ⟨v, _, rfl⟩ := List.mem_map.mp hf
    have hr := run_sim so es (startW v) (start_good h0 v) (by rw [start_state]; exact r1)
    refine ⟨es, v, s, rs, rfl, c, hl, by unfold waysN at hlt; omega, hr.1, ?_⟩
    rw [over_eq, hr.2, start_state, r2]
    exact hbad
end
end Dn
set_option Elab.async false
set_option linter.all false
set_option maxRecDepth 100000
set_option maxHeartbeats 4000000
namespace Dn
/-! ### the states are few -/
def cvL : Srv → List Copy
  | .fresh => [none, some ⟨false, false, false, false⟩, some ⟨false, false, true, true⟩, some ⟨false, true, false, false⟩, some ⟨false, true, true, true⟩, some ⟨true, true, true, true⟩]
  | .gone => [none, some ⟨false, false, false, false⟩, some ⟨false, false, false, true⟩]
  | .never => [none]
  | .there => [none, some ⟨false, false, false, false⟩, some ⟨false, false, true, false⟩, some ⟨false, true, false, false⟩, some ⟨false, true, true, false⟩, some ⟨true, true, true, false⟩]
theorem cv_none (v : Srv) : (none : Copy) ∈ cvL v := by cases v <;> decide
theorem cv_act (v : Srv) (k : Copy) (a : Act) (h : k ∈ cvL v) : copyAfter v k a ∈ cvL (serverAfter v a) := by
  have : ∀ k ∈ cvL v, copyAfter v k a ∈ cvL (serverAfter v a) := by cases v <;> cases a <;> decide
  exact this k h
theorem cv_present (v : Srv) (h : v.isThere = true) : present v ∈ cvL v := by cases v <;> first | (exact absurd h (by decide)) | decide
def sameC : Copy → Bool
  | none => false
  | some c => c.same
theorem same_act (v : Srv) (k : Copy) (a : Act) (h : a ≠ .tick) : sameC (copyAfter v k a) = false := by
  cases k <;> cases a <;> first | rfl | exact absurd rfl h
theorem same_tick (v : Srv) (k : Copy) : sameC (copyAfter v k .tick) = sameC k := by cases k <;> rfl
def nz : Dn3 → Bool
  | .zero => false | _ => true
def invL (kn ow : Bool) : Late → Bool
  | none => true
  | some (_, k, m) => (!m || (kn || ow)) && (!sameC k || (ow && kn && m))
def invB (two : Bool) (c : Copy) (kn ow : Bool) (d : Dn3) (l : Late) : Bool := !two || ((!ow || nz d) && (!sameC c || (ow && kn)) && invL kn ow l)
structure Oky (N : Nat) (L : List Nat) (two : Bool) (s : Sta) : Prop where
  step : s.step < N
  cv : s.copy ∈ cvL s.srv
  lt : ∀ n k m, s.late = some (n, k, m) → n ∈ L ∧ k ∈ cvL s.srv
  inv : invB two s.copy s.known s.own s.done s.late = true
section
variable {N : Nat} {L : List Nat} {two : Bool} {s : Sta}
theorem Oky.at' (h : Oky N L two s) {n : Nat} (hn : n < N) : Oky N L two (s.at n) := ⟨hn, h.cv, h.lt, h.inv⟩
theorem Oky.acted' (h : Oky N L two s) (a : Act) (ha : a ≠ .tick) (own : Bool) : Oky N L two (acted s a own) := by
  obtain ⟨v, n, c, kn, ow, d, lt⟩ := s
  obtain ⟨h1, h2, h3, h4⟩ := h
  refine ⟨h1, cv_act v c a h2, fun n' k' m' e => ?_, ?_⟩
  · cases lt with
    | none => cases e
    | some x =>
      obtain ⟨n0, k0, m0⟩ := x
      cases e
      obtain ⟨q1, q2⟩ := h3 n' k0 m0 rfl
      exact ⟨q1, cv_act v k0 a q2⟩
  · cases two with
    | false => rfl
    | true =>
      cases lt with
      | none => cases own <;> cases d <;> simp [acted, invB, invL, same_act v _ a ha, nz, Dn3.inc]
      | some x =>
        obtain ⟨n0, k0, m0⟩ := x
        cases own <;> cases d <;> simp [acted, invB, invL, same_act v _ a ha, nz, Dn3.inc]
theorem Oky.ticked' (h : Oky N L two s) : Oky N L two (ticked s) := by
  obtain ⟨v, n, c, kn, ow, d, lt⟩ := s
  obtain ⟨h1, h2, h3, h4⟩ := h
  refine ⟨h1, cv_act v c .tick h2, fun n' k' m' e => ?_, ?_⟩
  · cases lt with
    | none => cases e
    | some x =>
      obtain ⟨n0, k0, m0⟩ := x
      cases e
      obtain ⟨q1, q2⟩ := h3 n' k0 m' rfl
      exact ⟨q1, cv_act v k0 .tick q2⟩
  · cases lt with
    | none => simpa [ticked, invB, invL, same_tick] using h4
    | some x => simpa [ticked, invB, invL, same_tick] using h4
theorem Oky.seen' (h : Oky N L two s) {k : Copy} (hk : k ∈ cvL s.srv) (h2 : two = true → sameC k = true → s.own = true) : Oky N L two (s.seen k) := by
  obtain ⟨v, n, c, kn, ow, d, lt⟩ := s
  obtain ⟨g1, g2, g3, g4⟩ := h
  refine ⟨g1, hk, g3, ?_⟩
  cases two with
  | false => rfl
  | true =>
    have h2 := h2 rfl
    have h2 : sameC k = true → ow = true := h2
    have g4 : ((!ow || nz d) && (!sameC c || (ow && kn)) && invL kn ow lt) = true := g4
    show ((!ow || nz d) && (!sameC k || (ow && true)) && invL true ow lt) = true
    cases lt with
    | none => cases hs : sameC k <;> cases ow <;> simp_all [invL]
    | some x =>
      obtain ⟨n0, k0, m0⟩ := x
      cases hs : sameC k <;> cases ow <;> cases m0 <;> simp_all [invL]
theorem Oky.forget' (h : Oky N L two s) : Oky N L two { s with copy := none } := by
  obtain ⟨v, n, c, kn, ow, d, lt⟩ := s
  obtain ⟨g1, g2, g3, g4⟩ := h
  refine ⟨g1, cv_none v, g3, ?_⟩
  cases two with
  | false => rfl
  | true =>
    have g4 : ((!ow || nz d) && (!sameC c || (ow && kn)) && invL kn ow lt) = true := g4
    show ((!ow || nz d) && (!false || (ow && kn)) && invL kn ow lt) = true
    simp_all
theorem Oky.sends (h : Oky N L two s) {n : Nat} {k : Copy} {m : Bool} (hn : n ∈ L) (hk : k ∈ cvL s.srv) (h2 : two = true → invL s.known s.own (some (n, k, m)) = true) : Oky N L two { s with late := some (n, k, m) } := by
  obtain ⟨v, n0, c, kn, ow, d, lt⟩ := s
  obtain ⟨g1, g2, g3, g4⟩ := h
  refine ⟨g1, g2, fun n' k' m' e => ?_, ?_⟩
  · cases e
    exact ⟨hn, hk⟩
  · cases two with
    | false => rfl
    | true =>
      have h2 := h2 rfl
      have g4 : ((!ow || nz d) && (!sameC c || (ow && kn)) && invL kn ow lt) = true := g4
      show ((!ow || nz d) && (!sameC c || (ow && kn)) && invL kn ow (some (n, k, m))) = true
      have h2 : invL kn ow (some (n, k, m)) = true := h2
      rw [h2]
      simp_all
theorem Oky.came (h : Oky N L two s) : Oky N L two { s with late := none } := by
  obtain ⟨v, n0, c, kn, ow, d, lt⟩ := s
  obtain ⟨g1, g2, g3, g4⟩ := h
  refine ⟨g1, g2, fun n' k' m' e => (by cases e), ?_⟩
  cases two with
  | false => rfl
  | true =>
    have g4 : ((!ow || nz d) && (!sameC c || (ow && kn)) && invL kn ow lt) = true := g4
    show ((!ow || nz d) && (!sameC c || (ow && kn)) && true) = true
    simp_all
theorem got_read {v : Srv} {k : Copy} {one : Stp} (h : answer v k one = .got) : one.writes = false ∧ v.isThere = true := by
  cases one with
  | read c a b u e l => 
    refine ⟨rfl, ?_⟩
    unfold answer at h
    cases hv : v.isThere with
    | true => rfl
    | false => rw [hv] at h; simp at h
  | put c z y n l => unfold answer at h; cases hh : holds v k c <;> simp [hh] at h
  | take c y n a l => unfold answer at h; cases hv : v.isThere <;> cases hb : bare k c <;> cases hh : holds v k c <;> simp [hv, hb, hh] at h
  | _ => cases h
theorem yes_writes {v : Srv} {k : Copy} {one : Stp} (h : answer v k one = .yes) : one.writes = true := by
  cases one with
  | read c a b u e l => unfold answer at h; cases hv : v.isThere <;> cases hb : bare k c <;> cases hh : fits k c <;> simp [hv, hb, hh] at h
  | put c z y n l => rfl
  | take c y n a l => rfl
  | _ => cases h
theorem act_ne (one : Stp) : one.act ≠ .tick := by
  cases one with
  | put c z y n l => cases z <;> exact fun h => (by cases h)
  | _ => exact fun h => (by cases h)
theorem fresh_cv : (some ⟨true, true, true, true⟩ : Copy) ∈ cvL .fresh := by decide
theorem put_cv {v : Srv} {one : Stp} (h : one.writes = true) : putCopy one ∈ cvL (serverAfter v one.act) := by
  cases one with
  | put c z y n l => cases z <;> cases v <;> exact fresh_cv
  | take c y n a l => exact cv_none _
  | _ => cases h
theorem next_any {one : Stp} (h : one.asks = true) (a : Ans) : next one a ∈ one.nexts := by
  cases one with
  | read c a1 b u e l => cases a <;> simp [next, Stp.nexts]
  | put c z y n l => cases a <;> simp [next, Stp.nexts]
  | take c y n a1 l => cases a <;> simp [next, Stp.nexts]
  | _ => cases h
theorem asks_lt {steps : List Stp} (so : scrOk steps) {n : Nat} (hn : n < steps.length) (h : (stp steps n).asks = true) (a : Ans) : next (stp steps n) a < steps.length :=
  of_decide_eq_true (List.all_eq_true.mp (Bool.and_eq_true_iff.mp (so _ (stp_mem hn))).2 _ (next_any h a))
theorem writes_asks' {one : Stp} (h : one.writes = true) : one.asks = true := by cases one <;> first | rfl | cases h
section
variable {N : Nat} {L : List Nat} {two : Bool} {s : Sta} {one : Stp}
theorem oky_finA (h : Oky N L two s) (hw : two = true → one.writes = true) (hn : ∀ a, next one a < N) : Oky N L two (finA one s (wordOf one s)) := by
  unfold wordOf
  match ha : answer s.srv s.copy one with
  | .got =>
    obtain ⟨q1, q2⟩ := got_read ha
    have h2 : two = true → sameC (present s.srv) = true → s.own = true := fun ht => by rw [hw ht] at q1; cases q1
    cases s.own with
    | true => exact (h.at' (hn .mine)).seen' (cv_present _ q2) h2
    | false => exact (h.at' (hn .got)).seen' (cv_present _ q2) h2
  | .mine => 
    exfalso
    cases one with
    | read c a b u e l => unfold answer at ha; cases hv : s.srv.isThere <;> cases hb : bare s.copy c <;> cases hh : fits s.copy c <;> simp [hv, hb, hh] at ha
    | put c z y n l => unfold answer at ha; cases hh : holds s.srv s.copy c <;> simp [hh] at ha
    | take c y n a l => unfold answer at ha; cases hv : s.srv.isThere <;> cases hb : bare s.copy c <;> cases hh : holds s.srv s.copy c <;> simp [hv, hb, hh] at ha
    | _ => cases ha
  | .yes => 
    have hy := yes_writes ha
    exact ((h.at' (hn .yes)).acted' one.act (act_ne one) true).seen' (put_cv hy) fun _ _ => rfl
  | .absent => exact (h.at' (hn .absent)).seen' (cv_none _) fun _ q => (by cases q)
  | .no => exact h.at' (hn .no)
  | .unchanged => exact h.at' (hn .unchanged)
  | .lost => exact h.at' (hn .lost)
theorem oky_stepped {steps : List Stp} {o : Oth} {net : Net} {e : Ev} (so : scrOk steps) (hL : (net = .late ∨ net = .again) → ∀ n, n < steps.length → (stp steps n).writes = true → n ∈ L) (h2 : two = true → ∀ n, n < steps.length → (stp steps n).writes = true)
    (h : Oky steps.length L two s) (he : e ∈ eventsIn steps s o net) : Oky steps.length L two (stepped steps s e net) := by
  have hc := (List.mem_filter.mp he).2
  have hst := h.step
  cases e with
  | great => exact h.acted' .great (fun h => (by cases h)) false
  | small => exact h.acted' .small (fun h => (by cases h)) false
  | take => exact h.acted' .take (fun h => (by cases h)) false
  | tick => exact h.ticked'
  | answered =>
    have hend := canHappen_isEnd hc
    have hw := fun q => h2 q s.step hst
    have hn := asks_lt so hst
    have hf : ∀ n, stp steps s.step = .forget n → n < steps.length := fun n q => by
      have := (Bool.and_eq_true_iff.mp (so _ (stp_mem hst))).2
      rw [q] at this
      exact of_decide_eq_true (List.all_eq_true.mp this n (by simp [Stp.nexts]))
    show Oky steps.length L two (answered (stp steps s.step) s)
    generalize stp steps s.step = one at hend hw hn hf
    cases one with
    | forget n => exact (h.at' (hf n rfl)).forget'
    | fin w => cases hend
    | read c a b u e l => exact oky_finA h hw (hn rfl)
    | put c z y n l => exact oky_finA h hw (hn rfl)
    | take c y n a l => exact oky_finA h hw (hn rfl)
  | unheard =>
    have hd := canHappen_unheard hc
    have hwr := isDone_writes hd
    have hn := asks_lt so hst (writes_asks' hwr) .lost
    have base := (h.acted' (stp steps s.step).act (act_ne _) true).at' hn
    show Oky steps.length L two (unheard (stp steps s.step) s net)
    unfold unheard
    cases net with
    | again =>
      refine base.sends (hL (.inr rfl) _ hst hwr) base.cv fun _ => ?_
      have hs : sameC (copyAfter s.srv s.copy (stp steps s.step).act) = false := same_act _ _ _ (act_ne _)
      show ((!(s.known || s.own) || (false || true)) && (!sameC (copyAfter s.srv s.copy (stp steps s.step).act) || (true && false && (s.known || s.own)))) = true
      rw [hs]
      cases s.known <;> cases s.own <;> rfl
    | _ => exact base
  | unsent =>
    have hask := canHappen_unsent hc
    have hn := asks_lt so hst hask .lost
    have base := h.at' hn
    have hsend : (net = .late ∨ net = .again) → (stp steps s.step).writes = true → Oky steps.length L two { s.at (next (stp steps s.step) .lost) with late := sent s s.copy } := fun hnet hwr => by
      refine base.sends (hL hnet _ hst hwr) h.cv fun ht => ?_
      have hi := h.inv
      unfold invB at hi
      rw [ht] at hi
      show ((!(s.known || s.own) || (s.known || s.own)) && (!sameC s.copy || (s.own && s.known && (s.known || s.own)))) = true
      cases hk : s.known <;> cases ho : s.own <;> cases hs : sameC s.copy <;> rw [hk, ho, hs] at hi <;> first | rfl | (simp at hi)
    show Oky steps.length L two (unsent (stp steps s.step) s net)
    generalize stp steps s.step = one at *
    unfold unsent
    cases net with
    | sure => exact absurd hc (by unfold canHappen; exact fun q => (by cases q))
    | lost => exact base
    | late => cases one with
      | put c z y n l => exact hsend (.inl rfl) rfl
      | take c y n a l => exact hsend (.inl rfl) rfl
      | read c a b u e l => exact base
      | _ => cases hask
    | again => cases one with
      | put c z y n l => exact hsend (.inr rfl) rfl
      | take c y n a l => exact hsend (.inr rfl) rfl
      | read c a b u e l => exact base
      | _ => cases hask
  | come =>
    show Oky steps.length L two (come (stp steps (lateStep s)) s net)
    generalize stp steps (lateStep s) = lone
    unfold come
    split
    · exact h
    · rename_i n0 k0 m0 _
      have hl : Oky steps.length L two (if isDone lone s.srv k0 = true then acted s lone.act true else s) := by
        split
        · exact h.acted' _ (act_ne _) true
        · exact h
      cases net with
      | again => exact hl
      | _ => exact hl.came
/-! ### the list of all -/
def bools : List Bool := [false, true]
def dn3s : List Dn3 := [.zero, .one, .more]
def lates (L : List Nat) (v : Srv) : List Late := none :: L.flatMap fun n => (cvL v).flatMap fun k => bools.map fun m => some (n, k, m)
def uni (M : Nat) (L : List Nat) (two : Bool) : List Sta := srvs.flatMap fun v => (cvL v).flatMap fun c => bools.flatMap fun kn => bools.flatMap fun ow => dn3s.flatMap fun d =>
  ((lates L v).filter fun l => invB two c kn ow d l).flatMap fun l => (List.range M).map fun n => ⟨v, n, c, kn, ow, d, l⟩
def uniS (M : Nat) (L : List Nat) (two : Bool) (N : Nat) : List Sta := (uni M L two).filter fun s => decide (s.step < N) && (match s.late with | none => true | some (n, k, _) => decide (n ∈ L) && decide (k ∈ cvL s.srv)) && (decide (s.copy ∈ cvL s.srv) && invB two s.copy s.known s.own s.done s.late)
theorem bools_all (b : Bool) : b ∈ bools := by cases b <;> decide
theorem dn3s_all (b : Dn3) : b ∈ dn3s := by cases b <;> decide
theorem srvs_all (b : Srv) : b ∈ srvs := by cases b <;> decide
theorem oky_mem {N M : Nat} {L : List Nat} {two : Bool} {s : Sta} (hM : N ≤ M) (h : Oky N L two s) : s ∈ uniS M L two N := by
  obtain ⟨v, n, c, kn, ow, d, lt⟩ := s
  obtain ⟨g1, g2, g3, g4⟩ := h
  refine List.mem_filter.mpr ⟨?_, ?_⟩
  · refine List.mem_flatMap.mpr ⟨v, srvs_all v, List.mem_flatMap.mpr ⟨c, g2, List.mem_flatMap.mpr ⟨kn, bools_all kn, List.mem_flatMap.mpr ⟨ow, bools_all ow, List.mem_flatMap.mpr ⟨d, dn3s_all d, List.mem_flatMap.mpr ⟨lt, List.mem_filter.mpr ⟨?_, g4⟩, List.mem_map.mpr ⟨n, List.mem_range.mpr (Nat.lt_of_lt_of_le g1 hM), rfl⟩⟩⟩⟩⟩⟩⟩
    cases lt with
    | none => exact List.mem_cons_self ..
    | some x =>
      obtain ⟨n', k, m⟩ := x
      obtain ⟨q1, q2⟩ := g3 n' k m rfl
      exact List.mem_cons_of_mem _ (List.mem_flatMap.mpr ⟨n', q1, List.mem_flatMap.mpr ⟨k, q2, List.mem_map.mpr ⟨m, bools_all m, rfl⟩⟩⟩)
  · have e1 : decide (n < N) = true := decide_eq_true g1
    have e2 : decide (c ∈ cvL v) = true := decide_eq_true g2
    show (decide (n < N) && _ && (decide (c ∈ cvL v) && invB two c kn ow d lt)) = true
    rw [e1, e2]
    have g4 : invB two c kn ow d lt = true := g4
    rw [g4]
    cases lt with
    | none => rfl
    | some x =>
      obtain ⟨n', k, m⟩ := x
      obtain ⟨q1, q2⟩ := g3 n' k m rfl
      have e3 : decide (n' ∈ L) = true := decide_eq_true q1
      have e4 : decide (k ∈ cvL v) = true := decide_eq_true q2
      show (true && (decide (n' ∈ L) && decide (k ∈ cvL v)) && (true && true)) = true
      rw [e3, e4]
      rfl
theorem mem_oky {N M : Nat} {L : List Nat} {two : Bool} {s : Sta} (h : s ∈ uniS M L two N) : Oky N L two s := by
  have h := (List.mem_filter.mp h).2
  obtain ⟨h1, h2⟩ := Bool.and_eq_true_iff.mp h
  obtain ⟨h1, h3⟩ := Bool.and_eq_true_iff.mp h1
  obtain ⟨h4, h5⟩ := Bool.and_eq_true_iff.mp h2
  refine ⟨of_decide_eq_true h1, of_decide_eq_true h4, fun n k m e => ?_, h5⟩
  rw [e] at h3
  obtain ⟨h6, h7⟩ := Bool.and_eq_true_iff.mp h3
  exact ⟨of_decide_eq_true h6, of_decide_eq_true h7⟩
def lenLe {α : Type} : List α → Nat → Bool
  | [], _ => true
  | _ :: _, 0 => false
  | _ :: l, n + 1 => lenLe l n
theorem lenLe_le {α : Type} : ∀ {l : List α} {n : Nat}, lenLe l n = true → l.length ≤ n
  | [], n, _ => Nat.zero_le _
  | _ :: _, 0, h => by cases h
  | _ :: l, n + 1, h => Nat.succ_le_succ (lenLe_le (l := l) h)
theorem few0 : (uni 8 [] false).length ≤ 5000 := by decide +kernel
theorem few1 : (uni 2 [0] false).length ≤ 5000 := by decide +kernel
theorem few2 : (uni 2 [1] false).length ≤ 5000 := by decide +kernel
theorem few3 : (uni 2 [0, 1] true).length ≤ 5000 := by decide +kernel
end
end
end Dn
set_option Elab.async false
set_option linter.all false
set_option maxRecDepth 100000
set_option maxHeartbeats 4000000
namespace Dn
theorem wg_ok {steps : List Stp} {W : Wld} (g : WG steps W) : WOk steps W := by
  refine ⟨g.step, ?_, g.au⟩
  intro n e i h
  obtain ⟨h1, h2, h3, _⟩ := g.late n e i h
  exact ⟨h1, h2⟩
theorem bounds_of {steps : List Stp} {o : Oth} {net : Net} (so : scrOk steps) (h0 : 0 < steps.length) (M : Nat) (L : List Nat) (two : Bool) (hM : steps.length ≤ M) (few : (uni M L two).length ≤ 5000)
    (hL : (net = .late ∨ net = .again) → ∀ n, n < steps.length → (stp steps n).writes = true → n ∈ L) (hR : ∀ n ∈ L, n < steps.length ∧ (stp steps n).writes = true) (h2 : two = true → ∀ n, n < steps.length → (stp steps n).writes = true) :
    ∃ U Good, Bnd steps o net U ∧ LBnd steps o net U Good := by
  have fewS : (uniS M L two steps.length).length ≤ 5000 := Nat.le_trans (List.length_filter_le _ _) few
  have first : ∀ v, Oky steps.length L two (firstOf v) := fun v => by
    refine ⟨h0, cv_none v, fun n k m e => (by cases e), ?_⟩
    cases two <;> rfl
  refine ⟨uniS M L two steps.length, fun W => WG steps W ∧ Oky steps.length L two (wState W), ⟨fewS, fun s hs => ?_, fun s hs => ?_, fun s hs e he => ?_⟩, ⟨fewS, fun W hW => ?_, fun W g x hx => ?_, fun W g => wg_ok g.1, fun W g => oky_mem hM g.2⟩⟩
  · obtain ⟨v, _, rfl⟩ := List.mem_map.mp hs
    exact oky_mem hM (first v)
  · have h := mem_oky hs
    exact ⟨h.step, fun n k m e => hR n (h.lt n k m e).1⟩
  · exact oky_mem hM (oky_stepped so hL h2 (mem_oky hs) he)
  · obtain ⟨v, _, rfl⟩ := List.mem_map.mp hW
    refine ⟨start_good h0 v, ?_⟩
    show Oky steps.length L two (wState (startW v))
    rw [start_state]
    exact first v
  · obtain ⟨q1, q2, q3⟩ := nexts_sim so g.1 x hx
    refine ⟨q3, ?_⟩
    show Oky steps.length L two (wState x.2)
    rw [q2]
    exact oky_stepped so hL h2 g.2 q1
theorem bounds {steps : List Stp} (o : Oth) {net : Net} (so : scrOk steps) (h0 : 0 < steps.length) (h8 : steps.length ≤ 8) (hn : (net = .late ∨ net = .again) → steps.length ≤ 2) : ∃ U Good, Bnd steps o net U ∧ LBnd steps o net U Good := by
  by_cases hl : net = .late ∨ net = .again
  · have hlen := hn hl
    by_cases w0 : (stp steps 0).writes = true
    · by_cases w1 : 1 < steps.length ∧ (stp steps 1).writes = true
      · refine bounds_of so h0 2 [0, 1] true hlen few3 (fun _ n hn _ => ?_) (fun n hn => ?_) (fun _ n hn => ?_)
        · match n, hn with
          | 0, _ => simp
          | 1, _ => simp
          | n + 2, hn => omega
        · rcases List.mem_cons.mp hn with rfl | hn
          · exact ⟨h0, w0⟩
          · cases List.mem_singleton.mp hn
            exact w1
        · match n, hn with
          | 0, _ => exact w0
          | 1, _ => exact w1.2
          | n + 2, hn => omega
      · refine bounds_of so h0 2 [0] false hlen few1 (fun _ n hn hw => ?_) (fun n hn => ?_) (fun q => by cases q)
        · match n, hn with
          | 0, _ => simp
          | 1, hn => exact absurd ⟨hn, hw⟩ w1
          | n + 2, hn => omega
        · cases List.mem_singleton.mp hn
          exact ⟨h0, w0⟩
    · by_cases w1 : 1 < steps.length ∧ (stp steps 1).writes = true
      · refine bounds_of so h0 2 [1] false hlen few2 (fun _ n hn hw => ?_) (fun n hn => ?_) (fun q => by cases q)
        · match n, hn with
          | 0, _ => exact absurd hw w0
          | 1, _ => simp
          | n + 2, hn => omega
        · cases List.mem_singleton.mp hn
          exact w1
      · refine bounds_of so h0 8 [] false h8 few0 (fun _ n hn hw => ?_) (fun n hn => by cases hn) (fun q => by cases q)
        match n, hn with
        | 0, _ => exact absurd hw w0
        | 1, hn => exact absurd ⟨hn, hw⟩ w1
        | n + 2, hn => omega
  · exact bounds_of so h0 8 [] false h8 few0 (fun q => absurd q hl) (fun n hn => by cases hn) (fun q => by cases q)
/-- all that the law asks of a case -/
inductive Case (steps : List Stp) (o : Oth) (net : Net) (p : Pr) : Prop
  | holds (U : List Sta) (Good : Wld → Prop) : Bnd steps o net U → LBnd steps o net U Good → LeastIs steps o net p none → badsOf steps o net p = [] → Case steps o net p
  | breaks (U : List Sta) (Good : Wld → Prop) (n : Nat) (es : List Ev) (v : Srv) : Bnd steps o net U → LBnd steps o net U Good → LeastIs steps o net p (some n) → WayIs steps o net p n es v → Case steps o net p
end Dn
set_option Elab.async false
set_option linter.all false
set_option maxRecDepth 100000
set_option maxHeartbeats 4000000
namespace Dn
open PySem PySem.Spec L2 PyProof.Rows
/-! ### the law -/
def boolS (b : Bool) : Str := if b then "True" else "False"
theorem call_reprB {X : Cx} : CallR X (.builtin "repr") (fun xs H Q => ∃ b, xs = [.bl b] ∧ Q (.str (boolS b)) H) := by
  intro pins s σ H xs us Q I r h
  obtain ⟨i, rfl, q⟩ := h
  obtain ⟨u, rfl, t⟩ := vals1 r
  cases t
  exact PySem.P.repr_of_bool ⟨.str _, H, I.tok _, ⟨_, rfl⟩, q⟩
theorem boot_repr' : bootBuiltins "repr" = some (.builtin "repr") := by decide +kernel
def spLaw (K : PySem.W.Frag) : Sp := fun vs H Q _ => ∃ (sc : Addr) (ns : List Int), vs = [.ref sc] ∧ SqL K H sc (ns.map V.int) ∧ ns.length ≤ 100 ∧ ∀ H', Q (.bl true) H'
abbrev nLaw : List Str := ["_law_script", "_law_k", "_law_m", "_law_net", "_law_steps", "_law_others", "_law_promise", "_law_least_here", "_law_told", "_law_is_good", "_law_bare", "_law_twice"]
theorem mk_script {w : World} {K : PySem.W.Frag} {mg : Str → Option Value} {C : Addr} (S : ScriptH K mg C) {H : Hp} {v : V} {b : Bool} {steps : List Stp} {x dx : Addr} {Q : VK} {E : XK} (hd : Dp K H v (seqD b (steps.map Stp.d))) (so : scrOk steps) (h1 : 1 ≤ steps.length) (h8 : steps.length ≤ 8)
    (hx : H x = none) (hdx : H dx = none) (hne : dx ≠ x) (q : ∀ H', Same H H' → Rp K w H' (.ref x) (scrD steps) → Q .non H') : spInit K (.ref x :: ([v] ++ [])) (upd (upd H dx (.own x)) x (.ins C dx [])) Q E := by
  have s0 : Same H (upd (upd H dx (.own x)) x (.ins C dx [])) := fun a o e => by rw [upd_ne (ne_of_none e hx), upd_ne (ne_of_none e hdx)]; exact e
  refine ⟨x, C, dx, v, b, steps, rfl, upd_same, S.cs, dp_mono s0 _ _ hd, so, h1, h8, fun H' u g1 g2 g3 => q H' (fun a o e => g1 a o (s0 _ _ e) ?_) (.obj g2 S.cs g3)⟩
  rintro rfl
  rw [hx] at e
  cases e
theorem evL_noL : ∀ es : List Ev, noLAll (evL es) = true
  | [] => rfl
  | e :: r => evL_noL r
theorem noL_rep {d : PyData} (h : noL d = true) : ∀ j, noLAll (List.replicate j d) = true
  | 0 => rfl
  | j + 1 => by rw [List.replicate_succ]; show (noL d && noLAll (List.replicate j d)) = true; rw [h, noL_rep h j]; rfl
/-- what both searches tell -/
def toldD (es : List Ev) (v : Srv) : Option Nat → PyData
  | none => .none
  | some _ => .tuple [.str v.s, .tuple (evL es)]
def leastD : Option Nat → PyData
  | none => .none
  | some n => .int ((n : Nat) : Int)
structure Agree (steps : List Stp) (o : Oth) (net : Net) (p : Pr) (r : Option Nat) (es : List Ev) (v : Srv) : Prop where
  none_ : r = none → badsOf steps o net p = []
  some_ : ∀ n, r = some n → WayIs steps o net p n es v
theorem agree {steps : List Stp} {o : Oth} {net : Net} {U : List Sta} (so : scrOk steps) (h0 : 0 < steps.length) (B : Bnd steps o net U) (p : Pr) (r : Option Nat) (h : LeastIs steps o net p r) : ∃ es v, Agree steps o net p r es v := by
  cases r with
  | none => exact ⟨[], .fresh, fun _ => none_spec so h0 B p h, fun n q => (by cases q)⟩
  | some n =>
    obtain ⟨es, v, h1⟩ := some_spec so h0 B p n h
    exact ⟨es, v, fun q => (by cases q), fun m q => by cases q; exact h1⟩
theorem Agree.empty {steps : List Stp} {o : Oth} {net : Net} {p : Pr} {r : Option Nat} {es : List Ev} {v : Srv} (a : Agree steps o net p r es v) : (badsOf steps o net p).isEmpty = r.isNone := by
  cases r with
  | none => rw [a.none_ rfl]; rfl
  | some n => obtain ⟨s, rs, h, _⟩ := a.some_ n rfl; rw [h]; rfl
theorem Agree.breaks {P : Program} {w : World} {K : PySem.W.Frag} {H : Hp} {vs : List V} {Q : VK} {E : XK} {steps : List Stp} {o : Oth} {net : Net} {p : Pr} {r : Option Nat} {es : List Ev} {v : Srv} {U : List Sta} (a : Agree steps o net p r es v) (hr : RpAll K w H vs [scrD steps, Oth.d o, .str (Net.s net), .str (Pr.s p)]) (so : scrOk steps) (B : Bnd steps o net U)
    (q : ∀ u H', Same H H' → Dp K H' u (toldD es v r) → Q u H') : spBreaking P w K vs H Q E := by
  refine ⟨steps, o, net, U, p, hr, so, B, ?_⟩
  cases r with
  | none => exact .inl ⟨a.none_ rfl, fun H' s => q .non H' s .non⟩
  | some n =>
    obtain ⟨s, rs, h1, h2, h3, h4, _⟩ := a.some_ n rfl
    exact .inr ⟨s, rs, es, firstOf v, h1, h2, h4, fun u H' s d => q u H' s d⟩
def netSmall : Net → Bool
  | .late => true | .again => true | _ => false
inductive EnvL (K : PySem.W.Frag) (w : World) (H : Hp) : L2.St → DE → Prop
  | nil : EnvL K w H [] []
  | no {x : Option V} {σ : L2.St} {env : DE} : EnvL K w H σ env → EnvL K w H (x :: σ) (none :: env)
  | so {v : V} {d : PyData} {σ : L2.St} {env : DE} : Rp K w H v d → EnvL K w H σ env → EnvL K w H (some v :: σ) (some d :: env)
theorem EnvL.len {K : PySem.W.Frag} {w : World} {H : Hp} : ∀ {σ : L2.St} {env : DE}, EnvL K w H σ env → σ.length = env.length
  | _, _, .nil => rfl
  | _, _, .no t => congrArg Nat.succ t.len
  | _, _, .so _ t => congrArg Nat.succ t.len
theorem EnvL.get {K : PySem.W.Frag} {w : World} {H : Hp} : ∀ {σ : L2.St} {env : DE} (i : Nat) (d : PyData), EnvL K w H σ env → env[i]? = some (some d) → ∃ v, σ[i]? = some (some v) ∧ Rp K w H v d
  | _, _, i, d, .nil, h => by simp at h
  | _, _, 0, d, .no t, h => by simp at h
  | _, _, 0, d, .so r t, h => by
    simp only [List.getElem?_cons_zero, Option.some.injEq] at h
    subst h
    exact ⟨_, rfl, r⟩
  | _, _, i + 1, d, .no t, h => EnvL.get i d t (by simpa using h)
  | _, _, i + 1, d, .so r t, h => EnvL.get i d t (by simpa using h)
theorem EnvL.ok {K : PySem.W.Frag} {w : World} {H : Hp} {σ : L2.St} {env : DE} (h : EnvL K w H σ env) : EnvOk K w H σ env := ⟨h.len, fun i d e => EnvL.get i d h e⟩
theorem env_none {K : PySem.W.Frag} {w : World} {H : Hp} {σ : L2.St} (h : σ.length = 12) : EnvOk K w H σ (List.replicate 12 none) := ⟨by rw [h]; rfl, fun i d h => by
  rw [List.getElem?_replicate] at h
  split at h <;> cases h⟩
def forB : Stmt → List Stmt
  | .For _ _ b _ _ => b
  | _ => []
abbrev law_for : List Stmt := forB ((defBody st_law).getD 0 (.Pass ⟨0, 0, 0, 0⟩))
abbrev law_prom : List Stmt := forB (law_for.getD 3 (.Pass ⟨0, 0, 0, 0⟩))
theorem sc_law : FnScope nLaw ["_law_script"] (defScope st_law) := ⟨rfl, rfl, rfl, by decide +kernel, rfl, by decide +kernel, by decide +kernel⟩
abbrev cxL (P : Program) (w : World) (K : PySem.W.Frag) (mg : Str → Option Value) (base : Heap) (fa : Addr) (cd : Value) (A : Around) (outer : List Env) (s : Shared) (H0 : Hp) (E : XK) : Cx := (cxOf CX0 P w K mg base nLaw "law" (defScope st_law) fa cd A outer s H0 E).nox
abbrev aroundL (fa : Addr) (cd : Value) (A : Around) (s : Shared) : Around := A.deeper (envOfC "law" (defScope st_law) s.heap.objs.size fa cd)
end Dn
set_option Elab.async false
set_option linter.all false
set_option maxRecDepth 100000
set_option maxHeartbeats 4000000
namespace Dn
open PySem PySem.Spec L2 PyProof.Rows
theorem lay_evL : ∀ es : List Ev, PyData.canLayAll0 (evL es) = true ∧ PyData.depthAll (evL es) = 0
  | [] => ⟨rfl, rfl⟩
  | e :: r => by
    have ih := lay_evL r
    refine ⟨?_, ?_⟩
    · show (PyData.canLay0 (.str e.s) && PyData.canLayAll0 (evL r)) = true
      rw [ih.1]
      cases e <;> decide +kernel
    · show max 0 (PyData.depthAll (evL r)) = 0
      rw [ih.2]
      rfl
theorem lay_told (es : List Ev) (v : Srv) (n : Nat) : PyData.canLay0 (toldD es v (some n)) = true ∧ PyData.depth (toldD es v (some n)) = 2 := by
  refine ⟨?_, ?_⟩
  · show (PyData.canLay0 (.str v.s) && (PyData.canLayAll0 (evL es) && true)) = true
    rw [(lay_evL es).1]
    cases v <;> decide +kernel
  · show max 0 (max (PyData.depthAll (evL es) + 1) 0) + 1 = 2
    rw [(lay_evL es).2]
    rfl
theorem eq_told (es : List Ev) (v : Srv) (r : Option Nat) : gNe (toldD es v r) (toldD es v r) = some (.bool false) := by
  cases r with
  | none => rfl
  | some n =>
    have h1 : SeqAt.shaped (toldD es v (some n)) = true := by
      unfold SeqAt.shaped
      rw [(lay_told es v n).1, (lay_told es v n).2]
      rfl
    unfold gNe eqD?
    rw [show scalD (toldD es v (some n)) (toldD es v (some n)) = false from rfl, h1, SeqAt.eqv_refl _ (lay_told es v n).1]
    rfl
theorem none_told (es : List Ev) (v : Srv) (r : Option Nat) : gIsN (toldD es v r) = some (.bool r.isNone) := by cases r <;> rfl
theorem none_least (r : Option Nat) : gIsN (leastD r) = some (.bool r.isNone) := by cases r <;> rfl
section
variable {P : Program} {w : World} {K : PySem.W.Frag} {mg : Str → Option Value} {base : Heap}
theorem law_s3 (T : Tx w K mg) {C : Addr} (S : ScriptH K mg C) {fa : Addr} {cd : Value} {A : Around} {outer : List Env} {s : Shared} {H0 : Hp} {E : XK} (hr : Room 11 (aroundL fa cd A s)) :
    ∃ t, PS (cxL P w K mg base fa cd A outer s H0 E) (law_prom.getD 2 (.Pass ⟨0, 0, 0, 0⟩)) t ∧
      ∀ (D : Ends) (H : Hp) (x0 x1 x2 x6 x9 x10 x11 : Option V) (v5 v7 : V) (Dd : Addr) (acc : List V) (steps : List Stp) (o : Oth) (net : Net) (p : Pr) (r : Option Nat) (es : List Ev) (v : Srv) (U : List Sta),
        scrOk steps → 1 ≤ steps.length → steps.length ≤ 8 → Bnd steps o net U → Agree steps o net p r es v → Dp K H v5 (stD steps) → Dp K H v7 o.d → H Dd = some (.lst acc) → DpAll K H acc [toldD es v r, toldD es v r] →
        (∀ H', Same H H' → D.nx [x0, x1, x2, some (.str net.s), some v5, some v7, some (.str p.s), some (rV r), some (.ref Dd), x9, x10, x11] H') →
        t D [x0, x1, x2, some (.str net.s), some v5, some v7, some (.str p.s), some (rV r), some (.ref Dd), x9, x10, x11] H := by
  obtain ⟨fi, fdi, Mi, Fi, Bi⟩ := S.mkr
  have OI := ok_init (P := P) (base := base) T Fi
  have hu := hr.units
  have hu1 : (aroundL fa cd A s).units + 1 < cLine := Nat.lt_of_le_of_lt (Nat.add_le_add_left (by decide) _) hu
  refine ⟨_, ps_if (pw_or (pt_cmpR op_ne (pe_callB call_reprB (by rfl) T.b_repr boot_repr' (pa_cons (p_call (ok_keeps T) hr (pa_cons (pe_make Mi OI (hr.mono (by decide)) (by rfl) S.gl Bi .nil pass0 (pa_cons (pv 4) pa_nil)) (pa_cons (pv 5) (pa_cons (pv 3) (pa_cons (pv 6) pa_nil))))) pa_nil)) (pe_callB call_reprB (by rfl) T.b_repr boot_repr' (pa_cons (d_isN (d_var 7)) pa_nil)) (by rfl))
            (pw_or1 (t_cmp (c_ne hu) (d_ix hu1 (d_var 8) d_int) (d_ix hu1 (d_var 8) d_int) (by rfl)))).pt (pss_one (ps_ret pe_bl)) pss_nil, ?_⟩
  intro D H x0 x1 x2 x6 x9 x10 x11 v5 v7 Dd acc steps o net p r es v U so hl1 h8 B ag d5 d7 l1 l2 q
  have rr : ∀ {H2}, Rp K w H2 (rV r) (leastD r) := by
    intro H2
    cases r with
    | none => exact .dat .non
    | some n => exact .dat (.int _)
  have E1 : EnvOk K w H [x0, x1, x2, some (.str net.s), some v5, some v7, some (.str p.s), some (rV r), some (.ref Dd), x9, x10, x11] [none, none, none, some (.str net.s), some (stD steps), some o.d, some (.str p.s), some (leastD r), some (.list [toldD es v r, toldD es v r]), none, none, none] :=
    (EnvL.no (.no (.no (.so (.dat (.str _)) (.so (.dat d5) (.so (.dat d7) (.so (.dat (.str _)) (.so rr (.so (.dat (.lst (SqL.of l1) l2)) (.no (.no (.no .nil)))))))))))).ok
  refine ⟨v5, rfl, fun x dx hx hdx hne' => mk_script (w := w) S (b := true) d5 so hl1 h8 hx hdx hne' fun H2 s2 rS => ⟨rfl, v7, rfl, .str net.s, rfl, .str p.s, rfl, ?_⟩⟩
  refine ⟨steps, o, net, U, p, .cons rS (.cons (.dat (dp_mono s2 _ _ d7)) (.cons (.dat (.str _)) (.cons (.dat (.str _)) .nil))), so, B, fun H3 s3 => ?_⟩
  refine ⟨_, rfl, _, .bool r.isNone, E1.mono (s2.trans s3), none_least r, fun u H4 s4 r4 => ?_⟩
  cases rp_bool r4
  refine ⟨_, rfl, rfl, _, rfl, ?_⟩
  have hb : (!decide (V.str (boolS (badsOf steps o net p).isEmpty) = V.str (boolS r.isNone))) = false := by rw [ag.empty]; simp
  rw [hb]
  refine ⟨_, false, E1.mono ((s2.trans s3).trans s4), x_test (x_bin (x_bin rfl rfl rfl) (x_bin rfl rfl rfl) (eq_told es v r)), fun H5 s5 => ?_⟩
  exact q H5 (((s2.trans s3).trans s4).trans s5)
theorem law_s47 (T : Tx w K mg) {fa : Addr} {cd : Value} {A : Around} {outer : List Env} {s : Shared} {H0 : Hp} {E : XK} (hr : Room 11 (aroundL fa cd A s)) :
    ∃ t, PSs (cxL P w K mg base fa cd A outer s H0 E) (law_prom.drop 3) t ∧
      ∀ (D : Ends) (H : Hp) (x0 x1 x2 x6 x9 x10 x11 : Option V) (v5 v7 : V) (Dd : Addr) (acc : List V) (steps : List Stp) (o : Oth) (net : Net) (p : Pr) (r : Option Nat) (es : List Ev) (v : Srv) (U : List Sta) (Good : Wld → Prop),
        scrOk steps → LBnd steps o net U Good → Agree steps o net p r es v → Dp K H v5 (stD steps) → Dp K H v7 o.d → H Dd = some (.lst acc) → DpAll K H acc [toldD es v r, toldD es v r] →
        (∀ y9 H', Same H H' → D.nx [x0, x1, x2, some (.str net.s), some v5, some v7, some (.str p.s), some (rV r), some (.ref Dd), y9, x10, x11] H') →
        t D [x0, x1, x2, some (.str net.s), some v5, some v7, some (.str p.s), some (rV r), some (.ref Dd), x9, x10, x11] H := by
  obtain ⟨fo, fdo, pso, hmo, hko, hbo, hlo, Fo⟩ := (ok__law_is_over (P := P) (base := base) T).ok
  have hu := hr.units
  have hu1 : (aroundL fa cd A s).units + 1 < cLine := Nat.lt_of_le_of_lt (Nat.add_le_add_left (by decide) _) hu
  refine ⟨_, (pss_cons (ps_if (t_cmp (c_ne hu) (d_isN (d_ix hu1 (d_var 8) d_int)) (d_isN (d_var 7)) (by rfl)) (pss_one (ps_ret pe_bl)) pss_nil)
        (pss_cons (ps_set (i := 9) sc_law.nd rfl (Or.inl rfl) (d_isN (d_var 7)))
        (pss_cons (ps_if (t_not (t_val (d_var 9))) (pss_one (ps_set (i := 9) sc_law.nd rfl (Or.inl rfl) (p_call (ok_row_right T) (hr.mono (by decide)) (pa_cons (d_ix hu1 (d_var 8) d_int) (pa_cons (pv 4) (pa_cons (pv 5) (pa_cons (pv 3) (pa_cons (pe_glob (v := .ref fo) (by rfl) hmo rfl) (pa_cons (pv 6) (pa_cons (pv 7) pa_nil)))))))))) pss_nil)
        (pss_one (ps_if (t_not (t_val (d_var 9))) (pss_one (ps_ret pe_bl)) pss_nil))))), ?_⟩
  intro D H x0 x1 x2 x6 x9 x10 x11 v5 v7 Dd acc steps o net p r es v U Good so LB ag d5 d7 l1 l2 q
  have rr : ∀ {H2}, Rp K w H2 (rV r) (leastD r) := by
    intro H2
    cases r with
    | none => exact .dat .non
    | some n => exact .dat (.int _)
  have E1 : EnvOk K w H [x0, x1, x2, some (.str net.s), some v5, some v7, some (.str p.s), some (rV r), some (.ref Dd), x9, x10, x11] [none, none, none, some (.str net.s), some (stD steps), some o.d, some (.str p.s), some (leastD r), some (.list [toldD es v r, toldD es v r]), none, none, none] :=
    (EnvL.no (.no (.no (.so (.dat (.str _)) (.so (.dat d5) (.so (.dat d7) (.so (.dat (.str _)) (.so rr (.so (.dat (.lst (SqL.of l1) l2)) (.no (.no (.no .nil)))))))))))).ok
  refine ⟨_, false, E1, x_test (x_bin (a := .bool r.isNone) (b := .bool r.isNone) (x_un (x_bin rfl rfl rfl) (none_told es v r)) (x_un rfl (none_least r)) (by cases r <;> rfl)), fun H2 s2 => ?_⟩
  refine ⟨_, .bool r.isNone, E1.mono s2, none_least r, fun u H3 s3 r3 => ?_⟩
  cases rp_bool r3
  have s23 := s2.trans s3
  have d5 := dp_mono s23 _ _ d5
  have d7 := dp_mono s23 _ _ d7
  have l1 := s23 _ _ l1
  have l2 := dpAll_mono s23 _ _ l2
  have E2 : ∀ b : Bool, EnvOk K w H3 [x0, x1, x2, some (.str net.s), some v5, some v7, some (.str p.s), some (rV r), some (.ref Dd), some (.bl b), x10, x11] [none, none, none, some (.str net.s), some (stD steps), some o.d, some (.str p.s), some (leastD r), some (.list [toldD es v r, toldD es v r]), some (.bool b), none, none] := fun b =>
    (EnvL.no (.no (.no (.so (.dat (.str _)) (.so (.dat d5) (.so (.dat d7) (.so (.dat (.str _)) (.so rr (.so (.dat (.lst (SqL.of l1) l2)) (.so (.dat (.bl b)) (.no (.no .nil)))))))))))).ok
  refine ⟨_, !r.isNone, E2 r.isNone, x_not (x_test rfl), fun H4 s4 => ?_⟩
  have fin : ∀ H5, Same H3 H5 → (tIfS (tDT K w (dNotT (dTest (dVar 9)))) (tRet (tC (.bl false))) tNext) D [x0, x1, x2, some (.str net.s), some v5, some v7, some (.str p.s), some (rV r), some (.ref Dd), some (.bl true), x10, x11] H5 := fun H5 s5 =>
    ⟨_, false, (E2 true).mono s5, x_not (b := true) (x_test rfl), fun H6 s6 => q _ H6 ((s23.trans s5).trans s6)⟩
  cases r with
  | none => exact fin H4 s4
  | some n =>
    obtain ⟨sb, rs, h1, h2, h3, h4, h5, h6⟩ := ag.some_ n rfl
    refine ⟨_, toldD es v (some n), (E2 false).mono s4, x_bin rfl rfl rfl, fun v8 H5 s5 r5 => ?_⟩
    have s45 := s4.trans s5
    refine ⟨v5, rfl, v7, rfl, .str net.s, rfl, .str p.s, rfl, .int ((n : Nat) : Int), rfl, ?_⟩
    refine ⟨fo, v8, v5, v7, .str net.s, .str p.s, .int ((n : Nat) : Int), steps, o, net, p, U, Good, v, es, hmo, rfl, .cons r5 (.cons (.dat (dp_mono s45 _ _ d5)) (.cons (.dat (dp_mono s45 _ _ d7)) (.cons (.dat (.str _)) (.cons (.dat (.str _)) (.cons (.dat (by rw [h3]; exact .int _)) .nil))))), so, LB, h4, h5, h6, fun H6 s6 => ?_⟩
    exact fin H6 (s45.trans s6)
end
end Dn
set_option Elab.async false
set_option linter.all false
set_option maxRecDepth 100000
set_option maxHeartbeats 4000000
namespace Dn
open PySem PySem.Spec L2 PyProof.Rows
section
variable {P : Program} {w : World} {K : PySem.W.Frag} {mg : Str → Option Value} {base : Heap}
/-- the turn over promises -/
theorem law_turn (T : Tx w K mg) {C : Addr} (S : ScriptH K mg C) {fa : Addr} {cd : Value} {A : Around} {outer : List Env} {s : Shared} {H0 : Hp} {E : XK} (hr : Room 11 (aroundL fa cd A s)) :
    ∃ t, PSs (cxL P w K mg base fa cd A outer s H0 E) law_prom t ∧
      ∀ (D : Ends) (H : Hp) (x0 x1 x2 x7 x8 x9 x10 x11 : Option V) (v5 v7 : V) (steps : List Stp) (o : Oth) (net : Net) (p : Pr) (U : List Sta) (Good : Wld → Prop),
        scrOk steps → 1 ≤ steps.length → steps.length ≤ 8 → Bnd steps o net U → LBnd steps o net U Good → Dp K H v5 (stD steps) → Dp K H v7 o.d →
        (∀ y7 y8 y9 y11 H', Same H H' → D.nx [x0, x1, x2, some (.str net.s), some v5, some v7, some (.str p.s), y7, y8, y9, x10, y11] H') →
        t D [x0, x1, x2, some (.str net.s), some v5, some v7, some (.str p.s), x7, x8, x9, x10, x11] H := by
  obtain ⟨fo, fdo, pso, hmo, hko, hbo, hlo, Fo⟩ := (ok__law_is_over (P := P) (base := base) T).ok
  obtain ⟨fi, fdi, Mi, Fi, Bi⟩ := S.mkr
  have OI := ok_init (P := P) (base := base) T Fi
  have hu := hr.units
  obtain ⟨t3, p3, q3⟩ := law_s3 (P := P) (base := base) (outer := outer) (H0 := H0) (E := E) T S hr
  obtain ⟨t4, p4, q4⟩ := law_s47 (P := P) (base := base) (outer := outer) (H0 := H0) (E := E) T hr
  refine ⟨_, pss_cons (ps_set (i := 7) sc_law.nd rfl (Or.inl rfl) (p_call (ok_least T) (hr.mono (by decide)) (pa_cons (pv 4) (pa_cons (pv 5) (pa_cons (pv 3) (pa_cons (pe_glob (v := .ref fo) (by rfl) hmo rfl) (pa_cons (pv 6) pa_nil)))))))
        (pss_cons (ps_setLc (i := 8) (own := [("_law_twice", 11)]) rfl sc_law.nd rfl rfl (sw_true rfl rfl rfl rfl) (pi_range1 (by rfl) T.b_range (pa_cons pe_int pa_nil)) (blkOk_by (N := nLaw) (sc := defScope st_law) (by decide +kernel)) (fun _ _ _ _ _ => pg_name (i := 11) sc_law.nd rfl (Or.inl rfl)) (fun _ _ _ _ _ => pts_nil)
          (fun _ _ _ _ _ => p_call (ok_breaking T) hr (pa_cons (pe_make Mi OI (hr.mono (by decide)) (by rfl) S.gl Bi .nil pass0 (pa_cons (pv 4) pa_nil)) (pa_cons (pv 5) (pa_cons (pv 3) (pa_cons (pv 6) pa_nil))))))
        (pss_cons p3 p4)), ?_⟩
  intro D H x0 x1 x2 x7 x8 x9 x10 x11 v5 v7 steps o net p U Good so hl1 h8 B LB d5 d7 q
  have h0 : 0 < steps.length := hl1
  refine ⟨v5, rfl, v7, rfl, .str net.s, rfl, .str p.s, rfl, ?_⟩
  refine ⟨fo, v5, v7, .str net.s, .str p.s, steps, o, net, p, U, Good, hmo, rfl, .cons (.dat d5) (.cons (.dat d7) (.cons (.dat (.str _)) (.cons (.dat (.str _)) .nil))), so, LB, fun r H9 s9 hr9 => ?_⟩
  obtain ⟨es, v, ag⟩ := agree so h0 B p r hr9
  have d5 := dp_mono s9 _ _ d5
  have d7 := dp_mono s9 _ _ d7
  refine ⟨2, rfl, by decide, by decide, fun Dd hD => ?_⟩
  refine lc_range (n := 2) (fun j H' => Same H9 H' ∧ ∃ acc, H' Dd = some (.lst acc) ∧ DpAll K H' acc (List.replicate j (toldD es v r))) ⟨same_new hD, [], upd_same, .nil⟩ (fun j H' hj I => ⟨rfl, ?_⟩) (fun H' I => ?_)
  · obtain ⟨sI, acc, l1, l2⟩ := I
    refine ⟨v5, rfl, fun x dx hx hdx hne => mk_script (w := w) S (b := true) (dp_mono sI _ _ d5) so hl1 h8 hx hdx hne fun H2 s2 rS => ⟨rfl, v7, rfl, .str net.s, rfl, .str p.s, rfl, ?_⟩⟩
    have d7' := dp_mono (sI.trans s2) _ _ d7
    have fin : ∀ u H3, Same H2 H3 → Dp K H3 u (toldD es v r) → ∃ acc : List V, H3 Dd = some (HO.lst acc) ∧ acc.length < sizeLine ∧ Same H9 (upd H3 Dd (HO.lst (acc ++ [u]))) ∧ ∃ acc_1, upd H3 Dd (HO.lst (acc ++ [u])) Dd = some (HO.lst acc_1) ∧ DpAll K (upd H3 Dd (HO.lst (acc ++ [u]))) acc_1 (List.replicate (j + 1) (toldD es v r)) := by
      intro u H3 s3 du
      have l1' := s3 _ _ (s2 _ _ l1)
      have s03 := (sI.trans s2).trans s3
      have hal : acc.length = j := by rw [dpAll_length l2]; exact List.length_replicate ..
      have sT := sameT_upd (o := .lst (acc ++ [u])) l1'
      have hnl : noL (toldD es v r) = true := by
        cases r with
        | none => rfl
        | some n => show (true && (noLAll (evL es) && true)) = true; rw [evL_noL]; rfl
      refine ⟨acc, l1', by rw [hal]; exact Nat.lt_trans (m := 8) (by omega) (by decide), fun c o e => ?_, acc ++ [u], upd_same, ?_⟩
      · rw [upd_ne (ne_of_none e hD)]
        exact s03 _ _ e
      · rw [List.replicate_succ']
        exact dpAll_append (dpAll_sameT sT _ _ (noL_rep hnl j) (dpAll_mono (s2.trans s3) _ _ l2)) (.cons (dp_sameT sT _ _ hnl du) .nil)
    refine ⟨steps, o, net, U, p, .cons rS (.cons (.dat d7') (.cons (.dat (.str _)) (.cons (.dat (.str _)) .nil))), so, B, ?_⟩
    cases r with
    | none => exact .inl ⟨ag.none_ rfl, fun H3 s3 => fin .non H3 s3 .non⟩
    | some n =>
      obtain ⟨sb, rs, h1, h2, h3, h4, _⟩ := ag.some_ n rfl
      exact .inr ⟨sb, rs, es, firstOf v, h1, h2, h4, fun u H3 s3 du => fin u H3 s3 du⟩
  · obtain ⟨sI, acc, l1, l2⟩ := I
    have d5 := dp_mono sI _ _ d5
    have d7 := dp_mono sI _ _ d7
    refine q3 _ H' x0 x1 x2 none x9 x10 x11 v5 v7 Dd acc steps o net p r es v U so hl1 h8 B ag d5 d7 l1 l2 fun H2 s2 => ?_
    exact q4 _ H2 x0 x1 x2 none x9 x10 x11 v5 v7 Dd acc steps o net p r es v U Good so LB ag (dp_mono s2 _ _ d5) (dp_mono s2 _ _ d7) (s2 _ _ l1) (dpAll_mono s2 _ _ l2) fun y9 H3 s3 => q _ _ _ _ H3 (((s9.trans sI).trans s2).trans s3)
end
end Dn
set_option Elab.async false
set_option linter.all false
set_option maxRecDepth 100000
set_option maxHeartbeats 4000000
namespace Dn
open PySem PySem.Spec L2 PyProof.Rows
abbrev bareS : List Stp := [.fin .yes]
abbrev bareO : Oth := ⟨false, false, false⟩
theorem bare_so : scrOk bareS := fun one h => by
  rw [List.mem_singleton.mp h]
  rfl
theorem bare_true : LeastIs bareS bareO .sure .true_ (some 0) := ⟨fun m h => absurd h (Nat.not_lt_zero _), by decide +kernel⟩
theorem bare_once : LeastIs bareS bareO .sure .once none := ⟨2, by decide +kernel, fun m h => by
  match m, h with
  | 0, _ => decide +kernel
  | 1, _ => decide +kernel
  | k + 2, h => exact absurd h (by omega)⟩
section
variable {P : Program} {w : World} {K : PySem.W.Frag} {mg : Str → Option Value} {base : Heap}
theorem law_for_ok (T : Tx w K mg) {C : Addr} (S : ScriptH K mg C) {fa : Addr} {cd : Value} {A : Around} {outer : List Env} {s : Shared} {H0 : Hp} {E : XK} (hr : Room 11 (aroundL fa cd A s)) :
    ∃ t, PS (cxL P w K mg base fa cd A outer s H0 E) ((defBody st_law).getD 0 (.Pass ⟨0, 0, 0, 0⟩)) t ∧
      ∀ (D : Ends) (H : Hp) (sc : Addr) (ns : List Int), SqL K H sc (ns.map V.int) → ns.length ≤ 100 → (∀ σ' H', σ'.length = 12 → D.nx σ' H') → t D (L2.start nLaw [.ref sc]) H := by
  have hu := hr.units
  have hu1 : (aroundL fa cd A s).units + 1 < cLine := Nat.lt_of_le_of_lt (Nat.add_le_add_left (by decide) _) hu
  obtain ⟨tp, pp, qp⟩ := law_turn (P := P) (base := base) (outer := outer) (H0 := H0) (E := E) T S hr
  refine ⟨_, ps_for PassesOwn.never rfl (pi_range1 (by rfl) T.b_range (pa_cons (d_add d_int (d_callB (b_min rfl) T.b_min (by decide +kernel) (a_cons (d_callB b_len T.b_len PySem.boot_len (a_cons (d_var 0) a_nil)) (a_cons d_int a_nil)))) pa_nil)) (pg_name (i := 1) sc_law.nd rfl (Or.inl rfl))
      (pss_cons (ps_set (i := 2) sc_law.nd rfl (Or.inl rfl) (p_call (ok_begun T) (hr.mono (by decide)) (pa_cons (pv 0) (pa_cons (pv 1) pa_nil))))
      (pss_cons (ps_set (i := 3) sc_law.nd rfl (Or.inr rfl) (p_call (ok_of T) (hr.mono (by decide)) (pa_cons (pv 2) (pa_cons (d_lst (a_cons d_str (a_cons d_str (a_cons d_str (a_cons d_str a_nil))))) pa_nil))))
      (pss_cons (ps_asg (pe_tup (pa_cons (p_call (ok_any_steps T) (hr.mono (by decide)) (pa_cons (pv 2) (pa_cons (pe_ifExp (t_cmp c_in (d_var 3) (d_tup (a_cons d_str (a_cons d_str a_nil))) (by rfl)) pe_int (p_call (ok_of T) (hr.mono (by decide)) (pa_cons (pv 2) (pa_cons (d_lst (a_cons d_int (a_cons d_int (a_cons d_int a_nil)))) pa_nil)))) pa_nil)))
          (pa_cons (p_call (ok_any_others T) (hr.mono (by decide)) (pa_cons (pv 2) pa_nil)) pa_nil))) (pg_tup (n := 2) rfl (pgs_cons (pg_name (i := 4) sc_law.nd rfl (Or.inr rfl)) (pgs_cons (pg_name (i := 5) sc_law.nd rfl (Or.inr rfl)) pgs_nil))))
      (pss_one (ps_for PassesOwn.never rfl (pi_tup (d_tup (a_cons d_str (a_cons d_str a_nil)))) (pg_name (i := 6) sc_law.nd rfl (Or.inr rfl)) pp))))), ?_⟩
  intro D H1 sc ns hsc hns q
  have E0 : EnvOk K w H1 (L2.start nLaw [.ref sc]) [some (.list (ns.map .int)), none, none, none, none, none, none, none, none, none, none, none] := start_ok (Ns := nLaw) (.cons (.dat (.lst hsc (ints_dp ns))) .nil)
  obtain ⟨m, hm, hm5⟩ : ∃ m : Nat, (1 : Int) + (if (4 : Int) < (ns.length : Nat) then 4 else ((ns.length : Nat) : Int)) = (m : Nat) ∧ m ≤ 5 := by
    by_cases h : (4 : Int) < (ns.length : Nat)
    · exact ⟨5, by rw [if_pos h]; rfl, Nat.le_refl _⟩
    · exact ⟨1 + ns.length, by rw [if_neg h]; omega, by omega⟩
  refine ⟨_, .int (m : Nat), E0, ?_, fun v1 H1 s1 r1 => ?_⟩
  · rw [← hm]
    refine v_add rfl (x_app (ds := [.int ((ns.length : Nat) : Int), .int 4]) (x_consA (x_app (ds := [.list (ns.map .int)]) rfl ?_) (x_consA rfl x_nilA)) rfl)
    show some (PyData.int (((ns.map PyData.int).length : Nat) : Int)) = _
    rw [List.length_map]
  cases rp_int r1
  refine ⟨(m : Nat), rfl, by omega, by omega, ?_⟩
  have e0 : ((m : Nat) : Int).toNat = m := Int.toNat_natCast m
  rw [e0]
  refine for_range (lo := 0) (n := m) (fun j σ H => σ.length = 12 ∧ σ[0]? = some (some (.ref sc)) ∧ SqL K H sc (ns.map V.int)) ⟨rfl, rfl, Same.seq s1 hsc⟩ (fun j σ H hj I => ?_) (fun σ H I => ?_)
  · obtain ⟨hl, h0, hq⟩ := I
    obtain ⟨x1, x2, x3, x4, x5, x6, x7, x8, x9, x10, x11, rfl⟩ : ∃ x1 x2 x3 x4 x5 x6 x7 x8 x9 x10 x11, σ = [some (.ref sc), x1, x2, x3, x4, x5, x6, x7, x8, x9, x10, x11] := by
      match σ, hl, h0 with
      | [x0, x1, x2, x3, x4, x5, x6, x7, x8, x9, x10, x11], _, h0 => cases h0; exact ⟨x1, x2, x3, x4, x5, x6, x7, x8, x9, x10, x11, rfl⟩
    have ej : (0 : Int) + (j : Nat) = (j : Nat) := by omega
    rw [ej]
    refine ⟨.ref sc, rfl, .int (j : Nat), rfl, sc, ns, j, rfl, hq, hns, by omega, fun a sd cs Ha sa ha ma => ?_⟩
    have hq := Same.seq sa hq
    refine ⟨.ref a, rfl, List.replicate 12 none, .list [.str "sure", .str "lost", .str "late", .str "again"], env_none rfl, by kernel_rfl, fun v3 H2 s2 r3 => ?_⟩
    have d3 : Dp K H2 v3 (.list [.str "sure", .str "lost", .str "late", .str "again"]) := by cases r3; assumption
    refine ⟨a, Ha, sd, cs, 0, v3, _, rfl, ma.mono s2, by decide, d3, by simp, by decide, fun d hd v' H3 sB3 m3 d3 => ?_⟩
    obtain ⟨net, rfl⟩ : ∃ net : Net, d = .str net.s := by
      simp only [List.mem_cons, List.mem_nil_iff, or_false] at hd
      rcases hd with rfl | rfl | rfl | rfl
      · exact ⟨.sure, rfl⟩
      · exact ⟨.lost, rfl⟩
      · exact ⟨.late, rfl⟩
      · exact ⟨.again, rfl⟩
    cases d3
    refine ⟨.ref a, rfl, [none, none, none, some (.str net.s), none, none, none, none, none, none, none, none], netSmall net, (EnvL.no (.no (.no (.so (.dat (.str _)) (.no (.no (.no (.no (.no (.no (.no (.no .nil)))))))))))).ok, by cases net <;> kernel_rfl, fun H4 s4 => ?_⟩
    have hqB : ∀ {H'}, SameB a Ha H' → SqL K H' sc (ns.map V.int) := fun sB => sqL_sameD (ma.d sB) hq
    have sB4 := (Same.b s2).trans (sB3.trans (Same.b s4))
    have m4 := m3.mono s4
    cases hb : netSmall net
    case' true =>
      refine ⟨a, Ha, sd, cs, 1, 2, rfl, m4, by decide, by decide, by decide, fun steps v5 H5 hl1 hl2 so sB5 m5 d5 => ?_⟩
      have h8 : steps.length ≤ 8 := by omega
      have hsm : (net = .late ∨ net = .again) → steps.length ≤ 2 := fun _ => hl2
      have m6 : Mst K Ha H5 a sd cs 110 := m5.le (by omega)
      have sB6 := sB4.trans sB5
    case' false =>
      refine ⟨.ref a, rfl, List.replicate 12 none, .list [.int 4, .int 4, .int 8], env_none rfl, by kernel_rfl, fun v5 H5 s5 r5 => ?_⟩
      have d5 : Dp K H5 v5 (.list [.int 4, .int 4, .int 8]) := by cases r5; assumption
      refine ⟨a, Ha, sd, cs, 1, v5, _, rfl, m4.mono s5, by decide, d5, by simp, by decide, fun d hd v6 H6 sB6 m6 d6 => ?_⟩
      obtain ⟨most, hm1, hm8, rfl⟩ : ∃ most : Nat, 1 ≤ most ∧ most ≤ 8 ∧ d = .int ((most : Nat) : Int) := by
        simp only [List.mem_cons, List.mem_nil_iff, or_false] at hd
        rcases hd with rfl | rfl | rfl
        · exact ⟨4, by decide, by decide, rfl⟩
        · exact ⟨4, by decide, by decide, rfl⟩
        · exact ⟨8, by decide, by decide, rfl⟩
      cases d6
      have sBx := sB4.trans ((Same.b s5).trans sB6)
      refine ⟨a, Ha, sd, cs, 2, most, rfl, m6, by decide, hm1, hm8, fun steps v5 H5 hl1 hl2 so sB5 m5 d5 => ?_⟩
      have h8 : steps.length ≤ 8 := by omega
      have hsm : (net = .late ∨ net = .again) → steps.length ≤ 2 := fun h => by rcases h with rfl | rfl <;> cases hb
      have m6 : Mst K Ha H5 a sd cs 110 := m5.le (by omega)
      have sB6 := sBx.trans sB5
    all_goals
      refine ⟨.ref a, rfl, a, Ha, sd, cs, 110, rfl, m6, by decide, fun o v7 H7 sB7 m7 d7 => ⟨(show 2 ≤ sizeLine by decide), fun Tn hTn => ?_⟩⟩
      have sT := same_new (o := .tup [v5, v7]) hTn
      refine ⟨Tn, [v5, v7], rfl, SqT.of upd_same, rfl, ?_⟩
      refine ⟨v5, [v7], rfl, v7, [], rfl, rfl, ?_⟩
      refine ⟨List.replicate 12 none, .tuple [.str "once", .str "true"], env_none rfl, by kernel_rfl, fun v8 H8 s8 r8 => ?_⟩
      obtain ⟨Tp, xs, rfl, k1, k2⟩ := rp_tup r8
      have hq8 : SqL K H8 sc (ns.map V.int) := Same.seq s8 (Same.seq sT (hqB (sB6.trans sB7)))
      have d5 : Dp K H8 v5 (stD steps) := dp_mono s8 _ _ (dp_mono sT _ _ (dp_sameD (m6.d sB7) _ _ d5))
      have d7 : Dp K H8 v7 o.d := dp_mono s8 _ _ (dp_mono sT _ _ d7)
      refine ⟨Tp, rfl, ⟨xs, k1⟩, ?_⟩
      refine for_tup (xs := xs) (fun j σ H => σ.length = 12 ∧ σ[0]? = some (some (.ref sc)) ∧ σ[3]? = some (some (.str net.s)) ∧ σ[4]? = some (some v5) ∧ σ[5]? = some (some v7) ∧ Same H8 H) ⟨rfl, rfl, rfl, rfl, rfl, Same.refl _⟩ (fun j σ H _ p => sqT_mono p.2.2.2.2.2 k1) (fun j x σ H hj p => ?_) fun σ H p => ⟨p.1, p.2.1, Same.seq p.2.2.2.2.2 hq8⟩
      obtain ⟨hl, g0, g3, g4, g5, sH⟩ := p
      obtain ⟨p, hp, hde⟩ := dpAll_at (f := fun p : Pr => .str p.s) (l := [Pr.once, Pr.true_]) k2 hj
      cases hde
      obtain ⟨y1, y2, y6, y7, y8, y9, y10, y11, rfl⟩ : ∃ y1 y2 y6 y7 y8 y9 y10 y11, σ = [some (.ref sc), y1, y2, some (.str net.s), some v5, some v7, y6, y7, y8, y9, y10, y11] := by
        match σ, hl, g0, g3, g4, g5 with
        | [x0, x1, x2, x3, x4, x5, x6, x7, x8, x9, x10, x11], _, g0, g3, g4, g5 => cases g0; cases g3; cases g4; cases g5; exact ⟨x1, x2, x6, x7, x8, x9, x10, x11, rfl⟩
      have d5 := dp_mono sH _ _ d5
      have d7 := dp_mono sH _ _ d7
      obtain ⟨U, Good, B, LB⟩ := bounds o (net := net) so hl1 h8 hsm
      exact qp _ H (some (.ref sc)) y1 y2 y7 y8 y9 y10 y11 v5 v7 steps o net p U Good so hl1 h8 B LB d5 d7 fun z7 z8 z9 z11 H' sH' => ⟨rfl, rfl, rfl, rfl, rfl, sH.trans sH'⟩
  · exact q σ H I.1
theorem law_tail (T : Tx w K mg) {C : Addr} (S : ScriptH K mg C) {fa : Addr} {cd : Value} {A : Around} {outer : List Env} {s : Shared} {H0 : Hp} {E : XK} (hr : Room 11 (aroundL fa cd A s)) :
    ∃ t, PSs (cxL P w K mg base fa cd A outer s H0 E) ((defBody st_law).drop 1) t ∧
      ∀ (D : Ends) (H : Hp) (σ : L2.St), σ.length = 12 → (∀ H', D.rt (.bl true) H') → t D σ H := by
  have hu := hr.units
  obtain ⟨fi, fdi, Mi, Fi, Bi⟩ := S.mkr
  have OI := ok_init (P := P) (base := base) T Fi
  refine ⟨_, pss_cons (ps_set (i := 10) sc_law.nd rfl (Or.inl rfl) (pe_make Mi OI (hr.mono (by decide)) (by rfl) S.gl Bi .nil pass0 (pa_cons (d_lst (a_cons (d_tup (a_cons d_str (a_cons d_str a_nil))) a_nil)) pa_nil)))
    (pss_one (ps_ret (pe_and (pe_cmpR (op_eqD hu) (pe_ix ix_tup (p_call (ok_breaking T) hr (pa_cons (pv 10) (pa_cons (d_tup a_nil) (pa_cons pe_str (pa_cons pe_str pa_nil))))) d_int (fun _ _ => rfl)) (d_tup a_nil) (by rfl))
      (pe_one (pe_cmpR op_isBl (p_call (ok_keeps T) hr (pa_cons (pv 10) (pa_cons (d_tup a_nil) (pa_cons pe_str (pa_cons pe_str pa_nil))))) pe_bl (by rfl)))))), ?_⟩
  intro D H σ hl q
  have E0 : EnvOk K w H σ (List.replicate 12 none) := env_none hl
  refine ⟨_, .list [.tuple [.str "end", .str "yes"]], E0, rfl, fun v1 H1 s1 r1 => ?_⟩
  have d1 : Dp K H1 v1 (seqD false (bareS.map Stp.d)) := by cases r1; assumption
  obtain ⟨U, Good, B, LB⟩ := bounds bareO (steps := bareS) (net := .sure) bare_so (by decide) (by decide) (by intro h; rcases h with h | h <;> cases h)
  refine fun x dx hx hdx hne => mk_script (w := w) S (b := false) (steps := bareS) d1 bare_so (by decide) (by decide) hx hdx hne fun H2 s2 rS => ⟨rfl, ?_⟩
  have g10 : (σ.set 10 (some (V.ref x)))[10]? = some (some (.ref x)) := get_set (by rw [hl]; decide)
  have E1 : ∀ H, EnvOk K w H (σ.set 10 (some (.ref x))) (List.replicate 12 none) := fun H => env_none (by rw [List.length_set]; exact hl)
  refine ⟨.ref x, g10, _, .tuple [], E1 H2, rfl, fun v2 H3 s3 r3 => ?_⟩
  obtain ⟨es, v, sb, rs, h1, h2, h3, h4, h5, h6⟩ := some_spec bare_so (by decide) B .true_ 0 bare_true
  have he : es = [] := List.length_eq_zero_iff.mp h3
  subst he
  refine ⟨bareS, bareO, .sure, U, .true_, .cons (rS.mono s3) (.cons r3 (.cons (.dat (.str _)) (.cons (.dat (.str _)) .nil))), bare_so, B, .inr ⟨sb, rs, [], firstOf v, h1, h2, by decide, fun u H4 s4 du => ?_⟩⟩
  refine ⟨_, .int 1, E1 H4, rfl, fun v5 H5 s5 r5 => ?_⟩
  cases rp_int r5
  obtain ⟨a, xs, rfl, k1, k2⟩ := rp_tup (.dat (dp_mono s5 _ _ du) : Rp K w H5 u _)
  obtain ⟨z, k3, k4⟩ := dpAll_atI k2 (i := 1) (d := .tuple []) rfl
  refine ⟨a, xs, 1, z, rfl, rfl, k1, k3, ?_⟩
  refine ⟨_, .tuple [], E1 H5, rfl, fun v6 H6 s6 r6 => ?_⟩
  refine ⟨.tuple [], .tuple [], dp_mono s6 _ _ k4, by cases r6; assumption, rfl, rfl, ?_⟩
  refine ⟨true, rfl, ?_⟩
  refine ⟨.ref x, g10, _, .tuple [], E1 H6, rfl, fun v7 H7 s7 r7 => ?_⟩
  have s27 := (((s3.trans s4).trans s5).trans s6).trans s7
  refine ⟨bareS, bareO, .sure, U, .once, .cons (rS.mono s27) (.cons r7 (.cons (.dat (.str _)) (.cons (.dat (.str _)) .nil))), bare_so, B, fun H8 s8 => ?_⟩
  have hn := none_spec bare_so (by decide) B .once bare_once
  refine ⟨(badsOf bareS bareO .sure .once).isEmpty, true, rfl, rfl, ?_⟩
  have e : decide ((badsOf bareS bareO .sure .once).isEmpty = true) = true := by rw [hn]; rfl
  rw [e]
  exact q H8
theorem law_fn (T : Tx w K mg) {C : Addr} (S : ScriptH K mg C) {f : Addr} {fd : FuncData} (F : Fun K "law" "law" st_law f fd) : FnOk P w K mg base CX0 12 f fd ["_law_script"] (spLaw K) := by
  refine F.ok sc_law (fun vs H Q E ⟨sc, ns, e, _⟩ => by rw [e]; rfl) fun cd A outer s H vs Q E hr h => ?_
  obtain ⟨t1, p1, q1⟩ := law_for_ok (P := P) (base := base) (outer := outer) (H0 := H) (E := E) T S hr
  obtain ⟨t2, p2, q2⟩ := law_tail (P := P) (base := base) (outer := outer) (H0 := H) (E := E) T S hr
  refine ⟨_, pss_cons p1 p2, ?_⟩
  obtain ⟨sc, ns, rfl, hsc, hns, q⟩ := h
  exact q1 _ H sc ns hsc hns fun σ' H' hl => q2 _ H' σ' hl fun H2 => q H2
end
end Dn
set_option Elab.async false
set_option linter.all false
set_option maxRecDepth 100000
set_option maxHeartbeats 4000000
namespace Dn
open PySem PySem.Spec L2 PyProof.Rows
/-! ### what the look gives -/
theorem frG_none {g : GF} {a : Addr} (h : g a = none) : ∀ as : List Addr, (He.frG g as).lookup a = none := fun as => by
  cases e : (He.frG g as).lookup a with
  | none => rfl
  | some o => rw [He.frG_at as e] at h; cases h
theorem frG_cons {g : GF} {b : Addr} {as : List Addr} : He.frG g (b :: as) = match g b with
    | some o => (b, o) :: He.frG g as
    | none => He.frG g as := by
  unfold He.frG
  rw [List.filterMap_cons]
  cases g b <;> rfl
theorem frG_some {g : GF} {a : Addr} {o : Obj} (h : g a = some o) : ∀ {as : List Addr}, a ∈ as → (He.frG g as).lookup a = some o
  | [], hm => by cases hm
  | b :: r, hm => by
    rw [frG_cons]
    by_cases hb : a = b
    · subst hb
      rw [h]
      show (match a == a with | true => some o | false => _) = _
      rw [beq_self_eq_true]
    · have hr : a ∈ r := by
        rcases List.mem_cons.mp hm with e | e
        · exact absurd e hb
        · exact e
      have ih := frG_some h hr
      cases g b with
      | none => exact ih
      | some ob =>
        show (match a == b with | true => some ob | false => (He.frG g r).lookup a) = _
        rw [show (a == b) = false from beq_eq_false_iff_ne.mpr hb]
        exact ih
def firstIs (x : Str) : List (Option Str) → Nat → Bool
  | k :: _, 0 => k == some x
  | k :: r, i + 1 => !(k == some x) && firstIs x r i
  | [], _ => false
theorem keyS_is {e : DictEntry} {x : Str} : e.key.isStr x = (keyS e == some x) := by
  unfold keyS
  cases e.key with
  | str y t => rfl
  | _ => rfl
theorem find_at {x : Str} : ∀ {es : List DictEntry} {ks : List (Option Str)} {i : Nat}, es.map keyS = ks → firstIs x ks i = true → ∃ e, es[i]? = some e ∧ es.find? (·.key.isStr x) = some e
  | [], ks, i, h, f => by subst h; cases i <;> cases f
  | e :: r, ks, 0, h, f => by
    subst h
    refine ⟨e, rfl, ?_⟩
    have f1 : (keyS e == some x) = true := f
    rw [List.find?_cons, show (e.key.isStr x) = true by rw [keyS_is]; exact f1]
  | e :: r, ks, i + 1, h, f => by
    subst h
    obtain ⟨f1, f2⟩ := He.ba (show (!(keyS e == some x) && firstIs x (r.map keyS) i) = true from f)
    obtain ⟨e2, h1, h2⟩ := find_at (es := r) rfl f2
    refine ⟨e2, h1, ?_⟩
    rw [List.find?_cons, show (e.key.isStr x) = false by rw [keyS_is]; simpa using f1]
    exact h2
def freeIs (x : Str) : List (Option Str) → Bool
  | [] => true
  | some y :: r => !(y == x) && freeIs x r
  | none :: _ => false
theorem find_free {x : Str} : ∀ {es : List DictEntry} {ks : List (Option Str)}, es.map keyS = ks → freeIs x ks = true → es.find? (·.key.isStr x) = none ∧ es.any (·.refKey) = false
  | [], ks, h, f => ⟨rfl, rfl⟩
  | e :: r, ks, h, f => by
    subst h
    have f0 : freeIs x (keyS e :: r.map keyS) = true := f
    cases k : keyS e with
    | none => rw [k] at f0; cases f0
    | some y =>
      rw [k] at f0
      obtain ⟨f1, f2⟩ := He.ba (show (!(y == x) && freeIs x (r.map keyS)) = true from f0)
      obtain ⟨h1, h2⟩ := find_free (es := r) rfl f2
      refine ⟨?_, ?_⟩
      · rw [List.find?_cons, show (e.key.isStr x) = false by rw [keyS_is, k]; simpa using f1]
        exact h1
      · rw [List.any_cons, h2, Bool.or_false]
        unfold keyS at k
        unfold DictEntry.refKey
        generalize e.key = z at k ⊢
        cases z with
        | ref a => cases k
        | _ => rfl
section
variable {g : GF} {w : World} {h : Heap} {mg : Str → Option Value}
theorem o_keys (c : obsM g = valM w.params) : (entsG g mainGlobals).map keyS = allKeys := congrArg (fun z : AlM => z.1.1.1) c
theorem o_vals (c : obsM g = valM w.params) : ((entsG g mainGlobals).drop 9).map (fun e => sumV g e.val) = allSm w.params := congrArg (fun z : AlM => z.1.1.2) c
theorem o_init (c : obsM g = valM w.params) : sumV g (.ref (aI g)) = sm_init := congrArg (fun z : AlM => z.1.2) c
theorem o_cls (c : obsM g = valM w.params) : clsB (kM g) (aC g) (aI g) = true := congrArg (fun z : AlM => z.2) c
theorem main_in (g : GF) : mainGlobals ∈ asM g := by
  unfold asM asR
  simp
theorem main_at (c : obsM g = valM w.params) : ∃ oc od es n sl, g mainGlobals = some ⟨oc, od, .dict es n, sl⟩ ∧ entsG g mainGlobals = es.toList := by
  have e := o_keys c
  unfold entsG at e ⊢
  split
  · rename_i oc od es n sl q
    exact ⟨_, _, _, _, _, q, rfl⟩
  · rename_i q
    exfalso
    split at e
    · rename_i oc od es n sl q2
      exact q _ _ _ _ _ q2
    · cases e
theorem ns_eq (c : obsM g = valM w.params) (x : Str) : PySem.W.nsIn (kM g) mainGlobals x = match (entsG g mainGlobals).find? (·.key.isStr x) with
    | some e => some (some e.val)
    | none => if (entsG g mainGlobals).any (·.refKey) then none else some none := by
  obtain ⟨oc, od, es, n, sl, h1, h2⟩ := main_at c
  unfold PySem.W.nsIn kM
  rw [frG_some h1 (main_in g), h2]
  rfl
theorem ref_in {es : List DictEntry} {e : DictEntry} {a : Addr} (h : e ∈ es) (hv : e.val = .ref a) : a ∈ refsE es :=
  List.mem_flatMap.mpr ⟨e, h, by rw [hv]; exact List.mem_singleton.mpr rfl⟩
theorem as_of {a : Addr} (h : a ∈ refsE (entsG g mainGlobals)) : a ∈ asM g := by
  unfold asM asR
  simp only [List.mem_cons, List.mem_append]
  exact .inr (.inr (.inr (.inr (.inr (.inl h)))))
theorem as_of2 {a b : Addr} (h : a ∈ refsE (entsG g mainGlobals)) (hb : b ∈ codeR g a) : b ∈ asM g := by
  unfold asM asR
  simp only [List.mem_cons, List.mem_append]
  exact .inr (.inr (.inr (.inr (.inr (.inr (List.mem_flatMap.mpr ⟨a, h, hb⟩))))))
/-- the module's name x: its value, what it is -/
structure At (g : GF) (w : World) (x : Str) (i : Nat) (v : Value) : Prop where
  ns : PySem.W.nsIn (kM g) mainGlobals x = some (some v)
  ref : ∀ a, v = .ref a → a ∈ refsE (entsG g mainGlobals)
  sm : ∀ s, (allSm w.params)[i]? = some s → sumV g v = s
  adr : ∀ a, v = .ref a → valOf (entsG g mainGlobals) x = a
theorem at_of (c : obsM g = valM w.params) (x : Str) (i : Nat) (hf : firstIs x allKeys (i + 9) = true) : ∃ v, At g w x i v := by
  obtain ⟨e, h1, h2⟩ := find_at (o_keys c) hf
  refine ⟨e.val, ?_, fun a ha => ref_in (List.mem_of_getElem? h1) ha, fun s hs => ?_, fun a ha => ?_⟩
  · rw [ns_eq c, h2]
  · rw [← o_vals c, List.getElem?_map, List.getElem?_drop, Nat.add_comm, h1] at hs
    exact Option.some.inj hs
  · unfold valOf
    rw [h2]
    show (match e.val with | .ref a => a | _ => 0) = a
    rw [ha]
theorem mg_free (c : obsM g = valM w.params) (X : (kM g).In h) (G : h.Ns mainGlobals mg) (x : Str) (hf : freeIs x allKeys = true) : mg x = none := by
  obtain ⟨h1, h2⟩ := find_free (o_keys c) hf
  refine PySem.W.mg_none_of X G ?_
  rw [ns_eq c, h1, h2]
  rfl
/-! values -/
def isFl : PyData → Bool
  | .str _ => true
  | .int _ => true
  | _ => false
theorem flat_ok {u : Value} {d : PyData} (e : datF u = d) (hf : isFl d = true) : ∃ v, RelV v u ∧ ∀ K H, Dp K H v d := by
  subst e
  cases u with
  | str x t => exact ⟨.str x, ⟨t, rfl⟩, fun _ _ => .str x⟩
  | int i t => exact ⟨.int i, ⟨t, rfl⟩, fun _ _ => .int i⟩
  | _ => cases hf
theorem flats_ok : ∀ {us : List Value} {ds : List PyData}, us.map datF = ds → ds.all isFl = true → ∃ vs, Vals vs us ∧ ∀ K H, DpAll K H vs ds
  | [], _, e, _ => by subst e; exact ⟨[], .nil, fun _ _ => .nil⟩
  | u :: us, _, e, hf => by
    subst e
    obtain ⟨h1, h2⟩ := He.ba (show (isFl (datF u) && (us.map datF).all isFl) = true from hf)
    obtain ⟨v, a1, a2⟩ := flat_ok rfl h1
    obtain ⟨vs, b1, b2⟩ := flats_ok rfl h2
    exact ⟨v :: vs, .cons a1 b1, fun K H => .cons (a2 K H) (b2 K H)⟩
def okD : PyData → Bool
  | .tuple ds => ds.all isFl && decide (ds.length ≤ 100)
  | d => isFl d
theorem dat_tup {a : Addr} {ds : List PyData} (e : datV g (.ref a) = some (.tuple ds)) (hf : okD (.tuple ds) = true) (hin : a ∈ asM g) : ∃ o vs, (kM g).lookup a = some o ∧ o.cls = .type "tuple" ∧ o.dict = none ∧ (∀ H, SqT (kM g) H a vs) ∧ ∀ K H, DpAll K H vs ds := by
  obtain ⟨f1, f2⟩ := He.ba (show (ds.all isFl && decide (ds.length ≤ 100)) = true from hf)
  have e1 : (match g a with
    | some ⟨.type c, none, .seq its _, _⟩ => (match decide (c = "tuple") with
      | true => some (PyData.tuple (its.toList.map datF))
      | false => none)
    | _ => none) = some (.tuple ds) := e
  cases q : g a with
  | none => rw [q] at e1; cases e1
  | some o =>
    obtain ⟨oc, od, dt, osl⟩ := o
    rw [q] at e1
    cases oc with
    | type c =>
      cases od with
      | none =>
        cases dt with
        | seq its n =>
          have e2 : (match decide (c = "tuple") with
            | true => some (PyData.tuple (its.toList.map datF))
            | false => none) = some (.tuple ds) := e1
          cases z : decide (c = "tuple") with
          | false => rw [z] at e2; cases e2
          | true =>
            rw [z] at e2
            have ec : c = "tuple" := of_decide_eq_true z
            subst ec
            injection e2 with e3
            injection e3 with e4
            obtain ⟨vs, b1, b2⟩ := flats_ok e4 f1
            have hl : its.size ≤ sizeLine := by
              have h1 : its.size = ds.length := by rw [← e4, List.length_map]; rfl
              rw [h1]
              exact Nat.le_trans (of_decide_eq_true f2) (by decide)
            have hk := frG_some q hin
            exact ⟨_, vs, hk, rfl, rfl, fun H => .inr ⟨_, its, n, hk, rfl, rfl, hl, b1⟩, b2⟩
        | _ => cases e1
      | some d => cases dt <;> cases e1
    | _ => cases od <;> cases dt <;> cases e1
theorem datV_ref {a : Addr} {d : PyData} (e : datV g (.ref a) = some d) : ∃ ds, d = .tuple ds := by
  have e1 : (match g a with
    | some ⟨.type c, none, .seq its _, _⟩ => (match decide (c = "tuple") with
      | true => some (PyData.tuple (its.toList.map datF))
      | false => none)
    | _ => none) = some d := e
  split at e1
  · split at e1
    · exact ⟨_, (Option.some.inj e1).symm⟩
    · cases e1
  · cases e1
theorem dat_ok {u : Value} {d : PyData} (e : datV g u = some d) (hf : okD d = true) (hin : ∀ a, u = .ref a → a ∈ asM g) : ∃ v, RelV v u ∧ ∀ H, Dp (kM g) H v d := by
  cases u with
  | str x t => cases e; exact ⟨.str x, ⟨t, rfl⟩, fun _ => .str x⟩
  | int i t => cases e; exact ⟨.int i, ⟨t, rfl⟩, fun _ => .int i⟩
  | ref a =>
    obtain ⟨ds, rfl⟩ := datV_ref e
    obtain ⟨o, vs, _, _, _, h1, h2⟩ := dat_tup e hf (hin a rfl)
    exact ⟨.ref a, rfl, fun H => .tup (h1 H) (h2 _ H)⟩
  | _ => cases e
theorem sum_p {v : Value} {d : PyData} (e : sumV g v = .p (some d)) : datV g v = some d := by
  unfold sumV at e
  split at e
  · split at e
    · cases e
    · cases e
    · cases e
    · injection e
  · injection e
theorem gc_ok (c : obsM g = valM w.params) (X : (kM g).In h) (G : h.Ns mainGlobals mg) {x : Str} {d : PyData} (i : Nat) (hf : firstIs x allKeys (i + 9) = true) (hs : (allSm w.params)[i]? = some (.p (some d))) (ho : okD d = true) : GC (kM g) w mg x d := by
  obtain ⟨u, A⟩ := at_of c x i hf
  obtain ⟨v, h1, h2⟩ := dat_ok (sum_p (A.sm _ hs)) ho fun a ha => as_of (A.ref a ha)
  exact ⟨v, u, PySem.W.mg_of X G A.ns, h1, fun H => .dat (h2 H)⟩
/-! dicts -/
structure DicAt (g : GF) (w : World) (a : Addr) (es : Array DictEntry) (n : Nat) (ps : List (Str × PyData)) : Prop where
  kd : KDict (kM g) w a es n
  look : (kM g).lookup a = some ⟨.type "dict", none, .dict es n, #[]⟩
  ent : es.toList.map (fun e => (He.keyOf e, datV g e.val)) = ps.map fun p => (some (p.1, PyData.keyHash w.params p.1), some p.2)
  sub : ∀ e ∈ es.toList, ∀ b, e.val = .ref b → b ∈ asM g
theorem sum_d {a : Addr} {ps : List (Str × PyData)} (e : sumV g (.ref a) = .d true (ps.map fun p => (some (p.1, PyData.keyHash w.params p.1), some p.2))) (hin : a ∈ refsE (entsG g mainGlobals)) : ∃ es n, DicAt g w a es n ps := by
  have e1 : (match g a with
    | some ⟨_, _, .func fd, _⟩ => fnS g fd
    | some ⟨.type c, none, .dict es _, sl⟩ => Sm.d (decide (c = "dict") && (sl.isEmpty && !(a == sysModules))) (es.toList.map fun e => (He.keyOf e, datV g e.val))
    | some ⟨_, _, .cls _, _⟩ => .c
    | _ => .p (datV g (.ref a))) = .d true (ps.map fun p => (some (p.1, PyData.keyHash w.params p.1), some p.2)) := e
  split at e1
  · cases e1
  · rename_i c es n sl q
    injection e1 with e2 e3
    obtain ⟨z1, z2⟩ := He.ba e2
    obtain ⟨z3, z4⟩ := He.ba z2
    have ec : c = "dict" := of_decide_eq_true z1
    have el : sl = #[] := Array.isEmpty_iff.mp z3
    subst ec el
    have hk := frG_some q (as_of hin)
    have hks : es.toList.map He.keyOf = He.keysIn w.params (ps.map (·.1)) := by
      have := congrArg (List.map Prod.fst) e3
      rw [List.map_map, List.map_map] at this
      unfold He.keysIn
      rw [List.map_map]
      exact this
    refine ⟨es, n, ⟨hk, He.keysLit_of hks, by simpa using z4⟩, hk, e3, fun e he b hb => as_of2 hin ?_⟩
    unfold codeR
    rw [q]
    exact ref_in he hb
  · cases e1
  · cases e1
theorem keyOf_is {e : DictEntry} {x : Str} {i : Int} (h : He.keyOf e = some (x, i)) (y : Str) : e.key.isStr y = decide (x = y) := by
  unfold He.keyOf at h
  split at h
  · rename_i z t q
    injection h with h
    injection h with h1 h2
    subst h1
    rw [q]
    show (z == y) = decide (z = y)
    rw [Bool.eq_iff_iff]
    simp
  · cases h
theorem keyOf_noref {e : DictEntry} {p : Str × Int} (h : He.keyOf e = some p) : e.refKey = false := by
  unfold He.keyOf at h
  unfold DictEntry.refKey
  split at h
  · rename_i z t q
    rw [q]
  · cases h
theorem dic_find {P : Params} {x : Str} {d : PyData} : ∀ {es : List DictEntry} {ps : List (Str × PyData)}, es.map (fun e => (He.keyOf e, datV g e.val)) = ps.map (fun p => (some (p.1, PyData.keyHash P p.1), some p.2)) → lookD x (ps.map fun p => (.str p.1, p.2)) = some d → ∃ e ∈ es, es.find? (·.key.isStr x) = some e ∧ datV g e.val = some d
  | [], [], _, h => by cases h
  | [], _ :: _, e, _ => by cases e
  | _ :: _, [], e, _ => by cases e
  | e :: es, (y, dy) :: ps, he, h => by
    injection he with h1 h2
    injection h1 with h3 h4
    have h5 : (if isKey x (.str y) = true then some dy else lookD x (ps.map fun p => (.str p.1, p.2))) = some d := h
    by_cases hk : isKey x (.str y) = true
    · rw [if_pos hk] at h5
      cases h5
      refine ⟨e, List.mem_cons_self .., ?_, h4⟩
      rw [List.find?_cons, keyOf_is h3, show decide (y = x) = true from hk]
    · rw [if_neg hk] at h5
      obtain ⟨e2, m2, f2, d2⟩ := dic_find h2 h5
      refine ⟨e2, List.mem_cons_of_mem _ m2, ?_, d2⟩
      rw [List.find?_cons, keyOf_is h3, show decide (y = x) = false from by simpa [isKey] using hk]
      exact f2
theorem dic_none {P : Params} {x : Str} : ∀ {es : List DictEntry} {ps : List (Str × PyData)}, es.map (fun e => (He.keyOf e, datV g e.val)) = ps.map (fun p => (some (p.1, PyData.keyHash P p.1), some p.2)) → lookD x (ps.map fun p => (.str p.1, p.2)) = none → es.find? (·.key.isStr x) = none ∧ es.any (·.refKey) = false
  | [], _, _, h => ⟨rfl, rfl⟩
  | _ :: _, [], e, _ => by cases e
  | e :: es, (y, dy) :: ps, he, h => by
    injection he with h1 h2
    injection h1 with h3 h4
    have h5 : (if isKey x (.str y) = true then some dy else lookD x (ps.map fun p => (.str p.1, p.2))) = none := h
    by_cases hk : isKey x (.str y) = true
    · rw [if_pos hk] at h5
      cases h5
    · rw [if_neg hk] at h5
      obtain ⟨f1, f2⟩ := dic_none h2 h5
      refine ⟨?_, ?_⟩
      · rw [List.find?_cons, keyOf_is h3, show decide (y = x) = false from by simpa [isKey] using hk]
        exact f1
      · rw [List.any_cons, f2, keyOf_noref h3]
        rfl
theorem DicAt.hit {a : Addr} {es : Array DictEntry} {n : Nat} {ps : List (Str × PyData)} (D : DicAt g w a es n ps) {x : Str} {d : PyData} (h : lookD x (ps.map fun p => (.str p.1, p.2)) = some d) : ∃ u, PySem.W.nsIn (kM g) a x = some (some u) ∧ datV g u = some d ∧ ∀ b, u = .ref b → b ∈ asM g := by
  obtain ⟨e, m, f, hd⟩ := dic_find D.ent h
  refine ⟨e.val, ?_, hd, D.sub e m⟩
  unfold PySem.W.nsIn
  rw [D.look]
  show (match es.toList.find? (·.key.isStr x) with
    | some e => some (some e.val)
    | none => if es.toList.any (·.refKey) then none else some none) = _
  rw [f]
theorem DicAt.kok {a : Addr} {es : Array DictEntry} {n : Nat} {ps : List (Str × PyData)} (D : DicAt g w a es n ps) (ho : ∀ x d, lookD x (ps.map fun p => (PyData.str p.1, p.2)) = some d → okD d = true) : KdOk (kM g) w a (ps.map fun p => (.str p.1, p.2)) := by
  refine ⟨⟨es, n, D.kd⟩, fun x d h => ?_, ?_, fun h => ?_⟩
  · obtain ⟨u, h1, h2, h3⟩ := D.hit h
    obtain ⟨v, h4, h5⟩ := dat_ok h2 (ho x d h) h3
    exact ⟨u, v, h1, h4, h5⟩
  · rw [List.all_map]
    exact List.all_eq_true.mpr fun p _ => rfl
  · obtain ⟨f1, f2⟩ := dic_none D.ent h
    unfold PySem.W.nsIn
    rw [D.look]
    show (match es.toList.find? (·.key.isStr "there") with
      | some e => some (some e.val)
      | none => if es.toList.any (·.refKey) then none else some none) = _
    rw [f1, f2]
    rfl
theorem sum_dref {v : Value} {b : Bool} {l : List (Option (Str × Int) × Option PyData)} (e : sumV g v = .d b l) : ∃ a, v = .ref a := by
  cases v with
  | ref a => exact ⟨a, rfl⟩
  | _ => cases e
def okDs (ps : List (Str × PyData)) : Bool := ps.all fun p => okD p.2
theorem okDs_ok {x : Str} {d : PyData} : ∀ {ps : List (Str × PyData)}, okDs ps = true → lookD x (ps.map fun p => (PyData.str p.1, p.2)) = some d → okD d = true
  | [], _, h => by cases h
  | (y, dy) :: ps, ho, h => by
    obtain ⟨h1, h2⟩ := He.ba (show (okD dy && okDs ps) = true from ho)
    have h5 : (if isKey x (.str y) = true then some dy else lookD x (ps.map fun p => (.str p.1, p.2))) = some d := h
    by_cases hk : isKey x (.str y) = true
    · rw [if_pos hk] at h5
      cases h5
      exact h1
    · rw [if_neg hk] at h5
      exact okDs_ok h2 h5
theorem dic_of (c : obsM g = valM w.params) (X : (kM g).In h) (G : h.Ns mainGlobals mg) (x : Str) (i : Nat) (ps : List (Str × PyData)) (hf : firstIs x allKeys (i + 9) = true) (hs : (allSm w.params)[i]? = some (.d true (ps.map fun p => (some (p.1, PyData.keyHash w.params p.1), some p.2)))) : ∃ a es n, mg x = some (.ref a) ∧ DicAt g w a es n ps := by
  obtain ⟨u, A⟩ := at_of c x i hf
  have e := A.sm _ hs
  obtain ⟨a, rfl⟩ := sum_dref e
  obtain ⟨es, n, D⟩ := sum_d e (A.ref a rfl)
  exact ⟨a, es, n, PySem.W.mg_of X G A.ns, D⟩
/-! defs -/
theorem fn_of {x q : Str} {st : Stmt} {a : Addr} (hin : a ∈ asM g) (hco : ∀ oc od fd sl cc, g a = some ⟨oc, od, .func fd, sl⟩ → fd.code = .ref cc → cc ∈ asM g) (e : sumV g (.ref a) = .f (some (x, q, defArgs st, .stmts (defBody st), defScope st, mainGlobals, [], builtinsNs)) true) : ∃ fd, Fun (kM g) x q st a fd ∧
    ((∀ (kV doc pm : Value) (an : Option Addr) (cdv ct : Value) (us : List Value), us.length = (defArgs st).args.length → bindArgs (PySem.W.fnOf x q (defArgs st) (defBody st) (defScope st) .none kV doc pm an cdv ct) ⟨us, []⟩ = pure (((defArgs st).args.map (·.arg)).zip us)) → ∀ (s : Shared) (us : List Value), us.length = (defArgs st).args.length → BindsTo s fd ⟨us, []⟩ (((defArgs st).args.map (·.arg)).zip us)) := by
  have e1 : (match g a with
    | some ⟨_, _, .func fd, _⟩ => fnS g fd
    | some ⟨.type c, none, .dict es _, sl⟩ => Sm.d (decide (c = "dict") && (sl.isEmpty && !(a == sysModules))) (es.toList.map fun e => (He.keyOf e, datV g e.val))
    | some ⟨_, _, .cls _, _⟩ => .c
    | _ => .p (datV g (.ref a))) = .f (some (x, q, defArgs st, .stmts (defBody st), defScope st, mainGlobals, [], builtinsNs)) true := e
  split at e1
  · rename_i oc od fd osl h1
    obtain ⟨n1, n2, n3, n4, n5, n6, n7, n8, n9, n10, n11, n12, n13, n14, n15⟩ := fd
    have e2 : Sm.f (some (n1, n2, n3, n4, n5, n6, n7, n15)) (noneB n8 && codeG g n13 n2) = .f (some (x, q, defArgs st, .stmts (defBody st), defScope st, mainGlobals, [], builtinsNs)) true := e1
    injection e2 with e3 e4
    simp only [Option.some.injEq, Prod.mk.injEq] at e3
    obtain ⟨h2, h3, h4, h5, h6, h7, h8, h9⟩ := e3
    subst h2 h3 h4 h5 h6 h7 h8 h9
    obtain ⟨z1, z2⟩ := He.ba e4
    have z3 : n8 = .none := by
      cases n8 with
      | none => rfl
      | _ => cases z1
    subst z3
    have hk := frG_some h1 hin
    have hc : PySem.W.codeIn (kM g) n13 n2 = true := by
      unfold codeG at z2
      split at z2
      · rename_i cc
        split at z2
        · rename_i oc2 od2 vs sl2 q2
          have hm : cc ∈ asM g := hco _ _ _ _ cc h1 rfl
          show (match (kM g).lookup cc with
            | some ⟨_, _, .fields vs, _⟩ => (match vs.toList with | _ :: .str n _ :: _ => n == n2 | _ => false)
            | _ => false) = true
          rw [show (kM g).lookup cc = some _ from frG_some q2 hm]
          exact z2
        · cases z2
      · cases z2
    refine ⟨_, ⟨⟨oc, od, n9, n10, n11, n12, n13, n14, osl, rfl, hk, hc⟩, ?_⟩, fun hb s us hl => .of_eq (hb n9 n10 n11 n12 n13 n14 us hl)⟩
    show (match (kM g).lookup a with
      | some ⟨_, _, .func _, _⟩ => true
      | some ⟨_, _, .cls _, _⟩ => PySem.W.specialIn (kM g) (.ref a) "__call__" == some (some (.builtin "type.__call__"))
      | _ => false) = true
    rw [show (kM g).lookup a = some _ from hk]
  · cases e1
  · cases e1
  · cases e1
theorem sum_fref {v : Value} {p : He.FnW} {b : Bool} (e : sumV g v = .f p b) : ∃ a, v = .ref a := by
  cases v with
  | ref a => exact ⟨a, rfl⟩
  | _ => cases e
/-- a def of the top -/
theorem def_of (c : obsM g = valM w.params) (X : (kM g).In h) (G : h.Ns mainGlobals mg) {x : Str} {st : Stmt} (i : Nat) (hf : firstIs x allKeys (i + 9) = true) (hs : (allSm w.params)[i]? = some (.f (some (x, x, defArgs st, .stmts (defBody st), defScope st, mainGlobals, [], builtinsNs)) true)) : ∃ a fd, mg x = some (.ref a) ∧ Fun (kM g) x x st a fd ∧
    ((∀ (kV doc pm : Value) (an : Option Addr) (cdv ct : Value) (us : List Value), us.length = (defArgs st).args.length → bindArgs (PySem.W.fnOf x x (defArgs st) (defBody st) (defScope st) .none kV doc pm an cdv ct) ⟨us, []⟩ = pure (((defArgs st).args.map (·.arg)).zip us)) → ∀ (s : Shared) (us : List Value), us.length = (defArgs st).args.length → BindsTo s fd ⟨us, []⟩ (((defArgs st).args.map (·.arg)).zip us)) := by
  obtain ⟨u, A⟩ := at_of c x i hf
  have e := A.sm _ hs
  obtain ⟨a, rfl⟩ := sum_fref e
  obtain ⟨fd, F, b⟩ := fn_of (as_of (A.ref a rfl)) (fun oc od fd sl cc h1 h2 => as_of2 (A.ref a rfl) (by
    unfold codeR
    rw [h1]
    show cc ∈ He.refV fd.code
    rw [h2]
    exact List.mem_singleton.mpr rfl)) e
  exact ⟨a, fd, PySem.W.mg_of X G A.ns, F, b⟩
theorem glob_of (c : obsM g = valM w.params) (X : (kM g).In h) (G : h.Ns mainGlobals mg) {x : Str} {st : Stmt} {ps : List Str} (i : Nat) (hf : firstIs x allKeys (i + 9) = true) (hs : (allSm w.params)[i]? = some (.f (some (x, x, defArgs st, .stmts (defBody st), defScope st, mainGlobals, [], builtinsNs)) true)) (hp : (defArgs st).args.map (·.arg) = ps)
    (hb : ∀ (kV doc pm : Value) (an : Option Addr) (cdv ct : Value) (us : List Value), us.length = ps.length → bindArgs (PySem.W.fnOf x x (defArgs st) (defBody st) (defScope st) .none kV doc pm an cdv ct) ⟨us, []⟩ = pure (ps.zip us)) : Glob (kM g) mg x st ps := by
  subst hp
  obtain ⟨a, fd, hm, F, b⟩ := def_of c X G i hf hs
  rw [List.length_map] at hb
  refine ⟨⟨a, fd, hm, F, fun s us _ hl => ?_⟩⟩
  rw [List.append_nil] at hl ⊢
  rw [List.length_map] at hl
  exact b hb s us hl
end
section
variable {g : GF} {w : World} {h : Heap} {mg : Str → Option Value}
theorem fi_ABSENT : firstIs "ABSENT" allKeys (33 + 9) = true := by decide +kernel
theorem fi_AGAIN : firstIs "AGAIN" allKeys (59 + 9) = true := by decide +kernel
theorem fi_ANSWERED : firstIs "ANSWERED" allKeys (61 + 9) = true := by decide +kernel
theorem fi_ANSWERS : firstIs "ANSWERS" allKeys (52 + 9) = true := by decide +kernel
theorem fi_COME : firstIs "COME" allKeys (64 + 9) = true := by decide +kernel
theorem fi_CONDITIONS : firstIs "CONDITIONS" allKeys (51 + 9) = true := by decide +kernel
theorem fi_ELDER : firstIs "ELDER" allKeys (69 + 9) = true := by decide +kernel
theorem fi_END : firstIs "END" allKeys (47 + 9) = true := by decide +kernel
theorem fi_ENDING : firstIs "ENDING" allKeys (98 + 9) = true := by decide +kernel
theorem fi_ENDS : firstIs "ENDS" allKeys (50 + 9) = true := by decide +kernel
theorem fi_EVENTS : firstIs "EVENTS" allKeys (65 + 9) = true := by decide +kernel
theorem fi_FORGET : firstIs "FORGET" allKeys (46 + 9) = true := by decide +kernel
theorem fi_FRESH : firstIs "FRESH" allKeys (8 + 9) = true := by decide +kernel
theorem fi_GONE : firstIs "GONE" allKeys (9 + 9) = true := by decide +kernel
theorem fi_GOT : firstIs "GOT" allKeys (30 + 9) = true := by decide +kernel
theorem fi_GREAT : firstIs "GREAT" allKeys (12 + 9) = true := by decide +kernel
theorem fi_IF_NONE : firstIs "IF_NONE" allKeys (26 + 9) = true := by decide +kernel
theorem fi_IF_THERE : firstIs "IF_THERE" allKeys (25 + 9) = true := by decide +kernel
theorem fi_KEPT : firstIs "KEPT" allKeys (94 + 9) = true := by decide +kernel
theorem fi_LATE_NET : firstIs "LATE_NET" allKeys (58 + 9) = true := by decide +kernel
theorem fi_LOOK : firstIs "LOOK" allKeys (23 + 9) = true := by decide +kernel
theorem fi_LOST : firstIs "LOST" allKeys (49 + 9) = true := by decide +kernel
theorem fi_MINE : firstIs "MINE" allKeys (31 + 9) = true := by decide +kernel
theorem fi_MOST_DONE : firstIs "MOST_DONE" allKeys (67 + 9) = true := by decide +kernel
theorem fi_MOST_STATES : firstIs "MOST_STATES" allKeys (90 + 9) = true := by decide +kernel
theorem fi_MOST_STEPS : firstIs "MOST_STEPS" allKeys (43 + 9) = true := by decide +kernel
theorem fi_NETS : firstIs "NETS" allKeys (60 + 9) = true := by decide +kernel
theorem fi_NEVER : firstIs "NEVER" allKeys (10 + 9) = true := by decide +kernel
theorem fi_NO : firstIs "NO" allKeys (35 + 9) = true := by decide +kernel
theorem fi_ONCE : firstIs "ONCE" allKeys (96 + 9) = true := by decide +kernel
theorem fi_OPEN : firstIs "OPEN" allKeys (48 + 9) = true := by decide +kernel
theorem fi_PLACES : firstIs "PLACES" allKeys (36 + 9) = true := by decide +kernel
theorem fi_PLAIN : firstIs "PLAIN" allKeys (21 + 9) = true := by decide +kernel
theorem fi_PRESENT : firstIs "PRESENT" allKeys (68 + 9) = true := by decide +kernel
theorem fi_PROMISES : firstIs "PROMISES" allKeys (99 + 9) = true := by decide +kernel
theorem fi_PUT : firstIs "PUT" allKeys (45 + 9) = true := by decide +kernel
theorem fi_PUT_CONDITIONS : firstIs "PUT_CONDITIONS" allKeys (28 + 9) = true := by decide +kernel
theorem fi_READ : firstIs "READ" allKeys (44 + 9) = true := by decide +kernel
theorem fi_READ_CONDITIONS : firstIs "READ_CONDITIONS" allKeys (27 + 9) = true := by decide +kernel
theorem fi_SERVERS : firstIs "SERVERS" allKeys (16 + 9) = true := by decide +kernel
theorem fi_SMALL : firstIs "SMALL" allKeys (13 + 9) = true := by decide +kernel
theorem fi_STAMP : firstIs "STAMP" allKeys (24 + 9) = true := by decide +kernel
theorem fi_SURE : firstIs "SURE" allKeys (57 + 9) = true := by decide +kernel
theorem fi_Script : firstIs "Script" allKeys (55 + 9) = true := by decide +kernel
theorem fi_TAG : firstIs "TAG" allKeys (22 + 9) = true := by decide +kernel
theorem fi_TAKE : firstIs "TAKE" allKeys (14 + 9) = true := by decide +kernel
theorem fi_TAKEN : firstIs "TAKEN" allKeys (95 + 9) = true := by decide +kernel
theorem fi_TAKE_CONDITIONS : firstIs "TAKE_CONDITIONS" allKeys (29 + 9) = true := by decide +kernel
theorem fi_THERE : firstIs "THERE" allKeys (11 + 9) = true := by decide +kernel
theorem fi_TICK : firstIs "TICK" allKeys (15 + 9) = true := by decide +kernel
theorem fi_TRUE : firstIs "TRUE" allKeys (97 + 9) = true := by decide +kernel
theorem fi_UNCHANGED : firstIs "UNCHANGED" allKeys (32 + 9) = true := by decide +kernel
theorem fi_UNHEARD : firstIs "UNHEARD" allKeys (62 + 9) = true := by decide +kernel
theorem fi_UNSENT : firstIs "UNSENT" allKeys (63 + 9) = true := by decide +kernel
theorem fi_WRITINGS : firstIs "WRITINGS" allKeys (66 + 9) = true := by decide +kernel
theorem fi_YES : firstIs "YES" allKeys (34 + 9) = true := by decide +kernel
theorem fi__law_act_of : firstIs "_law_act_of" allKeys (122 + 9) = true := by decide +kernel
theorem fi__law_answered_in : firstIs "_law_answered_in" allKeys (129 + 9) = true := by decide +kernel
theorem fi__law_any_others : firstIs "_law_any_others" allKeys (116 + 9) = true := by decide +kernel
theorem fi__law_any_step : firstIs "_law_any_step" allKeys (114 + 9) = true := by decide +kernel
theorem fi__law_any_steps : firstIs "_law_any_steps" allKeys (115 + 9) = true := by decide +kernel
theorem fi__law_begun : firstIs "_law_begun" allKeys (110 + 9) = true := by decide +kernel
theorem fi__law_can : firstIs "_law_can" allKeys (128 + 9) = true := by decide +kernel
theorem fi__law_conditions : firstIs "_law_conditions" allKeys (113 + 9) = true := by decide +kernel
theorem fi__law_draw : firstIs "_law_draw" allKeys (111 + 9) = true := by decide +kernel
theorem fi__law_edited_by : firstIs "_law_edited_by" allKeys (118 + 9) = true := by decide +kernel
theorem fi__law_held_in : firstIs "_law_held_in" allKeys (119 + 9) = true := by decide +kernel
theorem fi__law_is_done : firstIs "_law_is_done" allKeys (124 + 9) = true := by decide +kernel
theorem fi__law_is_meant : firstIs "_law_is_meant" allKeys (127 + 9) = true := by decide +kernel
theorem fi__law_is_over : firstIs "_law_is_over" allKeys (137 + 9) = true := by decide +kernel
theorem fi__law_knows : firstIs "_law_knows" allKeys (125 + 9) = true := by decide +kernel
theorem fi__law_least : firstIs "_law_least" allKeys (135 + 9) = true := by decide +kernel
theorem fi__law_next_step : firstIs "_law_next_step" allKeys (121 + 9) = true := by decide +kernel
theorem fi__law_next_worlds : firstIs "_law_next_worlds" allKeys (134 + 9) = true := by decide +kernel
theorem fi__law_of : firstIs "_law_of" allKeys (112 + 9) = true := by decide +kernel
theorem fi__law_own_act : firstIs "_law_own_act" allKeys (123 + 9) = true := by decide +kernel
theorem fi__law_reply_to : firstIs "_law_reply_to" allKeys (120 + 9) = true := by decide +kernel
theorem fi__law_row_right : firstIs "_law_row_right" allKeys (136 + 9) = true := by decide +kernel
theorem fi__law_sent_in : firstIs "_law_sent_in" allKeys (126 + 9) = true := by decide +kernel
theorem fi__law_server_of : firstIs "_law_server_of" allKeys (131 + 9) = true := by decide +kernel
theorem fi__law_standing_of : firstIs "_law_standing_of" allKeys (132 + 9) = true := by decide +kernel
theorem fi__law_state_of : firstIs "_law_state_of" allKeys (133 + 9) = true := by decide +kernel
theorem fi__law_world_at : firstIs "_law_world_at" allKeys (117 + 9) = true := by decide +kernel
theorem fi__law_world_behind : firstIs "_law_world_behind" allKeys (130 + 9) = true := by decide +kernel
theorem fi__wall : firstIs "_wall" allKeys (0 + 9) = true := by decide +kernel
theorem fi_act_of : firstIs "act_of" allKeys (74 + 9) = true := by decide +kernel
theorem fi_acted : firstIs "acted" allKeys (78 + 9) = true := by decide +kernel
theorem fi_alone_behind : firstIs "alone_behind" allKeys (103 + 9) = true := by decide +kernel
theorem fi_answer_to : firstIs "answer_to" allKeys (73 + 9) = true := by decide +kernel
theorem fi_answered : firstIs "answered" allKeys (82 + 9) = true := by decide +kernel
theorem fi_at_step : firstIs "at_step" allKeys (80 + 9) = true := by decide +kernel
theorem fi_back_to : firstIs "back_to" allKeys (105 + 9) = true := by decide +kernel
theorem fi_bad_states : firstIs "bad_states" allKeys (106 + 9) = true := by decide +kernel
theorem fi_breaking : firstIs "breaking" allKeys (109 + 9) = true := by decide +kernel
theorem fi_can_happen : firstIs "can_happen" allKeys (76 + 9) = true := by decide +kernel
theorem fi_come : firstIs "come" allKeys (86 + 9) = true := by decide +kernel
theorem fi_copy_after : firstIs "copy_after" allKeys (20 + 9) = true := by decide +kernel
theorem fi_does_hold : firstIs "does_hold" allKeys (40 + 9) = true := by decide +kernel
theorem fi_events_in : firstIs "events_in" allKeys (88 + 9) = true := by decide +kernel
theorem fi_first_of : firstIs "first_of" allKeys (72 + 9) = true := by decide +kernel
theorem fi_firsts : firstIs "firsts" allKeys (91 + 9) = true := by decide +kernel
theorem fi_is_amiss : firstIs "is_amiss" allKeys (101 + 9) = true := by decide +kernel
theorem fi_is_bad : firstIs "is_bad" allKeys (102 + 9) = true := by decide +kernel
theorem fi_is_done_by : firstIs "is_done_by" allKeys (75 + 9) = true := by decide +kernel
theorem fi_is_fault_in : firstIs "is_fault_in" allKeys (89 + 9) = true := by decide +kernel
theorem fi_is_left_out : firstIs "is_left_out" allKeys (38 + 9) = true := by decide +kernel
theorem fi_is_number : firstIs "is_number" allKeys (53 + 9) = true := by decide +kernel
theorem fi_is_one_of : firstIs "is_one_of" allKeys (17 + 9) = true := by decide +kernel
theorem fi_is_step : firstIs "is_step" allKeys (54 + 9) = true := by decide +kernel
theorem fi_is_there : firstIs "is_there" allKeys (18 + 9) = true := by decide +kernel
theorem fi_keeps : firstIs "keeps" allKeys (108 + 9) = true := by decide +kernel
theorem fi_late_after : firstIs "late_after" allKeys (77 + 9) = true := by decide +kernel
theorem fi_law : firstIs "law" allKeys (138 + 9) = true := by decide +kernel
theorem fi_matches : firstIs "matches" allKeys (37 + 9) = true := by decide +kernel
theorem fi_need_net : firstIs "need_net" allKeys (71 + 9) = true := by decide +kernel
theorem fi_need_others : firstIs "need_others" allKeys (70 + 9) = true := by decide +kernel
theorem fi_need_promise : firstIs "need_promise" allKeys (100 + 9) = true := by decide +kernel
theorem fi_next_behind : firstIs "next_behind" allKeys (56 + 9) = true := by decide +kernel
theorem fi_put_by : firstIs "put_by" allKeys (41 + 9) = true := by decide +kernel
theorem fi_read_by : firstIs "read_by" allKeys (39 + 9) = true := by decide +kernel
theorem fi_round_from : firstIs "round_from" allKeys (104 + 9) = true := by decide +kernel
theorem fi_row_to : firstIs "row_to" allKeys (93 + 9) = true := by decide +kernel
theorem fi_seen_now : firstIs "seen_now" allKeys (81 + 9) = true := by decide +kernel
theorem fi_sent_now : firstIs "sent_now" allKeys (83 + 9) = true := by decide +kernel
theorem fi_server_after : firstIs "server_after" allKeys (19 + 9) = true := by decide +kernel
theorem fi_stepped : firstIs "stepped" allKeys (87 + 9) = true := by decide +kernel
theorem fi_take_by : firstIs "take_by" allKeys (42 + 9) = true := by decide +kernel
theorem fi_ticked : firstIs "ticked" allKeys (79 + 9) = true := by decide +kernel
theorem fi_unheard : firstIs "unheard" allKeys (84 + 9) = true := by decide +kernel
theorem fi_unsent : firstIs "unsent" allKeys (85 + 9) = true := by decide +kernel
theorem fi_ways : firstIs "ways" allKeys (92 + 9) = true := by decide +kernel
theorem fi_ways_for : firstIs "ways_for" allKeys (107 + 9) = true := by decide +kernel
theorem fr_isinstance : freeIs "isinstance" allKeys = true := by decide +kernel
theorem fr_len : freeIs "len" allKeys = true := by decide +kernel
theorem fr_all : freeIs "all" allKeys = true := by decide +kernel
theorem fr_min : freeIs "min" allKeys = true := by decide +kernel
theorem fr_int : freeIs "int" allKeys = true := by decide +kernel
theorem fr_tuple : freeIs "tuple" allKeys = true := by decide +kernel
theorem fr_list : freeIs "list" allKeys = true := by decide +kernel
theorem fr_str : freeIs "str" allKeys = true := by decide +kernel
theorem fr_bool : freeIs "bool" allKeys = true := by decide +kernel
theorem fr_range : freeIs "range" allKeys = true := by decide +kernel
theorem fr_zip : freeIs "zip" allKeys = true := by decide +kernel
theorem fr_enumerate : freeIs "enumerate" allKeys = true := by decide +kernel
theorem fr_dict : freeIs "dict" allKeys = true := by decide +kernel
theorem fr_repr : freeIs "repr" allKeys = true := by decide +kernel
theorem sg__wall (c : obsM g = valM w.params) (X : (kM g).In h) (G : h.Ns mainGlobals mg) : Glob (kM g) mg "_wall" st__wall ["k"] :=
  glob_of c X G 0 fi__wall rfl rfl (fun _ _ _ _ _ _ us hl => match us, hl with | [_], _ => rfl)
theorem sg_is_one_of (c : obsM g = valM w.params) (X : (kM g).In h) (G : h.Ns mainGlobals mg) : Glob (kM g) mg "is_one_of" st_is_one_of ["value", "words"] :=
  glob_of c X G 17 fi_is_one_of rfl rfl (fun _ _ _ _ _ _ us hl => match us, hl with | [_, _], _ => rfl)
theorem sg_is_there (c : obsM g = valM w.params) (X : (kM g).In h) (G : h.Ns mainGlobals mg) : Glob (kM g) mg "is_there" st_is_there ["server"] :=
  glob_of c X G 18 fi_is_there rfl rfl (fun _ _ _ _ _ _ us hl => match us, hl with | [_], _ => rfl)
theorem sg_server_after (c : obsM g = valM w.params) (X : (kM g).In h) (G : h.Ns mainGlobals mg) : Glob (kM g) mg "server_after" st_server_after ["server", "act"] :=
  glob_of c X G 19 fi_server_after rfl rfl (fun _ _ _ _ _ _ us hl => match us, hl with | [_, _], _ => rfl)
theorem sg_copy_after (c : obsM g = valM w.params) (X : (kM g).In h) (G : h.Ns mainGlobals mg) : Glob (kM g) mg "copy_after" st_copy_after ["server", "copy", "act"] :=
  glob_of c X G 20 fi_copy_after rfl rfl (fun _ _ _ _ _ _ us hl => match us, hl with | [_, _, _], _ => rfl)
theorem sg_matches (c : obsM g = valM w.params) (X : (kM g).In h) (G : h.Ns mainGlobals mg) : Glob (kM g) mg "matches" st_matches ["copy", "condition"] :=
  glob_of c X G 37 fi_matches rfl rfl (fun _ _ _ _ _ _ us hl => match us, hl with | [_, _], _ => rfl)
theorem sg_is_left_out (c : obsM g = valM w.params) (X : (kM g).In h) (G : h.Ns mainGlobals mg) : Glob (kM g) mg "is_left_out" st_is_left_out ["copy", "condition"] :=
  glob_of c X G 38 fi_is_left_out rfl rfl (fun _ _ _ _ _ _ us hl => match us, hl with | [_, _], _ => rfl)
theorem sg_read_by (c : obsM g = valM w.params) (X : (kM g).In h) (G : h.Ns mainGlobals mg) : Glob (kM g) mg "read_by" st_read_by ["server", "copy", "condition"] :=
  glob_of c X G 39 fi_read_by rfl rfl (fun _ _ _ _ _ _ us hl => match us, hl with | [_, _, _], _ => rfl)
theorem sg_does_hold (c : obsM g = valM w.params) (X : (kM g).In h) (G : h.Ns mainGlobals mg) : Glob (kM g) mg "does_hold" st_does_hold ["server", "copy", "condition"] :=
  glob_of c X G 40 fi_does_hold rfl rfl (fun _ _ _ _ _ _ us hl => match us, hl with | [_, _, _], _ => rfl)
theorem sg_put_by (c : obsM g = valM w.params) (X : (kM g).In h) (G : h.Ns mainGlobals mg) : Glob (kM g) mg "put_by" st_put_by ["server", "copy", "condition"] :=
  glob_of c X G 41 fi_put_by rfl rfl (fun _ _ _ _ _ _ us hl => match us, hl with | [_, _, _], _ => rfl)
theorem sg_take_by (c : obsM g = valM w.params) (X : (kM g).In h) (G : h.Ns mainGlobals mg) : Glob (kM g) mg "take_by" st_take_by ["server", "copy", "condition"] :=
  glob_of c X G 42 fi_take_by rfl rfl (fun _ _ _ _ _ _ us hl => match us, hl with | [_, _, _], _ => rfl)
theorem sg_is_number (c : obsM g = valM w.params) (X : (kM g).In h) (G : h.Ns mainGlobals mg) : Glob (kM g) mg "is_number" st_is_number ["value", "many"] :=
  glob_of c X G 53 fi_is_number rfl rfl (fun _ _ _ _ _ _ us hl => match us, hl with | [_, _], _ => rfl)
theorem sg_is_step (c : obsM g = valM w.params) (X : (kM g).In h) (G : h.Ns mainGlobals mg) : Glob (kM g) mg "is_step" st_is_step ["value", "many"] :=
  glob_of c X G 54 fi_is_step rfl rfl (fun _ _ _ _ _ _ us hl => match us, hl with | [_, _], _ => rfl)
theorem sg_next_behind (c : obsM g = valM w.params) (X : (kM g).In h) (G : h.Ns mainGlobals mg) : Glob (kM g) mg "next_behind" st_next_behind ["one", "answer"] :=
  glob_of c X G 56 fi_next_behind rfl rfl (fun _ _ _ _ _ _ us hl => match us, hl with | [_, _], _ => rfl)
theorem sg_need_others (c : obsM g = valM w.params) (X : (kM g).In h) (G : h.Ns mainGlobals mg) : Glob (kM g) mg "need_others" st_need_others ["value"] :=
  glob_of c X G 70 fi_need_others rfl rfl (fun _ _ _ _ _ _ us hl => match us, hl with | [_], _ => rfl)
theorem sg_need_net (c : obsM g = valM w.params) (X : (kM g).In h) (G : h.Ns mainGlobals mg) : Glob (kM g) mg "need_net" st_need_net ["value"] :=
  glob_of c X G 71 fi_need_net rfl rfl (fun _ _ _ _ _ _ us hl => match us, hl with | [_], _ => rfl)
theorem sg_first_of (c : obsM g = valM w.params) (X : (kM g).In h) (G : h.Ns mainGlobals mg) : Glob (kM g) mg "first_of" st_first_of ["server"] :=
  glob_of c X G 72 fi_first_of rfl rfl (fun _ _ _ _ _ _ us hl => match us, hl with | [_], _ => rfl)
theorem sg_answer_to (c : obsM g = valM w.params) (X : (kM g).In h) (G : h.Ns mainGlobals mg) : Glob (kM g) mg "answer_to" st_answer_to ["one", "server", "copy"] :=
  glob_of c X G 73 fi_answer_to rfl rfl (fun _ _ _ _ _ _ us hl => match us, hl with | [_, _, _], _ => rfl)
theorem sg_act_of (c : obsM g = valM w.params) (X : (kM g).In h) (G : h.Ns mainGlobals mg) : Glob (kM g) mg "act_of" st_act_of ["one"] :=
  glob_of c X G 74 fi_act_of rfl rfl (fun _ _ _ _ _ _ us hl => match us, hl with | [_], _ => rfl)
theorem sg_is_done_by (c : obsM g = valM w.params) (X : (kM g).In h) (G : h.Ns mainGlobals mg) : Glob (kM g) mg "is_done_by" st_is_done_by ["one", "server", "copy"] :=
  glob_of c X G 75 fi_is_done_by rfl rfl (fun _ _ _ _ _ _ us hl => match us, hl with | [_, _, _], _ => rfl)
theorem sg_can_happen (c : obsM g = valM w.params) (X : (kM g).In h) (G : h.Ns mainGlobals mg) : Glob (kM g) mg "can_happen" st_can_happen ["script", "state", "event", "others", "net"] :=
  glob_of c X G 76 fi_can_happen rfl rfl (fun _ _ _ _ _ _ us hl => match us, hl with | [_, _, _, _, _], _ => rfl)
theorem sg_late_after (c : obsM g = valM w.params) (X : (kM g).In h) (G : h.Ns mainGlobals mg) : Glob (kM g) mg "late_after" st_late_after ["server", "late", "act"] :=
  glob_of c X G 77 fi_late_after rfl rfl (fun _ _ _ _ _ _ us hl => match us, hl with | [_, _, _], _ => rfl)
theorem sg_acted (c : obsM g = valM w.params) (X : (kM g).In h) (G : h.Ns mainGlobals mg) : Glob (kM g) mg "acted" st_acted ["state", "act", "is_own"] :=
  glob_of c X G 78 fi_acted rfl rfl (fun _ _ _ _ _ _ us hl => match us, hl with | [_, _, _], _ => rfl)
theorem sg_ticked (c : obsM g = valM w.params) (X : (kM g).In h) (G : h.Ns mainGlobals mg) : Glob (kM g) mg "ticked" st_ticked ["state"] :=
  glob_of c X G 79 fi_ticked rfl rfl (fun _ _ _ _ _ _ us hl => match us, hl with | [_], _ => rfl)
theorem sg_at_step (c : obsM g = valM w.params) (X : (kM g).In h) (G : h.Ns mainGlobals mg) : Glob (kM g) mg "at_step" st_at_step ["state", "number"] :=
  glob_of c X G 80 fi_at_step rfl rfl (fun _ _ _ _ _ _ us hl => match us, hl with | [_, _], _ => rfl)
theorem sg_seen_now (c : obsM g = valM w.params) (X : (kM g).In h) (G : h.Ns mainGlobals mg) : Glob (kM g) mg "seen_now" st_seen_now ["state", "copy"] :=
  glob_of c X G 81 fi_seen_now rfl rfl (fun _ _ _ _ _ _ us hl => match us, hl with | [_, _], _ => rfl)
theorem sg_answered (c : obsM g = valM w.params) (X : (kM g).In h) (G : h.Ns mainGlobals mg) : Glob (kM g) mg "answered" st_answered ["script", "state"] :=
  glob_of c X G 82 fi_answered rfl rfl (fun _ _ _ _ _ _ us hl => match us, hl with | [_, _], _ => rfl)
theorem sg_sent_now (c : obsM g = valM w.params) (X : (kM g).In h) (G : h.Ns mainGlobals mg) : Glob (kM g) mg "sent_now" st_sent_now ["state", "kept_copy"] :=
  glob_of c X G 83 fi_sent_now rfl rfl (fun _ _ _ _ _ _ us hl => match us, hl with | [_, _], _ => rfl)
theorem sg_unheard (c : obsM g = valM w.params) (X : (kM g).In h) (G : h.Ns mainGlobals mg) : Glob (kM g) mg "unheard" st_unheard ["script", "state", "net"] :=
  glob_of c X G 84 fi_unheard rfl rfl (fun _ _ _ _ _ _ us hl => match us, hl with | [_, _, _], _ => rfl)
theorem sg_unsent (c : obsM g = valM w.params) (X : (kM g).In h) (G : h.Ns mainGlobals mg) : Glob (kM g) mg "unsent" st_unsent ["script", "state", "net"] :=
  glob_of c X G 85 fi_unsent rfl rfl (fun _ _ _ _ _ _ us hl => match us, hl with | [_, _, _], _ => rfl)
theorem sg_come (c : obsM g = valM w.params) (X : (kM g).In h) (G : h.Ns mainGlobals mg) : Glob (kM g) mg "come" st_come ["script", "state", "net"] :=
  glob_of c X G 86 fi_come rfl rfl (fun _ _ _ _ _ _ us hl => match us, hl with | [_, _, _], _ => rfl)
theorem sg_stepped (c : obsM g = valM w.params) (X : (kM g).In h) (G : h.Ns mainGlobals mg) : Glob (kM g) mg "stepped" st_stepped ["script", "state", "event", "net"] :=
  glob_of c X G 87 fi_stepped rfl rfl (fun _ _ _ _ _ _ us hl => match us, hl with | [_, _, _, _], _ => rfl)
theorem sg_events_in (c : obsM g = valM w.params) (X : (kM g).In h) (G : h.Ns mainGlobals mg) : Glob (kM g) mg "events_in" st_events_in ["script", "state", "others", "net"] :=
  glob_of c X G 88 fi_events_in rfl rfl (fun _ _ _ _ _ _ us hl => match us, hl with | [_, _, _, _], _ => rfl)
theorem sg_is_fault_in (c : obsM g = valM w.params) (X : (kM g).In h) (G : h.Ns mainGlobals mg) : Glob (kM g) mg "is_fault_in" st_is_fault_in ["script", "state", "event", "promise"] :=
  glob_of c X G 89 fi_is_fault_in rfl rfl (fun _ _ _ _ _ _ us hl => match us, hl with | [_, _, _, _], _ => rfl)
theorem sg_firsts (c : obsM g = valM w.params) (X : (kM g).In h) (G : h.Ns mainGlobals mg) : Glob (kM g) mg "firsts" st_firsts [] :=
  glob_of c X G 91 fi_firsts rfl rfl (fun _ _ _ _ _ _ us hl => match us, hl with | [], _ => rfl)
theorem sg_ways (c : obsM g = valM w.params) (X : (kM g).In h) (G : h.Ns mainGlobals mg) : Glob (kM g) mg "ways" st_ways ["script", "others", "net"] :=
  glob_of c X G 92 fi_ways rfl rfl (fun _ _ _ _ _ _ us hl => match us, hl with | [_, _, _], _ => rfl)
theorem sg_row_to (c : obsM g = valM w.params) (X : (kM g).In h) (G : h.Ns mainGlobals mg) : Glob (kM g) mg "row_to" st_row_to ["found", "state"] :=
  glob_of c X G 93 fi_row_to rfl rfl (fun _ _ _ _ _ _ us hl => match us, hl with | [_, _], _ => rfl)
theorem sg_need_promise (c : obsM g = valM w.params) (X : (kM g).In h) (G : h.Ns mainGlobals mg) : Glob (kM g) mg "need_promise" st_need_promise ["value", "some"] :=
  glob_of c X G 100 fi_need_promise rfl rfl (fun _ _ _ _ _ _ us hl => match us, hl with | [_, _], _ => rfl)
theorem sg_is_amiss (c : obsM g = valM w.params) (X : (kM g).In h) (G : h.Ns mainGlobals mg) : Glob (kM g) mg "is_amiss" st_is_amiss ["script", "state", "promise"] :=
  glob_of c X G 101 fi_is_amiss rfl rfl (fun _ _ _ _ _ _ us hl => match us, hl with | [_, _, _], _ => rfl)
theorem sg_is_bad (c : obsM g = valM w.params) (X : (kM g).In h) (G : h.Ns mainGlobals mg) : Glob (kM g) mg "is_bad" st_is_bad ["script", "state", "promise", "others", "net"] :=
  glob_of c X G 102 fi_is_bad rfl rfl (fun _ _ _ _ _ _ us hl => match us, hl with | [_, _, _, _, _], _ => rfl)
theorem sg_alone_behind (c : obsM g = valM w.params) (X : (kM g).In h) (G : h.Ns mainGlobals mg) : Glob (kM g) mg "alone_behind" st_alone_behind ["script", "state", "net"] :=
  glob_of c X G 103 fi_alone_behind rfl rfl (fun _ _ _ _ _ _ us hl => match us, hl with | [_, _, _], _ => rfl)
theorem sg_round_from (c : obsM g = valM w.params) (X : (kM g).In h) (G : h.Ns mainGlobals mg) : Glob (kM g) mg "round_from" st_round_from ["script", "state", "net"] :=
  glob_of c X G 104 fi_round_from rfl rfl (fun _ _ _ _ _ _ us hl => match us, hl with | [_, _, _], _ => rfl)
theorem sg_back_to (c : obsM g = valM w.params) (X : (kM g).In h) (G : h.Ns mainGlobals mg) : Glob (kM g) mg "back_to" st_back_to ["found", "place"] :=
  glob_of c X G 105 fi_back_to rfl rfl (fun _ _ _ _ _ _ us hl => match us, hl with | [_, _], _ => rfl)
theorem sg_bad_states (c : obsM g = valM w.params) (X : (kM g).In h) (G : h.Ns mainGlobals mg) : Glob (kM g) mg "bad_states" st_bad_states ["script", "found", "promise", "others", "net"] :=
  glob_of c X G 106 fi_bad_states rfl rfl (fun _ _ _ _ _ _ us hl => match us, hl with | [_, _, _, _, _], _ => rfl)
theorem sg_ways_for (c : obsM g = valM w.params) (X : (kM g).In h) (G : h.Ns mainGlobals mg) : Glob (kM g) mg "ways_for" st_ways_for ["script", "others", "net", "promise", "some"] :=
  glob_of c X G 107 fi_ways_for rfl rfl (fun _ _ _ _ _ _ us hl => match us, hl with | [_, _, _, _, _], _ => rfl)
theorem sg_keeps (c : obsM g = valM w.params) (X : (kM g).In h) (G : h.Ns mainGlobals mg) : Glob (kM g) mg "keeps" st_keeps ["script", "others", "net", "promise"] :=
  glob_of c X G 108 fi_keeps rfl rfl (fun _ _ _ _ _ _ us hl => match us, hl with | [_, _, _, _], _ => rfl)
theorem sg_breaking (c : obsM g = valM w.params) (X : (kM g).In h) (G : h.Ns mainGlobals mg) : Glob (kM g) mg "breaking" st_breaking ["script", "others", "net", "promise"] :=
  glob_of c X G 109 fi_breaking rfl rfl (fun _ _ _ _ _ _ us hl => match us, hl with | [_, _, _, _], _ => rfl)
theorem sg__law_begun (c : obsM g = valM w.params) (X : (kM g).In h) (G : h.Ns mainGlobals mg) : Glob (kM g) mg "_law_begun" st__law_begun ["_law_script", "_law_k"] :=
  glob_of c X G 110 fi__law_begun rfl rfl (fun _ _ _ _ _ _ us hl => match us, hl with | [_, _], _ => rfl)
theorem sg__law_draw (c : obsM g = valM w.params) (X : (kM g).In h) (G : h.Ns mainGlobals mg) : Glob (kM g) mg "_law_draw" st__law_draw ["_law_m", "_law_many"] :=
  glob_of c X G 111 fi__law_draw rfl rfl (fun _ _ _ _ _ _ us hl => match us, hl with | [_, _], _ => rfl)
theorem sg__law_of (c : obsM g = valM w.params) (X : (kM g).In h) (G : h.Ns mainGlobals mg) : Glob (kM g) mg "_law_of" st__law_of ["_law_m", "_law_some"] :=
  glob_of c X G 112 fi__law_of rfl rfl (fun _ _ _ _ _ _ us hl => match us, hl with | [_, _], _ => rfl)
theorem sg__law_conditions (c : obsM g = valM w.params) (X : (kM g).In h) (G : h.Ns mainGlobals mg) : Glob (kM g) mg "_law_conditions" st__law_conditions ["_law_kind"] :=
  glob_of c X G 113 fi__law_conditions rfl rfl (fun _ _ _ _ _ _ us hl => match us, hl with | [_], _ => rfl)
theorem sg__law_any_step (c : obsM g = valM w.params) (X : (kM g).In h) (G : h.Ns mainGlobals mg) : Glob (kM g) mg "_law_any_step" st__law_any_step ["_law_m", "_law_total"] :=
  glob_of c X G 114 fi__law_any_step rfl rfl (fun _ _ _ _ _ _ us hl => match us, hl with | [_, _], _ => rfl)
theorem sg__law_any_steps (c : obsM g = valM w.params) (X : (kM g).In h) (G : h.Ns mainGlobals mg) : Glob (kM g) mg "_law_any_steps" st__law_any_steps ["_law_m", "_law_most"] :=
  glob_of c X G 115 fi__law_any_steps rfl rfl (fun _ _ _ _ _ _ us hl => match us, hl with | [_, _], _ => rfl)
theorem sg__law_any_others (c : obsM g = valM w.params) (X : (kM g).In h) (G : h.Ns mainGlobals mg) : Glob (kM g) mg "_law_any_others" st__law_any_others ["_law_m"] :=
  glob_of c X G 116 fi__law_any_others rfl rfl (fun _ _ _ _ _ _ us hl => match us, hl with | [_], _ => rfl)
theorem sg__law_world_at (c : obsM g = valM w.params) (X : (kM g).In h) (G : h.Ns mainGlobals mg) : Glob (kM g) mg "_law_world_at" st__law_world_at ["_law_server"] :=
  glob_of c X G 117 fi__law_world_at rfl rfl (fun _ _ _ _ _ _ us hl => match us, hl with | [_], _ => rfl)
theorem sg__law_edited_by (c : obsM g = valM w.params) (X : (kM g).In h) (G : h.Ns mainGlobals mg) : Glob (kM g) mg "_law_edited_by" st__law_edited_by ["_law_world", "_law_act", "_law_author"] :=
  glob_of c X G 118 fi__law_edited_by rfl rfl (fun _ _ _ _ _ _ us hl => match us, hl with | [_, _, _], _ => rfl)
theorem sg__law_held_in (c : obsM g = valM w.params) (X : (kM g).In h) (G : h.Ns mainGlobals mg) : Glob (kM g) mg "_law_held_in" st__law_held_in ["_law_world"] :=
  glob_of c X G 119 fi__law_held_in rfl rfl (fun _ _ _ _ _ _ us hl => match us, hl with | [_], _ => rfl)
theorem sg__law_reply_to (c : obsM g = valM w.params) (X : (kM g).In h) (G : h.Ns mainGlobals mg) : Glob (kM g) mg "_law_reply_to" st__law_reply_to ["_law_world", "_law_copy", "_law_one"] :=
  glob_of c X G 120 fi__law_reply_to rfl rfl (fun _ _ _ _ _ _ us hl => match us, hl with | [_, _, _], _ => rfl)
theorem sg__law_next_step (c : obsM g = valM w.params) (X : (kM g).In h) (G : h.Ns mainGlobals mg) : Glob (kM g) mg "_law_next_step" st__law_next_step ["_law_one", "_law_answer"] :=
  glob_of c X G 121 fi__law_next_step rfl rfl (fun _ _ _ _ _ _ us hl => match us, hl with | [_, _], _ => rfl)
theorem sg__law_act_of (c : obsM g = valM w.params) (X : (kM g).In h) (G : h.Ns mainGlobals mg) : Glob (kM g) mg "_law_act_of" st__law_act_of ["_law_one"] :=
  glob_of c X G 122 fi__law_act_of rfl rfl (fun _ _ _ _ _ _ us hl => match us, hl with | [_], _ => rfl)
theorem sg__law_own_act (c : obsM g = valM w.params) (X : (kM g).In h) (G : h.Ns mainGlobals mg) : Glob (kM g) mg "_law_own_act" st__law_own_act ["_law_world", "_law_one"] :=
  glob_of c X G 123 fi__law_own_act rfl rfl (fun _ _ _ _ _ _ us hl => match us, hl with | [_, _], _ => rfl)
theorem sg__law_is_done (c : obsM g = valM w.params) (X : (kM g).In h) (G : h.Ns mainGlobals mg) : Glob (kM g) mg "_law_is_done" st__law_is_done ["_law_world", "_law_copy", "_law_one"] :=
  glob_of c X G 124 fi__law_is_done rfl rfl (fun _ _ _ _ _ _ us hl => match us, hl with | [_, _, _], _ => rfl)
theorem sg__law_knows (c : obsM g = valM w.params) (X : (kM g).In h) (G : h.Ns mainGlobals mg) : Glob (kM g) mg "_law_knows" st__law_knows ["_law_world"] :=
  glob_of c X G 125 fi__law_knows rfl rfl (fun _ _ _ _ _ _ us hl => match us, hl with | [_], _ => rfl)
theorem sg__law_sent_in (c : obsM g = valM w.params) (X : (kM g).In h) (G : h.Ns mainGlobals mg) : Glob (kM g) mg "_law_sent_in" st__law_sent_in ["_law_world"] :=
  glob_of c X G 126 fi__law_sent_in rfl rfl (fun _ _ _ _ _ _ us hl => match us, hl with | [_], _ => rfl)
theorem sg__law_is_meant (c : obsM g = valM w.params) (X : (kM g).In h) (G : h.Ns mainGlobals mg) : Glob (kM g) mg "_law_is_meant" st__law_is_meant ["_law_world"] :=
  glob_of c X G 127 fi__law_is_meant rfl rfl (fun _ _ _ _ _ _ us hl => match us, hl with | [_], _ => rfl)
theorem sg__law_can (c : obsM g = valM w.params) (X : (kM g).In h) (G : h.Ns mainGlobals mg) : Glob (kM g) mg "_law_can" st__law_can ["_law_world", "_law_steps", "_law_event", "_law_others", "_law_net"] :=
  glob_of c X G 128 fi__law_can rfl rfl (fun _ _ _ _ _ _ us hl => match us, hl with | [_, _, _, _, _], _ => rfl)
theorem sg__law_answered_in (c : obsM g = valM w.params) (X : (kM g).In h) (G : h.Ns mainGlobals mg) : Glob (kM g) mg "_law_answered_in" st__law_answered_in ["_law_world", "_law_steps"] :=
  glob_of c X G 129 fi__law_answered_in rfl rfl (fun _ _ _ _ _ _ us hl => match us, hl with | [_, _], _ => rfl)
theorem sg__law_world_behind (c : obsM g = valM w.params) (X : (kM g).In h) (G : h.Ns mainGlobals mg) : Glob (kM g) mg "_law_world_behind" st__law_world_behind ["_law_world", "_law_steps", "_law_event", "_law_net"] :=
  glob_of c X G 130 fi__law_world_behind rfl rfl (fun _ _ _ _ _ _ us hl => match us, hl with | [_, _, _, _], _ => rfl)
theorem sg__law_server_of (c : obsM g = valM w.params) (X : (kM g).In h) (G : h.Ns mainGlobals mg) : Glob (kM g) mg "_law_server_of" st__law_server_of ["_law_world"] :=
  glob_of c X G 131 fi__law_server_of rfl rfl (fun _ _ _ _ _ _ us hl => match us, hl with | [_], _ => rfl)
theorem sg__law_standing_of (c : obsM g = valM w.params) (X : (kM g).In h) (G : h.Ns mainGlobals mg) : Glob (kM g) mg "_law_standing_of" st__law_standing_of ["_law_world", "_law_copy"] :=
  glob_of c X G 132 fi__law_standing_of rfl rfl (fun _ _ _ _ _ _ us hl => match us, hl with | [_, _], _ => rfl)
theorem sg__law_state_of (c : obsM g = valM w.params) (X : (kM g).In h) (G : h.Ns mainGlobals mg) : Glob (kM g) mg "_law_state_of" st__law_state_of ["_law_world"] :=
  glob_of c X G 133 fi__law_state_of rfl rfl (fun _ _ _ _ _ _ us hl => match us, hl with | [_], _ => rfl)
theorem sg__law_next_worlds (c : obsM g = valM w.params) (X : (kM g).In h) (G : h.Ns mainGlobals mg) : Glob (kM g) mg "_law_next_worlds" st__law_next_worlds ["_law_world", "_law_steps", "_law_others", "_law_net"] :=
  glob_of c X G 134 fi__law_next_worlds rfl rfl (fun _ _ _ _ _ _ us hl => match us, hl with | [_, _, _, _], _ => rfl)
theorem sg__law_least (c : obsM g = valM w.params) (X : (kM g).In h) (G : h.Ns mainGlobals mg) : Glob (kM g) mg "_law_least" st__law_least ["_law_steps", "_law_others", "_law_net", "_law_is_over_here", "_law_promise"] :=
  glob_of c X G 135 fi__law_least rfl rfl (fun _ _ _ _ _ _ us hl => match us, hl with | [_, _, _, _, _], _ => rfl)
theorem sg__law_row_right (c : obsM g = valM w.params) (X : (kM g).In h) (G : h.Ns mainGlobals mg) : Glob (kM g) mg "_law_row_right" st__law_row_right ["_law_told", "_law_steps", "_law_others", "_law_net", "_law_is_over_here", "_law_promise", "_law_least_here"] :=
  glob_of c X G 136 fi__law_row_right rfl rfl (fun _ _ _ _ _ _ us hl => match us, hl with | [_, _, _, _, _, _, _], _ => rfl)
theorem sg__law_is_over (c : obsM g = valM w.params) (X : (kM g).In h) (G : h.Ns mainGlobals mg) : Glob (kM g) mg "_law_is_over" st__law_is_over ["_law_world", "_law_steps", "_law_event", "_law_promise"] :=
  glob_of c X G 137 fi__law_is_over rfl rfl (fun _ _ _ _ _ _ us hl => match us, hl with | [_, _, _, _], _ => rfl)
theorem sg_law (c : obsM g = valM w.params) (X : (kM g).In h) (G : h.Ns mainGlobals mg) : Glob (kM g) mg "law" st_law ["_law_script"] :=
  glob_of c X G 138 fi_law rfl rfl (fun _ _ _ _ _ _ us hl => match us, hl with | [_], _ => rfl)
def ps_PLACES : List (Str × PyData) := [(("tag" : Str), (PyData.int 0)), (("look" : Str), (PyData.int 1)), (("stamp" : Str), (PyData.int 2))]
theorem sd_PLACES (c : obsM g = valM w.params) (X : (kM g).In h) (G : h.Ns mainGlobals mg) : ∃ a es n, mg "PLACES" = some (.ref a) ∧ DicAt g w a es n ps_PLACES := dic_of c X G "PLACES" 36 ps_PLACES fi_PLACES rfl
theorem sk_PLACES (c : obsM g = valM w.params) (X : (kM g).In h) (G : h.Ns mainGlobals mg) : GK (kM g) w mg "PLACES" kd_PLACES := by
  obtain ⟨a, es, n, hm, D⟩ := sd_PLACES c X G
  exact ⟨a, hm, D.kok fun x d => okDs_ok (ps := ps_PLACES) (by decide +kernel)⟩
def ps_CONDITIONS : List (Str × PyData) := [(("read" : Str), (PyData.tuple [(PyData.str "look"), (PyData.str "plain"), (PyData.str "stamp"), (PyData.str "tag")])), (("put" : Str), (PyData.tuple [(PyData.str "none"), (PyData.str "plain"), (PyData.str "stamp"), (PyData.str "tag"), (PyData.str "there")])), (("take" : Str), (PyData.tuple [(PyData.str "plain"), (PyData.str "stamp"), (PyData.str "tag"), (PyData.str "there")]))]
theorem sd_CONDITIONS (c : obsM g = valM w.params) (X : (kM g).In h) (G : h.Ns mainGlobals mg) : ∃ a es n, mg "CONDITIONS" = some (.ref a) ∧ DicAt g w a es n ps_CONDITIONS := dic_of c X G "CONDITIONS" 51 ps_CONDITIONS fi_CONDITIONS rfl
theorem sk_CONDITIONS (c : obsM g = valM w.params) (X : (kM g).In h) (G : h.Ns mainGlobals mg) : GK (kM g) w mg "CONDITIONS" kd_CONDITIONS := by
  obtain ⟨a, es, n, hm, D⟩ := sd_CONDITIONS c X G
  exact ⟨a, hm, D.kok fun x d => okDs_ok (ps := ps_CONDITIONS) (by decide +kernel)⟩
def ps_ANSWERS : List (Str × PyData) := [(("read" : Str), (PyData.tuple [(PyData.str "got"), (PyData.str "mine"), (PyData.str "unchanged"), (PyData.str "absent"), (PyData.str "lost")])), (("put" : Str), (PyData.tuple [(PyData.str "yes"), (PyData.str "no"), (PyData.str "lost")])), (("take" : Str), (PyData.tuple [(PyData.str "yes"), (PyData.str "no"), (PyData.str "absent"), (PyData.str "lost")]))]
theorem sd_ANSWERS (c : obsM g = valM w.params) (X : (kM g).In h) (G : h.Ns mainGlobals mg) : ∃ a es n, mg "ANSWERS" = some (.ref a) ∧ DicAt g w a es n ps_ANSWERS := dic_of c X G "ANSWERS" 52 ps_ANSWERS fi_ANSWERS rfl
theorem sk_ANSWERS (c : obsM g = valM w.params) (X : (kM g).In h) (G : h.Ns mainGlobals mg) : GK (kM g) w mg "ANSWERS" kd_ANSWERS := by
  obtain ⟨a, es, n, hm, D⟩ := sd_ANSWERS c X G
  exact ⟨a, hm, D.kok fun x d => okDs_ok (ps := ps_ANSWERS) (by decide +kernel)⟩
theorem s_ans (c : obsM g = valM w.params) (X : (kM g).In h) (G : h.Ns mainGlobals mg) (k : Str) (as : List Str) (e : ansOf k = some as) : ∃ a t o, mg "ANSWERS" = some (.ref a) ∧ KDct (kM g) w a k (.ref t) ∧ (kM g).lookup t = some o ∧ o.cls = .type "tuple" ∧ o.dict = none ∧ ∀ H, SqT (kM g) H t (as.map V.str) := by
  have e1 : lookD k (ps_ANSWERS.map fun p => (PyData.str p.1, p.2)) = some (.tuple (as.map PyData.str)) := by
    unfold ansOf at e
    split at e
    · rename_i hk
      subst hk
      cases e
      rfl
    · split at e
      · rename_i hk
        subst hk
        cases e
        rfl
      · split at e
        · rename_i hk
          subst hk
          cases e
          rfl
        · cases e
  obtain ⟨a, es, n, hm, D⟩ := sd_ANSWERS c X G
  obtain ⟨u, h1, h2, h3⟩ := D.hit e1
  have ho : okD (.tuple (as.map PyData.str)) = true := okDs_ok (ps := ps_ANSWERS) (by decide +kernel) e1
  obtain ⟨t, rfl⟩ : ∃ t, u = .ref t := by
    cases u with
    | ref t => exact ⟨t, rfl⟩
    | str x t => injection h2 with h2; cases h2
    | int i t => injection h2 with h2; cases h2
    | _ => cases h2
  obtain ⟨o, vs, h4, h5, h6, h7, h8⟩ := dat_tup h2 ho (h3 t rfl)
  have e2 : ∀ (l : List Str) (vs : List V), DpAll (kM g) (fun _ => none) vs (l.map PyData.str) → vs = l.map V.str := by
    intro l
    induction l with
    | nil => intro vs h; cases h; rfl
    | cons x r ih =>
      intro vs h
      cases h with
      | cons a b =>
        cases a
        rw [ih _ b]
        rfl
  have e3 := e2 as vs (h8 _ _)
  subst e3
  exact ⟨a, t, o, hm, ⟨es, n, _, D.look, D.kd.lit, h1, rfl⟩, h4, h5, h6, h7⟩
theorem s_tx (c : obsM g = valM w.params) (X : (kM g).In h) (G : h.Ns mainGlobals mg) : Tx w (kM g) mg where
  b_isinstance := mg_free c X G "isinstance" fr_isinstance
  b_len := mg_free c X G "len" fr_len
  b_all := mg_free c X G "all" fr_all
  b_min := mg_free c X G "min" fr_min
  b_int := mg_free c X G "int" fr_int
  b_tuple := mg_free c X G "tuple" fr_tuple
  b_list := mg_free c X G "list" fr_list
  b_str := mg_free c X G "str" fr_str
  b_bool := mg_free c X G "bool" fr_bool
  b_range := mg_free c X G "range" fr_range
  b_zip := mg_free c X G "zip" fr_zip
  b_enumerate := mg_free c X G "enumerate" fr_enumerate
  b_dict := mg_free c X G "dict" fr_dict
  b_repr := mg_free c X G "repr" fr_repr
  c_FRESH := gc_ok c X G 8 fi_FRESH rfl rfl
  c_GONE := gc_ok c X G 9 fi_GONE rfl rfl
  c_NEVER := gc_ok c X G 10 fi_NEVER rfl rfl
  c_THERE := gc_ok c X G 11 fi_THERE rfl rfl
  c_GREAT := gc_ok c X G 12 fi_GREAT rfl rfl
  c_SMALL := gc_ok c X G 13 fi_SMALL rfl rfl
  c_TAKE := gc_ok c X G 14 fi_TAKE rfl rfl
  c_TICK := gc_ok c X G 15 fi_TICK rfl rfl
  c_SERVERS := gc_ok c X G 16 fi_SERVERS rfl rfl
  c_PLAIN := gc_ok c X G 21 fi_PLAIN rfl rfl
  c_TAG := gc_ok c X G 22 fi_TAG rfl rfl
  c_LOOK := gc_ok c X G 23 fi_LOOK rfl rfl
  c_STAMP := gc_ok c X G 24 fi_STAMP rfl rfl
  c_IF_THERE := gc_ok c X G 25 fi_IF_THERE rfl rfl
  c_IF_NONE := gc_ok c X G 26 fi_IF_NONE rfl rfl
  c_READ_CONDITIONS := gc_ok c X G 27 fi_READ_CONDITIONS rfl rfl
  c_PUT_CONDITIONS := gc_ok c X G 28 fi_PUT_CONDITIONS rfl rfl
  c_TAKE_CONDITIONS := gc_ok c X G 29 fi_TAKE_CONDITIONS rfl rfl
  c_GOT := gc_ok c X G 30 fi_GOT rfl rfl
  c_MINE := gc_ok c X G 31 fi_MINE rfl rfl
  c_UNCHANGED := gc_ok c X G 32 fi_UNCHANGED rfl rfl
  c_ABSENT := gc_ok c X G 33 fi_ABSENT rfl rfl
  c_YES := gc_ok c X G 34 fi_YES rfl rfl
  c_NO := gc_ok c X G 35 fi_NO rfl rfl
  c_MOST_STEPS := gc_ok c X G 43 fi_MOST_STEPS rfl rfl
  c_READ := gc_ok c X G 44 fi_READ rfl rfl
  c_PUT := gc_ok c X G 45 fi_PUT rfl rfl
  c_FORGET := gc_ok c X G 46 fi_FORGET rfl rfl
  c_END := gc_ok c X G 47 fi_END rfl rfl
  c_OPEN := gc_ok c X G 48 fi_OPEN rfl rfl
  c_LOST := gc_ok c X G 49 fi_LOST rfl rfl
  c_ENDS := gc_ok c X G 50 fi_ENDS rfl rfl
  c_SURE := gc_ok c X G 57 fi_SURE rfl rfl
  c_LATE_NET := gc_ok c X G 58 fi_LATE_NET rfl rfl
  c_AGAIN := gc_ok c X G 59 fi_AGAIN rfl rfl
  c_NETS := gc_ok c X G 60 fi_NETS rfl rfl
  c_ANSWERED := gc_ok c X G 61 fi_ANSWERED rfl rfl
  c_UNHEARD := gc_ok c X G 62 fi_UNHEARD rfl rfl
  c_UNSENT := gc_ok c X G 63 fi_UNSENT rfl rfl
  c_COME := gc_ok c X G 64 fi_COME rfl rfl
  c_EVENTS := gc_ok c X G 65 fi_EVENTS rfl rfl
  c_WRITINGS := gc_ok c X G 66 fi_WRITINGS rfl rfl
  c_MOST_DONE := gc_ok c X G 67 fi_MOST_DONE rfl rfl
  c_PRESENT := gc_ok c X G 68 fi_PRESENT rfl rfl
  c_ELDER := gc_ok c X G 69 fi_ELDER rfl rfl
  c_MOST_STATES := gc_ok c X G 90 fi_MOST_STATES rfl rfl
  c_KEPT := gc_ok c X G 94 fi_KEPT rfl rfl
  c_TAKEN := gc_ok c X G 95 fi_TAKEN rfl rfl
  c_ONCE := gc_ok c X G 96 fi_ONCE rfl rfl
  c_TRUE := gc_ok c X G 97 fi_TRUE rfl rfl
  c_ENDING := gc_ok c X G 98 fi_ENDING rfl rfl
  c_PROMISES := gc_ok c X G 99 fi_PROMISES rfl rfl
  k_PLACES := sk_PLACES c X G
  k_CONDITIONS := sk_CONDITIONS c X G
  k_ANSWERS := sk_ANSWERS c X G
  g__wall := sg__wall c X G
  g_is_one_of := sg_is_one_of c X G
  g_is_there := sg_is_there c X G
  g_server_after := sg_server_after c X G
  g_copy_after := sg_copy_after c X G
  g_matches := sg_matches c X G
  g_is_left_out := sg_is_left_out c X G
  g_read_by := sg_read_by c X G
  g_does_hold := sg_does_hold c X G
  g_put_by := sg_put_by c X G
  g_take_by := sg_take_by c X G
  g_is_number := sg_is_number c X G
  g_is_step := sg_is_step c X G
  g_next_behind := sg_next_behind c X G
  g_need_others := sg_need_others c X G
  g_need_net := sg_need_net c X G
  g_first_of := sg_first_of c X G
  g_answer_to := sg_answer_to c X G
  g_act_of := sg_act_of c X G
  g_is_done_by := sg_is_done_by c X G
  g_can_happen := sg_can_happen c X G
  g_late_after := sg_late_after c X G
  g_acted := sg_acted c X G
  g_ticked := sg_ticked c X G
  g_at_step := sg_at_step c X G
  g_seen_now := sg_seen_now c X G
  g_answered := sg_answered c X G
  g_sent_now := sg_sent_now c X G
  g_unheard := sg_unheard c X G
  g_unsent := sg_unsent c X G
  g_come := sg_come c X G
  g_stepped := sg_stepped c X G
  g_events_in := sg_events_in c X G
  g_is_fault_in := sg_is_fault_in c X G
  g_firsts := sg_firsts c X G
  g_ways := sg_ways c X G
  g_row_to := sg_row_to c X G
  g_need_promise := sg_need_promise c X G
  g_is_amiss := sg_is_amiss c X G
  g_is_bad := sg_is_bad c X G
  g_alone_behind := sg_alone_behind c X G
  g_round_from := sg_round_from c X G
  g_back_to := sg_back_to c X G
  g_bad_states := sg_bad_states c X G
  g_ways_for := sg_ways_for c X G
  g_keeps := sg_keeps c X G
  g_breaking := sg_breaking c X G
  g__law_begun := sg__law_begun c X G
  g__law_draw := sg__law_draw c X G
  g__law_of := sg__law_of c X G
  g__law_conditions := sg__law_conditions c X G
  g__law_any_step := sg__law_any_step c X G
  g__law_any_steps := sg__law_any_steps c X G
  g__law_any_others := sg__law_any_others c X G
  g__law_world_at := sg__law_world_at c X G
  g__law_edited_by := sg__law_edited_by c X G
  g__law_held_in := sg__law_held_in c X G
  g__law_reply_to := sg__law_reply_to c X G
  g__law_next_step := sg__law_next_step c X G
  g__law_act_of := sg__law_act_of c X G
  g__law_own_act := sg__law_own_act c X G
  g__law_is_done := sg__law_is_done c X G
  g__law_knows := sg__law_knows c X G
  g__law_sent_in := sg__law_sent_in c X G
  g__law_is_meant := sg__law_is_meant c X G
  g__law_can := sg__law_can c X G
  g__law_answered_in := sg__law_answered_in c X G
  g__law_world_behind := sg__law_world_behind c X G
  g__law_server_of := sg__law_server_of c X G
  g__law_standing_of := sg__law_standing_of c X G
  g__law_state_of := sg__law_state_of c X G
  g__law_next_worlds := sg__law_next_worlds c X G
  g__law_least := sg__law_least c X G
  g__law_row_right := sg__law_row_right c X G
  g__law_is_over := sg__law_is_over c X G
  g_law := sg_law c X G
  ans := s_ans c X G
theorem s_script (c : obsM g = valM w.params) (X : (kM g).In h) (G : h.Ns mainGlobals mg) : ScriptH (kM g) mg (aC g) := by
  obtain ⟨u, A⟩ := at_of c "Script" 55 fi_Script
  have e : sumV g u = .c := A.sm _ rfl
  obtain ⟨a, rfl⟩ : ∃ a, u = .ref a := by
    cases u with
    | ref a => exact ⟨a, rfl⟩
    | _ => cases e
  have ea : aC g = a := A.adr a rfl
  obtain ⟨k1, k2⟩ := He.ba (o_cls c)
  obtain ⟨k3, k4⟩ := He.ba k1
  obtain ⟨k5, k6⟩ := He.ba k4
  obtain ⟨k7, k8⟩ := He.ba k6
  obtain ⟨m1, m2⟩ := He.ba k2
  obtain ⟨m3, m4⟩ := He.ba m2
  obtain ⟨m5, m6⟩ := He.ba m4
  obtain ⟨m7, m8⟩ := He.ba m6
  obtain ⟨m9, m10⟩ := He.ba m8
  have hn : PySem.W.findIn (kM g) (.ref (aC g)) "steps" = some none := by
    cases z : PySem.W.findIn (kM g) (.ref (aC g)) "steps" with
    | none => rw [z] at m1; cases m1
    | some o =>
      cases o with
      | none => rfl
      | some v => rw [z] at m1; cases m1
  have hi : aI g ∈ asM g := by unfold asM; simp
  have hc : ∀ oc od fd sl cc, g (aI g) = some ⟨oc, od, .func fd, sl⟩ → fd.code = .ref cc → cc ∈ asM g := fun oc od fd sl cc h1 h2 => by
    have : fnCode g (aI g) = cc := by
      unfold fnCode
      rw [h1]
      show (match fd.code with | .ref c => c | _ => 0) = cc
      rw [h2]
    rw [← this]
    unfold asM
    simp
  obtain ⟨fd, F, b⟩ := fn_of (st := st_init) hi hc (o_init c)
  refine ⟨?_, ⟨⟨k3, k5, k7, He.eqO_ok k8⟩, hn⟩, aI g, fd, ⟨m3, He.eqO_ok m5, m7, m9⟩, F, fun s us _ hl => ?_⟩
  · rw [ea]
    exact PySem.W.mg_of X G A.ns
  · rw [List.append_nil] at hl ⊢
    exact b (fun _ _ _ _ _ _ us hl => match us, hl with | [_, _], _ => rfl) s us hl
theorem s_law (c : obsM g = valM w.params) (X : (kM g).In h) (G : h.Ns mainGlobals mg) {f : Addr} (hf : mg "law" = some (.ref f)) : ∃ fd, Fun (kM g) "law" "law" st_law f fd ∧ ∀ (s : Shared) (u : Value), BindsTo s fd ⟨[u], []⟩ [("_law_script", u)] := by
  obtain ⟨a, fd, hm, F, b⟩ := def_of c X G (x := "law") (st := st_law) 138 fi_law rfl
  rw [hf] at hm
  cases hm
  exact ⟨fd, F, fun s u => b (fun _ _ _ _ _ _ us hl => match us, hl with | [_], _ => rfl) s [u] rfl⟩
end
end Dn
set_option Elab.async false
set_option linter.all false
set_option maxRecDepth 100000
set_option maxHeartbeats 0
open PySem PySem.W PySem.Calls PyProof.Rows
theorem PySem.Challenge.cw_putonlyif_k14_whole_once_and_true_holds : PySem.Challenge.rw_putonlyif_k14_whole_once_and_true.Holds := by
  w_on; o_law
  refine HandSHeadRun.head_any (r := OpenLaw.row PySem.Challenge.rw_putonlyif_k14_whole_once_and_true) (q := Dn.qv) (H := Dn.hkM) (ob := Dn.obM) (M := 20000) (loose := Dn.names) (d := HandSHeadRun.topDef (OpenLaw.row PySem.Challenge.rw_putonlyif_k14_whole_once_and_true).prog 146) (kwd := []) Dn.obM_eq
    (by kernel_rfl) (fun s => by kernel_rfl) Dn.run (by kernel_rfl) (by kernel_rfl) (by kernel_rfl) (by rfl) (by first | assumption | decide +kernel) (by decide +kernel) ⟨rfl, rfl, rfl, rfl, rfl, by decide +kernel⟩ ?hw ?hc
  case hw => w_witness2
  case hc =>
    refine L2.walk_ofE (l := PySem.Challenge.rw_putonlyif_k14_whole_once_and_true) (n := 63) (k := 12) (x := "_law_script") (CX := L2.CX0) rfl (by decide) (by kernel_rfl) ⟨rfl, by decide, by decide⟩ ?F (fun _ _ _ _ z => z)
    intro w mg fa h Y G hmg0
    obtain ⟨g, X, c⟩ := Y
    have hmg : mg ("law" : PySem.Str) = some (.ref fa) := by
      have e : (HandSHeadRun.topDef (OpenLaw.row PySem.Challenge.rw_putonlyif_k14_whole_once_and_true).prog 146).name = ("law" : PySem.Str) := by kernel_rfl
      rw [← e]
      exact hmg0
    obtain ⟨fd, F, hb⟩ := Dn.s_law c X G hmg
    exact ⟨Dn.kM g, fd, Dn.spLaw (Dn.kM g), X, hb, fun H a ns hl _ hS => ⟨a, ns, rfl, hS, by omega, fun _ => rfl⟩, fun base _ _ => Dn.law_fn (Dn.s_tx c X G) (Dn.s_script c X G) F⟩
