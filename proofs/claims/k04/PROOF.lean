import PyProof.Rows.All
import Wide.All
import OpenK.AllK
import Wide.FinOn
import HandS.ForMost
import HandS.ForExc
import HandS.Lambda
import KE.KDflt
import HandS.HeadHook4
import HandS.TupAny
import HandS.TupMul
import HandS.Wide
import HandS.IsInst
import HandS.Flow
import HandS.NoneIn
import HandS.Deep
import HandS.WordsDict
import HandS.More
import HandS.Style
import KE.GoesEnum
import HandS.Strs
import HandS.Head0
import HandS.Head1
import HandS.Head2
import HandS.HeadEnd
import HandS.HeadHook1
import HandS.HeadHook2
import HandS.HeadHook3
import HandS.HeadNt
import HandS.Dict
import HandS.Text
import HandS.Iter
import HandS.RaiseMore
import PySem.Challenge.RW_guestworlds_k04_each_row_by_itself
set_option Elab.async false
set_option linter.all false
set_option maxRecDepth 100000
set_option maxHeartbeats 20000000
namespace L3
open PySem PySem.Spec PyProof.Rows L2
/-- a lambda's words -/
structure LamC where
  params : Arguments
  body : Expr
  scope : Scope
  qual : Str
/-- a value; tuples are trees; ref: a list, a dict, an instance; gl: a def or class of the module by its name; rl: a list that is never written -/
inductive D where
  | non | bl (b : Bool) | int (i : Int) | str (x : Str) | tup (xs : List D) | ref (a : Addr) | gl (x : String) | rl (xs : List D) | wl (xs : List D) | fn (k : LamC) (cl : List (Str × Addr)) (vs : List V) (ds : List D)

/-- the fields that instances have -/
def fieldsOf (c : String) : List String :=
  if c = "State" then ["body", "wide", "boxes", "place", "high", "window", "left", "words", "ear", "why", "many"]
  else if c = "Machine" then ["kind", "state"]
  else if c = "Body" then ["things"]
  else if c = "Ground" then ["kind", "wide", "cells", "words", "deep"]
  else if c = "Room" then ["host", "number", "kind", "wide", "words", "deep"]
  else if c = "Host" then ["ground", "way", "firsts", "states", "shares", "fresh", "upon"]
  else []
/-- a written value stands for d (lists as wl) -/
def isVB (K : PySem.W.Frag) : Nat → Value → D → Bool
  | _, .none, .non => true
  | _, .bool b, .bl c => b == c
  | _, .int i _, .int j => decide (i = j)
  | _, .str x _, .str y => decide (x = y)
  | n + 1, .ref a, .tup ds => match K.lookup a with
    | some ⟨.type c, _, .seq its _, _⟩ => decide (c = "tuple") && (decide (its.size ≤ sizeLine) && (its.toList.length == ds.length && (its.toList.zip ds).all fun p => isVB K n p.1 p.2))
    | _ => false
  | n + 1, .ref a, .wl ds => match K.lookup a with
    | some ⟨.type c, none, .seq its _, sl⟩ => decide (c = "list") && (decide (sl = #[]) && (decide (its.size ≤ sizeLine) && (its.toList.length == ds.length && (its.toList.zip ds).all fun p => isVB K n p.1 p.2)))
    | _ => false
  | _, _, _ => false
/-- the module's name x stands for d -/
def konB (K : PySem.W.Frag) (x : Str) (d : D) : Bool := match PySem.W.nsIn K mainGlobals x with
  | some (some u) => isVB K 6 u d
  | _ => false
def kvB (K : PySem.W.Frag) : List DictEntry → List (Str × D) → Bool
  | [], [] => true
  | e :: es, p :: r => (match e.key with | .str y _ => decide (y = p.1) | _ => false) && (isVB K 6 e.val p.2 && kvB K es r)
  | _, _ => false
def kdB (K : PySem.W.Frag) (x : Str) (kvs : List (Str × D)) : Bool := He.eqO (PySem.W.nsIn K mainGlobals x) (some (some (.ref (He.ga K x)))) && match K.lookup (He.ga K x) with
  | some ⟨_, _, .dict es _, _⟩ => kvB K es.toList kvs
  | _ => false
def getD (kvs : List (Key × D)) (k : Key) : Option D := match kvs with
  | [] => none
  | p :: r => if p.1 = k then some p.2 else getD r k
def strsB : List Value → List Str → Bool
  | [], [] => true
  | .str x _ :: us, y :: ys => decide (x = y) && strsB us ys
  | _, _ => false
def ktB (K : PySem.W.Frag) (x : Str) (ys : List Str) : Bool := match PySem.W.nsIn K mainGlobals x with
  | some (some (.ref a)) => match K.lookup a with
    | some ⟨.type c, none, .seq its _, _⟩ => decide (c = "tuple") && (decide (its.size ≤ sizeLine) && strsB its.toList ys)
    | _ => false
  | _ => false
/-- a class is there, or isn't -/
def clsB (K : PySem.W.Frag) (c : String) : Bool := (He.Fa.cls (c : Str)).ok K && (fieldsOf c).all fun f => (He.Fa.noat (c : Str) (f : Str)).ok K
def kviB (K : PySem.W.Frag) : List DictEntry → List (Int × D) → Bool
  | [], [] => true
  | e :: es, p :: r => (match e.key with | .int y _ => decide (y = p.1) && decide (e.hash = hashInt y) | _ => false) && (isVB K 6 e.val p.2 && kviB K es r)
  | _, _ => false
def kdiB (K : PySem.W.Frag) (x : Str) (kvs : List (Int × D)) : Bool := match PySem.W.nsIn K mainGlobals x with
  | some (some (.ref a)) => match K.lookup a with
    | some ⟨.type c, none, .dict es _, sl⟩ => decide (c = "dict") && (decide (sl = #[]) && kviB K es.toList kvs)
    | _ => false
  | _ => false
end L3

namespace L3
open PySem PySem.Spec PyProof.Rows L2
/-! ### the text of the row -/
def topS (i : Nat) : Stmt := PySem.Challenge.pw_guestworlds_k04_each_row_by_itself.main.body.getD i (.Pass ⟨0, 0, 0, 0⟩)
abbrev c_BOXES : D := (.int 4)
abbrev c_LEAST_CELLS : D := (.int 16)
abbrev c_MOST_CELLS : D := (.int 40)
abbrev c_MOST_EAR : D := (.int 20)
abbrev c_MOST_NUMBER : D := (.int 999)
abbrev c_OWN_ORDER : D := (.tup [(.str ("say" : Str)), (.str ("hear" : Str)), (.str ("which" : Str)), (.str ("room" : Str)), (.str ("enter" : Str)), (.str ("alarm" : Str)), (.str ("stop" : Str))])
abbrev kt_OWN_ORDER : List Str := ["say", "hear", "which", "room", "enter", "alarm", "stop"]
def kv_PLAIN : List (Str × D) := [(("put" : Str), (.str ("bn" : Str))), (("add" : Str), (.str ("bbb" : Str))), (("less" : Str), (.str ("bbb" : Str))), (("load" : Str), (.str ("bb" : Str))), (("store" : Str), (.str ("bb" : Str))), (("zero" : Str), (.str ("bn" : Str))), (("go" : Str), (.str ("n" : Str))), (("call" : Str), (.str ("n" : Str)))]
def kv_OWN : List (Str × D) := [(("say" : Str), (.str ("b" : Str))), (("hear" : Str), (.str ("b" : Str))), (("which" : Str), (.str ("b" : Str))), (("room" : Str), (.str ("b" : Str))), (("enter" : Str), (.str ("e" : Str))), (("alarm" : Str), (.str ("b" : Str))), (("stop" : Str), (.str ("" : Str)))]
abbrev c_BEYOND : D := (.int 2)
abbrev c_NO_ROW : D := (.int 3)
abbrev c_OWN_ROW : D := (.int 1)
abbrev c_ALARM : D := (.int 4)
abbrev c_CALL : D := (.int 5)
abbrev c_GOES_TO : D := (.int 5)
abbrev c_KEPT : D := (.int 6)
abbrev kv_WORDS : List (Int × D) := [(2, .str ("beyond" : Str)), (3, .str ("no row" : Str))]
abbrev c_MOST_STEPS : D := (.int 400)
abbrev s_l_start : Stmt := topS 41
abbrev s_l_drawn : Stmt := topS 42
abbrev s_l_number : Stmt := topS 44
abbrev s_l_row : Stmt := topS 45
abbrev s_l_begin : Stmt := topS 62
abbrev s_l_ear : Stmt := topS 50
abbrev s_l_kind : Stmt := topS 49
abbrev s_l_machine : Stmt := topS 51
abbrev s_need_kind : Stmt := topS 21
abbrev s_is_number : Stmt := topS 16
abbrev s_is_part : Stmt := topS 17
abbrev s_is_row : Stmt := topS 18
abbrev s_is_thing : Stmt := topS 19
abbrev s_need_cells : Stmt := topS 20
abbrev s_need_ear : Stmt := topS 22
abbrev s_Body___init__ : Stmt := inClass (topS 38) 0
abbrev s_State___init__ : Stmt := inClass (topS 35) 0
abbrev s_Machine___init__ : Stmt := inClass (topS 39) 0
abbrev s_l_worth : Stmt := topS 53
abbrev s_l_caught : Stmt := topS 54
abbrev s_l_own : Stmt := topS 59
abbrev s_l_plain : Stmt := topS 55
abbrev s_l_counts : Stmt := topS 58
abbrev s_l_low : Stmt := topS 57
abbrev s_l_high : Stmt := topS 56
abbrev s_l_step : Stmt := topS 60
abbrev s_l_goes : Stmt := topS 61
abbrev s_need_count : Stmt := topS 23
abbrev s_State_cell : Stmt := inClass (topS 35) 3
abbrev s_Body_peek : Stmt := inClass (topS 38) 1
abbrev s_State_coming : Stmt := inClass (topS 35) 4
abbrev s_Body_poke : Stmt := inClass (topS 38) 2
abbrev s_worth : Stmt := topS 24
abbrev s_State_caught : Stmt := inClass (topS 35) 8
abbrev s_State_own : Stmt := inClass (topS 35) 6
abbrev s_is_caught : Stmt := topS 25
abbrev s_State_own_low : Stmt := inClass (topS 35) 7
abbrev s_State_counted : Stmt := inClass (topS 35) 9
abbrev s_State_plain : Stmt := inClass (topS 35) 5
abbrev s_State_step : Stmt := inClass (topS 35) 10
abbrev s_Machine_go : Stmt := inClass (topS 39) 1
abbrev s_l_same : Stmt := topS 43
abbrev s_l_bundle : Stmt := topS 52
abbrev s_State_packed : Stmt := inClass (topS 35) 1
abbrev s_Machine_carried : Stmt := inClass (topS 39) 3
abbrev s_law : Stmt := topS 63
/-! ### the head -/
def dd_l_start : He.DefD := ⟨("_law_start", none), "_law_start", "_law_start", defArgs s_l_start, defBody s_l_start, defScope s_l_start, [], []⟩
def dd_l_drawn : He.DefD := ⟨("_law_drawn", none), "_law_drawn", "_law_drawn", defArgs s_l_drawn, defBody s_l_drawn, defScope s_l_drawn, [], []⟩
def dd_l_number : He.DefD := ⟨("_law_number", none), "_law_number", "_law_number", defArgs s_l_number, defBody s_l_number, defScope s_l_number, [], []⟩
def dd_l_row : He.DefD := ⟨("_law_row", none), "_law_row", "_law_row", defArgs s_l_row, defBody s_l_row, defScope s_l_row, [], []⟩
def dd_l_begin : He.DefD := ⟨("_law_begin", none), "_law_begin", "_law_begin", defArgs s_l_begin, defBody s_l_begin, defScope s_l_begin, [], []⟩
def dd_l_ear : He.DefD := ⟨("_law_ear", none), "_law_ear", "_law_ear", defArgs s_l_ear, defBody s_l_ear, defScope s_l_ear, [], []⟩
def dd_l_kind : He.DefD := ⟨("_law_kind", none), "_law_kind", "_law_kind", defArgs s_l_kind, defBody s_l_kind, defScope s_l_kind, [], []⟩
def dd_l_machine : He.DefD := ⟨("_law_machine", none), "_law_machine", "_law_machine", defArgs s_l_machine, defBody s_l_machine, defScope s_l_machine, [], []⟩
def dd_need_kind : He.DefD := ⟨("need_kind", none), "need_kind", "need_kind", defArgs s_need_kind, defBody s_need_kind, defScope s_need_kind, [], []⟩
def dd_is_number : He.DefD := ⟨("is_number", none), "is_number", "is_number", defArgs s_is_number, defBody s_is_number, defScope s_is_number, [], []⟩
def dd_is_part : He.DefD := ⟨("is_part", none), "is_part", "is_part", defArgs s_is_part, defBody s_is_part, defScope s_is_part, [], []⟩
def dd_is_row : He.DefD := ⟨("is_row", none), "is_row", "is_row", defArgs s_is_row, defBody s_is_row, defScope s_is_row, [], []⟩
def dd_is_thing : He.DefD := ⟨("is_thing", none), "is_thing", "is_thing", defArgs s_is_thing, defBody s_is_thing, defScope s_is_thing, [], []⟩
def dd_need_cells : He.DefD := ⟨("need_cells", none), "need_cells", "need_cells", defArgs s_need_cells, defBody s_need_cells, defScope s_need_cells, [], []⟩
def dd_need_ear : He.DefD := ⟨("need_ear", none), "need_ear", "need_ear", defArgs s_need_ear, defBody s_need_ear, defScope s_need_ear, [], []⟩
def dd_Body___init__ : He.DefD := ⟨("Body", some "__init__"), "__init__", "Body.__init__", defArgs s_Body___init__, defBody s_Body___init__, defScope s_Body___init__, [], []⟩
def dd_State___init__ : He.DefD := ⟨("State", some "__init__"), "__init__", "State.__init__", defArgs s_State___init__, defBody s_State___init__, defScope s_State___init__, [], []⟩
def dd_Machine___init__ : He.DefD := ⟨("Machine", some "__init__"), "__init__", "Machine.__init__", defArgs s_Machine___init__, defBody s_Machine___init__, defScope s_Machine___init__, [], []⟩
def dd_l_worth : He.DefD := ⟨("_law_worth", none), "_law_worth", "_law_worth", defArgs s_l_worth, defBody s_l_worth, defScope s_l_worth, [], []⟩
def dd_l_caught : He.DefD := ⟨("_law_caught", none), "_law_caught", "_law_caught", defArgs s_l_caught, defBody s_l_caught, defScope s_l_caught, [], []⟩
def dd_l_own : He.DefD := ⟨("_law_own", none), "_law_own", "_law_own", defArgs s_l_own, defBody s_l_own, defScope s_l_own, [], []⟩
def dd_l_plain : He.DefD := ⟨("_law_plain", none), "_law_plain", "_law_plain", defArgs s_l_plain, defBody s_l_plain, defScope s_l_plain, [], []⟩
def dd_l_counts : He.DefD := ⟨("_law_counts", none), "_law_counts", "_law_counts", defArgs s_l_counts, defBody s_l_counts, defScope s_l_counts, [], []⟩
def dd_l_low : He.DefD := ⟨("_law_low", none), "_law_low", "_law_low", defArgs s_l_low, defBody s_l_low, defScope s_l_low, [], []⟩
def dd_l_high : He.DefD := ⟨("_law_high", none), "_law_high", "_law_high", defArgs s_l_high, defBody s_l_high, defScope s_l_high, [], []⟩
def dd_l_step : He.DefD := ⟨("_law_step", none), "_law_step", "_law_step", defArgs s_l_step, defBody s_l_step, defScope s_l_step, [], []⟩
def dd_l_goes : He.DefD := ⟨("_law_goes", none), "_law_goes", "_law_goes", defArgs s_l_goes, defBody s_l_goes, defScope s_l_goes, [], []⟩
def dd_need_count : He.DefD := ⟨("need_count", none), "need_count", "need_count", defArgs s_need_count, defBody s_need_count, defScope s_need_count, [], []⟩
def dd_State_cell : He.DefD := ⟨("State", some "cell"), "cell", "State.cell", defArgs s_State_cell, defBody s_State_cell, defScope s_State_cell, [], []⟩
def dd_Body_peek : He.DefD := ⟨("Body", some "peek"), "peek", "Body.peek", defArgs s_Body_peek, defBody s_Body_peek, defScope s_Body_peek, [], []⟩
def dd_State_coming : He.DefD := ⟨("State", some "coming"), "coming", "State.coming", defArgs s_State_coming, defBody s_State_coming, defScope s_State_coming, [], []⟩
def dd_Body_poke : He.DefD := ⟨("Body", some "poke"), "poke", "Body.poke", defArgs s_Body_poke, defBody s_Body_poke, defScope s_Body_poke, [], []⟩
def dd_worth : He.DefD := ⟨("worth", none), "worth", "worth", defArgs s_worth, defBody s_worth, defScope s_worth, [], []⟩
def dd_State_caught : He.DefD := ⟨("State", some "caught"), "caught", "State.caught", defArgs s_State_caught, defBody s_State_caught, defScope s_State_caught, [], []⟩
def dd_State_own : He.DefD := ⟨("State", some "own"), "own", "State.own", defArgs s_State_own, defBody s_State_own, defScope s_State_own, [], []⟩
def dd_is_caught : He.DefD := ⟨("is_caught", none), "is_caught", "is_caught", defArgs s_is_caught, defBody s_is_caught, defScope s_is_caught, [], []⟩
def dd_State_own_low : He.DefD := ⟨("State", some "own_low"), "own_low", "State.own_low", defArgs s_State_own_low, defBody s_State_own_low, defScope s_State_own_low, [], []⟩
def dd_State_counted : He.DefD := ⟨("State", some "counted"), "counted", "State.counted", defArgs s_State_counted, defBody s_State_counted, defScope s_State_counted, [], []⟩
def dd_State_plain : He.DefD := ⟨("State", some "plain"), "plain", "State.plain", defArgs s_State_plain, defBody s_State_plain, defScope s_State_plain, [], []⟩
def dd_State_step : He.DefD := ⟨("State", some "step"), "step", "State.step", defArgs s_State_step, defBody s_State_step, defScope s_State_step, [], []⟩
def dd_Machine_go : He.DefD := ⟨("Machine", some "go"), "go", "Machine.go", defArgs s_Machine_go, defBody s_Machine_go, defScope s_Machine_go, [], []⟩
def dd_l_same : He.DefD := ⟨("_law_same", none), "_law_same", "_law_same", defArgs s_l_same, defBody s_l_same, defScope s_l_same, [], []⟩
def dd_l_bundle : He.DefD := ⟨("_law_bundle", none), "_law_bundle", "_law_bundle", defArgs s_l_bundle, defBody s_l_bundle, defScope s_l_bundle, [], []⟩
def dd_State_packed : He.DefD := ⟨("State", some "packed"), "packed", "State.packed", defArgs s_State_packed, defBody s_State_packed, defScope s_State_packed, [], []⟩
def dd_Machine_carried : He.DefD := ⟨("Machine", some "carried"), "carried", "Machine.carried", defArgs s_Machine_carried, defBody s_Machine_carried, defScope s_Machine_carried, [], []⟩
def dd_law : He.DefD := ⟨("law", none), "law", "law", defArgs s_law, defBody s_law, defScope s_law, [], []⟩
def fns : List He.DefD := [dd_l_start, dd_l_drawn, dd_l_number, dd_l_row, dd_l_begin, dd_l_ear, dd_l_kind, dd_l_machine, dd_need_kind, dd_is_number, dd_is_part, dd_is_row, dd_is_thing, dd_need_cells, dd_need_ear, dd_Body___init__, dd_State___init__, dd_Machine___init__, dd_l_worth, dd_l_caught, dd_l_own, dd_l_plain, dd_l_counts, dd_l_low, dd_l_high, dd_l_step, dd_l_goes, dd_need_count, dd_State_cell, dd_Body_peek, dd_State_coming, dd_Body_poke, dd_worth, dd_State_caught, dd_State_own, dd_is_caught, dd_State_own_low, dd_State_counted, dd_State_plain, dd_State_step, dd_Machine_go, dd_l_same, dd_l_bundle, dd_State_packed, dd_Machine_carried, dd_law]
def fas : List He.Fa := [.glo "law", .glo "_law_start", .glo "_law_drawn", .glo "_law_number", .glo "_law_row", .glo "_law_begin", .glo "_law_ear", .glo "_law_kind", .glo "_law_machine", .glo "need_kind", .glo "is_number", .glo "is_part", .glo "is_row", .glo "is_thing", .glo "need_cells", .glo "need_ear", .glo "Body", .cls "Body", .mkr "Body", .glo "State", .cls "State", .mkr "State", .glo "Machine", .cls "Machine", .mkr "Machine", .glo "_law_worth", .glo "_law_caught", .glo "_law_own", .glo "_law_plain", .glo "_law_counts", .glo "_law_low", .glo "_law_high", .glo "_law_step", .glo "_law_goes", .glo "need_count", .meth "State" "cell", .meth "Body" "peek", .meth "State" "coming", .meth "Body" "poke", .glo "worth", .meth "State" "caught", .meth "State" "own", .glo "is_caught", .meth "State" "own_low", .meth "State" "counted", .meth "State" "plain", .meth "State" "step", .meth "Machine" "go", .glo "_law_same", .glo "_law_bundle", .meth "State" "packed", .meth "Machine" "carried", .free "len", .free "range", .free "max", .free "int", .free "min", .free "tuple", .free "list", .free "isinstance", .free "bool", .free "str", .free "enumerate", .glo "BadKind", .exc "BadKind", .glo "BadEar", .exc "BadEar", .glo "BadCount", .exc "BadCount", .free "Ground", .free "Room", .free "Host"]
def tss : List He.Tab := [(fun K => He.ga K "PLAIN", ["put", "add", "less", "load", "store", "zero", "go", "call"]), (fun K => He.ga K "OWN", ["say", "hear", "which", "room", "enter", "alarm", "stop"])]
def tfs : List He.Defn := []
def nmT (p : He.Defn) : Str := ("" : Str)
def exs (K : PySem.W.Frag) : Bool := (konB K "OWN_ORDER" c_OWN_ORDER) && ((konB K "MOST_NUMBER" c_MOST_NUMBER) && ((konB K "BOXES" c_BOXES) && ((konB K "MOST_CELLS" c_MOST_CELLS) && ((konB K "LEAST_CELLS" c_LEAST_CELLS) && ((konB K "MOST_EAR" c_MOST_EAR) && ((konB K "BEYOND" c_BEYOND) && ((konB K "NO_ROW" c_NO_ROW) && ((konB K "KEPT" c_KEPT) && ((konB K "GOES_TO" c_GOES_TO) && ((konB K "ALARM" c_ALARM) && ((konB K "CALL" c_CALL) && ((konB K "OWN_ROW" c_OWN_ROW) && ((konB K "MOST_STEPS" c_MOST_STEPS) && ((ktB K "OWN_ORDER" kt_OWN_ORDER) && ((kdiB K "WORDS" kv_WORDS) && ((kdB K "PLAIN" kv_PLAIN) && ((kdB K "OWN" kv_OWN) && (((He.Fa.glo ("State" : Str)).ok K && clsB K "State") && (((He.Fa.glo ("Machine" : Str)).ok K && clsB K "Machine") && (((He.Fa.glo ("Body" : Str)).ok K && clsB K "Body")))))))))))))))))))))
abbrev RR : PySem.W.OpenRow := PySem.W.OpenLaw.row PySem.Challenge.rw_guestworlds_k04_each_row_by_itself
abbrev hk : PySem.W.Hook := He.hookX 4 fas fns tss tfs exs
def ob (s : PySem.W.SharedT) : He.AlX := He.obsX 4 fas fns tss tfs exs (HandSHeadRun.getT s)
theorem ob_eq (s : PySem.W.SharedT) : ob s = hk.obs s.abs := He.obsX_eq (HandSHeadRun.getT_eq s)
def loose0 : List Str := ["_wall", "WorldError", "BadCells", "BadKind", "BadEar", "BadCount", "MOST_NUMBER", "BOXES", "LEAST_CELLS", "MOST_CELLS", "MOST_EAR", "PLAIN", "OWN", "OWN_ORDER", "is_number", "is_part", "is_row", "is_thing", "need_cells", "need_kind", "need_ear", "need_count", "worth", "is_caught", "OWN_ROW", "BEYOND", "NO_ROW", "ALARM", "CALL", "GOES_TO"]
def loose1 : List Str := ["KEPT", "WORDS", "State", "MOST_STEPS", "Body", "Machine", "_law_start", "_law_drawn", "_law_same", "_law_number", "_law_row", "_law_any", "_law_ruler", "_law_cells", "_law_kind", "_law_ear", "_law_machine", "_law_bundle", "_law_worth", "_law_caught", "_law_plain", "_law_high", "_law_low", "_law_counts", "_law_own", "_law_step", "_law_goes", "_law_begin"]
def loose : List Str := loose0 ++ (loose1)
theorem run0 (w : World) : HandSHeadRun.RunEq RR (PySem.W.view RR.prog [63]) hk ob 9000 loose (w.withFollow "special-get-raises" false) := by
  intro os; kernel_rfl
theorem run1 (w : World) : HandSHeadRun.RunEq RR (PySem.W.view RR.prog [63]) hk ob 9000 loose (w.withFollow "special-get-raises" true) := by
  intro os; kernel_rfl
theorem run (w : World) : HandSHeadRun.RunEq RR (PySem.W.view RR.prog [63]) hk ob 9000 loose w :=
  PySem.W.byRow2 "special-get-raises" (P := fun w => HandSHeadRun.RunEq RR (PySem.W.view RR.prog [63]) hk ob 9000 loose w) run0 run1 w
end L3
/-! L3: values with tuples as trees, a heap of lists, dicts and instances, over HandS. -/
namespace L3
open PySem PySem.Spec PyProof.Rows L2

/-- the function object of a lambda, its cells captured -/
def LamO (f : Addr) (k : LamC) (cl : List (Str × Addr)) (c' : Addr) (dV : Value) : HO := .ext fun h => ∃ (od : Option Addr) (sl : Array (Option Value)) (doc pm ctv : Value), h.get? f = some (⟨.type "function", od, .func (PySem.W.kdv_fn "<lambda>" k.qual k.params (.expr k.body) k.scope cl dV doc pm (.ref c') ctv), sl⟩ : Obj)
def DfO (T : Addr) (u : Value) : HO := .ext fun h => h.get? T = some (PySem.W.kdv_tup [u])
def LamAt (H : Hp) (f : Addr) (k : LamC) (cl : List (Str × Addr)) : Prop := ∃ (c' : Addr) (dV : Value), H f = some (LamO f k cl c' dV) ∧ H c' = some (LamX.CodeO c' k.qual) ∧ ((dV = .none ∧ k.params.defaults = []) ∨ ∃ T u, dV = .ref T ∧ RelV (.int 0) u ∧ H T = some (DfO T u) ∧ k.params.defaults ≠ [])
/-- what stands at a tracked address -/
inductive DO where
  | lst (xs : List D)
  | ins (c : String) (fs : List (String × D))
  | dct (kvs : List (Key × D))
  | fdc (kvs : List (Key × D))
  | tbl (p : Str × Option Str) (q : Str)
  | xd (fs : List (String × D))
abbrev DH := Addr → Option DO
def up (H : DH) (a : Addr) (o : DO) : DH := fun b => if b = a then some o else H b
theorem up_same {H : DH} {a : Addr} {o : DO} : up H a o a = some o := by unfold up; rw [if_pos rfl]
theorem up_ne {H : DH} {a b : Addr} {o : DO} (h : b ≠ a) : up H a o b = H b := by unfold up; rw [if_neg h]
theorem up_up {H : DH} {a : Addr} {o u : DO} : up (up H a o) a u = up H a u := by funext b; unfold up; split <;> rfl
theorem up_comm {H : DH} {a b : Addr} {o u : DO} (h : a ≠ b) : up (up H a o) b u = up (up H b u) a o := by
  funext c; unfold up; split
  · rename_i e; subst e; rw [if_neg (Ne.symm h)]
  · rfl
theorem D.ne_of {H : DH} {a b : Addr} {o : DO} (h : H a = some o) (h' : H b = none) : a ≠ b := by
  intro e; subst e; rw [h] at h'; cases h'

abbrev DQ := D → DH → Prop
abbrev DX := String → D → DH → Prop
abbrev DSt := List (Option D)
abbrev TED := DSt → DH → DX → DQ → Prop
abbrev TAD := DSt → DH → DX → (List D → DH → Prop) → Prop
abbrev TTD := DSt → DH → DX → (Bool → DH → Prop) → Prop
structure DEnds where
  nx : DSt → DH → Prop
  rt : DQ
  xx : DX
  bk : DSt → DH → Prop := fun _ _ => False
  ct : DSt → DH → Prop := fun _ _ => False
abbrev TSD := DEnds → DSt → DH → Prop
/-- a def's promise -/
abbrev DSp := List D → DH → DQ → DX → Prop

/-- a promise, held shut while one walks -/
inductive Ir (sp : DSp) (ds : List D) (G : DH) (Q : DQ) (X : DX) : Prop where
  | mk (h : sp ds G Q X) : Ir sp ds G Q X
theorem Ir_i {sp : DSp} {ds : List D} {G : DH} {Q : DQ} {X : DX} (h : sp ds G Q X) : Ir sp ds G Q X := .mk h
theorem Ir_e {sp : DSp} {ds : List D} {G : DH} {Q : DQ} {X : DX} (h : Ir sp ds G Q X) : sp ds G Q X := by cases h; assumption
/-- a list that is never written -/
def RdL (K : PySem.W.Frag) (H : Hp) (a : Addr) (xs : List V) : Prop :=
  (∃ o, H a = some (.frz o (.lst xs))) ∨
    ∃ (o : Obj) (its : Array Value) (n : Nat), K.lookup a = some o ∧ o.cls = .type "list" ∧ o.dict = none ∧ o.data = .seq its n ∧ its.size ≤ sizeLine ∧ Vals xs its.toList
/-- a list of the top, as it was made there -/
def WrL (K : PySem.W.Frag) (a : Addr) (xs : List V) : Prop := ∃ (its : Array Value) (n : Nat), K.lookup a = some { cls := .type "list", dict := none, data := .seq its n, slots := #[] } ∧ its.size ≤ sizeLine ∧ Vals xs its.toList
theorem RdL.sq {K : PySem.W.Frag} {H : Hp} {a : Addr} {xs : List V} (h : RdL K H a xs) : SqL K H a xs := h.elim (fun z => .inl (.inr z)) .inr

mutual
inductive Rep (K : PySem.W.Frag) (mg : Str → Option Value) (H : Hp) : V → D → Prop
  | non : Rep K mg H .non .non
  | bl (b : Bool) : Rep K mg H (.bl b) (.bl b)
  | int (i : Int) : Rep K mg H (.int i) (.int i)
  | str (x : Str) : Rep K mg H (.str x) (.str x)
  | tup {a : Addr} {xs : List V} {ds : List D} : SqT K H a xs → RepL K mg H xs ds → Rep K mg H (.ref a) (.tup ds)
  | ref (a : Addr) : Rep K mg H (.ref a) (.ref a)
  | gl {a : Addr} {x : String} : mg (x : Str) = some (.ref a) → Rep K mg H (.ref a) (.gl x)
  | rl {a : Addr} {xs : List V} {ds : List D} : RdL K H a xs → RepL K mg H xs ds → Rep K mg H (.ref a) (.rl ds)
  | wl {a : Addr} {xs : List V} {ds : List D} : WrL K a xs → RepL K mg H xs ds → Rep K mg H (.ref a) (.wl ds)
  | fn {f : Addr} {k : LamC} {cl : List (Str × Addr)} {vs : List V} {ds : List D} : LamAt H f k cl → RepL K mg H vs ds → Rep K mg H (.ref f) (.fn k cl vs ds)
inductive RepL (K : PySem.W.Frag) (mg : Str → Option Value) (H : Hp) : List V → List D → Prop
  | nil : RepL K mg H [] []
  | cons {v : V} {vs : List V} {d : D} {ds : List D} : Rep K mg H v d → RepL K mg H vs ds → RepL K mg H (v :: vs) (d :: ds)
end

/-- tuples and what is frozen stay -/
structure Ext (H H' : Hp) : Prop where
  tup : ∀ b xs, H b = some (.tup xs) → H' b = some (.tup xs)
  frz : ∀ b o u, H b = some (.frz o u) → H' b = some (.frz o u)
  ext : ∀ b p, H b = some (.ext p) → H' b = some (.ext p)
theorem Ext.refl (H : Hp) : Ext H H := ⟨fun _ _ h => h, fun _ _ _ h => h, fun _ _ h => h⟩
theorem Ext.trans {H H1 H2 : Hp} (a : Ext H H1) (b : Ext H1 H2) : Ext H H2 := ⟨fun _ _ h => b.tup _ _ (a.tup _ _ h), fun _ _ _ h => b.frz _ _ _ (a.frz _ _ _ h), fun _ _ h => b.ext _ _ (a.ext _ _ h)⟩
theorem Ext.new {H : Hp} {p : Addr} {o : HO} (h : H p = none) : Ext H (upd H p o) :=
  ⟨fun b xs e => by rw [upd_ne (ne_of_none e h)]; exact e, fun b u xs e => by rw [upd_ne (ne_of_none e h)]; exact e, fun b u e => by rw [upd_ne (ne_of_none e h)]; exact e⟩
theorem Ext.set {H : Hp} {p : Addr} {o u : HO} (h : H p = some u) (n1 : ∀ xs, u ≠ .tup xs) (n2 : ∀ o v, u ≠ .frz o v) (n3 : ∀ v, u ≠ .ext v) : Ext H (upd H p o) :=
  ⟨fun b xs e => by rw [upd_ne (L2.ne_of e h (fun z => n1 _ z.symm))]; exact e, fun b w xs e => by rw [upd_ne (L2.ne_of e h (fun z => n2 _ _ z.symm))]; exact e, fun b w e => by rw [upd_ne (L2.ne_of e h (fun z => n3 _ z.symm))]; exact e⟩
theorem Ext.lst {H : Hp} {p : Addr} {o : HO} {xs : List V} (h : H p = some (.lst xs)) : Ext H (upd H p o) := .set h (fun _ z => nomatch z) (fun _ _ z => nomatch z) (fun _ z => nomatch z)
theorem Ext.ins {H : Hp} {p C dx : Addr} {o : HO} {xs : List (Str × V)} (h : H p = some (.ins C dx xs)) : Ext H (upd H p o) := .set h (fun _ z => nomatch z) (fun _ _ z => nomatch z) (fun _ z => nomatch z)
theorem Ext.dct {H : Hp} {p : Addr} {o : HO} {xs : List (Key × V)} (h : H p = some (.dK xs)) : Ext H (upd H p o) := .set h (fun _ z => nomatch z) (fun _ _ z => nomatch z) (fun _ z => nomatch z)

theorem sqT_ext {K : PySem.W.Frag} {H H' : Hp} {a : Addr} {xs : List V} (e : Ext H H') (h : SqT K H a xs) : SqT K H' a xs := by
  rcases h with (h | ⟨o, h⟩) | h
  · exact .inl (.inl (e.tup _ _ h))
  · exact .inl (.inr ⟨o, e.frz _ _ _ h⟩)
  · exact .inr h
theorem rdL_ext {K : PySem.W.Frag} {H H' : Hp} {a : Addr} {xs : List V} (e : Ext H H') (h : RdL K H a xs) : RdL K H' a xs := by
  rcases h with ⟨o, h⟩ | h
  · exact .inl ⟨o, e.frz _ _ _ h⟩
  · exact .inr h

theorem lamAt_ext {H H' : Hp} {f : Addr} {k : LamC} {cl : List (Str × Addr)} (e : Ext H H') (h : LamAt H f k cl) : LamAt H' f k cl := by
  obtain ⟨c', dV, h1, h2, h3⟩ := h
  refine ⟨c', dV, e.ext _ _ h1, e.ext _ _ h2, ?_⟩
  rcases h3 with h3 | ⟨T, u, h3, h4, h5⟩
  · exact .inl h3
  · exact .inr ⟨T, u, h3, h4, e.ext _ _ h5.1, h5.2⟩
section
variable {K : PySem.W.Frag} {mg : Str → Option Value} {H H' : Hp}
mutual
theorem Rep.ext (e : Ext H H') : ∀ {v : V} {d : D}, Rep K mg H v d → Rep K mg H' v d
  | _, _, .non => .non
  | _, _, .bl b => .bl b
  | _, _, .int i => .int i
  | _, _, .str x => .str x
  | _, _, .tup h r => .tup (sqT_ext e h) (RepL.ext e r)
  | _, _, .ref a => .ref a
  | _, _, .gl h => .gl h
  | _, _, .rl h r => .rl (rdL_ext e h) (RepL.ext e r)
  | _, _, .wl h r => .wl h (RepL.ext e r)
  | _, _, .fn h r => .fn (lamAt_ext e h) (RepL.ext e r)
theorem RepL.ext (e : Ext H H') : ∀ {vs : List V} {ds : List D}, RepL K mg H vs ds → RepL K mg H' vs ds
  | _, _, .nil => .nil
  | _, _, .cons a b => .cons (Rep.ext e a) (RepL.ext e b)
end
theorem RepL.length : ∀ {vs : List V} {ds : List D}, RepL K mg H vs ds → vs.length = ds.length
  | _, _, .nil => rfl
  | _, _, .cons _ b => congrArg (· + 1) (RepL.length b)
theorem RepL.append : ∀ {vs ws : List V} {ds es : List D}, RepL K mg H vs ds → RepL K mg H ws es → RepL K mg H (vs ++ ws) (ds ++ es)
  | _, _, _, _, .nil, h => h
  | _, _, _, _, .cons a b, h => .cons a (RepL.append b h)
theorem RepL.get : ∀ {vs : List V} {ds : List D} {i : Nat} {d : D}, RepL K mg H vs ds → ds[i]? = some d → ∃ v, vs[i]? = some v ∧ Rep K mg H v d
  | _, _, _, _, .nil, e => by simp at e
  | _, _, 0, _, .cons a _, e => by simp at e; subst e; exact ⟨_, rfl, a⟩
  | _, _, i + 1, d, .cons _ b, e => by
    obtain ⟨v, h1, h2⟩ := RepL.get (i := i) (d := d) b (by simpa using e)
    exact ⟨v, by simpa using h1, h2⟩
theorem RepL.get' : ∀ {vs : List V} {ds : List D} {i : Nat} {v : V}, RepL K mg H vs ds → vs[i]? = some v → ∃ d, ds[i]? = some d ∧ Rep K mg H v d
  | _, _, _, _, .nil, e => by simp at e
  | _, _, 0, _, .cons a _, e => by simp at e; subst e; exact ⟨_, rfl, a⟩
  | _, _, i + 1, d, .cons _ b, e => by
    obtain ⟨v, h1, h2⟩ := RepL.get' (i := i) (v := d) b (by simpa using e)
    exact ⟨v, by simpa using h1, h2⟩
theorem RepL.set {v : V} {d : D} (r : Rep K mg H v d) : ∀ {vs : List V} {ds : List D} (i : Nat), RepL K mg H vs ds → RepL K mg H (vs.set i v) (ds.set i d)
  | _, _, _, .nil => .nil
  | _, _, 0, .cons _ b => .cons r b
  | _, _, i + 1, .cons a b => .cons a (RepL.set r i b)
theorem RepL.take : ∀ {vs : List V} {ds : List D} (n : Nat), RepL K mg H vs ds → RepL K mg H (vs.take n) (ds.take n)
  | _, _, 0, _ => .nil
  | _, _, _ + 1, .nil => .nil
  | _, _, n + 1, .cons a b => .cons a (RepL.take n b)
theorem RepL.drop : ∀ {vs : List V} {ds : List D} (n : Nat), RepL K mg H vs ds → RepL K mg H (vs.drop n) (ds.drop n)
  | _, _, 0, r => r
  | _, _, _ + 1, .nil => .nil
  | _, _, n + 1, .cons _ b => RepL.drop n b
theorem RepL.eraseIdx : ∀ {vs : List V} {ds : List D} (n : Nat), RepL K mg H vs ds → RepL K mg H (vs.eraseIdx n) (ds.eraseIdx n)
  | _, _, _, .nil => .nil
  | _, _, 0, .cons _ b => b
  | _, _, n + 1, .cons a b => .cons a (RepL.eraseIdx n b)
theorem RepL.reverse {vs : List V} {ds : List D} (r : RepL K mg H vs ds) : RepL K mg H vs.reverse ds.reverse := by
  have core : ∀ {vs ws : List V} {ds es : List D}, RepL K mg H vs ds → RepL K mg H ws es → RepL K mg H (vs.reverseAux ws) (ds.reverseAux es) := by
    intro vs
    induction vs with
    | nil => intro ws ds es a b; cases a; exact b
    | cons v vs ih => intro ws ds es a b; cases a with | cons a1 a2 => have q := ih a2 (RepL.cons a1 b); exact q
  exact core r .nil
theorem RepL.rep {vs : List V} {ds : List D} (r : RepL K mg H vs ds) : ∀ n : Nat, RepL K mg H (List.replicate n vs).flatten (List.replicate n ds).flatten
  | 0 => .nil
  | n + 1 => by
    rw [List.replicate_succ, List.replicate_succ, List.flatten_cons, List.flatten_cons]
    exact r.append (RepL.rep r n)
theorem RepL.snoc {vs : List V} {ds : List D} {v : V} {d : D} (r : RepL K mg H vs ds) (h : Rep K mg H v d) : RepL K mg H (vs ++ [v]) (ds ++ [d]) := r.append (.cons h .nil)
theorem RepL.ints : ∀ ns : List Int, RepL K mg H (ns.map V.int) (ns.map D.int)
  | [] => .nil
  | n :: ns => .cons (.int n) (RepL.ints ns)
end

/-- fields -/
inductive FRep (K : PySem.W.Frag) (mg : Str → Option Value) (H : Hp) : List (Str × V) → List (String × D) → Prop
  | nil : FRep K mg H [] []
  | cons {v : V} {d : D} {x : String} {vs : List (Str × V)} {ds : List (String × D)} : Rep K mg H v d → FRep K mg H vs ds → FRep K mg H (((x : Str), v) :: vs) ((x, d) :: ds)
inductive KRep (K : PySem.W.Frag) (mg : Str → Option Value) (H : Hp) : List (Key × V) → List (Key × D) → Prop
  | nil : KRep K mg H [] []
  | cons {v : V} {d : D} {k : Key} {vs : List (Key × V)} {ds : List (Key × D)} : Rep K mg H v d → KRep K mg H vs ds → KRep K mg H ((k, v) :: vs) ((k, d) :: ds)
section
variable {K : PySem.W.Frag} {mg : Str → Option Value} {H H' : Hp}
theorem FRep.ext (e : Ext H H') : ∀ {vs : List (Str × V)} {ds : List (String × D)}, FRep K mg H vs ds → FRep K mg H' vs ds
  | _, _, .nil => .nil
  | _, _, .cons a b => .cons (a.ext e) (FRep.ext e b)
theorem KRep.ext (e : Ext H H') : ∀ {vs : List (Key × V)} {ds : List (Key × D)}, KRep K mg H vs ds → KRep K mg H' vs ds
  | _, _, .nil => .nil
  | _, _, .cons a b => .cons (a.ext e) (KRep.ext e b)
theorem ofStr_inj {a b : String} (h : (a : Str) = (b : Str)) : a = b := by
  rw [Str.ofString_eq_toList, Str.ofString_eq_toList] at h
  injection h with h
  have h2 : a.toList.map Char.toNat = b.toList.map Char.toNat := by simpa using h
  have h3 : a.toList = b.toList := by
    refine (List.map_inj_right ?_).mp h2
    intro x y e
    exact Char.toNat_inj.mp e
  exact String.toList_inj.mp h3
@[simp] theorem ofStr_eq (a b : String) : ((a : Str) = (b : Str)) = (a = b) := propext ⟨ofStr_inj, fun h => by rw [h]⟩
theorem FRep.lookup {f : String} : ∀ {vs : List (Str × V)} {ds : List (String × D)} {d : D}, FRep K mg H vs ds → ds.lookup f = some d → ∃ v, vs.lookup (f : Str) = some v ∧ Rep K mg H v d
  | _, _, _, .nil, e => by simp at e
  | _, _, d, .cons (x := x) a b, e => by
    by_cases h : f = x
    · subst h
      simp [List.lookup] at e
      subst e
      exact ⟨_, by simp [List.lookup], a⟩
    · have h1 : (f == x) = false := by simpa using h
      have h2 : ((f : Str) == (x : Str)) = false := by simpa using h
      simp only [List.lookup, h1] at e
      obtain ⟨v, e1, e2⟩ := FRep.lookup b e
      exact ⟨v, by simp only [List.lookup, h2]; exact e1, e2⟩
theorem FRep.none {f : String} : ∀ {vs : List (Str × V)} {ds : List (String × D)}, FRep K mg H vs ds → ds.lookup f = none → vs.lookup (f : Str) = none
  | _, _, .nil, e => rfl
  | _, _, .cons (x := x) a b, e => by
    by_cases h : f = x
    · subst h
      simp [List.lookup] at e
    · have h1 : (f == x) = false := by simpa using h
      have h2 : ((f : Str) == (x : Str)) = false := by simpa using h
      simp only [List.lookup, h1] at e
      simp only [List.lookup, h2]
      exact FRep.none b e
theorem FRep.length : ∀ {vs : List (Str × V)} {ds : List (String × D)}, FRep K mg H vs ds → vs.length = ds.length
  | _, _, .nil => rfl
  | _, _, .cons _ b => congrArg (· + 1) (FRep.length b)
end
/-- a field is stored: in its place, or behind all -/
def putD (f : String) (v : D) : List (String × D) → List (String × D)
  | [] => [(f, v)]
  | (g, u) :: r => if g = f then (g, v) :: r else (g, u) :: putD f v r
theorem lookup_putD (f g : String) (v : D) : ∀ fs : List (String × D), (putD f v fs).lookup g = if g = f then some v else fs.lookup g
  | [] => by
    by_cases h : g = f
    · subst h; simp [putD, List.lookup]
    · have h1 : (g == f) = false := by simpa using h
      simp [putD, List.lookup, h, h1]
  | (x, u) :: r => by
    show List.lookup g (if x = f then (x, v) :: r else (x, u) :: putD f v r) = _
    by_cases h : x = f
    · subst h
      rw [if_pos rfl]
      by_cases h2 : g = x
      · subst h2; simp [List.lookup]
      · have h1 : (g == x) = false := by simpa using h2
        simp [List.lookup, h2, h1]
    · rw [if_neg h]
      by_cases h2 : g = x
      · subst h2; simp [List.lookup, h]
      · have h1 : (g == x) = false := by simpa using h2
        simp only [List.lookup, h1]
        exact lookup_putD f g v r
theorem length_putD (f : String) (v : D) : ∀ fs : List (String × D), (putD f v fs).length ≤ fs.length + 1
  | [] => by simp [putD]
  | (x, u) :: r => by
    show (if x = f then (x, v) :: r else (x, u) :: putD f v r).length ≤ _
    split
    · simp
    · have := length_putD f v r; simp; omega
theorem FRep.put {K : PySem.W.Frag} {mg : Str → Option Value} {H : Hp} {f : String} {v : V} {d : D} (r : Rep K mg H v d) : ∀ {vs : List (Str × V)} {ds : List (String × D)}, FRep K mg H vs ds → FRep K mg H (putF (f : Str) v vs) (putD f d ds)
  | _, _, .nil => .cons r .nil
  | _, _, .cons (x := x) a b => by
    show FRep K mg H (if (x : Str) = (f : Str) then _ else _) (if x = f then _ else _)
    by_cases h : x = f
    · rw [if_pos h, if_pos (by rw [h])]
      exact .cons r b
    · rw [if_neg h, if_neg (fun z => h (ofStr_inj z))]
      exact .cons a (FRep.put r b)

def fldOk (c f : String) : Bool := (fieldsOf c).contains f
def FldAll (c : String) (fs : List (String × D)) : Prop := ∀ f v, fs.lookup f = some v → fldOk c f = true
/-- what stands at a tracked address -/
def ObjRep (K : PySem.W.Frag) (mg : Str → Option Value) (H : Hp) (a : Addr) : DO → Prop
  | .lst ds => ∃ xs, H a = some (.lst xs) ∧ RepL K mg H xs ds
  | .ins c fs => ∃ C dx vs, mg (c : Str) = some (.ref C) ∧ H a = some (.ins C dx vs) ∧ FRep K mg H vs fs ∧ FldAll c fs ∧ fs.length ≤ 40
  | .dct kvs => ∃ ws, H a = some (.dK ws) ∧ KRep K mg H ws kvs
  | .fdc kvs => ∃ o ws, H a = some (.frz o (.dK ws)) ∧ KRep K mg H ws kvs
  | .tbl p q => a = (He.cT K p).2 ∧ LamX.TabS H a q
  | .xd fs => ∃ vs, H a = some (.xd vs) ∧ FRep K mg H vs fs
def Abs (K : PySem.W.Frag) (mg : Str → Option Value) (DH_ : DH) (H : Hp) : Prop := ∀ a o, DH_ a = some o → ObjRep K mg H a o
section
variable {K : PySem.W.Frag} {mg : Str → Option Value} {H H' : Hp} {G : DH} {p : Addr} {o : DO} {ho : HO}
theorem Abs.there (A : Abs K mg G H) (h : G p = some o) : ∃ u, H p = some u := by
  have z := A p o h
  cases o with
  | lst _ => obtain ⟨_, e, _⟩ := z; exact ⟨_, e⟩
  | ins _ _ => obtain ⟨_, _, _, _, e, _⟩ := z; exact ⟨_, e⟩
  | dct _ => obtain ⟨_, e, _⟩ := z; exact ⟨_, e⟩
  | fdc _ => obtain ⟨_, _, e, _⟩ := z; exact ⟨_, e⟩
  | tbl _ _ => obtain ⟨_, _, e, _⟩ := z; exact ⟨_, e⟩
  | xd _ => obtain ⟨_, e, _⟩ := z; exact ⟨_, e⟩
theorem Abs.none (A : Abs K mg G H) (h : H p = none) : G p = none := by
  cases e : G p with
  | none => rfl
  | some o => obtain ⟨u, z⟩ := A.there e; rw [h] at z; cases z
theorem ObjRep.ext (e : Ext H H') (k : H' p = H p) (z : ObjRep K mg H p o) : ObjRep K mg H' p o := by
  cases o with
  | lst _ => obtain ⟨xs, e1, e2⟩ := z; exact ⟨xs, k.trans e1, e2.ext e⟩
  | ins _ _ => obtain ⟨C, dx, vs, e0, e1, e2, e3⟩ := z; exact ⟨C, dx, vs, e0, k.trans e1, e2.ext e, e3⟩
  | dct _ => obtain ⟨xs, e1, e2⟩ := z; exact ⟨xs, k.trans e1, e2.ext e⟩
  | fdc _ => obtain ⟨o, xs, e1, e2⟩ := z; exact ⟨o, xs, k.trans e1, e2.ext e⟩
  | tbl _ _ => obtain ⟨e0, ps, e1, e2, e3⟩ := z; exact ⟨e0, ps, k.trans e1, e2, fun pos cv hc => by obtain ⟨c, h1, h2⟩ := e3 pos cv hc; exact ⟨c, h1, e.ext _ _ h2⟩⟩
  | xd _ => obtain ⟨xs, e1, e2⟩ := z; exact ⟨xs, k.trans e1, e2.ext e⟩
/-- one object is laid or changed -/
theorem Abs.upd (A : Abs K mg G H) (e : Ext H (upd H p ho)) (z : ObjRep K mg (L2.upd H p ho) p o) : Abs K mg (up G p o) (L2.upd H p ho) := fun a u h => by
  by_cases q : a = p
  · subst q; rw [up_same] at h; cases h; exact z
  · rw [up_ne q] at h
    exact (A a u h).ext e (upd_ne q)
/-- a new thing is laid that isn't tracked here (a tuple) -/
theorem Abs.keep (A : Abs K mg G H) (h : H p = Option.none) : Abs K mg G (L2.upd H p ho) := fun a u q => by
  obtain ⟨v, z⟩ := A.there q
  exact (A a u q).ext (.new h) (upd_ne (ne_of_none z h))
theorem Abs.newL {xs : List V} {ds : List D} (A : Abs K mg G H) (h : H p = Option.none) (z : RepL K mg H xs ds) : Abs K mg (up G p (.lst ds)) (L2.upd H p (.lst xs)) :=
  A.upd (.new h) (show ObjRep K mg _ p (.lst ds) from ⟨xs, upd_same, z.ext (.new h)⟩)
theorem Abs.setL {xs ys : List V} {ds : List D} (A : Abs K mg G H) (h : H p = some (.lst ys)) (z : RepL K mg H xs ds) : Abs K mg (up G p (.lst ds)) (L2.upd H p (.lst xs)) :=
  A.upd (.lst h) (show ObjRep K mg _ p (.lst ds) from ⟨xs, upd_same, z.ext (.lst h)⟩)
theorem Abs.newD {xs : List (Key × V)} {ds : List (Key × D)} (A : Abs K mg G H) (h : H p = Option.none) (z : KRep K mg H xs ds) : Abs K mg (up G p (.dct ds)) (L2.upd H p (.dK xs)) :=
  A.upd (.new h) (show ObjRep K mg _ p (.dct ds) from ⟨xs, upd_same, z.ext (.new h)⟩)
theorem Abs.setD {xs ys : List (Key × V)} {ds : List (Key × D)} (A : Abs K mg G H) (h : H p = some (.dK ys)) (z : KRep K mg H xs ds) : Abs K mg (up G p (.dct ds)) (L2.upd H p (.dK xs)) :=
  A.upd (.dct h) (show ObjRep K mg _ p (.dct ds) from ⟨xs, upd_same, z.ext (.dct h)⟩)
theorem Abs.new (A : Abs K mg G H) (h : H p = Option.none) (z : ObjRep K mg (L2.upd H p ho) p o) : Abs K mg (up G p o) (L2.upd H p ho) := A.upd (.new h) z
end

/-- slots -/
inductive StRep (K : PySem.W.Frag) (mg : Str → Option Value) (H : Hp) : L2.St → DSt → Prop
  | nil : StRep K mg H [] []
  | none {v : Option V} {σ : L2.St} {τ : DSt} : StRep K mg H σ τ → StRep K mg H (v :: σ) (Option.none :: τ)
  | some {v : V} {d : D} {σ : L2.St} {τ : DSt} : Rep K mg H v d → StRep K mg H σ τ → StRep K mg H (Option.some v :: σ) (Option.some d :: τ)
section
variable {K : PySem.W.Frag} {mg : Str → Option Value} {H H' : Hp}
theorem StRep.ext (e : Ext H H') : ∀ {σ : L2.St} {τ : DSt}, StRep K mg H σ τ → StRep K mg H' σ τ
  | _, _, .nil => .nil
  | _, _, .none b => .none (StRep.ext e b)
  | _, _, .some a b => .some (a.ext e) (StRep.ext e b)
theorem StRep.get : ∀ {σ : L2.St} {τ : DSt} {i : Nat} {d : D}, StRep K mg H σ τ → τ[i]? = Option.some (Option.some d) → ∃ v, σ[i]? = Option.some (Option.some v) ∧ Rep K mg H v d
  | _, _, _, _, .nil, e => by simp at e
  | _, _, 0, _, .none _, e => by simp at e
  | _, _, 0, _, .some a _, e => by simp at e; subst e; exact ⟨_, rfl, a⟩
  | _, _, i + 1, d, .none b, e => by
    obtain ⟨v, h1, h2⟩ := StRep.get (i := i) (d := d) b (by simpa using e)
    exact ⟨v, by simpa using h1, h2⟩
  | _, _, i + 1, d, .some _ b, e => by
    obtain ⟨v, h1, h2⟩ := StRep.get (i := i) (d := d) b (by simpa using e)
    exact ⟨v, by simpa using h1, h2⟩
theorem StRep.set {v : V} {d : D} (r : Rep K mg H v d) : ∀ {σ : L2.St} {τ : DSt} (i : Nat), StRep K mg H σ τ → StRep K mg H (σ.set i (Option.some v)) (τ.set i (Option.some d))
  | _, _, _, .nil => .nil
  | _, _, 0, .none b => .some r b
  | _, _, 0, .some _ b => .some r b
  | _, _, i + 1, .none b => .none (StRep.set r i b)
  | _, _, i + 1, .some a b => .some a (StRep.set r i b)
theorem StRep.start : ∀ {vs : List V} {ds : List D} (n : Nat), RepL K mg H vs ds → StRep K mg H (vs.map Option.some ++ List.replicate n Option.none) (ds.map Option.some ++ List.replicate n Option.none)
  | _, _, 0, .nil => .nil
  | _, _, n + 1, .nil => .none (StRep.start n .nil)
  | _, _, n, .cons a b => .some a (StRep.start n b)
end
end L3

namespace L3
open PySem PySem.Spec PyProof.Rows L2

/-- the one field of an own exception -/
def excField (c : String) : Option String := if c = "BadCells" then some "at" else if c = "BadText" then some "row" else none
def ExcRep (K : PySem.W.Frag) (mg : Str → Option Value) (H : Hp) (c : String) (d : D) (cls : Value) (dd : Option Addr) : Prop :=
  ∃ C, mg (c : Str) = some (.ref C) ∧ cls = .ref C ∧ ((d = .non ∧ dd = none) ∨ ∃ (f : String) (a : Addr) (v : V), excField c = some f ∧ dd = some a ∧ H a = some (.xd [((f : Str), v)]) ∧ Rep K mg H v d)
def XOk (K : PySem.W.Frag) (mg : Str → Option Value) (W : WX) (Xd : DX) (σ : L2.St) (H : Hp) : Prop :=
  ∀ c d G' cls dd H', Ext H H' → Abs K mg G' H' → ExcRep K mg H' c d cls dd → Xd c d G' → W cls dd σ H'
theorem XOk.ext {K : PySem.W.Frag} {mg : Str → Option Value} {W : WX} {Xd : DX} {σ : L2.St} {H H' : Hp} (h : XOk K mg W Xd σ H) (e : Ext H H') : XOk K mg W Xd σ H' :=
  fun c d G' cls dd H2 e2 a r x => h c d G' cls dd H2 (e.trans e2) a r x

def liftE (K : PySem.W.Frag) (mg : Str → Option Value) (W : WX) (td : TED) : TE := fun σ H Q =>
  ∃ τ G Xd Qd, StRep K mg H σ τ ∧ Abs K mg G H ∧ td τ G Xd Qd ∧ (∀ d G' v H', Ext H H' → Rep K mg H' v d → Abs K mg G' H' → Qd d G' → Q v H') ∧ XOk K mg W Xd σ H
def liftA (K : PySem.W.Frag) (mg : Str → Option Value) (W : WX) (td : TAD) : TA := fun σ H Q =>
  ∃ τ G Xd Qd, StRep K mg H σ τ ∧ Abs K mg G H ∧ td τ G Xd Qd ∧ (∀ ds G' vs H', Ext H H' → RepL K mg H' vs ds → Abs K mg G' H' → Qd ds G' → Q vs H') ∧ XOk K mg W Xd σ H
def liftT (K : PySem.W.Frag) (mg : Str → Option Value) (W : WX) (td : TTD) : TT := fun σ H Q =>
  ∃ τ G Xd Qd, StRep K mg H σ τ ∧ Abs K mg G H ∧ td τ G Xd Qd ∧ (∀ b G' H', Ext H H' → Abs K mg G' H' → Qd b G' → Q b H') ∧ XOk K mg W Xd σ H
structure EndsOk (K : PySem.W.Frag) (mg : Str → Option Value) (W : WX) (H : Hp) (D_ : Ends) (Dd : DEnds) : Prop where
  nx : ∀ τ' G' σ' H', Ext H H' → StRep K mg H' σ' τ' → Abs K mg G' H' → Dd.nx τ' G' → D_.nx σ' H'
  rt : ∀ d G' v H', Ext H H' → Rep K mg H' v d → Abs K mg G' H' → Dd.rt d G' → D_.rt v H'
  bk : ∀ τ' G' σ' H', Ext H H' → StRep K mg H' σ' τ' → Abs K mg G' H' → Dd.bk τ' G' → D_.bk σ' H'
  ct : ∀ τ' G' σ' H', Ext H H' → StRep K mg H' σ' τ' → Abs K mg G' H' → Dd.ct τ' G' → D_.ct σ' H'
  xx : ∀ σ', XOk K mg W Dd.xx σ' H
theorem EndsOk.ext {K : PySem.W.Frag} {mg : Str → Option Value} {W : WX} {H H' : Hp} {D_ : Ends} {Dd : DEnds} (h : EndsOk K mg W H D_ Dd) (e : Ext H H') : EndsOk K mg W H' D_ Dd :=
  ⟨fun _ _ _ _ q => h.nx _ _ _ _ (e.trans q), fun _ _ _ _ q => h.rt _ _ _ _ (e.trans q), fun _ _ _ _ q => h.bk _ _ _ _ (e.trans q), fun _ _ _ _ q => h.ct _ _ _ _ (e.trans q), fun σ' => (h.xx σ').ext e⟩
def liftS (K : PySem.W.Frag) (mg : Str → Option Value) (W : WX) (td : TSD) : TS := fun D_ σ H =>
  ∃ τ G Dd, StRep K mg H σ τ ∧ Abs K mg G H ∧ td Dd τ G ∧ EndsOk K mg W H D_ Dd
def liftSp (K : PySem.W.Frag) (mg : Str → Option Value) (sp : DSp) : Sp := fun vs H Q E =>
  ∃ ds G Qd Xd, RepL K mg H vs ds ∧ Abs K mg G H ∧ sp ds G Qd Xd ∧ (∀ d G' v H', Ext H H' → Rep K mg H' v d → Abs K mg G' H' → Qd d G' → Q v H') ∧
    ∀ c d G' cls dd H', Ext H H' → Abs K mg G' H' → ExcRep K mg H' c d cls dd → Xd c d G' → E cls dd H'

section
variable {X : Cx}
theorem PE.imp {e : Expr} {t t' : TE} (h : PE X e t) (k : ∀ σ H Q, t' σ H Q → t σ H Q) : PE X e t' := ⟨fun pins s σ H Q I q => h.run pins s σ H Q I (k _ _ _ q)⟩
theorem PT.imp {e : Expr} {t t' : TT} (h : PT X e t) (k : ∀ σ H Q, t' σ H Q → t σ H Q) : PT X e t' := ⟨fun pins s σ H Q I q => h.run pins s σ H Q I (k _ _ _ q)⟩
theorem PW.imp {e : Expr} {t t' : TT} (h : PW X e t) (k : ∀ σ H Q, t' σ H Q → t σ H Q) : PW X e t' := ⟨fun w pins s σ H Q I q => h.run w pins s σ H Q I (k _ _ _ q)⟩
theorem PA.imp {e : List Expr} {t t' : TA} (h : PA X e t) (k : ∀ σ H Q, t' σ H Q → t σ H Q) : PA X e t' := ⟨fun pos pins s σ H Q I q => h.run pos pins s σ H Q I (k _ _ _ q)⟩
theorem PS.imp {e : Stmt} {t t' : TS} (h : PS X e t) (k : ∀ D_ σ H, t' D_ σ H → t D_ σ H) : PS X e t' := ⟨fun pins s σ H Q I q => h.run pins s σ H Q I (k _ _ _ q)⟩
theorem PSs.imp {e : List Stmt} {t t' : TS} (h : PSs X e t) (k : ∀ D_ σ H, t' D_ σ H → t D_ σ H) : PSs X e t' := ⟨fun pins s σ H Q I q => h.run pins s σ H Q I (k _ _ _ q)⟩
end

/-- the judgements here -/
abbrev ME (X : Cx) (W : WX) (e : Expr) (td : TED) : Prop := PE X e (liftE X.K X.mg W td)
abbrev MA (X : Cx) (W : WX) (es : List Expr) (td : TAD) : Prop := PA X es (liftA X.K X.mg W td)
abbrev MT (X : Cx) (W : WX) (e : Expr) (td : TTD) : Prop := PT X e (liftT X.K X.mg W td)
abbrev MW (X : Cx) (W : WX) (e : Expr) (td : TTD) : Prop := PW X e (liftT X.K X.mg W td)
abbrev MS (X : Cx) (W : WX) (e : Stmt) (td : TSD) : Prop := PS X e (liftS X.K X.mg W td)
abbrev MSs (X : Cx) (W : WX) (es : List Stmt) (td : TSD) : Prop := PSs X es (liftS X.K X.mg W td)

/-! ### names and constants -/
def slot (τ : DSt) (i : Nat) (Q : D → Prop) : Prop := match τ[i]? with | some (some v) => Q v | _ => False
def dVar (i : Nat) : TED := fun τ G _ Q => slot τ i fun v => Q v G
def dC (v : D) : TED := fun _ G _ Q => Q v G
theorem slot_of {τ : DSt} {i : Nat} {Q : D → Prop} (h : slot τ i Q) : ∃ v, τ[i]? = some (some v) ∧ Q v := by
  unfold slot at h
  split at h
  · rename_i v e; exact ⟨v, e, h⟩
  · exact h.elim

section
variable {X : Cx} {W : WX} {a b c : Expr} {ta tb tc : TED} {pos : Pos}
theorem m_var (i : Nat) {x : Str} (hN : X.N[i]? = some x := by rfl) (hv : Vis X.env.scope x := by first | exact Or.inl rfl | exact Or.inr (Or.inl rfl) | exact Or.inr (Or.inr rfl)) (hd : (x == ("__debug__" : Str)) = false := by decide)
    (hcd : (x == ("__classdict__" : Str)) = false := by decide) : ME X W (.Name x pos) (dVar i) := PE.imp (pe_var hN hv hd hcd) fun σ H Q ⟨τ, G, Xd, Qd, hσ, hA, h, hQ, _⟩ => by
  obtain ⟨d, e, q⟩ := slot_of h
  obtain ⟨v, e1, r⟩ := hσ.get e
  exact ⟨v, e1, hQ _ _ _ _ (.refl _) r hA q⟩
theorem m_c {e : Expr} {v : V} {d : D} (h : PE X e (tC v)) (r : ∀ H, Rep X.K X.mg H v d) : ME X W e (dC d) := PE.imp h fun σ H Q ⟨τ, G, Xd, Qd, hσ, hA, h, hQ, _⟩ => hQ _ _ _ _ (.refl _) (r H) hA h
theorem m_int {i j} : ME X W (.Constant (.int i) j pos) (dC (.int i)) := m_c pe_int fun _ => .int i
theorem m_bl {i j} : ME X W (.Constant (.bool i) j pos) (dC (.bl i)) := m_c pe_bl fun _ => .bl i
theorem m_non {j} : ME X W (.Constant .none j pos) (dC .non) := m_c pe_non fun _ => .non
theorem m_str {x j} : ME X W (.Constant (.str x) j pos) (dC (.str x)) := m_c pe_str fun _ => .str x
/-- a def or class of the module as a value -/
theorem m_gl {x : String} {f : Addr} (hm : X.mg (x : Str) = some (.ref f)) (hg : Gl X (x : Str) := by rfl) (hd : (((x : Str)) == ("__debug__" : Str)) = false := by decide) : ME X W (.Name (x : Str) pos) (dC (.gl x)) :=
  m_c (pe_glob (v := .ref f) hg hm rfl hd) fun _ => .gl hm
/-- a constant of the module: a value that stands for d wherever the written part stands -/
def Kon (K : PySem.W.Frag) (mg : Str → Option Value) (x : Str) (d : D) : Prop := ∃ v u, mg x = some u ∧ RelV v u ∧ ∀ H, Rep K mg H v d
theorem m_kon {x : Str} {d : D} (h : Kon X.K X.mg x d) (hg : Gl X x := by rfl) (hd : (x == ("__debug__" : Str)) = false := by decide) : ME X W (.Name x pos) (dC d) := by
  obtain ⟨v, u, hm, r, q⟩ := h
  exact m_c (pe_glob hg hm r hd) q

/-! ### two-place operations -/
abbrev DR2 := D → D → DH → DQ → Prop
def liftR2 (K : PySem.W.Frag) (mg : Str → Option Value) (r : DR2) : R2 := fun x y H Q =>
  ∃ d e G Qd, Rep K mg H x d ∧ Rep K mg H y e ∧ Abs K mg G H ∧ r d e G Qd ∧ ∀ d' G' v H', Ext H H' → Rep K mg H' v d' → Abs K mg G' H' → Qd d' G' → Q v H'
def dBin (r : DR2) (ta tb : TED) : TED := fun τ G X Q => ta τ G X fun x G1 => tb τ G1 X fun y G2 => r x y G2 Q
theorem lift_bin {K : PySem.W.Frag} {mg : Str → Option Value} {r : DR2} {σ : L2.St} {H : Hp} {Q : VK} (h : liftE K mg W (dBin r ta tb) σ H Q) : tOp (liftR2 K mg r) (liftE K mg W ta) (liftE K mg W tb) σ H Q := by
  obtain ⟨τ, G, Xd, Qd, hσ, hA, h, hQ, hX⟩ := h
  refine ⟨τ, G, Xd, _, hσ, hA, h, fun x G1 v H1 e1 r1 a1 h1 => ?_, hX⟩
  refine ⟨τ, G1, Xd, _, hσ.ext e1, a1, h1, fun y G2 u H2 e2 r2 a2 h2 => ?_, hX.ext e1⟩
  exact ⟨x, y, G2, Qd, r1.ext e2, r2, a2, h2, fun d' G' v' H' e' r' a' q' => hQ d' G' v' H' ((e1.trans e2).trans e') r' a' q'⟩
theorem m_op {op : Operator} {r : DR2} (ho : OpR X (binaryOp op) (liftR2 X.K X.mg r)) (ha : ME X W a ta) (hb : ME X W b tb) : ME X W (.BinOp a op b pos) (dBin r ta tb) :=
  PE.imp (pe_op ho ha hb) fun _ _ _ h => lift_bin h
theorem m_cmp {op : CmpOp} {r : DR2} (ho : OpR X (compareOp op) (liftR2 X.K X.mg r)) (ha : ME X W a ta) (hb : ME X W b tb) (hm : behindInMarks op b = false := by first | exact nomark _ | rfl) : ME X W (.Compare a [op] [b] pos) (dBin r ta tb) :=
  PE.imp (pe_cmpR ho ha hb hm) fun _ _ _ h => lift_bin h
/-- a test by the truth of a bool -/
def asB (x : D) (G : DH) (Q : Bool → DH → Prop) : Prop := match x with | .bl k => Q k G | _ => False
theorem asB_of {x : D} {G : DH} {Q : Bool → DH → Prop} (h : asB x G Q) : ∃ k, x = .bl k ∧ Q k G := by
  cases x <;> first | exact ⟨_, rfl, h⟩ | exact h.elim
theorem Rep.blv {K : PySem.W.Frag} {mg : Str → Option Value} {H : Hp} {v : V} {k : Bool} (r : Rep K mg H v (.bl k)) : v = .bl k := by cases r; rfl
theorem Rep.intv {K : PySem.W.Frag} {mg : Str → Option Value} {H : Hp} {v : V} {k : Int} (r : Rep K mg H v (.int k)) : v = .int k := by cases r; rfl
theorem Rep.strv {K : PySem.W.Frag} {mg : Str → Option Value} {H : Hp} {v : V} {k : Str} (r : Rep K mg H v (.str k)) : v = .str k := by cases r; rfl
theorem Rep.nonv {K : PySem.W.Frag} {mg : Str → Option Value} {H : Hp} {v : V} (r : Rep K mg H v .non) : v = .non := by cases r; rfl
theorem Rep.refv {K : PySem.W.Frag} {mg : Str → Option Value} {H : Hp} {v : V} {a : Addr} (r : Rep K mg H v (.ref a)) : v = .ref a := by cases r; rfl
theorem Rep.tupv {K : PySem.W.Frag} {mg : Str → Option Value} {H : Hp} {v : V} {ds : List D} (r : Rep K mg H v (.tup ds)) : ∃ a xs, v = .ref a ∧ SqT K H a xs ∧ RepL K mg H xs ds := by cases r; exact ⟨_, _, rfl, ‹_›, ‹_›⟩
theorem Rep.rlv {K : PySem.W.Frag} {mg : Str → Option Value} {H : Hp} {v : V} {ds : List D} (r : Rep K mg H v (.rl ds)) : ∃ a xs, v = .ref a ∧ RdL K H a xs ∧ RepL K mg H xs ds := by cases r; exact ⟨_, _, rfl, ‹_›, ‹_›⟩
def dT (td : TED) : TTD := fun τ G X Q => td τ G X fun x G1 => asB x G1 Q
theorem lift_T {K : PySem.W.Frag} {mg : Str → Option Value} {σ : L2.St} {H : Hp} {Q : Bool → Hp → Prop} (h : liftT K mg W (dT ta) σ H Q) : tTest (liftE K mg W ta) σ H Q := by
  obtain ⟨τ, G, Xd, Qd, hσ, hA, h, hQ, hX⟩ := h
  refine ⟨τ, G, Xd, _, hσ, hA, h, fun x G1 v H1 e1 r1 a1 h1 => ?_, hX⟩
  obtain ⟨k, rfl, q⟩ := asB_of h1
  exact ⟨k, r1.blv, hQ k G1 H1 e1 a1 q⟩
theorem m_tcmp {op : CmpOp} {r : DR2} (ho : OpR X (compareOp op) (liftR2 X.K X.mg r)) (ha : ME X W a ta) (hb : ME X W b tb) (hm : behindInMarks op b = false := by first | exact nomark _ | rfl) : MT X W (.Compare a [op] [b] pos) (dT (dBin r ta tb)) :=
  PT.imp (pt_cmpR ho ha hb hm) fun σ H Q h => by
    obtain ⟨τ, G, Xd, Qd, hσ, hA, h, hQ, hX⟩ := lift_T h
    exact lift_bin ⟨τ, G, Xd, Qd, hσ, hA, h, hQ, hX⟩
/-- a test on a value that is True or False -/
theorem m_tval (ha : ME X W a ta) (he : ∀ whole, isTrue a X.env whole = (do let v ← whole; standAt a.pos; holding [v] (truthy v)) := by intro _; rfl) : MT X W a (dT ta) :=
  PT.imp (pt_val ha he) fun σ H Q h => lift_T h
end
end L3

namespace L3
open PySem PySem.Spec PyProof.Rows L2

/-- a list to be read -/
def oLst : Option DO → Option (List D)
  | some (.lst xs) => some xs
  | _ => none
theorem oLst_some {o : Option DO} {xs : List D} (h : oLst o = some xs) : o = some (.lst xs) := by
  cases o with
  | none => cases h
  | some u => cases u <;> first | (cases h; rfl) | cases h
def lstOf (G : DH) : D → Option (List D)
  | .ref a => oLst (G a)
  | .rl xs => some xs
  | .wl xs => some xs
  | _ => none
def mutOf (G : DH) : D → Option (List D)
  | .ref a => oLst (G a)
  | _ => none
theorem mutOf_lst {G : DH} {d : D} {xs : List D} (h : mutOf G d = some xs) : ∃ a, d = .ref a ∧ G a = some (.lst xs) := by
  cases d <;> first | exact ⟨_, rfl, oLst_some h⟩ | cases h
theorem WrL.sq {K : PySem.W.Frag} {H : Hp} {a : Addr} {xs : List V} (h : WrL K a xs) : SqL K H a xs := by
  obtain ⟨its, n, h1, h2, h3⟩ := h
  exact .inr ⟨_, its, n, h1, rfl, rfl, rfl, h2, h3⟩
section
variable {K : PySem.W.Frag} {mg : Str → Option Value} {H : Hp} {G : DH}
theorem lst_at {v : V} {d : D} {ds : List D} (A : Abs K mg G H) (r : Rep K mg H v d) (h : lstOf G d = some ds) : ∃ a xs, v = .ref a ∧ SqL K H a xs ∧ RepL K mg H xs ds := by
  cases d with
  | ref a =>
    obtain ⟨zs, e1, e2⟩ := A a _ (oLst_some h)
    exact ⟨a, zs, r.refv, .of e1, e2⟩
  | rl xs =>
    cases h
    obtain ⟨a, zs, e1, e2, e3⟩ := r.rlv
    exact ⟨a, zs, e1, e2.sq, e3⟩
  | wl xs =>
    cases h
    cases r with
    | wl w rr => exact ⟨_, _, rfl, w.sq, rr⟩
  | _ => cases h
theorem mut_at {v : V} {d : D} {ds : List D} (A : Abs K mg G H) (r : Rep K mg H v d) (h : mutOf G d = some ds) : ∃ a xs, v = .ref a ∧ d = .ref a ∧ G a = some (.lst ds) ∧ H a = some (.lst xs) ∧ RepL K mg H xs ds := by
  obtain ⟨a, rfl, e⟩ := mutOf_lst h
  obtain ⟨zs, e1, e2⟩ := A a _ e
  exact ⟨a, zs, r.refv, rfl, e, e1, e2⟩
end

/-! ### sums -/
inductive onSome {α : Type} (o : Option α) (Q : α → Prop) : Prop where
  | mk (x : α) (e : o = some x) (h : Q x) : onSome o Q
theorem onSome_of {α : Type} {o : Option α} {Q : α → Prop} (h : onSome o Q) : ∃ x, o = some x ∧ Q x := by cases h; exact ⟨_, ‹_›, ‹_›⟩
theorem onSome_i {α : Type} {o : Option α} {x : α} {Q : α → Prop} (e : o = some x) (h : Q x) : onSome o Q := .mk x e h
/-- a branch -/
inductive ifB (k : Bool) (A B : Prop) : Prop where
  | yes (e : k = true) (h : A) : ifB k A B
  | no (e : k = false) (h : B) : ifB k A B
theorem ifB_true {A B : Prop} : ifB true A B = A := by
  refine propext ⟨fun h => ?_, fun h => .yes rfl h⟩
  cases h with
  | yes _ h => exact h
  | no e _ => cases e
theorem ifB_false {A B : Prop} : ifB false A B = B := by
  refine propext ⟨fun h => ?_, fun h => .no rfl h⟩
  cases h with
  | yes e _ => cases e
  | no _ h => exact h
theorem ifB_t {k : Bool} {A B : Prop} (e : k = true) (h : A) : ifB k A B := .yes e h
theorem ifB_f {k : Bool} {A B : Prop} (e : k = false) (h : B) : ifB k A B := .no e h
theorem ifB_i {k : Bool} {A B : Prop} (h : k = true → A) (g : k = false → B) : ifB k A B := by
  cases k with
  | true => exact ifB_t rfl (h rfl)
  | false => exact ifB_f rfl (g rfl)
/-- a branch by a decision -/
theorem ifB_d {p : Prop} {inst : Decidable p} {A B : Prop} (h : p → A) (g : ¬ p → B) : ifB (decide p) A B := ifB_i (fun e => h (of_decide_eq_true e)) fun e => g (of_decide_eq_false e)
theorem ifB_nd {p : Prop} {inst : Decidable p} {A B : Prop} (h : ¬ p → A) (g : p → B) : ifB (!decide p) A B := ifB_i (fun e => h (by simpa using e)) fun e => g (by simpa using e)
def rNewL (xs : List D) (G : DH) (Q : DQ) : Prop := ∀ p, G p = none → Q (.ref p) (up G p (.lst xs))
def rAddD : DR2 := fun x y G Q => match x, y with
  | .int i, .int j => Q (.int (i + j)) G
  | .str a, .str b => a.length + b.length ≤ 16777216 ∧ Q (.str (a ++ b)) G
  | .tup a, .tup b => a.length + b.length ≤ 16777216 ∧ Q (.tup (a ++ b)) G
  | .ref a, .ref b => onSome (oLst (G a)) fun xs => onSome (oLst (G b)) fun ys => xs.length + ys.length ≤ 16777216 ∧ rNewL (xs ++ ys) G Q
  | .wl xs, .ref b => onSome (oLst (G b)) fun ys => xs.length + ys.length ≤ 16777216 ∧ rNewL (xs ++ ys) G Q
  | _, _ => False
section
variable {X : Cx} {W : WX}
theorem big_line {n : Nat} (h : n ≤ 16777216) : n ≤ sizeLine := by rw [sizeLine_eq]; exact h
theorem mo_add : OpR X (binaryOp .Add) (liftR2 X.K X.mg rAddD) := by
  intro pins s σ H x y v u Q I rx ry h
  obtain ⟨d, e, G, Qd, r1, r2, A, h, hQ⟩ := h
  cases d <;> cases e <;> first
    | exact (show False from h).elim
    | skip
  · -- int int
    exact op_add pins s σ H _ _ v u Q I rx ry ⟨_, _, r1.intv, r2.intv, hQ _ _ _ _ (.refl _) (.int _) A h⟩
  · -- str str
    exact op_add_str pins s σ H _ _ v u Q I rx ry ⟨_, _, r1.strv, r2.strv, big_line h.1, hQ _ _ _ _ (.refl _) (.str _) A h.2⟩
  · -- tup tup
    obtain ⟨a, xs, rfl, t1, l1⟩ := r1.tupv
    obtain ⟨b, ys, rfl, t2, l2⟩ := r2.tupv
    have hl := h.1
    rw [← l1.length, ← l2.length] at hl
    refine op_catA pins s σ H _ _ v u Q I rx ry ⟨a, b, xs, ys, rfl, rfl, t1, t2, big_line hl, fun z => ?_, fun _ z => ?_, fun _ _ p hp => ?_⟩
    · subst z; cases l1; exact hQ _ _ _ _ (.refl _) (.tup t2 l2) A h.2
    · subst z; cases l2; refine hQ _ _ _ _ (.refl _) (.tup t1 l1) A ?_; have q := h.2; rw [List.append_nil] at q; exact q
    · exact hQ _ _ _ _ (.new hp) (.tup (.of upd_same) ((l1.append l2).ext (.new hp))) (A.keep hp) h.2
  · -- ref ref
    obtain ⟨xs, ex, h⟩ := onSome_of h
    obtain ⟨ys, ey, hz, h⟩ := onSome_of h
    obtain ⟨zs, e1, l1⟩ := A _ _ (oLst_some ex)
    obtain ⟨ws, e2, l2⟩ := A _ _ (oLst_some ey)
    have hl := hz
    rw [← l1.length, ← l2.length] at hl
    refine op_cat pins s σ H _ _ v u Q I rx ry ⟨_, _, zs, ws, r1.refv, r2.refv, e1, e2, big_line hl, fun p hp => ?_⟩
    exact hQ _ _ _ _ (.new hp) (.ref p) (A.newL hp (l1.append l2)) (h p (A.none hp))
  · -- wl ref
    obtain ⟨ys, ey, hz, h⟩ := onSome_of h
    obtain ⟨ws, e2, l2⟩ := A _ _ (oLst_some ey)
    obtain rfl := r2.refv
    cases ry
    cases r1 with
    | wl w l1 =>
      cases rx
      obtain ⟨its, n, hk, hs, rv⟩ := w
      have hl := hz
      rw [← l1.length, ← l2.length] at hl
      have hv := rv.length
      obtain ⟨z2, its2, n2, rr2, hl2, e3⟩ := I.lstM e2
      refine PySem.P.add_list (I.kIn _ _ hk) e3 ?_ (by simp only [List.size_toArray, Array.length_toList] at hv ⊢; rw [sizeLine_eq]; omega)
      have ea : its ++ its2.toArray = (its.toList ++ its2).toArray := by apply Array.ext'; simp
      rw [ea]
      refine ⟨.ref _, _, I.lnew (t' := s.toks) (rv.append rr2) (by rw [List.length_append]; exact big_line hl), rfl, ?_⟩
      exact hQ _ _ _ _ (.new I.fresh) (.ref _) (A.newL I.fresh (l1.append l2)) (h _ (A.none I.fresh))

/-- two ints, under C -/
def rII (C : Int → Int → Prop) (g : Int → Int → D) : DR2 := fun x y G Q => match x, y with
  | .int i, .int j => C i j ∧ Q (g i j) G
  | _, _ => False
theorem mo_ii {f : Value → Value → Sem Value} {C C' : Int → Int → Prop} {g : Int → Int → V} {g' : Int → Int → D} (ho : OpR X f (rI C g)) (hC : ∀ i j, C' i j → C i j) (hg : ∀ H i j, C' i j → Rep X.K X.mg H (g i j) (g' i j)) : OpR X f (liftR2 X.K X.mg (rII C' g')) := by
  intro pins s σ H x y v u Q I rx ry h
  obtain ⟨d, e, G, Qd, r1, r2, A, h, hQ⟩ := h
  cases d <;> cases e <;> first
    | exact (show False from h).elim
    | exact ho pins s σ H _ _ v u Q I rx ry ⟨_, _, r1.intv, r2.intv, hC _ _ h.1, hQ _ _ _ _ (.refl _) (hg _ _ _ h.1) A h.2⟩
def rI1 (g : Int → Int → D) : DR2 := fun x y G Q => match x, y with
  | .int i, .int j => Q (g i j) G
  | _, _ => False
theorem mo_i1 {f : Value → Value → Sem Value} {g : Int → Int → V} {g' : Int → Int → D} (ho : OpR X f (rI0 g)) (hg : ∀ H i j, Rep X.K X.mg H (g i j) (g' i j)) : OpR X f (liftR2 X.K X.mg (rI1 g')) := by
  intro pins s σ H x y v u Q I rx ry h
  obtain ⟨d, e, G, Qd, r1, r2, A, h, hQ⟩ := h
  cases d <;> cases e <;> first
    | exact (show False from h).elim
    | exact ho pins s σ H _ _ v u Q I rx ry ⟨_, _, r1.intv, r2.intv, hQ _ _ _ _ (.refl _) (hg _ _ _) A h⟩
def rSubD : DR2 := rI1 fun i j => .int (i - j)
def rLtD : DR2 := rI1 fun i j => .bl (decide (i < j))
def rLeD : DR2 := rI1 fun i j => .bl (decide (i ≤ j))
def rGtD : DR2 := rI1 fun i j => .bl (decide (j < i))
def rGeD : DR2 := rI1 fun i j => .bl (decide (j ≤ i))
/-- a remainder by a positive number; floors: the divisor below 2 ^ 9000 -/
def rModD : DR2 := rII (fun _ j => 0 < j) fun i j => .int (i % j)
def CDivD (j : Int) : Prop := 0 < j ∧ j < 2 ^ 64
def rFdivD : DR2 := rII (fun _ j => CDivD j) fun i j => .int (i / j)
def rPowD : DR2 := rII (fun i j => 0 ≤ j ∧ j ≤ 1000 ∧ i.natAbs < 2 ^ 64) fun i j => .int (i ^ j.toNat)
theorem mo_sub : OpR X (binaryOp .Sub) (liftR2 X.K X.mg rSubD) := mo_i1 op_sub fun _ _ _ => .int _
theorem mo_lt : OpR X (compareOp .Lt) (liftR2 X.K X.mg rLtD) := mo_i1 op_lt fun _ _ _ => .bl _
theorem mo_le : OpR X (compareOp .LtE) (liftR2 X.K X.mg rLeD) := mo_i1 op_le fun _ _ _ => .bl _
theorem mo_gt : OpR X (compareOp .Gt) (liftR2 X.K X.mg rGtD) := mo_i1 op_gt fun _ _ _ => .bl _
theorem mo_ge : OpR X (compareOp .GtE) (liftR2 X.K X.mg rGeD) := mo_i1 op_ge fun _ _ _ => .bl _
theorem mo_mod : OpR X (binaryOp .Mod) (liftR2 X.K X.mg rModD) := mo_ii op_mod (fun _ _ h => h) fun _ _ _ _ => .int _
theorem mo_fdiv : OpR X (binaryOp .FloorDiv) (liftR2 X.K X.mg rFdivD) := mo_ii op_fdivW (fun _ j h => wide_div (b := 64) h.1 (by have := h.1; have := h.2; omega) (by decide) (by decide)) fun _ _ _ _ => .int _
theorem mo_pow : OpR X (binaryOp .Pow) (liftR2 X.K X.mg rPowD) := mo_ii op_pow (fun _ _ h => ⟨h.1, by have := h.2.1; omega, h.2.2⟩) fun _ _ _ _ => .int _
def small64 (i : Int) : Prop := -(2 ^ 64) < i ∧ i < 2 ^ 64
def rMulD : DR2 := fun x y G Q => match x, y with
  | .int i, .int j => (small64 i ∨ small64 j) ∧ Q (.int (i * j)) G
  | .ref a, .int k => onSome (oLst (G a)) fun xs => (-(2 ^ 63) ≤ k ∧ k < 2 ^ 63 ∧ xs.length * k.toNat ≤ 16777216) ∧ rNewL (List.replicate k.toNat xs).flatten G Q
  | .tup xs, .int k => (xs ≠ [] ∧ 2 ≤ k ∧ k ≤ 1000 ∧ xs.length ≤ 1000) ∧ Q (.tup (List.replicate k.toNat xs).flatten) G
  | _, _ => False
theorem mo_mul : OpR X (binaryOp .Mult) (liftR2 X.K X.mg rMulD) := by
  intro pins s σ H x y v u Q I rx ry h
  obtain ⟨d, e, G, Qd, r1, r2, A, h, hQ⟩ := h
  cases d <;> cases e <;> first
    | exact (show False from h).elim
    | skip
  · exact op_mul pins s σ H _ _ v u Q I rx ry ⟨_, _, r1.intv, r2.intv, h.1, hQ _ _ _ _ (.refl _) (.int _) A h.2⟩
  · obtain ⟨a, xs, rfl, t1, l1⟩ := r1.tupv
    obtain ⟨⟨h1, h2, h3, h4⟩, h⟩ := h
    refine op_repT pins s σ H _ _ v u Q I rx ry ⟨a, _, xs, rfl, r2.intv, t1, fun z => ?_, h2, h3, by rw [l1.length]; exact h4, fun p hp => ?_⟩
    · subst z; cases l1; exact h1 rfl
    · exact hQ _ _ _ _ (.new hp) (.tup (.of upd_same) ((l1.rep _).ext (.new hp))) (A.keep hp) h
  · obtain ⟨xs, ex, ⟨h1, h2, h3⟩, h⟩ := onSome_of h
    obtain ⟨zs, e1, l1⟩ := A _ _ (oLst_some ex)
    refine op_rep pins s σ H _ _ v u Q I rx ry ⟨_, _, zs, r1.refv, r2.intv, e1, h1, h2, by rw [l1.length]; exact big_line h3, fun p hp => ?_⟩
    exact hQ _ _ _ _ (.new hp) (.ref p) (A.newL hp (l1.rep _)) (h p (A.none hp))
end

/-! ### equality -/
def allPy (f : D → Option PyData) : List D → Option (List PyData)
  | [] => some []
  | d :: ds => (f d).bind fun p => (allPy f ds).map fun ps => p :: ps
def toPy (G : DH) : Nat → D → Option PyData
  | _, .non => some .none
  | _, .bl b => some (.bool b)
  | _, .int i => some (.int i)
  | _, .str x => match x.cps.toList.all fun c => decide (c < 1114112) with
    | true => some (.str x)
    | false => none
  | n + 1, .tup ds => (allPy (toPy G n) ds).map .tuple
  | n + 1, .rl ds => (allPy (toPy G n) ds).map .list
  | n + 1, .wl ds => (allPy (toPy G n) ds).map .list
  | n + 1, .ref a => (oLst (G a)).bind fun ds => (allPy (toPy G n) ds).map .list
  | _, _ => none
theorem allPy_ok {K : PySem.W.Frag} {mg : Str → Option Value} {H : Hp} {f : D → Option PyData} {m : Nat} (hf : ∀ d p v, f d = some p → Rep K mg H v d → Dp K H v p ∧ p.canLay0 = true ∧ p.depth ≤ m) :
    ∀ {ds : List D} {ps : List PyData} {vs : List V}, allPy f ds = some ps → RepL K mg H vs ds → DpAll K H vs ps ∧ PyData.canLayAll0 ps = true ∧ PyData.depthAll ps ≤ m
  | [], ps, vs, h, r => by
    cases r; cases h
    exact ⟨.nil, rfl, Nat.zero_le _⟩
  | d :: ds, ps, vs, h, r => by
    cases r with
    | cons r1 r2 =>
      unfold allPy at h
      obtain ⟨p, e1, h⟩ := Option.bind_eq_some_iff.mp h
      obtain ⟨qs, e2, e3⟩ := Option.map_eq_some_iff.mp h
      subst e3
      obtain ⟨a1, a2, a3⟩ := hf d p _ e1 r1
      obtain ⟨b1, b2, b3⟩ := allPy_ok hf e2 r2
      refine ⟨.cons a1 b1, ?_, ?_⟩
      · unfold PyData.canLayAll0; rw [a2, b2]; rfl
      · unfold PyData.depthAll; omega
theorem strOk_list (x : Str) : PyData.strOk x = x.cps.toList.all fun c => decide (c < 1114112) := by simp [PyData.strOk]
theorem toPy_ok {K : PySem.W.Frag} {mg : Str → Option Value} {H : Hp} {G : DH} (A : Abs K mg G H) : ∀ (n : Nat) (d : D) (p : PyData) (v : V), toPy G n d = some p → Rep K mg H v d → Dp K H v p ∧ p.canLay0 = true ∧ p.depth ≤ n := by
  intro n
  induction n with
  | zero =>
    intro d p v h r
    cases d with
    | non => simp only [toPy, Option.some.injEq] at h; subst h; rw [r.nonv]; exact ⟨.non, rfl, Nat.zero_le _⟩
    | bl b => simp only [toPy, Option.some.injEq] at h; subst h; rw [r.blv]; exact ⟨.bl _, rfl, Nat.zero_le _⟩
    | int b => simp only [toPy, Option.some.injEq] at h; subst h; rw [r.intv]; exact ⟨.int _, rfl, Nat.zero_le _⟩
    | str b =>
      simp only [toPy] at h
      split at h
      · rename_i q; cases h; rw [r.strv]; exact ⟨.str _, (strOk_list b).trans q, Nat.zero_le _⟩
      · cases h
    | _ => simp only [toPy] at h; cases h
  | succ n ih =>
    intro d p v h r
    have ih' : ∀ d p v, toPy G n d = some p → Rep K mg H v d → Dp K H v p ∧ p.canLay0 = true ∧ p.depth ≤ n := ih
    cases d with
    | non => simp only [toPy, Option.some.injEq] at h; subst h; rw [r.nonv]; exact ⟨.non, rfl, Nat.zero_le _⟩
    | bl b => simp only [toPy, Option.some.injEq] at h; subst h; rw [r.blv]; exact ⟨.bl _, rfl, Nat.zero_le _⟩
    | int b => simp only [toPy, Option.some.injEq] at h; subst h; rw [r.intv]; exact ⟨.int _, rfl, Nat.zero_le _⟩
    | str b =>
      simp only [toPy] at h
      split at h
      · rename_i q; cases h; rw [r.strv]; exact ⟨.str _, (strOk_list b).trans q, Nat.zero_le _⟩
      · cases h
    | tup ds =>
      simp only [toPy] at h
      obtain ⟨ps, e1, e2⟩ := Option.map_eq_some_iff.mp h
      subst e2
      obtain ⟨a, xs, rfl, t, l⟩ := r.tupv
      obtain ⟨b1, b2, b3⟩ := allPy_ok ih' e1 l
      exact ⟨.tup t b1, by unfold PyData.canLay0; exact b2, by unfold PyData.depth; omega⟩
    | rl ds =>
      simp only [toPy] at h
      obtain ⟨ps, e1, e2⟩ := Option.map_eq_some_iff.mp h
      subst e2
      obtain ⟨a, xs, rfl, t, l⟩ := r.rlv
      obtain ⟨b1, b2, b3⟩ := allPy_ok ih' e1 l
      exact ⟨.lst t.sq b1, by unfold PyData.canLay0; exact b2, by unfold PyData.depth; omega⟩
    | wl ds =>
      simp only [toPy] at h
      obtain ⟨ps, e1, e2⟩ := Option.map_eq_some_iff.mp h
      subst e2
      cases r with
      | wl w l =>
        obtain ⟨b1, b2, b3⟩ := allPy_ok ih' e1 l
        exact ⟨.lst w.sq b1, by unfold PyData.canLay0; exact b2, by unfold PyData.depth; omega⟩
    | ref a =>
      simp only [toPy] at h
      obtain ⟨ds, e0, h⟩ := Option.bind_eq_some_iff.mp h
      obtain ⟨ps, e1, e2⟩ := Option.map_eq_some_iff.mp h
      subst e2
      obtain ⟨xs, e3, l⟩ := A a _ (oLst_some e0)
      rw [r.refv]
      obtain ⟨b1, b2, b3⟩ := allPy_ok ih' e1 l
      exact ⟨.lst (.of e3) b1, by unfold PyData.canLay0; exact b2, by unfold PyData.depth; omega⟩
    | gl x => simp only [toPy] at h; cases h
    | fn _ _ _ _ => simp only [toPy] at h; cases h
theorem toPy_shaped {K : PySem.W.Frag} {mg : Str → Option Value} {H : Hp} {G : DH} (A : Abs K mg G H) {n : Nat} (hn : n ≤ 60) {d : D} {p : PyData} {v : V} (h : toPy G n d = some p) (r : Rep K mg H v d) : Dp K H v p ∧ SeqAt.shaped p = true := by
  obtain ⟨a, b, c⟩ := toPy_ok A n d p v h r
  refine ⟨a, ?_⟩
  unfold SeqAt.shaped
  rw [b, decide_eq_true (by omega)]
  rfl
/-- == of flat things at once, of others as data -/
def eqQ (neg : Bool) (x y : D) (G : DH) (Q : DQ) : Prop := match x, y with
  | .int i, .int j => Q (.bl (if neg then !decide (i = j) else decide (i = j))) G
  | .str i, .str j => Q (.bl (if neg then !decide (i = j) else decide (i = j))) G
  | .bl i, .bl j => Q (.bl (if neg then !decide (i = j) else decide (i = j))) G
  | x, y => onSome (toPy G 6 x) fun p => onSome (toPy G 6 y) fun q => Q (.bl (if neg then !PyData.eqv p q else PyData.eqv p q)) G
@[irreducible] def rEqD : DR2 := eqQ false
@[irreducible] def rNeD : DR2 := eqQ true
section
variable {X : Cx} {W : WX}
theorem mo_eq (hu : X.A.units + 65 < cLine) : OpR X (compareOp .Eq) (liftR2 X.K X.mg rEqD) := by
  intro pins s σ H x y v u Q I rx ry h
  obtain ⟨d, e, G, Qd, r1, r2, A, h, hQ⟩ := h
  unfold rEqD at h
  have gen : (onSome (toPy G 6 d) fun p => onSome (toPy G 6 e) fun q => Qd (.bl (PyData.eqv p q)) G) → wpAny (model X.prog X.w) X.A (compareOp .Eq v u) (EP X pins σ Q) X.xe s := fun h => by
    obtain ⟨p, e1, h⟩ := onSome_of h
    obtain ⟨q, e2, h⟩ := onSome_of h
    obtain ⟨a1, a2⟩ := toPy_shaped A (by decide) e1 r1
    obtain ⟨b1, b2⟩ := toPy_shaped A (by decide) e2 r2
    exact L2.op_eqD (by omega) pins s σ H x y v u Q I rx ry ⟨p, q, a1, b1, a2, b2, hQ _ _ _ _ (.refl _) (.bl _) A h⟩
  have flat : ∀ b : Bool, scal x y = true → decide (x = y) = b → Qd (.bl b) G → wpAny (model X.prog X.w) X.A (compareOp .Eq v u) (EP X pins σ Q) X.xe s := fun b h1 h2 h3 =>
    op_eq pins s σ H x y v u Q I rx ry ⟨h1, by rw [h2]; exact hQ _ _ _ _ (.refl _) (.bl b) A h3⟩
  cases d <;> cases e <;> first
    | exact gen h
    | skip
  all_goals first
    | (rename_i i j; have e1 := r1.blv; have e2 := r2.blv; subst e1 e2; exact flat (decide (i = j)) rfl (by rw [dec_bl]; first | rfl | simp | (rw [Bool.beq_eq_decide_eq])) h)
    | (rename_i i j; have e1 := r1.intv; have e2 := r2.intv; subst e1 e2; exact flat (decide (i = j)) rfl (by rw [dec_int]; first | rfl | simp | rw [Bool.beq_eq_decide_eq]) h)
    | (rename_i i j; have e1 := r1.strv; have e2 := r2.strv; subst e1 e2; exact flat (decide (i = j)) rfl (by rw [dec_str, Bool.beq_eq_decide_eq]) h)
theorem mo_ne (hu : X.A.units + 65 < cLine) : OpR X (compareOp .NotEq) (liftR2 X.K X.mg rNeD) := by
  intro pins s σ H x y v u Q I rx ry h
  obtain ⟨d, e, G, Qd, r1, r2, A, h, hQ⟩ := h
  unfold rNeD at h
  have gen : (onSome (toPy G 6 d) fun p => onSome (toPy G 6 e) fun q => Qd (.bl (!PyData.eqv p q)) G) → wpAny (model X.prog X.w) X.A (compareOp .NotEq v u) (EP X pins σ Q) X.xe s := fun h => by
    obtain ⟨p, e1, h⟩ := onSome_of h
    obtain ⟨q, e2, h⟩ := onSome_of h
    obtain ⟨a1, a2⟩ := toPy_shaped A (by decide) e1 r1
    obtain ⟨b1, b2⟩ := toPy_shaped A (by decide) e2 r2
    exact L2.op_neD (by omega) pins s σ H x y v u Q I rx ry ⟨p, q, a1, b1, a2, b2, hQ _ _ _ _ (.refl _) (.bl _) A h⟩
  have flat : ∀ b : Bool, scal x y = true → decide (x = y) = b → Qd (.bl (!b)) G → wpAny (model X.prog X.w) X.A (compareOp .NotEq v u) (EP X pins σ Q) X.xe s := fun b h1 h2 h3 =>
    op_ne pins s σ H x y v u Q I rx ry ⟨h1, by rw [h2]; exact hQ _ _ _ _ (.refl _) (.bl _) A h3⟩
  cases d <;> cases e <;> first
    | exact gen h
    | skip
  all_goals first
    | (rename_i i j; have e1 := r1.blv; have e2 := r2.blv; subst e1 e2; exact flat (decide (i = j)) rfl (by rw [dec_bl]; first | rfl | simp | (rw [Bool.beq_eq_decide_eq])) h)
    | (rename_i i j; have e1 := r1.intv; have e2 := r2.intv; subst e1 e2; exact flat (decide (i = j)) rfl (by rw [dec_int]; first | rfl | simp | rw [Bool.beq_eq_decide_eq]) h)
    | (rename_i i j; have e1 := r1.strv; have e2 := r2.strv; subst e1 e2; exact flat (decide (i = j)) rfl (by rw [dec_str, Bool.beq_eq_decide_eq]) h)
end
end L3

namespace L3
open PySem PySem.Spec PyProof.Rows L2

/-! ### is None -/
def isN : D → Bool
  | .non => true
  | _ => false
def dIsN (neg : Bool) (ta : TED) : TED := fun τ G X Q => ta τ G X fun x G1 => Q (.bl (if neg then !isN x else isN x)) G1
theorem Rep.isN {K : PySem.W.Frag} {mg : Str → Option Value} {H : Hp} {v : V} {d : D} (r : Rep K mg H v d) : decide (v = .non) = isN d := by
  cases r <;> rfl
section
variable {X : Cx} {W : WX} {a b c : Expr} {ta tb tc : TED} {pos : Pos}
theorem m_isN {j p2} (ha : ME X W a ta) : ME X W (.Compare a [.Is] [.Constant .none j p2] pos) (dIsN false ta) :=
  PE.imp (pe_cmpR op_isN ha pe_non (nomark _)) fun σ H Q ⟨τ, G, Xd, Qd, hσ, hA, h, hQ, hX⟩ =>
    ⟨τ, G, Xd, _, hσ, hA, h, fun d G1 v H1 e r A h => ⟨rfl, by rw [r.isN]; exact hQ _ _ _ _ e (.bl _) A h⟩, hX⟩
theorem m_notN {j p2} (ha : ME X W a ta) : ME X W (.Compare a [.IsNot] [.Constant .none j p2] pos) (dIsN true ta) :=
  PE.imp (pe_cmpR op_notN ha pe_non (nomark _)) fun σ H Q ⟨τ, G, Xd, Qd, hσ, hA, h, hQ, hX⟩ =>
    ⟨τ, G, Xd, _, hσ, hA, h, fun d G1 v H1 e r A h => ⟨rfl, by rw [r.isN]; exact hQ _ _ _ _ e (.bl _) A h⟩, hX⟩

/-! ### chains -/
def dChain (r r' : DR2) (ta tb tc : TED) : TED := fun τ G X Q => ta τ G X fun x G1 => tb τ G1 X fun y G2 => r x y G2 fun z G3 => asB z G3 fun k G4 =>
  ifB k (tc τ G4 X fun u G5 => r' y u G5 Q) (Q (.bl false) G4)
theorem m_chain {op op' : CmpOp} {r r' : DR2} (ho : OpR X (compareOp op) (liftR2 X.K X.mg r)) (ho' : OpR X (compareOp op') (liftR2 X.K X.mg r')) (ha : ME X W a ta) (hb : ME X W b tb) (hc : ME X W c tc)
    (hm : lastMarks [op, op'] [b, c] = false := by rfl) : ME X W (.Compare a [op, op'] [b, c] pos) (dChain r r' ta tb tc) :=
  PE.imp (pe_chain ho ho' ha hb hc hm) fun σ H Q ⟨τ, G, Xd, Qd, hσ, hA, h, hQ, hX⟩ => by
    refine ⟨τ, G, Xd, _, hσ, hA, h, fun x G1 v H1 e1 r1 a1 h1 => ?_, hX⟩
    refine ⟨τ, G1, Xd, _, hσ.ext e1, a1, h1, fun y G2 u H2 e2 r2 a2 h2 => ?_, hX.ext e1⟩
    refine ⟨x, y, G2, _, r1.ext e2, r2, a2, h2, fun z G3 w H3 e3 r3 a3 h3 => ?_⟩
    obtain ⟨k, rfl, h4⟩ := asB_of h3
    refine ⟨k, r3.blv, ?_⟩
    have e13 := (e1.trans e2).trans e3
    cases k with
    | true =>
      rw [ifB_true] at h4; rw [if_pos rfl]
      refine ⟨τ, G3, Xd, _, hσ.ext e13, a3, h4, fun q G5 w5 H5 e5 r5 a5 h5 => ?_, hX.ext e13⟩
      exact ⟨y, q, G5, Qd, (r2.ext e3).ext e5, r5, a5, h5, fun d' G' v' H' e' r' a' q' => hQ d' G' v' H' ((e13.trans e5).trans e') r' a' q'⟩
    | false =>
      rw [ifB_false] at h4; rw [if_neg Bool.false_ne_true]
      exact hQ _ _ _ _ e13 (.bl false) a3 h4

/-! ### logic -/
def dNotT (t : TTD) : TTD := fun τ G X Q => t τ G X fun k G1 => Q (!k) G1
def dAndT (t u : TTD) : TTD := fun τ G X Q => t τ G X fun k G1 => ifB k (u τ G1 X Q) (Q false G1)
def dOrT (t u : TTD) : TTD := fun τ G X Q => t τ G X fun k G1 => ifB k (Q true G1) (u τ G1 X Q)
def dIfE (t : TTD) (ta tb : TED) : TED := fun τ G X Q => t τ G X fun k G1 => ifB k (ta τ G1 X Q) (tb τ G1 X Q)
/-- a test as a value -/
def dNotV (ta : TED) : TED := fun τ G X Q => ta τ G X fun x G1 => asB x G1 fun k G2 => Q (.bl (!k)) G2
def dAndV (ta tb : TED) : TED := fun τ G X Q => ta τ G X fun x G1 => asB x G1 fun k G2 => ifB k (tb τ G2 X Q) (Q (.bl false) G2)
def dOrV (ta tb : TED) : TED := fun τ G X Q => ta τ G X fun x G1 => asB x G1 fun k G2 => ifB k (Q (.bl true) G2) (tb τ G2 X Q)
variable {rest : List Expr} {t u : TTD}
theorem m_tnot (ha : MT X W a t) : MT X W (.UnaryOp .Not a pos) (dNotT t) := PT.imp (pt_not ha) fun σ H Q ⟨τ, G, Xd, Qd, hσ, hA, h, hQ, hX⟩ =>
  ⟨τ, G, Xd, _, hσ, hA, h, fun k G1 H1 e A h => hQ _ _ _ e A h, hX⟩
theorem lift_andT {K : PySem.W.Frag} {mg : Str → Option Value} {σ : L2.St} {H : Hp} {Q : Bool → Hp → Prop} (h : liftT K mg W (dAndT t u) σ H Q) : tAnd (liftT K mg W t) (liftT K mg W u) σ H Q := by
  obtain ⟨τ, G, Xd, Qd, hσ, hA, h, hQ, hX⟩ := h
  refine ⟨τ, G, Xd, _, hσ, hA, h, fun k G1 H1 e A h => ?_, hX⟩
  cases k with
  | true => rw [ifB_true] at h; rw [if_pos rfl]; exact ⟨τ, G1, Xd, Qd, hσ.ext e, A, h, fun b G' H' e' A' q => hQ _ _ _ (e.trans e') A' q, hX.ext e⟩
  | false => rw [ifB_false] at h; rw [if_neg Bool.false_ne_true]; exact hQ _ _ _ e A h
theorem lift_orT {K : PySem.W.Frag} {mg : Str → Option Value} {σ : L2.St} {H : Hp} {Q : Bool → Hp → Prop} (h : liftT K mg W (dOrT t u) σ H Q) : tOr (liftT K mg W t) (liftT K mg W u) σ H Q := by
  obtain ⟨τ, G, Xd, Qd, hσ, hA, h, hQ, hX⟩ := h
  refine ⟨τ, G, Xd, _, hσ, hA, h, fun k G1 H1 e A h => ?_, hX⟩
  cases k with
  | true => rw [ifB_true] at h; rw [if_pos rfl]; exact hQ _ _ _ e A h
  | false => rw [ifB_false] at h; rw [if_neg Bool.false_ne_true]; exact ⟨τ, G1, Xd, Qd, hσ.ext e, A, h, fun b G' H' e' A' q => hQ _ _ _ (e.trans e') A' q, hX.ext e⟩
theorem mw_and1 (ha : MT X W a t) : MW X W (.BoolOp .And [a] pos) t := pw_and1 ha
theorem mw_or1 (ha : MT X W a t) : MW X W (.BoolOp .Or [a] pos) t := pw_or1 ha
theorem mw_and (ha : MT X W a t) (hb : MW X W (.BoolOp .And (b :: rest) pos) u) : MW X W (.BoolOp .And (a :: b :: rest) pos) (dAndT t u) := PW.imp (pw_and ha hb) fun _ _ _ h => lift_andT h
theorem mw_or (ha : MT X W a t) (hb : MW X W (.BoolOp .Or (b :: rest) pos) u) : MW X W (.BoolOp .Or (a :: b :: rest) pos) (dOrT t u) := PW.imp (pw_or ha hb) fun _ _ _ h => lift_orT h
theorem m_tw (h : MW X W a t) : MT X W a t := h.pt
theorem m_not (ha : ME X W a ta) : ME X W (.UnaryOp .Not a pos) (dNotV ta) := PE.imp (pe_not ha) fun σ H Q ⟨τ, G, Xd, Qd, hσ, hA, h, hQ, hX⟩ =>
  ⟨τ, G, Xd, _, hσ, hA, h, fun x G1 v H1 e r A h => by
    obtain ⟨k, rfl, h⟩ := asB_of h
    exact ⟨k, r.blv, hQ _ _ _ _ e (.bl _) A h⟩, hX⟩
theorem m_one {op} (h : ME X W a ta) : ME X W (.BoolOp op [a] pos) ta := pe_one h
theorem m_and (ha : ME X W a ta) (hb : ME X W (.BoolOp .And (b :: rest) pos) tb) : ME X W (.BoolOp .And (a :: b :: rest) pos) (dAndV ta tb) := PE.imp (pe_and ha hb) fun σ H Q ⟨τ, G, Xd, Qd, hσ, hA, h, hQ, hX⟩ =>
  ⟨τ, G, Xd, _, hσ, hA, h, fun x G1 v H1 e r A h0 => by
    obtain ⟨k, rfl, h⟩ := asB_of h0
    refine ⟨k, r.blv, ?_⟩
    clear h0
    cases k with
    | true => rw [ifB_true] at h; rw [if_pos rfl]; exact ⟨τ, G1, Xd, Qd, hσ.ext e, A, h, fun _ _ _ _ e' r' A' q => hQ _ _ _ _ (e.trans e') r' A' q, hX.ext e⟩
    | false => rw [ifB_false] at h; rw [if_neg Bool.false_ne_true]; exact hQ _ _ _ _ e (.bl _) A h, hX⟩
theorem m_or (ha : ME X W a ta) (hb : ME X W (.BoolOp .Or (b :: rest) pos) tb) : ME X W (.BoolOp .Or (a :: b :: rest) pos) (dOrV ta tb) := PE.imp (pe_or ha hb) fun σ H Q ⟨τ, G, Xd, Qd, hσ, hA, h, hQ, hX⟩ =>
  ⟨τ, G, Xd, _, hσ, hA, h, fun x G1 v H1 e r A h0 => by
    obtain ⟨k, rfl, h⟩ := asB_of h0
    refine ⟨k, r.blv, ?_⟩
    clear h0
    cases k with
    | true => rw [ifB_true] at h; rw [if_pos rfl]; exact hQ _ _ _ _ e (.bl _) A h
    | false => rw [ifB_false] at h; rw [if_neg Bool.false_ne_true]; exact ⟨τ, G1, Xd, Qd, hσ.ext e, A, h, fun _ _ _ _ e' r' A' q => hQ _ _ _ _ (e.trans e') r' A' q, hX.ext e⟩, hX⟩
theorem m_ifE (hc : MT X W c t) (ha : ME X W a ta) (hb : ME X W b tb) : ME X W (.IfExp c a b pos) (dIfE t ta tb) := PE.imp (pe_ifExp hc ha hb) fun σ H Q ⟨τ, G, Xd, Qd, hσ, hA, h, hQ, hX⟩ =>
  ⟨τ, G, Xd, _, hσ, hA, h, fun k G1 H1 e A h => by
    cases k with
    | true => rw [ifB_true] at h; rw [if_pos rfl]; exact ⟨τ, G1, Xd, Qd, hσ.ext e, A, h, fun _ _ _ _ e' r' A' q => hQ _ _ _ _ (e.trans e') r' A' q, hX.ext e⟩
    | false => rw [ifB_false] at h; rw [if_neg Bool.false_ne_true]; exact ⟨τ, G1, Xd, Qd, hσ.ext e, A, h, fun _ _ _ _ e' r' A' q => hQ _ _ _ _ (e.trans e') r' A' q, hX.ext e⟩, hX⟩
end

/-! ### argument lists, displays -/
def dNil : TAD := fun _ G _ Q => Q [] G
def dCons (ta : TED) (tr : TAD) : TAD := fun τ G X Q => ta τ G X fun x G1 => tr τ G1 X fun xs G2 => Q (x :: xs) G2
def dTup (t : TAD) : TED := fun τ G X Q => t τ G X fun xs G1 => xs.length ≤ 16777216 ∧ Q (.tup xs) G1
def dLst (t : TAD) : TED := fun τ G X Q => t τ G X fun xs G1 => xs.length ≤ 16777216 ∧ rNewL xs G1 Q
section
variable {X : Cx} {W : WX} {e : Expr} {es : List Expr} {te : TED} {t : TAD} {pos : Pos}
theorem ma_nil : MA X W [] dNil := PA.imp pa_nil fun σ H Q ⟨τ, G, Xd, Qd, hσ, hA, h, hQ, hX⟩ => hQ _ _ _ _ (.refl _) .nil hA h
theorem ma_cons (ha : ME X W e te) (hr : MA X W es t) (hs : starEach (e :: es) X.env = (false, eval e X.env) :: starEach es X.env := by rfl) : MA X W (e :: es) (dCons te t) :=
  PA.imp (pa_cons ha hr hs) fun σ H Q ⟨τ, G, Xd, Qd, hσ, hA, h, hQ, hX⟩ =>
    ⟨τ, G, Xd, _, hσ, hA, h, fun x G1 v H1 e1 r1 a1 h1 => ⟨τ, G1, Xd, _, hσ.ext e1, a1, h1, fun xs G2 vs H2 e2 r2 a2 h2 =>
      hQ _ _ _ _ (e1.trans e2) (.cons (r1.ext e2) r2) a2 h2, hX.ext e1⟩, hX⟩
theorem m_tup {x1} (h : MA X W es t) : ME X W (.Tuple es x1 pos) (dTup t) := PE.imp (pe_tup h) fun σ H Q ⟨τ, G, Xd, Qd, hσ, hA, h, hQ, hX⟩ =>
  ⟨τ, G, Xd, _, hσ, hA, h, fun ds G1 vs H1 e1 r1 a1 h1 => ⟨by rw [r1.length]; exact big_line h1.1, fun p hp =>
    hQ _ _ _ _ (e1.trans (.new hp)) (.tup (.of upd_same) (r1.ext (.new hp))) (a1.keep hp) h1.2⟩, hX⟩
theorem m_lst (h : MA X W es t) : ME X W (.List es pos) (dLst t) := PE.imp (pe_lst h) fun σ H Q ⟨τ, G, Xd, Qd, hσ, hA, h, hQ, hX⟩ =>
  ⟨τ, G, Xd, _, hσ, hA, h, fun ds G1 vs H1 e1 r1 a1 h1 => ⟨by rw [r1.length]; exact big_line h1.1, fun p hp =>
    hQ _ _ _ _ (e1.trans (.new hp)) (.ref p) (a1.newL hp r1) (h1.2 p (a1.none hp))⟩, hX⟩
end

/-! ### defs, classes, methods -/
/-- what a call may let out -/
def EX (K : PySem.W.Frag) (mg : Str → Option Value) (W : WX) (Xd : DX) (σ : L2.St) (H : Hp) : XK := fun cls dd H' => W cls dd σ H'
/-- the def x of the module keeps sp -/
structure FnD (P : Program) (w : World) (K : PySem.W.Frag) (mg : Str → Option Value) (base : Heap) (k : Nat) (x : Str) (sp : DSp) : Prop where
  ok : ∃ f fd ps, mg x = some (.ref f) ∧ PySem.W.keepIn K (.ref f) = true ∧ Binds K fd ps [] ∧ FnOk P w K mg base (L2.CX P w) k f fd ps (liftSp K mg sp)
/-- the method m of the class c keeps sp (the instance first) -/
structure MtD (P : Program) (w : World) (K : PySem.W.Frag) (mg : Str → Option Value) (base : Heap) (k : Nat) (c : String) (m : Str) (sp : DSp) : Prop where
  ok : ∀ C, mg (c : Str) = some (.ref C) → ∃ f fd ps, Cls K C ∧ Meth K C m f ∧ Binds K fd ps [] ∧ FnOk P w K mg base (L2.CX P w) k f fd ps (liftSp K mg sp)
/-- the class c is made by an __init__ that keeps sp -/
structure MkD (P : Program) (w : World) (K : PySem.W.Frag) (mg : Str → Option Value) (base : Heap) (k : Nat) (c : Str) (sp : DSp) : Prop where
  ok : ∃ C f fd ps, mg c = some (.ref C) ∧ Mk K C f ∧ Binds K fd ps [] ∧ FnOk P w K mg base (L2.CX P w) k f fd ps (liftSp K mg sp)
def dCall (sp : DSp) (t : TAD) : TED := fun τ G X Q => t τ G X fun ds G1 => Ir sp ds G1 Q X
def dMake (c : String) (sp : DSp) (t : TAD) : TED := fun τ G X Q => t τ G X fun ds G1 => ∀ x, G1 x = none → Ir sp (.ref x :: ds) (up G1 x (.ins c [])) (fun v G2 => v = .non ∧ Q (.ref x) G2) X
def clsOf : Option DO → Option String
  | some (.ins c _) => some c
  | _ => none
def recv (G : DH) : D → Option String
  | .ref a => clsOf (G a)
  | _ => none
/-- o.m(..): the promise by the instance's class -/
def dMeth (tab : List (String × DSp)) (ta : TED) (t : TAD) : TED := fun τ G X Q => ta τ G X fun x G1 => onSome (recv G1 x) fun c => onSome (tab.lookup c) fun sp => t τ G1 X fun ds G2 => Ir sp (x :: ds) G2 Q X
theorem recv_of {G : DH} {x : D} {c : String} (h : recv G x = some c) : ∃ a fs, x = .ref a ∧ G a = some (.ins c fs) := by
  cases x with
  | ref a =>
    cases e : G a with
    | none => simp [recv, e, clsOf] at h
    | some o =>
      cases o <;> simp [recv, e, clsOf] at h
      subst h
      exact ⟨a, _, rfl, e⟩
  | _ => cases h
section
variable {X : Cx} {W : WX} {e o : Expr} {es : List Expr} {te to : TED} {t : TAD} {pos p apos : Pos} {k : Nat}
theorem lift_sp {K : PySem.W.Frag} {mg : Str → Option Value} {sp : DSp} {H H0 : Hp} {σ : L2.St} {vs : List V} {ds : List D} {G : DH} {Qd : DQ} {Xd : DX} {Q : VK} (r : RepL K mg H vs ds) (A : Abs K mg G H) (h : sp ds G Qd Xd) (e : Ext H0 H)
    (hQ : ∀ d G' v H', Ext H0 H' → Rep K mg H' v d → Abs K mg G' H' → Qd d G' → Q v H') (hX : XOk K mg W Xd σ H0) : liftSp K mg sp vs H Q (fun cls dd H' => W cls dd σ H') :=
  ⟨ds, G, Qd, Xd, r, A, h, fun d G' v H' e' => hQ d G' v H' (e.trans e'), fun c d G' cls dd H' e' => hX c d G' cls dd H' (e.trans e')⟩
theorem m_call {x : Str} {sp : DSp} (F : FnD X.prog X.w X.K X.mg X.base k x sp) (hr : Room k X.A) (tk : Takes X W) (ha : MA X W (e :: es) t) (hg : Gl X x := by rfl) (hdb : (x == ("__debug__" : Str)) = false := by decide)
    (he : starEach (e :: es) X.env = (false, eval e X.env) :: starEach es X.env := by rfl) (hpl : (backTo pos (starEach es X.env)).any (·.1) = false := by rfl) : ME X W (.Call (.Name x p) (e :: es) [] pos) (dCall sp t) := by
  obtain ⟨f, fd, ps, hm, hk, hb, ok⟩ := F.ok
  refine PE.imp (pe_callS (E := WE W) ok hr hg hm hk hb (passAt tk) ha hdb he hpl) fun σ H Q ⟨τ, G, Xd, Qd, hσ, hA, h, hQ, hX⟩ => ?_
  exact ⟨τ, G, Xd, _, hσ, hA, h, fun ds G1 vs H1 e1 r1 a1 h1 => lift_sp r1 a1 (Ir_e h1) e1 hQ hX, hX⟩
theorem m_call0 {x : Str} {sp : DSp} (F : FnD X.prog X.w X.K X.mg X.base k x sp) (hr : Room k X.A) (tk : Takes X W) (hg : Gl X x := by rfl) (hdb : (x == ("__debug__" : Str)) = false := by decide) : ME X W (.Call (.Name x p) [] [] pos) (dCall sp dNil) := by
  obtain ⟨f, fd, ps, hm, hk, hb, ok⟩ := F.ok
  refine ⟨fun pins s σ H Q I ⟨τ, G, Xd, Qd, hσ, hA, h, hQ, hX⟩ => ?_⟩
  refine wpAny_Call_Name_kw (ld_glob I hg hm ?_ hdb)
  exact PySem.W.callWith_K0 I.kIn hk (run_fnS (us := []) (E := WE W) ok hr hb (passAt tk σ) I .nil (lift_sp .nil hA (Ir_e h) (.refl _) hQ hX))
theorem lookup_none_of {c : String} {m : String} {fs : List (String × D)} (F : FldAll c fs) (hm : fldOk c m = false) : fs.lookup m = none := by
  cases q : fs.lookup m with
  | none => rfl
  | some v => have := F m v q; rw [hm] at this; cases this
/-- every class of the table has the method, and no field of that name -/
def TabOk (P : Program) (w : World) (K : PySem.W.Frag) (mg : Str → Option Value) (base : Heap) (k : Nat) (m : String) (tab : List (String × DSp)) : Prop := ∀ c sp, tab.lookup c = some sp → fldOk c m = false ∧ MtD P w K mg base k c (m : Str) sp
theorem TabOk.nil {m : String} : TabOk X.prog X.w X.K X.mg X.base k m [] := fun _ _ h => by cases h
theorem TabOk.cons {m c : String} {sp : DSp} {tab : List (String × DSp)} (h1 : fldOk c m = false) (h2 : MtD X.prog X.w X.K X.mg X.base k c (m : Str) sp) (h : TabOk X.prog X.w X.K X.mg X.base k m tab) : TabOk X.prog X.w X.K X.mg X.base k m ((c, sp) :: tab) := fun c' sp' q => by
  by_cases e : c' = c
  · subst e; simp [List.lookup] at q; subst q; exact ⟨h1, h2⟩
  · have e1 : (c' == c) = false := by simpa using e
    simp only [List.lookup, e1] at q
    exact h _ _ q
theorem m_meth {pl : Sem Bool} {m : String} {tab : List (String × DSp)} (T : TabOk X.prog X.w X.K X.mg X.base k m tab) (hr : Room k X.A) (tk : Takes X W) (ho : ME X W o to) (ha : MA X W (e :: es) t)
    (hst : starEach (e :: es) X.env = (false, eval e X.env) :: starEach es X.env := by rfl) (hpl : (backTo pos (starEach es X.env)).any (·.1) = false := by rfl)
    (ht : eval (.Call (.Attribute o (m : Str) apos) (e :: es) [] pos) X.env = (do
      let ov ← eval o X.env
      standAt apos.atName
      let (f, first) ← holding [ov] (getMethod ov (m : Str) pl)
      callWith pos f first (backTo pos (starEach (e :: es) X.env)) (backToKw pos (keywordEach [] X.env))) := by rfl) :
    ME X W (.Call (.Attribute o (m : Str) apos) (e :: es) [] pos) (dMeth tab to t) := by
  refine ⟨fun pins s σ H Q I ⟨τ, G, Xd, Qd, hσ, hA, h, hQ, hX⟩ => ?_⟩
  refine PySem.W.methodCall_KW (pl := pl) (thn (ho.run pins s σ H (fun v H1 => ∃ d G1, Ext H H1 ∧ Rep X.K X.mg H1 v d ∧ Abs X.K X.mg G1 H1 ∧ _) I ⟨τ, G, Xd, _, hσ, hA, h, fun d G1 v H1 e1 r1 a1 h1 => ⟨d, G1, e1, r1, a1, h1⟩, hX⟩) fun u s1 ⟨x, H1, I1, rx, d, G1, e1, r1, a1, h1⟩ => ?_) ht
  obtain ⟨c, hc, h1⟩ := onSome_of h1
  obtain ⟨sp, hsp, h1⟩ := onSome_of h1
  obtain ⟨a, fs, rfl, ea⟩ := recv_of hc
  obtain ⟨hf, M⟩ := T c sp hsp
  obtain ⟨C, dx, vs, hC, eH, fr, fo, _⟩ := a1 a _ ea
  obtain ⟨f, fd, ps, cl, mt, hb, ok⟩ := M.ok C hC
  have e2 := r1.refv
  subst e2
  obtain rfl : u = Value.ref a := rx
  refine getmeth_ok I1 eH cl mt (fr.none (lookup_none_of fo hf)) ?_
  refine PySem.W.callWith_K (first := [.ref a]) (h₀ := X.base) I.ok.mod.kin mt.kp (thn (ha.run pos pins s1 σ H1 (fun vs H2 => ∃ ds G2, Ext H1 H2 ∧ RepL X.K X.mg H2 vs ds ∧ Abs X.K X.mg G2 H2 ∧ _) I1 ⟨τ, G1, Xd, _, hσ.ext e1, a1, h1, fun ds G2 vs H2 e2 r2 a2 h2 => ⟨ds, G2, e2, r2, a2, h2⟩, hX.ext e1⟩) fun us s2 ⟨vs, H2, I2, r, ds, G2, e2, r2, a2, h2⟩ => ⟨I2.kIn, ?_⟩) hst hpl
  exact run_fnS (us := .ref a :: us) (vs := .ref a :: vs) (E := WE W) ok hr hb (passAt tk σ) I2 (.cons rfl r) (lift_sp (.cons (.ref a) r2) a2 (Ir_e h2) (e1.trans e2) hQ hX)
theorem m_meth0 {pl : Sem Bool} {m : String} {tab : List (String × DSp)} (T : TabOk X.prog X.w X.K X.mg X.base k m tab) (hr : Room k X.A) (tk : Takes X W) (ho : ME X W o to)
    (ht : eval (.Call (.Attribute o (m : Str) apos) [] [] pos) X.env = (do
      let ov ← eval o X.env
      standAt apos.atName
      let (f, first) ← holding [ov] (getMethod ov (m : Str) pl)
      callWith pos f first (backTo pos (starEach [] X.env)) (backToKw pos (keywordEach [] X.env))) := by rfl) :
    ME X W (.Call (.Attribute o (m : Str) apos) [] [] pos) (dMeth tab to dNil) := by
  refine ⟨fun pins s σ H Q I ⟨τ, G, Xd, Qd, hσ, hA, h, hQ, hX⟩ => ?_⟩
  refine PySem.W.methodCall_KW (pl := pl) (thn (ho.run pins s σ H (fun v H1 => ∃ d G1, Ext H H1 ∧ Rep X.K X.mg H1 v d ∧ Abs X.K X.mg G1 H1 ∧ _) I ⟨τ, G, Xd, _, hσ, hA, h, fun d G1 v H1 e1 r1 a1 h1 => ⟨d, G1, e1, r1, a1, h1⟩, hX⟩) fun u s1 ⟨x, H1, I1, rx, d, G1, e1, r1, a1, h1⟩ => ?_) ht
  obtain ⟨c, hc, h1⟩ := onSome_of h1
  obtain ⟨sp, hsp, h1⟩ := onSome_of h1
  obtain ⟨a, fs, rfl, ea⟩ := recv_of hc
  obtain ⟨hf, M⟩ := T c sp hsp
  obtain ⟨C, dx, vs, hC, eH, fr, fo, _⟩ := a1 a _ ea
  obtain ⟨f, fd, ps, cl, mt, hb, ok⟩ := M.ok C hC
  have e2 := r1.refv
  subst e2
  obtain rfl : u = Value.ref a := rx
  refine getmeth_ok I1 eH cl mt (fr.none (lookup_none_of fo hf)) ?_
  exact PySem.W.callWith_K0 (first := [.ref a]) I1.kIn mt.kp (run_fnS (us := [.ref a]) (vs := [.ref a]) (E := WE W) ok hr hb (passAt tk σ) I1 (.cons rfl .nil) (lift_sp (.cons (.ref a) .nil) a1 (Ir_e h1) e1 hQ hX))

theorem run_makeS {C f : Addr} {fd : FuncData} {ps : List Str} {sp : Sp} {E : XK} {pins : List (Addr × Obj)} {σ : L2.St} {H : Hp} {s : Shared} {Q : VK} {us : List Value} {vs : List V} (M : Mk X.K C f) (F : FnOk X.prog X.w X.K X.mg X.base (L2.CX X.prog X.w) k f fd ps sp) (hr : Room (k + 1) X.A) (hb : Binds X.K fd ps [])
    (hx : PassesAt (L2.CX X.prog X.w) X σ E) (I : Inv X pins σ H s) (r : Vals vs us)
    (h : ∀ x dx, H x = none → H dx = none → dx ≠ x → sp (.ref x :: vs) (upd (upd H dx (.own x)) x (.ins C dx [])) (fun v H2 => v = .non ∧ Q (.ref x) H2) E) :
    wpAny (model X.prog X.w) X.A (call (.ref C) us) (EP X pins σ Q) X.xe s := by
  have hq := h (s.heap.objs.size + 1) s.heap.objs.size (I.hok.fresh (Nat.le_succ _)) (I.hok.fresh (Nat.le_refl _)) (Nat.ne_of_lt (Nat.lt_succ_self _))
  have I2 := Inv.made (C := C) I
  have r2 : Vals (V.ref (s.heap.objs.size + 1) :: vs) (Value.ref (s.heap.objs.size + 1) :: us) := .cons rfl r
  have hl : (Value.ref (s.heap.objs.size + 1) :: us).length = ps.length := by
    have e := r2.length
    rw [F.len _ _ _ _ hq] at e
    exact e.symm
  have b := hb _ (Value.ref (s.heap.objs.size + 1) :: us) I2.kIn (by rw [List.append_nil]; exact hl)
  rw [List.append_nil] at b
  refine wpAny_call (make_map (f := f) I.kIn M.makes M.init (beq_iff_eq.mp M.fn) (codeAny_mono (F.run _ X.stack _ _ ⟨Value.ref (s.heap.objs.size + 1) :: us, []⟩ (Value.ref (s.heap.objs.size + 1) :: us) _ _ E (hr.make C us [])
    (I2.env0.make C us []) b r2 hq) fun r s' hq' => ?_))
  cases r with
  | error e => exact hx pins _ _ e s' I2 hq'
  | ok fl =>
    cases fl with
    | ret u =>
      obtain ⟨v, H', I3, rv, ev, q3⟩ := I2.after hq'
      subst ev
      exact ⟨rv, ⟨V.ref (s.heap.objs.size + 1), H', I3, rfl, q3⟩⟩
    | next => exact False.elim hq'
    | brk => exact False.elim hq'
    | cont => exact False.elim hq'
theorem lift_make {c : String} {sp : DSp} {C : Addr} (hC : X.mg (c : Str) = some (.ref C)) {H H0 : Hp} {σ : L2.St} {vs : List V} {ds : List D} {G : DH} {Qd : DQ} {Xd : DX} {Q : VK} (r : RepL X.K X.mg H vs ds) (A : Abs X.K X.mg G H)
    (h : ∀ x, G x = none → sp (.ref x :: ds) (up G x (.ins c [])) (fun v G2 => v = .non ∧ Qd (.ref x) G2) Xd) (e : Ext H0 H) (hQ : ∀ d G' v H', Ext H0 H' → Rep X.K X.mg H' v d → Abs X.K X.mg G' H' → Qd d G' → Q v H') (hX : XOk X.K X.mg W Xd σ H0) :
    ∀ x dx, H x = none → H dx = none → dx ≠ x → liftSp X.K X.mg sp (.ref x :: vs) (upd (upd H dx (.own x)) x (.ins C dx [])) (fun v H2 => v = .non ∧ Q (.ref x) H2) (fun cls dd H' => W cls dd σ H') := by
  intro x dx hx hdx ne
  have e1 : Ext H (upd H dx (.own x)) := .new hdx
  have hx1 : (upd H dx (.own x)) x = none := by rw [upd_ne (Ne.symm ne)]; exact hx
  have e2 : Ext (upd H dx (.own x)) (upd (upd H dx (.own x)) x (.ins C dx [])) := .new hx1
  have A1 : Abs X.K X.mg G (upd H dx (.own x)) := A.keep hdx
  have A2 : Abs X.K X.mg (up G x (.ins c [])) (upd (upd H dx (.own x)) x (.ins C dx [])) := A1.upd e2 (show ObjRep X.K X.mg _ x (.ins c []) from ⟨C, dx, [], hC, upd_same, .nil, fun f v q => by simp at q, by decide⟩)
  refine lift_sp (.cons (.ref x) (r.ext (e1.trans e2))) A2 (h x (A.none hx)) ((e.trans e1).trans e2) (fun d G' v H' e' r' a' q' => ?_) hX
  obtain ⟨rfl, q⟩ := q'
  exact ⟨r'.nonv, hQ _ _ _ _ e' (.ref x) a' q⟩
theorem m_make {c : String} {sp : DSp} (M : MkD X.prog X.w X.K X.mg X.base k (c : Str) sp) (hr : Room (k + 1) X.A) (tk : Takes X W) (ha : MA X W (e :: es) t) (hg : Gl X (c : Str) := by rfl) (hdb : (((c : Str)) == ("__debug__" : Str)) = false := by decide)
    (he : starEach (e :: es) X.env = (false, eval e X.env) :: starEach es X.env := by rfl) (hpl : (backTo pos (starEach es X.env)).any (·.1) = false := by rfl) : ME X W (.Call (.Name (c : Str) p) (e :: es) [] pos) (dMake c sp t) := by
  obtain ⟨C, f, fd, ps, hm, mk, hb, ok⟩ := M.ok
  refine ⟨fun pins s σ H Q I ⟨τ, G, Xd, Qd, hσ, hA, h, hQ, hX⟩ => ?_⟩
  refine wpAny_Call_Name_kw (ld_glob I hg hm ?_ hdb)
  refine PySem.W.callWith_K (h₀ := X.base) I.ok.mod.kin mk.kp (thn (ha.run pos pins s σ H (fun vs H1 => ∃ ds G1, Ext H H1 ∧ RepL X.K X.mg H1 vs ds ∧ Abs X.K X.mg G1 H1 ∧ _) I ⟨τ, G, Xd, _, hσ, hA, h, fun ds G1 vs H1 e1 r1 a1 h1 => ⟨ds, G1, e1, r1, a1, h1⟩, hX⟩) fun us s1 ⟨vs, H1, I1, r, ds, G1, e1, r1, a1, h1⟩ => ⟨I1.kIn, ?_⟩) he hpl
  exact run_makeS mk ok hr hb (passAt tk σ) I1 r (lift_make hm r1 a1 (fun x hx => Ir_e (h1 x hx)) e1 hQ hX)

/-! ### fields -/
def oIns : Option DO → Option (String × List (String × D))
  | some (.ins c fs) => some (c, fs)
  | _ => none
theorem oIns_some {o : Option DO} {c : String} {fs : List (String × D)} (h : oIns o = some (c, fs)) : o = some (.ins c fs) := by
  cases o with
  | none => cases h
  | some u => cases u <;> first | (cases h; rfl) | cases h
def fldV (G : DH) (x : D) (f : String) : Option D := match x with
  | .ref a => (oIns (G a)).bind fun p => p.2.lookup f
  | _ => none
def dFld (ta : TED) (f : String) : TED := fun τ G X Q => ta τ G X fun x G1 => onSome (fldV G1 x f) fun v => Q v G1
/-- what the written part says of the fields of classes -/
def FldTxt (K : PySem.W.Frag) (mg : Str → Option Value) : Prop := ∀ (c f : String) (C : Addr), mg (c : Str) = some (.ref C) → fldOk c f = true → Cls K C ∧ NoAttr K C (f : Str)
theorem fldV_of {G : DH} {x v : D} {f : String} (h : fldV G x f = some v) : ∃ a c fs, x = .ref a ∧ G a = some (.ins c fs) ∧ fs.lookup f = some v := by
  cases x with
  | ref a =>
    obtain ⟨⟨c, fs⟩, h1, h2⟩ := Option.bind_eq_some_iff.mp h
    exact ⟨a, c, fs, rfl, oIns_some h1, h2⟩
  | _ => cases h
theorem m_fld {f : String} (T : FldTxt X.K X.mg) (he : ME X W e te) (hb : attributeBase e (f : Str) X.env (eval e X.env) = eval e X.env := by rfl) : ME X W (.Attribute e (f : Str) pos) (dFld te f) :=
  PE.imp (pe_fld he hb) fun σ H Q ⟨τ, G, Xd, Qd, hσ, hA, h, hQ, hX⟩ =>
    ⟨τ, G, Xd, _, hσ, hA, h, fun x G1 v H1 e1 r1 a1 h1 => by
      obtain ⟨d, hd, q1⟩ := onSome_of h1
      obtain ⟨a, c, fs, rfl, ea, hl⟩ := fldV_of hd
      obtain ⟨C, dx, vs, hC, eH, fr, fo, _⟩ := a1 a _ ea
      obtain ⟨u, hu, ru⟩ := fr.lookup hl
      obtain ⟨cl, na⟩ := T c f C hC (fo _ _ hl)
      exact ⟨a, C, dx, vs, u, r1.refv, eH, cl, na, hu, hQ _ _ _ _ e1 ru a1 q1⟩, hX⟩

/-! ### subscripts -/
def seqOf (G : DH) : D → Option (List D)
  | .tup xs => some xs
  | x => lstOf G x
def rIxD : DR2 := fun x y G Q => match y with
  | .int i => match x with
    | .str z => z.length ≤ 16777216 ∧ onSome (atI z.cps.toList i) fun c => Q (.str ⟨#[c]⟩) G
    | x => onSome (seqOf G x) fun xs => onSome (atI xs i) fun v => Q v G
  | _ => False
theorem RepL.ixN {K : PySem.W.Frag} {mg : Str → Option Value} {H : Hp} {vs : List V} {ds : List D} {i : Int} {d : D} (r : RepL K mg H vs ds) (h : atI ds i = some d) : ∃ v, atI vs i = some v ∧ Rep K mg H v d := by
  unfold atI at h ⊢
  obtain ⟨j, h1, h2⟩ := Option.bind_eq_some_iff.mp h
  obtain ⟨v, h3, h4⟩ := r.get h2
  refine ⟨v, ?_, h4⟩
  rw [r.length, h1]
  exact h3
theorem ixr : IxR X (liftR2 X.K X.mg rIxD) := by
  intro value slice pins s σ H x y v u Q I rx ry h hs
  obtain ⟨d, e, G, Qd, r1, r2, A, h, hQ⟩ := h
  cases e <;> try exact (show False from h).elim
  rename_i i
  have e2 := r2.intv
  subst e2
  have seq : (onSome (seqOf G d) fun xs => onSome (atI xs i) fun v => Qd v G) → rIx X.K x (.int i) H Q := fun h => by
    obtain ⟨xs, e1, h0⟩ := onSome_of h
    obtain ⟨d', e2, q0⟩ := onSome_of h0
    clear h h0
    by_cases ht : ∃ ys, d = .tup ys
    · obtain ⟨ys, rfl⟩ := ht
      cases e1
      obtain ⟨a, zs, rfl, t, l⟩ := r1.tupv
      obtain ⟨v', e3, r3⟩ := l.ixN e2
      exact .inr (.inl ⟨a, zs, i, v', rfl, rfl, t, e3, hQ _ _ _ _ (.refl _) r3 A q0⟩)
    · have e1' : lstOf G d = some xs := by
        cases d <;> first | exact e1 | exact absurd ⟨_, rfl⟩ ht
      obtain ⟨a, zs, rfl, t, l⟩ := lst_at A r1 e1'
      obtain ⟨v', e3, r3⟩ := l.ixN e2
      exact .inl ⟨a, zs, i, v', rfl, rfl, t, e3, hQ _ _ _ _ (.refl _) r3 A q0⟩
  refine ix_seq value slice pins s σ H x _ v u Q I rx ry ?_ hs
  cases d <;> try exact seq h
  -- a text
  obtain ⟨hz, h⟩ := h
  obtain ⟨c, e1, h⟩ := onSome_of h
  exact .inr (.inr ⟨_, i, c, r1.strv, rfl, big_line hz, e1, hQ _ _ _ _ (.refl _) (.str _) A h⟩)
theorem m_ix {a b : Expr} {ta tb : TED} (ha : ME X W a ta) (hb : ME X W b tb) (hs : PlainIx b := by exact fun _ _ => rfl) : ME X W (.Subscript a b pos) (dBin rIxD ta tb) := PE.imp (pe_ix ixr ha hb hs) fun _ _ _ h => lift_bin h
end
end L3

namespace L3
open PySem PySem.Spec PyProof.Rows L2

/-! ### slices -/
abbrev TOD := DSt → DH → DX → (Option Int → DH → Prop) → Prop
def liftO (K : PySem.W.Frag) (mg : Str → Option Value) (W : WX) (td : TOD) : TO := fun σ H Q =>
  ∃ τ G Xd Qd, StRep K mg H σ τ ∧ Abs K mg G H ∧ td τ G Xd Qd ∧ (∀ o G' H', Ext H H' → Abs K mg G' H' → Qd o G' → Q o H') ∧ XOk K mg W Xd σ H
def dNoPart : TOD := fun _ G _ Q => Q none G
def asI (x : D) (Q : Int → Prop) : Prop := match x with | .int i => Q i | _ => False
theorem asI_of {x : D} {Q : Int → Prop} (h : asI x Q) : ∃ i, x = .int i ∧ Q i := by
  cases x <;> first | exact ⟨_, rfl, h⟩ | exact h.elim
def dPart (t : TED) : TOD := fun τ G X Q => t τ G X fun x G1 => asI x fun i => Q (some i) G1
def cutD (xs : List D) (lo hi : Option Int) : List D := (xs.drop (HT.sIx xs.length 0 lo)).take (HT.sIx xs.length xs.length hi - HT.sIx xs.length 0 lo)
theorem RepL.cut {K : PySem.W.Frag} {mg : Str → Option Value} {H : Hp} {vs : List V} {ds : List D} (r : RepL K mg H vs ds) (lo hi : Option Int) : RepL K mg H (cutV vs lo hi) (cutD ds lo hi) := by
  unfold cutV cutD
  rw [r.length]
  exact (r.drop _).take _
def rSlD (x : D) (lo hi : Option Int) (G : DH) (Q : DQ) : Prop := match x with
  | .tup xs => Q (.tup (cutD xs lo hi)) G
  | .str z => z.length ≤ 16777216 ∧ Q (.str (cutS z lo hi)) G
  | x => onSome (lstOf G x) fun xs => rNewL (cutD xs lo hi) G Q
def dSl (te : TED) (tl th : TOD) : TED := fun τ G X Q => te τ G X fun x G1 => tl τ G1 X fun l G2 => th τ G2 X fun u G3 => rSlD x l u G3 Q
theorem take_all {α : Type} {xs : List α} {n : Nat} (h : xs.length ≤ n) : xs.take n = xs := List.take_of_length_le h
theorem cutD_all {xs : List D} {lo hi : Option Int} (h1 : HT.sIx xs.length 0 lo = 0) (h2 : HT.sIx xs.length xs.length hi = xs.length) : cutD xs lo hi = xs := by
  unfold cutD
  rw [h1, h2, List.drop_zero, Nat.sub_zero, List.take_length]
section
variable {X : Cx} {W : WX} {e : Expr} {te : TED} {tl th : TOD} {lo hi : Option Expr} {pos p2 : Pos}
abbrev MO (X : Cx) (W : WX) (e : Option Expr) (td : TOD) : Prop := PO X e (liftO X.K X.mg W td)
theorem PO.imp {e : Option Expr} {t t' : TO} (h : PO X e t) (k : ∀ σ H Q, t' σ H Q → t σ H Q) : PO X e t' := ⟨fun pins s σ H Q I q => h.run pins s σ H Q I (k _ _ _ q)⟩
theorem mo_none : MO X W none dNoPart := PO.imp po_none fun σ H Q ⟨τ, G, Xd, Qd, hσ, hA, h, hQ, hX⟩ => hQ _ _ _ (.refl _) hA h
theorem mo_some (h : ME X W e te) : MO X W (some e) (dPart te) := PO.imp (po_some h) fun σ H Q ⟨τ, G, Xd, Qd, hσ, hA, h, hQ, hX⟩ =>
  ⟨τ, G, Xd, _, hσ, hA, h, fun x G1 v H1 e1 r1 a1 h1 => by
    obtain ⟨i, rfl, q⟩ := asI_of h1
    exact ⟨i, r1.intv, hQ _ _ _ e1 a1 q⟩, hX⟩
def liftSl (K : PySem.W.Frag) (mg : Str → Option Value) : V → Option Int → Option Int → Hp → VK → Prop := fun x lo hi H Q =>
  ∃ d G Qd, Rep K mg H x d ∧ Abs K mg G H ∧ rSlD d lo hi G Qd ∧ ∀ d' G' v H', Ext H H' → Rep K mg H' v d' → Abs K mg G' H' → Qd d' G' → Q v H'
theorem slr : SlR X (liftSl X.K X.mg) := by
  intro pins s σ H x v vl vu lo hi sl Q I rx hs pl pu h
  obtain ⟨d, G, Qd, r1, A, h, hQ⟩ := h
  have lst : (onSome (lstOf G d) fun xs => rNewL (cutD xs lo hi) G Qd) → rSlL X.K x lo hi H Q := fun h => by
    obtain ⟨xs, e1, q⟩ := onSome_of h
    obtain ⟨a, zs, rfl, sq, l⟩ := lst_at A r1 e1
    refine ⟨a, zs, rfl, sq, fun p hp => ?_⟩
    exact hQ _ _ _ _ (.new hp) (.ref p) (A.newL hp (l.cut lo hi)) (q p (A.none hp))
  cases d
  case tup xs =>
    obtain ⟨a, zs, rfl, t, l⟩ := r1.tupv
    refine sl_tupA pins s σ H _ v vl vu lo hi sl Q I rx hs pl pu ⟨a, zs, rfl, t, fun z => ?_, fun _ p hp => ?_⟩
    · rw [l.length] at z
      have q : Qd (.tup (cutD xs lo hi)) G := h
      rw [cutD_all z.1 z.2] at q
      exact hQ _ _ _ _ (.refl _) (.tup t l) A q
    · exact hQ _ _ _ _ (.new hp) (.tup (.of upd_same) ((l.cut lo hi).ext (.new hp))) (A.keep hp) h
  case str z => exact sl_str pins s σ H _ v vl vu lo hi sl Q I rx hs pl pu ⟨_, r1.strv, big_line h.1, hQ _ _ _ _ (.refl _) (.str _) A h.2⟩
  all_goals exact sl_list pins s σ H x v vl vu lo hi sl Q I rx hs pl pu (lst h)
theorem m_sl (he : ME X W e te) (hl : MO X W lo tl) (hu : MO X W hi th) : ME X W (.Subscript e (.Slice lo hi none p2) pos) (dSl te tl th) := PE.imp (pe_slice slr he hl hu) fun σ H Q ⟨τ, G, Xd, Qd, hσ, hA, h, hQ, hX⟩ =>
  ⟨τ, G, Xd, _, hσ, hA, h, fun x G1 v H1 e1 r1 a1 h1 => ⟨τ, G1, Xd, _, hσ.ext e1, a1, h1, fun l G2 H2 e2 a2 h2 => ⟨τ, G2, Xd, _, (hσ.ext e1).ext e2, a2, h2, fun u G3 H3 e3 a3 h3 =>
    ⟨x, G3, Qd, (r1.ext e2).ext e3, a3, h3, fun d' G' v' H' e' => hQ d' G' v' H' (((e1.trans e2).trans e3).trans e')⟩, (hX.ext e1).ext e2⟩, hX.ext e1⟩, hX⟩
end

/-! ### calls of built-ins -/
abbrev RC := List D → DH → DQ → Prop
def liftC (K : PySem.W.Frag) (mg : Str → Option Value) (r : RC) : List V → Hp → VK → Prop := fun vs H Q =>
  ∃ ds G Qd, RepL K mg H vs ds ∧ Abs K mg G H ∧ r ds G Qd ∧ ∀ d' G' v H', Ext H H' → Rep K mg H' v d' → Abs K mg G' H' → Qd d' G' → Q v H'
def dB (r : RC) (t : TAD) : TED := fun τ G X Q => t τ G X fun ds G1 => r ds G1 Q
theorem RepL.one {K : PySem.W.Frag} {mg : Str → Option Value} {H : Hp} {vs : List V} {d : D} (r : RepL K mg H vs [d]) : ∃ v, vs = [v] ∧ Rep K mg H v d := by
  cases r with | cons a b => cases b; exact ⟨_, rfl, a⟩
theorem RepL.two {K : PySem.W.Frag} {mg : Str → Option Value} {H : Hp} {vs : List V} {d e : D} (r : RepL K mg H vs [d, e]) : ∃ v w, vs = [v, w] ∧ Rep K mg H v d ∧ Rep K mg H w e := by
  cases r with | cons a b => cases b with | cons b c => cases c; exact ⟨_, _, rfl, a, b⟩
section
variable {X : Cx} {W : WX} {e : Expr} {es : List Expr} {te : TED} {t : TAD} {r : RC} {pos p : Pos}
theorem m_B {id : String} {x : Str} (hc : CallR X (.builtin id) (liftC X.K X.mg r)) (hm : X.mg x = none) (hv : bootBuiltins x = some (.builtin id)) (ha : MA X W (e :: es) t) (hg : Gl X x := by rfl) (hn : x ≠ "__name__" := by decide) (hdb : (x == ("__debug__" : Str)) = false := by decide)
    (hst : starEach (e :: es) X.env = (false, eval e X.env) :: starEach es X.env := by rfl) (hpl : (backTo pos (starEach es X.env)).any (·.1) = false := by rfl) : ME X W (.Call (.Name x p) (e :: es) [] pos) (dB r t) :=
  PE.imp (pe_callB hc hg hm hv ha hn hdb hst hpl) fun σ H Q ⟨τ, G, Xd, Qd, hσ, hA, h, hQ, hX⟩ =>
    ⟨τ, G, Xd, _, hσ, hA, h, fun ds G1 vs H1 e1 r1 a1 h1 => ⟨ds, G1, Qd, r1, a1, h1, fun d' G' v' H' e' => hQ d' G' v' H' (e1.trans e')⟩, hX⟩
theorem m_Ty {T : String} {x : Str} (hc : CallR X (.type T) (liftC X.K X.mg r)) (hm : X.mg x = none) (hv : bootBuiltins x = some (.type T)) (ha : MA X W (e :: es) t) (hg : Gl X x := by rfl) (hn : x ≠ "__name__" := by decide) (hdb : (x == ("__debug__" : Str)) = false := by decide)
    (hst : starEach (e :: es) X.env = (false, eval e X.env) :: starEach es X.env := by rfl) (hpl : (backTo pos (starEach es X.env)).any (·.1) = false := by rfl) : ME X W (.Call (.Name x p) (e :: es) [] pos) (dB r t) :=
  PE.imp (pe_callTy hc hg hm hv ha hn hdb hst hpl) fun σ H Q ⟨τ, G, Xd, Qd, hσ, hA, h, hQ, hX⟩ =>
    ⟨τ, G, Xd, _, hσ, hA, h, fun ds G1 vs H1 e1 r1 a1 h1 => ⟨ds, G1, Qd, r1, a1, h1, fun d' G' v' H' e' => hQ d' G' v' H' (e1.trans e')⟩, hX⟩
def oDct : Option DO → Option (List (Key × D))
  | some (.dct kvs) => some kvs
  | _ => none
theorem oDct_some {o : Option DO} {xs : List (Key × D)} (h : oDct o = some xs) : o = some (.dct xs) := by
  cases o with
  | none => cases h
  | some u => cases u <;> first | (cases h; rfl) | cases h
theorem KRep.length {K : PySem.W.Frag} {mg : Str → Option Value} {H : Hp} : ∀ {vs : List (Key × V)} {ds : List (Key × D)}, KRep K mg H vs ds → vs.length = ds.length
  | _, _, .nil => rfl
  | _, _, .cons _ b => congrArg (· + 1) (KRep.length b)
def lenD (G : DH) : D → Option Nat
  | .str z => if z.length ≤ 16777216 then some z.length else none
  | .tup xs => some xs.length
  | .rl xs => some xs.length
  | .wl xs => some xs.length
  | .ref a => match oLst (G a) with
    | some xs => some xs.length
    | none => (oDct (G a)).map (·.length)
  | _ => none
def rLen : RC := fun ds G Q => match ds with
  | [x] => onSome (lenD G x) fun n => Q (.int n) G
  | _ => False
theorem mc_len : CallR X (.builtin "len") (liftC X.K X.mg rLen) := by
  intro pins s σ H xs us Q I rv h
  obtain ⟨ds, G, Qd, r1, A, h, hQ⟩ := h
  match ds, h with
  | [x], h =>
    obtain ⟨v, rfl, r⟩ := r1.one
    obtain ⟨n, e, h⟩ := onSome_of h
    have fin : ∀ m : Nat, m = n → Q (.int m) H := fun m z => by rw [z]; exact hQ _ _ _ _ (.refl _) (.int _) A h
    have seq : ∀ zs, lstOf G x = some zs → zs.length = n → wpAny (model X.prog X.w) X.A (call (.builtin "len") us) (EP X pins σ Q) X.xe s := fun zs e1 e2 => by
      obtain ⟨a, ws, rfl, sq, l⟩ := lst_at A r e1
      exact call_len_seq pins s σ H _ us Q I rv ⟨a, ws, rfl, .inl sq, fin _ (l.length.trans e2)⟩
    cases x with
    | str z =>
      have e0 : (if z.length ≤ 16777216 then some z.length else none) = some n := e
      split at e0
      · rename_i hz; cases e0; exact call_len_str pins s σ H _ us Q I rv ⟨z, by rw [r.strv], big_line hz, fin _ rfl⟩
      · cases e0
    | tup ys =>
      cases e
      obtain ⟨a, ws, rfl, t, l⟩ := r.tupv
      exact call_len_seq pins s σ H _ us Q I rv ⟨a, ws, rfl, .inr t, fin _ l.length⟩
    | rl ys => cases e; exact seq ys rfl rfl
    | wl ys => cases e; exact seq ys rfl rfl
    | ref a =>
      have e0 : (match oLst (G a) with | some xs => some xs.length | none => (oDct (G a)).map (·.length)) = some n := e
      split at e0
      · rename_i zs hz; cases e0; exact seq zs hz rfl
      · obtain ⟨kvs, e1, e2⟩ := Option.map_eq_some_iff.mp e0
        obtain ⟨ws, e3, l⟩ := A a _ (oDct_some e1)
        exact call_lenD pins s σ H _ us Q I rv ⟨a, ws, by rw [r.refv], e3, fin _ (l.length.trans e2)⟩
    | _ => cases e
def rTupleD : RC := fun ds G Q => match ds with
  | [x] => onSome (seqOf G x) fun xs => Q (.tup xs) G
  | _ => False
theorem mc_tuple : CallR X (.type "tuple") (liftC X.K X.mg rTupleD) := by
  intro pins s σ H xs us Q I rv h
  obtain ⟨ds, G, Qd, r1, A, h, hQ⟩ := h
  match ds, h with
  | [x], h =>
    obtain ⟨v, rfl, r⟩ := r1.one
    obtain ⟨zs, e, h9⟩ := onSome_of h
    replace h := h9
    by_cases ht : ∃ ys, x = .tup ys
    · obtain ⟨ys, rfl⟩ := ht
      cases e
      obtain ⟨a, ws, rfl, t, l⟩ := r.tupv
      exact call_tuple_of pins s σ H _ us Q I rv ⟨a, ws, rfl, .inr ⟨t, hQ _ _ _ _ (.refl _) (.tup t l) A h9⟩⟩
    · have e' : lstOf G x = some zs := by cases x <;> first | exact e | exact absurd ⟨_, rfl⟩ ht
      obtain ⟨a, ws, rfl, sq, l⟩ := lst_at A r e'
      exact call_tuple_of pins s σ H _ us Q I rv ⟨a, ws, rfl, .inl ⟨sq, fun p hp => hQ _ _ _ _ (.new hp) (.tup (.of upd_same) (l.ext (.new hp))) (A.keep hp) h⟩⟩
def rListD : RC := fun ds G Q => match ds with
  | [x] => onSome (seqOf G x) fun xs => rNewL xs G Q
  | _ => False
theorem mc_list : CallR X (.type "list") (liftC X.K X.mg rListD) := by
  intro pins s σ H xs us Q I rv h
  obtain ⟨ds, G, Qd, r1, A, h, hQ⟩ := h
  match ds, h with
  | [x], h =>
    obtain ⟨v, rfl, r⟩ := r1.one
    obtain ⟨zs, e, h⟩ := onSome_of h
    have fin : ∀ ws p, RepL X.K X.mg H ws zs → H p = none → Q (.ref p) (upd H p (.lst ws)) := fun ws p l hp => hQ _ _ _ _ (.new hp) (.ref p) (A.newL hp l) (h p (A.none hp))
    by_cases ht : ∃ ys, x = .tup ys
    · obtain ⟨ys, rfl⟩ := ht
      cases e
      obtain ⟨a, ws, rfl, t, l⟩ := r.tupv
      exact call_list_of pins s σ H _ us Q I rv ⟨a, ws, rfl, .inr t, fun p hp => fin ws p l hp⟩
    · have e' : lstOf G x = some zs := by cases x <;> first | exact e | exact absurd ⟨_, rfl⟩ ht
      obtain ⟨a, ws, rfl, sq, l⟩ := lst_at A r e'
      exact call_list_of pins s σ H _ us Q I rv ⟨a, ws, rfl, .inl sq, fun p hp => fin ws p l hp⟩
def rMin : RC := fun ds G Q => match ds with
  | [.int i, .int j] => Q (.int (if j < i then j else i)) G
  | _ => False
def rMax : RC := fun ds G Q => match ds with
  | [.int i, .int j] => Q (.int (if j > i then j else i)) G
  | _ => False
theorem mc_min (hc : X.calm = true) : CallR X (.builtin "min") (liftC X.K X.mg rMin) := by
  intro pins s σ H xs us Q I rv h
  obtain ⟨ds, G, Qd, r1, A, h, hQ⟩ := h
  match ds, h with
  | [.int i, .int j], h =>
    obtain ⟨v, w, rfl, ra, rb⟩ := r1.two
    exact call_min2 hc pins s σ H _ us Q I rv ⟨i, j, by rw [ra.intv, rb.intv], hQ _ _ _ _ (.refl _) (.int _) A h⟩
theorem mc_max (hc : X.calm = true) : CallR X (.builtin "max") (liftC X.K X.mg rMax) := by
  intro pins s σ H xs us Q I rv h
  obtain ⟨ds, G, Qd, r1, A, h, hQ⟩ := h
  match ds, h with
  | [.int i, .int j], h =>
    obtain ⟨v, w, rfl, ra, rb⟩ := r1.two
    exact call_max2 hc pins s σ H _ us Q I rv ⟨i, j, by rw [ra.intv, rb.intv], hQ _ _ _ _ (.refl _) (.int _) A h⟩
def rStrI : RC := fun ds G Q => match ds with
  | [.int i] => i.natAbs.log2 < 1920 ∧ Q (.str (toString i)) G
  | _ => False
theorem mc_str : CallR X (.type "str") (liftC X.K X.mg rStrI) := by
  intro pins s σ H xs us Q I rv h
  obtain ⟨ds, G, Qd, r1, A, h, hQ⟩ := h
  match ds, h with
  | [.int i], h =>
    obtain ⟨v, rfl, r⟩ := r1.one
    exact call_str_int pins s σ H _ us Q I rv ⟨i, by rw [r.intv], h.1, hQ _ _ _ _ (.refl _) (.str _) A h.2⟩
/-- int(b), int(n) -/
def rIntB : RC := fun ds G Q => match ds with
  | [.int i] => Q (.int i) G
  | [.bl k] => Q (.int (if k then 1 else 0)) G
  | _ => False
theorem mc_intb : CallR X (.type "int") (liftC X.K X.mg rIntB) := by
  intro pins s σ H xs us Q I rv h
  obtain ⟨ds, G, Qd, r1, A, h, hQ⟩ := h
  match ds, h with
  | [.int i], h =>
    obtain ⟨v, rfl, r⟩ := r1.one
    exact call_int1 pins s σ H _ us Q I rv (.inl ⟨i, by rw [r.intv], hQ _ _ _ _ (.refl _) (.int _) A h⟩)
  | [.bl k], h =>
    obtain ⟨v, rfl, r⟩ := r1.one
    exact call_int1 pins s σ H _ us Q I rv (.inr ⟨k, by rw [r.blv], hQ _ _ _ _ (.refl _) (.int _) A h⟩)

/-! ### isinstance with built-in types -/
def tyOf (G : DH) : D → Option String
  | .non => some "NoneType"
  | .bl _ => some "bool"
  | .int _ => some "int"
  | .str _ => some "str"
  | .tup _ => some "tuple"
  | .rl _ => some "list"
  | .wl _ => some "list"
  | .ref a => if (oLst (G a)).isSome then some "list" else if (oDct (G a)).isSome then some "dict" else none
  | _ => none
def isT (ns : List String) (t : String) : Bool := ns.contains t || (t == "bool" && ns.contains "int")
def dIsi (ns : List String) (te : TED) : TED := fun τ G X Q => te τ G X fun x G1 => onSome (tyOf G1 x) fun t => Q (.bl (isT ns t)) G1
theorem tyx_of {v : V} {d : D} {H : Hp} {G : DH} {t : String} (A : Abs X.K X.mg G H) (r : Rep X.K X.mg H v d) (h : tyOf G d = some t) : TyX X.K H v (.type t) ∧ t ∈ ["NoneType", "bool", "int", "str", "tuple", "list", "dict"] := by
  cases d with
  | non => cases h; rw [r.nonv]; exact ⟨.base .non, by decide⟩
  | bl b => cases h; rw [r.blv]; exact ⟨.base (.bl _), by decide⟩
  | int b => cases h; rw [r.intv]; exact ⟨.base (.int _), by decide⟩
  | str b => cases h; rw [r.strv]; exact ⟨.base (.str _), by decide⟩
  | tup b =>
    cases h
    obtain ⟨a, ws, rfl, q, l⟩ := r.tupv
    refine ⟨?_, by decide⟩
    rcases q with (q | ⟨o, q⟩) | ⟨o, its, n, q, c, _⟩
    · exact .base (.tup q)
    · exact .fTuple q
    · exact .kTuple q c
  | rl b =>
    cases h
    obtain ⟨a, ws, rfl, q, l⟩ := r.rlv
    refine ⟨?_, by decide⟩
    rcases q with ⟨o, q⟩ | ⟨o, its, n, q, c, _⟩
    · exact .base (.frz q)
    · exact .kList q c
  | wl b =>
    cases h
    cases r with
    | wl w l =>
      obtain ⟨its, n, q, _⟩ := w
      exact ⟨.kList q rfl, by decide⟩
  | ref a =>
    have h : (if (oLst (G a)).isSome then some "list" else if (oDct (G a)).isSome then some "dict" else none) = some t := h
    rw [r.refv]
    split at h
    · rename_i q
      cases h
      obtain ⟨xs, e⟩ := Option.isSome_iff_exists.mp q
      obtain ⟨ws, e1, _⟩ := A a _ (oLst_some e)
      exact ⟨.base (.lst e1), by decide⟩
    · split at h
      · rename_i q
        cases h
        obtain ⟨xs, e⟩ := Option.isSome_iff_exists.mp q
        obtain ⟨ws, e1, _⟩ := A a _ (oDct_some e)
        exact ⟨.base (.dK e1), by decide⟩
      · cases h
  | gl x => cases h
  | fn _ _ _ _ => cases h
theorem kit_all {K : PySem.W.Frag} : ∀ t ∈ ["NoneType", "bool", "int", "str", "tuple", "list", "dict"], ∀ n ∈ ["bool", "int", "str", "tuple", "list"], PySem.W.kitOne K (.type t) (.type n) = some (isT [n] t) := by
  have h : ∀ t ∈ ["NoneType", "bool", "int", "str", "tuple", "list", "dict"], ∀ n ∈ ["bool", "int", "str", "tuple", "list"], kitB t n = some (isT [n] t) := by decide +kernel
  exact fun t ht n hn => kit_ty (h t ht n hn)
theorem m_isi {n : String} (hi : X.mg ("isinstance" : Str) = none) (hm : X.mg (n : Str) = none) (hv : bootBuiltins (n : Str) = some (.type n)) (hn : n ∈ ["bool", "int", "str", "tuple", "list"]) (he : ME X W e te) {p2 : Pos}
    (hg : Gl X ("isinstance" : Str) := by rfl) (hg2 : Gl X (n : Str) := by rfl) (hnn : ((n : Str)) ≠ "__name__" := by decide) (hdd : (((n : Str)) == ("__debug__" : Str)) = false := by decide)
    (hst : starEach [e, .Name (n : Str) p2] X.env = (false, eval e X.env) :: starEach [.Name (n : Str) p2] X.env := by rfl) : ME X W (.Call (.Name ("isinstance" : Str) p) [e, .Name (n : Str) p2] [] pos) (dIsi [n] te) := by
  have a2 : PA X [.Name (n : Str) p2] (tCons (tC (.ty n)) tNil) := pa_cons (pe_bltn (v := .ty n) hg2 hm hv rfl hnn hdd) pa_nil
  refine PE.imp (pe_callB call_isi hg hi (by decide +kernel) (pa_cons he a2 hst) (by decide) (by decide) hst rfl) fun σ H Q ⟨τ, G, Xd, Qd, hσ, hA, h, hQ, hX⟩ => ?_
  refine ⟨τ, G, Xd, _, hσ, hA, h, fun x G1 v H1 e1 r1 a1 h1 => ?_, hX⟩
  obtain ⟨t, ht, q⟩ := onSome_of h1
  obtain ⟨ty, mem⟩ := tyx_of a1 r1 ht
  exact ⟨v, .ty n, .type t, .type n, _, rfl, .ty n, ty, kit_all t mem n hn, hQ _ _ _ _ e1 (.bl _) a1 q⟩
/-- isinstance(x, (T, U)) -/
theorem m_isi2 {n m : String} (hi : X.mg ("isinstance" : Str) = none) (hm : X.mg (n : Str) = none) (hv : bootBuiltins (n : Str) = some (.type n)) (hm2 : X.mg (m : Str) = none) (hv2 : bootBuiltins (m : Str) = some (.type m)) (hn : n ∈ ["bool", "int", "str", "tuple", "list"]) (hn2 : m ∈ ["bool", "int", "str", "tuple", "list"]) (he : ME X W e te) {p2 p3 p4 : Pos} {k : Nat}
    (hg : Gl X ("isinstance" : Str) := by rfl) (hg2 : Gl X (n : Str) := by rfl) (hg3 : Gl X (m : Str) := by rfl) (hnn : ((n : Str)) ≠ "__name__" := by decide) (hdd : (((n : Str)) == ("__debug__" : Str)) = false := by decide) (hnn2 : ((m : Str)) ≠ "__name__" := by decide) (hdd2 : (((m : Str)) == ("__debug__" : Str)) = false := by decide)
    (hst : starEach [e, .Tuple [.Name (n : Str) p2, .Name (m : Str) p3] k p4] X.env = (false, eval e X.env) :: starEach [.Tuple [.Name (n : Str) p2, .Name (m : Str) p3] k p4] X.env := by rfl) :
    ME X W (.Call (.Name ("isinstance" : Str) p) [e, .Tuple [.Name (n : Str) p2, .Name (m : Str) p3] k p4] [] pos) (dIsi [n, m] te) := by
  have a2 : PA X [.Tuple [.Name (n : Str) p2, .Name (m : Str) p3] k p4] (tCons (tTup (tCons (tC (.ty n)) (tCons (tC (.ty m)) tNil))) tNil) :=
    pa_cons (pe_tup (pa_cons (pe_bltn (v := .ty n) hg2 hm hv rfl hnn hdd) (pa_cons (pe_bltn (v := .ty m) hg3 hm2 hv2 rfl hnn2 hdd2) pa_nil))) pa_nil
  refine PE.imp (pe_callB call_isiT hg hi (by decide +kernel) (pa_cons he a2 hst) (by decide) (by decide) hst rfl) fun σ H Q ⟨τ, G, Xd, Qd, hσ, hA, h, hQ, hX⟩ => ?_
  refine ⟨τ, G, Xd, _, hσ, hA, h, fun x G1 v H1 e1 r1 a1 h1 => ?_, hX⟩
  obtain ⟨t, ht, q⟩ := onSome_of h1
  obtain ⟨ty, mem⟩ := tyx_of a1 r1 ht
  refine ⟨(by show 2 ≤ sizeLine; rw [sizeLine_eq]; decide), fun tp htp => ?_⟩
  obtain ⟨ty2, _⟩ := tyx_of (a1.keep (ho := .tup [.ty n, .ty m]) htp) (r1.ext (.new htp)) ht
  refine ⟨v, tp, [.ty n, .ty m], .type t, [.type n, .type m], isT [n, m] t, rfl, upd_same, .cons (.ty n) (.cons (.ty m) .nil), ty2, ?_, hQ _ _ _ _ (e1.trans (.new htp)) (.bl _) (a1.keep htp) q⟩
  have k1 := kit_all (K := X.K) t mem n hn
  have k2 := kit_all (K := X.K) t mem m hn2
  have ha : isT [n, m] t = (isT [n] t || isT [m] t) := by
    unfold isT
    simp only [List.contains_cons, List.contains_nil, Bool.or_false]
    cases t == n <;> cases t == m <;> cases t == "bool" <;> cases ("int" == n) <;> cases ("int" == m) <;> rfl
  rw [ha]
  refine kitAny_cons k1 (fun z => ?_) (fun z => by rw [z]; rfl)
  refine kitAny_cons k2 (fun z2 => by rw [z, z2]; rfl) (fun z2 => by rw [z2, Bool.or_true])
end
end L3

namespace L3
open PySem PySem.Spec PyProof.Rows L2

/-! ### methods of lists -/
abbrev RM := D → List D → DH → DQ → Prop
def liftM (K : PySem.W.Frag) (mg : Str → Option Value) (r : RM) : V → List V → Hp → VK → Prop := fun x vs H Q =>
  ∃ d ds G Qd, Rep K mg H x d ∧ RepL K mg H vs ds ∧ Abs K mg G H ∧ r d ds G Qd ∧ ∀ d' G' v H', Ext H H' → Rep K mg H' v d' → Abs K mg G' H' → Qd d' G' → Q v H'
/-- a method of a built-in type: ty says that it is of the type -/
def dBM (ty : D → DH → Prop) (r : RM) (to : TED) (t : TAD) : TED := fun τ G X Q => to τ G X fun x G1 => ty x G1 ∧ t τ G1 X fun ds G2 => r x ds G2 Q
def isL (x : D) (G : DH) : Prop := ∃ xs, lstOf G x = some xs
def rAppD : RM := fun x ds G Q => match ds with
  | [y] => onSome (mutOf G x) fun xs => xs.length < 16777216 ∧ ∀ a, x = .ref a → Q .non (up G a (.lst (xs ++ [y])))
  | _ => False
def rPop0D : RM := fun x ds G Q => match ds with
  | [.int i] => onSome (mutOf G x) fun xs => i = 0 ∧ match xs with
    | y :: ys => ∀ a, x = .ref a → Q y (up G a (.lst ys))
    | [] => False
  | _ => False
def rClearD : RM := fun x ds G Q => match ds with
  | [] => onSome (mutOf G x) fun xs => ∀ a, x = .ref a → Q .non (up G a (.lst []))
  | _ => False
def rReverseD : RM := fun x ds G Q => match ds with
  | [] => onSome (mutOf G x) fun xs => ∀ a, x = .ref a → Q .non (up G a (.lst xs.reverse))
  | _ => False
def rInsertD : RM := fun x ds G Q => match ds with
  | [.int i, y] => onSome (mutOf G x) fun xs => (xs.length < 16777216 ∧ 0 ≤ i ∧ i < 2 ^ 63) ∧ ∀ a, x = .ref a → Q .non (up G a (.lst (xs.take i.toNat ++ [y] ++ xs.drop i.toNat)))
  | _ => False
section
variable {X : Cx} {W : WX} {e o : Expr} {es : List Expr} {to te : TED} {t : TAD} {pos p apos cpos : Pos} {T : String} {name : Str} {id : String} {r : RM}
theorem big_lt {n : Nat} (h : n < 16777216) : n < sizeLine := by rw [sizeLine_eq]; exact h
theorem mm_append : MtR X "list.append" (liftM X.K X.mg rAppD) := by
  intro pins s σ H x xs v us Q I rx rv h
  obtain ⟨d, ds, G, Qd, r1, r2, A, h, hQ⟩ := h
  match ds, h with
  | [y], h =>
    obtain ⟨w, rfl, ry⟩ := r2.one
    obtain ⟨zs, e, hz, h⟩ := onSome_of h
    obtain ⟨a, ws, rfl, rfl, e1, e2, l⟩ := mut_at A r1 e
    refine mt_append pins s σ H _ _ v us Q I rx rv ⟨a, ws, w, rfl, rfl, e2, by rw [l.length]; exact big_lt hz, ?_⟩
    exact hQ _ _ _ _ (.lst e2) .non (A.setL e2 (l.snoc ry)) (h a rfl)
theorem mm_pop0 : MtR X "list.pop" (liftM X.K X.mg rPop0D) := by
  intro pins s σ H x xs v us Q I rx rv h
  obtain ⟨d, ds, G, Qd, r1, r2, A, h, hQ⟩ := h
  match ds, h with
  | [.int i], h =>
    obtain ⟨w, rfl, ry⟩ := r2.one
    obtain ⟨zs, e, rfl, h2⟩ := onSome_of h
    clear h
    obtain ⟨a, ws, rfl, rfl, e1, e2, l⟩ := mut_at A r1 e
    match zs, h2 with
    | z :: zs, h =>
      cases l with
      | cons l1 l2 =>
        rename_i w0 ws
        refine mt_popAt pins s σ H _ _ v us Q I rx rv ⟨a, _, 0, 0, w0, rfl, by rw [ry.intv], e2, by decide, by decide, ?_, rfl, ?_⟩
        · simp [seqIndex?]
        · exact hQ _ _ _ _ (.lst e2) (l1.ext (.lst e2)) (A.setL e2 l2) (h a rfl)
theorem mm_clear : MtR X "list.clear" (liftM X.K X.mg rClearD) := by
  intro pins s σ H x xs v us Q I rx rv h
  obtain ⟨d, ds, G, Qd, r1, r2, A, h, hQ⟩ := h
  match ds, h with
  | [], h =>
    cases r2
    obtain ⟨zs, e, h⟩ := onSome_of h
    obtain ⟨a, ws, rfl, rfl, e1, e2, l⟩ := mut_at A r1 e
    exact mt_clear pins s σ H _ _ v us Q I rx rv ⟨a, ws, rfl, rfl, e2, hQ _ _ _ _ (.lst e2) .non (A.setL e2 .nil) (h a rfl)⟩
theorem mm_reverse : MtR X "list.reverse" (liftM X.K X.mg rReverseD) := by
  intro pins s σ H x xs v us Q I rx rv h
  obtain ⟨d, ds, G, Qd, r1, r2, A, h, hQ⟩ := h
  match ds, h with
  | [], h =>
    cases r2
    obtain ⟨zs, e, h⟩ := onSome_of h
    obtain ⟨a, ws, rfl, rfl, e1, e2, l⟩ := mut_at A r1 e
    exact mt_reverse pins s σ H _ _ v us Q I rx rv ⟨a, ws, rfl, rfl, e2, hQ _ _ _ _ (.lst e2) .non (A.setL e2 l.reverse) (h a rfl)⟩
theorem mm_insert : MtR X "list.insert" (liftM X.K X.mg rInsertD) := by
  intro pins s σ H x xs v us Q I rx rv h
  obtain ⟨d, ds, G, Qd, r1, r2, A, h, hQ⟩ := h
  match ds, h with
  | [.int i, y], h =>
    obtain ⟨w, w', rfl, ra, ry⟩ := r2.two
    obtain ⟨zs, e, ⟨h1, h2, h3⟩, h⟩ := onSome_of h
    obtain ⟨a, ws, rfl, rfl, e1, e2, l⟩ := mut_at A r1 e
    refine mt_insert pins s σ H _ _ v us Q I rx rv ⟨a, ws, i, w', rfl, by rw [ra.intv], e2, by rw [l.length]; exact big_lt h1, h2, h3, ?_⟩
    exact hQ _ _ _ _ (.lst e2) .non (A.setL e2 (((l.take _).append (.cons ry .nil)).append (l.drop _))) (h a rfl)
/-- a method of lists -/
theorem m_lm (pa : PlainAttrs "list") (slot : Slot "list" name id) (hty : typeOf (.builtin id) = pure (.type "method_descriptor")) (hm : MtR X id (liftM X.K X.mg r)) (ho : ME X W o to) (ha : MA X W (e :: es) t)
    (hbase : attributeBase o name X.env (eval o X.env) = eval o X.env := by rfl)
    (hfew : ((backTo cpos (starEach (e :: es) X.env)).all (fun x => !x.1) && (backToKw cpos (keywordEach [] X.env)).all (fun x => x.1.isSome)
      && decide ((e :: es).length + ([] : List Keyword).length + (if ([] : List Keyword).isEmpty then 0 else 1) < 30)) = true := by rfl)
    (hline : (apos.endLine == cpos.line) = true := by rfl) (hs : starEach (e :: es) X.env = (false, eval e X.env) :: starEach es X.env := by rfl) (hplain : (backTo cpos (starEach es X.env)).any (·.1) = false := by rfl) :
    ME X W (.Call (.Attribute o name apos) (e :: es) [] cpos) (dBM isL r to t) :=
  PE.imp (pe_bm pa slot hty hm ho ha hbase hfew hline hs hplain) fun σ H Q ⟨τ, G, Xd, Qd, hσ, hA, h, hQ, hX⟩ =>
    ⟨τ, G, Xd, _, hσ, hA, h, fun x G1 v H1 e1 r1 a1 h1 => by
      obtain ⟨⟨zs, hz⟩, h2⟩ := h1
      obtain ⟨a, ws, rfl, sq, _⟩ := lst_at a1 r1 hz
      refine ⟨.inl ⟨rfl, _, sq⟩, τ, G1, Xd, _, hσ.ext e1, a1, h2, fun ds G2 vs H2 e2 r2 a2 h3 => ?_, hX.ext e1⟩
      exact ⟨x, ds, G2, Qd, r1.ext e2, r2, a2, h3, fun d' G' v' H' e' => hQ d' G' v' H' ((e1.trans e2).trans e')⟩, hX⟩
theorem m_lm0 (pa : PlainAttrs "list") (slot : Slot "list" name id) (hty : typeOf (.builtin id) = pure (.type "method_descriptor")) (hm : MtR X id (liftM X.K X.mg r)) (ho : ME X W o to)
    (hbase : attributeBase o name X.env (eval o X.env) = eval o X.env := by rfl) (hline : (apos.endLine == cpos.line) = true := by rfl) :
    ME X W (.Call (.Attribute o name apos) [] [] cpos) (dBM isL r to dNil) :=
  PE.imp (pe_bm0 pa slot hty hm ho hbase hline) fun σ H Q ⟨τ, G, Xd, Qd, hσ, hA, h, hQ, hX⟩ =>
    ⟨τ, G, Xd, _, hσ, hA, h, fun x G1 v H1 e1 r1 a1 h1 => by
      obtain ⟨⟨zs, hz⟩, h2⟩ := h1
      obtain ⟨a, ws, rfl, sq, _⟩ := lst_at a1 r1 hz
      exact ⟨.inl ⟨rfl, _, sq⟩, x, [], G1, Qd, r1, .nil, a1, h2, fun d' G' v' H' e' => hQ d' G' v' H' (e1.trans e')⟩, hX⟩
end

/-! ### targets -/
abbrev TGD := D → DSt → DH → DX → (DSt → DH → Prop) → Prop
abbrev TGsD := List D → DSt → DH → DX → (DSt → DH → Prop) → Prop
def XOkS (K : PySem.W.Frag) (mg : Str → Option Value) (W : WX) (Xd : DX) (H : Hp) : Prop := ∀ σ', XOk K mg W Xd σ' H
theorem XOkS.ext {K : PySem.W.Frag} {mg : Str → Option Value} {W : WX} {Xd : DX} {H H' : Hp} (h : XOkS K mg W Xd H) (e : Ext H H') : XOkS K mg W Xd H' := fun σ' => (h σ').ext e
def liftG (K : PySem.W.Frag) (mg : Str → Option Value) (W : WX) (td : TGD) : TG := fun v σ H Q =>
  ∃ d τ G Xd Qd, Rep K mg H v d ∧ StRep K mg H σ τ ∧ Abs K mg G H ∧ td d τ G Xd Qd ∧ (∀ τ' G' σ' H', Ext H H' → StRep K mg H' σ' τ' → Abs K mg G' H' → Qd τ' G' → Q σ' H') ∧ XOkS K mg W Xd H
def liftGs (K : PySem.W.Frag) (mg : Str → Option Value) (W : WX) (td : TGsD) : TGs := fun vs σ H Q =>
  ∃ ds τ G Xd Qd, RepL K mg H vs ds ∧ StRep K mg H σ τ ∧ Abs K mg G H ∧ td ds τ G Xd Qd ∧ (∀ τ' G' σ' H', Ext H H' → StRep K mg H' σ' τ' → Abs K mg G' H' → Qd τ' G' → Q σ' H') ∧ XOkS K mg W Xd H
abbrev MG (X : Cx) (W : WX) (e : Expr) (td : TGD) : Prop := PG X e (liftG X.K X.mg W td)
abbrev MGs (X : Cx) (W : WX) (e : List Expr) (td : TGsD) : Prop := PGs X e (liftGs X.K X.mg W td)
theorem PG.imp {X : Cx} {e : Expr} {t t' : TG} (h : PG X e t) (k : ∀ v σ H Q, t' v σ H Q → t v σ H Q) : PG X e t' := ⟨fun pins s σ H v u Q I r q => h.run pins s σ H v u Q I r (k _ _ _ _ q)⟩
theorem PGs.imp {X : Cx} {e : List Expr} {t t' : TGs} (h : PGs X e t) (k : ∀ v σ H Q, t' v σ H Q → t v σ H Q) : PGs X e t' := ⟨fun pins s σ H v u Q I r q => h.run pins s σ H v u Q I r (k _ _ _ _ q)⟩
/-- the slots, worked out -/
def forceS : DSt → (DSt → Prop) → Prop
  | [], Q => Q []
  | a :: l, Q => forceS l fun l' => Q (a :: l')
theorem forceS_eq : ∀ {τ : DSt} {Q : DSt → Prop}, forceS τ Q = Q τ
  | [], _ => rfl
  | _ :: l, _ => forceS_eq (τ := l)
theorem forceS_of {τ : DSt} {Q : DSt → Prop} (h : forceS τ Q) : Q τ := forceS_eq.mp h
def gSlot (i : Nat) : TGD := fun v τ G _ Q => forceS (τ.set i (some v)) fun τ' => Q τ' G
def gsNil : TGsD := fun vs τ G _ Q => match vs with | [] => Q τ G | _ => False
def gsCons (t : TGD) (u : TGsD) : TGsD := fun vs τ G X Q => match vs with | v :: r => t v τ G X fun τ' G' => u r τ' G' X Q | _ => False
/-- unpacked: a tuple; a list -/
def gTupD (n : Nat) (t : TGsD) : TGD := fun v τ G X Q => match v with | .tup xs => xs.length = n ∧ t xs τ G X Q | _ => False
def gLstD (n : Nat) (t : TGsD) : TGD := fun v τ G X Q => onSome (lstOf G v) fun xs => xs.length = n ∧ t xs τ G X Q
def gFld (c : String) (to : TED) (f : String) : TGD := fun v τ G X Q => to τ G X fun x G1 => match x with
  | .ref a => onSome (oIns (G1 a)) fun p => (p.1 = c ∧ p.2.length < 40) ∧ Q τ (up G1 a (.ins c (putD f v p.2)))
  | _ => False
def gSubL (to ti : TED) : TGD := fun v τ G X Q => to τ G X fun x G1 => ti τ G1 X fun y G2 => asI y fun i => match x with
  | .ref a => onSome (oLst (G2 a)) fun xs => onSome (ixN xs.length i) fun j => Q τ (up G2 a (.lst (xs.set j v)))
  | _ => False
section
variable {X : Cx} {W : WX} {e o i : Expr} {es : List Expr} {to ti te : TED} {t : TGD} {u : TGsD} {pos p : Pos}
theorem mg_name {j : Nat} {x : Str} (hN : X.N.Nodup) (hi : X.N[j]? = some x := by rfl) (hx : Loc X.env.scope x := by first | exact Or.inl rfl | exact Or.inr rfl) (hf : X.fn x = true ∨ X.env.scope.names.lookup x = some .local := by first | exact .inl rfl | exact .inr rfl | assumption) : MG X W (.Name x pos) (gSlot j) :=
  PG.imp (pg_name hN hi hx hf) fun v σ H Q ⟨d, τ, G, Xd, Qd, hr, hσ, hA, h, hQ, hX⟩ => hQ _ _ _ _ (.refl _) (hσ.set hr j) hA (forceS_of (Q := fun τ' => Qd τ' G) h)
theorem mgs_nil : MGs X W [] gsNil := PGs.imp pgs_nil fun vs σ H Q ⟨ds, τ, G, Xd, Qd, hr, hσ, hA, h, hQ, hX⟩ => by
  cases ds with
  | nil => cases hr; exact ⟨rfl, hQ _ _ _ _ (.refl _) hσ hA h⟩
  | cons _ _ => exact (show False from h).elim
theorem mgs_cons (h1 : MG X W e t) (h2 : MGs X W es u) (hs : (assignEach (e :: es) X.env).map (·.2) = assign e X.env :: (assignEach es X.env).map (·.2) := by rfl) : MGs X W (e :: es) (gsCons t u) :=
  PGs.imp (pgs_cons h1 h2 hs) fun vs σ H Q ⟨ds, τ, G, Xd, Qd, hr, hσ, hA, h, hQ, hX⟩ => by
    cases ds with
    | nil => exact (show False from h).elim
    | cons d ds =>
      cases hr with
      | cons r1 r2 =>
        refine ⟨_, _, rfl, d, τ, G, Xd, _, r1, hσ, hA, h, fun τ' G' σ' H' e1 s1 a1 h1 => ?_, hX⟩
        exact ⟨ds, τ', G', Xd, Qd, r2.ext e1, s1, a1, h1, fun τ2 G2 σ2 H2 e2 => hQ τ2 G2 σ2 H2 (e1.trans e2), hX.ext e1⟩
theorem mg_tup {k n : Nat} (hc : X.calm = true) (h : MGs X W es u) (hn : (assignEach es X.env).length = n := by rfl) (hst : (assignEach es X.env).findIdx? (·.1) = none := by rfl) : MG X W (.Tuple es k pos) (gTupD n u) :=
  PG.imp (pg_tup hc h hn hst) fun v σ H Q ⟨d, τ, G, Xd, Qd, hr, hσ, hA, h, hQ, hX⟩ => by
    cases d <;> try exact (show False from h).elim
    obtain ⟨a, xs, rfl, q, l⟩ := hr.tupv
    exact ⟨a, xs, rfl, q, l.length.trans h.1, _, τ, G, Xd, Qd, l, hσ, hA, h.2, hQ, hX⟩
theorem mg_lst {k n : Nat} (hc : X.calm = true) (h : MGs X W es u) (hn : (assignEach es X.env).length = n := by rfl) (hst : (assignEach es X.env).findIdx? (·.1) = none := by rfl) : MG X W (.Tuple es k pos) (gLstD n u) :=
  PG.imp (pg_unl hc h hn hst) fun v σ H Q ⟨d, τ, G, Xd, Qd, hr, hσ, hA, h, hQ, hX⟩ => by
    obtain ⟨xs, e1, h⟩ := onSome_of h
    obtain ⟨a, ws, rfl, sq, l⟩ := lst_at hA hr e1
    exact ⟨a, ws, rfl, sq, l.length.trans h.1, _, τ, G, Xd, Qd, l, hσ, hA, h.2, hQ, hX⟩
theorem FldAll.put {c f : String} {v : D} {fs : List (String × D)} (F : FldAll c fs) (h : fldOk c f = true) : FldAll c (putD f v fs) := fun g u q => by
  rw [lookup_putD] at q
  split at q
  · rename_i z; rw [z]; exact h
  · exact F g u q
theorem set_fld {c f : String} {K : PySem.W.Frag} {mg : Str → Option Value} {H : Hp} {G : DH} {a C dx : Addr} {vs : List (Str × V)} {fs : List (String × D)} {v : V} {d : D} (A : Abs K mg G H) (hC : mg (c : Str) = some (.ref C)) (eH : H a = some (.ins C dx vs)) (fr : FRep K mg H vs fs) (fo : FldAll c fs)
    (hl : fs.length < 40) (ok : fldOk c f = true) (r : Rep K mg H v d) : Abs K mg (up G a (.ins c (putD f d fs))) (upd H a (.ins C dx (putF (f : Str) v vs))) :=
  A.upd (.ins eH) (show ObjRep K mg _ a (.ins c (putD f d fs)) from ⟨C, dx, _, hC, upd_same, FRep.put (r.ext (.ins eH)) (fr.ext (.ins eH)), fo.put ok, by have := length_putD f d fs; omega⟩)
/-- o.f = .. as one of several targets, or alone -/
theorem mg_fld {c f : String} (T : FldTxt X.K X.mg) (ok : fldOk c f = true) (ho : ME X W o to) : MG X W (.Attribute o (f : Str) pos) (gFld c to f) := by
  refine ⟨fun pins s σ H v u Q I r ⟨d, τ, G, Xd, Qd, hr, hσ, hA, h, hQ, hX⟩ => ?_⟩
  rw [PySem.assign_Attribute]
  refine wpAny_bind (wpAny_holding (thn (ho.run pins s σ H (fun x H1 => ∃ dx G1, Ext H H1 ∧ Rep X.K X.mg H1 x dx ∧ Abs X.K X.mg G1 H1 ∧ _) I ⟨τ, G, Xd, _, hσ, hA, h, fun x G1 v' H1 e1 r1 a1 h1 => ⟨x, G1, e1, r1, a1, h1⟩, hX σ⟩) fun ov s1 ⟨x, H1, I1, rx, xd, G1, e1, r1, a1, h1⟩ => ?_))
  cases xd <;> try exact (show False from h1).elim
  obtain ⟨⟨c', fs⟩, e2, ⟨hc, hl⟩, q⟩ := onSome_of h1
  simp only at hc hl q
  subst hc
  obtain ⟨C, dx, vs, hC, eH, fr, fo, _⟩ := a1 _ _ (oIns_some e2)
  obtain ⟨cl, na⟩ := T c' f C hC ok
  have e3 := r1.refv
  subst e3
  cases rx
  refine wpAny_bind (wpAny_standAt (wpAny_bind (wpAny_holding (setattr_ok I1 eH cl na (by rw [fr.length]; omega) r fun s2 I2 => ?_))))
  refine wpAny_release ⟨σ, _, I2, ?_⟩
  exact hQ _ _ _ _ (e1.trans (.ins eH)) (hσ.ext (e1.trans (.ins eH))) (set_fld a1 hC eH fr fo hl ok (hr.ext e1)) q
theorem mg_sub (ho : ME X W o to) (hi : ME X W i ti)
    (ha : ∀ v, assign (.Subscript o i pos) X.env v = (do
      let ov ← holding [v] (eval o X.env)
      let iv ← holding [v, ov] (eval i X.env)
      standAt pos
      holding [v, ov, iv] (setItem ov iv v)
      release [v, ov, iv] []) := by intro _; rfl) : MG X W (.Subscript o i pos) (gSubL to ti) :=
  PG.imp (pg_sub ho hi set_list ha) fun v σ H Q ⟨d, τ, G, Xd, Qd, hr, hσ, hA, h, hQ, hX⟩ => by
    refine ⟨τ, G, Xd, _, hσ, hA, h, fun x G1 xv H1 e1 r1 a1 h1 => ?_, hX σ⟩
    refine ⟨τ, G1, Xd, _, hσ.ext e1, a1, h1, fun y G2 yv H2 e2 r2 a2 h2 => ?_, (hX σ).ext e1⟩
    obtain ⟨k, rfl, h3⟩ := asI_of h2
    cases x <;> try exact (show False from h3).elim
    obtain ⟨xs, ex, h4⟩ := onSome_of h3
    obtain ⟨j, ej, h5⟩ := onSome_of h4
    obtain ⟨zs, ez, l⟩ := a2 _ _ (oLst_some ex)
    refine ⟨_, zs, k, j, r1.refv, r2.intv, ez, by rw [l.length]; exact ej, ?_⟩
    exact hQ _ _ _ _ ((e1.trans e2).trans (.lst ez)) (hσ.ext ((e1.trans e2).trans (.lst ez))) (a2.setL ez (l.set (hr.ext (e1.trans e2)) j)) h5

/-! ### statements -/
def sNx : TSD := fun D_ τ G => D_.nx τ G
def sSeq (t u : TSD) : TSD := fun D_ τ G => match D_ with | ⟨nx, rt, xx, bk, ct⟩ => t ⟨fun τ' G' => u ⟨nx, rt, xx, bk, ct⟩ τ' G', rt, xx, bk, ct⟩ τ G
def sAsg (te : TED) (g : TGD) : TSD := fun D_ τ G => te τ G D_.xx fun x G1 => g x τ G1 D_.xx D_.nx
def sDo (te : TED) : TSD := fun D_ τ G => te τ G D_.xx fun _ G1 => D_.nx τ G1
def sRet (te : TED) : TSD := fun D_ τ G => te τ G D_.xx D_.rt
def sRetN : TSD := fun D_ _ G => D_.rt .non G
def sIf (c : TTD) (t u : TSD) : TSD := fun D_ τ G => c τ G D_.xx fun k G1 => ifB k (t D_ τ G1) (u D_ τ G1)
def sBrk : TSD := fun D_ τ G => D_.bk τ G
def sCnt : TSD := fun D_ τ G => D_.ct τ G
variable {st : Stmt} {sts : List Stmt} {sa sb : TSD}
theorem ms_nil : MSs X W [] sNx := PSs.imp pss_nil fun D_ σ H ⟨τ, G, Dd, hσ, hA, h, hE⟩ => hE.nx _ _ _ _ (.refl _) hσ hA h
theorem ms_one (h1 : MS X W st sa) : MSs X W [st] sa := pss_one h1
theorem ms_cons (h1 : MS X W st sa) (h2 : MSs X W sts sb) : MSs X W (st :: sts) (sSeq sa sb) := PSs.imp (pss_cons h1 h2) fun D_ σ H ⟨τ, G, Dd, hσ, hA, h, hE⟩ =>
  ⟨τ, G, _, hσ, hA, h, ⟨fun τ' G' σ' H' e s a q => ⟨τ', G', Dd, s, a, q, hE.ext e⟩, hE.rt, hE.bk, hE.ct, hE.xx⟩⟩
theorem ms_pass : MS X W (.Pass pos) sNx := PS.imp ps_pass fun D_ σ H ⟨τ, G, Dd, hσ, hA, h, hE⟩ => hE.nx _ _ _ _ (.refl _) hσ hA h
theorem ms_brk : MS X W (.Break pos) sBrk := PS.imp ps_break fun D_ σ H ⟨τ, G, Dd, hσ, hA, h, hE⟩ => hE.bk _ _ _ _ (.refl _) hσ hA h
theorem ms_cnt : MS X W (.Continue pos) sCnt := PS.imp ps_continue fun D_ σ H ⟨τ, G, Dd, hσ, hA, h, hE⟩ => hE.ct _ _ _ _ (.refl _) hσ hA h
theorem ms_do (he : ME X W e te) (hs : swapsWith e none pos.line X.env = pure false := by rfl) : MS X W (.Expr e pos) (sDo te) := PS.imp (ps_expr he hs) fun D_ σ H ⟨τ, G, Dd, hσ, hA, h, hE⟩ =>
  ⟨τ, G, Dd.xx, _, hσ, hA, h, fun x G1 v H1 e1 r1 a1 h1 => hE.nx _ _ _ _ e1 (hσ.ext e1) a1 h1, hE.xx σ⟩
theorem ms_ret (he : ME X W e te) : MS X W (.Return (some e) pos) (sRet te) := PS.imp (ps_ret he) fun D_ σ H ⟨τ, G, Dd, hσ, hA, h, hE⟩ =>
  ⟨τ, G, Dd.xx, _, hσ, hA, h, fun x G1 v H1 e1 r1 a1 h1 => hE.rt _ _ _ _ e1 r1 a1 h1, hE.xx σ⟩
theorem ms_retN : MS X W (.Return none pos) sRetN := PS.imp ps_retN fun D_ σ H ⟨τ, G, Dd, hσ, hA, h, hE⟩ => hE.rt _ _ _ _ (.refl _) .non hA h
theorem ms_if {c : Expr} {a b : List Stmt} {tc : TTD} (hc : MT X W c tc) (ha : MSs X W a sa) (hb : MSs X W b sb) : MS X W (.If c a b pos) (sIf tc sa sb) := PS.imp (ps_if hc ha hb) fun D_ σ H ⟨τ, G, Dd, hσ, hA, h, hE⟩ =>
  ⟨τ, G, Dd.xx, _, hσ, hA, h, fun k G1 H1 e1 a1 h1 => by
    cases k with
    | true => rw [ifB_true] at h1; exact ⟨τ, G1, Dd, hσ.ext e1, a1, h1, hE.ext e1⟩
    | false => rw [ifB_false] at h1; exact ⟨τ, G1, Dd, hσ.ext e1, a1, h1, hE.ext e1⟩, hE.xx σ⟩
theorem lift_asg {D_ : Ends} {σ : L2.St} {H : Hp} (h : liftS X.K X.mg W (sAsg te t) D_ σ H) : tAsg (liftE X.K X.mg W te) (liftG X.K X.mg W t) D_ σ H := by
  obtain ⟨τ, G, Dd, hσ, hA, h, hE⟩ := h
  refine ⟨τ, G, Dd.xx, _, hσ, hA, h, fun x G1 v H1 e1 r1 a1 h1 => ?_, hE.xx σ⟩
  exact ⟨x, τ, G1, Dd.xx, Dd.nx, r1, hσ.ext e1, a1, h1, fun τ' G' σ' H' e2 => hE.nx _ _ _ _ (e1.trans e2), (fun σ' => (hE.xx σ').ext e1)⟩
/-- target = value -/
theorem ms_asg {tg : Expr} (he : ME X W e te) (hg : MG X W tg t) (hs : swapsWithSole [tg] e pos.line X.env = pure false := by rfl) (hw : swappedStores [tg] e X.env = pure none := by rfl)
    (h1 : (assignEach [tg] X.env).map (·.2) = [assign tg X.env] := by rfl) : MS X W (.Assign [tg] e pos) (sAsg te t) := PS.imp (ps_asg he hg hs hw h1) fun _ _ _ h => lift_asg h
end
end L3

namespace L3
open PySem PySem.Spec PyProof.Rows L2

/-! ### what a loop walks -/
structure DIt where
  items : List D
  ok : DH → Prop
abbrev TID := DSt → DH → DX → (DIt → DH → Prop) → Prop
def ItRel (K : PySem.W.Frag) (mg : Str → Option Value) (H0 : Hp) (J : It) (I : DIt) : Prop := ∀ G H, Ext H0 H → Abs K mg G H → I.ok G →
  (∀ i, i < I.items.length → J.go i H ∧ ∀ x H', J.yld i H x H' → ∃ d, I.items[i]? = some d ∧ Ext H H' ∧ Rep K mg H' x d ∧ Abs K mg G H') ∧ J.stop I.items.length H
def liftI (K : PySem.W.Frag) (mg : Str → Option Value) (W : WX) (td : TID) : TI := fun σ H R =>
  ∃ τ G Xd Rd, StRep K mg H σ τ ∧ Abs K mg G H ∧ td τ G Xd Rd ∧ (∀ J I G' H', Ext H H' → Abs K mg G' H' → ItRel K mg H' J I → Rd I G' → R J H') ∧ XOk K mg W Xd σ H
abbrev MI (X : Cx) (W : WX) (tg e : Expr) (td : TID) : Prop := PI X tg e (liftI X.K X.mg W td)
theorem PI.imp {X : Cx} {tg e : Expr} {t t' : TI} (h : PI X tg e t) (k : ∀ σ H Q, t' σ H Q → t σ H Q) : PI X tg e t' := ⟨fun pins s σ H Q I q => h.run pins s σ H Q I (k _ _ _ q)⟩
def isTupB : D → Bool
  | .tup _ => true
  | _ => false
/-- for x in a tuple -/
def iTupD (te : TED) : TID := fun τ G X R => te τ G X fun x G1 => match x with | .tup xs => R ⟨xs, fun _ => True⟩ G1 | _ => False
/-- for x in a list -/
def iLstD (te : TED) : TID := fun τ G X R => te τ G X fun x G1 => onSome (lstOf G1 x) fun xs => R ⟨xs, fun G' => lstOf G' x = some xs⟩ G1
def rangeD (lo : Int) (n : Nat) : List D := (List.range n).map fun (i : Nat) => .int (lo + (i : Int))
def inR (i : Int) : Prop := -(2 ^ 62) ≤ i ∧ i < 2 ^ 62
def iRngD1 (t : TED) : TID := fun τ G X R => t τ G X fun x G1 => asI x fun j => inR j ∧ R ⟨rangeD 0 j.toNat, fun _ => True⟩ G1
def iRngD2 (t u : TED) : TID := fun τ G X R => t τ G X fun x G1 => u τ G1 X fun y G2 => asI x fun i => asI y fun j => (inR i ∧ inR j) ∧ R ⟨rangeD i (j - i).toNat, fun _ => True⟩ G2
def enumD : Nat → List D → List D
  | _, [] => []
  | i, d :: ds => .tup [.int (i : Int), d] :: enumD (i + 1) ds
def iEnumL (te : TED) : TID := fun τ G X R => te τ G X fun x G1 => onSome (lstOf G1 x) fun xs => R ⟨enumD 0 xs, fun G' => lstOf G' x = some xs⟩ G1
theorem enumD_length : ∀ (i : Nat) (ds : List D), (enumD i ds).length = ds.length
  | _, [] => rfl
  | i, d :: ds => congrArg (· + 1) (enumD_length (i + 1) ds)
theorem enumD_get : ∀ (k : Nat) (ds : List D) (i : Nat) (d : D), ds[i]? = some d → (enumD k ds)[i]? = some (.tup [.int ((k + i : Nat) : Int), d])
  | k, [], i, d, h => by simp at h
  | k, x :: ds, 0, d, h => by simp at h; subst h; rfl
  | k, x :: ds, i + 1, d, h => by
    have := enumD_get (k + 1) ds i d (by simpa using h)
    have e : k + 1 + i = k + (i + 1) := by omega
    rw [e] at this
    simpa [enumD] using this
theorem rangeD_get (lo : Int) (n i : Nat) (h : i < n) : (rangeD lo n)[i]? = some (.int (lo + (i : Int))) := by
  unfold rangeD
  rw [List.getElem?_map, List.getElem?_range h]
  rfl
theorem rangeD_length (lo : Int) (n : Nat) : (rangeD lo n).length = n := by unfold rangeD; simp
section
variable {X : Cx} {W : WX} {e a b tg : Expr} {te ta tb : TED} {pos p tpos : Pos}
theorem get_some {α : Type} {xs : List α} {i : Nat} (h : i < xs.length) : ∃ x, xs[i]? = some x := ⟨_, List.getElem?_eq_getElem h⟩
theorem mi_lst (he : ME X W e te) : MI X W tg e (iLstD te) := PI.imp (pi_list he) fun σ H R ⟨τ, G, Xd, Rd, hσ, hA, h, hR, hX⟩ =>
  ⟨τ, G, Xd, _, hσ, hA, h, fun x G1 v H1 e1 r1 a1 h1 => by
    obtain ⟨xs, ex, q⟩ := onSome_of h1
    obtain ⟨a, ws, rfl, sq, l⟩ := lst_at a1 r1 ex
    refine ⟨a, rfl, ⟨ws, sq⟩, hR _ _ _ _ e1 a1 (fun G2 H2 e2 a2 ok => ?_) q⟩
    obtain ⟨a', ws', ea, sq', l'⟩ := lst_at a2 (r1.ext e2) ok
    cases ea
    refine ⟨fun i hi => ?_, ws', sq', by rw [l'.length]; exact Nat.le_refl _⟩
    obtain ⟨d, hd⟩ := get_some hi
    obtain ⟨w, hw, rw'⟩ := l'.get hd
    refine ⟨⟨ws', w, sq', hw⟩, fun y H' hy => ?_⟩
    obtain ⟨rfl, hy⟩ := hy
    have := hy ws' sq'
    rw [hw] at this
    cases this
    exact ⟨d, hd, .refl _, rw', a2⟩, hX⟩
theorem mi_tup (he : ME X W e te) : MI X W tg e (iTupD te) := PI.imp (pi_tup he) fun σ H R ⟨τ, G, Xd, Rd, hσ, hA, h, hR, hX⟩ =>
  ⟨τ, G, Xd, _, hσ, hA, h, fun x G1 v H1 e1 r1 a1 h1 => by
    cases x <;> try exact (show False from h1).elim
    obtain ⟨a, ws, rfl, sq, l⟩ := r1.tupv
    refine ⟨a, rfl, ⟨ws, sq⟩, hR _ _ _ _ e1 a1 (fun G2 H2 e2 a2 _ => ?_) h1⟩
    have sq' := sqT_ext e2 sq
    have l' := l.ext e2
    refine ⟨fun i hi => ?_, ws, sq', by rw [l'.length]; exact Nat.le_refl _⟩
    obtain ⟨d, hd⟩ := get_some hi
    obtain ⟨w, hw, rw'⟩ := l'.get hd
    refine ⟨⟨ws, w, sq', hw⟩, fun y H' hy => ?_⟩
    obtain ⟨rfl, hy⟩ := hy
    have := hy ws sq'
    rw [hw] at this
    cases this
    exact ⟨d, hd, .refl _, rw', a2⟩, hX⟩
theorem rng_rel {K : PySem.W.Frag} {mg : Str → Option Value} {H : Hp} (lo : Int) (n : Nat) : ItRel K mg H (Itr lo n) ⟨rangeD lo n, fun _ => True⟩ := fun G2 H2 e2 a2 _ => by
  refine ⟨fun i hi => ?_, ?_⟩
  · have hi' : i < n := by rw [rangeD_length] at hi; exact hi
    refine ⟨hi', fun y H' hy => ?_⟩
    obtain ⟨rfl, rfl⟩ := hy
    exact ⟨_, rangeD_get lo n i hi', .refl _, .int _, a2⟩
  · show n ≤ (rangeD lo n).length
    rw [rangeD_length]
    exact Nat.le_refl _
theorem mi_rng1 (hm : X.mg ("range" : Str) = none) (ha : ME X W a ta) (hg : Gl X ("range" : Str) := by rfl) (hs : starEach [a] X.env = [(false, eval a X.env)] := by rfl) : MI X W tg (.Call (.Name ("range" : Str) p) [a] [] pos) (iRngD1 ta) :=
  PI.imp (pi_range1 hg hm (pa_cons ha pa_nil hs) hs) fun σ H R ⟨τ, G, Xd, Rd, hσ, hA, h, hR, hX⟩ =>
    ⟨τ, G, Xd, _, hσ, hA, h, fun x G1 v H1 e1 r1 a1 h1 => by
      obtain ⟨j, rfl, hj, q⟩ := asI_of h1
      exact ⟨j, by rw [r1.intv], hj.1, hj.2, hR _ _ _ _ e1 a1 (rng_rel 0 _) q⟩, hX⟩
theorem mi_rng2 (hm : X.mg ("range" : Str) = none) (ha : ME X W a ta) (hb : ME X W b tb) (hg : Gl X ("range" : Str) := by rfl) (hs : starEach [a, b] X.env = [(false, eval a X.env), (false, eval b X.env)] := by rfl) (hs2 : starEach [b] X.env = [(false, eval b X.env)] := by rfl)
    (hs3 : starEach [a, b] X.env = (false, eval a X.env) :: starEach [b] X.env := by rfl) : MI X W tg (.Call (.Name ("range" : Str) p) [a, b] [] pos) (iRngD2 ta tb) :=
  PI.imp (pi_range2 hg hm (pa_cons ha (pa_cons hb pa_nil hs2) hs3) hs hs2) fun σ H R ⟨τ, G, Xd, Rd, hσ, hA, h, hR, hX⟩ =>
    ⟨τ, G, Xd, _, hσ, hA, h, fun x G1 v H1 e1 r1 a1 h1 => ⟨τ, G1, Xd, _, hσ.ext e1, a1, h1, fun y G2 w H2 e2 r2 a2 h2 => by
      obtain ⟨i, rfl, h3⟩ := asI_of h2
      obtain ⟨j, rfl, ⟨⟨i1, i2⟩, j1, j2⟩, q⟩ := asI_of h3
      exact ⟨i, j, by rw [r1.intv, r2.intv], ⟨i1, i2, j1, j2⟩, hR _ _ _ _ (e1.trans e2) a2 (rng_rel i _) q⟩, hX.ext e1⟩, hX⟩
theorem mi_enum {elts : List Expr} {kk : Nat} (hm : X.mg ("enumerate" : Str) = none) (ha : ME X W a ta) (hg : Gl X ("enumerate" : Str) := by rfl) (hs : starEach [a] X.env = [(false, eval a X.env)] := by rfl) : MI X W (.Tuple elts kk tpos) (.Call (.Name ("enumerate" : Str) p) [a] [] pos) (iEnumL ta) :=
  PI.imp (pi_enum hg hm (pa_cons ha pa_nil hs) hs) fun σ H R ⟨τ, G, Xd, Rd, hσ, hA, h, hR, hX⟩ =>
    ⟨τ, G, Xd, _, hσ, hA, h, fun x G1 v H1 e1 r1 a1 h1 => by
      obtain ⟨xs, ex, q⟩ := onSome_of h1
      obtain ⟨a, ws, rfl, sq, l⟩ := lst_at a1 r1 ex
      refine ⟨a, ws, rfl, sq, hR _ _ _ _ e1 a1 (fun G2 H2 e2 a2 ok => ?_) q⟩
      obtain ⟨a', ws', ea, sq', l'⟩ := lst_at a2 (r1.ext e2) ok
      cases ea
      refine ⟨fun i hi => ?_, ws', sq', by rw [l'.length, enumD_length]; exact Nat.le_refl _⟩
      have hi' : i < xs.length := by
        have z : i < (enumD 0 xs).length := hi
        rw [enumD_length] at z; exact z
      obtain ⟨d, hd⟩ := get_some hi'
      obtain ⟨w, hw, rw'⟩ := l'.get hd
      refine ⟨⟨ws', w, sq', hw⟩, fun y H' hy => ?_⟩
      obtain ⟨T, z, rfl, hT, rfl, hz⟩ := hy
      have := hz ws' sq'
      rw [hw] at this
      cases this
      have hg := enumD_get 0 xs i d hd
      rw [Nat.zero_add] at hg
      exact ⟨_, hg, .new hT, .tup (.of upd_same) ((RepL.cons (.int _) (.cons rw' .nil)).ext (.new hT)), a2.keep hT⟩, hX⟩
end

/-! ### for, while -/
def forRun (I : DIt) (g : TGD) (tb : TSD) (D_ : DEnds) : List D → DSt → DH → Prop
  | [], τ, G => I.ok G ∧ D_.nx τ G
  | d :: ds, τ, G => I.ok G ∧ g d τ G D_.xx fun τ' G' => tb { nx := forRun I g tb D_ ds, rt := D_.rt, xx := D_.xx, bk := D_.nx, ct := forRun I g tb D_ ds } τ' G'
def sFor (wi : TID) (g : TGD) (tb : TSD) : TSD := fun D_ τ G => match D_ with | ⟨nx, rt, xx, bk, ct⟩ => wi τ G xx fun I G1 => forRun I g tb ⟨nx, rt, xx, bk, ct⟩ I.items τ G1
theorem forRun_ok {I : DIt} {g : TGD} {tb : TSD} {D_ : DEnds} {ds : List D} {τ : DSt} {G : DH} (h : forRun I g tb D_ ds τ G) : I.ok G := by
  cases ds <;> exact h.1
def sWhile (c : TTD) (tb : TSD) : TSD := fun D_ τ G => ∃ P : Nat → DSt → DH → Prop, (∃ m, P m τ G) ∧ ∀ m τ G, P m τ G →
  c τ G D_.xx fun b G1 => ifB b (tb { nx := fun τ' G' => ∃ m', m' < m ∧ P m' τ' G', rt := D_.rt, xx := D_.xx, bk := D_.nx, ct := fun τ' G' => ∃ m', m' < m ∧ P m' τ' G' } τ G1) (D_.nx τ G1)
section
variable {X : Cx} {W : WX} {tg iter c : Expr} {body : List Stmt} {wi : TID} {g : TGD} {tb : TSD} {tc : TTD} {pos : Pos}
theorem ms_for (hp : PassesOwn (model X.prog X.w) X.A X.env X.xe) (hc : X.calm = true) (hi : MI X W tg iter wi) (hg : MG X W tg g) (hb : MSs X W body tb) (hs : ∀ x, foldedSetIterable iter X.env x = pure x := by intro _; rfl) : MS X W (.For tg iter body [] pos) (sFor wi g tb) :=
  PS.imp (ps_for hp hc hi hg hb hs) fun D_ σ H ⟨τ, G, Dd, hσ, hA, h, hE⟩ => by
    refine ⟨τ, G, Dd.xx, _, hσ, hA, h, fun J I G1 H1 e1 a1 rel h1 => ?_, hE.xx σ⟩
    refine ⟨fun i m σ' H' => m = I.items.length - i ∧ i ≤ I.items.length ∧ Ext H1 H' ∧ ∃ τ' G', StRep X.K X.mg H' σ' τ' ∧ Abs X.K X.mg G' H' ∧ forRun I g tb Dd (I.items.drop i) τ' G', ⟨_, rfl, Nat.zero_le _, .refl _, τ, G1, hσ.ext e1, a1, h1⟩, ?_⟩
    rintro i m σ' H' ⟨rfl, hi, e2, τ', G', s2, a2, h2⟩
    obtain ⟨hgo, hst⟩ := rel G' H' e2 a2 (forRun_ok h2)
    have e02 := e1.trans e2
    by_cases hlt : i < I.items.length
    · obtain ⟨g1, g2⟩ := hgo i hlt
      refine .inr ⟨g1, fun σ3 H3 => Ext H1 H3 ∧ ∃ τ3 G3, StRep X.K X.mg H3 σ3 τ3 ∧ Abs X.K X.mg G3 H3 ∧ forRun I g tb Dd (I.items.drop (i + 1)) τ3 G3, fun σ3 H3 q => ⟨_, by omega, rfl, hlt, q⟩, fun x H3 hy => ?_⟩
      obtain ⟨d, hd, e3, r3, a3⟩ := g2 x H3 hy
      have hdrop : I.items.drop i = d :: I.items.drop (i + 1) := by
        obtain ⟨hlt2, hd2⟩ := List.getElem?_eq_some_iff.mp hd
        rw [← hd2]
        exact List.drop_eq_getElem_cons hlt2
      rw [hdrop] at h2
      obtain ⟨_, h3⟩ := h2
      refine ⟨d, τ', G', Dd.xx, _, r3, s2.ext e3, a3, h3, fun τ4 G4 σ4 H4 e4 s4 a4 h4 => ?_, fun σ5 => ((hE.xx σ5).ext e02).ext e3⟩
      have e04 := (e02.trans e3).trans e4
      refine ⟨τ4, G4, _, s4, a4, h4, ⟨fun τ5 G5 σ5 H5 e5 s5 a5 q5 => ⟨(e2.trans e3).trans (e4.trans e5), τ5, G5, s5, a5, q5⟩, fun d5 G5 v5 H5 e5 => hE.rt d5 G5 v5 H5 (e04.trans e5), fun τ5 G5 σ5 H5 e5 => hE.nx τ5 G5 σ5 H5 (e04.trans e5),
        fun τ5 G5 σ5 H5 e5 s5 a5 q5 => ⟨(e2.trans e3).trans (e4.trans e5), τ5, G5, s5, a5, q5⟩, fun σ5 => (hE.xx σ5).ext e04⟩⟩
    · have e : i = I.items.length := by omega
      subst e
      rw [List.drop_length] at h2
      exact .inl ⟨hst, hE.nx _ _ _ _ e02 s2 a2 h2.2⟩
theorem ms_while (hp : PassesOwn (model X.prog X.w) X.A X.env X.xe) (hc : MT X W c tc) (hb : MSs X W body tb) : MS X W (.While c body [] pos) (sWhile tc tb) :=
  PS.imp (ps_while hp hc hb) fun D_ σ H ⟨τ, G, Dd, hσ, hA, h, hE⟩ => by
    obtain ⟨P, ⟨m0, p0⟩, turn⟩ := h
    refine ⟨fun m σ' H' => Ext H H' ∧ ∃ τ' G', StRep X.K X.mg H' σ' τ' ∧ Abs X.K X.mg G' H' ∧ P m τ' G', ⟨m0, .refl _, τ, G, hσ, hA, p0⟩, ?_⟩
    rintro m σ' H' ⟨e1, τ', G', s1, a1, p1⟩
    refine ⟨τ', G', Dd.xx, _, s1, a1, turn m τ' G' p1, fun b G2 H2 e2 a2 h2 => ?_, (hE.xx σ').ext e1⟩
    have e02 := e1.trans e2
    cases b with
    | true =>
      rw [ifB_true] at h2
      refine ⟨fun σ3 H3 => ∃ m', m' < m ∧ Ext H H3 ∧ ∃ τ3 G3, StRep X.K X.mg H3 σ3 τ3 ∧ Abs X.K X.mg G3 H3 ∧ P m' τ3 G3, fun σ3 H3 q => q, ?_⟩
      have nx : ∀ τ5 G5 σ5 H5, Ext H2 H5 → StRep X.K X.mg H5 σ5 τ5 → Abs X.K X.mg G5 H5 → (∃ m', m' < m ∧ P m' τ5 G5) → ∃ m', m' < m ∧ Ext H H5 ∧ ∃ τ3 G3, StRep X.K X.mg H5 σ5 τ3 ∧ Abs X.K X.mg G3 H5 ∧ P m' τ3 G3 :=
        fun τ5 G5 σ5 H5 e5 s5 a5 ⟨m', hm, q5⟩ => ⟨m', hm, e02.trans e5, τ5, G5, s5, a5, q5⟩
      exact ⟨τ', G2, _, s1.ext e2, a2, h2, ⟨nx, fun d5 G5 v5 H5 e5 => hE.rt d5 G5 v5 H5 (e02.trans e5), fun τ5 G5 σ5 H5 e5 => hE.nx τ5 G5 σ5 H5 (e02.trans e5), nx, fun σ5 => (hE.xx σ5).ext e02⟩⟩
    | false => rw [ifB_false] at h2; exact hE.nx _ _ _ _ e02 (s1.ext e2) a2 h2
end
end L3

namespace L3
open PySem PySem.Spec PyProof.Rows L2

/-! ### comprehensions -/
inductive CT where
  | one (i : Nat) | tup (is : List Nat)
def CT.slots : CT → List Nat
  | .one i => [i]
  | .tup is => is
def gNs : List Nat → TGs
  | [] => gNil
  | i :: is => gCons (gName i) (gNs is)
def ctV (K : PySem.W.Frag) : CT → TG
  | .one i => gName i
  | .tup is => gTup K is.length (gNs is)
def setMany (τ : DSt) : List Nat → List D → DSt
  | i :: is, d :: ds => setMany (τ.set i (some d)) is ds
  | _, _ => τ
def ctD : CT → D → DSt → (DSt → Prop) → Prop
  | .one i, v, τ, Q => forceS (τ.set i (some v)) Q
  | .tup is, v, τ, Q => match v with
    | .tup xs => xs.length = is.length ∧ forceS (setMany τ is xs) Q
    | _ => False
theorem wipe_set {σ : L2.St} {i : Nat} {v : Option V} : ∀ {vs : List Nat}, i ∈ vs → wipe (σ.set i v) vs = wipe σ vs
  | [], h => by cases h
  | w :: vs, h => by
    unfold wipe
    by_cases e : i ∈ vs
    · rw [wipe_set e]
    · have e2 : i = w := by
        cases h with
        | head => rfl
        | tail _ q => exact absurd q e
      subst e2
      have : ∀ ws : List Nat, (wipe (σ.set i v) ws).set i none = (wipe σ ws).set i none := by
        intro ws
        induction ws with
        | nil => simp [wipe]
        | cons u us ih =>
          by_cases q : u = i
          · subst q; unfold wipe; rw [List.set_set, List.set_set]; exact ih
          · unfold wipe; rw [List.set_comm _ _ q, List.set_comm _ _ q, ih]
      exact this vs
theorem gNs_ok {vs : List Nat} {Q : L2.St → Hp → Prop} : ∀ {is : List Nat} {xs : List V} {σ : L2.St} {H : Hp}, (∀ i ∈ is, i ∈ vs) → xs.length = is.length → (∀ σ', wipe σ' vs = wipe σ vs → (∀ {K mg τ ds}, StRep K mg H σ τ → RepL K mg H xs ds → StRep K mg H σ' (setMany τ is ds)) → Q σ' H) → gNs is xs σ H Q
  | [], [], σ, H, _, _, h => ⟨rfl, h σ rfl fun s r => by cases r; exact s⟩
  | i :: is, x :: xs, σ, H, hm, hl, h => by
    refine ⟨x, xs, rfl, gNs_ok (fun j hj => hm j (List.mem_cons_of_mem _ hj)) (by simpa using hl) fun σ' w' k => h σ' (w'.trans (wipe_set (hm i List.mem_cons_self))) fun s r => ?_⟩
    cases r with
    | cons r1 r2 => exact k (s.set r1 i) r2
  | [], _ :: _, _, _, _, hl, _ => by simp at hl
  | _ :: _, [], _, _, _, hl, _ => by simp at hl
def wipeD (τ : DSt) : List Nat → DSt
  | [] => τ
  | v :: vs => (wipeD τ vs).set v none
theorem StRep.setN {K : PySem.W.Frag} {mg : Str → Option Value} {H : Hp} : ∀ {σ : L2.St} {τ : DSt} (i : Nat), StRep K mg H σ τ → StRep K mg H (σ.set i Option.none) (τ.set i Option.none)
  | _, _, _, .nil => .nil
  | _, _, 0, .none b => .none b
  | _, _, 0, .some _ b => .none b
  | _, _, i + 1, .none b => .none (StRep.setN i b)
  | _, _, i + 1, .some a b => .some a (StRep.setN i b)
theorem StRep.wipe {K : PySem.W.Frag} {mg : Str → Option Value} {H : Hp} {σ : L2.St} {τ : DSt} (s : StRep K mg H σ τ) : ∀ vs : List Nat, StRep K mg H (L2.wipe σ vs) (wipeD τ vs)
  | [] => s
  | v :: vs => StRep.setN v (StRep.wipe s vs)
def noX : DX := fun _ _ _ => False
def compRun (I : DIt) (ct : CT) (tt : TTD) (te : TED) (τ : DSt) (p : Addr) (Q : DH → Prop) : List D → DH → Prop
  | [], G => I.ok G ∧ Q G
  | d :: ds, G => I.ok G ∧ ctD ct d τ fun τ2 => tt τ2 G noX fun b G3 => ifB b (te τ2 G3 noX fun y G4 => onSome (oLst (G4 p)) fun acc => acc.length < 16777216 ∧ compRun I ct tt te τ p Q ds (up G4 p (.lst (acc ++ [y])))) (compRun I ct tt te τ p Q ds G3)
theorem compRun_ok {I : DIt} {ct : CT} {tt : TTD} {te : TED} {τ : DSt} {p : Addr} {Q : DH → Prop} {ds : List D} {G : DH} (h : compRun I ct tt te τ p Q ds G) : I.ok G := by
  cases ds <;> exact h.1
def dComp (wi : TID) (ct : CT) (tt : TTD) (te : TED) (vs : List Nat) : TED := fun τ G X Q => wi τ G X fun I G1 => ∀ p, G1 p = none → forceS (wipeD τ vs) fun τ' => compRun I ct tt te τ' p (fun G2 => Q (.ref p) G2) I.items (up G1 p (.lst []))
def dYes : TTD := fun _ G _ Q => Q true G
abbrev WF : WX := fun _ _ _ _ => False
abbrev MTs (X : Cx) (W : WX) (es : List Expr) (td : TTD) : Prop := PTs X es (liftT X.K X.mg W td)
section
variable {X : Cx} {W : WX} {e elt tg iter c : Expr} {ifs : List Expr} {wi : TID} {ct : CT} {tt : TTD} {te : TED} {pos : Pos} {scope : Scope} {own : List (Str × Nat)}
theorem mts_nil : MTs X W [] dYes := ⟨fun pins s σ H Q I ⟨τ, G, Xd, Qd, hσ, hA, h, hQ, hX⟩ => pts_nil.run pins s σ H Q I (hQ _ _ _ (.refl _) hA h)⟩
theorem mts_one (h : MT X W c tt) : MTs X W [c] tt := pts_one h
/-- the readings' side: from dComp to HandS's -/
theorem lift_comp {K : PySem.W.Frag} {mg : Str → Option Value} {σ : L2.St} {H : Hp} {Q : VK} {vs : List Nat} (hvs : ∀ i ∈ ct.slots, i ∈ vs) (h : liftE K mg W (dComp wi ct tt te vs) σ H Q) :
    tLc (liftI K mg W wi) (ctV K ct) (liftT K mg WF tt) (liftE K mg WF te) vs σ H Q := by
  obtain ⟨τ, G, Xd, Qd, hσ, hA, h, hQ, hX⟩ := h
  refine ⟨τ, G, Xd, _, hσ, hA, h, fun J I G1 H1 e1 a1 rel h1 => fun D_ hD => ?_, hX⟩
  have r1 := h1 D_ (a1.none hD)
  replace r1 := forceS_of r1
  have eD : Ext H1 (upd H1 D_ (.lst [])) := .new hD
  refine ⟨fun i m H' => m = I.items.length - i ∧ i ≤ I.items.length ∧ Ext (upd H1 D_ (.lst [])) H' ∧ ∃ G', Abs K mg G' H' ∧ compRun I ct tt te (wipeD τ vs) D_ (fun G2 => Qd (.ref D_) G2) (I.items.drop i) G',
    ⟨_, rfl, Nat.zero_le _, .refl _, _, a1.newL hD .nil, r1⟩, ?_⟩
  rintro i m H' ⟨rfl, hi, e2, G', a2, h2⟩
  have e12 := eD.trans e2
  have e02 := e1.trans e12
  obtain ⟨hgo, hst⟩ := rel G' H' e12 a2 (compRun_ok h2)
  by_cases hlt : i < I.items.length
  · obtain ⟨g1, g2⟩ := hgo i hlt
    refine .inr ⟨g1, fun H3 => Ext (upd H1 D_ (.lst [])) H3 ∧ ∃ G3, Abs K mg G3 H3 ∧ compRun I ct tt te (wipeD τ vs) D_ (fun G2 => Qd (.ref D_) G2) (I.items.drop (i + 1)) G3, fun H3 q => ⟨_, by omega, rfl, hlt, q⟩, fun x H3 hy => ?_⟩
    obtain ⟨d, hd, e3, r3, a3⟩ := g2 x H3 hy
    have hdrop : I.items.drop i = d :: I.items.drop (i + 1) := by
      obtain ⟨hlt2, hd2⟩ := List.getElem?_eq_some_iff.mp hd
      rw [← hd2]
      exact List.drop_eq_getElem_cons hlt2
    rw [hdrop] at h2
    obtain ⟨_, h3⟩ := h2
    have e03 := e02.trans e3
    have sw : StRep K mg H3 (wipe σ vs) (wipeD τ vs) := (hσ.ext e03).wipe vs
    -- behind the target
    have go : ∀ σ2 τ2, wipe σ2 vs = wipe (wipe σ vs) vs → StRep K mg H3 σ2 τ2 → (tt τ2 G' noX fun b G3 => ifB b (te τ2 G3 noX fun y G4 => onSome (oLst (G4 D_)) fun acc => acc.length < 16777216 ∧ compRun I ct tt te (wipeD τ vs) D_ (fun G2 => Qd (.ref D_) G2) (I.items.drop (i + 1)) (up G4 D_ (.lst (acc ++ [y])))) (compRun I ct tt te (wipeD τ vs) D_ (fun G2 => Qd (.ref D_) G2) (I.items.drop (i + 1)) G3)) →
        wipe σ2 vs = wipe σ vs ∧ liftT K mg WF tt σ2 H3 fun b H3 => if b = true then liftE K mg WF te σ2 H3 fun y H4 => ∃ acc, H4 D_ = some (.lst acc) ∧ acc.length < sizeLine ∧ (Ext (upd H1 D_ (.lst [])) (upd H4 D_ (.lst (acc ++ [y]))) ∧ ∃ G3, Abs K mg G3 (upd H4 D_ (.lst (acc ++ [y]))) ∧ compRun I ct tt te (wipeD τ vs) D_ (fun G2 => Qd (.ref D_) G2) (I.items.drop (i + 1)) G3)
          else (Ext (upd H1 D_ (.lst [])) H3 ∧ ∃ G3, Abs K mg G3 H3 ∧ compRun I ct tt te (wipeD τ vs) D_ (fun G2 => Qd (.ref D_) G2) (I.items.drop (i + 1)) G3) := by
      intro σ2 τ2 hw s2 h4
      have ww : wipe (wipe σ vs) vs = wipe σ vs := by
        have : ∀ us : List Nat, (∀ u ∈ us, u ∈ vs) → wipe (wipe σ us) vs = wipe σ vs := by
          intro us
          induction us with
          | nil => intro _; rfl
          | cons u us ih => intro hu; show wipe ((wipe σ us).set u none) vs = _; rw [wipe_set (hu u List.mem_cons_self)]; exact ih fun q hq => hu q (List.mem_cons_of_mem _ hq)
        exact this vs fun u hu => hu
      refine ⟨hw.trans ww, τ2, G', noX, _, s2, a3, h4, fun b G4 H4 e4 a4 h5 => ?_, fun c d G5 cls dd H5 _ _ _ z => z.elim⟩
      cases b with
      | true =>
        rw [ifB_true] at h5; rw [if_pos rfl]
        refine ⟨τ2, G4, noX, _, s2.ext e4, a4, h5, fun y G5 yv H5 e5 r5 a5 h6 => ?_, fun c d G6 cls dd H6 _ _ _ z => z.elim⟩
        obtain ⟨acc, ea, hz, q⟩ := onSome_of h6
        obtain ⟨ws, ew, l⟩ := a5 _ _ (oLst_some ea)
        exact ⟨ws, ew, by rw [l.length]; exact big_lt hz, ((e2.trans e3).trans (e4.trans e5)).trans (.lst ew), _, a5.setL ew (l.snoc r5), q⟩
      | false =>
        rw [ifB_false] at h5; rw [if_neg Bool.false_ne_true]
        exact ⟨(e2.trans e3).trans e4, G4, a4, h5⟩
    cases ct with
    | one j =>
      exact go _ _ (wipe_set (hvs j List.mem_cons_self)) (sw.set r3 j) (forceS_of h3)
    | tup is =>
      cases d <;> try exact (show False from h3).elim
      obtain ⟨hl, h4⟩ := h3
      replace h4 := forceS_of h4
      obtain ⟨a, xs, rfl, sq, l⟩ := r3.tupv
      refine ⟨a, xs, rfl, sq, l.length.trans hl, gNs_ok (vs := vs) hvs (l.length.trans hl) fun σ' w' k => ?_⟩
      exact go _ _ w' (k sw l) h4
  · have e : i = I.items.length := by omega
    subst e
    rw [List.drop_length] at h2
    exact .inl ⟨hst, hQ _ _ _ _ e02 (.ref D_) a2 h2.2⟩
theorem m_comp (hc : X.calm = true) (hN : X.N.Nodup) (hi : MI X W tg iter wi) (ok : BlkOk X.N X.env.scope scope own)
    (hg : ∀ (s : Shared) (H : Hp) (C : Addr) (cl : List (Str × Addr)) (fp : List Addr), PG (X.blk s H scope (compEnvC scope cl C X.env) fp) tg (ctV X.K ct))
    (ht : ∀ (s : Shared) (H : Hp) (C : Addr) (cl : List (Str × Addr)) (fp : List Addr), MTs (X.blk s H scope (compEnvC scope cl C X.env) fp) WF ifs tt)
    (he : ∀ (s : Shared) (H : Hp) (C : Addr) (cl : List (Str × Addr)) (fp : List Addr), ME (X.blk s H scope (compEnvC scope cl C X.env) fp) WF elt te)
    (hvs : ∀ i ∈ ct.slots, i ∈ own.map (·.2) := by decide) (hs : ∀ x, foldedSetIterable iter X.env x = pure x := by intro _; rfl) : ME X W (.ListComp elt [⟨tg, iter, ifs, 0⟩] scope pos) (dComp wi ct tt te (own.map (·.2))) :=
  PE.imp (pe_lc hc hN hi ok hg ht he hs) fun _ _ _ h => lift_comp hvs h
/-- name = [..] on one line, the name a local -/
theorem ms_setComp {j : Nat} {y : Str} {py spos : Pos} (hc : X.calm = true) (hN : X.N.Nodup) (hy : X.N[j]? = some y) (hyl : X.env.scope.names.lookup y = some .local)
    (hsw : swapsWith (.ListComp elt [⟨tg, iter, ifs, 0⟩] scope pos) (some (.Name y py)) spos.line X.env = pure true) (hi : MI X W tg iter wi) (ok : BlkOk X.N X.env.scope scope own)
    (hg : ∀ (s : Shared) (H : Hp) (C : Addr) (cl : List (Str × Addr)) (fp : List Addr), PG (X.blk s H scope (compEnvC scope cl C X.env) fp) tg (ctV X.K ct))
    (ht : ∀ (s : Shared) (H : Hp) (C : Addr) (cl : List (Str × Addr)) (fp : List Addr), MTs (X.blk s H scope (compEnvC scope cl C X.env) fp) WF ifs tt)
    (he : ∀ (s : Shared) (H : Hp) (C : Addr) (cl : List (Str × Addr)) (fp : List Addr), ME (X.blk s H scope (compEnvC scope cl C X.env) fp) WF elt te)
    (hvs : ∀ i ∈ ct.slots, i ∈ own.map (·.2) := by decide) (hs : ∀ x, foldedSetIterable iter X.env x = pure x := by intro _; rfl) :
    MS X W (.Assign [.Name y py] (.ListComp elt [⟨tg, iter, ifs, 0⟩] scope pos) spos) (sAsg (dComp wi ct tt te (own.map (·.2))) (gSlot j)) :=
  PS.imp (ps_setLc hc hN hy hyl hsw hi ok hg ht he hs) fun D_ σ H ⟨τ, G, Dd, hσ, hA, h, hE⟩ => by
    have q : liftE X.K X.mg W (dComp wi ct tt te (own.map (·.2))) σ H (fun x H1 => gName j x σ H1 D_.nx) :=
      ⟨τ, G, Dd.xx, _, hσ, hA, h, fun d G1 v H1 e1 r1 a1 q1 => hE.nx _ _ _ _ e1 ((hσ.ext e1).set r1 j) a1 (forceS_of (Q := fun τ' => Dd.nx τ' G1) q1), hE.xx σ⟩
    exact lift_comp hvs q
theorem pgs_ns {x : Str} {es : List Expr} {i : Nat} {is : List Nat} (h1 : PG X e (gName i)) (h2 : PGs X es (gNs is)) (hs : (assignEach (e :: es) X.env).map (·.2) = assign e X.env :: (assignEach es X.env).map (·.2) := by rfl) : PGs X (e :: es) (gNs (i :: is)) := pgs_cons h1 h2 hs
end

/-! ### a, b = x, y with local names -/
def sPar (i j : Nat) (ta : TAD) : TSD := fun D_ τ G => ta τ G D_.xx fun vs G1 => match vs with | [v, w] => forceS ((τ.set i (some v)).set j (some w)) fun τ' => D_.nx τ' G1 | _ => False
def sPar3 (i j l : Nat) (ta : TAD) : TSD := fun D_ τ G => ta τ G D_.xx fun vs G1 => match vs with | [u, v, w] => forceS (((τ.set i (some u)).set j (some v)).set l (some w)) fun τ' => D_.nx τ' G1 | _ => False
theorem ms_par {X : Cx} {W : WX} {i j : Nat} {x y : Str} {a b : Expr} {ta : TAD} {px py pt pos : Pos} {kt k2 pt2} (hc : X.calm = true) (hN : X.N.Nodup) (hi : X.N[i]? = some x) (hj : X.N[j]? = some y) (hij : i ≠ j)
    (hx : X.env.scope.names.lookup x = some .local) (hy : X.env.scope.names.lookup y = some .local) (ha : MA X W [a, b] ta)
    (hw : swappedStores [.Tuple [.Name x px, .Name y py] kt pt] (.Tuple [a, b] k2 pt2) X.env = pure (some [x, y]))
    (hs : swapsWithSole [.Tuple [.Name x px, .Name y py] kt pt] (.Tuple [a, b] k2 pt2) pos.line X.env = pure false := by rfl) :
    MS X W (.Assign [.Tuple [.Name x px, .Name y py] kt pt] (.Tuple [a, b] k2 pt2) pos) (sPar i j ta) :=
  PS.imp (ps_par hc hN hi hj hij hx hy ha hw hs) fun D_ σ H ⟨τ, G, Dd, hσ, hA, h, hE⟩ =>
    ⟨τ, G, Dd.xx, _, hσ, hA, h, fun ds G1 vs H1 e1 r1 a1 h1 => by
      match ds, h1 with
      | [v, w], h1 =>
        obtain ⟨v', w', rfl, ra, rb⟩ := r1.two
        exact ⟨v', w', rfl, hE.nx _ _ _ _ e1 (((hσ.ext e1).set ra i).set rb j) a1 (forceS_of (Q := fun τ' => Dd.nx τ' G1) h1)⟩, hE.xx σ⟩
end L3

namespace L3
open PySem PySem.Spec PyProof.Rows L2

/-! ### enumerate over a tuple -/
theorem meets_enumerate_newT {v : Value} {o : Obj} {H : Heap → Prop} (B : Begins v o H) :
    Meets (Builtin.«enumerate.__new__» ⟨[.type "enumerate", v], []⟩) (fun _ R s => H s.heap ∧
      R (.ok (.ret (.ref (s.heap.push o).objs.size))) { s with heap := (s.heap.push o).push { cls := .type "enumerate", data := .fields #[.none, .bool false, .ref s.heap.objs.size, rawInt 0, .none, .none] } }) :=
  .of_wp fun prog w A R s h => by
    obtain ⟨hp, g, d, tk, os⟩ := s; obtain ⟨h1, h⟩ := h
    have hsub := sub_enumerate
    have q1 : ∀ {A' : Around} {E : Value → Shared → Prop} {Q : Value → Shared → Prop}, Q (.ref hp.objs.size) ⟨hp.push o, g, d, tk, os⟩ → wpAny (model prog w) A' (pyIter v) Q E ⟨hp, g, d, tk, os⟩ :=
      fun q => B.iter prog w _ _ ⟨hp, g, d, tk, os⟩ _ h1 q
    wp_walk using q1
    refine wpAny_stack_any fun st => wpAny_pure ?_
    split
    · rename_i c _ _ _ _ _
      cases (c == Value.type "enumerate")
      · wp_walk using q1
        exact ⟨_, rfl, h⟩
      · wp_walk using q1
        exact ⟨_, rfl, h⟩
    · wp_walk using q1
      exact ⟨_, rfl, h⟩
theorem call_enumerate_B {prog : Program} {w : World} {A : Around} {E : Value → Shared → Prop} {s : Shared} {v : Value} {o : Obj} {H : Heap → Prop} {Q : Value → Shared → Prop} (B : Begins v o H) (h1 : H s.heap)
    (h : ∀ h', IsEnum h' (s.heap.objs.size + 1) s.heap.objs.size 0 .none → h'.get? s.heap.objs.size = some o → h'.objs.size = s.heap.objs.size + 2 →
      (∀ b o, s.heap.get? b = some o → h'.get? b = some o) → Q (.ref (s.heap.objs.size + 1)) { s with heap := h' }) :
    wpAny (model prog w) A (call (.type "enumerate") [v]) Q E s := by
  refine callType_new F.called_enumerate (by decide) (F.typeCall_enumerate_1 _) (F.newCall_enumerate_1 _) (fun obj => F.args_object_init_2 obj _) F.entry_enumerate_new
    (meets_enumerate_newT B) ⟨h1, ?_⟩
  have hz : (s.heap.push o).objs.size = s.heap.objs.size + 1 := Heap.size_push ..
  show _ ∧ _
  rw [hz]
  have he : IsEnum ((s.heap.push o).push { cls := .type "enumerate", data := .fields #[.none, .bool false, .ref s.heap.objs.size, rawInt 0, .none, .none] }) (s.heap.objs.size + 1) s.heap.objs.size 0 .none := by
    have := Heap.get?_push_size (s.heap.push o) (o := { cls := .type "enumerate", data := .fields #[.none, .bool false, .ref s.heap.objs.size, rawInt 0, .none, .none] }) rfl
    rw [hz] at this; exact this
  refine ⟨⟨_, he, rfl⟩, h _ he (Heap.get?_push_of_some _ (Heap.get?_push_size _ B.free)) (by rw [Heap.size_push, hz]) fun b o x => Heap.get?_push_of_some _ (Heap.get?_push_of_some _ x)⟩
/-- the tuple at a, each item in a new pair -/
def IteT (K : PySem.W.Frag) (a : Addr) : It :=
  ⟨fun i H => ∃ (xs : List V) (x : V), SqT K H a xs ∧ xs[i]? = some x, fun i H v H' => ∃ T x, v = .ref T ∧ H T = none ∧ H' = upd H T (.tup [.int (i : Nat), x]) ∧ ∀ xs, SqT K H a xs → xs[i]? = some x, fun i H => ∃ xs : List V, SqT K H a xs ∧ xs.length ≤ i⟩
theorem isTup_of {h : Heap} {a : Addr} {items : Array Value} (t : IsTup h a items) : h.IsTuple a items := by
  obtain ⟨o, ho, hc, n, hd⟩ := t
  exact ⟨o, ho, hc, n, hd⟩
theorem turn_enumT {P : Program} {w : World} {K : PySem.W.Frag} {elts : List Expr} {kk : Nat} {tpos : Pos} (a e it : Addr) :
    Turn P w K (.Tuple elts kk tpos) (IteT K a) [e, it] e (fun i h => (∃ old, IsEnum h e it ((i : Nat) : Int) old) ∧ h.IsTupleIter it a i ∧ e ≠ it ∧ (∀ xs, h.IsTuple a xs → True) ∧ a ≠ it ∧ a ≠ e) where
  mem := by simp
  obj := fun i h st b hb => by
    obtain ⟨⟨old, he⟩, ⟨o, ho, hc, hd⟩, _⟩ := st
    have e' : b = e ∨ b = it := by simpa using hb
    rcases e' with z | z
    · rw [z]; exact ⟨_, he, fun v q => nomatch q⟩
    · rw [z]; exact ⟨o, ho, fun v q => by rw [hd] at q; cases q⟩
  keep := fun i h h' st k => let ⟨⟨old, he⟩, hi, hne, _, n1, n2⟩ := st; ⟨⟨old, k e (by simp) _ he⟩, hi.at fun o q => k it (by simp) o q, hne, fun _ _ => trivial, n1, n2⟩
  item := by
    intro X hP hw hK hc i pins s σ H E I hf st hg
    subst hP hw hK
    obtain ⟨⟨old, he⟩, hit, hne, _, n1, n2⟩ := st
    obtain ⟨xs, x, hq, hx⟩ := hg
    obtain ⟨its, rv, p, hz⟩ := I.tuple hq
    obtain ⟨u, hu, ru⟩ := rv.get hx
    have hel : e < s.heap.objs.size := Heap.lt_size he
    have hil : it < s.heap.objs.size := by obtain ⟨_, q, _⟩ := hit; exact Heap.lt_size q
    have hlt : i < its.toArray.size := by
      have := (List.getElem?_eq_some_iff.mp hu).1
      simpa using this
    refine wpAny_pyNext_enum_itemD (Draws.tuple (A := X.A.in1) (I.ok.hd hc) it a n1 its.toArray) he ⟨hit, isTup_of p⟩ hlt hne (by simp [hne, Ne.symm n2]) fun x' h' tk hx' ho hst' hT hsz hk => ?_
    have ex : x' = u := by
      have q : its.toArray[i]? = some x' := hx'
      have q2 : its.toArray[i]? = some u := by simpa using hu
      rw [q2] at q; cases q; rfl
    subst ex
    have hit' := hst'.1
    refine ⟨_, rfl, wpAny_letOwnedTupleGo_enum (s := { s with heap := h', toks := tk + 1 }) ho fun h'' he' sb => ?_⟩
    have hT2 : h''.get? s.heap.objs.size = some { cls := .type "tuple", data := .seq #[.int i tk, x'] } := (sb.2 _ (Nat.ne_of_gt hel)).trans hT
    have new : ObjOk X.prog X.w (upd H s.heap.objs.size (.tup [.int (i : Nat), x])) h'' s.heap.objs.size (.tup [.int (i : Nat), x]) :=
      ⟨by show 2 ≤ sizeLine; decide, [.int i tk, x'], .cons ⟨_, rfl⟩ (.cons ru .nil), ⟨_, hT2, rfl, _, rfl⟩⟩
    have I1 : Inv X pins σ (upd H s.heap.objs.size (.tup [.int (i : Nat), x])) { s with heap := h'', toks := tk + 1 } :=
      I.turnedNew (ch := [e, it]) (fun b ob hb q => (sb.2 b (fun z => hb (by simp [z]))).trans (hk b ob (fun z => hb (by simp [z])) (fun z => hb (by simp [z])) q)) hf (Nat.le_refl _) new
    refine ⟨.ref s.heap.objs.size, _, I1, rfl, ⟨_, x, rfl, I.hok.fresh (Nat.le_refl _), rfl, fun ys hy => by rw [I.tuple_inj hy hq]; exact hx⟩, ⟨⟨x', ?_⟩, hit'.at fun o q => (sb.2 it (Ne.symm hne)).trans q, hne, fun _ _ => trivial, n1, n2⟩, fun b hb => ?_⟩
    · have e1 : ((i + 1 : Nat) : Int) = (i : Int) + 1 := by omega
      rw [e1]; exact he'
    · have hb' : b < s.heap.objs.size := by
        have e' : b = e ∨ b = it := by simpa using hb
        rcases e' with z | z
        · rw [z]; exact hel
        · rw [z]; exact hil
      rw [upd_ne (Nat.ne_of_lt hb')]
      exact (hf b hb).1
  done := by
    intro X hP hw hK hc i pins s σ H E I hf st hg
    subst hP hw hK
    obtain ⟨⟨old, he⟩, hit, hne, _, n1, n2⟩ := st
    obtain ⟨xs, hq, hx⟩ := hg
    obtain ⟨its, rv, p, hz⟩ := I.tuple hq
    obtain ⟨f0, f1, f2, f3, f4, f5⟩ := hf it (by simp)
    have hl := rv.length
    by_cases hlt : i < its.toArray.size
    · simp at hlt; omega
    · by_cases heq : i = its.toArray.size
      · subst heq
        exact wpAny_pyNext_enum_endD (Draws.tuple (A := X.A.in1) (I.ok.hd hc) it a n1 its.toArray) he ⟨hit, isTup_of p⟩ fun h' eb => ⟨rfl, I.turned (t' := s.toks) (fun b o hb q => eb b o hb q) f0 f1 f3 f4 f5⟩
      · refine wpAny_pyNext_enum_endD (n := i) (fp := [it, a]) (P := fun _ _ => False) (St := fun j h => j = i ∧ h.IsTupleIter it a i ∧ h.IsTuple a its.toArray) ⟨fun j h st => let ⟨_, ⟨o, ho, _⟩, _⟩ := st; ⟨o, ho⟩, fun j h h' st hk => ⟨st.1, st.2.1.at fun o e => hk it (by simp) o e, st.2.2.at fun o e => hk a (by simp) o e⟩,
          fun j s Q E hj st hQ => absurd st.1 (by omega), fun s Q E st hE => wpAny_nextOf_tuple_end (A := X.A.in1) (I.ok.hd hc) st.2.1 st.2.2 (by simp at hlt ⊢; omega) hE⟩ he ⟨rfl, hit, isTup_of p⟩ fun h' eb => ⟨rfl, I.turned (t' := s.toks) (fun b o hb q => eb b o hb q) f0 f1 f3 f4 f5⟩
  self := fun A i s Q E st h => let ⟨⟨_, he⟩, _⟩ := st; wpAny_pyIter_enum he h
def iEnumV (K : PySem.W.Frag) (ta : TA) : TI := fun σ H R => ta σ H fun vs H1 => ∃ a xs, vs = [.ref a] ∧ SqT K H1 a xs ∧ R (IteT K a) H1
theorem pi_enumT {X : Cx} {e : Expr} {ta : TA} {p pos tpos : Pos} {elts : List Expr} {kk : Nat} (hg : Gl X "enumerate") (hm : X.mg "enumerate" = none) (ha : PA X [e] ta) (hs : starEach [e] X.env = [(false, eval e X.env)] := by rfl) :
    PI X (.Tuple elts kk tpos) (.Call (.Name "enumerate" p) [e] [] pos) (iEnumV X.K ta) := by
  refine ⟨fun pins s σ H R I h => ?_⟩
  refine Call_ (ld_blt I hg hm boot_enumerate (PyProof.Rows.callWith_type1 (thn (ha.run pos pins s σ H _ I h) fun us s1 ⟨vs, H1, I1, r1, q1⟩ => ?_) hs rfl))
  obtain ⟨a, xs, ex, hq, q⟩ := q1
  subst ex
  cases r1 with
  | cons r rr =>
    cases rr
    cases r
    obtain ⟨its, rv, p', hz⟩ := I1.tuple hq
    have hla : a < s1.heap.objs.size := p'.lt
    refine call_enumerate_B (begins_tuple a its.toArray) (isTup_of p') fun h' he hit hsz hk => wpAny_pyIter_enum he ?_
    have I2 : Inv X pins σ H1 { s1 with heap := h' } := I1.kept (t' := s1.toks) hk
    refine ⟨s1.heap.objs.size + 1, [s1.heap.objs.size + 1, s1.heap.objs.size], _, _, H1, rfl, I2, turn_enumT a (s1.heap.objs.size + 1) s1.heap.objs.size, ⟨⟨.none, he⟩, ⟨_, hit, rfl, rfl⟩, Nat.succ_ne_self _, fun _ _ => trivial, Nat.ne_of_lt hla, Nat.ne_of_lt (Nat.lt_succ_of_lt hla)⟩, fun b hb => ?_, q⟩
    have e' : b = s1.heap.objs.size + 1 ∨ b = s1.heap.objs.size := by simpa using hb
    have hle : s1.heap.objs.size ≤ b := by
      rcases e' with z | z
      · rw [z]; exact Nat.le_add_right _ _
      · rw [z]; exact Nat.le_refl _
    exact I1.fpOk hle (I1.hok.fresh hle)
def iEnumTD (te : TED) : TID := fun τ G X R => te τ G X fun x G1 => match x with | .tup xs => R ⟨enumD 0 xs, fun _ => True⟩ G1 | _ => False
section
variable {X : Cx} {W : WX} {e a b tg : Expr} {te ta tb : TED} {pos p tpos : Pos}
theorem mi_enumT {elts : List Expr} {kk : Nat} (hm : X.mg ("enumerate" : Str) = none) (ha : ME X W a ta) (hg : Gl X ("enumerate" : Str) := by rfl) (hs : starEach [a] X.env = [(false, eval a X.env)] := by rfl) : MI X W (.Tuple elts kk tpos) (.Call (.Name ("enumerate" : Str) p) [a] [] pos) (iEnumTD ta) :=
  PI.imp (pi_enumT hg hm (pa_cons ha pa_nil hs) hs) fun σ H R ⟨τ, G, Xd, Rd, hσ, hA, h, hR, hX⟩ =>
    ⟨τ, G, Xd, _, hσ, hA, h, fun x G1 v H1 e1 r1 a1 h1 => by
      cases x <;> try exact (show False from h1).elim
      rename_i xs
      obtain ⟨a, ws, rfl, sq, l⟩ := r1.tupv
      refine ⟨a, ws, rfl, sq, hR _ _ _ _ e1 a1 (fun G2 H2 e2 a2 ok => ?_) h1⟩
      have sq' := sqT_ext e2 sq
      have l' := l.ext e2
      refine ⟨fun i hi => ?_, ws, sq', by rw [l'.length, enumD_length]; exact Nat.le_refl _⟩
      have hi' : i < xs.length := by
        have z : i < (enumD 0 xs).length := hi
        rw [enumD_length] at z; exact z
      obtain ⟨d, hd⟩ := get_some hi'
      obtain ⟨w, hw, rw'⟩ := l'.get hd
      refine ⟨⟨ws, w, sq', hw⟩, fun y H' hy => ?_⟩
      obtain ⟨T, z, rfl, hT, rfl, hz⟩ := hy
      have := hz ws sq'
      rw [hw] at this
      cases this
      have hg := enumD_get 0 xs i d hd
      rw [Nat.zero_add] at hg
      exact ⟨_, hg, .new hT, .tup (.of upd_same) ((RepL.cons (.int _) (.cons rw' .nil)).ext (.new hT)), a2.keep hT⟩, hX⟩

/-! ### in -/
def flatD : D → Bool
  | .non => true | .bl _ => true | .int _ => true | .str _ => true
  | _ => false
def eqF : D → D → Bool
  | .non, .non => true
  | .bl a, .bl b => a == b
  | .bl a, .int b => (if a then 1 else 0) == b
  | .int a, .bl b => a == (if b then 1 else 0)
  | .int a, .int b => a == b
  | .str a, .str b => a == b
  | _, _ => false
theorem Rep.flat {K : PySem.W.Frag} {mg : Str → Option Value} {H : Hp} {v : V} {d : D} (r : Rep K mg H v d) (f : flatD d = true) : flatV v = true := by
  cases r <;> first | rfl | cases f
theorem Rep.eqF {K : PySem.W.Frag} {mg : Str → Option Value} {H : Hp} {v w : V} {d e : D} (r : Rep K mg H v d) (q : Rep K mg H w e) (f : flatD d = true) (g : flatD e = true) : eqV v w = L3.eqF d e := by
  cases r <;> first | cases f | skip
  all_goals (cases q <;> first | rfl | cases g)
theorem RepL.inV {K : PySem.W.Frag} {mg : Str → Option Value} {H : Hp} {v : V} {d : D} (r : Rep K mg H v d) (f : flatD d = true) : ∀ {ws : List V} {ds : List D}, RepL K mg H ws ds → ds.all flatD = true → ws.all flatV = true ∧ inV v ws = ds.any fun y => L3.eqF y d
  | _, _, .nil, _ => ⟨rfl, rfl⟩
  | _, _, .cons a b, g => by
    simp only [List.all_cons, Bool.and_eq_true] at g
    obtain ⟨h1, h2⟩ := RepL.inV r f b g.2
    refine ⟨by simp only [List.all_cons, Bool.and_eq_true]; exact ⟨a.flat g.1, h1⟩, ?_⟩
    show (eqV _ v || L2.inV v _) = (L3.eqF _ d || _)
    rw [a.eqF r g.1 f, h2]
def rInQ (neg : Bool) : DR2 := fun x y G Q => match x, y with
  | .str a, .str b => Q (.bl (if neg then !(!(Builtin.Str.occurrences b a 0 b.length 1).isEmpty) else !(Builtin.Str.occurrences b a 0 b.length 1).isEmpty)) G
  | x, y => onSome (seqOf G y) fun ds => (flatD x = true ∧ ds.all flatD = true) ∧ Q (.bl (if neg then !(ds.any fun z => eqF z x) else ds.any fun z => eqF z x)) G
theorem seq_at {K : PySem.W.Frag} {mg : Str → Option Value} {H : Hp} {G : DH} {v : V} {d : D} {ds : List D} (A : Abs K mg G H) (r : Rep K mg H v d) (h : seqOf G d = some ds) : ∃ a xs, v = .ref a ∧ (SqL K H a xs ∨ SqT K H a xs) ∧ RepL K mg H xs ds := by
  by_cases ht : ∃ ys, d = .tup ys
  · obtain ⟨ys, rfl⟩ := ht
    cases h
    obtain ⟨a, ws, rfl, t, l⟩ := r.tupv
    exact ⟨a, ws, rfl, .inr t, l⟩
  · have e' : lstOf G d = some ds := by cases d <;> first | exact h | exact absurd ⟨_, rfl⟩ ht
    obtain ⟨a, ws, rfl, sq, l⟩ := lst_at A r e'
    exact ⟨a, ws, rfl, .inl sq, l⟩
theorem mo_in_gen {op : CmpOp} {neg : Bool} (h1 : OpR X (compareOp op) (rIn X.K neg)) (h2 : OpR X (compareOp op) (fun x y H Q => ∃ i j, x = .str i ∧ y = .str j ∧ Q (.bl (if neg then !(!(Builtin.Str.occurrences j i 0 j.length 1).isEmpty) else !(Builtin.Str.occurrences j i 0 j.length 1).isEmpty)) H)) : OpR X (compareOp op) (liftR2 X.K X.mg (rInQ neg)) := by
  intro pins s σ H x y v u Q I rx ry h
  obtain ⟨d, e, G, Qd, r1, r2, A, h, hQ⟩ := h
  have gen : (onSome (seqOf G e) fun ds => (flatD d = true ∧ ds.all flatD = true) ∧ Qd (.bl (if neg then !(ds.any fun z => eqF z d) else ds.any fun z => eqF z d)) G) → wpAny (model X.prog X.w) X.A (compareOp op v u) (EP X pins σ Q) X.xe s := fun h => by
    obtain ⟨ds, e1, ⟨f1, f2⟩, q⟩ := onSome_of h
    obtain ⟨a, ws, rfl, sq, l⟩ := seq_at A r2 e1
    obtain ⟨g1, g2⟩ := l.inV r1 f1 f2
    refine h1 pins s σ H x _ v u Q I rx ry ⟨a, ws, rfl, sq, r1.flat f1, g1, ?_⟩
    rw [g2]
    exact hQ _ _ _ _ (.refl _) (.bl _) A q
  cases d <;> cases e <;> try exact gen h
  exact h2 pins s σ H x y v u Q I rx ry ⟨_, _, r1.strv, r2.strv, hQ _ _ _ _ (.refl _) (.bl _) A h⟩
def rInD2 : DR2 := rInQ false
def rNinD : DR2 := rInQ true
theorem mo_in : OpR X (compareOp .In) (liftR2 X.K X.mg rInD2) := mo_in_gen op_in_seq op_in_str
theorem mo_nin : OpR X (compareOp .NotIn) (liftR2 X.K X.mg rNinD) := mo_in_gen op_notIn_seq op_notIn_str

/-! ### dicts of the top, keyed by texts -/
/-- the module's name x holds a dict of the top, of these pairs -/
structure KD (w : World) (K : PySem.W.Frag) (mg : Str → Option Value) (x : Str) (kvs : List (Str × D)) : Prop where
  ok : ∃ a es n, mg x = some (.ref a) ∧ KDict K w a es n ∧ ∀ z, match kvs.lookup z with
    | none => PySem.W.nsIn K a z = some none
    | some d => ∃ u v, PySem.W.nsIn K a z = some (some u) ∧ RelV v u ∧ ∀ H, Rep K mg H v d
def asS (x : D) (Q : Str → Prop) : Prop := match x with | .str i => Q i | _ => False
theorem asS_of {x : D} {Q : Str → Prop} (h : asS x Q) : ∃ i, x = .str i ∧ Q i := by
  cases x <;> first | exact ⟨_, rfl, h⟩ | exact h.elim
def dKIn (neg : Bool) (kvs : List (Str × D)) (ta : TED) : TED := fun τ G X Q => ta τ G X fun x G1 => asS x fun z => Q (.bl (if neg then !(kvs.lookup z).isSome else (kvs.lookup z).isSome)) G1
def dKIx (kvs : List (Str × D)) (ta : TED) : TED := fun τ G X Q => ta τ G X fun x G1 => asS x fun z => onSome (kvs.lookup z) fun d => Q d G1
theorem m_kin {x : Str} {kvs : List (Str × D)} (T : KD X.w X.K X.mg x kvs) (ha : ME X W a ta) (hg : Gl X x := by rfl) (hdb : (x == ("__debug__" : Str)) = false := by decide) : ME X W (.Compare a [.In] [.Name x p] pos) (dKIn false kvs ta) := by
  obtain ⟨d, es, n, hm, hd, hl⟩ := T.ok
  refine PE.imp (pe_cmpR (op_in_kd hd) ha (pe_glob (v := .ref d) hg hm rfl hdb) rfl) fun σ H Q ⟨τ, G, Xd, Qd, hσ, hA, h, hQ, hX⟩ => ⟨τ, G, Xd, _, hσ, hA, h, fun x G1 v H1 e1 r1 a1 h1 => ?_, hX⟩
  obtain ⟨z, rfl, q⟩ := asS_of h1
  have hz := hl z
  have e1' := r1.strv
  subst e1'
  cases e : kvs.lookup z with
  | none =>
    rw [e] at hz q
    exact ⟨z, none, rfl, rfl, hz, hQ _ _ _ _ e1 (.bl _) a1 q⟩
  | some d' =>
    rw [e] at hz q
    obtain ⟨u, v, h1, h2, h3⟩ := hz
    exact ⟨z, some u, rfl, rfl, h1, hQ _ _ _ _ e1 (.bl _) a1 q⟩
theorem m_knin {x : Str} {kvs : List (Str × D)} (T : KD X.w X.K X.mg x kvs) (ha : ME X W a ta) (hg : Gl X x := by rfl) (hdb : (x == ("__debug__" : Str)) = false := by decide) : ME X W (.Compare a [.NotIn] [.Name x p] pos) (dKIn true kvs ta) := by
  obtain ⟨d, es, n, hm, hd, hl⟩ := T.ok
  refine PE.imp (pe_cmpR (op_notIn_kd hd) ha (pe_glob (v := .ref d) hg hm rfl hdb) rfl) fun σ H Q ⟨τ, G, Xd, Qd, hσ, hA, h, hQ, hX⟩ => ⟨τ, G, Xd, _, hσ, hA, h, fun x G1 v H1 e1 r1 a1 h1 => ?_, hX⟩
  obtain ⟨z, rfl, q⟩ := asS_of h1
  have hz := hl z
  have e1' := r1.strv
  subst e1'
  cases e : kvs.lookup z with
  | none =>
    rw [e] at hz q
    exact ⟨z, none, rfl, rfl, hz, hQ _ _ _ _ e1 (.bl _) a1 q⟩
  | some d' =>
    rw [e] at hz q
    obtain ⟨u, v, h1, h2, h3⟩ := hz
    exact ⟨z, some u, rfl, rfl, h1, hQ _ _ _ _ e1 (.bl _) a1 q⟩
theorem m_kix {x : Str} {kvs : List (Str × D)} (T : KD X.w X.K X.mg x kvs) (ha : ME X W a ta) (hs : PlainIx a := by exact fun _ _ => rfl) (hg : Gl X x := by rfl) (hdb : (x == ("__debug__" : Str)) = false := by decide) : ME X W (.Subscript (.Name x p) a pos) (dKIx kvs ta) := by
  obtain ⟨d, es, n, hm, hd, hl⟩ := T.ok
  refine PE.imp (pe_ix ix_kdict (pe_glob (v := .ref d) hg hm rfl hdb) ha hs) fun σ H Q ⟨τ, G, Xd, Qd, hσ, hA, h, hQ, hX⟩ => ⟨τ, G, Xd, _, hσ, hA, h, fun x G1 v H1 e1 r1 a1 h1 => ?_, hX⟩
  obtain ⟨z, rfl, q⟩ := asS_of h1
  obtain ⟨d', e, q⟩ := onSome_of q
  have hz := hl z
  rw [e] at hz
  obtain ⟨u, v, h1, h2, h3⟩ := hz
  exact ⟨d, z, v, rfl, r1.strv, ⟨es, n, u, hd.at_, hd.lit, h1, h2⟩, hQ _ _ _ _ e1 (h3 _) a1 q⟩

/-! ### raise X('..') -/
def sRaise (c : String) : TSD := fun D_ _ G => D_.xx c .non G
structure RsD (K : PySem.W.Frag) (mg : Str → Option Value) (c : Str) : Prop where
  ok : ∃ C, mg c = some (.ref C) ∧ PySem.W.excIn K C [.type "ValueError", .type "Exception", .type "BaseException", .type "object"] "ValueError.__new__" = true ∧ PySem.W.keepIn K (.ref C) = true ∧ PySem.W.subIn K (.ref C) (.type "BaseException") = some true ∧ PySem.W.typeIn K (.ref C) = some (.type "type")
theorem ms_raise {c : String} {m : Str} {j : Nat} {p2 p3 : Pos} (R : RsD X.K X.mg (c : Str)) (hc : X.calm = true) (tk : Takes X W) (hg : Gl X (c : Str) := by rfl) (hdb : (((c : Str)) == ("__debug__" : Str)) = false := by decide) :
    MS X W (.Raise (some (.Call (.Name (c : Str) p) [.Constant (.str m) j p2] [] pos)) none p3) (sRaise c) := by
  obtain ⟨C, hm, x1, x2, x3, x4⟩ := R.ok
  exact PS.imp (ps_raise hc tk (pmk_own PySem.F.excBase_ValueError x1 hm x2 (raises_own x3 x4) hg hdb)) fun D_ σ H ⟨τ, G, Dd, hσ, hA, h, hE⟩ =>
    hE.xx σ c .non G _ none H (.refl _) hA ⟨C, hm, rfl, .inl ⟨rfl, rfl⟩⟩ h
end

/-! ### a def -/
def startD (n : Nat) (ds : List D) : DSt := ds.map some ++ List.replicate (n - ds.length) none
/-- the ends of a body -/
def ends (Q : DQ) (X : DX) : DEnds := { nx := fun _ G => Q .non G, rt := Q, xx := X }
theorem fn_ok {P : Program} {w : World} {K : PySem.W.Frag} {mg : Str → Option Value} {base : Heap} {x qual : Str} {st : Stmt} {f : Addr} {fd : FuncData} {N ps : List Str} {k : Nat} {sp : DSp} (F : Fun K x qual st f fd) (S : FnScope N ps (defScope st)) (t : TSD)
    (len : ∀ ds G Q X, sp ds G Q X → ds.length = ps.length) (walk : ∀ ds G Q X, sp ds G Q X → t (ends Q X) (startD N.length ds) G)
    (der : ∀ (cdv : Value) (A : Around) (outer : List Env) (s : Shared) (H : Hp) (E : XK), Room k (A.deeper (envOfC qual (defScope st) s.heap.objs.size f cdv)) →
      MSs (cxOf (L2.CX P w) P w K mg base N qual (defScope st) f cdv A outer s H E) (fun cls d _ H => E cls d H) (defBody st) t) : FnOk P w K mg base (L2.CX P w) (k + 1) f fd ps (liftSp K mg sp) := by
  refine F.okX S (fun vs H Q E ⟨ds, G, Qd, Xd, r, A, h, _⟩ => r.length.trans (len _ _ _ _ h)) fun cdv A outer s H vs Q E hr h => ⟨_, der cdv A outer s H E hr, ?_⟩
  obtain ⟨ds, G, Qd, Xd, r, Ab, h, hQ, hX⟩ := h
  have hl : vs.length = ds.length := r.length
  refine ⟨startD N.length ds, G, ends Qd Xd, ?_, Ab, walk ds G Qd Xd h, ⟨fun τ' G' σ' H' e s a q => hQ _ _ _ _ e .non a q, fun d G' v H' e r a q => hQ _ _ _ _ e r a q, fun _ _ _ _ _ _ _ z => z.elim, fun _ _ _ _ _ _ _ z => z.elim, fun σ' c d G' cls dd H' e a x q => hX c d G' cls dd H' e a x q⟩⟩
  show StRep K mg H (L2.start N vs) (startD N.length ds)
  unfold L2.start startD
  rw [hl]
  exact StRep.start _ r
end L3

namespace L3
open PySem PySem.Spec PyProof.Rows L2
def dNeg (te : TED) : TED := fun τ G X Q => te τ G X fun x G1 => asI x fun i => Q (.int (-i)) G1
section
variable {X : Cx} {W : WX} {e : Expr} {te : TED} {pos : Pos}
theorem m_neg (he : ME X W e te) : ME X W (.UnaryOp .USub e pos) (dNeg te) := PE.imp (pe_un un_neg he) fun σ H Q ⟨τ, G, Xd, Qd, hσ, hA, h, hQ, hX⟩ =>
  ⟨τ, G, Xd, _, hσ, hA, h, fun x G1 v H1 e1 r1 a1 h1 => by
    obtain ⟨i, rfl, q⟩ := asI_of h1
    exact ⟨i, r1.intv, hQ _ _ _ _ e1 (.int _) a1 q⟩, hX⟩
theorem m_gl' {x : String} (hm : ∃ f, X.mg (x : Str) = some (.ref f)) (hg : Gl X (x : Str) := by rfl) (hd : (((x : Str)) == ("__debug__" : Str)) = false := by decide) : ME X W (.Name (x : Str) pos) (dC (.gl x)) :=
  let ⟨_, h⟩ := hm; m_gl h hg hd

theorem huR {k : Nat} {A : Around} (h : Room k A) : A.units + 65 < cLine := by have := h.un; omega
/-! tests by comparisons of other kinds -/
variable {a b c : Expr} {ta tb tc : TED} {p : Pos}
theorem m_tisN {j p2} (ha : ME X W a ta) : MT X W (.Compare a [.Is] [.Constant .none j p2] pos) (dT (dIsN false ta)) :=
  PT.imp (pt_cmpR op_isN ha pe_non (nomark _)) fun σ H Q ⟨τ, G, Xd, Qd, hσ, hA, h, hQ, hX⟩ =>
    ⟨τ, G, Xd, _, hσ, hA, h, fun d G1 v H1 e r A h => ⟨rfl, _, rfl, by rw [r.isN]; exact hQ _ _ _ e A h⟩, hX⟩
theorem m_tnotN {j p2} (ha : ME X W a ta) : MT X W (.Compare a [.IsNot] [.Constant .none j p2] pos) (dT (dIsN true ta)) :=
  PT.imp (pt_cmpR op_notN ha pe_non (nomark _)) fun σ H Q ⟨τ, G, Xd, Qd, hσ, hA, h, hQ, hX⟩ =>
    ⟨τ, G, Xd, _, hσ, hA, h, fun d G1 v H1 e r A h => ⟨rfl, _, rfl, by rw [r.isN]; exact hQ _ _ _ e A h⟩, hX⟩
theorem kd_fin {K : PySem.W.Frag} {w : World} {x : Str} {z : Str} {kvs : List (Str × D)} {d : Addr} (hz : match kvs.lookup z with
    | none => PySem.W.nsIn K d z = some none
    | some e => ∃ u v, PySem.W.nsIn K d z = some (some u) ∧ RelV v u ∧ ∀ H, Rep K mg H v e) : ∃ r : Option Value, PySem.W.nsIn K d z = some r ∧ r.isSome = (kvs.lookup z).isSome := by
  cases e : kvs.lookup z with
  | none => rw [e] at hz; exact ⟨none, hz, rfl⟩
  | some d' => rw [e] at hz; obtain ⟨u, v, h1, _⟩ := hz; exact ⟨some u, h1, rfl⟩
theorem m_tkin {x : Str} {kvs : List (Str × D)} (T : KD X.w X.K X.mg x kvs) (ha : ME X W a ta) (hg : Gl X x := by rfl) (hdb : (x == ("__debug__" : Str)) = false := by decide) : MT X W (.Compare a [.In] [.Name x p] pos) (dT (dKIn false kvs ta)) := by
  obtain ⟨d, es, n, hm, hd, hl⟩ := T.ok
  refine PT.imp (pt_cmpR (op_in_kd hd) ha (pe_glob (v := .ref d) hg hm rfl hdb) rfl) fun σ H Q ⟨τ, G, Xd, Qd, hσ, hA, h, hQ, hX⟩ => ⟨τ, G, Xd, _, hσ, hA, h, fun x G1 v H1 e1 r1 a1 h1 => ?_, hX⟩
  obtain ⟨z, rfl, q⟩ := asS_of h1
  obtain ⟨r, hr, hs⟩ := kd_fin (w := X.w) (x := default) (hl z)
  have e1' := r1.strv
  subst e1'
  exact ⟨z, r, rfl, rfl, hr, _, rfl, by rw [hs]; exact hQ _ _ _ e1 a1 q⟩
theorem m_tknin {x : Str} {kvs : List (Str × D)} (T : KD X.w X.K X.mg x kvs) (ha : ME X W a ta) (hg : Gl X x := by rfl) (hdb : (x == ("__debug__" : Str)) = false := by decide) : MT X W (.Compare a [.NotIn] [.Name x p] pos) (dT (dKIn true kvs ta)) := by
  obtain ⟨d, es, n, hm, hd, hl⟩ := T.ok
  refine PT.imp (pt_cmpR (op_notIn_kd hd) ha (pe_glob (v := .ref d) hg hm rfl hdb) rfl) fun σ H Q ⟨τ, G, Xd, Qd, hσ, hA, h, hQ, hX⟩ => ⟨τ, G, Xd, _, hσ, hA, h, fun x G1 v H1 e1 r1 a1 h1 => ?_, hX⟩
  obtain ⟨z, rfl, q⟩ := asS_of h1
  obtain ⟨r, hr, hs⟩ := kd_fin (w := X.w) (x := default) (hl z)
  have e1' := r1.strv
  subst e1'
  exact ⟨z, r, rfl, rfl, hr, _, rfl, by rw [hs]; exact hQ _ _ _ e1 a1 q⟩
theorem m_tchain {op op' : CmpOp} {r r' : DR2} (ho : OpR X (compareOp op) (liftR2 X.K X.mg r)) (ho' : OpR X (compareOp op') (liftR2 X.K X.mg r')) (ha : ME X W a ta) (hb : ME X W b tb) (hc : ME X W c tc)
    (hm : lastMarks [op, op'] [b, c] = false := by rfl) : MT X W (.Compare a [op, op'] [b, c] pos) (dT (dChain r r' ta tb tc)) :=
  PT.imp (pt_chain ho ho' ha hb hc hm) fun σ H Q ⟨τ, G, Xd, Qd, hσ, hA, h, hQ, hX⟩ => by
    refine ⟨τ, G, Xd, _, hσ, hA, h, fun x G1 v H1 e1 r1 a1 h1 => ?_, hX⟩
    refine ⟨τ, G1, Xd, _, hσ.ext e1, a1, h1, fun y G2 u H2 e2 r2 a2 h2 => ?_, hX.ext e1⟩
    refine ⟨x, y, G2, _, r1.ext e2, r2, a2, h2, fun z G3 w H3 e3 r3 a3 h3 => ?_⟩
    obtain ⟨k, rfl, h4⟩ := asB_of h3
    refine ⟨k, r3.blv, ?_⟩
    have e13 := (e1.trans e2).trans e3
    clear h3
    cases k with
    | true =>
      rw [ifB_true] at h4; rw [if_pos rfl]
      refine ⟨τ, G3, Xd, _, hσ.ext e13, a3, h4, fun q G5 w5 H5 e5 r5 a5 h5 => ?_, hX.ext e13⟩
      refine ⟨y, q, G5, _, (r2.ext e3).ext e5, r5, a5, h5, fun d' G' v' H' e' r' a' q' => ?_⟩
      obtain ⟨k', rfl, q2⟩ := asB_of q'
      exact ⟨k', r'.blv, hQ _ _ _ ((e13.trans e5).trans e') a' q2⟩
    | false =>
      rw [ifB_false] at h4; rw [if_neg Bool.false_ne_true]
      exact ⟨false, rfl, hQ _ _ _ e13 a3 h4⟩
end
end L3

namespace L3
open PySem PySem.Spec PyProof.Rows L2

/-- all that stood stands as it did -/
def Sub (G G' : DH) : Prop := ∀ a o, G a = some o → G' a = some o
theorem Sub.refl (G : DH) : Sub G G := fun _ _ h => h
theorem Sub.trans {G G1 G2 : DH} (h : Sub G G1) (k : Sub G1 G2) : Sub G G2 := fun a o e => k a o (h a o e)
theorem Sub.new {G : DH} {p : Addr} {o : DO} (h : G p = none) : Sub G (up G p o) := fun a u e => by rw [up_ne (D.ne_of e h)]; exact e
theorem Sub.tr {G G1 : DH} {p : Addr} {o : DO} (h : Sub G G1) (hp : G1 p = none) : Sub G (up G1 p o) := h.trans (.new hp)
theorem Sub.none {G G' : DH} {p : Addr} (h : Sub G G') (hp : G' p = Option.none) : G p = Option.none := by
  cases e : G p with
  | none => rfl
  | some o => rw [h p o e] at hp; cases hp
/-- what was new in between may be changed -/
theorem Sub.put {G G' : DH} {p : Addr} {o : DO} (h : Sub G G') (hp : G p = Option.none) : Sub G (up G' p o) := fun a u e => by rw [up_ne (D.ne_of e hp)]; exact h a u e
theorem ctD_and {ct : CT} {d : D} {τ : DSt} {A B : DSt → Prop} (a : ctD ct d τ A) (b : ctD ct d τ B) : ctD ct d τ fun τ' => A τ' ∧ B τ' := by
  cases ct with
  | one i => simp only [ctD, forceS_eq] at a b ⊢; exact ⟨a, b⟩
  | tup is => cases d <;> first | exact a.elim | (simp only [ctD, forceS_eq] at a b ⊢; exact ⟨a.1, a.2, b.2⟩)
theorem ctD_imp {ct : CT} {d : D} {τ : DSt} {A B : DSt → Prop} (a : ctD ct d τ A) (h : ∀ τ', A τ' → B τ') : ctD ct d τ B := by
  cases ct with
  | one i => simp only [ctD, forceS_eq] at a ⊢; exact h _ a
  | tup is => cases d <;> first | exact a.elim | (simp only [ctD, forceS_eq] at a ⊢; exact ⟨a.1, h _ a.2⟩)
/-- a comprehension whose tests and items leave what stood: the list of all that pass -/
theorem compRun_sub {I : DIt} {ct : CT} {tt : TTD} {te : TED} {τ : DSt} {p : Addr} {Q : DH → Prop} {G1 : DH} (hp : G1 p = none) (hok : ∀ G', Sub G1 G' → I.ok G') (f : D → Bool) (v : D → D) :
    ∀ (ds : List D) (G : DH) (acc : List D), Sub G1 G → G p = some (.lst acc) → acc.length + ds.length < 16777216 →
      (∀ d ∈ ds, ∀ G', Sub G1 G' → ctD ct d τ fun τ2 => ∀ k : Bool → DH → Prop, (∀ G2, Sub G' G2 → k (f d) G2) → tt τ2 G' noX k) →
      (∀ d ∈ ds, f d = true → ∀ G', Sub G1 G' → ctD ct d τ fun τ2 => ∀ k : D → DH → Prop, (∀ G2, Sub G' G2 → k (v d) G2) → te τ2 G' noX k) →
      (∀ G', Sub G1 G' → G' p = some (.lst (acc ++ (ds.filter f).map v)) → Q G') → compRun I ct tt te τ p Q ds G
  | [], G, acc, s, hG, _, _, _, hQ => ⟨hok G s, hQ G s (by simpa using hG)⟩
  | d :: ds, G, acc, s, hG, hl, ht, he, hQ => by
    refine ⟨hok G s, ?_⟩
    have a := ht d List.mem_cons_self G s
    cases hf : f d with
    | true =>
      have b : ∀ G', Sub G1 G' → ctD ct d τ fun τ2 => ∀ k : D → DH → Prop, (∀ G2, Sub G' G2 → k (v d) G2) → te τ2 G' noX k := he d List.mem_cons_self hf
      -- the same slots at each heap
      have b2 : ctD ct d τ fun τ2 => ∀ G', Sub G1 G' → ∀ k : D → DH → Prop, (∀ G2, Sub G' G2 → k (v d) G2) → te τ2 G' noX k := by
        cases ct with
        | one i => simp only [ctD, forceS_eq] at b ⊢; exact fun G' s' => b G' s'
        | tup is =>
          have b0 := b G s
          cases d <;> first | exact b0.elim | (simp only [ctD, forceS_eq] at b b0 ⊢; exact ⟨b0.1, fun G' s' => (b G' s').2⟩)
      refine ctD_imp (ctD_and a b2) fun τ2 ⟨a, b⟩ => a _ fun G2 s2 => ?_
      rw [hf, ifB_true]
      refine b G2 (s.trans s2) _ fun G3 s3 => ?_
      have e : G3 p = some (.lst acc) := s3 _ _ (s2 _ _ hG)
      refine onSome_i (show oLst (G3 p) = some acc by rw [e]; rfl) ⟨by simp at hl; omega, compRun_sub hp hok f v ds _ (acc ++ [v d]) (((s.trans s2).trans s3).put hp) up_same (by simp at hl ⊢; omega) (fun d' h => ht d' (List.mem_cons_of_mem _ h)) (fun d' h => he d' (List.mem_cons_of_mem _ h)) fun G' s' e' => hQ G' s' ?_⟩
      rw [e', List.filter_cons_of_pos hf]
      simp
    | false =>
      refine ctD_imp a fun τ2 a => a _ fun G2 s2 => ?_
      rw [hf, ifB_false]
      refine compRun_sub hp hok f v ds _ acc (s.trans s2) (s2 _ _ hG) (by simp at hl ⊢; omega) (fun d' h => ht d' (List.mem_cons_of_mem _ h)) (fun d' h => he d' (List.mem_cons_of_mem _ h)) fun G' s' e' => hQ G' s' ?_
      rw [e', List.filter_cons_of_neg (by rw [hf]; decide)]
theorem forRun_ind {I : DIt} {g : TGD} {tb : TSD} {D_ : DEnds} (P : List D → DSt → DH → Prop) (nil : ∀ τ G, P [] τ G → I.ok G ∧ D_.nx τ G)
    (cons : ∀ d r, (∀ τ G, P r τ G → forRun I g tb D_ r τ G) → ∀ τ G, P (d :: r) τ G → I.ok G ∧ g d τ G D_.xx fun τ' G' => tb { nx := forRun I g tb D_ r, rt := D_.rt, xx := D_.xx, bk := D_.nx, ct := forRun I g tb D_ r } τ' G') :
    ∀ ds τ G, P ds τ G → forRun I g tb D_ ds τ G
  | [], τ, G, h => nil τ G h
  | d :: r, τ, G, h => cons d r (fun τ' G' h' => forRun_ind P nil cons r τ' G' h') τ G h

theorem dComp_sub {I : DIt} {ct : CT} {tt : TTD} {te : TED} {τ0 : DSt} {Q : DH → Prop} {G : DH} {p : Addr} (hp : G p = none) (hok : ∀ G', Sub G G' → I.ok G') (f : D → Bool) (v : D → D) (hl : I.items.length < 16777216)
    (ht : ∀ d ∈ I.items, ∀ G', Sub G G' → ctD ct d τ0 fun τ2 => ∀ k : Bool → DH → Prop, (∀ G2, Sub G' G2 → k (f d) G2) → tt τ2 G' noX k)
    (he : ∀ d ∈ I.items, f d = true → ∀ G', Sub G G' → ctD ct d τ0 fun τ2 => ∀ k : D → DH → Prop, (∀ G2, Sub G' G2 → k (v d) G2) → te τ2 G' noX k)
    (hQ : ∀ G', Sub G G' → G' p = some (.lst ((I.items.filter f).map v)) → Q G') :
    compRun I ct tt te τ0 p Q I.items (up G p (.lst [])) :=
  compRun_sub hp hok f v I.items _ [] (.new hp) up_same (by simpa using hl) ht he fun G' s' e' => hQ G' s' e'
theorem allPy_some {f : D → Option PyData} : ∀ {ys : List D}, (∀ d ∈ ys, (f d).isSome = true) → ∃ ps, allPy f ys = some ps ∧ ps.length = ys.length
  | [], _ => ⟨[], rfl, rfl⟩
  | d :: ys, h => by
    obtain ⟨p, hp⟩ := Option.isSome_iff_exists.mp (h d List.mem_cons_self)
    obtain ⟨ps, h1, h2⟩ := allPy_some fun e he => h e (List.mem_cons_of_mem _ he)
    exact ⟨p :: ps, by simp [allPy, hp, h1], by simp [h2]⟩
/-- xs == [], xs != [] -/
theorem eqQ_nil {neg : Bool} {G : DH} {p q : Addr} {ys : List D} {Q : DQ} (hp : G p = some (.lst ys)) (hq : G q = some (.lst [])) (hy : ∀ d ∈ ys, (toPy G 5 d).isSome = true) (h : Q (.bl (if neg then !ys.isEmpty else ys.isEmpty)) G) : eqQ neg (.ref p) (.ref q) G Q := by
  obtain ⟨ps, h1, h2⟩ := allPy_some hy
  have e1 : toPy G 6 (.ref p) = some (.list ps) := by simp [toPy, hp, oLst, h1]
  have e2 : toPy G 6 (.ref q) = some (.list []) := by simp [toPy, hq, oLst, allPy]
  show onSome (toPy G 6 (.ref p)) fun p => onSome (toPy G 6 (.ref q)) fun q => Q (.bl (if neg then !PyData.eqv p q else PyData.eqv p q)) G
  refine onSome_i e1 (onSome_i e2 ?_)
  have e3 : PyData.eqv (.list ps) (.list []) = ys.isEmpty := by
    cases ys <;> cases ps <;> first | rfl | simp at h2
  show Q (.bl (if neg then !PyData.eqv (.list ps) (.list []) else PyData.eqv (.list ps) (.list []))) G
  rw [e3]
  exact h
theorem rEq_ii {i j : Int} {G : DH} {Q : DQ} : rEqD (.int i) (.int j) G Q = Q (.bl (decide (i = j))) G := by unfold rEqD; rfl
theorem rEq_ss {i j : Str} {G : DH} {Q : DQ} : rEqD (.str i) (.str j) G Q = Q (.bl (decide (i = j))) G := by unfold rEqD; rfl
theorem rEq_bb {i j : Bool} {G : DH} {Q : DQ} : rEqD (.bl i) (.bl j) G Q = Q (.bl (decide (i = j))) G := by unfold rEqD; rfl
theorem rNe_ii {i j : Int} {G : DH} {Q : DQ} : rNeD (.int i) (.int j) G Q = Q (.bl (!decide (i = j))) G := by unfold rNeD; rfl
theorem rNe_ss {i j : Str} {G : DH} {Q : DQ} : rNeD (.str i) (.str j) G Q = Q (.bl (!decide (i = j))) G := by unfold rNeD; rfl
theorem rNe_bb {i j : Bool} {G : DH} {Q : DQ} : rNeD (.bl i) (.bl j) G Q = Q (.bl (!decide (i = j))) G := by unfold rNeD; rfl
/-- xs != [] in the form that the walk leaves -/
theorem rNe_nil {G : DH} {p q : Addr} {ys : List D} {Q : DQ} (hp : G p = some (.lst ys)) (hq : G q = some (.lst [])) (hy : ∀ d ∈ ys, (toPy G 5 d).isSome = true) (h : Q (.bl (!ys.isEmpty)) G) : rNeD (.ref p) (.ref q) G Q := by unfold rNeD; exact eqQ_nil (neg := true) hp hq hy h
theorem rEq_nil {G : DH} {p q : Addr} {ys : List D} {Q : DQ} (hp : G p = some (.lst ys)) (hq : G q = some (.lst [])) (hy : ∀ d ∈ ys, (toPy G 5 d).isSome = true) (h : Q (.bl ys.isEmpty) G) : rEqD (.ref p) (.ref q) G Q := by unfold rEqD; exact eqQ_nil (neg := false) hp hq hy h
theorem atI0 {α : Type} {a0 : α} {xs : List α} : atI (a0 :: xs) 0 = some a0 := atI_nat (j := 0) rfl
theorem atI1 {α : Type} {a0 a1 : α} {xs : List α} : atI (a0 :: a1 :: xs) 1 = some a1 := atI_nat (j := 1) rfl
theorem atI2 {α : Type} {a0 a1 a2 : α} {xs : List α} : atI (a0 :: a1 :: a2 :: xs) 2 = some a2 := atI_nat (j := 2) rfl
theorem atI3 {α : Type} {a0 a1 a2 a3 : α} {xs : List α} : atI (a0 :: a1 :: a2 :: a3 :: xs) 3 = some a3 := atI_nat (j := 3) rfl
theorem atI4 {α : Type} {a0 a1 a2 a3 a4 : α} {xs : List α} : atI (a0 :: a1 :: a2 :: a3 :: a4 :: xs) 4 = some a4 := atI_nat (j := 4) rfl
theorem atI5 {α : Type} {a0 a1 a2 a3 a4 a5 : α} {xs : List α} : atI (a0 :: a1 :: a2 :: a3 :: a4 :: a5 :: xs) 5 = some a5 := atI_nat (j := 5) rfl
theorem atI6 {α : Type} {a0 a1 a2 a3 a4 a5 a6 : α} {xs : List α} : atI (a0 :: a1 :: a2 :: a3 :: a4 :: a5 :: a6 :: xs) 6 = some a6 := atI_nat (j := 6) rfl
theorem atI7 {α : Type} {a0 a1 a2 a3 a4 a5 a6 a7 : α} {xs : List α} : atI (a0 :: a1 :: a2 :: a3 :: a4 :: a5 :: a6 :: a7 :: xs) 7 = some a7 := atI_nat (j := 7) rfl
theorem atI8 {α : Type} {a0 a1 a2 a3 a4 a5 a6 a7 a8 : α} {xs : List α} : atI (a0 :: a1 :: a2 :: a3 :: a4 :: a5 :: a6 :: a7 :: a8 :: xs) 8 = some a8 := atI_nat (j := 8) rfl
theorem atI9 {α : Type} {a0 a1 a2 a3 a4 a5 a6 a7 a8 a9 : α} {xs : List α} : atI (a0 :: a1 :: a2 :: a3 :: a4 :: a5 :: a6 :: a7 :: a8 :: a9 :: xs) 9 = some a9 := atI_nat (j := 9) rfl
theorem atI10 {α : Type} {a0 a1 a2 a3 a4 a5 a6 a7 a8 a9 a10 : α} {xs : List α} : atI (a0 :: a1 :: a2 :: a3 :: a4 :: a5 :: a6 :: a7 :: a8 :: a9 :: a10 :: xs) 10 = some a10 := atI_nat (j := 10) rfl
theorem atI11 {α : Type} {a0 a1 a2 a3 a4 a5 a6 a7 a8 a9 a10 a11 : α} {xs : List α} : atI (a0 :: a1 :: a2 :: a3 :: a4 :: a5 :: a6 :: a7 :: a8 :: a9 :: a10 :: a11 :: xs) 11 = some a11 := atI_nat (j := 11) rfl
theorem ixN_lt {n j : Nat} (h : j < n) : ixN n (j : Int) = some j := by
  unfold ixN
  rw [if_pos (by omega), if_pos (by omega)]
  simp
theorem ixN_1_0 : ixN 1 0 = some 0 := rfl
theorem ixN_2_0 : ixN 2 0 = some 0 := rfl
theorem ixN_2_1 : ixN 2 1 = some 1 := rfl
theorem ixN_3_0 : ixN 3 0 = some 0 := rfl
theorem ixN_3_1 : ixN 3 1 = some 1 := rfl
theorem ixN_3_2 : ixN 3 2 = some 2 := rfl
theorem ixN_4_0 : ixN 4 0 = some 0 := rfl
theorem ixN_4_1 : ixN 4 1 = some 1 := rfl
theorem ixN_4_2 : ixN 4 2 = some 2 := rfl
theorem ixN_4_3 : ixN 4 3 = some 3 := rfl
theorem oLst_lst {xs : List D} : oLst (some (.lst xs)) = some xs := rfl
theorem oIns_ins {c : String} {fs : List (String × D)} : oIns (some (.ins c fs)) = some (c, fs) := rfl
theorem oDct_dct {kvs : List (Key × D)} : oDct (some (.dct kvs)) = some kvs := rfl
theorem toPy_flat {G : DH} {d : D} (h : match d with | .non => True | .bl _ => True | .int _ => True | _ => False) : (toPy G 5 d).isSome = true := by
  cases d <;> first | rfl | exact h.elim
end L3

namespace L3
open PySem PySem.Spec PyProof.Rows L2

/-! ### reading the heap -/
section
variable {G : DH} {a : Addr} {xs : List D} {c : String} {fs : List (String × D)} {kvs : List (Key × D)}
theorem hp_lst (h : G a = some (.lst xs)) : oLst (G a) = some xs := by rw [h]; rfl
theorem hp_ins (h : G a = some (.ins c fs)) : oIns (G a) = some (c, fs) := by rw [h]; rfl
theorem hp_dct (h : G a = some (.dct kvs)) : oDct (G a) = some kvs := by rw [h]; rfl
theorem hp_lstOf (h : G a = some (.lst xs)) : lstOf G (.ref a) = some xs := hp_lst h
theorem hp_mutOf (h : G a = some (.lst xs)) : mutOf G (.ref a) = some xs := hp_lst h
theorem hp_seqOf (h : G a = some (.lst xs)) : seqOf G (.ref a) = some xs := hp_lst h
theorem hp_len (h : G a = some (.lst xs)) : lenD G (.ref a) = some xs.length := by simp [lenD, oLst, h]
theorem hp_lenD (h : G a = some (.dct kvs)) : lenD G (.ref a) = some kvs.length := by simp [lenD, oLst, oDct, h]
theorem hp_tyL (h : G a = some (.lst xs)) : tyOf G (.ref a) = some "list" := by simp [tyOf, oLst, h]
theorem hp_tyD (h : G a = some (.dct kvs)) : tyOf G (.ref a) = some "dict" := by simp [tyOf, oLst, oDct, h]
theorem hp_recv (h : G a = some (.ins c fs)) : recv G (.ref a) = some c := by simp [recv, clsOf, h]
theorem hp_fld {f : String} {v : D} (h : G a = some (.ins c fs)) (hf : fs.lookup f = some v) : fldV G (.ref a) f = some v := by unfold fldV; simp only [h]; exact hf
theorem up_at {b : Addr} {o : DO} {x : Option DO} (h : b ≠ a) (e : G b = x) : up G a o b = x := (up_ne h).trans e
theorem up_none {p : Addr} {o : DO} (h : up G a o p = none) : a ≠ p ∧ G p = none := by
  by_cases e : p = a
  · subst e; rw [up_same] at h; cases h
  · rw [up_ne e] at h; exact ⟨fun q => e q.symm, h⟩
end
theorem rangeD_mem {lo : Int} {n : Nat} {d : D} (h : d ∈ rangeD lo n) : ∃ i : Nat, i < n ∧ d = .int (lo + (i : Int)) := by
  unfold rangeD at h
  obtain ⟨i, hi, e⟩ := List.mem_map.mp h
  exact ⟨i, List.mem_range.mp hi, e.symm⟩
/-! ### equality, rule by rule -/
section
variable {G : DH} {Q : DQ}
theorem rEq_iq {i j : Int} (h : Q (.bl (decide (i = j))) G) : rEqD (.int i) (.int j) G Q := by rw [rEq_ii]; exact h
theorem rEq_sq {i j : Str} (h : Q (.bl (decide (i = j))) G) : rEqD (.str i) (.str j) G Q := by rw [rEq_ss]; exact h
theorem rEq_bq {i j : Bool} (h : Q (.bl (decide (i = j))) G) : rEqD (.bl i) (.bl j) G Q := by rw [rEq_bb]; exact h
theorem rNe_iq {i j : Int} (h : Q (.bl (!decide (i = j))) G) : rNeD (.int i) (.int j) G Q := by rw [rNe_ii]; exact h
theorem rNe_sq {i j : Str} (h : Q (.bl (!decide (i = j))) G) : rNeD (.str i) (.str j) G Q := by rw [rNe_ss]; exact h
theorem rNe_bq {i j : Bool} (h : Q (.bl (!decide (i = j))) G) : rNeD (.bl i) (.bl j) G Q := by rw [rNe_bb]; exact h
/-- by the plain data of both -/
theorem rEq_py {x y : D} {p q : PyData} (hx : toPy G 6 x = some p) (hy : toPy G 6 y = some q) (hf : (match x, y with | .int _, .int _ => false | .str _, .str _ => false | .bl _, .bl _ => false | _, _ => true) = true) (h : Q (.bl (PyData.eqv p q)) G) : rEqD x y G Q := by
  unfold rEqD
  have h' : onSome (toPy G 6 x) fun p => onSome (toPy G 6 y) fun q => Q (.bl (if false = true then !PyData.eqv p q else PyData.eqv p q)) G := onSome_i hx (onSome_i hy h)
  cases x <;> cases y <;> first | exact h' | cases hf
theorem rNe_py {x y : D} {p q : PyData} (hx : toPy G 6 x = some p) (hy : toPy G 6 y = some q) (hf : (match x, y with | .int _, .int _ => false | .str _, .str _ => false | .bl _, .bl _ => false | _, _ => true) = true) (h : Q (.bl (!PyData.eqv p q)) G) : rNeD x y G Q := by
  unfold rNeD
  have h' : onSome (toPy G 6 x) fun p => onSome (toPy G 6 y) fun q => Q (.bl (if true = true then !PyData.eqv p q else PyData.eqv p q)) G := onSome_i hx (onSome_i hy h)
  cases x <;> cases y <;> first | exact h' | cases hf
theorem toPy_tup {xs : List D} {ps : List PyData} (h : allPy (toPy G 5) xs = some ps) : toPy G 6 (.tup xs) = some (.tuple ps) := by simp only [toPy, h, Option.map_some]
theorem rEq_tt {xs ys : List D} {ps qs : List PyData} (hx : allPy (toPy G 5) xs = some ps) (hy : allPy (toPy G 5) ys = some qs) (h : Q (.bl (PyData.eqv (.tuple ps) (.tuple qs))) G) : rEqD (.tup xs) (.tup ys) G Q := rEq_py (toPy_tup hx) (toPy_tup hy) rfl h
theorem rNe_tt {xs ys : List D} {ps qs : List PyData} (hx : allPy (toPy G 5) xs = some ps) (hy : allPy (toPy G 5) ys = some qs) (h : Q (.bl (!PyData.eqv (.tuple ps) (.tuple qs))) G) : rNeD (.tup xs) (.tup ys) G Q := rNe_py (toPy_tup hx) (toPy_tup hy) rfl h
theorem rEq_ti {xs : List D} {ps : List PyData} {i : Int} (hx : allPy (toPy G 5) xs = some ps) (h : Q (.bl false) G) : rEqD (.tup xs) (.int i) G Q := rEq_py (toPy_tup hx) rfl rfl h
theorem rNe_ti {xs : List D} {ps : List PyData} {i : Int} (hx : allPy (toPy G 5) xs = some ps) (h : Q (.bl true) G) : rNeD (.tup xs) (.int i) G Q := rNe_py (toPy_tup hx) rfl rfl h
theorem eqv_bls : ∀ (a b : List Bool), PyData.eqv (.list (a.map PyData.bool)) (.list (b.map PyData.bool)) = decide (a = b) := by
  intro a
  induction a with
  | nil => intro b; cases b <;> rfl
  | cons x xs ih =>
    intro b
    cases b with
    | nil => rfl
    | cons y ys =>
      have h := ih ys
      show (PyData.eqv (.bool x) (.bool y) && PyData.eqv (.list (xs.map PyData.bool)) (.list (ys.map PyData.bool))) = _
      rw [h]
      have e : PyData.eqv (.bool x) (.bool y) = decide (x = y) := by cases x <;> cases y <;> rfl
      rw [e]
      simp
theorem allPy_bls : ∀ a : List Bool, allPy (toPy G 5) (a.map D.bl) = some (a.map PyData.bool)
  | [] => rfl
  | b :: bs => by rw [List.map_cons, allPy, allPy_bls bs]; rfl
theorem rEq_bls {p q : Addr} {a b : List Bool} (hp : G p = some (.lst (a.map D.bl))) (hq : G q = some (.lst (b.map D.bl))) (h : Q (.bl (decide (a = b))) G) : rEqD (.ref p) (.ref q) G Q := by
  have e1 : ∀ {r : Addr} {c : List Bool}, G r = some (.lst (c.map D.bl)) → toPy G 6 (.ref r) = some (.list (c.map PyData.bool)) := fun h => by
    simp only [toPy, h, oLst, Option.bind_some, allPy_bls, Option.map_some]
  refine rEq_py (e1 hp) (e1 hq) rfl ?_
  rw [eqv_bls]
  exact h
end
/-! ### how to walk -/
theorem up_none_i {G : DH} {a p : Addr} {o : DO} {P : Prop} (h : a ≠ p → G p = none → P) : up G a o p = none → P := fun e => h (up_none e).1 (up_none e).2
theorem ref_i {a : Addr} {Q : Addr → Prop} (h : Q a) : ∀ b, D.ref a = .ref b → Q b := fun _ e => by cases e; exact h
theorem Sub.at {G G' : DH} {a : Addr} {o : DO} (h : Sub G G') (e : G a = some o) : G' a = some o := h a o e
theorem ifB_not {k : Bool} {A B : Prop} (h : ifB k B A) : ifB (!k) A B := by
  cases k with
  | true => rw [ifB_true] at h; exact ifB_f rfl h
  | false => rw [ifB_false] at h; exact ifB_t rfl h
theorem ifB_if {inst : Decidable (false = true)} {k x : Bool} {A B : Prop} (h : ifB k A B) : ifB (@ite Bool (false = true) inst x k) A B := by rw [if_neg Bool.false_ne_true]; exact h
theorem ifB_if1 {inst : Decidable (true = true)} {k x : Bool} {A B : Prop} (h : ifB k A B) : ifB (@ite Bool (true = true) inst k x) A B := by rw [if_pos rfl]; exact h
end L3

namespace L3
open PySem PySem.Spec PyProof.Rows L2

/-! ### values of the top, looked at -/
theorem isVB_all {K : PySem.W.Frag} {mg : Str → Option Value} {f : Value → D → Bool} (hf : ∀ u d, f u d = true → ∃ v, RelV v u ∧ ∀ H, Rep K mg H v d) : ∀ (us : List Value) (ds : List D), us.length = ds.length → ((us.zip ds).all fun p => f p.1 p.2) = true → ∃ vs, Vals vs us ∧ ∀ H, RepL K mg H vs ds
  | [], [], _, _ => ⟨[], .nil, fun _ => .nil⟩
  | u :: us, d :: ds, hl, h => by
    simp only [List.zip_cons_cons, List.all_cons, Bool.and_eq_true] at h
    obtain ⟨v, r, p⟩ := hf u d h.1
    obtain ⟨vs, rs, ps⟩ := isVB_all hf us ds (by simpa using hl) h.2
    exact ⟨v :: vs, .cons r rs, fun H => .cons (p H) (ps H)⟩
  | [], _ :: _, hl, _ => by simp at hl
  | _ :: _, [], hl, _ => by simp at hl
theorem isVB_ok {K : PySem.W.Frag} {mg : Str → Option Value} : ∀ (n : Nat) (u : Value) (d : D), isVB K n u d = true → ∃ v, RelV v u ∧ ∀ H, Rep K mg H v d := by
  intro n
  induction n with
  | zero =>
    intro u d h
    cases u <;> cases d <;> first | (simp [isVB] at h; done) | skip
    · exact ⟨.non, rfl, fun _ => .non⟩
    · simp only [isVB, beq_iff_eq] at h; subst h; exact ⟨.bl _, rfl, fun _ => .bl _⟩
    · simp only [isVB, decide_eq_true_eq] at h; subst h; exact ⟨.int _, ⟨_, rfl⟩, fun _ => .int _⟩
    · simp only [isVB, decide_eq_true_eq] at h; subst h; exact ⟨.str _, ⟨_, rfl⟩, fun _ => .str _⟩
  | succ n ih =>
    intro u d h
    cases u <;> cases d <;> first | (simp [isVB] at h; done) | skip
    · exact ⟨.non, rfl, fun _ => .non⟩
    · simp only [isVB, beq_iff_eq] at h; subst h; exact ⟨.bl _, rfl, fun _ => .bl _⟩
    · simp only [isVB, decide_eq_true_eq] at h; subst h; exact ⟨.int _, ⟨_, rfl⟩, fun _ => .int _⟩
    · simp only [isVB, decide_eq_true_eq] at h; subst h; exact ⟨.str _, ⟨_, rfl⟩, fun _ => .str _⟩
    · rename_i a ds
      simp only [isVB] at h
      split at h
      · rename_i c od its m sl e
        simp only [Bool.and_eq_true, decide_eq_true_eq, beq_iff_eq] at h
        obtain ⟨h1, h2, h3, h4⟩ := h
        obtain ⟨vs, r, p⟩ := isVB_all (mg := mg) ih its.toList ds h3 h4
        subst h1
        exact ⟨.ref a, rfl, fun H => .tup (.inr ⟨_, its, m, e, rfl, rfl, h2, r⟩) (p H)⟩
      · cases h
    · rename_i a ds
      simp only [isVB] at h
      split at h
      · rename_i c its m sl e
        simp only [Bool.and_eq_true, decide_eq_true_eq, beq_iff_eq] at h
        obtain ⟨h1, h0, h2, h3, h4⟩ := h
        obtain ⟨vs, r, p⟩ := isVB_all (mg := mg) ih its.toList ds h3 h4
        subst h1 h0
        exact ⟨.ref a, rfl, fun H => .wl ⟨its, m, e, h2, r⟩ (p H)⟩
      · cases h
theorem konB_ok {K : PySem.W.Frag} {h : Heap} {mg : Str → Option Value} (X : K.In h) (G : h.Ns mainGlobals mg) {x : Str} {d : D} (c : konB K x d = true) : Kon K mg x d := by
  unfold konB at c
  split at c
  · rename_i u e
    obtain ⟨v, r, p⟩ := isVB_ok (mg := mg) 6 u d c
    exact ⟨v, u, PySem.W.mg_of X G e, r, p⟩
  · cases c
/-! ### dicts of the top keyed by texts -/
theorem kvB_find {K : PySem.W.Frag} (z : Str) : ∀ (es : List DictEntry) (kvs : List (Str × D)), kvB K es kvs = true → es.any (·.refKey) = false ∧ match kvs.lookup z with
    | none => es.find? (·.key.isStr z) = none
    | some d => ∃ e, es.find? (·.key.isStr z) = some e ∧ isVB K 6 e.val d = true
  | [], [], _ => ⟨rfl, rfl⟩
  | [], _ :: _, h => by cases h
  | _ :: _, [], h => by cases h
  | e :: es, p :: r, h => by
    obtain ⟨k1, d1⟩ := p
    simp only [kvB, Bool.and_eq_true] at h
    obtain ⟨h1, h2, h3⟩ := h
    obtain ⟨i1, i2⟩ := kvB_find z es r h3
    cases ek : e.key with
    | str y t =>
      rw [ek] at h1
      have hy : y = k1 := of_decide_eq_true h1
      subst hy
      have hs : e.key.isStr z = (z == y) := by
        rw [ek, PySem.W.isStr_of]
        show (y == z) = (z == y)
        rw [Bool.eq_iff_iff, beq_iff_eq, beq_iff_eq]
        exact eq_comm
      have hk : e.refKey = false := by simp [DictEntry.refKey, ek]
      refine ⟨by rw [List.any_cons, hk, i1]; rfl, ?_⟩
      simp only [List.lookup, List.find?_cons, hs]
      cases q : z == y with
      | true => exact ⟨e, rfl, h2⟩
      | false => exact i2
    | _ => rw [ek] at h1; cases h1
theorem kdB_ok {w : World} {K : PySem.W.Frag} {h : Heap} {mg : Str → Option Value} (X : K.In h) (G : h.Ns mainGlobals mg) {x : Str} {kvs : List (Str × D)} {es : Array DictEntry} {n : Nat} (c : kdB K x kvs = true) (T : KDict K w (He.ga K x) es n) : KD w K mg x kvs := by
  unfold kdB at c
  obtain ⟨c1, c2⟩ := He.ba c
  rw [T.at_] at c2
  refine ⟨He.ga K x, es, n, PySem.W.mg_of X G (He.eqO_ok c1), T, fun z => ?_⟩
  obtain ⟨h1, h2⟩ := kvB_find z es.toList kvs c2
  have hn : PySem.W.nsIn K (He.ga K x) z = match es.toList.find? (·.key.isStr z) with
      | some e => some (some e.val)
      | none => if es.toList.any (·.refKey) then none else some none := by
    simp only [PySem.W.nsIn, T.at_]
    cases List.find? (fun x => x.key.isStr z) es.toList <;> rfl
  cases q : kvs.lookup z with
  | none =>
    rw [q] at h2
    have h2' : es.toList.find? (·.key.isStr z) = none := h2
    show PySem.W.nsIn K (He.ga K x) z = some none
    rw [hn, h2', h1]
    rfl
  | some d =>
    rw [q] at h2
    obtain ⟨e, h3, h4⟩ := h2
    obtain ⟨v, r, p⟩ := isVB_ok (mg := mg) 6 e.val d h4
    refine ⟨e.val, v, ?_, r, p⟩
    rw [hn, h3]
/-! ### the end of a law -/
theorem FnD.mono {P : Program} {w : World} {K : PySem.W.Frag} {mg : Str → Option Value} {base : Heap} {j k : Nat} {x : Str} {sp : DSp} (F : FnD P w K mg base j x sp) (h : j ≤ k) : FnD P w K mg base k x sp := by
  obtain ⟨f, fd, ps, a, b, c, d⟩ := F.ok
  exact ⟨f, fd, ps, a, b, c, d.mono h⟩
theorem repL_ints {K : PySem.W.Frag} {mg : Str → Option Value} {H : Hp} : ∀ ns : List Int, RepL K mg H (ns.map V.int) (ns.map D.int)
  | [] => .nil
  | n :: ns => .cons (.int n) (repL_ints ns)
theorem sp_end {K : PySem.W.Frag} {mg : Str → Option Value} {H : Hp} {a : Addr} {ns : List Int} {sp : DSp} (hO : Only H) (hS : SqL K H a (ns.map V.int)) (h : sp [.rl (ns.map D.int)] (fun _ => none) (fun d _ => d = .bl true) (fun _ _ _ => False)) :
    liftSp K mg sp [.ref a] H (fun v _ => v = .bl true) fun _ _ _ => False := by
  have r : RdL K H a (ns.map V.int) := by
    rcases hS with hR | hR
    · rcases hR with e | e
      · rcases hO a with z | ⟨o, xs, z⟩
        · rw [z] at e; cases e
        · rw [z] at e; cases e
      · exact .inl e
    · exact .inr hR
  have A : Abs K mg (fun _ => none) H := by
    intro p o z
    cases z
  refine ⟨[.rl (ns.map D.int)], fun _ => none, (fun d _ => d = .bl true), (fun _ _ _ => False), .cons (.rl r (repL_ints ns)) .nil, A, h, ?_, ?_⟩
  · intro d G' v H' _ rr _ q
    have q' : d = .bl true := q
    subst q'
    exact rr.blv
  · intro c d G' cls dd H' _ _ _ z
    exact z.elim
theorem rsd_of {K : PySem.W.Frag} {h : Heap} {mg : Str → Option Value} (X : K.In h) (G : h.Ns mainGlobals mg) {x : Str} (g : (He.Fa.glo x).ok K = true) (c : (He.Fa.exc x).ok K = true) : RsD K mg x := by
  obtain ⟨h1, h2, h3, h4⟩ := He.exc_ok c
  exact ⟨_, He.glo_ok X G g, h1, h2, h3, h4⟩
/-- walk_ofE where what a call may let out hangs on the world -/
theorem walk_ofW {l : PySem.W.OpenLaw} {n k : Nat} {q : Program} {loose : List Str} {XP : (Str → Option Value) → Heap → Prop} {YP : World → Heap → Prop} {d : DefRec} {x : Str}
    (hn : l.most = some n) (hn2 : n ≤ sizeLine) (hdf : d.params.defaults = []) (hr : Room k callerA)
    (F : ∀ (w : World) (mg : Str → Option Value) (fa : Addr) (h : Heap), YP w h → h.Ns mainGlobals mg → mg d.name = some (.ref fa) →
      ∃ (K : PySem.W.Frag) (fd : FuncData) (sp : Sp), K.In h ∧ (∀ (s : Shared) (u : Value), BindsTo s fd ⟨[u], []⟩ [(x, u)]) ∧
        (∀ (H : Hp) (a : Addr) (ns : List Int), ns.length ≤ n → Only H → SqL K H a (ns.map V.int) → sp [.ref a] H (fun v _ => v = .bl true) fun _ _ _ => False) ∧
        ∀ base : Heap, K.In base → base.Ns mainGlobals mg → FnOk l.prog w K mg base (L2.CX l.prog w) k fa fd [x] sp) :
    PySem.W.WalkO q loose XP YP l.row.toRowW d [] (fun f vs => PySem.call f vs) := by
  refine Att.attach_call hn hdf fun w s₀ s₁ mg mb fa o pm cd doc a vs ns G Y ho hd hcd hmg hobj hints hlen hg => ?_
  obtain ⟨K, fd, sp, KX, hb, hsp, hF⟩ := F w mg fa _ Y G.T.g hmg
  refine law_call KX G.T.g G.T.b G.T.builtins G.T.nolimit hg hobj hints (Nat.le_trans hlen hn2) hr hF hb (fun H hO hS => hsp H a ns hlen hO hS) fun H e s' => ?_
  rintro ⟨a, B, H', cls, d, _, _, _, _, _, _, _, z⟩
  exact z
theorem nofn {P : Program} {w : World} {K : PySem.W.Frag} {mg : Str → Option Value} {base : Heap} {k : Nat} {f : Addr} {fd : FuncData} {ps : List Str} {sp : DSp} (hz : ∀ ds G Q X, ¬ sp ds G Q X) : FnOk P w K mg base (L2.CX P w) k f fd ps (liftSp K mg sp) :=
  ⟨fun vs H Q E ⟨ds, G, Qd, Xd, _, _, h, _⟩ => (hz _ _ _ _ h).elim, fun A outer s H args us vs Q E _ _ _ _ ⟨ds, G, Qd, Xd, _, _, h, _⟩ => (hz _ _ _ _ h).elim⟩
end L3

namespace L3
open PySem PySem.Spec PyProof.Rows L2

/-! ### dicts, keyed by ints and texts -/
def keyD : D → Option Key
  | .int i => some (.inl i)
  | .str x => some (.inr x)
  | _ => none
theorem keyD_rep {K : PySem.W.Frag} {mg : Str → Option Value} {H : Hp} {v : V} {d : D} {k : Key} (r : Rep K mg H v d) (h : keyD d = some k) : v = kV k := by
  cases d <;> simp only [keyD, Option.some.injEq, reduceCtorEq] at h
  · subst h; exact r.intv
  · subst h; exact r.strv
def repD (kvs : List (Key × D)) (k : Key) (v : D) : List (Key × D) := kvs.map fun kv => if kv.1 = k then (kv.1, v) else kv
def putDK (kvs : List (Key × D)) (k : Key) (v : D) : List (Key × D) := if (kvs.any fun kv => decide (kv.1 = k)) = true then repD kvs k v else kvs ++ [(k, v)]
def dropDK (kvs : List (Key × D)) (k : Key) : List (Key × D) := kvs.filter fun kv => decide (kv.1 ≠ k)
section
variable {K : PySem.W.Frag} {mg : Str → Option Value} {H : Hp}
theorem KRep.get : ∀ {vs : List (Key × V)} {ds : List (Key × D)}, KRep K mg H vs ds → ∀ k : Key, match getD ds k with
    | none => valV vs k = none
    | some d => ∃ v, valV vs k = some v ∧ Rep K mg H v d
  | _, _, .nil, k => rfl
  | _, _, .cons (v := v) (d := d) (k := k') (vs := vs) (ds := ds) a b, k => by
    have ih := KRep.get b k
    unfold getD
    by_cases e : k' = k
    · rw [if_pos e]
      exact ⟨v, valV_pos e, a⟩
    · rw [if_neg e]
      have e2 : valV ((k', v) :: vs) k = valV vs k := valV_neg e
      rw [e2]
      exact ih
theorem KRep.any : ∀ {vs : List (Key × V)} {ds : List (Key × D)}, KRep K mg H vs ds → ∀ k : Key, (vs.any fun kv => decide (kv.1 = k)) = ds.any fun kv => decide (kv.1 = k)
  | _, _, .nil, k => rfl
  | _, _, .cons a b, k => by simp only [List.any_cons, KRep.any b k]
theorem KRep.repl : ∀ {vs : List (Key × V)} {ds : List (Key × D)}, KRep K mg H vs ds → ∀ (k : Key) {v : V} {d : D}, Rep K mg H v d → KRep K mg H (vs.map fun kv => if kv.1 = k then (kv.1, v) else kv) (repD ds k d)
  | _, _, .nil, k, _, _, _ => .nil
  | _, _, .cons (v := v0) (d := d0) (k := k') (vs := vs) (ds := ds) a b, k, v, d, r => by
    have ih := KRep.repl b k r
    unfold repD at ih ⊢
    rw [List.map_cons, List.map_cons]
    by_cases e : k' = k
    · rw [if_pos e, if_pos e]; exact .cons r ih
    · rw [if_neg e, if_neg e]; exact .cons a ih
theorem KRep.snoc : ∀ {vs : List (Key × V)} {ds : List (Key × D)}, KRep K mg H vs ds → ∀ (k : Key) {v : V} {d : D}, Rep K mg H v d → KRep K mg H (vs ++ [(k, v)]) (ds ++ [(k, d)])
  | _, _, .nil, k, _, _, r => .cons r .nil
  | _, _, .cons a b, k, _, _, r => .cons a (KRep.snoc b k r)
theorem KRep.put {vs : List (Key × V)} {ds : List (Key × D)} (r : KRep K mg H vs ds) (k : Key) {v : V} {d : D} (q : Rep K mg H v d) : KRep K mg H (putK vs k v) (putDK ds k d) := by
  unfold putK putDK
  rw [r.any k]
  split
  · exact r.repl k q
  · exact r.snoc k q
theorem KRep.drop : ∀ {vs : List (Key × V)} {ds : List (Key × D)}, KRep K mg H vs ds → ∀ k : Key, KRep K mg H (dropK vs k) (dropDK ds k)
  | _, _, .nil, k => .nil
  | _, _, .cons (k := k') a b, k => by
    have ih := KRep.drop b k
    unfold dropK dropDK at ih ⊢
    by_cases e : k' = k
    · rw [List.filter_cons_of_neg (by simp [e]), List.filter_cons_of_neg (by simp [e])]; exact ih
    · rw [List.filter_cons_of_pos (by simp [e]), List.filter_cons_of_pos (by simp [e])]; exact .cons a ih
end

/-! ### reading, asking -/
/-- a dict to be read: by itself, or walked at the time -/
def oDctR : Option DO → Option (List (Key × D))
  | some (.dct kvs) => some kvs
  | some (.fdc kvs) => some kvs
  | _ => none
theorem oDctR_rd {K : PySem.W.Frag} {mg : Str → Option Value} {H : Hp} {G : DH} {a : Addr} {kvs : List (Key × D)} (A : Abs K mg G H) (h : oDctR (G a) = some kvs) : ∃ ws, Rd H a (.dK ws) ∧ KRep K mg H ws kvs := by
  cases e : G a with
  | none => rw [e] at h; cases h
  | some u =>
    rw [e] at h
    cases u with
    | dct k =>
      cases h
      obtain ⟨ws, e1, e2⟩ := A a _ e
      exact ⟨ws, .inl e1, e2⟩
    | fdc k =>
      cases h
      obtain ⟨o, ws, e1, e2⟩ := A a _ e
      exact ⟨ws, .inr ⟨o, e1⟩, e2⟩
    | _ => cases h
theorem DGetR {H : Hp} {a : Addr} {kvs : List (Key × V)} {k : Key} (e : Rd H a (.dK kvs)) : DGet H a (kV k) (valV kvs k) := .inl ⟨kvs, k, e, rfl, rfl⟩
def dDget (td ty : TED) : TED := fun τ G X Q => td τ G X fun x G1 => ty τ G1 X fun y G2 => onSome (keyD y) fun k => match x with
  | .ref a => onSome (oDctR (G2 a)) fun kvs => onSome (getD kvs k) fun d => Q d G2
  | _ => False
def dDIn (neg : Bool) (ty td : TED) : TED := fun τ G X Q => ty τ G X fun y G1 => td τ G1 X fun x G2 => onSome (keyD y) fun k => match x with
  | .ref a => onSome (oDctR (G2 a)) fun kvs => Q (.bl (if neg then !(getD kvs k).isSome else (getD kvs k).isSome)) G2
  | _ => False
section
variable {X : Cx} {W : WX} {o i : Expr} {td ty : TED} {pos : Pos}
theorem m_dget (hu : X.A.units + 65 < cLine) (ho : ME X W o td) (hi : ME X W i ty) (hs : NoSl i := by exact fun _ _ => rfl) : ME X W (.Subscript o i pos) (dDget td ty) :=
  PE.imp (pe_dget (by omega) ho hi hs) fun σ H Q ⟨τ, G, Xd, Qd, hσ, hA, h, hQ, hX⟩ => by
    refine ⟨τ, G, Xd, _, hσ, hA, h, fun x G1 v H1 e1 r1 a1 h1 => ?_, hX⟩
    refine ⟨τ, G1, Xd, _, hσ.ext e1, a1, h1, fun y G2 u H2 e2 r2 a2 h2 => ?_, hX.ext e1⟩
    obtain ⟨k, ek, h3⟩ := onSome_of h2
    cases x <;> try exact (show False from h3).elim
    rename_i a
    obtain ⟨kvs, e3, h4⟩ := onSome_of h3
    obtain ⟨d, e4, h5⟩ := onSome_of h4
    obtain ⟨ws, e5, kr⟩ := oDctR_rd a2 e3
    have g := kr.get k
    rw [e4] at g
    obtain ⟨v', e6, r6⟩ := g
    have ev := r1.refv
    subst ev
    have ey := keyD_rep r2 ek
    subst ey
    refine ⟨a, v', rfl, ?_, hQ _ _ _ _ (e1.trans e2) r6 a2 h5⟩
    rw [← e6]
    exact DGetR e5
theorem din_lift {neg : Bool} {σ : L2.St} {H : Hp} {Q : VK} (h : liftE X.K X.mg W (dDIn neg ty td) σ H Q) :
    liftE X.K X.mg W ty σ H fun y H1 => liftE X.K X.mg W td σ H1 fun x H2 => ∃ a o, x = .ref a ∧ DGet H2 a y o ∧ Q (.bl (if neg then !o.isSome else o.isSome)) H2 := by
  obtain ⟨τ, G, Xd, Qd, hσ, hA, h, hQ, hX⟩ := h
  refine ⟨τ, G, Xd, _, hσ, hA, h, fun y G1 u H1 e1 r1 a1 h1 => ?_, hX⟩
  refine ⟨τ, G1, Xd, _, hσ.ext e1, a1, h1, fun x G2 v H2 e2 r2 a2 h2 => ?_, hX.ext e1⟩
  obtain ⟨k, ek, h3⟩ := onSome_of h2
  cases x <;> try exact (show False from h3).elim
  rename_i a
  obtain ⟨kvs, e3, h4⟩ := onSome_of h3
  obtain ⟨ws, e5, kr⟩ := oDctR_rd a2 e3
  have g := kr.get k
  have eo : (valV ws k).isSome = (getD kvs k).isSome := by
    cases q : getD kvs k with
    | none => rw [q] at g; rw [show valV ws k = none from g]; rfl
    | some d => rw [q] at g; obtain ⟨v', e6, _⟩ := g; rw [e6]; rfl
  have ey := keyD_rep (r1.ext e2) ek
  subst ey
  refine ⟨a, valV ws k, r2.refv, DGetR e5, ?_⟩
  rw [eo]
  exact hQ _ _ _ _ (e1.trans e2) (.bl _) a2 h4
theorem m_din (hu : X.A.units + 65 < cLine) (hi : ME X W i ty) (ho : ME X W o td) (hm : behindInMarks .In o = false := by first | exact nomark _ | rfl) : ME X W (.Compare i [.In] [o] pos) (dDIn false ty td) :=
  PE.imp (pe_cmp (pc_din (by omega) hi ho) hm) fun σ H Q h => din_lift h
theorem m_dnin (hu : X.A.units + 65 < cLine) (hi : ME X W i ty) (ho : ME X W o td) (hm : behindInMarks .NotIn o = false := by first | exact nomark _ | rfl) : ME X W (.Compare i [.NotIn] [o] pos) (dDIn true ty td) :=
  PE.imp (pe_cmp (pc_dnotin (by omega) hi ho) hm) fun σ H Q h => din_lift h
end

/-! ### displays -/
abbrev DPs := List (TED × TED)
def dpNil : DPs := []
def dpCons (a b : TED) (r : DPs) : DPs := (a, b) :: r
def dPairs : DPs → DSt → DH → DX → (List (D × D) → DH → Prop) → Prop
  | [], _, G, _, Q => Q [] G
  | (a, b) :: r, τ, G, X, Q => a τ G X fun x G1 => b τ G1 X fun y G2 => dPairs r τ G2 X fun ps G3 => Q ((x, y) :: ps) G3
def keysD : List (D × D) → Option (List (Key × D))
  | [] => some []
  | (x, y) :: r => (keyD x).bind fun k => (keysD r).map fun l => (k, y) :: l
def mergeDK (kvs more : List (Key × D)) : List (Key × D) := more.foldl (fun acc kv => putDK acc kv.1 kv.2) kvs
def dDisp (ps : DPs) : TED := fun τ G X Q => ∀ p, G p = none → dPairs ps τ (up G p (.dct [])) X fun ps G2 => onSome (oDct (G2 p)) fun l => (l = [] ∧ ps.length ≤ 15) ∧ onSome (keysD ps) fun kvs => Q (.ref p) (up G2 p (.dct (mergeDK [] kvs)))
abbrev PRep (K : PySem.W.Frag) (mg : Str → Option Value) (H : Hp) : List (V × V) → List (D × D) → Prop := Paired fun p q => Rep K mg H p.1 q.1 ∧ Rep K mg H p.2 q.2
theorem PRep.ext {K : PySem.W.Frag} {mg : Str → Option Value} {H H' : Hp} (e : Ext H H') {vs : List (V × V)} {ds : List (D × D)} (r : PRep K mg H vs ds) : PRep K mg H' vs ds := by
  induction r with
  | nil => exact .nil
  | cons a _ ih => exact .cons ⟨a.1.ext e, a.2.ext e⟩ ih
theorem lift_pairs {K : PySem.W.Frag} {mg : Str → Option Value} {W : WX} {σ : L2.St} : ∀ (ps : DPs) {H : Hp} {τ : DSt} {G : DH} {Xd : DX} {Qd : List (D × D) → DH → Prop} {Q : List (V × V) → Hp → Prop}, StRep K mg H σ τ → Abs K mg G H → dPairs ps τ G Xd Qd →
    (∀ ds G' vs H', Ext H H' → PRep K mg H' vs ds → Abs K mg G' H' → Qd ds G' → Q vs H') → XOk K mg W Xd σ H → tPairs (ps.map fun p => (liftE K mg W p.1, liftE K mg W p.2)) σ H Q
  | [], H, τ, G, Xd, Qd, Q, hσ, hA, h, hQ, hX => hQ [] G [] H (.refl _) .nil hA h
  | (a, b) :: r, H, τ, G, Xd, Qd, Q, hσ, hA, h, hQ, hX => by
    refine ⟨τ, G, Xd, _, hσ, hA, h, fun x G1 v H1 e1 r1 a1 h1 => ?_, hX⟩
    refine ⟨τ, G1, Xd, _, hσ.ext e1, a1, h1, fun y G2 u H2 e2 r2 a2 h2 => ?_, hX.ext e1⟩
    refine lift_pairs r ((hσ.ext e1).ext e2) a2 h2 (fun ds G' vs H' e3 r3 a3 h3 => ?_) ((hX.ext e1).ext e2)
    exact hQ _ _ _ _ ((e1.trans e2).trans e3) (.cons ⟨(r1.ext e2).ext e3, r2.ext e3⟩ r3) a3 h3
theorem keys_rep {K : PySem.W.Frag} {mg : Str → Option Value} {H : Hp} {vs : List (V × V)} {ds : List (D × D)} (r : PRep K mg H vs ds) : ∀ {kvs : List (Key × D)}, keysD ds = some kvs → ∃ ws : List (Key × V), vs = ws.map (fun kv => (kV kv.1, kv.2)) ∧ KRep K mg H ws kvs := by
  induction r with
  | nil => intro kvs h; cases h; exact ⟨[], rfl, .nil⟩
  | @cons p q ps qs a _ ih =>
    intro kvs h
    obtain ⟨x, y⟩ := q
    simp only [keysD] at h
    obtain ⟨k, e1, h⟩ := Option.bind_eq_some_iff.mp h
    obtain ⟨l, e2, h⟩ := Option.map_eq_some_iff.mp h
    subst h
    obtain ⟨ws, e3, kr⟩ := ih e2
    have ek := keyD_rep a.1 e1
    refine ⟨(k, p.2) :: ws, ?_, .cons a.2 kr⟩
    rw [e3, List.map_cons, ← ek]
theorem KRep.merge {K : PySem.W.Frag} {mg : Str → Option Value} {H : Hp} {more : List (Key × V)} {md : List (Key × D)} (r : KRep K mg H more md) : ∀ {vs : List (Key × V)} {ds : List (Key × D)}, KRep K mg H vs ds → KRep K mg H (mergeK vs more) (mergeDK ds md) := by
  induction more generalizing md with
  | nil => intro vs ds q; cases r; exact q
  | cons p ps ih =>
    intro vs ds q
    cases r with
    | cons a b => exact ih b (q.put _ a)
structure MPs (X : Cx) (W : WX) (pos : Pos) (keys : List (Option Expr)) (values : List Expr) (ps : DPs) : Prop where
  h : PPs X pos keys values (ps.map fun p => (liftE X.K X.mg W p.1, liftE X.K X.mg W p.2))
section
variable {X : Cx} {W : WX} {pos : Pos} {k v : Expr} {ks : List (Option Expr)} {vs : List Expr} {ta tb : TED} {ps : DPs}
theorem mp_nil : MPs X W pos [] [] dpNil := ⟨pps_nil⟩
theorem mp_cons (ha : ME X W k ta) (hb : ME X W v tb) (hr : MPs X W pos ks vs ps) : MPs X W pos (some k :: ks) (v :: vs) (dpCons ta tb ps) := ⟨pps_cons ha hb hr.h⟩
theorem m_disp (h : MPs X W pos ks vs ps) (hall : ks.all (·.isSome) = true := by rfl) (hl : ks.length = vs.length := by rfl) (h0 : ks ≠ [] := by exact List.cons_ne_nil _ _) (h15 : ks.length ≤ 15 := by decide) : ME X W (.Dict ks vs pos) (dDisp ps) :=
  PE.imp (pe_disp h.h hall hl h0 h15) fun σ H Q ⟨τ, G, Xd, Qd, hσ, hA, h, hQ, hX⟩ => by
    intro p hp
    have e0 : Ext H (upd H p (.dK [])) := .new hp
    refine lift_pairs ps (hσ.ext e0) (hA.newD hp .nil) (h p (hA.none hp)) (fun ds G2 vs H2 e2 r2 a2 h2 => ?_) (hX.ext e0)
    obtain ⟨l, el, ⟨rfl, hlen⟩, h3⟩ := onSome_of h2
    obtain ⟨kvs, ek, h4⟩ := onSome_of h3
    obtain ⟨ws0, e5, kr0⟩ := a2 _ _ (oDct_some el)
    cases kr0
    obtain ⟨ws, e6, kr⟩ := keys_rep r2 ek
    have hl2 : ws.length ≤ 15 := by
      have z := Paired.length r2
      rw [e6, List.length_map] at z
      omega
    refine ⟨e5, ws, e6, hl2, ?_⟩
    have em : Ext H2 (upd H2 p (.dK (mergeK [] ws))) := .dct e5
    exact hQ _ _ _ _ ((e0.trans e2).trans em) (.ref p) (a2.setD e5 (kr.merge .nil)) h4
end
section
variable {X : Cx} {W : WX} {o i value : Expr} {td ty tv : TED} {pos pos' : Pos}
theorem tin_lift {neg : Bool} {σ : L2.St} {H : Hp} {Q : Bool → Hp → Prop} (h : liftT X.K X.mg W (dT (dDIn neg ty td)) σ H Q) :
    liftE X.K X.mg W (dDIn neg ty td) σ H fun x H1 => ∃ b, x = .bl b ∧ Q b H1 := by
  obtain ⟨τ, G, Xd, Qd, hσ, hA, h, hQ, hX⟩ := h
  refine ⟨τ, G, Xd, _, hσ, hA, h, fun x G1 v H1 e1 r1 a1 h1 => ?_, hX⟩
  obtain ⟨b, rfl, q⟩ := asB_of h1
  exact ⟨b, r1.blv, hQ _ _ _ e1 a1 q⟩
theorem m_tdin (hu : X.A.units + 65 < cLine) (hi : ME X W i ty) (ho : ME X W o td) (hm : behindInMarks .In o = false := by first | exact nomark _ | rfl) : MT X W (.Compare i [.In] [o] pos) (dT (dDIn false ty td)) :=
  PT.imp (pt_cmp (pc_din (by omega) hi ho) hm) fun σ H Q h => din_lift (tin_lift h)
theorem m_tdnin (hu : X.A.units + 65 < cLine) (hi : ME X W i ty) (ho : ME X W o td) (hm : behindInMarks .NotIn o = false := by first | exact nomark _ | rfl) : MT X W (.Compare i [.NotIn] [o] pos) (dT (dDIn true ty td)) :=
  PT.imp (pt_cmp (pc_dnotin (by omega) hi ho) hm) fun σ H Q h => din_lift (tin_lift h)
/-- d[k] = v as a statement -/
def gDput (td ty : TED) : TGD := fun v τ G X Q => td τ G X fun x G1 => ty τ G1 X fun y G2 => onSome (keyD y) fun k => match x with
  | .ref a => onSome (oDct (G2 a)) fun kvs => kvs.length < 16777216 ∧ Q τ (up G2 a (.dct (putDK kvs k v)))
  | _ => False
theorem ms_dput (hu : X.A.units + 65 < cLine) (hv : ME X W value tv) (ho : ME X W o td) (hi : ME X W i ty) (hs : swapsWith value (some (.Subscript o i pos')) pos.line X.env = pure false := by rfl) :
    MS X W (.Assign [.Subscript o i pos'] value pos) (sAsg tv (gDput td ty)) :=
  PS.imp (ps_dput (by omega) ho hi hv hs) fun D_ σ H ⟨τ, G, Dd, hσ, hA, h, hE⟩ => by
    refine ⟨τ, G, Dd.xx, _, hσ, hA, h, fun v G1 w H1 e1 r1 a1 h1 => ?_, hE.xx σ⟩
    refine ⟨τ, G1, Dd.xx, _, hσ.ext e1, a1, h1, fun x G2 u H2 e2 r2 a2 h2 => ?_, (hE.xx σ).ext e1⟩
    refine ⟨τ, G2, Dd.xx, _, (hσ.ext e1).ext e2, a2, h2, fun y G3 u3 H3 e3 r3 a3 h3 => ?_, ((hE.xx σ).ext e1).ext e2⟩
    obtain ⟨k, ek, h4⟩ := onSome_of h3
    cases x <;> try exact (show False from h4).elim
    rename_i a
    obtain ⟨kvs, e4, hz, h5⟩ := onSome_of h4
    obtain ⟨ws, e5, kr⟩ := a3 _ _ (oDct_some e4)
    have ey := keyD_rep r3 ek
    subst ey
    have rv := (r1.ext e2).ext e3
    refine ⟨a, _, r2.refv, DPut.k e5 (by rw [kr.length]; exact big_lt hz), ?_⟩
    have em : Ext H3 (upd H3 a (.dK (putK ws k w))) := .dct e5
    have e03 := (e1.trans e2).trans e3
    exact hE.nx _ _ _ _ (e03.trans em) ((hσ.ext e03).ext em) (a3.setD e5 (kr.put k rv)) h5
end
def isDc (x : D) (G : DH) : Prop := ∃ a kvs, x = .ref a ∧ oDctR (G a) = some kvs
theorem isDc_at {K : PySem.W.Frag} {mg : Str → Option Value} {H : Hp} {G : DH} {v : V} {x : D} (A : Abs K mg G H) (r : Rep K mg H v x) (h : isDc x G) : ∃ a, x = .ref a ∧ v = .ref a ∧ IsD H a := by
  obtain ⟨a, kvs, rfl, e⟩ := h
  obtain ⟨ws, e5, _⟩ := oDctR_rd A e
  exact ⟨a, rfl, r.refv, .inl ⟨ws, e5⟩⟩
def dDget1 (td ty : TED) : TED := fun τ G X Q => td τ G X fun x G1 => isDc x G1 ∧ ty τ G1 X fun y G2 => onSome (keyD y) fun k => match x with
  | .ref a => onSome (oDctR (G2 a)) fun kvs => Q ((getD kvs k).getD .non) G2
  | _ => False
def dDget2 (td ty tx : TED) : TED := fun τ G X Q => td τ G X fun x G1 => isDc x G1 ∧ ty τ G1 X fun y G2 => tx τ G2 X fun z G3 => onSome (keyD y) fun k => match x with
  | .ref a => onSome (oDctR (G3 a)) fun kvs => Q ((getD kvs k).getD z) G3
  | _ => False
theorem getD_or {K : PySem.W.Frag} {mg : Str → Option Value} {H : Hp} {ws : List (Key × V)} {kvs : List (Key × D)} (kr : KRep K mg H ws kvs) (k : Key) {z : V} {d : D} (r : Rep K mg H z d) : Rep K mg H ((valV ws k).getD z) ((getD kvs k).getD d) := by
  have g := kr.get k
  cases q : getD kvs k with
  | none => rw [q] at g; rw [show valV ws k = none from g]; exact r
  | some d => rw [q] at g; obtain ⟨v', e6, r6⟩ := g; rw [e6]; exact r6
section
variable {X : Cx} {W : WX} {o e f : Expr} {td ty tx : TED} {apos cpos : Pos}
theorem m_dget1 (hu : X.A.units + 65 < cLine) (ho : ME X W o td) (he : ME X W e ty) (m : M1 X o "get" apos e cpos := by exact ⟨rfl, rfl, rfl, rfl⟩) : ME X W (.Call (.Attribute o "get" apos) [e] [] cpos) (dDget1 td ty) :=
  PE.imp (pe_dget1 (by omega) ho he m) fun σ H Q ⟨τ, G, Xd, Qd, hσ, hA, h, hQ, hX⟩ => by
    refine ⟨τ, G, Xd, _, hσ, hA, h, fun x G1 v H1 e1 r1 a1 h1 => ?_, hX⟩
    obtain ⟨hd, h1⟩ := h1
    obtain ⟨a, rfl, rfl, isd⟩ := isDc_at a1 r1 hd
    refine ⟨a, rfl, isd, τ, G1, Xd, _, hσ.ext e1, a1, h1, fun y G2 u H2 e2 r2 a2 h2 => ?_, hX.ext e1⟩
    obtain ⟨k, ek, h3⟩ := onSome_of h2
    obtain ⟨kvs, e3, h4⟩ := onSome_of h3
    obtain ⟨ws, e5, kr⟩ := oDctR_rd a2 e3
    have ey := keyD_rep r2 ek
    subst ey
    exact ⟨_, DGetR e5, hQ _ _ _ _ (e1.trans e2) (getD_or kr k .non) a2 h4⟩
theorem m_dget2 (hu : X.A.units + 65 < cLine) (ho : ME X W o td) (he : ME X W e ty) (hf : ME X W f tx) (m : M2 X o "get" apos e f cpos := by exact ⟨rfl, rfl, rfl, rfl⟩) : ME X W (.Call (.Attribute o "get" apos) [e, f] [] cpos) (dDget2 td ty tx) :=
  PE.imp (pe_dget2 (by omega) ho he hf m) fun σ H Q ⟨τ, G, Xd, Qd, hσ, hA, h, hQ, hX⟩ => by
    refine ⟨τ, G, Xd, _, hσ, hA, h, fun x G1 v H1 e1 r1 a1 h1 => ?_, hX⟩
    obtain ⟨hd, h1⟩ := h1
    obtain ⟨a, rfl, rfl, isd⟩ := isDc_at a1 r1 hd
    refine ⟨a, rfl, isd, τ, G1, Xd, _, hσ.ext e1, a1, h1, fun y G2 u H2 e2 r2 a2 h2 => ?_, hX.ext e1⟩
    refine ⟨τ, G2, Xd, _, (hσ.ext e1).ext e2, a2, h2, fun z G3 u3 H3 e3 r3 a3 h3 => ?_, (hX.ext e1).ext e2⟩
    obtain ⟨k, ek, h3⟩ := onSome_of h3
    obtain ⟨kvs, e4, h4⟩ := onSome_of h3
    obtain ⟨ws, e5, kr⟩ := oDctR_rd a3 e4
    have ey := keyD_rep (r2.ext e3) ek
    subst ey
    exact ⟨_, DGetR e5, hQ _ _ _ _ ((e1.trans e2).trans e3) (getD_or kr k r3) a3 h4⟩
end
/-! ### get of a dict of the top -/
def dKGet (kvs : List (Str × D)) (ta : TED) : TED := fun τ G X Q => ta τ G X fun x G1 => asS x fun z => Q ((kvs.lookup z).getD .non) G1
section
variable {X : Cx} {W : WX} {e : Expr} {ta : TED} {p apos cpos : Pos}
theorem m_kget {x : Str} {kvs : List (Str × D)} (T : KD X.w X.K X.mg x kvs) (ha : ME X W e ta) (m : M1 X (.Name x p) "get" apos e cpos := by exact ⟨rfl, rfl, rfl, rfl⟩) (hg : Gl X x := by rfl) (hdb : (x == ("__debug__" : Str)) = false := by decide) :
    ME X W (.Call (.Attribute (.Name x p) "get" apos) [e] [] cpos) (dKGet kvs ta) := by
  obtain ⟨d, es, n, hm, hd, hl⟩ := T.ok
  refine ⟨fun pins s σ H Q I h => ?_⟩
  refine wpAny_Call_method m.base m.few m.line PySem.F.plainAttrs_dict PySem.F.slot_dict_get PySem.F.type_dict_get (thn ((pe_glob (v := .ref d) hg hm rfl hdb).run pins s σ H (fun y H1 => y = .ref d ∧ H1 = H) I ⟨rfl, rfl⟩) fun u s1 ⟨y, H1, I1, ry, ey, eH⟩ => ?_)
  subst ey eH
  obtain rfl : u = Value.ref d := ry
  have hmo := PySem.W.mapOf_K (prog := X.prog) (w := X.w) I1.kIn hd.at_ hd.lit
  refine ⟨hmo.typeIs, fun b q => by cases q; exact ⟨_, I1.kIn _ _ hd.at_, rfl⟩, ?_⟩
  rw [m.trees]
  obtain ⟨τ, G, Xd, Qd, hσ, hA, h, hQ, hX⟩ := h
  have h' : liftE X.K X.mg W ta σ H1 fun y H2 => ∃ z, y = .str z ∧ ∀ v, (match kvs.lookup z with | none => v = .non | some d => Rep X.K X.mg H2 v d) → Q v H2 := by
    refine ⟨τ, G, Xd, _, hσ, hA, h, fun y G1 v H2 e1 r1 a1 h1 => ?_, hX⟩
    obtain ⟨z, rfl, q⟩ := asS_of h1
    refine ⟨z, r1.strv, fun v hv => hQ _ _ _ _ e1 ?_ a1 q⟩
    cases q2 : kvs.lookup z with
    | none => rw [q2] at hv; rw [show v = .non from hv]; exact .non
    | some d => rw [q2] at hv; exact hv
  refine Calls.callWith_builtin rfl (Calls.evalArgs_plain (Calls.spliced_cons (thn (ha.run pins s1 σ H1 _ I1 h') fun iv s2 ⟨y, H2, I2, ry2, z, ez, q2⟩ => Calls.spliced_nil ?_)))
  subst ez
  obtain ⟨t, rfl⟩ := (show ∃ t, iv = Value.str z t from ry2)
  have hm2 := PySem.W.mapOf_K (prog := X.prog) (w := X.w) I2.kIn hd.at_ hd.lit
  have hz := hl z
  cases q : kvs.lookup z with
  | none =>
    rw [q] at hz q2
    have e := PySem.W.find_K hd.at_ (show PySem.W.nsIn X.K d z = some none from hz)
    refine call_meetsIn PySem.F.slot_dict_get hm2.typeIs PySem.F.entry_dict_get (PySem.F.args_dict_get_2 _ _) (meets_dict_get (strKind X.prog X.w) d (strKind_is X.prog X.w z t) hd.low) ⟨_, hm2, .non, H2, I2.tok _, ?_, q2 _ rfl⟩
    rw [e]
    rfl
  | some d' =>
    rw [q] at hz q2
    obtain ⟨v, u, e0, r0, p0⟩ := hz
    have e := PySem.W.find_K hd.at_ e0
    refine call_meetsIn PySem.F.slot_dict_get hm2.typeIs PySem.F.entry_dict_get (PySem.F.args_dict_get_2 _ _) (meets_dict_get (strKind X.prog X.w) d (strKind_is X.prog X.w z t) hd.low) ⟨_, hm2, u, H2, I2.tok _, ?_, q2 _ (p0 H2)⟩
    rw [e]
    exact r0
end
end L3

namespace L3
open PySem PySem.Spec PyProof.Rows L2

/-! ### a statement that is never reached -/
def sDead : TSD := fun _ _ _ => False
theorem ms_dead {X : Cx} {W : WX} {st : Stmt} : MS X W st sDead := ⟨fun pins s σ H Q I ⟨_, _, _, _, _, h, _⟩ => h.elim⟩

/-! ### d.update(e), d.pop(k) -/
section
variable {X : Cx} {pins : List (Addr × Obj)} {σ : L2.St} {H : Hp} {s : Shared} {a b : Addr} {kvs more : List (Key × V)} {A : Around} {E : Value → Shared → Prop}
theorem d_update {Q : Value → Shared → Prop} (I : Inv X pins σ H s) (e : H a = some (.dK kvs)) (e2 : H b = some (.dK more)) (ne : a ≠ b) (hz : kvs.length + more.length ≤ sizeLine) (h : ∀ s', Inv X pins σ (upd H a (.dK (mergeK kvs more))) s' → Q .none s') :
    wpAny (model X.prog X.w) A (call (.builtin "dict.update") [.ref a, .ref b]) Q E s := by
  obtain ⟨z, hd, vs, rel, dd⟩ := dk_of I.hok e
  obtain ⟨z2, hd2, rs, rel2, dd2⟩ := dk_of I.hok e2
  refine call_meetsIn PySem.F.slot_dict_update dd.typeIs PySem.F.entry_dict_update (PySem.F.args_dict_update_2 _ _) (meets_dict_update (mixKind X.prog X.w) a b ne hd2)
    ⟨vs, rs, dd, dd2, by rw [← rel.length, ← rel2.length]; exact hz, fun h' dd' _ hs => h _ ?_⟩
  have he : ∃ q, h'.get? a = some q := let ⟨q, _, _, hq, _⟩ := dd'; ⟨q, hq⟩
  exact d_write (t' := s.toks) I (by rw [e]; exact True.intro) hs he (dk_new (Nat.le_trans (length_mergeK _ _) hz) hd (rel2.merge rel) dd')
end
def dDupd (td ty : TED) : TED := fun τ G X Q => td τ G X fun x G1 => isDc x G1 ∧ ty τ G1 X fun y G2 => match x with
  | .ref a => match y with
    | .ref b => a ≠ b ∧ onSome (oDct (G2 a)) fun kvs => onSome (oDct (G2 b)) fun more => kvs.length + more.length ≤ 16777216 ∧ Q .non (up G2 a (.dct (mergeDK kvs more)))
    | _ => False
  | _ => False
def dDpop (td ty : TED) : TED := fun τ G X Q => td τ G X fun x G1 => isDc x G1 ∧ ty τ G1 X fun y G2 => onSome (keyD y) fun k => match x with
  | .ref a => onSome (oDct (G2 a)) fun kvs => onSome (getD kvs k) fun v => Q v (up G2 a (.dct (dropDK kvs k)))
  | _ => False
section
variable {X : Cx} {W : WX} {o e f : Expr} {td ty tx : TED} {apos cpos : Pos}
theorem m_dupd (hu : X.A.units + 65 < cLine) (ho : ME X W o td) (he : ME X W e ty) (m : M1 X o "update" apos e cpos := by exact ⟨rfl, rfl, rfl, rfl⟩) : ME X W (.Call (.Attribute o "update" apos) [e] [] cpos) (dDupd td ty) := by
  refine ⟨fun pins s σ H Q I ⟨τ, G, Xd, Qd, hσ, hA, h, hQ, hX⟩ => ?_⟩
  have h1 : liftE X.K X.mg W td σ H fun v H1 => ∃ a, v = .ref a ∧ IsD H1 a ∧ ∃ G1, Ext H H1 ∧ Abs X.K X.mg G1 H1 ∧ ty τ G1 Xd fun y G2 => match y with
      | .ref b => a ≠ b ∧ onSome (oDct (G2 a)) fun kvs => onSome (oDct (G2 b)) fun more => kvs.length + more.length ≤ 16777216 ∧ Qd .non (up G2 a (.dct (mergeDK kvs more)))
      | _ => False := by
    refine ⟨τ, G, Xd, _, hσ, hA, h, fun x G1 v H1 e1 r1 a1 h1 => ?_, hX⟩
    obtain ⟨hd, h1⟩ := h1
    obtain ⟨a, rfl, rfl, isd⟩ := isDc_at a1 r1 hd
    exact ⟨a, rfl, isd, G1, e1, a1, h1⟩
  refine wpAny_Call_method m.base m.few m.line PySem.F.plainAttrs_dict PySem.F.slot_dict_update PySem.F.type_dict_update (thn (ho.run pins s σ H _ I h1) fun u s1 ⟨x, H1, I1, rx, a, ex, d, G1, e1, a1, q1⟩ => ?_)
  subst ex
  obtain rfl : u = Value.ref a := rx
  obtain ⟨t1, t2, _⟩ := isD_at I1 d
  refine ⟨t1, t2, ?_⟩
  rw [m.trees]
  have h2 : liftE X.K X.mg W ty σ H1 fun v H2 => ∃ b kvs more, v = .ref b ∧ a ≠ b ∧ H2 a = some (.dK kvs) ∧ H2 b = some (.dK more) ∧ kvs.length + more.length ≤ sizeLine ∧ Q .non (L2.upd H2 a (.dK (mergeK kvs more))) := by
    refine ⟨τ, G1, Xd, _, hσ.ext e1, a1, q1, fun y G2 v H2 e2 r2 a2 h2 => ?_, hX.ext e1⟩
    cases y with
    | ref b =>
      obtain ⟨ne, h2⟩ := h2
      obtain ⟨kvs, k1, h2⟩ := onSome_of h2
      obtain ⟨more, k2, hz, h2⟩ := onSome_of h2
      obtain ⟨ws, e5, kr⟩ := a2 _ _ (oDct_some k1)
      obtain ⟨ms, e6, kr2⟩ := a2 _ _ (oDct_some k2)
      refine ⟨b, ws, ms, r2.refv, ne, e5, e6, by rw [kr.length, kr2.length]; exact big_line hz, ?_⟩
      have em : Ext H2 (L2.upd H2 a (.dK (mergeK ws ms))) := .dct e5
      exact hQ _ _ _ _ ((e1.trans e2).trans em) .non (a2.setD e5 (kr2.merge kr)) h2
    | _ => exact h2.elim
  refine Calls.callWith_builtin rfl (Calls.evalArgs_plain (Calls.spliced_cons (thn (he.run pins s1 σ H1 _ I1 h2) fun iv s2 ⟨y, H2, I2, ry, b, kvs, more, ey, ne, k1, k2, hz, q2⟩ => Calls.spliced_nil ?_)))
  subst ey
  obtain rfl : iv = Value.ref b := ry
  exact d_update I2 k1 k2 ne hz fun s3 I3 => ⟨.non, _, I3, rfl, q2⟩
theorem m_dpop (hu : X.A.units + 65 < cLine) (ho : ME X W o td) (he : ME X W e ty) (m : M1 X o "pop" apos e cpos := by exact ⟨rfl, rfl, rfl, rfl⟩) : ME X W (.Call (.Attribute o "pop" apos) [e] [] cpos) (dDpop td ty) :=
  PE.imp (pe_dpop1 ho he m) fun σ H Q ⟨τ, G, Xd, Qd, hσ, hA, h, hQ, hX⟩ => by
    refine ⟨τ, G, Xd, _, hσ, hA, h, fun x G1 v H1 e1 r1 a1 h1 => ?_, hX⟩
    obtain ⟨hd, h1⟩ := h1
    obtain ⟨a, rfl, rfl, isd⟩ := isDc_at a1 r1 hd
    refine ⟨a, rfl, isd, τ, G1, Xd, _, hσ.ext e1, a1, h1, fun y G2 u H2 e2 r2 a2 h2 => ?_, hX.ext e1⟩
    obtain ⟨k, ek, h3⟩ := onSome_of h2
    obtain ⟨kvs, e3, h4⟩ := onSome_of h3
    obtain ⟨v, e4, h5⟩ := onSome_of h4
    obtain ⟨ws, e5, kr⟩ := a2 _ _ (oDct_some e3)
    have ey := keyD_rep r2 ek
    subst ey
    have g := kr.get k
    rw [e4] at g
    obtain ⟨v', e6, r6⟩ := g
    have em : Ext H2 (L2.upd H2 a (.dK (dropK ws k))) := .dct e5
    exact ⟨ws, k, v', e5, rfl, e6, hQ _ _ _ _ ((e1.trans e2).trans em) (r6.ext em) (a2.setD e5 (kr.drop k)) h5⟩
end

/-! ### xs.index(y) of flat things; T.index(y) of a tuple of texts of the top -/
def idxF (y : D) : List D → Option Nat
  | [] => none
  | z :: zs => if eqF z y then some 0 else (idxF y zs).map (· + 1)
theorem idxF_ok {K : PySem.W.Frag} {mg : Str → Option Value} {H : Hp} {v : V} {d : D} (r : Rep K mg H v d) (f : flatD d = true) : ∀ {ws : List V} {ds : List D} {j : Nat}, RepL K mg H ws ds → ds.all flatD = true → idxF d ds = some j →
    ws.all flatV = true ∧ ∃ z, ws[j]? = some z ∧ eqV z v = true ∧ ∀ (m : Nat) (z' : V), m < j → ws[m]? = some z' → eqV z' v = false
  | _, _, j, .nil, _, h => by cases h
  | _, _, j, .cons (v := w) (vs := ws) (d := d0) (ds := ds) a b, hf, h => by
    simp only [List.all_cons, Bool.and_eq_true] at hf
    have e0 : eqV w v = eqF d0 d := a.eqF r hf.1 f
    have hall : ws.all flatV = true := (RepL.inV r f b hf.2).1
    refine ⟨by simp [hall, a.flat hf.1], ?_⟩
    unfold idxF at h
    split at h
    · rename_i q
      cases h
      exact ⟨w, rfl, e0.trans q, fun m z' hm => absurd hm (Nat.not_lt_zero _)⟩
    · rename_i q
      obtain ⟨i, hi, rfl⟩ := Option.map_eq_some_iff.mp h
      obtain ⟨_, z, h1, h2, h3⟩ := idxF_ok r f b hf.2 hi
      refine ⟨z, by simpa using h1, h2, fun m z' hm hz => ?_⟩
      cases m with
      | zero => simp at hz; subst hz; rw [e0]; simpa using q
      | succ m => exact h3 m z' (by omega) (by simpa using hz)
def rIdxD : RM := fun x ds G Q => match ds with
  | [y] => flatD y = true ∧ onSome (lstOf G x) fun ys => ys.all flatD = true ∧ onSome (idxF y ys) fun j => Q (.int (j : Int)) G
  | _ => False
section
variable {X : Cx} {W : WX}
theorem mm_index : MtR X "list.index" (liftM X.K X.mg rIdxD) := by
  intro pins s σ H x xs v us Q I rx rv h
  obtain ⟨d, ds, G, Qd, r1, r2, A, h, hQ⟩ := h
  match ds, h with
  | [y], h =>
    obtain ⟨w, rfl, ry⟩ := r2.one
    obtain ⟨fy, h⟩ := h
    obtain ⟨ys, e, fys, h⟩ := onSome_of h
    obtain ⟨j, ej, h⟩ := onSome_of h
    obtain ⟨a, ws, rfl, sq, l⟩ := lst_at A r1 e
    obtain ⟨f1, z, h1, h2, h3⟩ := idxF_ok ry fy l fys ej
    exact mt_index pins s σ H _ _ v us Q I rx rv ⟨a, ws, w, j, z, rfl, rfl, sq, ry.flat fy, f1, h1, h2, h3, hQ _ _ _ _ (.refl _) (.int _) A h⟩
end
def strsOf : List D → Option (List Str)
  | [] => some []
  | .str x :: r => (strsOf r).map (x :: ·)
  | _ => none
theorem strsOf_ok {K : PySem.W.Frag} {mg : Str → Option Value} {H : Hp} : ∀ {ws : List V} {ds : List D} {ys : List Str}, RepL K mg H ws ds → strsOf ds = some ys → ws = ys.map V.str
  | _, _, ys, .nil, h => by cases h; rfl
  | _, _, ys, .cons (d := d) a b, h => by
    cases d <;> first | cases h | skip
    obtain ⟨r, hr, rfl⟩ := Option.map_eq_some_iff.mp h
    rw [a.strv, strsOf_ok b hr]; rfl
def idxS (z : Str) : List Str → Option Nat
  | [] => none
  | y :: ys => if y = z then some 0 else (idxS z ys).map (· + 1)
theorem idxS_ok {z : Str} : ∀ {ys : List Str} {j : Nat}, idxS z ys = some j → ys[j]? = some z ∧ ∀ m, m < j → ys[m]? ≠ some z
  | [], j, h => by cases h
  | y :: ys, j, h => by
    unfold idxS at h
    split at h
    · rename_i q; cases h; subst q; exact ⟨rfl, fun m hm => absurd hm (Nat.not_lt_zero _)⟩
    · rename_i q
      obtain ⟨i, hi, rfl⟩ := Option.map_eq_some_iff.mp h
      obtain ⟨h1, h2⟩ := idxS_ok hi
      refine ⟨by simpa using h1, fun m hm e => ?_⟩
      cases m with
      | zero => simp at e; exact q e
      | succ m => exact h2 m (by omega) (by simpa using e)
/-- T.index(e), T a tuple of texts of the top -/
def dTIdx (ys : List Str) (te : TED) : TED := fun τ G X Q => te τ G X fun y G1 => asS y fun z => onSome (idxS z ys) fun j => Q (.int (j : Int)) G1
section
variable {X : Cx} {W : WX} {o e f : Expr} {te to : TED} {p apos cpos : Pos}
theorem rep_strs {K : PySem.W.Frag} {mg : Str → Option Value} {H : Hp} : ∀ {ws : List V} {ys : List Str}, RepL K mg H ws (ys.map D.str) → ws = ys.map V.str
  | _, [], .nil => rfl
  | _, y :: ys, .cons a b => by rw [a.strv, rep_strs b]; rfl
/-- the module's name x holds a tuple of these texts -/
structure KTup (K : PySem.W.Frag) (mg : Str → Option Value) (x : Str) (ys : List Str) : Prop where
  ok : ∃ (a : Addr) (o : Obj) (its : Array Value) (n : Nat), mg x = some (.ref a) ∧ K.lookup a = some o ∧ o.cls = .type "tuple" ∧ o.dict = none ∧ o.data = .seq its n ∧ its.size ≤ sizeLine ∧ Vals (ys.map V.str) its.toList
theorem m_tidx {x : Str} {ys : List Str} (T : KTup X.K X.mg x ys) (he : ME X W e te) (hg : Gl X x := by rfl) (hd : (x == ("__debug__" : Str)) = false := by decide)
    (hbase : attributeBase (.Name x p) ("index" : Str) X.env (eval (.Name x p) X.env) = eval (.Name x p) X.env := by rfl)
    (hfew : ((backTo cpos (starEach [e] X.env)).all (fun x => !x.1) && (backToKw cpos (keywordEach [] X.env)).all (fun x => x.1.isSome)
      && decide (([e] : List Expr).length + ([] : List Keyword).length + (if ([] : List Keyword).isEmpty then 0 else 1) < 30)) = true := by rfl)
    (hline : (apos.endLine == cpos.line) = true := by rfl) (hs : starEach [e] X.env = (false, eval e X.env) :: starEach [] X.env := by rfl) (hplain : (backTo cpos (starEach [] X.env)).any (·.1) = false := by rfl) :
    ME X W (.Call (.Attribute (.Name x p) "index" apos) [e] [] cpos) (dTIdx ys te) := by
  obtain ⟨a, o, its, n, hm, lk, h1, h2, h3, h4, h5⟩ := T.ok
  refine PE.imp (pe_bm PySem.F.plainAttrs_tuple PySem.F.slot_tuple_index PySem.F.type_tuple_index mt_tup_index (pe_glob (v := .ref a) hg hm rfl hd) (pa_cons he pa_nil hs) hbase hfew hline hs hplain) fun σ H Q ⟨τ, G, Xd, Qd, hσ, hA, h, hQ, hX⟩ => ?_
  refine ⟨.inr (.inl ⟨rfl, o, lk, h1, h2⟩), τ, G, Xd, _, hσ, hA, h, fun y G1 v H1 e1 r1 a1 q1 => ?_, hX⟩
  obtain ⟨z, rfl, q⟩ := asS_of q1
  obtain ⟨j, ej, q⟩ := onSome_of q
  obtain ⟨k1, k2⟩ := idxS_ok ej
  exact ⟨a, ys, z, j, rfl, by rw [r1.strv], .inr ⟨o, its, n, lk, h1, h3, h4, h5⟩, k1, k2, hQ _ _ _ _ e1 (.int _) a1 q⟩
/-! ### texts: join, split -/
def dJoin (to te : TED) : TED := fun τ G X Q => to τ G X fun x G1 => asS x fun a => te τ G1 X fun y G2 => onSome (lstOf G2 y) fun ds => onSome (strsOf ds) fun ys => (ys.map (·.length)).sum + ys.length * a.length ≤ 16777216 ∧ Q (.str (Txt.join a ys)) G2
def dSplit (to te : TED) : TED := fun τ G X Q => to τ G X fun x G1 => asS x fun a => te τ G1 X fun y G2 => asS y fun b => ((b.length == 0) = false ∧ a.length + 2 ≤ 16777216) ∧ rNewL ((Txt.split a b).map D.str) G2 Q
theorem m_join (ho : ME X W o to) (he : ME X W e te)
    (hbase : attributeBase o ("join" : Str) X.env (eval o X.env) = eval o X.env := by rfl)
    (hfew : ((backTo cpos (starEach [e] X.env)).all (fun x => !x.1) && (backToKw cpos (keywordEach [] X.env)).all (fun x => x.1.isSome)
      && decide (([e] : List Expr).length + ([] : List Keyword).length + (if ([] : List Keyword).isEmpty then 0 else 1) < 30)) = true := by rfl)
    (hline : (apos.endLine == cpos.line) = true := by rfl) (hs : starEach [e] X.env = (false, eval e X.env) :: starEach [] X.env := by rfl) (hplain : (backTo cpos (starEach [] X.env)).any (·.1) = false := by rfl) :
    ME X W (.Call (.Attribute o "join" apos) [e] [] cpos) (dJoin to te) := by
  refine PE.imp (pe_bm PySem.F.plainAttrs_str PySem.F.slot_str_join PySem.F.type_str_join mt_join ho (pa_cons he pa_nil hs) hbase hfew hline hs hplain) fun σ H Q ⟨τ, G, Xd, Qd, hσ, hA, h, hQ, hX⟩ => ?_
  refine ⟨τ, G, Xd, _, hσ, hA, h, fun x G1 v H1 e1 r1 a1 h1 => ?_, hX⟩
  obtain ⟨a, rfl, h1⟩ := asS_of h1
  have ev := r1.strv
  subst ev
  refine ⟨rfl, τ, G1, Xd, _, hσ.ext e1, a1, h1, fun y G2 v H2 e2 r2 a2 h2 => ?_, hX.ext e1⟩
  obtain ⟨ds, k1, h2⟩ := onSome_of h2
  obtain ⟨ys, k2, hz, h2⟩ := onSome_of h2
  obtain ⟨b, ws, rfl, sq, l⟩ := lst_at a2 r2 k1
  have ew := strsOf_ok l k2
  subst ew
  exact ⟨a, b, ys, rfl, rfl, .inl sq, hz, hQ _ _ _ _ (e1.trans e2) (.str _) a2 h2⟩
theorem m_split (ho : ME X W o to) (he : ME X W e te)
    (hbase : attributeBase o ("split" : Str) X.env (eval o X.env) = eval o X.env := by rfl)
    (hfew : ((backTo cpos (starEach [e] X.env)).all (fun x => !x.1) && (backToKw cpos (keywordEach [] X.env)).all (fun x => x.1.isSome)
      && decide (([e] : List Expr).length + ([] : List Keyword).length + (if ([] : List Keyword).isEmpty then 0 else 1) < 30)) = true := by rfl)
    (hline : (apos.endLine == cpos.line) = true := by rfl) (hs : starEach [e] X.env = (false, eval e X.env) :: starEach [] X.env := by rfl) (hplain : (backTo cpos (starEach [] X.env)).any (·.1) = false := by rfl) :
    ME X W (.Call (.Attribute o "split" apos) [e] [] cpos) (dSplit to te) := by
  refine PE.imp (pe_bm PySem.F.plainAttrs_str PySem.F.slot_str_split PySem.F.type_str_split mt_split ho (pa_cons he pa_nil hs) hbase hfew hline hs hplain) fun σ H Q ⟨τ, G, Xd, Qd, hσ, hA, h, hQ, hX⟩ => ?_
  refine ⟨τ, G, Xd, _, hσ, hA, h, fun x G1 v H1 e1 r1 a1 h1 => ?_, hX⟩
  obtain ⟨a, rfl, h1⟩ := asS_of h1
  have ev := r1.strv
  subst ev
  refine ⟨rfl, τ, G1, Xd, _, hσ.ext e1, a1, h1, fun y G2 v H2 e2 r2 a2 h2 => ?_, hX.ext e1⟩
  obtain ⟨b, rfl, ⟨h3, h4⟩, h2⟩ := asS_of h2
  have ev := r2.strv
  subst ev
  refine ⟨a, b, rfl, rfl, h3, big_line h4, fun p hp => ?_⟩
  have l : RepL X.K X.mg H2 ((Txt.split a b).map V.str) ((Txt.split a b).map D.str) := by
    generalize Txt.split a b = zs
    induction zs with
    | nil => exact .nil
    | cons z zs ih => exact .cons (.str z) ih
  exact hQ _ _ _ _ ((e1.trans e2).trans (.new hp)) (.ref p) (a2.newL hp l) (h2 p (a2.none hp))
end
/-! ### sum, sorted -/
def intsOf : List D → Option (List Int)
  | [] => some []
  | .int x :: r => (intsOf r).map (x :: ·)
  | _ => none
theorem intsOf_ok {K : PySem.W.Frag} {mg : Str → Option Value} {H : Hp} : ∀ {ws : List V} {ds : List D} {ys : List Int}, RepL K mg H ws ds → intsOf ds = some ys → ws = ys.map V.int
  | _, _, ys, .nil, h => by cases h; rfl
  | _, _, ys, .cons (d := d) a b, h => by
    cases d <;> first | cases h | skip
    obtain ⟨r, hr, rfl⟩ := Option.map_eq_some_iff.mp h
    rw [a.intv, intsOf_ok b hr]; rfl
theorem intsOf_ints : ∀ ns : List Int, intsOf (ns.map D.int) = some ns
  | [] => rfl
  | n :: ns => by simp [intsOf, intsOf_ints ns]
def intKs : List (Key × D) → Option (List Int)
  | [] => some []
  | (.inl i, _) :: r => (intKs r).map (i :: ·)
  | _ => none
theorem intKs_ok {K : PySem.W.Frag} {mg : Str → Option Value} {H : Hp} : ∀ {ws : List (Key × V)} {ds : List (Key × D)} {ys : List Int}, KRep K mg H ws ds → intKs ds = some ys → ws.map (·.1) = ys.map Sum.inl
  | _, _, ys, .nil, h => by cases h; rfl
  | _, _, ys, .cons (k := k) a b, h => by
    cases k with
    | inr x => cases h
    | inl i =>
      obtain ⟨r, hr, rfl⟩ := Option.map_eq_some_iff.mp h
      simp [intKs_ok b hr]
def rSumD : RC := fun ds G Q => match ds with
  | [x] => onSome (lstOf G x) fun xs => onSome (intsOf xs) fun ns => Q (.int ns.sum) G
  | _ => False
/-- sorted(d), d a dict by numbers, or a list of numbers -/
def rSortD : RC := fun ds G Q => match ds with
  | [.ref a] => onSome (oDct (G a)) fun kvs => onSome (intKs kvs) fun ks => ks.length < 64 ∧ ∀ (ys : List Int) (p : Addr), ys.Perm ks → ys.Pairwise (· ≤ ·) → G p = none → Q (.ref p) (up G p (.lst (ys.map D.int)))
  | _ => False
section
variable {X : Cx} {W : WX}
theorem mc_sum (hc : X.calm = true) : CallR X (.builtin "sum") (liftC X.K X.mg rSumD) := by
  intro pins s σ H vs us Q I rv h
  obtain ⟨ds, G, Qd, r, A, h, hQ⟩ := h
  match ds, h with
  | [x], h =>
    obtain ⟨v, rfl, rx⟩ := r.one
    obtain ⟨xs, k1, h⟩ := onSome_of h
    obtain ⟨ns, k2, h⟩ := onSome_of h
    obtain ⟨a, ws, rfl, sq, l⟩ := lst_at A rx k1
    have ew := intsOf_ok l k2
    subst ew
    exact cr_sum hc pins s σ H _ us Q I rv ⟨a, ns, rfl, sq, hQ _ _ _ _ (.refl _) (.int _) A h⟩
theorem mc_sorted (hc : X.calm = true) : CallR X (.builtin "sorted") (liftC X.K X.mg rSortD) := by
  intro pins s σ H vs us Q I rv h
  obtain ⟨ds, G, Qd, r, A, h, hQ⟩ := h
  match ds, h with
  | [.ref a], h =>
    obtain ⟨v, rfl, rx⟩ := r.one
    obtain ⟨kvs, k1, h⟩ := onSome_of h
    obtain ⟨ks, k2, hl, h⟩ := onSome_of h
    obtain ⟨ws, e5, kr⟩ := A _ _ (oDct_some k1)
    have ev := rx.refv
    subst ev
    refine call_sortedDI hc pins s σ H _ us Q I rv ⟨a, ws, ks, rfl, .inl e5, intKs_ok kr k2, hl, fun ys p h1 h2 hp => ?_⟩
    exact hQ _ _ _ _ (.new hp) (.ref p) (A.newL hp (RepL.ints ys)) (h ys p h1 h2 (A.none hp))
end
/-! ### a call of what an expression tells: defs of the module -/
def dCallE (tab : List (String × DSp)) (te : TED) (t : TAD) : TED := fun τ G X Q => te τ G X fun x G1 => match x with
  | .gl f => onSome (tab.lookup f) fun sp => t τ G1 X fun ds G2 => Ir sp ds G2 Q X
  | _ => False
def FTabOk (P : Program) (w : World) (K : PySem.W.Frag) (mg : Str → Option Value) (base : Heap) (k : Nat) (tab : List (String × DSp)) : Prop := ∀ c sp, tab.lookup c = some sp → FnD P w K mg base k (c : Str) sp
theorem FTabOk.nil {P : Program} {w : World} {K : PySem.W.Frag} {mg : Str → Option Value} {base : Heap} {k : Nat} : FTabOk P w K mg base k [] := fun _ _ h => by cases h
theorem FTabOk.cons {P : Program} {w : World} {K : PySem.W.Frag} {mg : Str → Option Value} {base : Heap} {k : Nat} {c : String} {sp : DSp} {tab : List (String × DSp)} (h2 : FnD P w K mg base k (c : Str) sp) (h : FTabOk P w K mg base k tab) : FTabOk P w K mg base k ((c, sp) :: tab) := fun c' sp' q => by
  by_cases e : c' = c
  · subst e; simp [List.lookup] at q; subst q; exact h2
  · have e1 : (c' == c) = false := by simpa using e
    simp only [List.lookup, e1] at q
    exact h _ _ q
section
variable {X : Cx} {W : WX} {fe e : Expr} {es : List Expr} {te : TED} {t : TAD} {p pos : Pos} {k : Nat}
theorem m_callE {tab : List (String × DSp)} (T : FTabOk X.prog X.w X.K X.mg X.base k tab) (hr : Room k X.A) (tk : Takes X W) (hf : ME X W fe te) (ha : MA X W (e :: es) t)
    (hev : eval (.Call fe (e :: es) [] pos) X.env = (do callWith pos (← eval fe X.env) [] (backTo pos (starEach (e :: es) X.env)) (backToKw pos (keywordEach [] X.env))) := by rfl)
    (he : starEach (e :: es) X.env = (false, eval e X.env) :: starEach es X.env := by rfl) (hpl : (backTo pos (starEach es X.env)).any (·.1) = false := by rfl) : ME X W (.Call fe (e :: es) [] pos) (dCallE tab te t) := by
  refine ⟨fun pins s σ H Q I ⟨τ, G, Xd, Qd, hσ, hA, h, hQ, hX⟩ => ?_⟩
  rw [hev]
  refine wpAny_bind (thn (hf.run pins s σ H (fun v H1 => ∃ d G1, Ext H H1 ∧ Rep X.K X.mg H1 v d ∧ Abs X.K X.mg G1 H1 ∧ _) I ⟨τ, G, Xd, _, hσ, hA, h, fun d G1 v H1 e1 r1 a1 h1 => ⟨d, G1, e1, r1, a1, h1⟩, hX⟩) fun u s1 ⟨x, H1, I1, rx, d, G1, e1, r1, a1, h1⟩ => ?_)
  cases d with
  | gl f =>
    obtain ⟨sp, hsp, h1⟩ := onSome_of h1
    obtain ⟨g, fd, ps, hm, hk, hb, ok⟩ := (T f sp hsp).ok
    cases r1 with
    | gl hm2 =>
      have eg := hm2.symm.trans hm
      cases eg
      obtain rfl : u = Value.ref _ := rx
      refine PySem.W.callWith_K (h₀ := X.base) I.ok.mod.kin hk (thn (ha.run pos pins s1 σ H1 (fun vs H2 => ∃ ds G2, Ext H1 H2 ∧ RepL X.K X.mg H2 vs ds ∧ Abs X.K X.mg G2 H2 ∧ _) I1 ⟨τ, G1, Xd, _, hσ.ext e1, a1, h1, fun ds G2 vs H2 e2 r2 a2 h2 => ⟨ds, G2, e2, r2, a2, h2⟩, hX.ext e1⟩) fun us s2 ⟨vs, H2, I2, r, ds, G2, e2, r2, a2, h2⟩ => ⟨I2.kIn, ?_⟩) he hpl
      exact run_fnS (us := us) (vs := vs) (E := WE W) ok hr hb (passAt tk σ) I2 r (lift_sp r2 a2 (Ir_e h2) (e1.trans e2) hQ hX)
  | _ => exact h1.elim
end
end L3

namespace L3
open PySem PySem.Spec PyProof.Rows L2

/-! ### the head's facts of tuples of texts, of classes -/
theorem strsB_ok : ∀ {us : List Value} {ys : List Str}, strsB us ys = true → Vals (ys.map V.str) us
  | [], [], _ => .nil
  | .str x t :: us, y :: ys, h => by
    simp only [strsB, Bool.and_eq_true, decide_eq_true_eq] at h
    obtain ⟨rfl, h⟩ := h
    exact .cons ⟨t, rfl⟩ (strsB_ok h)
  | [], _ :: _, h => by cases h
  | .str _ _ :: _, [], h => by cases h
  | .none :: _, _, h => by cases h
  | .bool _ :: _, _, h => by cases h
  | .int _ _ :: _, _, h => by cases h
theorem ktB_ok {K : PySem.W.Frag} {h : Heap} {mg : Str → Option Value} (X : K.In h) (G : h.Ns mainGlobals mg) {x : Str} {ys : List Str} (c : ktB K x ys = true) : KTup K mg x ys := by
  unfold ktB at c
  split at c
  · rename_i a e
    split at c
    · rename_i t its n sl lk
      simp only [Bool.and_eq_true, decide_eq_true_eq] at c
      obtain ⟨h1, h2, h3⟩ := c
      subst h1
      exact ⟨a, _, its, n, PySem.W.mg_of X G e, lk, rfl, rfl, rfl, h2, strsB_ok h3⟩
    · cases c
  · cases c
def clssB (K : PySem.W.Frag) (cs fs : List String) : Bool := cs.all fun c => (He.Fa.glo (c : Str)).ok K && clsB K c
theorem fieldsOf_some {c f : String} (h : fldOk c f = true) : c ∈ ["State", "Machine", "Body", "Ground", "Room", "Host"] := by
  unfold fldOk fieldsOf at h
  by_cases h1 : c = "State"; · simp [h1]
  by_cases h2 : c = "Machine"; · simp [h2]
  by_cases h3 : c = "Body"; · simp [h3]
  by_cases h4 : c = "Ground"; · simp [h4]
  by_cases h5 : c = "Room"; · simp [h5]
  by_cases h6 : c = "Host"; · simp [h6]
  simp [h1, h2, h3, h4, h5, h6] at h
theorem fldTxt_of {K : PySem.W.Frag} {h : Heap} {mg : Str → Option Value} (X : K.In h) (G : h.Ns mainGlobals mg)
    (all : ∀ c ∈ ["State", "Machine", "Body", "Ground", "Room", "Host"], ((He.Fa.glo (c : Str)).ok K && clsB K c) = true ∨ (He.Fa.free (c : Str)).ok K = true) : FldTxt K mg := by
  intro c f C hm hf
  rcases all c (fieldsOf_some hf) with h1 | h1
  · simp only [Bool.and_eq_true] at h1
    obtain ⟨g, c1⟩ := h1
    unfold clsB at c1
    simp only [Bool.and_eq_true] at c1
    have e := (He.glo_ok X G g).symm.trans hm
    cases e
    refine ⟨He.cls_ok c1.1, He.noat_ok ?_⟩
    refine List.all_eq_true.mp c1.2 f ?_
    unfold fldOk at hf
    simpa using hf
  · rw [He.free_ok X G h1] at hm
    cases hm
/-- a method of a class that is there -/
theorem mtd_of {P : Program} {w : World} {K : PySem.W.Frag} {h : Heap} {mg : Str → Option Value} {base : Heap} {k : Nat} {c : String} {m : Str} {sp : DSp} {fd : FuncData} {ps : List Str} (X : K.In h) (G : h.Ns mainGlobals mg)
    (g : (He.Fa.glo (c : Str)).ok K = true) (c1 : (He.Fa.cls (c : Str)).ok K = true) (c2 : (He.Fa.meth (c : Str) m).ok K = true) (b : Binds K fd ps []) (ok : FnOk P w K mg base (L2.CX P w) k (He.ma K (He.ga K (c : Str)) m) fd ps (liftSp K mg sp)) : MtD P w K mg base k c m sp :=
  ⟨fun C hm => by
    have e := (He.glo_ok X G g).symm.trans hm
    cases e
    exact ⟨_, fd, ps, He.cls_ok c1, He.meth_ok c2, b, ok⟩⟩
theorem mtd_no {P : Program} {w : World} {K : PySem.W.Frag} {h : Heap} {mg : Str → Option Value} {base : Heap} {k : Nat} {c : String} {m : Str} {sp : DSp} (X : K.In h) (G : h.Ns mainGlobals mg) (g : (He.Fa.free (c : Str)).ok K = true) : MtD P w K mg base k c m sp :=
  ⟨fun C hm => by rw [He.free_ok X G g] at hm; cases hm⟩
theorem mkd_of {P : Program} {w : World} {K : PySem.W.Frag} {h : Heap} {mg : Str → Option Value} {base : Heap} {k : Nat} {c : String} {sp : DSp} {fd : FuncData} {ps : List Str} (X : K.In h) (G : h.Ns mainGlobals mg)
    (g : (He.Fa.glo (c : Str)).ok K = true) (c1 : (He.Fa.mkr (c : Str)).ok K = true) (b : Binds K fd ps []) (ok : FnOk P w K mg base (L2.CX P w) k (He.ma K (He.ga K (c : Str)) "__init__") fd ps (liftSp K mg sp)) : MkD P w K mg base k (c : Str) sp :=
  ⟨_, _, fd, ps, He.glo_ok X G g, He.mkr_ok c1, b, ok⟩
theorem MtD.mono {P : Program} {w : World} {K : PySem.W.Frag} {mg : Str → Option Value} {base : Heap} {j k : Nat} {c : String} {x : Str} {sp : DSp} (F : MtD P w K mg base j c x sp) (h : j ≤ k) : MtD P w K mg base k c x sp :=
  ⟨fun C hC => by obtain ⟨f, fd, ps, a, b, d, e⟩ := F.ok C hC; exact ⟨f, fd, ps, a, b, d, e.mono h⟩⟩
theorem MkD.mono {P : Program} {w : World} {K : PySem.W.Frag} {mg : Str → Option Value} {base : Heap} {j k : Nat} {c : Str} {sp : DSp} (F : MkD P w K mg base j c sp) (h : j ≤ k) : MkD P w K mg base k c sp := by
  obtain ⟨C, f, fd, ps, a, b, d, e⟩ := F.ok
  exact ⟨C, f, fd, ps, a, b, d, e.mono h⟩
theorem TabOk.mono {P : Program} {w : World} {K : PySem.W.Frag} {mg : Str → Option Value} {base : Heap} {j k : Nat} {m : String} {tab : List (String × DSp)} (T : TabOk P w K mg base j m tab) (h : j ≤ k) : TabOk P w K mg base k m tab := fun c sp q => ⟨(T c sp q).1, (T c sp q).2.mono h⟩
theorem FTabOk.mono {P : Program} {w : World} {K : PySem.W.Frag} {mg : Str → Option Value} {base : Heap} {j k : Nat} {tab : List (String × DSp)} (T : FTabOk P w K mg base j tab) (h : j ≤ k) : FTabOk P w K mg base k tab := fun c sp q => (T c sp q).mono h
end L3

namespace L3
open PySem PySem.Spec PyProof.Rows L2

/-! ### what stays -/
theorem ne_new {G : DH} {a p : Addr} {o : DO} (hp : G p = none) (ha : G a = some o) : a ≠ p := D.ne_of ha hp
theorem ne_new' {G : DH} {a p : Addr} {o : DO} (hp : G p = none) (ha : G a = some o) : p ≠ a := Ne.symm (D.ne_of ha hp)
theorem up_none_c {G : DH} {a p : Addr} {o : DO} (n : p ≠ a) (h : G p = none) : up G a o p = none := (up_ne n).trans h
/-- all but what stands at these stays -/
def Fr (xs : List Addr) (G G' : DH) : Prop := ∀ a, a ∉ xs → ∀ o, G a = some o → G' a = some o
theorem Fr.at {xs : List Addr} {G G' : DH} {a : Addr} {o : DO} (h : Fr xs G G') (n : a ∉ xs) (e : G a = some o) : G' a = some o := h a n o e
theorem Fr.refl (xs : List Addr) (G : DH) : Fr xs G G := fun _ _ _ h => h
theorem Fr.trans {xs : List Addr} {G G1 G2 : DH} (h : Fr xs G G1) (k : Fr xs G1 G2) : Fr xs G G2 := fun a n o e => k a n o (h a n o e)
theorem Fr.of {xs : List Addr} {G G' : DH} (h : Sub G G') : Fr xs G G' := fun a _ o e => h a o e
theorem Fr.sub {xs : List Addr} {G G1 G2 : DH} (h : Fr xs G G1) (k : Sub G1 G2) : Fr xs G G2 := fun a n o e => k a o (h a n o e)
theorem Fr.wk {xs ys : List Addr} {G G' : DH} (h : Fr xs G G') (k : ∀ a ∈ xs, a ∈ ys) : Fr ys G G' := fun a n o e => h a (fun z => n (k a z)) o e
theorem Fr.put {xs : List Addr} {G G' : DH} {p : Addr} {o : DO} (h : Fr xs G G') (hp : p ∈ xs) : Fr xs G (up G' p o) := fun a n u e => by
  have : a ≠ p := fun z => n (z ▸ hp)
  rw [up_ne this]; exact h a n u e
theorem Fr.new {xs : List Addr} {G G' : DH} {p : Addr} {o : DO} (h : Fr xs G G') (hp : G p = none) : Fr xs G (up G' p o) := fun a n u e => by
  rw [up_ne (D.ne_of e hp)]; exact h a n u e
theorem Fr.none {xs : List Addr} {G G' : DH} {p : Addr} (h : Fr xs G G') (n : p ∉ xs) (hp : G' p = Option.none) : G p = Option.none := by
  cases e : G p with
  | none => rfl
  | some o => rw [h p n o e] at hp; cases hp
theorem nin_nil {a : Addr} : a ∉ ([] : List Addr) := by simp
theorem nin_cons {a b : Addr} {xs : List Addr} (h : a ≠ b) (k : a ∉ xs) : a ∉ b :: xs := by simp [h, k]

/-! ### where drawing stands -/
def IsSt (o : DO) : Prop := ∃ (ns : List Int) (i m c : Int), ns.length ≤ 63 ∧ 0 ≤ i ∧ 0 ≤ m ∧ m < 2147483647 ∧ 0 ≤ c ∧ o = .lst [.rl (ns.map D.int), .int i, .int m, .int c]
theorem isSt_set {ns : List Int} {i m c : Int} (h1 : ns.length ≤ 63) (h2 : 0 ≤ i) (h3 : 0 ≤ m) (h4 : m < 2147483647) (h5 : 0 ≤ c) : IsSt (.lst [.rl (ns.map D.int), .int i, .int m, .int c]) := ⟨ns, i, m, c, h1, h2, h3, h4, h5, rfl⟩
def HasSt (s : Addr) (G : DH) : Prop := ∃ o, G s = some o ∧ IsSt o
structure StF (s : Addr) (G G' : DH) : Prop where
  has : HasSt s G'
  fr : ∀ a, a ≠ s → ∀ o, G a = some o → G' a = some o
theorem HasSt.ne {s p : Addr} {G : DH} (hp : G p = none) (h : HasSt s G) : s ≠ p := by
  obtain ⟨o, e, _⟩ := h
  exact D.ne_of e hp
theorem HasSt.upn {s p : Addr} {G : DH} {o : DO} (n : s ≠ p) (h : HasSt s G) : HasSt s (up G p o) := by
  obtain ⟨u, e, k⟩ := h
  exact ⟨u, (up_ne n).trans e, k⟩
theorem HasSt.sub {s : Addr} {G G' : DH} (f : Sub G G') (h : HasSt s G) : HasSt s G' := by
  obtain ⟨u, e, k⟩ := h
  exact ⟨u, f _ _ e, k⟩
theorem HasSt.frm {s : Addr} {xs : List Addr} {G G' : DH} (f : Fr xs G G') (n : s ∉ xs) (h : HasSt s G) : HasSt s G' := by
  obtain ⟨u, e, k⟩ := h
  exact ⟨u, f _ n _ e, k⟩
theorem HasSt.put {s : Addr} {G : DH} {o : DO} (h : IsSt o) : HasSt s (up G s o) := ⟨o, up_same, h⟩
theorem StF.at {s a : Addr} {G G' : DH} {o : DO} (h : StF s G G') (n : a ≠ s) (e : G a = some o) : G' a = some o := h.fr a n o e
theorem StF.refl {s : Addr} {G : DH} (h : HasSt s G) : StF s G G := ⟨h, fun _ _ _ e => e⟩
theorem StF.trans {s : Addr} {G G1 G2 : DH} (h : StF s G G1) (k : StF s G1 G2) : StF s G G2 := ⟨k.has, fun a n o e => k.fr a n o (h.fr a n o e)⟩
theorem StF.put {s : Addr} {G G' : DH} {o : DO} (h : StF s G G') (k : IsSt o) : StF s G (up G' s o) := ⟨.put k, fun a n u e => by rw [up_ne n]; exact h.fr a n u e⟩
theorem StF.none {s p : Addr} {G G' : DH} (h : StF s G G') (hp : G' p = Option.none) : G p = Option.none := by
  cases e : G p with
  | none => rfl
  | some o => rw [h.fr p (fun z => by subst z; obtain ⟨u, e2, _⟩ := h.has; rw [e2] at hp; cases hp) o e] at hp; cases hp
theorem up_none_l {G : DH} {a p : Addr} {o : DO} (h : up G a o p = Option.none) : G p = Option.none := (up_none h).2
/-- what was new in between may be laid or changed -/
theorem StF.new {s p : Addr} {G G' : DH} {o : DO} (n : p ≠ s) (hp : G p = Option.none) (h : StF s G G') : StF s G (up G' p o) := ⟨h.has.upn (Ne.symm n), fun a k u e => by rw [up_ne (D.ne_of e hp)]; exact h.fr a k u e⟩
theorem StF.sub {s : Addr} {G G1 G2 : DH} (h : StF s G G1) (k : Sub G1 G2) : StF s G G2 := ⟨h.has.sub k, fun a n o e => k a o (h.fr a n o e)⟩
theorem StF.of {s : Addr} {G G' : DH} (k : Sub G G') (h : HasSt s G) : StF s G G' := ⟨h.sub k, fun a _ o e => k a o e⟩
theorem StF.fr1 {s : Addr} {G G' : DH} (h : StF s G G') : Fr [s] G G' := fun a n o e => h.fr a (by simpa using n) o e

theorem hp_dctR {G : DH} {a : Addr} {kvs : List (Key × D)} (h : G a = some (.dct kvs)) : oDctR (G a) = some kvs := by rw [h]; rfl
theorem hp_fdcR {G : DH} {a : Addr} {kvs : List (Key × D)} (h : G a = some (.fdc kvs)) : oDctR (G a) = some kvs := by rw [h]; rfl
theorem isDc_i {G : DH} {a : Addr} {kvs : List (Key × D)} (h : G a = some (.dct kvs)) : isDc (.ref a) G := ⟨a, kvs, rfl, hp_dctR h⟩
theorem isDc_f {G : DH} {a : Addr} {kvs : List (Key × D)} (h : G a = some (.fdc kvs)) : isDc (.ref a) G := ⟨a, kvs, rfl, hp_fdcR h⟩
theorem isL_i {G : DH} {a : Addr} {xs : List D} (h : G a = some (.lst xs)) : isL (.ref a) G := ⟨xs, hp_lstOf h⟩
/-! ### a way for each item -/
inductive All (Q : D → Prop) : List D → Prop where
  | nil : All Q []
  | cons {d : D} {ds : List D} (h : Q d) (k : All Q ds) : All Q (d :: ds)
theorem All.mem {Q : D → Prop} : ∀ {ds : List D}, All Q ds → ∀ d ∈ ds, Q d
  | _, .cons h k, d, hd => by
    rcases List.mem_cons.mp hd with e | e
    · subst e; exact h
    · exact All.mem k d e
theorem ix_all {xs : List D} {r : Nat} {Q : D → Prop} (h : r < xs.length) (k : All Q xs) : onSome (atI xs (r : Int)) Q := by
  refine onSome_i (x := xs[r]) (atI_nat (List.getElem?_eq_getElem h)) (k.mem _ (List.getElem_mem h))
theorem ix_at {xs : List D} {r : Nat} {d : D} {Q : D → Prop} (h : xs[r]? = some d) (k : Q d) : onSome (atI xs (r : Int)) Q := onSome_i (atI_nat h) k
theorem ix_mem {xs : List D} {r : Nat} {Q : D → Prop} (h : r < xs.length) (k : ∀ d ∈ xs, xs[r]? = some d → Q d) : onSome (atI xs (r : Int)) Q := onSome_i (atI_nat (List.getElem?_eq_getElem h)) (k _ (List.getElem_mem h) (List.getElem?_eq_getElem h))
theorem ix_P {xs : List D} {r : Nat} {Q : D → Prop} (P : D → Prop) (h : r < xs.length) (a : ∀ d ∈ xs, P d) (k : ∀ d, P d → Q d) : onSome (atI xs (r : Int)) Q := ix_mem h fun d hd _ => k d (a d hd)
theorem eq_i {v : D} {Q : Prop} (h : Q) : v = v ∧ Q := ⟨rfl, h⟩

/-! ### things -/
inductive GoodRow : D → Prop
  | put (b n : Nat) (hb : b < 4) (hn : n ≤ 999) : GoodRow (.tup [.str ("put" : Str), .int (b : Int), .int (n : Int)])
  | add (b c d : Nat) (hb : b < 4) (hc : c < 4) (hd : d < 4) : GoodRow (.tup [.str ("add" : Str), .int (b : Int), .int (c : Int), .int (d : Int)])
  | less (b c d : Nat) (hb : b < 4) (hc : c < 4) (hd : d < 4) : GoodRow (.tup [.str ("less" : Str), .int (b : Int), .int (c : Int), .int (d : Int)])
  | load (b c : Nat) (hb : b < 4) (hc : c < 4) : GoodRow (.tup [.str ("load" : Str), .int (b : Int), .int (c : Int)])
  | store (b c : Nat) (hb : b < 4) (hc : c < 4) : GoodRow (.tup [.str ("store" : Str), .int (b : Int), .int (c : Int)])
  | zero (b n : Nat) (hb : b < 4) (hn : n ≤ 999) : GoodRow (.tup [.str ("zero" : Str), .int (b : Int), .int (n : Int)])
  | go (n : Nat) (hn : n ≤ 999) : GoodRow (.tup [.str ("go" : Str), .int (n : Int)])
  | call (n : Nat) (hn : n ≤ 999) : GoodRow (.tup [.str ("call" : Str), .int (n : Int)])
  | say (b : Nat) (hb : b < 4) : GoodRow (.tup [.str ("say" : Str), .int (b : Int)])
  | hear (b : Nat) (hb : b < 4) : GoodRow (.tup [.str ("hear" : Str), .int (b : Int)])
  | which (b : Nat) (hb : b < 4) : GoodRow (.tup [.str ("which" : Str), .int (b : Int)])
  | room (b : Nat) (hb : b < 4) : GoodRow (.tup [.str ("room" : Str), .int (b : Int)])
  | enter (b : Nat) (hb : b < 2) : GoodRow (.tup [.str ("enter" : Str), .int (b : Int)])
  | alarm (b : Nat) (hb : b < 4) : GoodRow (.tup [.str ("alarm" : Str), .int (b : Int)])
  | stop : GoodRow (.tup [.str ("stop" : Str)])
inductive GoodTh : D → Prop
  | num (n : Nat) (h : n ≤ 999) : GoodTh (.int (n : Int))
  | row {d : D} (h : GoodRow d) : GoodTh d
theorem gr_put {i0 i1 : Int} (h0 : 0 ≤ i0) (k0 : i0 < 4) (h1 : 0 ≤ i1) (k1 : i1 ≤ 999) : GoodRow (.tup [.str ("put" : Str), .int i0, .int i1]) := by
  obtain ⟨j0, rfl⟩ : ∃ j : Nat, i0 = (j : Int) := ⟨i0.toNat, by omega⟩
  obtain ⟨j1, rfl⟩ : ∃ j : Nat, i1 = (j : Int) := ⟨i1.toNat, by omega⟩
  exact GoodRow.put j0 j1 (by omega) (by omega)
theorem gr_add {i0 i1 i2 : Int} (h0 : 0 ≤ i0) (k0 : i0 < 4) (h1 : 0 ≤ i1) (k1 : i1 < 4) (h2 : 0 ≤ i2) (k2 : i2 < 4) : GoodRow (.tup [.str ("add" : Str), .int i0, .int i1, .int i2]) := by
  obtain ⟨j0, rfl⟩ : ∃ j : Nat, i0 = (j : Int) := ⟨i0.toNat, by omega⟩
  obtain ⟨j1, rfl⟩ : ∃ j : Nat, i1 = (j : Int) := ⟨i1.toNat, by omega⟩
  obtain ⟨j2, rfl⟩ : ∃ j : Nat, i2 = (j : Int) := ⟨i2.toNat, by omega⟩
  exact GoodRow.add j0 j1 j2 (by omega) (by omega) (by omega)
theorem gr_less {i0 i1 i2 : Int} (h0 : 0 ≤ i0) (k0 : i0 < 4) (h1 : 0 ≤ i1) (k1 : i1 < 4) (h2 : 0 ≤ i2) (k2 : i2 < 4) : GoodRow (.tup [.str ("less" : Str), .int i0, .int i1, .int i2]) := by
  obtain ⟨j0, rfl⟩ : ∃ j : Nat, i0 = (j : Int) := ⟨i0.toNat, by omega⟩
  obtain ⟨j1, rfl⟩ : ∃ j : Nat, i1 = (j : Int) := ⟨i1.toNat, by omega⟩
  obtain ⟨j2, rfl⟩ : ∃ j : Nat, i2 = (j : Int) := ⟨i2.toNat, by omega⟩
  exact GoodRow.less j0 j1 j2 (by omega) (by omega) (by omega)
theorem gr_load {i0 i1 : Int} (h0 : 0 ≤ i0) (k0 : i0 < 4) (h1 : 0 ≤ i1) (k1 : i1 < 4) : GoodRow (.tup [.str ("load" : Str), .int i0, .int i1]) := by
  obtain ⟨j0, rfl⟩ : ∃ j : Nat, i0 = (j : Int) := ⟨i0.toNat, by omega⟩
  obtain ⟨j1, rfl⟩ : ∃ j : Nat, i1 = (j : Int) := ⟨i1.toNat, by omega⟩
  exact GoodRow.load j0 j1 (by omega) (by omega)
theorem gr_store {i0 i1 : Int} (h0 : 0 ≤ i0) (k0 : i0 < 4) (h1 : 0 ≤ i1) (k1 : i1 < 4) : GoodRow (.tup [.str ("store" : Str), .int i0, .int i1]) := by
  obtain ⟨j0, rfl⟩ : ∃ j : Nat, i0 = (j : Int) := ⟨i0.toNat, by omega⟩
  obtain ⟨j1, rfl⟩ : ∃ j : Nat, i1 = (j : Int) := ⟨i1.toNat, by omega⟩
  exact GoodRow.store j0 j1 (by omega) (by omega)
theorem gr_zero {i0 i1 : Int} (h0 : 0 ≤ i0) (k0 : i0 < 4) (h1 : 0 ≤ i1) (k1 : i1 ≤ 999) : GoodRow (.tup [.str ("zero" : Str), .int i0, .int i1]) := by
  obtain ⟨j0, rfl⟩ : ∃ j : Nat, i0 = (j : Int) := ⟨i0.toNat, by omega⟩
  obtain ⟨j1, rfl⟩ : ∃ j : Nat, i1 = (j : Int) := ⟨i1.toNat, by omega⟩
  exact GoodRow.zero j0 j1 (by omega) (by omega)
theorem gr_go {i0 : Int} (h0 : 0 ≤ i0) (k0 : i0 ≤ 999) : GoodRow (.tup [.str ("go" : Str), .int i0]) := by
  obtain ⟨j0, rfl⟩ : ∃ j : Nat, i0 = (j : Int) := ⟨i0.toNat, by omega⟩
  exact GoodRow.go j0 (by omega)
theorem gr_call {i0 : Int} (h0 : 0 ≤ i0) (k0 : i0 ≤ 999) : GoodRow (.tup [.str ("call" : Str), .int i0]) := by
  obtain ⟨j0, rfl⟩ : ∃ j : Nat, i0 = (j : Int) := ⟨i0.toNat, by omega⟩
  exact GoodRow.call j0 (by omega)
theorem gr_say {i0 : Int} (h0 : 0 ≤ i0) (k0 : i0 < 4) : GoodRow (.tup [.str ("say" : Str), .int i0]) := by
  obtain ⟨j0, rfl⟩ : ∃ j : Nat, i0 = (j : Int) := ⟨i0.toNat, by omega⟩
  exact GoodRow.say j0 (by omega)
theorem gr_hear {i0 : Int} (h0 : 0 ≤ i0) (k0 : i0 < 4) : GoodRow (.tup [.str ("hear" : Str), .int i0]) := by
  obtain ⟨j0, rfl⟩ : ∃ j : Nat, i0 = (j : Int) := ⟨i0.toNat, by omega⟩
  exact GoodRow.hear j0 (by omega)
theorem gr_which {i0 : Int} (h0 : 0 ≤ i0) (k0 : i0 < 4) : GoodRow (.tup [.str ("which" : Str), .int i0]) := by
  obtain ⟨j0, rfl⟩ : ∃ j : Nat, i0 = (j : Int) := ⟨i0.toNat, by omega⟩
  exact GoodRow.which j0 (by omega)
theorem gr_room {i0 : Int} (h0 : 0 ≤ i0) (k0 : i0 < 4) : GoodRow (.tup [.str ("room" : Str), .int i0]) := by
  obtain ⟨j0, rfl⟩ : ∃ j : Nat, i0 = (j : Int) := ⟨i0.toNat, by omega⟩
  exact GoodRow.room j0 (by omega)
theorem gr_enter {i0 : Int} (h0 : 0 ≤ i0) (k0 : i0 < 2) : GoodRow (.tup [.str ("enter" : Str), .int i0]) := by
  obtain ⟨j0, rfl⟩ : ∃ j : Nat, i0 = (j : Int) := ⟨i0.toNat, by omega⟩
  exact GoodRow.enter j0 (by omega)
theorem gr_alarm {i0 : Int} (h0 : 0 ≤ i0) (k0 : i0 < 4) : GoodRow (.tup [.str ("alarm" : Str), .int i0]) := by
  obtain ⟨j0, rfl⟩ : ∃ j : Nat, i0 = (j : Int) := ⟨i0.toNat, by omega⟩
  exact GoodRow.alarm j0 (by omega)
theorem gr_stop   : GoodRow (.tup [.str ("stop" : Str)]) := by
  exact GoodRow.stop
theorem gt_num {i : Int} (h : 0 ≤ i) (k : i ≤ 999) : GoodTh (.int i) := by
  obtain ⟨j, rfl⟩ : ∃ j : Nat, i = (j : Int) := ⟨i.toNat, by omega⟩
  exact .num j (by omega)
theorem allM_nil {P : D → Prop} : ∀ x ∈ ([] : List D), P x := fun _ h => by simp at h
theorem allM_cons {P : D → Prop} {d : D} {ds : List D} (h : P d) (k : ∀ x ∈ ds, P x) : ∀ x ∈ d :: ds, P x := fun x hx => by
  rcases List.mem_cons.mp hx with e | e
  · subst e; exact h
  · exact k x e
theorem allM_app {P : D → Prop} {xs ds : List D} (h : ∀ x ∈ xs, P x) (k : ∀ x ∈ ds, P x) : ∀ x ∈ xs ++ ds, P x := fun x hx => by
  rcases List.mem_append.mp hx with e | e
  · exact h x e
  · exact k x e
theorem allM_set {P : D → Prop} {xs : List D} {i : Nat} {v : D} (h : ∀ x ∈ xs, P x) (k : P v) : ∀ x ∈ xs.set i v, P x := fun x hx => by
  rcases List.mem_or_eq_of_mem_set hx with e | e
  · exact h x e
  · subst e; exact k
theorem natD {i : Int} (h0 : 0 ≤ i) (h1 : i ≤ 999) : ∃ n : Nat, n ≤ 999 ∧ D.int i = .int (n : Int) := ⟨i.toNat, by omega, by rw [Int.toNat_of_nonneg h0]⟩
abbrev isNatD (d : D) : Prop := ∃ n : Nat, n ≤ 999 ∧ d = .int (n : Int)
def worthD : D → Int
  | .int i => i
  | _ => 0
/-- cells of a machine -/
def Cells (xs : List D) : Prop := 16 ≤ xs.length ∧ xs.length ≤ 40 ∧ ∀ x ∈ xs, GoodTh x
/-! ### comprehensions that draw -/
theorem compRun_st {I : DIt} {ct : CT} {te : TED} {τ : DSt} {p s : Addr} {Q : DH → Prop} {G1 : DH} (hp : G1 p = none) (hs : HasSt s G1) (hok : ∀ G', StF s G1 G' → I.ok G') (P : D → Prop) :
    ∀ (ds : List D) (G : DH) (acc : List D), StF s G1 G → G p = some (.lst acc) → acc.length + ds.length < 16777216 → (∀ x ∈ acc, P x) →
      (∀ d ∈ ds, ∀ G', StF s G1 G' → ctD ct d τ fun τ2 => ∀ k : D → DH → Prop, (∀ v G2, P v → StF s G' G2 → k v G2) → te τ2 G' noX k) →
      (∀ G' xs, StF s G1 G' → G' p = some (.lst xs) → xs.length = acc.length + ds.length → (∀ x ∈ xs, P x) → Q G') → compRun I ct dYes te τ p Q ds G
  | [], G, acc, f, hG, _, hP, _, hQ => ⟨hok G f, hQ G acc f hG rfl hP⟩
  | d :: ds, G, acc, f, hG, hl, hP, he, hQ => by
    refine ⟨hok G f, ?_⟩
    have b := he d List.mem_cons_self G f
    refine ctD_imp b fun τ2 b => ?_
    show ifB true _ _
    rw [ifB_true]
    refine b _ fun v G2 hv f2 => ?_
    have np : p ≠ s := Ne.symm (HasSt.ne hp hs)
    have e : G2 p = some (.lst acc) := f2.fr p np _ hG
    refine onSome_i (show oLst (G2 p) = some acc by rw [e]; rfl) ⟨by simp at hl; omega, ?_⟩
    refine compRun_st hp hs hok P ds _ (acc ++ [v]) (.new np hp (f.trans f2)) up_same (by simp at hl ⊢; omega) (fun x hx => ?_) (fun d' h => he d' (List.mem_cons_of_mem _ h)) fun G' xs s' e' l' => hQ G' xs s' e' (by rw [l']; simp; omega)
    rcases List.mem_append.mp hx with h | h
    · exact hP x h
    · rw [List.mem_singleton.mp h]; exact hv
theorem dComp_st {I : DIt} {ct : CT} {te : TED} {τ : DSt} {p s : Addr} {Q : DH → Prop} {G : DH} (hp : G p = none) (hs : HasSt s G) (hok : ∀ G', StF s G G' → I.ok G') (P : D → Prop) (hl : I.items.length < 16777216)
    (he : ∀ d ∈ I.items, ∀ G', StF s G G' → ctD ct d τ fun τ2 => ∀ k : D → DH → Prop, (∀ v G2, P v → StF s G' G2 → k v G2) → te τ2 G' noX k)
    (hQ : ∀ G' xs, StF s G G' → G' p = some (.lst xs) → xs.length = I.items.length → (∀ x ∈ xs, P x) → Q G') : compRun I ct dYes te τ p Q I.items (up G p (.lst [])) :=
  compRun_st hp hs hok P I.items _ [] (.new (Ne.symm (HasSt.ne hp hs)) hp (.refl hs)) up_same (by simpa using hl) (fun _ h => by simp at h) he fun G' xs f e l => hQ G' xs f e (by simpa using l)
end L3

namespace L3
open PySem PySem.Spec PyProof.Rows L2

/-! ### dicts of the top, keyed by numbers -/
structure KDI (K : PySem.W.Frag) (mg : Str → Option Value) (x : Str) (kvs : List (Int × D)) : Prop where
  ok : ∃ a es n, mg x = some (.ref a) ∧ K.lookup a = some ⟨.type "dict", none, .dict es n, #[]⟩ ∧ (∀ e ∈ es.toList, ∃ i t, e.key = .int i t ∧ e.hash = hashInt i) ∧ ∀ i d, kvs.lookup i = some d → ∃ u v, findBy Value.isInt es i = some u ∧ RelV v u ∧ ∀ H, Rep K mg H v d
def dKIxI (kvs : List (Int × D)) (ta : TED) : TED := fun τ G X Q => ta τ G X fun x G1 => asI x fun z => onSome (kvs.lookup z) fun d => Q d G1
section
variable {X : Cx} {W : WX} {a : Expr} {ta : TED} {p pos : Pos}
def rIxI (K : PySem.W.Frag) : R2 := fun x y H Q => ∃ (q : Addr) (i : Int) (es : Array DictEntry) (n : Nat) (u : Value) (v : V), x = .ref q ∧ y = .int i ∧ K.lookup q = some ⟨.type "dict", none, .dict es n, #[]⟩ ∧ (∀ e ∈ es.toList, ∃ i t, e.key = .int i t ∧ e.hash = hashInt i) ∧ findBy Value.isInt es i = some u ∧ RelV v u ∧ Q v H
theorem ix_idict : IxR X (rIxI X.K) := by
  intro value slice pins s σ H x y v u Q I rx ry h hs
  obtain ⟨q, i, es, n, u0, v0, rfl, rfl, hl, hk, e, ru, hq⟩ := h
  obtain rfl : v = Value.ref q := rx
  obtain ⟨t, rfl⟩ := (show ∃ t, u = Value.int i t from ry)
  have hm : s.heap.MapOf (intKind X.prog X.w) q (fun k => findBy Value.isInt es k) :=
    ⟨_, es, n, I.kIn _ _ hl, ⟨rfl, rfl, rfl⟩, rfl, fun e he => by
      obtain ⟨j, t', e1, e2⟩ := hk e (Array.mem_toList_iff.mpr he)
      exact ⟨j, by rw [e1]; exact intKind_is X.prog X.w j t', e2⟩, fun _ => rfl⟩
  exact tail_any hm.typeIs slot_dict_getitem.lookup (wpAny_getItem_of (intKind_is X.prog X.w i t) hm e ⟨v0, H, I.tok _, ru, hq⟩) hs
theorem m_kixi {x : Str} {kvs : List (Int × D)} (T : KDI X.K X.mg x kvs) (ha : ME X W a ta) (hs : PlainIx a := by exact fun _ _ => rfl) (hg : Gl X x := by rfl) (hdb : (x == ("__debug__" : Str)) = false := by decide) : ME X W (.Subscript (.Name x p) a pos) (dKIxI kvs ta) := by
  obtain ⟨d, es, n, hm, hd, hk, hl⟩ := T.ok
  refine PE.imp (pe_ix ix_idict (pe_glob (v := .ref d) hg hm rfl hdb) ha hs) fun σ H Q ⟨τ, G, Xd, Qd, hσ, hA, h, hQ, hX⟩ => ⟨τ, G, Xd, _, hσ, hA, h, fun x G1 v H1 e1 r1 a1 h1 => ?_, hX⟩
  obtain ⟨z, rfl, q⟩ := asI_of h1
  obtain ⟨d', e, q⟩ := onSome_of q
  obtain ⟨u, v, h1, h2, h3⟩ := hl z d' e
  exact ⟨d, z, es, n, u, v, rfl, r1.intv, hd, hk, h1, h2, hQ _ _ _ _ e1 (h3 _) a1 q⟩
end
theorem kviB_ok {K : PySem.W.Frag} : ∀ (es : List DictEntry) (kvs : List (Int × D)), kviB K es kvs = true → (∀ e ∈ es, ∃ i t, e.key = .int i t ∧ e.hash = hashInt i) ∧ ∀ i d, kvs.lookup i = some d → ∃ e, es.find? (fun e => Value.isInt i e.key) = some e ∧ isVB K 6 e.val d = true
  | [], [], _ => ⟨fun _ h => by simp at h, fun _ _ h => by simp at h⟩
  | [], _ :: _, h => by cases h
  | _ :: _, [], h => by cases h
  | e :: es, p :: r, h => by
    obtain ⟨k1, d1⟩ := p
    simp only [kviB, Bool.and_eq_true] at h
    obtain ⟨h1, h2, h3⟩ := h
    obtain ⟨i1, i2⟩ := kviB_ok es r h3
    cases ek : e.key with
    | int y t =>
      rw [ek] at h1
      simp only [Bool.and_eq_true, decide_eq_true_eq] at h1
      obtain ⟨rfl, hh⟩ := h1
      refine ⟨fun e' he => ?_, fun i d hd => ?_⟩
      · rcases List.mem_cons.mp he with z | z
        · subst z; exact ⟨_, t, ek, hh⟩
        · exact i1 e' z
      · have hs : Value.isInt i e.key = (y == i) := by rw [ek]; rfl
        rw [List.find?_cons, hs]
        by_cases q : i = y
        · subst q
          simp [List.lookup] at hd
          subst hd
          simp only [beq_self_eq_true]
          exact ⟨e, rfl, h2⟩
        · have q1 : (i == y) = false := by simpa using q
          have q2 : (y == i) = false := by simp; exact fun z => q z.symm
          simp only [List.lookup, q1] at hd
          rw [q2]
          exact i2 i d hd
    | _ => rw [ek] at h1; cases h1
theorem kdiB_ok {K : PySem.W.Frag} {h : Heap} {mg : Str → Option Value} (X : K.In h) (G : h.Ns mainGlobals mg) {x : Str} {kvs : List (Int × D)} (c : kdiB K x kvs = true) : KDI K mg x kvs := by
  unfold kdiB at c
  split at c
  · rename_i a e
    split at c
    · rename_i t es n sl lk
      simp only [Bool.and_eq_true, decide_eq_true_eq] at c
      obtain ⟨h1, h2, h3⟩ := c
      subst h1 h2
      obtain ⟨k1, k2⟩ := kviB_ok es.toList kvs h3
      refine ⟨a, es, n, PySem.W.mg_of X G e, lk, k1, fun i d hd => ?_⟩
      obtain ⟨e', h4, h5⟩ := k2 i d hd
      obtain ⟨v, r, p⟩ := isVB_ok (mg := mg) 6 e'.val d h5
      refine ⟨e'.val, v, ?_, r, p⟩
      unfold findBy
      have : es.find? (fun e => Value.isInt i e.key) = es.toList.find? (fun e => Value.isInt i e.key) := by simp
      rw [this, h4]
      rfl
    · cases c
  · cases c
theorem RepL.three {K : PySem.W.Frag} {mg : Str → Option Value} {H : Hp} {vs : List V} {d e f : D} (r : RepL K mg H vs [d, e, f]) : ∃ u v w, vs = [u, v, w] ∧ Rep K mg H u d ∧ Rep K mg H v e ∧ Rep K mg H w f := by
  cases r with
  | cons a r => cases r with
    | cons b r => cases r with
      | cons c r => cases r; exact ⟨_, _, _, rfl, a, b, c⟩
theorem ms_par3 {X : Cx} {W : WX} {i j l : Nat} {x y z : Str} {a b c : Expr} {ta : TAD} {px py pz pt pos : Pos} {kt k2 pt2} (hc : X.calm = true) (hN : X.N.Nodup) (hi : X.N[i]? = some x) (hj : X.N[j]? = some y) (hl : X.N[l]? = some z) (hij : i ≠ j) (hil : i ≠ l) (hjl : j ≠ l)
    (hx : X.env.scope.names.lookup x = some .local) (hy : X.env.scope.names.lookup y = some .local) (hz : X.env.scope.names.lookup z = some .local) (ha : MA X W [a, b, c] ta)
    (hw : swappedStores [.Tuple [.Name x px, .Name y py, .Name z pz] kt pt] (.Tuple [a, b, c] k2 pt2) X.env = pure (some [x, y, z]))
    (hs : swapsWithSole [.Tuple [.Name x px, .Name y py, .Name z pz] kt pt] (.Tuple [a, b, c] k2 pt2) pos.line X.env = pure false := by rfl) :
    MS X W (.Assign [.Tuple [.Name x px, .Name y py, .Name z pz] kt pt] (.Tuple [a, b, c] k2 pt2) pos) (sPar3 i j l ta) :=
  PS.imp (ps_par3 hc hN hi hj hl hij hil hjl hx hy hz ha hw hs) fun D_ σ H ⟨τ, G, Dd, hσ, hA, h, hE⟩ =>
    ⟨τ, G, Dd.xx, _, hσ, hA, h, fun ds G1 vs H1 e1 r1 a1 h1 => by
      match ds, h1 with
      | [u, v, w], h1 =>
        obtain ⟨u', v', w', rfl, ra, rb, rc⟩ := r1.three
        exact ⟨u', v', w', rfl, hE.nx _ _ _ _ e1 ((((hσ.ext e1).set ra i).set rb j).set rc l) a1 (forceS_of (Q := fun τ' => Dd.nx τ' G1) h1)⟩, hE.xx σ⟩
theorem TabOk.nil' {P : Program} {w : World} {K : PySem.W.Frag} {mg : Str → Option Value} {base : Heap} {k : Nat} {m : String} : TabOk P w K mg base k m [] := fun _ _ h => by cases h
theorem TabOk.cons' {P : Program} {w : World} {K : PySem.W.Frag} {mg : Str → Option Value} {base : Heap} {k : Nat} {m c : String} {sp : DSp} {tab : List (String × DSp)} (h1 : fldOk c m = false) (h2 : MtD P w K mg base k c (m : Str) sp) (h : TabOk P w K mg base k m tab) : TabOk P w K mg base k m ((c, sp) :: tab) := fun c' sp' q => by
  by_cases e : c' = c
  · subst e; simp [List.lookup] at q; subst q; exact ⟨h1, h2⟩
  · have e1 : (c' == c) = false := by simpa using e
    simp only [List.lookup, e1] at q
    exact h _ _ q
end L3

namespace L3
open PySem PySem.Spec PyProof.Rows L2

/-! ### loops, held shut -/
inductive FR (I : DIt) (g : TGD) (tb : TSD) (D_ : DEnds) (ds : List D) (τ : DSt) (G : DH) : Prop where
  | mk (h : forRun I g tb D_ ds τ G) : FR I g tb D_ ds τ G
theorem FR_eq : @FR = @forRun := by
  funext I g tb D_ ds τ G
  exact propext ⟨fun h => by cases h; assumption, fun h => .mk h⟩
def sForS (wi : TID) (g : TGD) (tb : TSD) : TSD := fun D_ τ G => match D_ with | ⟨nx, rt, xx, bk, ct⟩ => wi τ G xx fun I G1 => FR I g tb ⟨nx, rt, xx, bk, ct⟩ I.items τ G1
theorem sForS_eq : @sForS = @sFor := by
  funext wi g tb D_ τ G
  obtain ⟨nx, rt, xx, bk, ct⟩ := D_
  show (wi τ G xx fun I G1 => FR I g tb ⟨nx, rt, xx, bk, ct⟩ I.items τ G1) = _
  rw [FR_eq]
  rfl
/-- .. by an invariant: what is left, what was done -/
theorem FR_ind {I : DIt} {g : TGD} {tb : TSD} {D_ : DEnds} (P : List D → DSt → DH → Prop) (nil : ∀ τ G, P [] τ G → I.ok G ∧ D_.nx τ G)
    (cons : ∀ d r, (∀ τ G, P r τ G → FR I g tb D_ r τ G) → ∀ τ G, P (d :: r) τ G → I.ok G ∧ g d τ G D_.xx fun τ' G' => tb { nx := FR I g tb D_ r, rt := D_.rt, xx := D_.xx, bk := D_.nx, ct := FR I g tb D_ r } τ' G')
    {ds : List D} {τ : DSt} {G : DH} (h : P ds τ G) : FR I g tb D_ ds τ G := by
  rw [FR_eq] at *
  exact forRun_ind P nil cons ds τ G h
/-- one turn after another -/
theorem FR_nil {I : DIt} {g : TGD} {tb : TSD} {D_ : DEnds} {τ : DSt} {G : DH} (h : I.ok G) (k : D_.nx τ G) : FR I g tb D_ [] τ G := .mk ⟨h, k⟩
theorem FR_cons {I : DIt} {g : TGD} {tb : TSD} {D_ : DEnds} {d : D} {r : List D} {τ : DSt} {G : DH} (h : I.ok G) (k : g d τ G D_.xx fun τ' G' => tb { nx := FR I g tb D_ r, rt := D_.rt, xx := D_.xx, bk := D_.nx, ct := FR I g tb D_ r } τ' G') : FR I g tb D_ (d :: r) τ G := by
  rw [FR_eq] at k
  exact .mk ⟨h, k⟩
/-- over a list of the heap: Pd of each thing, P by how many are left -/
theorem FR_lst {a : Addr} {XS : List D} {g : TGD} {tb : TSD} {D_ : DEnds} {τ : DSt} {G : DH} (Pd : D → Prop) (P : Nat → DSt → DH → Prop) (hd : ∀ d ∈ XS, Pd d) (ha : G a = some (.lst XS)) (h : P XS.length τ G)
    (nil : ∀ XS τ G, G a = some (.lst XS) → P 0 τ G → D_.nx τ G)
    (cons : ∀ (XS : List D) (d : D) (n : Nat) (K : DSt → DH → Prop), Pd d → (∀ τ G, G a = some (.lst XS) → P n τ G → K τ G) → ∀ τ G, G a = some (.lst XS) → P (n + 1) τ G → g d τ G D_.xx fun τ' G' => tb { nx := K, rt := D_.rt, xx := D_.xx, bk := D_.nx, ct := K } τ' G') :
    FR ⟨XS, fun G' => lstOf G' (.ref a) = some XS⟩ g tb D_ XS τ G := by
  refine FR_ind (fun r τ G => G a = some (.lst XS) ∧ (∀ d ∈ r, Pd d) ∧ P r.length τ G) ?_ ?_ ⟨ha, hd, h⟩
  · rintro τ G ⟨e, -, p⟩
    exact ⟨hp_lstOf e, nil _ τ G e p⟩
  · rintro d r ih τ G ⟨e, q, p⟩
    exact ⟨hp_lstOf e, cons _ d r.length _ (q d List.mem_cons_self) (fun τ' G' e' p' => ih τ' G' ⟨e', fun x hx => q x (List.mem_cons_of_mem _ hx), p'⟩) τ G e p⟩
theorem rangeD_cons (lo : Int) (n : Nat) : rangeD lo (n + 1) = .int lo :: rangeD (lo + 1) n := by
  unfold rangeD
  rw [List.range_succ_eq_map, List.map_cons, List.map_map]
  simp only [Function.comp_def]
  congr 1
  · congr 1; simp
  · refine List.map_congr_left fun i _ => ?_
    congr 1; omega
/-- over a range: P by how many were done -/
theorem FR_rng {lo : Int} {n : Nat} {g : TGD} {tb : TSD} {D_ : DEnds} {τ : DSt} {G : DH} (P : Nat → DSt → DH → Prop) (h : P 0 τ G) (nil : ∀ τ G, P n τ G → D_.nx τ G)
    (cons : ∀ (i : Nat) (K : DSt → DH → Prop), i < n → (∀ τ G, P (i + 1) τ G → K τ G) → ∀ τ G, P i τ G → g (.int (lo + (i : Int))) τ G D_.xx fun τ' G' => tb { nx := K, rt := D_.rt, xx := D_.xx, bk := D_.nx, ct := K } τ' G') :
    FR ⟨rangeD lo n, fun _ => True⟩ g tb D_ (rangeD lo n) τ G := by
  have core : ∀ (j i : Nat) τ G, i + j = n → P i τ G → FR ⟨rangeD lo n, fun _ => True⟩ g tb D_ (rangeD (lo + (i : Int)) j) τ G := by
    intro j
    induction j with
    | zero =>
      intro i τ G e p
      have : i = n := by omega
      subst this
      exact FR_nil trivial (nil τ G p)
    | succ j ih =>
      intro i τ G e p
      rw [rangeD_cons]
      refine FR_cons trivial (cons i _ (by omega) (fun τ' G' p' => ?_) τ G p)
      rw [show lo + (i : Int) + 1 = lo + ((i + 1 : Nat) : Int) by omega]
      exact ih (i + 1) τ' G' (by omega) p'
  have := core n 0 τ G (by omega) h
  rwa [show lo + ((0 : Nat) : Int) = lo by omega] at this
section
variable {X : Cx} {W : WX} {tg iter : Expr} {body : List Stmt} {wi : TID} {g : TGD} {tb : TSD} {pos : Pos}
theorem ms_forS (hp : PassesOwn (model X.prog X.w) X.A X.env X.xe) (hc : X.calm = true) (hi : MI X W tg iter wi) (hg : MG X W tg g) (hb : MSs X W body tb) (hs : ∀ x, foldedSetIterable iter X.env x = pure x := by intro _; rfl) : MS X W (.For tg iter body [] pos) (sForS wi g tb) := by
  rw [sForS_eq]
  exact ms_for hp hc hi hg hb hs
end
end L3

namespace L3
open PySem PySem.Spec PyProof.Rows L2

/-! ### texts: sign by sign, int(text) -/
def signsD (x : Str) : List D := x.cps.toList.map fun c => .str ⟨#[c]⟩
def iStrD (te : TED) : TID := fun τ G X R => te τ G X fun x G1 => asS x fun z => R ⟨signsD z, fun _ => True⟩ G1
section
variable {X : Cx} {W : WX} {tg e : Expr} {te : TED}
theorem mi_str (he : ME X W e te) : MI X W tg e (iStrD te) := PI.imp (pi_str he) fun σ H R ⟨τ, G, Xd, Rd, hσ, hA, h, hR, hX⟩ =>
  ⟨τ, G, Xd, _, hσ, hA, h, fun x G1 v H1 e1 r1 a1 h1 => by
    obtain ⟨z, rfl, q⟩ := asS_of h1
    refine ⟨z, r1.strv, hR _ _ _ _ e1 a1 (fun G2 H2 e2 a2 _ => ?_) q⟩
    refine ⟨fun i hi => ?_, ?_⟩
    · have hi' : i < z.cps.toList.length := by
        have k : i < (signsD z).length := hi
        unfold signsD at k
        rwa [List.length_map] at k
      refine ⟨(by show i < z.cps.size; simpa using hi'), fun y H' hy => ?_⟩
      obtain ⟨rfl, c, hc, rfl⟩ := hy
      refine ⟨.str ⟨#[c]⟩, ?_, .refl _, .str _, a2⟩
      show (signsD z)[i]? = _
      unfold signsD
      rw [List.getElem?_map]
      have : z.cps.toList[i]? = some c := by rw [← hc]; simp
      rw [this]
      rfl
    · show z.cps.size ≤ (signsD z).length
      unfold signsD
      rw [List.length_map]
      simp, hX⟩
def rIntS : RC := fun ds G Q => match ds with
  | [.str a] => onSome (PySem.intText? a) fun n => a.length ≤ 640 ∧ Q (.int n) G
  | _ => False
theorem mc_ints : CallR X (.type "int") (liftC X.K X.mg rIntS) := by
  intro pins s σ H xs us Q I rv h
  obtain ⟨ds, G, Qd, r1, A, h, hQ⟩ := h
  match ds, h with
  | [.str a], h =>
    obtain ⟨v, rfl, r⟩ := r1.one
    obtain ⟨n, e, h1, h2⟩ := onSome_of h
    exact call_int_str pins s σ H _ us Q I rv ⟨a, n, by rw [r.strv], e, h1, hQ _ _ _ _ (.refl _) (.int _) A h2⟩
def rStrA : RC := fun ds G Q => match ds with
  | [.int i] => i.natAbs.log2 < 1920 ∧ Q (.str (toString i)) G
  | [.str a] => Q (.str a) G
  | _ => False
theorem mc_strA : CallR X (.type "str") (liftC X.K X.mg rStrA) := by
  intro pins s σ H xs us Q I rv h
  obtain ⟨ds, G, Qd, r1, A, h, hQ⟩ := h
  match ds, h with
  | [.int i], h =>
    obtain ⟨v, rfl, r⟩ := r1.one
    exact call_str_int pins s σ H _ us Q I rv ⟨i, by rw [r.intv], h.1, hQ _ _ _ _ (.refl _) (.str _) A h.2⟩
  | [.str a], h =>
    obtain ⟨v, rfl, r⟩ := r1.one
    exact SkE.call_str_str pins s σ H _ us Q I rv ⟨a, by rw [r.strv], hQ _ _ _ _ (.refl _) (.str _) A h⟩
end
end L3

namespace L3
open PySem PySem.Spec PyProof.Rows L2

/-! ### a dict walked by its keys: locked at the time -/
/-- all but locked dicts stay -/
structure ExtU (H H' : Hp) : Prop where
  tup : ∀ b xs, H b = some (.tup xs) → H' b = some (.tup xs)
  frt : ∀ b o xs, H b = some (.frz o (.tup xs)) → H' b = some (.frz o (.tup xs))
  frl : ∀ b o xs, H b = some (.frz o (.lst xs)) → H' b = some (.frz o (.lst xs))
  ext : ∀ b p, H b = some (.ext p) → H' b = some (.ext p)
theorem ExtU.unlock {H : Hp} {a : Addr} {o : Obj} {ws : List (Key × V)} {u : HO} (h : H a = some (.frz o (.dK ws))) : ExtU H (upd H a u) := by
  have ne : ∀ b v, H b = some v → v ≠ .frz o (.dK ws) → b ≠ a := fun b v e n z => by subst z; rw [h] at e; exact n (Option.some.inj e).symm
  exact ⟨fun b xs e => by rw [upd_ne (ne b _ e (fun z => nomatch z))]; exact e, fun b p xs e => by rw [upd_ne (ne b _ e (fun z => by injection z with z1 z2; exact nomatch z2))]; exact e, fun b p xs e => by rw [upd_ne (ne b _ e (fun z => by injection z with z1 z2; exact nomatch z2))]; exact e, fun b p e => by rw [upd_ne (ne b _ e (fun z => nomatch z))]; exact e⟩
theorem sqT_extU {K : PySem.W.Frag} {H H' : Hp} {a : Addr} {xs : List V} (e : ExtU H H') (h : SqT K H a xs) : SqT K H' a xs := by
  rcases h with (h | ⟨o, h⟩) | h
  · exact .inl (.inl (e.tup _ _ h))
  · exact .inl (.inr ⟨o, e.frt _ _ _ h⟩)
  · exact .inr h
theorem rdL_extU {K : PySem.W.Frag} {H H' : Hp} {a : Addr} {xs : List V} (e : ExtU H H') (h : RdL K H a xs) : RdL K H' a xs := by
  rcases h with ⟨o, h⟩ | h
  · exact .inl ⟨o, e.frl _ _ _ h⟩
  · exact .inr h
theorem lamAt_extU {H H' : Hp} {f : Addr} {k : LamC} {cl : List (Str × Addr)} (e : ExtU H H') (h : LamAt H f k cl) : LamAt H' f k cl := by
  obtain ⟨c', dV, h1, h2, h3⟩ := h
  refine ⟨c', dV, e.ext _ _ h1, e.ext _ _ h2, ?_⟩
  rcases h3 with h3 | ⟨T, u, h3, h4, h5⟩
  · exact .inl h3
  · exact .inr ⟨T, u, h3, h4, e.ext _ _ h5.1, h5.2⟩
section
variable {K : PySem.W.Frag} {mg : Str → Option Value} {H H' : Hp}
mutual
theorem Rep.extU (e : ExtU H H') : ∀ {v : V} {d : D}, Rep K mg H v d → Rep K mg H' v d
  | _, _, .non => .non
  | _, _, .bl b => .bl b
  | _, _, .int i => .int i
  | _, _, .str x => .str x
  | _, _, .tup h r => .tup (sqT_extU e h) (RepL.extU e r)
  | _, _, .ref a => .ref a
  | _, _, .gl h => .gl h
  | _, _, .rl h r => .rl (rdL_extU e h) (RepL.extU e r)
  | _, _, .wl h r => .wl h (RepL.extU e r)
  | _, _, .fn h r => .fn (lamAt_extU e h) (RepL.extU e r)
theorem RepL.extU (e : ExtU H H') : ∀ {vs : List V} {ds : List D}, RepL K mg H vs ds → RepL K mg H' vs ds
  | _, _, .nil => .nil
  | _, _, .cons a b => .cons (Rep.extU e a) (RepL.extU e b)
end
theorem FRep.extU (e : ExtU H H') : ∀ {vs : List (Str × V)} {ds : List (String × D)}, FRep K mg H vs ds → FRep K mg H' vs ds
  | _, _, .nil => .nil
  | _, _, .cons a b => .cons (a.extU e) (FRep.extU e b)
theorem KRep.extU (e : ExtU H H') : ∀ {vs : List (Key × V)} {ds : List (Key × D)}, KRep K mg H vs ds → KRep K mg H' vs ds
  | _, _, .nil => .nil
  | _, _, .cons a b => .cons (a.extU e) (KRep.extU e b)
theorem StRep.extU (e : ExtU H H') : ∀ {σ : L2.St} {τ : DSt}, StRep K mg H σ τ → StRep K mg H' σ τ
  | _, _, .nil => .nil
  | _, _, .none b => .none (StRep.extU e b)
  | _, _, .some a b => .some (a.extU e) (StRep.extU e b)
theorem ObjRep.extU {p : Addr} {o : DO} (e : ExtU H H') (k : H' p = H p) (z : ObjRep K mg H p o) : ObjRep K mg H' p o := by
  cases o with
  | lst _ => obtain ⟨xs, e1, e2⟩ := z; exact ⟨xs, k.trans e1, e2.extU e⟩
  | ins _ _ => obtain ⟨C, dx, vs, e0, e1, e2, e3⟩ := z; exact ⟨C, dx, vs, e0, k.trans e1, e2.extU e, e3⟩
  | dct _ => obtain ⟨xs, e1, e2⟩ := z; exact ⟨xs, k.trans e1, e2.extU e⟩
  | fdc _ => obtain ⟨o, xs, e1, e2⟩ := z; exact ⟨o, xs, k.trans e1, e2.extU e⟩
  | tbl _ _ => obtain ⟨e0, ps, e1, e2, e3⟩ := z; exact ⟨e0, ps, k.trans e1, e2, fun pos cv hc => by obtain ⟨c, h1, h2⟩ := e3 pos cv hc; exact ⟨c, h1, e.ext _ _ h2⟩⟩
  | xd _ => obtain ⟨xs, e1, e2⟩ := z; exact ⟨xs, k.trans e1, e2.extU e⟩
theorem Abs.unlock {G : DH} {a : Addr} {o : Obj} {ws : List (Key × V)} {kvs : List (Key × D)} (A : Abs K mg G H) (h : H a = some (.frz o (.dK ws))) (k : KRep K mg H ws kvs) : Abs K mg (up G a (.dct kvs)) (L2.upd H a (.dK ws)) := fun b u q => by
  by_cases e : b = a
  · subst e; rw [up_same] at q; cases q
    exact ⟨ws, upd_same, k.extU (.unlock h)⟩
  · rw [up_ne e] at q
    exact (A b u q).extU (.unlock h) (upd_ne e)
theorem Abs.lock {G : DH} {a : Addr} {o : Obj} {ws : List (Key × V)} {kvs : List (Key × D)} (A : Abs K mg G H) (h : H a = some (.dK ws)) (k : KRep K mg H ws kvs) : Abs K mg (up G a (.fdc kvs)) (L2.upd H a (.frz o (.dK ws))) :=
  A.upd (.dct h) (show ObjRep K mg _ a (.fdc kvs) from ⟨o, ws, upd_same, k.ext (.dct h)⟩)
theorem Ext.relock {a : Addr} {o : Obj} {ws : List (Key × V)} (h : H a = some (.dK ws)) (e : Ext (upd H a (.frz o (.dK ws))) H') : Ext H (upd H' a (.dK ws)) := by
  have ne : ∀ b v, H b = some v → v ≠ .dK ws → b ≠ a := fun b v e1 n z => n (Option.some.inj (e1.symm.trans (by rw [z]; exact h)))
  exact ⟨fun b xs q => by have n := ne b _ q (fun z => nomatch z); rw [upd_ne n]; exact e.tup _ _ (by rw [upd_ne n]; exact q), fun b p u q => by have n := ne b _ q (fun z => nomatch z); rw [upd_ne n]; exact e.frz _ _ _ (by rw [upd_ne n]; exact q), fun b p q => by have n := ne b _ q (fun z => nomatch z); rw [upd_ne n]; exact e.ext _ _ (by rw [upd_ne n]; exact q)⟩
end
def lockE (D_ : DEnds) (a : Addr) (kvs : List (Key × D)) : DEnds where
  nx := fun τ' G' => D_.nx τ' (up G' a (.dct kvs))
  rt := fun v G' => D_.rt v (up G' a (.dct kvs))
  xx := noX
  bk := fun τ' G' => D_.bk τ' (up G' a (.dct kvs))
  ct := fun τ' G' => D_.ct τ' (up G' a (.dct kvs))
inductive LK (t : TSD) (D_ : DEnds) (τ : DSt) (G : DH) : Prop where
  | mk (a : Addr) (kvs : List (Key × D)) (h : G a = some (.dct kvs)) (q : t (lockE D_ a kvs) τ (up G a (.fdc kvs))) : LK t D_ τ G
theorem LK_i {t : TSD} {D_ : DEnds} {τ : DSt} {G : DH} {a : Addr} {kvs : List (Key × D)} (h : G a = some (.dct kvs)) (q : t (lockE D_ a kvs) τ (up G a (.fdc kvs))) : LK t D_ τ G := .mk a kvs h q
def sLock (t : TSD) : TSD := fun D_ τ G => LK t D_ τ G
def keyK : Key → D
  | .inl i => .int i
  | .inr s => .str s
def oFdc : Option DO → Option (List (Key × D))
  | some (.fdc kvs) => some kvs
  | _ => none
theorem oFdc_some {o : Option DO} {xs : List (Key × D)} (h : oFdc o = some xs) : o = some (.fdc xs) := by
  cases o with
  | none => cases h
  | some u => cases u <;> first | (cases h; rfl) | cases h
theorem hp_fdc {G : DH} {a : Addr} {kvs : List (Key × D)} (h : G a = some (.fdc kvs)) : oFdc (G a) = some kvs := by rw [h]; rfl
def iKeysD (td : TED) : TID := fun τ G X R => td τ G X fun x G1 => match x with
  | .ref a => onSome (oFdc (G1 a)) fun kvs => R ⟨kvs.map fun p => keyK p.1, fun G' => G' a = some (.fdc kvs)⟩ G1
  | _ => False
section
variable {K : PySem.W.Frag} {mg : Str → Option Value} {H : Hp}
theorem KRep.at : ∀ {ws : List (Key × V)} {kvs : List (Key × D)} {i : Nat} {k : Key} {v : V}, KRep K mg H ws kvs → ws[i]? = some (k, v) → ∃ d, kvs[i]? = some (k, d) ∧ Rep K mg H v d
  | _, _, i, k, v, .nil, h => by simp at h
  | _, _, 0, k, v, .cons (d := d) a b, h => by simp at h; obtain ⟨rfl, rfl⟩ := h; exact ⟨d, rfl, a⟩
  | _, _, i + 1, k, v, .cons a b, h => by
    obtain ⟨d, h1, h2⟩ := KRep.at (i := i) b (by simpa using h)
    exact ⟨d, by simpa using h1, h2⟩
theorem keyK_rep (k : Key) : Rep K mg H (kV k) (keyK k) := by
  cases k with
  | inl i => exact .int i
  | inr s => exact .str s
end
section
variable {X : Cx} {W : WX} {tg e : Expr} {td : TED} {st : Stmt} {t : TSD}
theorem mi_keys (he : ME X W e td) : MI X W tg e (iKeysD td) := PI.imp (pi_keys he) fun σ H R ⟨τ, G, Xd, Rd, hσ, hA, h, hR, hX⟩ =>
  ⟨τ, G, Xd, _, hσ, hA, h, fun x G1 v H1 e1 r1 a1 h1 => by
    cases x <;> try exact (show False from h1).elim
    rename_i a
    obtain ⟨kvs, ek, q⟩ := onSome_of h1
    obtain ⟨o, ws, e5, kr⟩ := a1 _ _ (oFdc_some ek)
    refine ⟨a, o, r1.refv, .inl ⟨ws, e5, hR _ _ _ _ e1 a1 (fun G2 H2 e2 a2 ok => ?_) q⟩⟩
    have e6 : H2 a = some (.frz o (.dK ws)) := e2.frz _ _ _ e5
    have kr2 := kr.ext e2
    have hl : ws.length = kvs.length := kr.length
    refine ⟨fun i hi => ?_, e6, ?_⟩
    · have hi' : i < kvs.length := by
        have z : i < (kvs.map fun p => keyK p.1).length := hi
        rwa [List.length_map] at z
      refine ⟨⟨e6, by omega⟩, fun y H' hy => ?_⟩
      obtain ⟨rfl, k, w, hk, rfl⟩ := hy
      obtain ⟨d, hd, _⟩ := kr2.at hk
      refine ⟨keyK k, ?_, .refl _, keyK_rep k, a2⟩
      show (kvs.map fun p => keyK p.1)[i]? = _
      rw [List.getElem?_map, hd]
      rfl
    · show ws.length ≤ (kvs.map fun p => keyK p.1).length
      rw [List.length_map]
      exact Nat.le_of_eq hl, hX⟩
theorem ms_lock (h : MS X W st t) : MS X W st (sLock t) := PS.imp (ps_lock h) fun D_ σ H ⟨τ, G, Dd, hσ, hA, h, hE⟩ => by
  cases h with
  | mk a kvs ha q =>
    obtain ⟨ws, e5, kr⟩ := hA _ _ ha
    refine ⟨a, .dK ws, e5, True.intro, fun od => ?_⟩
    have ex : Ext H (upd H a (.frz od (.dK ws))) := .dct e5
    have krl := kr.ext ex
    have at_ : ∀ H', Ext (upd H a (.frz od (.dK ws))) H' → H' a = some (.frz od (.dK ws)) := fun H' e => e.frz _ _ _ upd_same
    refine ⟨τ, _, lockE Dd a kvs, hσ.ext ex, hA.lock e5 kr, q, ⟨fun τ' G' σ' H' e s' a' h' => ?_, fun d G' v H' e r a' h' => ?_, fun τ' G' σ' H' e s' a' h' => ?_, fun τ' G' σ' H' e s' a' h' => ?_, fun σ' c d G' cls dd H' _ _ _ z => z.elim⟩⟩
    all_goals have x1 := at_ _ e
    · exact ⟨x1, hE.nx _ _ _ _ (.relock e5 e) (s'.extU (.unlock x1)) (a'.unlock x1 (krl.ext e)) h'⟩
    · exact ⟨x1, hE.rt _ _ _ _ (.relock e5 e) (r.extU (.unlock x1)) (a'.unlock x1 (krl.ext e)) h'⟩
    · exact ⟨x1, hE.bk _ _ _ _ (.relock e5 e) (s'.extU (.unlock x1)) (a'.unlock x1 (krl.ext e)) h'⟩
    · exact ⟨x1, hE.ct _ _ _ _ (.relock e5 e) (s'.extU (.unlock x1)) (a'.unlock x1 (krl.ext e)) h'⟩
/-- for k in d -/
def sForK (td : TED) (g : TGD) (tb : TSD) : TSD := sLock (sForS (iKeysD td) g tb)
theorem ms_forK {body : List Stmt} {g : TGD} {tb : TSD} {pos : Pos} (hp : PassesOwn (model X.prog X.w) X.A X.env X.xe) (hc : X.calm = true) (he : ME X W e td) (hg : MG X W tg g) (hb : MSs X W body tb) (hs : ∀ x, foldedSetIterable e X.env x = pure x := by intro _; rfl) : MS X W (.For tg e body [] pos) (sForK td g tb) :=
  ms_lock (ms_forS hp hc (mi_keys he) hg hb hs)
end
/-- all that stood before stands behind a loop over a dict -/
theorem sub_lock {G G' : DH} {a : Addr} {kvs : List (Key × D)} (h : G a = some (.dct kvs)) (s : Sub (up G a (.fdc kvs)) G') : Sub G (up G' a (.dct kvs)) := fun b o e => by
  by_cases q : b = a
  · subst q; rw [up_same]; rw [h] at e; exact e
  · rw [up_ne q]; exact s _ _ (by rw [up_ne q]; exact e)
end L3

namespace L3
open PySem PySem.Spec PyProof.Rows L2
section
variable {X : Cx} {W : WX} {pos : Pos}
/-- an empty dict -/
theorem m_disp0 : ME X W (.Dict [] [] pos) (dDisp dpNil) :=
  PE.imp pe_dnewK fun σ H Q ⟨τ, G, Xd, Qd, hσ, hA, h, hQ, hX⟩ => by
    intro p hp
    have e0 : Ext H (upd H p (.dK [])) := .new hp
    have h1 := h p (hA.none hp)
    obtain ⟨l, el, _, h3⟩ := onSome_of h1
    obtain ⟨kvs, ek, h4⟩ := onSome_of h3
    cases ek
    have e : up (up G p (.dct [])) p (.dct (mergeDK [] [])) = up G p (.dct []) := up_up
    rw [e] at h4
    exact hQ _ _ _ _ e0 (.ref p) (hA.newD hp .nil) h4
variable {e : Expr}
theorem pgs_nt {es : List Expr} {i : Nat} {is : List Nat} (h1 : PG X e (gName i)) (h2 : PGs X es (gNs is)) (hs : (assignEach (e :: es) X.env).map (·.2) = assign e X.env :: (assignEach es X.env).map (·.2) := by rfl) : PGs X (e :: es) (gNs (i :: is)) := pgs_cons h1 h2 hs
end
end L3

namespace L3
open PySem PySem.Spec PyProof.Rows L2
/-! ### drawing -/
def sp_l_start : DSp := fun ds G Q _ => ∃ ns : List Int, ds = [.rl (ns.map D.int)] ∧ ns.length ≤ 63 ∧ ∀ s o, G s = none → IsSt o → Q (.ref s) (up G s o)
def sp_l_drawn : DSp := fun ds G Q _ => ∃ (s : Addr) (many : Int), ds = [.ref s, .int many] ∧ (0 < many ∧ many < 2 ^ 63 ∧ HasSt s G) ∧ ∀ (r : Nat) G', (r : Int) < many → StF s G G' → Q (.int (r : Int)) G'
theorem use_drawn {s : Addr} {many : Int} {G : DH} {Q : DQ} {X : DX} (h : 0 < many ∧ many < 2 ^ 63 ∧ HasSt s G) (k : ∀ (r : Nat) G', (r : Int) < many → StF s G G' → Q (.int (r : Int)) G') : Ir sp_l_drawn [.ref s, .int many] G Q X := Ir_i ⟨s, many, rfl, h, k⟩
def sp_l_number : DSp := fun ds G Q _ => ∃ (s : Addr), ds = [.ref s] ∧ HasSt s G ∧ ∀ (r : Nat) G', r ≤ 999 → StF s G G' → Q (.int (r : Int)) G'
theorem use_number {s : Addr} {G : DH} {Q : DQ} {X : DX} (h : HasSt s G) (k : ∀ (r : Nat) G', r ≤ 999 → StF s G G' → Q (.int (r : Int)) G') : Ir sp_l_number [.ref s] G Q X := Ir_i ⟨s, rfl, h, k⟩
def t_l_start : TSD := (sSeq (sAsg (dC (.int 1)) (gSlot 1)) (sSeq (sFor (iLstD (dVar 0)) (gSlot 2) (sAsg (dBin rModD (dBin rAddD (dBin rAddD (dBin rMulD (dVar 1) (dC (.int 48271))) (dVar 2)) (dC (.int 7))) (dC (.int 2147483647))) (gSlot 1))) (sRet (dLst (dCons (dVar 0) (dCons (dC (.int 0)) (dCons (dVar 1) (dCons (dC (.int 0)) dNil))))))))
def t_l_drawn : TSD := (sSeq (sIf (dT (dBin rGtD (dBin rIxD (dVar 0) (dC (.int 3))) (dC (.int 0)))) (sSeq (sAsg (dBin rModD (dBin rIxD (dVar 0) (dC (.int 3))) (dVar 1)) (gSlot 2)) (sSeq (sAsg (dBin rFdivD (dBin rIxD (dVar 0) (dC (.int 3))) (dVar 1)) (gSubL (dVar 0) (dC (.int 3)))) (sRet (dVar 2)))) sNx) (sSeq (sAsg (dBin rAddD (dBin rIxD (dVar 0) (dC (.int 1))) (dC (.int 1))) (gSubL (dVar 0) (dC (.int 1)))) (sSeq (sIf (dT (dBin rLeD (dBin rIxD (dVar 0) (dC (.int 1))) (dB rLen (dCons (dBin rIxD (dVar 0) (dC (.int 0))) dNil)))) (sSeq (sAsg (dBin rIxD (dBin rIxD (dVar 0) (dC (.int 0))) (dBin rSubD (dBin rIxD (dVar 0) (dC (.int 1))) (dC (.int 1)))) (gSlot 3)) (sSeq (sAsg (dIfE (dT (dBin rGeD (dVar 3) (dBin rPowD (dC (.int 10)) (dC (.int 18))))) (dBin rFdivD (dVar 3) (dVar 1)) (dC (.int 0))) (gSubL (dVar 0) (dC (.int 3)))) (sRet (dBin rModD (dVar 3) (dVar 1))))) sNx) (sSeq (sAsg (dBin rModD (dBin rAddD (dBin rMulD (dBin rIxD (dVar 0) (dC (.int 2))) (dC (.int 48271))) (dC (.int 11))) (dC (.int 2147483647))) (gSubL (dVar 0) (dC (.int 2)))) (sRet (dBin rModD (dBin rFdivD (dBin rIxD (dVar 0) (dC (.int 2))) (dC (.int 7))) (dVar 1)))))))
def t_l_number : TSD := (sRet (dCall sp_l_drawn (dCons (dVar 0) (dCons (dBin rIxD (dLst (dCons (dC (.int 4)) (dCons (dC (.int 41)) (dCons (dC (.int 41)) (dCons (dC (.int 1000)) dNil))))) (dCall sp_l_drawn (dCons (dVar 0) (dCons (dC (.int 4)) dNil)))) dNil))))
local macro_rules | `(tactic| exists "ne") => `(tactic| (first | with_reducible assumption | (with_reducible refine Ne.symm ?_; with_reducible assumption) | ((with_reducible apply ne_new); (focus with_reducible assumption); exists "at") | ((with_reducible apply ne_new'); (focus with_reducible assumption); exists "at") | (with_reducible refine HasSt.ne (by with_reducible assumption) ?_; exists "hs") | (with_reducible refine Ne.symm (HasSt.ne (by with_reducible assumption) ?_); exists "hs")))
local macro_rules | `(tactic| exists "nin") => `(tactic| ((repeat (first | with_reducible exact nin_nil | (with_reducible apply nin_cons; focus exists "ne") | with_reducible assumption)); done))
local macro_rules | `(tactic| exists "at") => `(tactic| ((repeat (first | with_reducible exact up_same | with_reducible assumption | (with_reducible apply up_at; focus exists "ne") | (with_reducible apply Sub.at; focus with_reducible assumption) | ((with_reducible apply StF.at); (focus with_reducible assumption); (focus exists "ne")) | ((with_reducible apply Fr.at); (focus with_reducible assumption); (focus exists "nin")))); done))
local macro_rules | `(tactic| exists "atd") => `(tactic| ((repeat (first | ((with_reducible apply up_at); (focus exists "ne")) | ((with_reducible apply Sub.at); (focus with_reducible assumption)) | ((with_reducible apply StF.at); (focus with_reducible assumption); (focus exists "ne")) | ((with_reducible apply Fr.at); (focus with_reducible assumption); (focus exists "nin")))); (first | exact up_same | assumption)))
local macro_rules | `(tactic| exists "hs") => `(tactic| ((repeat (first | with_reducible assumption | with_reducible exact StF.has (by with_reducible assumption) | (with_reducible apply HasSt.upn; focus exists "ne") | (with_reducible apply HasSt.sub; focus with_reducible assumption) | ((with_reducible apply HasSt.frm); (focus with_reducible assumption); (focus exists "nin")))); done))
local macro_rules | `(tactic| exists "hp") => `(tactic| (first | ((with_reducible first | apply hp_seqOf | apply hp_lst | apply hp_ins | apply hp_dct | apply hp_dctR | apply hp_lstOf | apply hp_mutOf | apply hp_len | apply hp_recv | apply hp_lenD | apply hp_tyL | apply hp_tyD); exists "at") | ((with_reducible apply hp_fdcR); exists "at")))
local macro_rules | `(tactic| exists "fl") => `(tactic| ((with_reducible apply hp_fld); (focus exists "at"); (first | rfl | with_reducible assumption)))
local macro_rules | `(tactic| exists "sd") => `(tactic| (first | exact True.intro | exact rfl | with_reducible assumption | omega | decide | exists "hs" | exists "ne" | (simp only [CDivD, small64, inR, List.length_cons, List.length_nil, List.length_append, List.length_map, List.length_replicate, List.length_set, List.length_drop, rangeD_length]; first | done | omega | decide) | exists "hp" | exists "at" | ((with_reducible apply isDc_i); exists "at") | ((with_reducible apply isDc_f); exists "at") | ((with_reducible apply isL_i); exists "at") | exact And.intro rfl (Nat.le_of_ble_eq_true rfl) | exact Nat.le_of_ble_eq_true rfl))
local macro_rules | `(tactic| exists "sds") => `(tactic| ((repeat' (first | exists "sd" | apply And.intro)); done))
local macro_rules | `(tactic| exists "new") => `(tactic| ((refine (fun (pX : Addr) => ?_)); (repeat ((with_reducible refine up_none_i ?_); intro _)); (refine (fun (hX : _ = none) => ?_))))
local macro_rules | `(tactic| exists "sub") => `(tactic| (repeat (first | with_reducible assumption | with_reducible exact Sub.refl _ | (with_reducible refine Sub.put ?_ (by first | with_reducible assumption | (with_reducible refine Sub.none (by with_reducible assumption) (by with_reducible assumption)))))))
local macro_rules | `(tactic| exists "none0") => `(tactic| (first | with_reducible assumption | ((with_reducible apply Sub.none); (focus with_reducible assumption); exists "none") | ((with_reducible apply StF.none); (focus with_reducible assumption); exists "none") | ((with_reducible apply Fr.none); (focus with_reducible assumption); (focus exists "nin"); exists "none")))
local macro_rules | `(tactic| exists "none1") => `(tactic| (first | with_reducible assumption | ((with_reducible apply Sub.none); (focus with_reducible assumption); exists "none") | ((with_reducible apply StF.none); (focus with_reducible assumption); exists "none") | ((with_reducible apply Fr.none); (focus with_reducible assumption); (focus exists "nin"); exists "none") | ((with_reducible apply up_none_l); exists "none0")))
local macro_rules | `(tactic| exists "none2") => `(tactic| (first | with_reducible assumption | ((with_reducible apply Sub.none); (focus with_reducible assumption); exists "none") | ((with_reducible apply StF.none); (focus with_reducible assumption); exists "none") | ((with_reducible apply Fr.none); (focus with_reducible assumption); (focus exists "nin"); exists "none") | ((with_reducible apply up_none_l); exists "none1")))
local macro_rules | `(tactic| exists "none3") => `(tactic| (first | with_reducible assumption | ((with_reducible apply Sub.none); (focus with_reducible assumption); exists "none") | ((with_reducible apply StF.none); (focus with_reducible assumption); exists "none") | ((with_reducible apply Fr.none); (focus with_reducible assumption); (focus exists "nin"); exists "none") | ((with_reducible apply up_none_l); exists "none2")))
local macro_rules | `(tactic| exists "none4") => `(tactic| (first | with_reducible assumption | ((with_reducible apply Sub.none); (focus with_reducible assumption); exists "none") | ((with_reducible apply StF.none); (focus with_reducible assumption); exists "none") | ((with_reducible apply Fr.none); (focus with_reducible assumption); (focus exists "nin"); exists "none") | ((with_reducible apply up_none_l); exists "none3")))
local macro_rules | `(tactic| exists "none5") => `(tactic| (first | with_reducible assumption | ((with_reducible apply Sub.none); (focus with_reducible assumption); exists "none") | ((with_reducible apply StF.none); (focus with_reducible assumption); exists "none") | ((with_reducible apply Fr.none); (focus with_reducible assumption); (focus exists "nin"); exists "none") | ((with_reducible apply up_none_l); exists "none4")))
local macro_rules | `(tactic| exists "none6") => `(tactic| (first | with_reducible assumption | ((with_reducible apply Sub.none); (focus with_reducible assumption); exists "none") | ((with_reducible apply StF.none); (focus with_reducible assumption); exists "none") | ((with_reducible apply Fr.none); (focus with_reducible assumption); (focus exists "nin"); exists "none") | ((with_reducible apply up_none_l); exists "none5")))
local macro_rules | `(tactic| exists "none7") => `(tactic| (first | with_reducible assumption | ((with_reducible apply Sub.none); (focus with_reducible assumption); exists "none") | ((with_reducible apply StF.none); (focus with_reducible assumption); exists "none") | ((with_reducible apply Fr.none); (focus with_reducible assumption); (focus exists "nin"); exists "none") | ((with_reducible apply up_none_l); exists "none6")))
local macro_rules | `(tactic| exists "none") => `(tactic| (first | with_reducible assumption | ((with_reducible apply Sub.none); (focus with_reducible assumption); exists "none") | ((with_reducible apply StF.none); (focus with_reducible assumption); exists "none") | ((with_reducible apply Fr.none); (focus with_reducible assumption); (focus exists "nin"); exists "none") | ((with_reducible apply up_none_l); exists "none7")))
local macro_rules | `(tactic| exists "nn") => `(tactic| ((repeat (first | with_reducible assumption | ((with_reducible apply up_none_c); (focus exists "ne")) | exists "none")); done))
local macro_rules | `(tactic| exists "mem") => `(tactic| ((repeat (first | with_reducible exact List.mem_cons_self | with_reducible apply List.mem_cons_of_mem)); done))
local macro_rules | `(tactic| exists "fr") => `(tactic| ((repeat (first | exact Fr.refl _ _ | with_reducible assumption | ((with_reducible apply Fr.put); rotate_left; (focus exists "mem")) | ((with_reducible apply Fr.new); rotate_left; (focus (first | with_reducible assumption | exists "none"))) | ((with_reducible apply Fr.sub); rotate_left; (focus with_reducible assumption)) | ((with_reducible apply Fr.trans); rotate_left; (focus with_reducible assumption)))); done))
local macro_rules | `(tactic| exists "stf") => `(tactic| ((repeat (first | with_reducible assumption | (with_reducible refine StF.new (by exists "ne") (by exists "none") ?_) | (with_reducible refine StF.trans ?_ (by with_reducible assumption)) | (with_reducible refine StF.sub ?_ (by with_reducible assumption)) | (with_reducible refine StF.refl ?_; exists "hs"))); done))
local macro_rules | `(tactic| exists "gr") => `(tactic| (first | with_reducible assumption | exact gr_put (by omega) (by omega) (by omega) (by omega) | exact gr_add (by omega) (by omega) (by omega) (by omega) (by omega) (by omega) | exact gr_less (by omega) (by omega) (by omega) (by omega) (by omega) (by omega) | exact gr_load (by omega) (by omega) (by omega) (by omega) | exact gr_store (by omega) (by omega) (by omega) (by omega) | exact gr_zero (by omega) (by omega) (by omega) (by omega) | exact gr_go (by omega) (by omega) | exact gr_call (by omega) (by omega) | exact gr_say (by omega) (by omega) | exact gr_hear (by omega) (by omega) | exact gr_which (by omega) (by omega) | exact gr_room (by omega) (by omega) | exact gr_enter (by omega) (by omega) | exact gr_alarm (by omega) (by omega) | exact gr_stop))
local macro_rules | `(tactic| exists "gt") => `(tactic| (first | with_reducible assumption | exact gt_num (by omega) (by omega) | (refine GoodTh.row ?_; exists "gr")))
local macro_rules | `(tactic| exists "gts") => `(tactic| (repeat' (first | exists "gt" | exact allM_nil | refine allM_cons ?_ ?_ | refine allM_app ?_ ?_ | refine allM_set ?_ ?_ | assumption)))
local macro_rules | `(tactic| exists "go") => `(tactic| ((try (conv => whnf)); repeat' ((first | refine onSome_i rfl ?_ | ((with_reducible apply onSome_i); focus exists "hp") | ((with_reducible apply onSome_i); focus exists "fl") | with_reducible refine onSome_i atI0 ?_ | with_reducible refine onSome_i atI1 ?_ | with_reducible refine onSome_i atI2 ?_ | with_reducible refine onSome_i atI3 ?_ | refine ifB_t rfl ?_ | refine ifB_f rfl ?_ | refine ifB_not ?_ | refine ifB_if ?_ | refine ifB_if1 ?_ | refine rEq_iq ?_ | refine rEq_sq ?_ | refine rEq_bq ?_ | refine rNe_iq ?_ | refine rNe_sq ?_ | refine rNe_bq ?_ | (apply rEq_tt; (focus exact rfl); (focus exact rfl)) | (apply rNe_tt; (focus exact rfl); (focus exact rfl)) | (apply rEq_ti; focus exact rfl) | (apply rNe_ti; focus exact rfl) | ((with_reducible apply onSome_i); focus ((first | apply hp_len | apply hp_lstOf | apply hp_mutOf | apply hp_seqOf | apply hp_recv | apply hp_lst | apply hp_ins | apply hp_dct | apply hp_dctR); exists "at")) | ((with_reducible apply onSome_i); focus ((apply hp_fdcR); exists "at")) | ((with_reducible apply And.intro); focus exists "sd") | fail) <;> (try (conv => whnf)))))
local macro_rules | `(tactic| exists "run") => `(tactic| ((try (conv => whnf)); repeat' ((first | refine onSome_i rfl ?_ | ((with_reducible apply onSome_i); focus exists "hp") | ((with_reducible apply onSome_i); focus exists "fl") | with_reducible refine onSome_i atI0 ?_ | with_reducible refine onSome_i atI1 ?_ | with_reducible refine onSome_i atI2 ?_ | with_reducible refine onSome_i atI3 ?_ | refine ifB_t rfl ?_ | refine ifB_f rfl ?_ | refine ifB_not ?_ | refine ifB_if ?_ | refine ifB_if1 ?_ | refine rEq_iq ?_ | refine rEq_sq ?_ | refine rEq_bq ?_ | refine rNe_iq ?_ | refine rNe_sq ?_ | refine rNe_bq ?_ | (apply rEq_tt; (focus exact rfl); (focus exact rfl)) | (apply rNe_tt; (focus exact rfl); (focus exact rfl)) | (apply rEq_ti; focus exact rfl) | (apply rNe_ti; focus exact rfl) | ((with_reducible apply onSome_i); focus ((first | apply hp_len | apply hp_lstOf | apply hp_mutOf | apply hp_seqOf | apply hp_recv | apply hp_lst | apply hp_ins | apply hp_dct | apply hp_dctR); exists "at")) | ((with_reducible apply onSome_i); focus ((apply hp_fdcR); exists "at")) | ((with_reducible apply And.intro); focus exists "sd") | refine ref_i ?_ | refine eq_i ?_ | exists "new" | ((with_reducible apply use_drawn); (focus exists "sds"); intros) | ((with_reducible apply use_number); (focus exists "sds"); intros) | fail) <;> (try (conv => whnf)))))
local macro_rules | `(tactic| exists "all") => `(tactic| ((try (conv => whnf)); repeat' ((first | refine onSome_i rfl ?_ | ((with_reducible apply onSome_i); focus exists "hp") | ((with_reducible apply onSome_i); focus exists "fl") | with_reducible refine onSome_i atI0 ?_ | with_reducible refine onSome_i atI1 ?_ | with_reducible refine onSome_i atI2 ?_ | with_reducible refine onSome_i atI3 ?_ | refine ifB_t rfl ?_ | refine ifB_f rfl ?_ | refine ifB_not ?_ | refine ifB_if ?_ | refine ifB_if1 ?_ | refine rEq_iq ?_ | refine rEq_sq ?_ | refine rEq_bq ?_ | refine rNe_iq ?_ | refine rNe_sq ?_ | refine rNe_bq ?_ | (apply rEq_tt; (focus exact rfl); (focus exact rfl)) | (apply rNe_tt; (focus exact rfl); (focus exact rfl)) | (apply rEq_ti; focus exact rfl) | (apply rNe_ti; focus exact rfl) | ((with_reducible apply onSome_i); focus ((first | apply hp_len | apply hp_lstOf | apply hp_mutOf | apply hp_seqOf | apply hp_recv | apply hp_lst | apply hp_ins | apply hp_dct | apply hp_dctR); exists "at")) | ((with_reducible apply onSome_i); focus ((apply hp_fdcR); exists "at")) | ((with_reducible apply And.intro); focus exists "sd") | refine ref_i ?_ | refine eq_i ?_ | exists "new" | ((with_reducible apply use_drawn); (focus exists "sds"); intros) | ((with_reducible apply use_number); (focus exists "sds"); intros) | exact All.nil | refine All.cons ?_ ?_ | (refine ix_all ?_ ?_; focus exists "sd") | refine ifB_d (fun _ => ?_) fun _ => ?_ | refine ifB_nd (fun _ => ?_) fun _ => ?_ | fail) <;> (try (conv => whnf)))))

theorem walk_l_start : ∀ ds G Q X, sp_l_start ds G Q X → t_l_start (ends Q X) (startD 3 ds) G := by
  intro ds G Q X hsp
  obtain ⟨ns, rfl, hl, hQ⟩ := hsp
  exists "go"
  refine forRun_ind (fun r τ G' => G' = G ∧ (∀ d ∈ r, ∃ i, d = .int i) ∧ ∃ (m : Int) (z : Option D), (0 ≤ m ∧ m < 2147483647) ∧ τ = [some (.rl (ns.map D.int)), some (.int m), z]) ?_ ?_ _ _ _ ⟨rfl, fun d hd => ?_, 1, none, by decide, rfl⟩
  · rintro τ G' ⟨rfl, -, m, z, hm, rfl⟩
    refine ⟨rfl, ?_⟩
    exists "go"
    intro p hp
    exact hQ p _ hp (isSt_set hl (by decide) hm.1 hm.2 (by decide))
  · rintro d r ih τ G' ⟨rfl, hd, m, z, hm, rfl⟩
    obtain ⟨i, rfl⟩ := hd d List.mem_cons_self
    refine ⟨rfl, ?_⟩
    exists "go"
    refine ih _ _ ⟨rfl, fun d h => hd d (List.mem_cons_of_mem _ h), (m * 48271 + i + 7) % 2147483647, some (.int i), ⟨Int.emod_nonneg _ (by decide), Int.emod_lt_of_pos _ (by decide)⟩, rfl⟩
  · obtain ⟨i, _, rfl⟩ := List.mem_map.mp hd
    exact ⟨i, rfl⟩
theorem int_nat {many x : Int} {P : Int → Prop} (h0 : 0 < many) (k : ∀ r : Nat, (r : Int) < many → P r) : P (x % many) := by
  have h1 := Int.emod_nonneg x (b := many) (by omega)
  have h2 := Int.emod_lt_of_pos x h0
  have e : ((x % many).toNat : Int) = x % many := by omega
  rw [← e]
  exact k _ (by omega)
theorem walk_l_drawn : ∀ ds G Q X, sp_l_drawn ds G Q X → t_l_drawn (ends Q X) (startD 4 ds) G := by
  intro ds G Q X hsp
  obtain ⟨s, many, rfl, ⟨h0, h63, o, hs, ⟨ns, i, m, c, hn, hi, hm0, hm1, hc, rfl⟩⟩, hQ⟩ := hsp
  have hs0 : StF s G G := .refl ⟨_, hs, isSt_set hn hi hm0 hm1 hc⟩
  have fin : ∀ (x : Int) (G' : DH), StF s G G' → Q (.int (x % many)) G' := fun x G' f => int_nat (P := fun y => Q (.int y) G') h0 fun r hr => hQ r _ hr f
  exists "go"
  refine ifB_d (fun h => ?_) fun h => ?_
  · exists "go"
    exact fin _ _ (hs0.put (isSt_set hn hi hm0 hm1 (Int.ediv_nonneg hc (by omega))))
  · exists "go"
    refine ifB_d (fun h2 => ?_) fun h2 => ?_
    · have hj : ∃ j : Nat, i = (j : Int) := ⟨i.toNat, by omega⟩
      obtain ⟨j, rfl⟩ := hj
      have hj2 : j < ns.length := by rw [List.length_map] at h2; omega
      have hat : atI (ns.map D.int) ((j : Int) + 1 - 1) = some (.int ns[j]) := by
        rw [show (j : Int) + 1 - 1 = (j : Int) by omega]
        exact atI_nat (by simp [hj2])
      exists "go"
      refine onSome_i hat ?_
      exists "go"
      refine ifB_d (fun h3 => ?_) fun h3 => ?_
      · exists "go"
        refine fin _ _ ((hs0.put ?_).put (isSt_set hn (by omega) hm0 hm1 (Int.ediv_nonneg ?_ (by omega))))
        · exact isSt_set hn (by omega) hm0 hm1 hc
        · exact Int.le_trans (by decide) h3
      · exists "go"
        refine fin _ _ ((hs0.put ?_).put (isSt_set hn (by omega) hm0 hm1 (by omega)))
        exact isSt_set hn (by omega) hm0 hm1 hc
    · exists "go"
      refine fin _ _ ((hs0.put ?_).put (isSt_set hn (by omega) (Int.emod_nonneg _ (by decide)) (Int.emod_lt_of_pos _ (by decide)) hc))
      exact isSt_set hn (by omega) hm0 hm1 hc
theorem walk_l_number : ∀ ds G Q X, sp_l_number ds G Q X → t_l_number (ends Q X) (startD 1 ds) G := by
  intro ds G Q X hsp
  obtain ⟨s, rfl, hs, hQ⟩ := hsp
  exists "all"
  all_goals exact hQ _ _ (by omega) (by exists "stf")
def sp_l_row : DSp := fun ds G Q _ => ∃ (s : Addr) (low : Int), ds = [.ref s, .int low] ∧ (0 ≤ low ∧ low ≤ 900 ∧ HasSt s G) ∧ ∀ r G', GoodRow r → StF s G G' → Q r G'
theorem use_row {s : Addr} {low : Int} {G : DH} {Q : DQ} {X : DX} (h : 0 ≤ low ∧ low ≤ 900 ∧ HasSt s G) (k : ∀ r G', GoodRow r → StF s G G' → Q r G') : Ir sp_l_row [.ref s, .int low] G Q X := Ir_i ⟨s, low, rfl, h, k⟩
def t_l_row : TSD := (sSeq (sAsg (dLst (dCons (dC (.str ("put" : Str))) (dCons (dC (.str ("put" : Str))) (dCons (dC (.str ("add" : Str))) (dCons (dC (.str ("less" : Str))) (dCons (dC (.str ("load" : Str))) (dCons (dC (.str ("store" : Str))) (dCons (dC (.str ("zero" : Str))) (dCons (dC (.str ("go" : Str))) (dCons (dC (.str ("call" : Str))) (dCons (dC (.str ("say" : Str))) (dCons (dC (.str ("hear" : Str))) (dCons (dC (.str ("which" : Str))) (dCons (dC (.str ("room" : Str))) dNil)))))))))))))) (gSlot 2)) (sSeq (sAsg (dBin rAddD (dVar 2) (dLst (dCons (dC (.str ("enter" : Str))) (dCons (dC (.str ("alarm" : Str))) (dCons (dC (.str ("stop" : Str))) dNil))))) (gSlot 2)) (sSeq (sAsg (dBin rIxD (dVar 2) (dCall sp_l_drawn (dCons (dVar 0) (dCons (dC (.int 16)) dNil)))) (gSlot 3)) (sSeq (sAsg (dComp (iRngD1 (dC (.int 3))) (.one 8) dYes (dCall sp_l_drawn (dCons (dVar 0) (dCons (dC (.int 4)) dNil))) [8]) (gLstD 3 (gsCons (gSlot 5) (gsCons (gSlot 6) (gsCons (gSlot 7) gsNil))))) (sSeq (sAsg (dBin rIxD (dLst (dCons (dBin rAddD (dVar 1) (dCall sp_l_drawn (dCons (dVar 0) (dCons (dC (.int 8)) dNil)))) (dCons (dCall sp_l_number (dCons (dVar 0) dNil)) dNil))) (dBin rFdivD (dCall sp_l_drawn (dCons (dVar 0) (dCons (dC (.int 4)) dNil))) (dC (.int 3)))) (gSlot 4)) (sSeq (sIf (dT (dBin rInD2 (dVar 3) (dTup (dCons (dC (.str ("put" : Str))) (dCons (dC (.str ("zero" : Str))) (dCons (dC (.str ("go" : Str))) (dCons (dC (.str ("call" : Str))) dNil))))))) (sRet (dDget2 (dDisp (dpCons (dC (.str ("put" : Str))) (dTup (dCons (dC (.str ("put" : Str))) (dCons (dVar 5) (dCons (dCall sp_l_number (dCons (dVar 0) dNil)) dNil)))) (dpCons (dC (.str ("zero" : Str))) (dTup (dCons (dC (.str ("zero" : Str))) (dCons (dVar 5) (dCons (dVar 4) dNil)))) dpNil))) (dVar 3) (dTup (dCons (dVar 3) (dCons (dVar 4) dNil))))) sNx) (sSeq (sIf (dT (dBin rInD2 (dVar 3) (dTup (dCons (dC (.str ("add" : Str))) (dCons (dC (.str ("less" : Str))) dNil))))) (sRet (dTup (dCons (dVar 3) (dCons (dVar 5) (dCons (dVar 6) (dCons (dVar 7) dNil)))))) sNx) (sSeq (sIf (dT (dBin rInD2 (dVar 3) (dTup (dCons (dC (.str ("load" : Str))) (dCons (dC (.str ("store" : Str))) dNil))))) (sRet (dTup (dCons (dVar 3) (dCons (dVar 5) (dCons (dVar 6) dNil))))) sNx) (sRet (dIfE (dT (dBin rEqD (dVar 3) (dC (.str ("stop" : Str))))) (dTup (dCons (dC (.str ("stop" : Str))) dNil)) (dTup (dCons (dVar 3) (dCons (dIfE (dT (dBin rEqD (dVar 3) (dC (.str ("enter" : Str))))) (dBin rModD (dVar 5) (dC (.int 2))) (dVar 5)) dNil)))))))))))))
theorem walk_l_row : ∀ ds G Q X, sp_l_row ds G Q X → t_l_row (ends Q X) (startD 9 ds) G := by
  intro ds G Q X hsp
  obtain ⟨s, low, rfl, ⟨hlow0, hlow, hs⟩, hQ⟩ := hsp
  exists "run"
  refine ix_mem (by exists "sd") fun w hw _ => ?_
  exists "run"
  rename_i r2 G2 h2 f2
  refine ix_P isNatD (by exists "sd") (allM_cons (natD (by omega) (by omega)) (allM_cons (natD (by omega) (by omega)) allM_nil)) fun d ⟨n, hn, ed⟩ => ?_
  · subst ed
    replace hw : w ∈ [D.str ("put" : Str), .str ("put" : Str), .str ("add" : Str), .str ("less" : Str), .str ("load" : Str), .str ("store" : Str), .str ("zero" : Str), .str ("go" : Str), .str ("call" : Str), .str ("say" : Str), .str ("hear" : Str), .str ("which" : Str), .str ("room" : Str), .str ("enter" : Str), .str ("alarm" : Str), .str ("stop" : Str)] := hw
    simp only [List.mem_cons, List.not_mem_nil, or_false] at hw
    have f1 : StF s G G2 := by exists "stf"
    rcases hw with rfl | rfl | rfl | rfl | rfl | rfl | rfl | rfl | rfl | rfl | rfl | rfl | rfl | rfl | rfl | rfl <;> exists "run"
    all_goals refine hQ _ _ ?_ (by exists "stf")
    all_goals exists "gr"
def sp_l_any : DSp := fun ds G Q _ => ∃ (s : Addr), ds = [.ref s] ∧ HasSt s G ∧ ∀ p xs G', StF s G G' → G p = none → G' p = some (.lst xs) → Cells xs → Q (.ref p) G'
theorem use_any {s : Addr} {G : DH} {Q : DQ} {X : DX} (h : HasSt s G) (k : ∀ p xs G', StF s G G' → G p = none → G' p = some (.lst xs) → Cells xs → Q (.ref p) G') : Ir sp_l_any [.ref s] G Q X := Ir_i ⟨s, rfl, h, k⟩
def sp_l_ruler : DSp := sp_l_any
theorem use_ruler {s : Addr} {G : DH} {Q : DQ} {X : DX} (h : HasSt s G) (k : ∀ p xs G', StF s G G' → G p = none → G' p = some (.lst xs) → Cells xs → Q (.ref p) G') : Ir sp_l_ruler [.ref s] G Q X := Ir_i ⟨s, rfl, h, k⟩
def sp_l_cells : DSp := sp_l_any
theorem use_cells {s : Addr} {G : DH} {Q : DQ} {X : DX} (h : HasSt s G) (k : ∀ p xs G', StF s G G' → G p = none → G' p = some (.lst xs) → Cells xs → Q (.ref p) G') : Ir sp_l_cells [.ref s] G Q X := Ir_i ⟨s, rfl, h, k⟩
def t_l_any : TSD := (sSeq (sAsg (dBin rAddD (dC (.int 16)) (dCall sp_l_drawn (dCons (dVar 0) (dCons (dC (.int 25)) dNil)))) (gSlot 1)) (sSeq (sAsg (dBin rAddD (dC (.int 2)) (dCall sp_l_drawn (dCons (dVar 0) (dCons (dC (.int 5)) dNil)))) (gSlot 2)) (sRet (dComp (iRngD1 (dVar 1)) (.one 3) dYes (dIfE (dT (dBin rEqD (dCall sp_l_drawn (dCons (dVar 0) (dCons (dVar 2) dNil))) (dC (.int 0)))) (dCall sp_l_number (dCons (dVar 0) dNil)) (dCall sp_l_row (dCons (dVar 0) (dCons (dC (.int 0)) dNil)))) [3]))))
def t_l_ruler : TSD := (sSeq (sAsg (dBin rAddD (dC (.int 30)) (dCall sp_l_drawn (dCons (dVar 0) (dCons (dC (.int 11)) dNil)))) (gSlot 1)) (sSeq (sAsg (dBin rAddD (dLst (dCons (dTup (dCons (dC (.str ("go" : Str))) (dCons (dC (.int 10)) dNil))) dNil)) (dComp (iRngD1 (dC (.int 9))) (.one 9) dYes (dCall sp_l_number (dCons (dVar 0) dNil)) [9])) (gSlot 2)) (sSeq (sAsg (dC (.int 17)) (gSubL (dVar 2) (dC (.int 5)))) (sSeq (sAsg (dCall sp_l_drawn (dCons (dVar 0) (dCons (dC (.int 5)) dNil))) (gSlot 3)) (sSeq (sAsg (dBin rIxD (dLst (dCons (dBin rSubD (dVar 1) (dVar 3)) (dCons (dBin rAddD (dC (.int 8)) (dCall sp_l_drawn (dCons (dVar 0) (dCons (dC (.int 16)) dNil)))) (dCons (dVar 1) dNil)))) (dCall sp_l_drawn (dCons (dVar 0) (dCons (dC (.int 3)) dNil)))) (gSlot 4)) (sSeq (sAsg (dBin rIxD (dLst (dCons (dBin rSubD (dC (.int 24)) (dVar 3)) (dCons (dBin rAddD (dBin rSubD (dC (.int 24)) (dVar 3)) (dCall sp_l_drawn (dCons (dVar 0) (dCons (dC (.int 6)) dNil)))) (dCons (dCall sp_l_drawn (dCons (dVar 0) (dCons (dC (.int 30)) dNil))) dNil)))) (dCall sp_l_drawn (dCons (dVar 0) (dCons (dC (.int 3)) dNil)))) (gSlot 5)) (sSeq (sAsg (dLst (dCons (dTup (dCons (dC (.str ("put" : Str))) (dCons (dC (.int 3)) (dCons (dCall sp_l_drawn (dCons (dVar 0) (dCons (dC (.int 9)) dNil))) dNil)))) (dCons (dTup (dCons (dC (.str ("alarm" : Str))) (dCons (dC (.int 3)) dNil))) (dCons (dTup (dCons (dC (.str ("put" : Str))) (dCons (dC (.int 0)) (dCons (dVar 3) dNil)))) (dCons (dTup (dCons (dC (.str ("put" : Str))) (dCons (dC (.int 1)) (dCons (dVar 4) dNil)))) (dCons (dTup (dCons (dC (.str ("put" : Str))) (dCons (dC (.int 2)) (dCons (dVar 5) dNil)))) dNil)))))) (gSlot 6)) (sSeq (sAsg (dBin rAddD (dBin rAddD (dVar 2) (dVar 6)) (dLst (dCons (dTup (dCons (dC (.str ("enter" : Str))) (dCons (dC (.int 0)) dNil))) (dCons (dTup (dCons (dC (.str ("stop" : Str))) dNil)) dNil)))) (gSlot 2)) (sSeq (sAsg (dLst (dCons (dTup (dCons (dC (.str ("put" : Str))) (dCons (dC (.int 3)) (dCons (dC (.int 3)) dNil)))) (dCons (dTup (dCons (dC (.str ("load" : Str))) (dCons (dC (.int 3)) (dCons (dC (.int 3)) dNil)))) (dCons (dTup (dCons (dC (.str ("say" : Str))) (dCons (dC (.int 3)) dNil))) (dCons (dTup (dCons (dC (.str ("put" : Str))) (dCons (dC (.int 3)) (dCons (dCall sp_l_drawn (dCons (dVar 0) (dCons (dC (.int 7)) dNil))) dNil)))) (dCons (dTup (dCons (dC (.str ("alarm" : Str))) (dCons (dC (.int 3)) dNil))) (dCons (dTup (dCons (dC (.str ("hear" : Str))) (dCons (dC (.int 1)) dNil))) dNil))))))) (gSlot 7)) (sSeq (sAsg (dLst (dCons (dTup (dCons (dC (.str ("enter" : Str))) (dCons (dC (.int 0)) dNil))) (dCons (dTup (dCons (dC (.str ("go" : Str))) (dCons (dC (.int 10)) dNil))) (dCons (dTup (dCons (dC (.str ("enter" : Str))) (dCons (dC (.int 1)) dNil))) (dCons (dTup (dCons (dC (.str ("go" : Str))) (dCons (dC (.int 12)) dNil))) (dCons (dTup (dCons (dC (.str ("stop" : Str))) dNil)) dNil)))))) (gSlot 8)) (sSeq (sAsg (dBin rAddD (dBin rAddD (dVar 2) (dComp (iRngD1 (dC (.int 6))) (.one 10) dYes (dBin rIxD (dVar 7) (dCall sp_l_drawn (dCons (dVar 0) (dCons (dC (.int 6)) dNil)))) [10])) (dLst (dCons (dBin rIxD (dVar 8) (dCall sp_l_drawn (dCons (dVar 0) (dCons (dC (.int 5)) dNil)))) dNil))) (gSlot 2)) (sRet (dBin rAddD (dVar 2) (dComp (iRngD1 (dBin rSubD (dVar 1) (dC (.int 24)))) (.one 9) dYes (dCall sp_l_row (dCons (dVar 0) (dCons (dC (.int 20)) dNil))) [9]))))))))))))))
def t_l_cells : TSD := (sRet (dCallE [("_law_any", sp_l_any), ("_law_ruler", sp_l_ruler)] (dBin rIxD (dLst (dCons (dC (.gl "_law_ruler")) (dCons (dC (.gl "_law_ruler")) (dCons (dC (.gl "_law_any")) dNil)))) (dCall sp_l_drawn (dCons (dVar 0) (dCons (dC (.int 3)) dNil)))) (dCons (dVar 0) dNil)))
def t_l_kind : TSD := (sSeq (sAsg (dCall sp_l_drawn (dCons (dVar 0) (dCons (dC (.int 3)) dNil))) (gSlot 1)) (sSeq (sIf (dT (dBin rEqD (dVar 1) (dC (.int 0)))) (sRet (dBin rMulD (dTup (dCons (dC (.bl true)) dNil)) (dC (.int 7)))) sNx) (sSeq (sAsg (dCall sp_l_drawn (dCons (dVar 0) (dCons (dC (.int 7)) dNil))) (gSlot 2)) (sRet (dB rTupleD (dCons (dComp (iRngD1 (dC (.int 7))) (.one 3) dYes (dIfE (dT (dBin rEqD (dVar 1) (dC (.int 1)))) (dBin rEqD (dCall sp_l_drawn (dCons (dVar 0) (dCons (dC (.int 2)) dNil))) (dC (.int 0))) (dBin rNeD (dVar 3) (dVar 2))) [3]) dNil))))))
def t_l_ear : TSD := (sRet (dComp (iRngD1 (dCall sp_l_drawn (dCons (dVar 0) (dCons (dBin rIxD (dLst (dCons (dC (.int 4)) (dCons (dC (.int 21)) dNil))) (dCall sp_l_drawn (dCons (dVar 0) (dCons (dC (.int 2)) dNil)))) dNil)))) (.one 1) dYes (dCall sp_l_number (dCons (dVar 0) dNil)) [1]))


local macro_rules | `(tactic| exists "run") => `(tactic| ((try (conv => whnf)); repeat' ((first | refine onSome_i rfl ?_ | ((with_reducible apply onSome_i); focus exists "hp") | ((with_reducible apply onSome_i); focus exists "fl") | with_reducible refine onSome_i atI0 ?_ | with_reducible refine onSome_i atI1 ?_ | with_reducible refine onSome_i atI2 ?_ | with_reducible refine onSome_i atI3 ?_ | refine ifB_t rfl ?_ | refine ifB_f rfl ?_ | refine ifB_not ?_ | refine ifB_if ?_ | refine ifB_if1 ?_ | refine rEq_iq ?_ | refine rEq_sq ?_ | refine rEq_bq ?_ | refine rNe_iq ?_ | refine rNe_sq ?_ | refine rNe_bq ?_ | (apply rEq_tt; (focus exact rfl); (focus exact rfl)) | (apply rNe_tt; (focus exact rfl); (focus exact rfl)) | (apply rEq_ti; focus exact rfl) | (apply rNe_ti; focus exact rfl) | ((with_reducible apply onSome_i); focus ((first | apply hp_len | apply hp_lstOf | apply hp_mutOf | apply hp_seqOf | apply hp_recv | apply hp_lst | apply hp_ins | apply hp_dct | apply hp_dctR); exists "at")) | ((with_reducible apply onSome_i); focus ((apply hp_fdcR); exists "at")) | ((with_reducible apply And.intro); focus exists "sd") | refine ref_i ?_ | refine eq_i ?_ | exists "new" | ((with_reducible apply use_drawn); (focus exists "sds"); intros) | ((with_reducible apply use_number); (focus exists "sds"); intros) | ((with_reducible apply use_row); (focus exists "sds"); intros) | ((with_reducible apply use_any); (focus exists "sds"); intros) | ((with_reducible apply use_ruler); (focus exists "sds"); intros) | ((with_reducible apply use_cells); (focus exists "sds"); intros) | fail) <;> (try (conv => whnf)))))
local macro_rules | `(tactic| exists "all") => `(tactic| ((try (conv => whnf)); repeat' ((first | refine onSome_i rfl ?_ | ((with_reducible apply onSome_i); focus exists "hp") | ((with_reducible apply onSome_i); focus exists "fl") | with_reducible refine onSome_i atI0 ?_ | with_reducible refine onSome_i atI1 ?_ | with_reducible refine onSome_i atI2 ?_ | with_reducible refine onSome_i atI3 ?_ | refine ifB_t rfl ?_ | refine ifB_f rfl ?_ | refine ifB_not ?_ | refine ifB_if ?_ | refine ifB_if1 ?_ | refine rEq_iq ?_ | refine rEq_sq ?_ | refine rEq_bq ?_ | refine rNe_iq ?_ | refine rNe_sq ?_ | refine rNe_bq ?_ | (apply rEq_tt; (focus exact rfl); (focus exact rfl)) | (apply rNe_tt; (focus exact rfl); (focus exact rfl)) | (apply rEq_ti; focus exact rfl) | (apply rNe_ti; focus exact rfl) | ((with_reducible apply onSome_i); focus ((first | apply hp_len | apply hp_lstOf | apply hp_mutOf | apply hp_seqOf | apply hp_recv | apply hp_lst | apply hp_ins | apply hp_dct | apply hp_dctR); exists "at")) | ((with_reducible apply onSome_i); focus ((apply hp_fdcR); exists "at")) | ((with_reducible apply And.intro); focus exists "sd") | refine ref_i ?_ | refine eq_i ?_ | exists "new" | ((with_reducible apply use_drawn); (focus exists "sds"); intros) | ((with_reducible apply use_number); (focus exists "sds"); intros) | ((with_reducible apply use_row); (focus exists "sds"); intros) | ((with_reducible apply use_any); (focus exists "sds"); intros) | ((with_reducible apply use_ruler); (focus exists "sds"); intros) | ((with_reducible apply use_cells); (focus exists "sds"); intros) | exact All.nil | refine All.cons ?_ ?_ | (refine ix_all ?_ ?_; focus exists "sd") | refine ifB_d (fun _ => ?_) fun _ => ?_ | refine ifB_nd (fun _ => ?_) fun _ => ?_ | fail) <;> (try (conv => whnf)))))

theorem walk_l_any : ∀ ds G Q X, sp_l_any ds G Q X → t_l_any (ends Q X) (startD 4 ds) G := by
  intro ds G Q X hsp
  obtain ⟨s, rfl, hs, hQ⟩ := hsp
  exists "run"
  rename_i r1 G1 h1 f1 r2 G2 h2 f2 p hp
  have hs2 : HasSt s G2 := by exists "hs"
  refine dComp_st hp hs2 (fun _ _ => trivial) GoodTh (by rw [rangeD_length]; omega) (fun d hd G' f' => ?_) (fun G' xs f' e hl hx => ?_)
  · obtain ⟨i, _, rfl⟩ := rangeD_mem hd
    exists "go"
    intro k hk
    exists "all"
    · exact hk _ _ (.num _ (by omega)) (by exists "stf")
    · exact hk _ _ (.row ‹_›) (by exists "stf")
  · rw [rangeD_length] at hl
    exists "go"
    exact hQ p xs G' (by exists "stf") (by exists "none") e ⟨by omega, by omega, hx⟩
theorem walk_l_cells : ∀ ds G Q X, sp_l_cells ds G Q X → t_l_cells (ends Q X) (startD 1 ds) G := by
  intro ds G Q X hsp
  obtain ⟨s, rfl, hs, hQ⟩ := hsp
  exists "all"
  all_goals exact hQ _ _ _ (by exists "stf") (by exists "none") ‹_› ‹_›
theorem walk_l_ruler : ∀ ds G Q X, sp_l_ruler ds G Q X → t_l_ruler (ends Q X) (startD 11 ds) G := by
  intro ds G Q X hsp
  obtain ⟨s, rfl, hs, hQ⟩ := hsp
  exists "run"
  refine ix_P isNatD (by exists "sd") (allM_cons (natD (by omega) (by omega)) (allM_cons (natD (by omega) (by omega)) (allM_cons (natD (by omega) (by omega)) allM_nil))) fun d ⟨size, hsize, ed⟩ => ?_
  subst ed
  exists "run"
  refine ix_P isNatD (by exists "sd") (allM_cons (natD (by omega) (by omega)) (allM_cons (natD (by omega) (by omega)) (allM_cons (natD (by omega) (by omega)) allM_nil))) fun d ⟨sta, hsta, ed⟩ => ?_
  subst ed
  exists "run"
  iterate 6
    refine ix_P GoodTh ?_ ?_ fun d gd => ?_
    · exists "sd"
    · exists "gts"
    exists "run"
  refine ix_P GoodTh ?_ ?_ fun d gd => ?_
  · exists "sd"
  · exists "gts"
  exists "run"
  rename_i p hp
  refine dComp_st (by exists "nn") (s := s) (by exists "hs") (fun _ _ => trivial) GoodTh (by rw [rangeD_length]; omega) (fun d hd G' f' => ?_) (fun G' xs f' e hl hx => ?_)
  · obtain ⟨i, _, rfl⟩ := rangeD_mem hd
    exists "go"
    intro k hk
    exists "all"
    exact hk _ _ (.row ‹_›) (by exists "stf")
  · rw [rangeD_length] at hl
    exists "run"
    refine hQ _ _ _ (by exists "stf") (by exists "none") up_same ⟨?_, ?_, ?_⟩
    · simp only [List.length_append, List.length_cons, List.length_nil, List.length_set]; omega
    · simp only [List.length_append, List.length_cons, List.length_nil, List.length_set]; omega
    · exists "gts"
/-! ### kinds, ears -/
def isKind (d : D) : Prop := ∃ ks : List Bool, ks.length = 7 ∧ d = .tup (ks.map D.bl)
def sp_l_kind : DSp := fun ds G Q _ => ∃ (s : Addr), ds = [.ref s] ∧ HasSt s G ∧ ∀ (ks : List Bool) G', ks.length = 7 → StF s G G' → Q (.tup (ks.map D.bl)) G'
theorem use_kind {s : Addr} {G : DH} {Q : DQ} {X : DX} (h : HasSt s G) (k : ∀ (ks : List Bool) G', ks.length = 7 → StF s G G' → Q (.tup (ks.map D.bl)) G') : Ir sp_l_kind [.ref s] G Q X := Ir_i ⟨s, rfl, h, k⟩
def Ear (xs : List D) : Prop := xs.length ≤ 20 ∧ ∀ x ∈ xs, isNatD x
def sp_l_ear : DSp := fun ds G Q _ => ∃ (s : Addr), ds = [.ref s] ∧ HasSt s G ∧ ∀ p xs G', StF s G G' → G p = none → G' p = some (.lst xs) → Ear xs → Q (.ref p) G'
theorem use_ear {s : Addr} {G : DH} {Q : DQ} {X : DX} (h : HasSt s G) (k : ∀ p xs G', StF s G G' → G p = none → G' p = some (.lst xs) → Ear xs → Q (.ref p) G') : Ir sp_l_ear [.ref s] G Q X := Ir_i ⟨s, rfl, h, k⟩
theorem walk_l_ear : ∀ ds G Q X, sp_l_ear ds G Q X → t_l_ear (ends Q X) (startD 2 ds) G := by
  intro ds G Q X hsp
  obtain ⟨s, rfl, hs, hQ⟩ := hsp
  exists "run"
  refine ix_P (fun d => ∃ n : Int, 0 < n ∧ n ≤ 21 ∧ d = .int n) (by exists "sd") (allM_cons ⟨_, by decide, by decide, rfl⟩ (allM_cons ⟨_, by decide, by decide, rfl⟩ allM_nil)) fun d ⟨n, h0, h1, ed⟩ => ?_
  subst ed
  exists "run"
  rename_i p hp
  refine dComp_st (by exists "nn") (s := s) (by exists "hs") (fun _ _ => trivial) isNatD (by rw [rangeD_length]; omega) (fun d hd G' f' => ?_) (fun G' xs f' e hl hx => ?_)
  · obtain ⟨i, _, rfl⟩ := rangeD_mem hd
    exists "go"
    intro k hk
    exists "all"
    exact hk _ _ ⟨_, ‹_›, rfl⟩ (by exists "stf")
  · rw [rangeD_length] at hl
    exists "run"
    exact hQ _ _ _ (by exists "stf") (by exists "none") e ⟨by omega, hx⟩
theorem bls_of : ∀ {xs : List D}, (∀ x ∈ xs, ∃ b, x = .bl b) → ∃ ks : List Bool, xs = ks.map D.bl
  | [], _ => ⟨[], rfl⟩
  | x :: xs, h => by
    obtain ⟨b, rfl⟩ := h x List.mem_cons_self
    obtain ⟨ks, rfl⟩ := bls_of fun y hy => h y (List.mem_cons_of_mem _ hy)
    exact ⟨b :: ks, rfl⟩
theorem walk_l_kind : ∀ ds G Q X, sp_l_kind ds G Q X → t_l_kind (ends Q X) (startD 4 ds) G := by
  intro ds G Q X hsp
  obtain ⟨s, rfl, hs, hQ⟩ := hsp
  exists "run"
  refine ifB_d (fun _ => ?_) fun _ => ?_
  · exists "run"
    exact hQ [true, true, true, true, true, true, true] _ rfl (by exists "stf")
  · exists "run"
    rename_i r1 G1 h1 f1 hne r2 G2 h2 f2 p hp
    by_cases hw : (r1 : Int) = 1
    · iterate 7
        refine ifB_t (decide_eq_true hw) ?_
        exists "run"
      exact hQ [_, _, _, _, _, _, _] _ rfl (by exists "stf")
    · iterate 7
        refine ifB_f (decide_eq_false hw) ?_
        exists "run"
      exact hQ [_, _, _, _, _, _, _] _ rfl (by exists "stf")


/-! ### rows -/
def tyB : D → Bool
  | .non => true
  | .bl _ => true
  | .int _ => true
  | .str _ => true
  | .tup _ => true
  | _ => false
def isNumB (p : D) (lo hi : Int) : Bool := match p with
  | .int i => decide (lo ≤ i) && decide (i ≤ hi)
  | _ => false
def mxOf (c : Str) : Option Int := if c = ("b" : Str) then some 3 else if c = ("e" : Str) then some 1 else if c = ("n" : Str) then some 999 else none
def sp_is_number : DSp := fun ds G Q _ => ∃ p lo hi, ds = [p, .int lo, .int hi] ∧ tyB p = true ∧ Q (.bl (isNumB p lo hi)) G
theorem use_is_number {p : D} {lo hi : Int} {G : DH} {Q : DQ} {X : DX} (h : tyB p = true) (k : Q (.bl (isNumB p lo hi)) G) : Ir sp_is_number [p, .int lo, .int hi] G Q X := Ir_i ⟨p, lo, hi, rfl, h, k⟩
def sp_is_part : DSp := fun ds G Q _ => ∃ c p hi, ds = [.str c, p] ∧ (mxOf c = some hi ∧ tyB p = true) ∧ ∀ G', Sub G G' → Q (.bl (isNumB p 0 hi)) G'
theorem use_is_part {c : Str} {p : D} {hi : Int} {G : DH} {Q : DQ} {X : DX} (h : mxOf c = some hi ∧ tyB p = true) (k : ∀ G', Sub G G' → Q (.bl (isNumB p 0 hi)) G') : Ir sp_is_part [.str c, p] G Q X := Ir_i ⟨c, p, hi, rfl, h, k⟩
def sgOf (w : Str) : Option Str := match kv_PLAIN.lookup w with
  | some d => (match d with | .str z => some z | _ => none)
  | none => match kv_OWN.lookup w with
    | some d => (match d with | .str z => some z | _ => none)
    | none => none
def chAt (sg : Str) (k : Nat) : Str := match sg.cps.toList[k]? with
  | some c => ⟨#[c]⟩
  | none => ⟨#[]⟩
def partAt (sg : Str) (ps : List D) (k : Nat) : Bool := match mxOf (chAt sg k), ps[k]? with
  | some hi, some p => isNumB p 0 hi
  | _, _ => false
def rowB (d : D) : Bool := match d with
  | .tup (.str w :: ps) => (match sgOf w with
    | some sg => decide (ps.length = sg.length) && ((List.range sg.length).all fun k => partAt sg ps k)
    | none => false)
  | _ => false
def thingB (d : D) : Bool := isNumB d 0 999 || rowB d
/-- what may be handed in as a cell -/
def cellD (d : D) : Bool := match d with
  | .tup ps => tyB (.tup ps) && (ps.all tyB && decide (ps.length ≤ 1000))
  | d => tyB d
def sp_is_row : DSp := fun ds G Q _ => ∃ d, ds = [d] ∧ cellD d = true ∧ ∀ G', Sub G G' → Q (.bl (rowB d)) G'
theorem use_is_row {d : D} {G : DH} {Q : DQ} {X : DX} (h : cellD d = true) (k : ∀ G', Sub G G' → Q (.bl (rowB d)) G') : Ir sp_is_row [d] G Q X := Ir_i ⟨d, rfl, h, k⟩
def sp_is_thing : DSp := fun ds G Q _ => ∃ d, ds = [d] ∧ cellD d = true ∧ ∀ G', Sub G G' → Q (.bl (thingB d)) G'
theorem use_is_thing {d : D} {G : DH} {Q : DQ} {X : DX} (h : cellD d = true) (k : ∀ G', Sub G G' → Q (.bl (thingB d)) G') : Ir sp_is_thing [d] G Q X := Ir_i ⟨d, rfl, h, k⟩
def t_is_number : TSD := (sRet (dAndV (dIsi ["int"] (dVar 0)) (dAndV (dNotV (dIsi ["bool"] (dVar 0))) (dChain rLeD rLeD (dVar 1) (dVar 0) (dVar 2)))))
def t_is_part : TSD := (sRet (dCall sp_is_number (dCons (dVar 1) (dCons (dC (.int 0)) (dCons (dDget (dDisp (dpCons (dC (.str ("b" : Str))) (dBin rSubD (dC c_BOXES) (dC (.int 1))) (dpCons (dC (.str ("e" : Str))) (dC (.int 1)) (dpCons (dC (.str ("n" : Str))) (dC c_MOST_NUMBER) dpNil)))) (dVar 0)) dNil)))))
def t_is_row : TSD := (sSeq (sIf (dOrT (dNotT (dT (dIsi ["tuple"] (dVar 0)))) (dOrT (dT (dBin rEqD (dB rLen (dCons (dVar 0) dNil)) (dC (.int 0)))) (dNotT (dT (dIsi ["str"] (dBin rIxD (dVar 0) (dC (.int 0)))))))) (sRet (dC (.bl false))) sNx) (sSeq (sAsg (dIfE (dT (dKIn false kv_PLAIN (dBin rIxD (dVar 0) (dC (.int 0))))) (dKIx kv_PLAIN (dBin rIxD (dVar 0) (dC (.int 0)))) (dKGet kv_OWN (dBin rIxD (dVar 0) (dC (.int 0))))) (gSlot 1)) (sSeq (sIf (dOrT (dT (dIsN false (dVar 1))) (dT (dBin rNeD (dB rLen (dCons (dVar 0) dNil)) (dBin rAddD (dB rLen (dCons (dVar 1) dNil)) (dC (.int 1)))))) (sRet (dC (.bl false))) sNx) (sRet (dBin rEqD (dComp (iRngD1 (dB rLen (dCons (dVar 1) dNil))) (.one 2) (dNotT (dT (dCall sp_is_part (dCons (dBin rIxD (dVar 1) (dVar 2)) (dCons (dBin rIxD (dVar 0) (dBin rAddD (dVar 2) (dC (.int 1)))) dNil))))) (dVar 2) [2]) (dLst dNil))))))
def t_is_thing : TSD := (sRet (dOrV (dCall sp_is_number (dCons (dVar 0) (dCons (dC (.int 0)) (dCons (dC c_MOST_NUMBER) dNil)))) (dCall sp_is_row (dCons (dVar 0) dNil))))
local macro_rules | `(tactic| exists "run") => `(tactic| ((try (conv => whnf)); repeat' ((first | refine onSome_i rfl ?_ | ((with_reducible apply onSome_i); focus exists "hp") | ((with_reducible apply onSome_i); focus exists "fl") | with_reducible refine onSome_i atI0 ?_ | with_reducible refine onSome_i atI1 ?_ | with_reducible refine onSome_i atI2 ?_ | with_reducible refine onSome_i atI3 ?_ | refine ifB_t rfl ?_ | refine ifB_f rfl ?_ | refine ifB_not ?_ | refine ifB_if ?_ | refine ifB_if1 ?_ | refine rEq_iq ?_ | refine rEq_sq ?_ | refine rEq_bq ?_ | refine rNe_iq ?_ | refine rNe_sq ?_ | refine rNe_bq ?_ | (apply rEq_tt; (focus exact rfl); (focus exact rfl)) | (apply rNe_tt; (focus exact rfl); (focus exact rfl)) | (apply rEq_ti; focus exact rfl) | (apply rNe_ti; focus exact rfl) | ((with_reducible apply onSome_i); focus ((first | apply hp_len | apply hp_lstOf | apply hp_mutOf | apply hp_seqOf | apply hp_recv | apply hp_lst | apply hp_ins | apply hp_dct | apply hp_dctR); exists "at")) | ((with_reducible apply onSome_i); focus ((apply hp_fdcR); exists "at")) | ((with_reducible apply And.intro); focus exists "sd") | refine ref_i ?_ | refine eq_i ?_ | exists "new" | ((with_reducible apply use_is_number); (focus exists "sds"); intros) | ((with_reducible apply use_is_row); (focus exists "sds"); intros) | fail) <;> (try (conv => whnf)))))
local macro_rules | `(tactic| exists "all") => `(tactic| ((try (conv => whnf)); repeat' ((first | refine onSome_i rfl ?_ | ((with_reducible apply onSome_i); focus exists "hp") | ((with_reducible apply onSome_i); focus exists "fl") | with_reducible refine onSome_i atI0 ?_ | with_reducible refine onSome_i atI1 ?_ | with_reducible refine onSome_i atI2 ?_ | with_reducible refine onSome_i atI3 ?_ | refine ifB_t rfl ?_ | refine ifB_f rfl ?_ | refine ifB_not ?_ | refine ifB_if ?_ | refine ifB_if1 ?_ | refine rEq_iq ?_ | refine rEq_sq ?_ | refine rEq_bq ?_ | refine rNe_iq ?_ | refine rNe_sq ?_ | refine rNe_bq ?_ | (apply rEq_tt; (focus exact rfl); (focus exact rfl)) | (apply rNe_tt; (focus exact rfl); (focus exact rfl)) | (apply rEq_ti; focus exact rfl) | (apply rNe_ti; focus exact rfl) | ((with_reducible apply onSome_i); focus ((first | apply hp_len | apply hp_lstOf | apply hp_mutOf | apply hp_seqOf | apply hp_recv | apply hp_lst | apply hp_ins | apply hp_dct | apply hp_dctR); exists "at")) | ((with_reducible apply onSome_i); focus ((apply hp_fdcR); exists "at")) | ((with_reducible apply And.intro); focus exists "sd") | refine ref_i ?_ | refine eq_i ?_ | exists "new" | ((with_reducible apply use_is_number); (focus exists "sds"); intros) | ((with_reducible apply use_is_row); (focus exists "sds"); intros) | exact All.nil | refine All.cons ?_ ?_ | (refine ix_all ?_ ?_; focus exists "sd") | refine ifB_d (fun _ => ?_) fun _ => ?_ | refine ifB_nd (fun _ => ?_) fun _ => ?_ | fail) <;> (try (conv => whnf)))))

theorem walk_is_number : ∀ ds G Q X, sp_is_number ds G Q X → t_is_number (ends Q X) (startD 3 ds) G := by
  intro ds G Q X hsp
  obtain ⟨p, lo, hi, rfl, ht, hQ⟩ := hsp
  cases p <;> first | cases ht | skip
  all_goals exists "go"
  · exact hQ
  · exact hQ
  · rename_i i
    have e : isNumB (.int i) lo hi = (decide (lo ≤ i) && decide (i ≤ hi)) := rfl
    rw [e] at hQ
    refine ifB_d (fun h1 => ?_) fun h1 => ?_
    · rw [decide_eq_true h1] at hQ
      exists "go"
      exact hQ
    · rw [decide_eq_false h1] at hQ
      exists "go"
      exact hQ
  · exact hQ
  · exact hQ
theorem walk_is_part : ∀ ds G Q X, sp_is_part ds G Q X → t_is_part (ends Q X) (startD 2 ds) G := by
  intro ds G Q X hsp
  obtain ⟨c, p, hi, rfl, ⟨hm, ht⟩, hQ⟩ := hsp
  unfold mxOf at hm
  split at hm
  · rename_i e; subst e; cases hm
    exists "run"
    exact hQ _ (by exists "sub")
  · split at hm
    · rename_i e; subst e; cases hm
      exists "run"
      exact hQ _ (by exists "sub")
    · split at hm
      · rename_i e; subst e; cases hm
        exists "run"
        exact hQ _ (by exists "sub")
      · cases hm
theorem walk_is_thing : ∀ ds G Q X, sp_is_thing ds G Q X → t_is_thing (ends Q X) (startD 1 ds) G := by
  intro ds G Q X hsp
  obtain ⟨d, rfl, ht, hQ⟩ := hsp
  have ht' : tyB d = true := by cases d <;> first | exact ht | rfl
  exists "run"
  refine ifB_i (fun h => ?_) fun h => ?_
  · exists "run"
    have e : thingB d = true := by unfold thingB; rw [h]; rfl
    rw [e] at hQ
    exact hQ _ (.refl _)
  · exists "run"
    have e : thingB d = rowB d := by unfold thingB; rw [h]; rfl
    rw [e] at hQ
    exact hQ _ ‹_›
theorem lk_vals {kvs : List (Str × D)} {w : Str} {d : D} (P : D → Prop) (h : ∀ p ∈ kvs, P p.2) (e : kvs.lookup w = some d) : P d := by
  induction kvs with
  | nil => simp at e
  | cons a r ih =>
    obtain ⟨k, v⟩ := a
    by_cases q : w = k
    · subst q; simp [List.lookup] at e; subst e; exact h _ List.mem_cons_self
    · have q1 : (w == k) = false := by simpa using q
      simp only [List.lookup, q1] at e
      exact ih (fun p hp => h p (List.mem_cons_of_mem _ hp)) e
/-- signs: at most three, each of them known -/
def sgGood (d : D) : Prop := ∃ z : Str, d = .str z ∧ z.length ≤ 3 ∧ ∀ k, k < z.length → ∃ hi, mxOf (chAt z k) = some hi
theorem sg_b : sgGood (.str ("b" : Str)) := ⟨_, rfl, by decide, fun k hk => by
  match k, hk with
  | 0, _ => exact ⟨3, rfl⟩⟩
theorem sg_e : sgGood (.str ("e" : Str)) := ⟨_, rfl, by decide, fun k hk => by
  match k, hk with
  | 0, _ => exact ⟨1, rfl⟩⟩
theorem sg_n : sgGood (.str ("n" : Str)) := ⟨_, rfl, by decide, fun k hk => by
  match k, hk with
  | 0, _ => exact ⟨999, rfl⟩⟩
theorem sg_0 : sgGood (.str ("" : Str)) := ⟨_, rfl, by decide, fun k hk => absurd hk (Nat.not_lt_zero _)⟩
theorem sg_bn : sgGood (.str ("bn" : Str)) := ⟨_, rfl, by decide, fun k hk => by
  match k, hk with
  | 0, _ => exact ⟨3, rfl⟩
  | 1, _ => exact ⟨999, rfl⟩⟩
theorem sg_bb : sgGood (.str ("bb" : Str)) := ⟨_, rfl, by decide, fun k hk => by
  match k, hk with
  | 0, _ => exact ⟨3, rfl⟩
  | 1, _ => exact ⟨3, rfl⟩⟩
theorem sg_bbb : sgGood (.str ("bbb" : Str)) := ⟨_, rfl, by decide, fun k hk => by
  match k, hk with
  | 0, _ => exact ⟨3, rfl⟩
  | 1, _ => exact ⟨3, rfl⟩
  | 2, _ => exact ⟨3, rfl⟩⟩
theorem plain_good : ∀ p ∈ kv_PLAIN, sgGood p.2 := by
  intro p hp
  simp only [kv_PLAIN, List.mem_cons, List.not_mem_nil, or_false] at hp
  rcases hp with rfl | rfl | rfl | rfl | rfl | rfl | rfl | rfl
  · exact sg_bn
  · exact sg_bbb
  · exact sg_bbb
  · exact sg_bb
  · exact sg_bb
  · exact sg_bn
  · exact sg_n
  · exact sg_n
theorem own_good : ∀ p ∈ kv_OWN, sgGood p.2 := by
  intro p hp
  simp only [kv_OWN, List.mem_cons, List.not_mem_nil, or_false] at hp
  rcases hp with rfl | rfl | rfl | rfl | rfl | rfl | rfl
  · exact sg_b
  · exact sg_b
  · exact sg_b
  · exact sg_b
  · exact sg_e
  · exact sg_b
  · exact sg_0
theorem str_at {z : Str} {k : Nat} (h : k < z.length) : ∃ c, z.cps.toList[k]? = some c ∧ chAt z k = ⟨#[c]⟩ := by
  have hk : k < z.cps.toList.length := by rw [Array.length_toList]; exact h
  refine ⟨_, List.getElem?_eq_getElem hk, ?_⟩
  unfold chAt
  rw [List.getElem?_eq_getElem hk]
/-- the row's signs, the test of its parts -/
theorem row_tail {w z : Str} {ps : List D} {G : DH} {Q : DQ} {X : DX} {u : Option D} (hz : sgGood (.str z)) (hps : ps.all tyB = true) (hl : ps.length ≤ 1000)
    (hQ : ∀ G', Sub G G' → Q (.bl (decide (ps.length = z.length) && ((List.range z.length).all fun k => partAt z ps k))) G') :
    (sSeq (sIf (dOrT (dT (dIsN false (dVar 1))) (dT (dBin rNeD (dB rLen (dCons (dVar 0) dNil)) (dBin rAddD (dB rLen (dCons (dVar 1) dNil)) (dC (.int 1)))))) (sRet (dC (.bl false))) sNx)
      (sRet (dBin rEqD (dComp (iRngD1 (dB rLen (dCons (dVar 1) dNil))) (.one 2) (dNotT (dT (dCall sp_is_part (dCons (dBin rIxD (dVar 1) (dVar 2)) (dCons (dBin rIxD (dVar 0) (dBin rAddD (dVar 2) (dC (.int 1)))) dNil))))) (dVar 2) [2]) (dLst dNil))))
      (ends Q X) [some (.tup (.str w :: ps)), some (.str z), u] G := by
  obtain ⟨z', e, h3, hk⟩ := hz
  cases e
  have hlen : lenD G (.str z) = some z.length := by simp only [lenD]; rw [if_pos (by omega)]
  exists "run"
  refine onSome_i hlen ?_
  exists "run"
  refine ifB_d (fun h => ?_) fun h => ?_
  · have hpl : ps.length = z.length := by simp only [List.length_cons] at h; omega
    exists "run"
    refine onSome_i hlen ?_
    exists "run"
    rename_i p hp
    refine dComp_sub (I := ⟨rangeD 0 z.length, fun _ => True⟩) hp (fun _ _ => trivial) (fun d => match d with | .int k => !(partAt z ps k.toNat) | _ => false) id (by show (rangeD 0 z.length).length < _; rw [rangeD_length]; omega) (fun d hd G' s' => ?_) (fun d hd _ G' s' => ?_) (fun G' s' e' => ?_)
    · obtain ⟨i, hi, rfl⟩ := rangeD_mem hd
      obtain ⟨c, hc1, hc2⟩ := str_at hi
      obtain ⟨hi', hm⟩ := hk i hi
      obtain ⟨v, hv⟩ : ∃ v, ps[i]? = some v := ⟨_, List.getElem?_eq_getElem (by omega)⟩
      have hv2 : tyB v = true := List.all_eq_true.mp hps v (List.mem_of_getElem? hv)
      rw [show (0 : Int) + (i : Int) = (i : Int) by omega]
      exists "go"
      intro k hk'
      exists "go"
      refine onSome_i (atI_nat hc1) ?_
      exists "go"
      refine onSome_i (x := v) (by rw [show (i : Int) + 1 = ((i + 1 : Nat) : Int) by omega]; exact atI_nat (by simpa using hv)) ?_
      exists "go"
      rw [← hc2]
      refine Ir_i ⟨chAt z i, v, hi', rfl, ⟨hm, hv2⟩, fun G2 s2 => ?_⟩
      have e : partAt z ps ((i : Int)).toNat = isNumB v 0 hi' := by unfold partAt; rw [Int.toNat_natCast, hm, hv]
      have e2 : k (!partAt z ps ((i : Int)).toNat) G2 := hk' G2 s2
      rw [e] at e2
      exact e2
    · intro k hk'
      exact hk' _ (.refl _)
    · exists "run"
      rename_i q hq
      refine rEq_nil (ys := ((rangeD 0 z.length).filter fun d => match d with | .int k => !(partAt z ps k.toNat) | _ => false).map id) (by exists "at") up_same (fun d hd => ?_) ?_
      · simp only [List.map_id] at hd
        obtain ⟨i, _, rfl⟩ := rangeD_mem (List.mem_filter.mp hd).1
        rfl
      · have e : (((rangeD 0 z.length).filter fun d => match d with | .int k => !(partAt z ps k.toNat) | _ => false).map id).isEmpty = ((List.range z.length).all fun k => partAt z ps k) := by
          rw [List.map_id, Bool.eq_iff_iff, List.isEmpty_iff, List.filter_eq_nil_iff, List.all_eq_true]
          constructor
          · intro h k hk
            have := h (.int (0 + (k : Int))) (by unfold rangeD; exact List.mem_map.mpr ⟨k, hk, rfl⟩)
            rw [show (0 : Int) + (k : Int) = (k : Int) by omega] at this
            simpa using this
          · intro h d hd
            obtain ⟨i, hi, rfl⟩ := rangeD_mem hd
            have := h i (List.mem_range.mpr hi)
            rw [show (0 : Int) + (i : Int) = (i : Int) by omega]
            simpa using this
        rw [e]
        rw [hpl] at hQ
        simp only [decide_true, Bool.true_and] at hQ
        exact hQ _ (s'.tr hq)
  · exists "run"
    have e : (decide (ps.length = z.length) && ((List.range z.length).all fun k => partAt z ps k)) = false := by
      rw [decide_eq_false, Bool.false_and]
      intro e; apply h; simp only [List.length_cons, e]; omega
    rw [e] at hQ
    exact hQ _ (.refl _)
theorem walk_is_row : ∀ ds G Q X, sp_is_row ds G Q X → t_is_row (ends Q X) (startD 3 ds) G := by
  intro ds G Q X hsp
  obtain ⟨d, rfl, ht, hQ⟩ := hsp
  cases d <;> first | cases ht | skip
  case tup ps =>
    obtain ⟨h1, h2⟩ : ps.all tyB = true ∧ ps.length ≤ 1000 := by simpa [cellD, tyB] using ht
    cases ps with
    | nil =>
      exists "run"
      exact hQ _ (.refl _)
    | cons x r =>
      simp only [List.all_cons, Bool.and_eq_true] at h1
      simp only [List.length_cons] at h2
      obtain ⟨hx, hr⟩ := h1
      exists "run"
      cases x <;> first | cases hx | skip
      all_goals try (exists "run"; exact hQ _ (.refl _); done)
      case cons.str.refl w =>
        have e0 : rowB (.tup (.str w :: r)) = (match sgOf w with
          | some sg => decide (r.length = sg.length) && ((List.range sg.length).all fun k => partAt sg r k)
          | none => false) := rfl
        rw [e0] at hQ
        exists "run"
        cases hp : kv_PLAIN.lookup w with
        | some d =>
          obtain ⟨z, rfl, hz⟩ := lk_vals sgGood plain_good hp
          have e1 : sgOf w = some z := by unfold sgOf; rw [hp]
          rw [e1] at hQ
          refine ifB_t rfl ?_
          exists "run"
          refine onSome_i hp ?_
          exact row_tail ⟨z, rfl, hz⟩ hr (by omega) hQ
        | none =>
          refine ifB_f rfl ?_
          exists "run"
          cases hp2 : kv_OWN.lookup w with
          | some d =>
            obtain ⟨z, rfl, hz⟩ := lk_vals sgGood own_good hp2
            have e1 : sgOf w = some z := by unfold sgOf; rw [hp]; simp only [hp2]
            rw [e1] at hQ
            exact row_tail ⟨z, rfl, hz⟩ hr (by omega) hQ
          | none =>
            have e1 : sgOf w = none := by unfold sgOf; rw [hp]; simp only [hp2]
            rw [e1] at hQ
            exists "run"
            exact hQ _ (.refl _)
  all_goals exists "run"
  all_goals exact hQ _ (.refl _)

/-! ### what is refused -/
def isBl : D → Bool
  | .bl _ => true
  | _ => false
def goodK (xs : List D) : Bool := xs.length == 7 && xs.all isBl
def biD : D → Bool
  | .bl _ => true
  | .int _ => true
  | _ => false
def natB (d : D) : Bool := isNumB d 0 999
def sp_need_ear : DSp := fun ds G Q X => ∃ p xs, ds = [.ref p] ∧ (G p = some (.lst xs) ∧ xs.all biD = true ∧ xs.length ≤ 1000) ∧ ((decide (xs.length ≤ 20) && xs.all natB) = true → ∀ G', Sub G G' → Q .non G') ∧ ((decide (xs.length ≤ 20) && xs.all natB) = false → ∀ G', Sub G G' → X "BadEar" .non G')
def sp_need_count : DSp := fun ds G Q X => ∃ m lo hi : Int, ds = [.int m, .int lo, .int hi] ∧ (lo ≤ m ∧ m ≤ hi → Q .non G) ∧ (¬ (lo ≤ m ∧ m ≤ hi) → X "BadCount" .non G)
theorem use_need_count {m lo hi : Int} {G : DH} {Q : DQ} {X : DX} (h : lo ≤ m ∧ m ≤ hi) (k : Q .non G) : Ir sp_need_count [.int m, .int lo, .int hi] G Q X := Ir_i ⟨m, lo, hi, rfl, fun _ => k, fun n => absurd h n⟩
def sp_need_kind : DSp := fun ds G Q X => ∃ xs, ds = [.tup xs] ∧ xs.all biD = true ∧ xs.length ≤ 100 ∧ (goodK xs = true → ∀ G', Sub G G' → Q .non G') ∧ (goodK xs = false → ∀ G', Sub G G' → X "BadKind" .non G')
theorem use_need_kind {ks : List Bool} {G : DH} {Q : DQ} {X : DX} (h : ks.length = 7) (k : ∀ G', Sub G G' → Q .non G') : Ir sp_need_kind [.tup (ks.map .bl)] G Q X := by
  have e : (ks.map D.bl).all isBl = true := by rw [List.all_map]; simp [Function.comp_def, isBl]
  have e2 : (ks.map D.bl).all biD = true := by rw [List.all_map]; simp [Function.comp_def, biD]
  refine Ir_i ⟨_, rfl, e2, by simp [h], fun _ => k, fun h' => ?_⟩
  unfold goodK at h'
  rw [e] at h'
  simp [h] at h'
def sp_need_cells : DSp := fun ds G Q _ => ∃ p xs, ds = [.ref p] ∧ (G p = some (.lst xs) ∧ Cells xs) ∧ ∀ G', Sub G G' → Q .non G'
theorem use_need_cells {p : Addr} {xs : List D} {G : DH} {Q : DQ} {X : DX} (h : G p = some (.lst xs) ∧ Cells xs) (k : ∀ G', Sub G G' → Q .non G') : Ir sp_need_cells [.ref p] G Q X := Ir_i ⟨p, xs, rfl, h, k⟩
theorem nb_ok {b : Nat} {hi : Int} (h : (b : Int) ≤ hi) : isNumB (.int (b : Int)) 0 hi = true := by
  have h0 : decide ((0 : Int) ≤ (b : Int)) = true := decide_eq_true (by omega)
  show (decide ((0 : Int) ≤ (b : Int)) && decide ((b : Int) ≤ hi)) = true
  rw [h0, decide_eq_true h]; rfl
theorem goodRow_ok {d : D} (h : GoodRow d) : rowB d = true ∧ cellD d = true := by
  cases h <;> refine ⟨?_, rfl⟩
  case put x0 x1 _ _ =>
    show (true && (isNumB (.int (x0 : Int)) 0 3 && (isNumB (.int (x1 : Int)) 0 999 && true))) = true
    rw [nb_ok (b := x0) (hi := 3) (by omega)]
    rw [nb_ok (b := x1) (hi := 999) (by omega)]
    rfl
  case add x0 x1 x2 _ _ _ =>
    show (true && (isNumB (.int (x0 : Int)) 0 3 && (isNumB (.int (x1 : Int)) 0 3 && (isNumB (.int (x2 : Int)) 0 3 && true)))) = true
    rw [nb_ok (b := x0) (hi := 3) (by omega)]
    rw [nb_ok (b := x1) (hi := 3) (by omega)]
    rw [nb_ok (b := x2) (hi := 3) (by omega)]
    rfl
  case less x0 x1 x2 _ _ _ =>
    show (true && (isNumB (.int (x0 : Int)) 0 3 && (isNumB (.int (x1 : Int)) 0 3 && (isNumB (.int (x2 : Int)) 0 3 && true)))) = true
    rw [nb_ok (b := x0) (hi := 3) (by omega)]
    rw [nb_ok (b := x1) (hi := 3) (by omega)]
    rw [nb_ok (b := x2) (hi := 3) (by omega)]
    rfl
  case load x0 x1 _ _ =>
    show (true && (isNumB (.int (x0 : Int)) 0 3 && (isNumB (.int (x1 : Int)) 0 3 && true))) = true
    rw [nb_ok (b := x0) (hi := 3) (by omega)]
    rw [nb_ok (b := x1) (hi := 3) (by omega)]
    rfl
  case store x0 x1 _ _ =>
    show (true && (isNumB (.int (x0 : Int)) 0 3 && (isNumB (.int (x1 : Int)) 0 3 && true))) = true
    rw [nb_ok (b := x0) (hi := 3) (by omega)]
    rw [nb_ok (b := x1) (hi := 3) (by omega)]
    rfl
  case zero x0 x1 _ _ =>
    show (true && (isNumB (.int (x0 : Int)) 0 3 && (isNumB (.int (x1 : Int)) 0 999 && true))) = true
    rw [nb_ok (b := x0) (hi := 3) (by omega)]
    rw [nb_ok (b := x1) (hi := 999) (by omega)]
    rfl
  case go x0 _ =>
    show (true && (isNumB (.int (x0 : Int)) 0 999 && true)) = true
    rw [nb_ok (b := x0) (hi := 999) (by omega)]
    rfl
  case call x0 _ =>
    show (true && (isNumB (.int (x0 : Int)) 0 999 && true)) = true
    rw [nb_ok (b := x0) (hi := 999) (by omega)]
    rfl
  case say x0 _ =>
    show (true && (isNumB (.int (x0 : Int)) 0 3 && true)) = true
    rw [nb_ok (b := x0) (hi := 3) (by omega)]
    rfl
  case hear x0 _ =>
    show (true && (isNumB (.int (x0 : Int)) 0 3 && true)) = true
    rw [nb_ok (b := x0) (hi := 3) (by omega)]
    rfl
  case which x0 _ =>
    show (true && (isNumB (.int (x0 : Int)) 0 3 && true)) = true
    rw [nb_ok (b := x0) (hi := 3) (by omega)]
    rfl
  case room x0 _ =>
    show (true && (isNumB (.int (x0 : Int)) 0 3 && true)) = true
    rw [nb_ok (b := x0) (hi := 3) (by omega)]
    rfl
  case enter x0 _ =>
    show (true && (isNumB (.int (x0 : Int)) 0 1 && true)) = true
    rw [nb_ok (b := x0) (hi := 1) (by omega)]
    rfl
  case alarm x0 _ =>
    show (true && (isNumB (.int (x0 : Int)) 0 3 && true)) = true
    rw [nb_ok (b := x0) (hi := 3) (by omega)]
    rfl
  case stop  =>
    show (true && true) = true
    rfl
theorem goodTh_ok {d : D} (h : GoodTh d) : thingB d = true ∧ cellD d = true := by
  cases h with
  | num n h => exact ⟨by unfold thingB; rw [nb_ok (by omega)]; rfl, rfl⟩
  | row h => obtain ⟨h1, h2⟩ := goodRow_ok h; exact ⟨by unfold thingB; rw [h1, Bool.or_true], h2⟩
def sp_worth : DSp := fun ds G Q _ => ∃ d, ds = [d] ∧ GoodTh d ∧ Q (.int (worthD d)) G
theorem use_worth {d : D} {G : DH} {Q : DQ} {X : DX} (h : GoodTh d) (k : Q (.int (worthD d)) G) : Ir sp_worth [d] G Q X := Ir_i ⟨d, rfl, h, k⟩
def ownIx (w : Str) : Option Nat := idxS w kt_OWN_ORDER
def sp_is_caught : DSp := fun ds G Q _ => ∃ (ks : List Bool) (w : Str) (ps : List D) (j : Nat) (b : Bool), ds = [.tup (ks.map .bl), .tup (.str w :: ps)] ∧ (ownIx w = some j ∧ ks[j]? = some b) ∧ Q (.bl b) G
def t_need_cells : TSD := (sSeq (sFor (iEnumL (dVar 0)) (gTupD 2 (gsCons (gSlot 1) (gsCons (gSlot 2) gsNil))) (sIf (dOrT (dT (dBin rGeD (dVar 1) (dC c_MOST_CELLS))) (dNotT (dT (dCall sp_is_thing (dCons (dVar 2) dNil))))) sDead sNx)) (sIf (dT (dBin rLtD (dB rLen (dCons (dVar 0) dNil)) (dC c_LEAST_CELLS))) sDead sNx))
def t_need_kind : TSD := (sSeq (sAsg (dAndV (dIsi ["tuple"] (dVar 0)) (dBin rEqD (dB rLen (dCons (dVar 0) dNil)) (dB rLen (dCons (dC c_OWN_ORDER) dNil)))) (gSlot 1)) (sIf (dOrT (dNotT (dT (dVar 1))) (dT (dBin rNeD (dComp (iTupD (dVar 0)) (.one 2) (dNotT (dT (dIsi ["bool"] (dVar 2)))) (dVar 2) [2]) (dLst dNil)))) (sRaise "BadKind") sNx))
def t_need_ear : TSD := (sIf (dOrT (dT (dBin rGtD (dB rLen (dCons (dVar 0) dNil)) (dC c_MOST_EAR))) (dT (dBin rNeD (dComp (iLstD (dVar 0)) (.one 1) (dNotT (dT (dCall sp_is_number (dCons (dVar 1) (dCons (dC (.int 0)) (dCons (dC c_MOST_NUMBER) dNil)))))) (dVar 1) [1]) (dLst dNil)))) (sRaise "BadEar") sNx)
def t_need_count : TSD := (sIf (dNotT (dT (dCall sp_is_number (dCons (dVar 0) (dCons (dVar 1) (dCons (dVar 2) dNil)))))) (sRaise "BadCount") sNx)
def t_worth : TSD := (sRet (dIfE (dT (dIsi ["tuple"] (dVar 0))) (dC (.int 0)) (dVar 0)))
def t_is_caught : TSD := (sRet (dBin rIxD (dVar 0) (dTIdx kt_OWN_ORDER (dBin rIxD (dVar 1) (dC (.int 0))))))
local macro_rules | `(tactic| exists "run") => `(tactic| ((try (conv => whnf)); repeat' ((first | refine onSome_i rfl ?_ | ((with_reducible apply onSome_i); focus exists "hp") | ((with_reducible apply onSome_i); focus exists "fl") | with_reducible refine onSome_i atI0 ?_ | with_reducible refine onSome_i atI1 ?_ | with_reducible refine onSome_i atI2 ?_ | with_reducible refine onSome_i atI3 ?_ | refine ifB_t rfl ?_ | refine ifB_f rfl ?_ | refine ifB_not ?_ | refine ifB_if ?_ | refine ifB_if1 ?_ | refine rEq_iq ?_ | refine rEq_sq ?_ | refine rEq_bq ?_ | refine rNe_iq ?_ | refine rNe_sq ?_ | refine rNe_bq ?_ | (apply rEq_tt; (focus exact rfl); (focus exact rfl)) | (apply rNe_tt; (focus exact rfl); (focus exact rfl)) | (apply rEq_ti; focus exact rfl) | (apply rNe_ti; focus exact rfl) | ((with_reducible apply onSome_i); focus ((first | apply hp_len | apply hp_lstOf | apply hp_mutOf | apply hp_seqOf | apply hp_recv | apply hp_lst | apply hp_ins | apply hp_dct | apply hp_dctR); exists "at")) | ((with_reducible apply onSome_i); focus ((apply hp_fdcR); exists "at")) | ((with_reducible apply And.intro); focus exists "sd") | refine ref_i ?_ | refine eq_i ?_ | exists "new" | ((with_reducible apply use_is_number); (focus exists "sds"); intros) | ((with_reducible apply use_is_row); (focus exists "sds"); intros) | ((with_reducible apply use_is_thing); (focus exists "sds"); intros) | fail) <;> (try (conv => whnf)))))
local macro_rules | `(tactic| exists "all") => `(tactic| ((try (conv => whnf)); repeat' ((first | refine onSome_i rfl ?_ | ((with_reducible apply onSome_i); focus exists "hp") | ((with_reducible apply onSome_i); focus exists "fl") | with_reducible refine onSome_i atI0 ?_ | with_reducible refine onSome_i atI1 ?_ | with_reducible refine onSome_i atI2 ?_ | with_reducible refine onSome_i atI3 ?_ | refine ifB_t rfl ?_ | refine ifB_f rfl ?_ | refine ifB_not ?_ | refine ifB_if ?_ | refine ifB_if1 ?_ | refine rEq_iq ?_ | refine rEq_sq ?_ | refine rEq_bq ?_ | refine rNe_iq ?_ | refine rNe_sq ?_ | refine rNe_bq ?_ | (apply rEq_tt; (focus exact rfl); (focus exact rfl)) | (apply rNe_tt; (focus exact rfl); (focus exact rfl)) | (apply rEq_ti; focus exact rfl) | (apply rNe_ti; focus exact rfl) | ((with_reducible apply onSome_i); focus ((first | apply hp_len | apply hp_lstOf | apply hp_mutOf | apply hp_seqOf | apply hp_recv | apply hp_lst | apply hp_ins | apply hp_dct | apply hp_dctR); exists "at")) | ((with_reducible apply onSome_i); focus ((apply hp_fdcR); exists "at")) | ((with_reducible apply And.intro); focus exists "sd") | refine ref_i ?_ | refine eq_i ?_ | exists "new" | ((with_reducible apply use_is_number); (focus exists "sds"); intros) | ((with_reducible apply use_is_row); (focus exists "sds"); intros) | ((with_reducible apply use_is_thing); (focus exists "sds"); intros) | exact All.nil | refine All.cons ?_ ?_ | (refine ix_all ?_ ?_; focus exists "sd") | refine ifB_d (fun _ => ?_) fun _ => ?_ | refine ifB_nd (fun _ => ?_) fun _ => ?_ | fail) <;> (try (conv => whnf)))))

theorem walk_need_count : ∀ ds G Q X, sp_need_count ds G Q X → t_need_count (ends Q X) (startD 3 ds) G := by
  intro ds G Q X hsp
  obtain ⟨m, lo, hi, rfl, h1, h2⟩ := hsp
  exists "run"
  have e : isNumB (.int m) lo hi = (decide (lo ≤ m) && decide (m ≤ hi)) := rfl
  refine ifB_i (fun h => ?_) fun h => ?_
  · rw [e, Bool.and_eq_true, decide_eq_true_eq, decide_eq_true_eq] at h
    exact h1 h
  · exact h2 fun k => by rw [e, decide_eq_true k.1, decide_eq_true k.2] at h; cases h
theorem walk_worth : ∀ ds G Q X, sp_worth ds G Q X → t_worth (ends Q X) (startD 1 ds) G := by
  intro ds G Q X hsp
  obtain ⟨d, rfl, hd, hQ⟩ := hsp
  rcases hd with ⟨n, hn⟩ | hd
  · exists "run"
    exact hQ
  · cases hd <;> (exists "run"; exact hQ)
theorem walk_is_caught : ∀ ds G Q X, sp_is_caught ds G Q X → t_is_caught (ends Q X) (startD 2 ds) G := by
  intro ds G Q X hsp
  obtain ⟨ks, w, ps, j, b, rfl, ⟨h1, h2⟩, hQ⟩ := hsp
  exists "run"
  refine onSome_i h1 ?_
  exists "run"
  refine onSome_i (atI_nat (j := j) (by rw [List.getElem?_map, h2]; rfl)) hQ
theorem filt_all {xs : List D} {f : D → Bool} : ((xs.filter fun d => !f d).map id).isEmpty = xs.all f := by
  rw [Bool.eq_iff_iff]
  simp
theorem walk_need_kind : ∀ ds G Q X, sp_need_kind ds G Q X → t_need_kind (ends Q X) (startD 3 ds) G := by
  intro ds G Q X hsp
  obtain ⟨xs, rfl, hf, hl, hg, hb⟩ := hsp
  exists "run"
  refine ifB_d (fun h7 => ?_) fun h7 => ?_
  · have h7' : xs.length = 7 := by simp only [List.length_cons, List.length_nil] at h7; omega
    exists "run"
    rename_i p hp
    refine dComp_sub (I := ⟨xs, fun _ => True⟩) hp (fun _ _ => trivial) (fun d => !isBl d) id (by show xs.length < _; omega) (fun d hd G' s' => ?_) (fun d hd _ G' s' => ?_) (fun G' s' e' => ?_)
    · intro k hk
      have hd' := List.all_eq_true.mp hf d hd
      cases d <;> first | (exact absurd hd' Bool.false_ne_true) | (exists "go"; exact hk _ (.refl _))
    · intro k hk
      exact hk _ (.refl _)
    · exists "run"
      rename_i q hq
      refine rNe_nil (ys := (xs.filter fun d => !isBl d).map id) (by exists "at") up_same (fun d hd => ?_) ?_
      · simp at hd
        have hd' := List.all_eq_true.mp hf d hd.1
        cases d <;> simp [biD] at hd' <;> rfl
      · rw [filt_all]
        by_cases hg' : xs.all isBl = true
        · rw [hg']
          exists "run"
          exact hg (by unfold goodK; rw [h7', hg']; rfl) _ (s'.tr hq)
        · rw [Bool.eq_false_iff.mpr hg']
          exists "run"
          exact hb (by unfold goodK; rw [Bool.eq_false_iff.mpr hg']; simp) _ (s'.tr hq)
  · exists "run"
    refine hb ?_ G (.refl _)
    unfold goodK
    have : (xs.length == 7) = false := by simp only [List.length_cons, List.length_nil] at h7; simp; omega
    rw [this]; rfl
theorem walk_need_ear : ∀ ds G Q X, sp_need_ear ds G Q X → t_need_ear (ends Q X) (startD 2 ds) G := by
  intro ds G Q X hsp
  obtain ⟨a, xs, rfl, ⟨ha, hf, hl⟩, hg, hb⟩ := hsp
  exists "run"
  refine ifB_d (fun h7 => ?_) fun h7 => ?_
  · exists "run"
    exact hb (by rw [decide_eq_false (by omega)]; rfl) _ (.refl _)
  · have e20 : decide (xs.length ≤ 20) = true := decide_eq_true (by omega)
    exists "run"
    rename_i p hp
    refine dComp_sub (I := ⟨xs, fun G' => lstOf G' (.ref a) = some xs⟩) hp (fun G' s' => hp_lstOf (s' _ _ ha)) (fun d => !natB d) id (by show xs.length < _; omega) (fun d hd G' s' => ?_) (fun d hd _ G' s' => ?_) (fun G' s' e' => ?_)
    · have hd' := List.all_eq_true.mp hf d hd
      have hd2 : tyB d = true := by cases d <;> first | rfl | cases hd'
      exists "run"
      intro k hk
      exists "run"
      exact hk _ (.refl _)
    · intro k hk
      exact hk _ (.refl _)
    · exists "run"
      rename_i q hq
      refine rNe_nil (ys := (xs.filter fun d => !natB d).map id) (by exists "at") up_same (fun d hd => ?_) ?_
      · simp at hd
        have hd' := List.all_eq_true.mp hf d hd.1
        cases d <;> first | rfl | cases hd'
      · rw [filt_all]
        rw [e20, Bool.true_and] at hg hb
        by_cases hg' : xs.all natB = true
        · rw [hg']
          exists "run"
          exact hg hg' _ (s'.tr hq)
        · rw [Bool.eq_false_iff.mpr hg']
          exists "run"
          exact hb (Bool.eq_false_iff.mpr hg') _ (s'.tr hq)
theorem walk_need_cells : ∀ ds G Q X, sp_need_cells ds G Q X → t_need_cells (ends Q X) (startD 3 ds) G := by
  intro ds G Q X hsp
  obtain ⟨a, xs, rfl, ⟨ha, h16, h40, hx⟩, hQ⟩ := hsp
  exists "run"
  refine forRun_ind (fun r τ G' => Sub G G' ∧ ∃ k ys t1 t2, r = enumD k ys ∧ (∀ y ∈ ys, GoodTh y) ∧ k + ys.length ≤ 40 ∧ τ = [some (.ref a), t1, t2]) ?_ ?_ _ _ _ ⟨.refl _, 0, xs, none, none, rfl, hx, by omega, rfl⟩
  · rintro τ G' ⟨s', k, ys, t1, t2, -, -, -, rfl⟩
    refine ⟨hp_lstOf (s' _ _ ha), ?_⟩
    exists "run"
    refine ifB_f (decide_eq_false (by omega)) ?_
    exists "run"
    exact hQ _ s'
  · rintro d r ih τ G' ⟨s', k, ys, t1, t2, hr, hy, hk, rfl⟩
    cases ys with
    | nil => cases hr
    | cons y ys =>
      injection hr with h1 h2
      subst h1 h2
      simp only [List.length_cons] at hk
      refine ⟨hp_lstOf (s' _ _ ha), ?_⟩
      have g := goodTh_ok (hy y List.mem_cons_self)
      have g2 := g.2
      exists "run"
      refine ifB_f (decide_eq_false (by omega)) ?_
      exists "run"
      rename_i G2 s2
      refine ifB_t g.1 ?_
      refine ih _ _ ⟨s'.trans s2, k + 1, ys, _, _, rfl, fun z hz => hy z (List.mem_cons_of_mem _ hz), by omega, rfl⟩


/-! ### a machine's state, plainly -/
structure MSt where
  cells : List D
  boxes : List D
  place : Int
  high : Bool
  wf : Int
  ws : Int
  left : Int
  words : List D
  ear : List D
  why : Str
  many : Int
namespace MSt
def isTup : D → Bool
  | .tup _ => true
  | _ => false
def thAt (m : MSt) (a : Int) : D := m.cells.getD (m.wf + a).toNat (D.int 0)
def coming (m : MSt) : D := if m.place < m.ws then (if isTup (m.thAt m.place) then m.thAt m.place else .int 3) else .int 2
def bxAt (m : MSt) (b : Nat) : D := m.boxes.getD b (D.int 0)
def wN (m : MSt) (b : Nat) : Int := worthD (m.bxAt b)
def setBx (m : MSt) (b : Nat) (v : D) : MSt := { m with boxes := m.boxes.set b v }
def next (m : MSt) : MSt := { m with place := m.place + 1 }
def kept (cells : List D) (a b c d e : Int) (boxes : List D) : List D :=
  ((((((((cells.set 0 (.int a)).set 1 (.int b)).set 2 (.int c)).set 3 (.int d)).set 4 (.int e)).set 6 (boxes.getD 0 (D.int 0))).set 7 (boxes.getD 1 (D.int 0))).set 8 (boxes.getD 2 (D.int 0))).set 9 (boxes.getD 3 (D.int 0))
def caught (m : MSt) (n place more : Int) : MSt := if m.high then { m with why := if n = 2 then ("beyond" : Str) else ("no row" : Str) } else
  { m with cells := kept m.cells place m.wf m.ws n more m.boxes, high := true, wf := 0, ws := m.cells.length, left := 0, place := worthD (m.cells.getD 5 (D.int 0)) }
def counted (m : MSt) : MSt := if !m.high && decide (0 < m.left) then (if m.left - 1 = 0 then caught { m with left := m.left - 1 } 4 m.place 0 else { m with left := m.left - 1 }) else m
def argN (ps : List D) (k : Nat) : Nat := match ps[k]? with
  | some (.int i) => i.toNat
  | _ => 0
def argD (ps : List D) (k : Nat) : D := ps.getD k (D.int 0)
def argI (ps : List D) (k : Nat) : Int := match ps[k]? with
  | some (.int i) => i
  | _ => 0
/-- a row that isn't the machine's own: the state, and why it is caught, or 0 -/
def plain (m : MSt) (w : Str) (ps : List D) : MSt × Int :=
  if w = ("put" : Str) then ((m.setBx (argN ps 0) (argD ps 1)).next, 0)
  else if w = ("add" : Str) then ((m.setBx (argN ps 0) (D.int ((m.wN (argN ps 1) + m.wN (argN ps 2)) % 1000))).next, 0)
  else if w = ("less" : Str) then ((m.setBx (argN ps 0) (D.int ((m.wN (argN ps 1) - m.wN (argN ps 2)) % 1000))).next, 0)
  else if w = ("load" : Str) then (if m.wN (argN ps 1) < m.ws then ((m.setBx (argN ps 0) (m.thAt (m.wN (argN ps 1)))).next, 0) else (m, 2))
  else if w = ("store" : Str) then (if m.wN (argN ps 0) < m.ws then ({ m with cells := m.cells.set (m.wf + m.wN (argN ps 0)).toNat (m.bxAt (argN ps 1)) }.next, 0) else (m, 2))
  else if w = ("go" : Str) then ({ m with place := argI ps 0 }, 0)
  else if w = ("zero" : Str) then (if m.wN (argN ps 0) = 0 then ({ m with place := argI ps 1 }, 0) else (m.next, 0))
  else (m.next, 0)
/-- a row of the machine's own, in high -/
def own (m : MSt) (w : Str) (ps : List D) : MSt :=
  if w = ("say" : Str) then { m with words := m.words ++ [D.int (m.wN (argN ps 0))] }.next
  else if w = ("hear" : Str) then { m with boxes := m.boxes.set (argN ps 0) (m.ear.headD (D.int 0)), ear := m.ear.tail }.next
  else if w = ("which" : Str) then (m.setBx (argN ps 0) (D.int 1)).next
  else if w = ("room" : Str) then (m.setBx (argN ps 0) (D.int m.ws)).next
  else if w = ("alarm" : Str) then { m with left := m.wN (argN ps 0) }.next
  else if w = ("stop" : Str) then { m with why := ("stop" : Str) }.next
  else if m.cells.length < m.wN (argN ps 0) + m.wN (argN ps 0 + 1) then { m with why := ("window" : Str) }
  else { m with wf := m.wN (argN ps 0), ws := m.wN (argN ps 0 + 1), high := false, place := m.wN (argN ps 0 + 2) }
/-- .. as in low, by its own mouth and ear -/
def low (m : MSt) (w : Str) (ps : List D) : MSt :=
  if w = ("say" : Str) then { m with words := m.words ++ [D.int (m.wN (argN ps 0))] }.next
  else if w = ("hear" : Str) then { m with boxes := m.boxes.set (argN ps 0) (m.ear.headD (D.int 0)), ear := m.ear.tail }.next
  else if w = ("which" : Str) then (m.setBx (argN ps 0) (D.int 0)).next
  else if w = ("room" : Str) then (m.setBx (argN ps 0) (D.int m.ws)).next
  else m.next
/-- .. by another's mouth, hearing nothing: the state, what is said -/
def lowX (m : MSt) (w : Str) (ps : List D) : MSt × List D :=
  if w = ("say" : Str) then (m.next, [D.int (m.wN (argN ps 0))])
  else if w = ("hear" : Str) then ((m.setBx (argN ps 0) (D.int 0)).next, [])
  else if w = ("which" : Str) then ((m.setBx (argN ps 0) (D.int 0)).next, [])
  else if w = ("room" : Str) then ((m.setBx (argN ps 0) (D.int m.ws)).next, [])
  else (m.next, [])
def ownW (w : Str) : Bool := ([("say" : Str), ("hear" : Str), ("which" : Str), ("room" : Str), ("enter" : Str), ("alarm" : Str), ("stop" : Str)] : List Str).contains w
def ixW (w : Str) : Nat := if w = ("say" : Str) then 0 else if w = ("hear" : Str) then 1 else if w = ("which" : Str) then 2 else if w = ("room" : Str) then 3 else if w = ("enter" : Str) then 4 else if w = ("alarm" : Str) then 5 else 6
def isC (ks : List Bool) (w : Str) : Bool := ks.getD (ixW w) false
def rowStep (ks : List Bool) (m : MSt) (w : Str) (ps : List D) : MSt :=
  if w = ("call" : Str) then (if m.high then m.next else caught m.next 5 (m.place + 1) (argI ps 0))
  else if ownW w then (if m.high then m.own w ps else if isC ks w then m.caught 1 m.place 0 else (m.low w ps).counted)
  else if (m.plain w ps).2 = 0 then (m.plain w ps).1.counted else (m.plain w ps).1.caught (m.plain w ps).2 (m.plain w ps).1.place 0
def step1 (ks : List Bool) (m : MSt) : MSt := match m.coming with
  | .tup (.str w :: ps) => rowStep ks m w ps
  | .int i => m.caught i m.place 0
  | _ => m
def tick (m : MSt) : MSt := { m with many := m.many + 1 }
def step (ks : List Bool) (m : MSt) : MSt := step1 ks m.tick
/-- so many steps, or fewer; how many -/
def go (ks : List Bool) : Nat → MSt → MSt × Nat
  | 0, m => (m, 0)
  | n + 1, m => if m.why = ("" : Str) then ((go ks n (step ks m)).1, (go ks n (step ks m)).2 + 1) else (m, 0)
structure Ok (m : MSt) : Prop where
  c16 : 16 ≤ m.cells.length
  c40 : m.cells.length ≤ 40
  cg : ∀ x ∈ m.cells, GoodTh x
  b4 : m.boxes.length = 4
  bg : ∀ x ∈ m.boxes, GoodTh x
  pl : 0 ≤ m.place
  f0 : 0 ≤ m.wf
  s0 : 0 ≤ m.ws
  fs : m.wf + m.ws ≤ m.cells.length
  l0 : 0 ≤ m.left
  wd : ∀ x ∈ m.words, isNatD x
  er : ∀ x ∈ m.ear, isNatD x
  e20 : m.ear.length ≤ 20
  hi : m.high = true → m.wf = 0 ∧ m.ws = m.cells.length
def start (cells ear : List D) : MSt := { cells := cells, boxes := [.int 0, .int 0, .int 0, .int 0], place := 0, high := true, wf := 0, ws := cells.length, left := 0, words := [], ear := ear, why := ("" : Str), many := 0 }
theorem getD_mem {xs : List D} {k : Nat} (h : k < xs.length) : xs.getD k (D.int 0) ∈ xs := by
  rw [List.getD_eq_getElem?_getD, List.getElem?_eq_getElem h]
  exact List.getElem_mem h
theorem good0 {xs : List D} (h : ∀ x ∈ xs, GoodTh x) (k : Nat) : GoodTh (xs.getD k (D.int 0)) := by
  by_cases hk : k < xs.length
  · exact h _ (getD_mem hk)
  · rw [List.getD_eq_getElem?_getD, List.getElem?_eq_none (by omega)]
    exact .num 0 (by omega)
theorem worth_ok {d : D} (h : GoodTh d) : 0 ≤ worthD d ∧ worthD d ≤ 999 := by
  rcases h with ⟨n, hn⟩ | h
  · exact ⟨by show (0 : Int) ≤ n; omega, by show (n : Int) ≤ 999; omega⟩
  · cases h <;> exact ⟨(by decide : (0 : Int) ≤ 0), (by decide : (0 : Int) ≤ 999)⟩
theorem Ok.wN {m : MSt} (h : m.Ok) (b : Nat) : 0 ≤ m.wN b ∧ m.wN b ≤ 999 := worth_ok (good0 h.bg b)
theorem Ok.setBx {m : MSt} (h : m.Ok) (b : Nat) {v : D} (hv : GoodTh v) : (m.setBx b v).Ok :=
  { h with b4 := by show (m.boxes.set b v).length = 4; rw [List.length_set]; exact h.b4, bg := allM_set h.bg hv }
theorem Ok.next {m : MSt} (h : m.Ok) : m.next.Ok := { h with pl := by show 0 ≤ m.place + 1; have := h.pl; omega }
theorem Ok.tick {m : MSt} (h : m.Ok) : m.tick.Ok := { h with }
theorem Ok.why {m : MSt} (h : m.Ok) (w : Str) : ({ m with why := w } : MSt).Ok := { h with }
theorem len_kept (cells : List D) (a b c d e : Int) (boxes : List D) : (kept cells a b c d e boxes).length = cells.length := by simp [kept]
theorem good_kept {cells boxes : List D} {a b c d e : Int} (hc : ∀ x ∈ cells, GoodTh x) (hb : ∀ x ∈ boxes, GoodTh x) (ha : 0 ≤ a ∧ a ≤ 999) (hb' : 0 ≤ b ∧ b ≤ 999) (hc' : 0 ≤ c ∧ c ≤ 999) (hd : 0 ≤ d ∧ d ≤ 999) (he : 0 ≤ e ∧ e ≤ 999) : ∀ x ∈ kept cells a b c d e boxes, GoodTh x := by
  unfold kept
  exact allM_set (allM_set (allM_set (allM_set (allM_set (allM_set (allM_set (allM_set (allM_set hc (gt_num ha.1 ha.2)) (gt_num hb'.1 hb'.2)) (gt_num hc'.1 hc'.2)) (gt_num hd.1 hd.2)) (gt_num he.1 he.2)) (good0 hb 0)) (good0 hb 1)) (good0 hb 2)) (good0 hb 3)
theorem Ok.caught {m : MSt} (h : m.Ok) {n place more : Int} (hn : 0 ≤ n ∧ n ≤ 999) (hp : 0 ≤ place ∧ (m.high = false → place ≤ 999)) (hm : 0 ≤ more ∧ more ≤ 999) : (m.caught n place more).Ok := by
  unfold MSt.caught
  by_cases hh : m.high = true
  · rw [if_pos hh]; exact h.why _
  · have h1 := h.c16; have h2 := h.c40; have h3 := h.f0; have h4 := h.s0; have h5 := h.fs
    have lk := len_kept m.cells place m.wf m.ws n more m.boxes
    have gk := good_kept h.cg h.bg ⟨hp.1, hp.2 (by simpa using hh)⟩ (b := m.wf) ⟨h3, by omega⟩ (c := m.ws) ⟨h4, by omega⟩ hn hm
    have w5 := (worth_ok (good0 h.cg 5)).1
    rw [if_neg hh]
    generalize kept m.cells place m.wf m.ws n more m.boxes = ks at lk gk
    exact ⟨by rw [lk]; exact h1, by rw [lk]; exact h2, gk, h.b4, h.bg, w5, Int.le_refl _, by show (0 : Int) ≤ (m.cells.length : Int); omega, by rw [lk]; show (0 : Int) + (m.cells.length : Int) ≤ _; omega, Int.le_refl _, h.wd, h.er, h.e20, fun _ => ⟨rfl, by rw [lk]⟩⟩
theorem Ok.counted {m : MSt} (h : m.Ok) (hp : m.place ≤ 999 ∨ m.high = true) : m.counted.Ok := by
  unfold MSt.counted
  split
  · rename_i hc
    simp only [Bool.and_eq_true, Bool.not_eq_true', decide_eq_true_eq] at hc
    have hl : ({ m with left := m.left - 1 } : MSt).Ok := { h with l0 := by have := hc.2; show 0 ≤ m.left - 1; omega }
    split
    · refine hl.caught (by decide) ⟨h.pl, fun _ => ?_⟩ (by decide)
      rcases hp with hp | hp
      · exact hp
      · rw [hc.1] at hp; cases hp
    · exact hl
  · exact h
theorem thAt_ok {m : MSt} (h : m.Ok) (a : Int) : GoodTh (m.thAt a) := good0 h.cg _
theorem bxAt_ok {m : MSt} (h : m.Ok) (b : Nat) : GoodTh (m.bxAt b) := good0 h.bg _
theorem head_ok {xs : List D} (h : ∀ x ∈ xs, isNatD x) : GoodTh (xs.headD (D.int 0)) := by
  cases xs with
  | nil => exact .num 0 (by omega)
  | cons x r => obtain ⟨n, hn, rfl⟩ := h x List.mem_cons_self; exact .num n hn
theorem tail_ok {xs : List D} {P : D → Prop} (h : ∀ x ∈ xs, P x) : ∀ x ∈ xs.tail, P x := fun x hx => h x (List.mem_of_mem_tail hx)
theorem nat_worth {m : MSt} (h : m.Ok) (b : Nat) : isNatD (.int (m.wN b)) := natD (h.wN b).1 (h.wN b).2
theorem Ok.say {m : MSt} (h : m.Ok) (b : Nat) : ({ m with words := m.words ++ [D.int (m.wN b)] } : MSt).Ok := { h with wd := allM_app h.wd (allM_cons (nat_worth h b) allM_nil) }
theorem Ok.hear {m : MSt} (h : m.Ok) (b : Nat) : ({ m with boxes := m.boxes.set b (m.ear.headD (D.int 0)), ear := m.ear.tail } : MSt).Ok :=
  { h with b4 := by show (m.boxes.set b _).length = 4; rw [List.length_set]; exact h.b4, bg := allM_set h.bg (head_ok h.er), er := tail_ok h.er, e20 := by show m.ear.tail.length ≤ 20; rw [List.length_tail]; have := h.e20; omega }
theorem Ok.low {m : MSt} (h : m.Ok) (w : Str) (ps : List D) : (m.low w ps).Ok := by
  unfold MSt.low
  repeat' split
  · exact (h.say _).next
  · exact (h.hear _).next
  · exact (h.setBx _ (.num 0 (by omega))).next
  · exact (h.setBx _ (gt_num h.s0 (by have := h.fs; have := h.f0; have := h.c40; omega))).next
  · exact h.next
theorem Ok.own {m : MSt} (h : m.Ok) (w : Str) (ps : List D) : (m.own w ps).Ok := by
  unfold MSt.own
  repeat' split
  · exact (h.say _).next
  · exact (h.hear _).next
  · exact (h.setBx _ (.num 1 (by omega))).next
  · exact (h.setBx _ (gt_num h.s0 (by have := h.fs; have := h.f0; have := h.c40; omega))).next
  · exact Ok.next (m := { m with left := m.wN (argN ps 0) }) { h with l0 := (h.wN _).1 }
  · exact (h.why _).next
  · exact h.why _
  · rename_i hw
    exact { h with pl := (h.wN _).1, f0 := (h.wN _).1, s0 := (h.wN _).1, fs := by show m.wN (argN ps 0) + m.wN (argN ps 0 + 1) ≤ (m.cells.length : Int); omega, hi := fun z => by cases z }
/-- the row's parts -/
structure PsOk (ps : List D) : Prop where
  nums : ∀ k, 0 ≤ argI ps k ∧ argI ps k ≤ 999
  things : ∀ k, GoodTh (argD ps k)
theorem psOk_of {ps : List D} (h : ∀ x ∈ ps, isNatD x) : PsOk ps := by
  refine ⟨fun k => ?_, fun k => good0 (fun x hx => ?_) k⟩
  · unfold argI
    split
    · rename_i i e
      obtain ⟨n, hn, e2⟩ := h _ (List.mem_of_getElem? e)
      cases e2
      omega
    · omega
  · obtain ⟨n, hn, rfl⟩ := h x hx
    exact .num n hn
theorem row_ps {w : Str} {ps : List D} (h : GoodRow (.tup (.str w :: ps))) : PsOk ps := by
  refine psOk_of ?_
  cases h
  all_goals exact (by repeat' (first | exact allM_nil | refine allM_cons (natD (by omega) (by omega)) ?_))
theorem Ok.plain {m : MSt} (h : m.Ok) {w : Str} {ps : List D} (hr : PsOk ps) : (m.plain w ps).1.Ok ∧ ((m.plain w ps).2 = 0 ∨ (m.plain w ps).2 = 2 ∧ (m.plain w ps).1 = m) := by
  unfold MSt.plain
  repeat' split
  · exact ⟨(h.setBx _ (hr.things _)).next, .inl rfl⟩
  · exact ⟨(h.setBx _ (gt_num (Int.emod_nonneg _ (by decide)) (by have := Int.emod_lt_of_pos (m.wN (argN ps 1) + m.wN (argN ps 2)) (b := 1000) (by decide); omega))).next, .inl rfl⟩
  · exact ⟨(h.setBx _ (gt_num (Int.emod_nonneg _ (by decide)) (by have := Int.emod_lt_of_pos (m.wN (argN ps 1) - m.wN (argN ps 2)) (b := 1000) (by decide); omega))).next, .inl rfl⟩
  · exact ⟨(h.setBx _ (thAt_ok h _)).next, .inl rfl⟩
  · exact ⟨h, .inr ⟨rfl, rfl⟩⟩
  · refine ⟨Ok.next (m := { m with cells := m.cells.set (m.wf + m.wN (argN ps 0)).toNat (m.bxAt (argN ps 1)) }) { h with c16 := by rw [List.length_set]; exact h.c16, c40 := by rw [List.length_set]; exact h.c40, cg := allM_set h.cg (bxAt_ok h _), fs := by rw [List.length_set]; exact h.fs, hi := fun z => by rw [List.length_set]; exact h.hi z }, .inl rfl⟩
  · exact ⟨h, .inr ⟨rfl, rfl⟩⟩
  · exact ⟨{ h with pl := (hr.nums 0).1 }, .inl rfl⟩
  · exact ⟨{ h with pl := (hr.nums 1).1 }, .inl rfl⟩
  · exact ⟨h.next, .inl rfl⟩
  · exact ⟨h.next, .inl rfl⟩
theorem p_caught {m : MSt} (h : m.Ok) {n place more : Int} (hp : m.place ≤ 999) : (m.caught n place more).place ≤ 999 := by
  unfold MSt.caught
  split
  · exact hp
  · exact (worth_ok (good0 h.cg 5)).2
theorem p_counted {m : MSt} (h : m.Ok) (hp : m.place ≤ 999) : m.counted.place ≤ 999 := by
  unfold MSt.counted
  split
  · rename_i hc
    simp only [Bool.and_eq_true, Bool.not_eq_true', decide_eq_true_eq] at hc
    split
    · exact p_caught (m := { m with left := m.left - 1 }) { h with l0 := by have := hc.2; show 0 ≤ m.left - 1; omega } hp
    · exact hp
  · exact hp
theorem p_low {m : MSt} {w : Str} {ps : List D} : (m.low w ps).place = m.place + 1 := by
  unfold MSt.low
  repeat' split
  all_goals rfl
theorem p_own {m : MSt} (h : m.Ok) {w : Str} {ps : List D} (hp : m.place + 1 ≤ 999) : (m.own w ps).place ≤ 999 := by
  unfold MSt.own
  repeat' split
  · exact hp
  · exact hp
  · exact hp
  · exact hp
  · exact hp
  · exact hp
  · exact (by omega : m.place ≤ 999)
  · exact (h.wN _).2
theorem p_plain {m : MSt} {w : Str} {ps : List D} (hr : PsOk ps) (hp : m.place + 1 ≤ 999) : (m.plain w ps).1.place ≤ 999 := by
  unfold MSt.plain
  repeat' split
  · exact hp
  · exact hp
  · exact hp
  · exact hp
  · exact (by omega : m.place ≤ 999)
  · exact hp
  · exact (by omega : m.place ≤ 999)
  · exact (hr.nums 0).2
  · exact (hr.nums 1).2
  · exact hp
  · exact hp
theorem rowStep_ok {ks : List Bool} {m : MSt} (h : m.Ok) (hp : m.place + 1 ≤ 999) {w : Str} {ps : List D} (hr : PsOk ps) : (rowStep ks m w ps).Ok ∧ (rowStep ks m w ps).place ≤ 999 := by
  unfold rowStep
  have hp0 := h.pl
  repeat' split
  · exact ⟨h.next, hp⟩
  · exact ⟨h.next.caught (by decide) ⟨by omega, fun _ => hp⟩ (hr.nums 0), p_caught h.next hp⟩
  · exact ⟨h.own w ps, p_own h hp⟩
  · exact ⟨h.caught (by decide) ⟨hp0, fun _ => by omega⟩ (by decide), p_caught h (by omega)⟩
  · have e : (m.low w ps).place ≤ 999 := by rw [p_low]; exact hp
    exact ⟨(h.low w ps).counted (.inl e), p_counted (h.low w ps) e⟩
  · have e := p_plain (m := m) (w := w) hr hp
    exact ⟨(h.plain hr).1.counted (.inl e), p_counted (h.plain hr).1 e⟩
  · rename_i e0
    obtain ⟨h1, h2⟩ := h.plain (w := w) hr
    rcases h2 with h2 | ⟨h2, h3⟩
    · exact absurd h2 e0
    · rw [h3, h2]
      exact ⟨h.caught (by decide) ⟨hp0, fun _ => by omega⟩ (by decide), p_caught h (by omega)⟩
theorem coming_ok {m : MSt} (h : m.Ok) : m.coming = .int 2 ∨ m.coming = .int 3 ∨ (m.place < m.ws ∧ GoodRow m.coming ∧ m.coming = m.thAt m.place) := by
  unfold MSt.coming
  split
  · split
    · rename_i h1 h2
      refine .inr (.inr ⟨h1, ?_, rfl⟩)
      have hg := thAt_ok h m.place
      generalize m.thAt m.place = d at h2 hg
      cases hg with
      | num n hn => cases h2
      | row hg => exact hg
    · exact .inr (.inl rfl)
  · exact .inl rfl
theorem goodRow_form {d : D} (h : GoodRow d) : ∃ w ps, d = .tup (.str w :: ps) := by
  cases h <;> exact ⟨_, _, rfl⟩
theorem step_ok {ks : List Bool} {m : MSt} (h : m.Ok) (hp : m.place ≤ 999) : (step ks m).Ok ∧ (step ks m).place ≤ 999 := by
  unfold step step1
  have ht := h.tick
  have hp0 : 0 ≤ m.place := h.pl
  have hpt : m.tick.place ≤ 999 := hp
  rcases coming_ok ht with e | e | ⟨h1, h2, _⟩
  · rw [e]
    exact ⟨ht.caught (by decide) ⟨hp0, fun _ => hp⟩ (by decide), p_caught ht hpt⟩
  · rw [e]
    exact ⟨ht.caught (by decide) ⟨hp0, fun _ => hp⟩ (by decide), p_caught ht hpt⟩
  · obtain ⟨w, ps, e⟩ := goodRow_form h2
    rw [e] at h2 ⊢
    have : m.ws ≤ 40 := by have := h.fs; have := h.f0; have := h.c40; omega
    have h1' : m.place < m.ws := h1
    exact rowStep_ok ht (show m.place + 1 ≤ 999 by omega) (row_ps h2)
theorem go_ok {ks : List Bool} : ∀ {n : Nat} {m : MSt}, m.Ok → m.place ≤ 999 → (go ks n m).1.Ok ∧ (go ks n m).1.place ≤ 999
  | 0, m, h, hp => ⟨h, hp⟩
  | n + 1, m, h, hp => by
    unfold go
    split
    · exact go_ok (step_ok h hp).1 (step_ok h hp).2
    · exact ⟨h, hp⟩
theorem start_ok {cells ear : List D} (hc : Cells cells) (he : ear.length ≤ 20 ∧ ∀ x ∈ ear, isNatD x) : (start cells ear).Ok ∧ (start cells ear).place ≤ 999 :=
  ⟨⟨hc.1, hc.2.1, hc.2.2, rfl, allM_cons (.num 0 (by omega)) (allM_cons (.num 0 (by omega)) (allM_cons (.num 0 (by omega)) (allM_cons (.num 0 (by omega)) allM_nil))), Int.le_refl _, Int.le_refl _, by show (0 : Int) ≤ (cells.length : Int); omega, by show (0 : Int) + (cells.length : Int) ≤ (cells.length : Int); omega, Int.le_refl _, allM_nil, he.2, he.1, fun _ => ⟨rfl, rfl⟩⟩, by show (0 : Int) ≤ 999; decide⟩
end MSt


/-! ### what cells stand upon -/
inductive BodyIs (G : DH) : Nat → Addr → String → Addr → Nat → Nat → Prop
  | body {b t : Addr} {c : String} {n : Nat} (hc : c = "Body") (h : G b = some (.ins "Body" [("things", .ref t)])) : BodyIs G 0 b c t 0 n
  | ground {g t : Addr} {c : String} {k w : D} {n : Nat} (hc : c = "Ground") (h : G g = some (.ins "Ground" [("kind", k), ("wide", .int (n : Int)), ("cells", .ref t), ("words", w), ("deep", .int 0)])) : BodyIs G 0 g c t 0 n
  | room {d : Nat} {r hst g f t : Addr} {c c2 : String} {k : Int} {kd w dp up_ way sts shs fr : D} {off n n' first : Nat} {kvs : List (Key × D)}
      (hc : c2 = "Room") (h : G r = some (.ins "Room" [("host", .ref hst), ("number", .int k), ("kind", kd), ("wide", .int (n : Int)), ("words", w), ("deep", dp)]))
      (hh : G hst = some (.ins "Host" [("ground", .ref g), ("way", way), ("firsts", .ref f), ("states", sts), ("shares", shs), ("fresh", fr), ("upon", up_)]))
      (hf : G f = some (.dct kvs)) (hk : getD kvs (.inl k) = some (.int (first : Int))) (hg : BodyIs G d g c t off n') (hl : first + n ≤ n') : BodyIs G (d + 1) r c2 t (off + first) n
def supO : DO → Bool
  | .ins c _ => c != "State" && c != "Machine"
  | .dct _ => true
  | _ => false
theorem BodyIs.mono {G G' : DH} (k : ∀ a o, supO o = true → G a = some o → G' a = some o) : ∀ {d b c t off n}, BodyIs G d b c t off n → BodyIs G' d b c t off n
  | _, _, _, _, _, _, .body hc h => .body hc (k _ _ rfl h)
  | _, _, _, _, _, _, .ground hc h => .ground hc (k _ _ rfl h)
  | _, _, _, _, _, _, .room hc h hh hf hk hg hl => .room hc (k _ _ rfl h) (k _ _ rfl hh) (k _ _ rfl hf) hk (BodyIs.mono k hg) hl
theorem BodyIs.put {G : DH} {d : Nat} {b t p : Addr} {c : String} {off n : Nat} {o u : DO} (hp : G p = some u) (hu : supO u = false) (h : BodyIs G d b c t off n) : BodyIs (up G p o) d b c t off n :=
  h.mono fun a v hv e => by
    have : a ≠ p := fun z => by subst z; rw [hp] at e; cases e; rw [hu] at hv; cases hv
    rw [up_ne this]; exact e
theorem BodyIs.new {G : DH} {d : Nat} {b t p : Addr} {c : String} {off n : Nat} {o : DO} (hp : G p = none) (h : BodyIs G d b c t off n) : BodyIs (up G p o) d b c t off n :=
  h.mono fun a v _ e => by rw [up_ne (D.ne_of e hp)]; exact e
theorem BodyIs.frm {G G' : DH} {xs : List Addr} {d : Nat} {b t : Addr} {c : String} {off n : Nat} (f : Fr xs G G') (hx : ∀ a ∈ xs, ∃ o, G a = some o ∧ supO o = false) (h : BodyIs G d b c t off n) : BodyIs G' d b c t off n :=
  h.mono fun a v hv e => f a (fun z => by obtain ⟨o, ho, hs⟩ := hx a z; rw [e] at ho; cases ho; rw [hv] at hs; cases hs) v e
theorem BodyIs.cls {G : DH} {d : Nat} {b t : Addr} {c : String} {off n : Nat} (h : BodyIs G d b c t off n) : recv G (.ref b) = some c ∧ (c = "Body" ∨ c = "Ground" ∨ c = "Room") := by
  cases h with
  | body hc h => subst hc; exact ⟨hp_recv h, .inl rfl⟩
  | ground hc h => subst hc; exact ⟨hp_recv h, .inr (.inl rfl)⟩
  | room hc h => subst hc; exact ⟨hp_recv h, .inr (.inr rfl)⟩
def sp_peek (d : Nat) (c : String) : DSp := fun ds G Q _ => ∃ (b t : Addr) (off n k : Nat) (L : List D) (i : Int), ds = [.ref b, .int i] ∧ (k ≤ d ∧ BodyIs G k b c t off n ∧ G t = some (.lst L) ∧ off + i.toNat < L.length ∧ 0 ≤ i ∧ i < n) ∧ Q (L.getD (off + i.toNat) (.int 0)) G
def sp_poke (d : Nat) (c : String) : DSp := fun ds G Q _ => ∃ (b t : Addr) (off n k : Nat) (L : List D) (i : Int) (v : D), ds = [.ref b, .int i, v] ∧ (k ≤ d ∧ BodyIs G k b c t off n ∧ G t = some (.lst L) ∧ off + i.toNat < L.length ∧ 0 ≤ i ∧ i < n) ∧ Q .non (up G t (.lst (L.set (off + i.toNat) v)))
abbrev tabOf (sp : String → DSp) : List (String × DSp) := [("Body", sp "Body"), ("Ground", sp "Ground"), ("Room", sp "Room")]
def tab_peek : List (String × DSp) := tabOf (sp_peek 3)
def tab_poke : List (String × DSp) := tabOf (sp_poke 3)
theorem tab_at {sp : String → DSp} {c : String} (h : c = "Body" ∨ c = "Ground" ∨ c = "Room") : (tabOf sp).lookup c = some (sp c) := by
  rcases h with rfl | rfl | rfl <;> rfl
theorem meth_peek {G : DH} {d : Nat} {b t : Addr} {c : String} {off n : Nat} (h : BodyIs G d b c t off n) {K : DSp → Prop} (k : K (sp_peek 3 c)) : onSome (recv G (.ref b)) fun c => onSome (tab_peek.lookup c) K :=
  onSome_i h.cls.1 (onSome_i (tab_at h.cls.2) k)
theorem meth_poke {G : DH} {d : Nat} {b t : Addr} {c : String} {off n : Nat} (h : BodyIs G d b c t off n) {K : DSp → Prop} (k : K (sp_poke 3 c)) : onSome (recv G (.ref b)) fun c => onSome (tab_poke.lookup c) K :=
  onSome_i h.cls.1 (onSome_i (tab_at h.cls.2) k)
def t_Body_peek : TSD := (sRet (dBin rIxD (dFld (dVar 0) "things") (dVar 1)))
def t_Body_poke : TSD := (sAsg (dVar 2) (gSubL (dFld (dVar 0) "things") (dVar 1)))
local macro_rules | `(tactic| exists "go") => `(tactic| ((try (conv => whnf)); repeat' ((first | refine onSome_i rfl ?_ | ((with_reducible apply onSome_i); focus exists "hp") | ((with_reducible apply onSome_i); focus exists "fl") | with_reducible refine onSome_i atI0 ?_ | with_reducible refine onSome_i atI1 ?_ | with_reducible refine onSome_i atI2 ?_ | with_reducible refine onSome_i atI3 ?_ | refine ifB_t rfl ?_ | refine ifB_f rfl ?_ | refine ifB_not ?_ | refine ifB_if ?_ | refine ifB_if1 ?_ | refine rEq_iq ?_ | refine rEq_sq ?_ | refine rEq_bq ?_ | refine rNe_iq ?_ | refine rNe_sq ?_ | refine rNe_bq ?_ | (apply rEq_tt; (focus exact rfl); (focus exact rfl)) | (apply rNe_tt; (focus exact rfl); (focus exact rfl)) | (apply rEq_ti; focus exact rfl) | (apply rNe_ti; focus exact rfl) | ((with_reducible apply onSome_i); focus ((first | apply hp_len | apply hp_lstOf | apply hp_mutOf | apply hp_seqOf | apply hp_recv | apply hp_lst | apply hp_ins | apply hp_dct | apply hp_dctR); exists "at")) | ((with_reducible apply onSome_i); focus ((apply hp_fdcR); exists "at")) | ((with_reducible apply And.intro); focus exists "sd") | fail) <;> (try (conv => whnf)))))
local macro_rules | `(tactic| exists "run") => `(tactic| ((try (conv => whnf)); repeat' ((first | refine onSome_i rfl ?_ | ((with_reducible apply onSome_i); focus exists "hp") | ((with_reducible apply onSome_i); focus exists "fl") | with_reducible refine onSome_i atI0 ?_ | with_reducible refine onSome_i atI1 ?_ | with_reducible refine onSome_i atI2 ?_ | with_reducible refine onSome_i atI3 ?_ | refine ifB_t rfl ?_ | refine ifB_f rfl ?_ | refine ifB_not ?_ | refine ifB_if ?_ | refine ifB_if1 ?_ | refine rEq_iq ?_ | refine rEq_sq ?_ | refine rEq_bq ?_ | refine rNe_iq ?_ | refine rNe_sq ?_ | refine rNe_bq ?_ | (apply rEq_tt; (focus exact rfl); (focus exact rfl)) | (apply rNe_tt; (focus exact rfl); (focus exact rfl)) | (apply rEq_ti; focus exact rfl) | (apply rNe_ti; focus exact rfl) | ((with_reducible apply onSome_i); focus ((first | apply hp_len | apply hp_lstOf | apply hp_mutOf | apply hp_seqOf | apply hp_recv | apply hp_lst | apply hp_ins | apply hp_dct | apply hp_dctR); exists "at")) | ((with_reducible apply onSome_i); focus ((apply hp_fdcR); exists "at")) | ((with_reducible apply And.intro); focus exists "sd") | refine ref_i ?_ | refine eq_i ?_ | exists "new" | fail) <;> (try (conv => whnf)))))
local macro_rules | `(tactic| exists "all") => `(tactic| ((try (conv => whnf)); repeat' ((first | refine onSome_i rfl ?_ | ((with_reducible apply onSome_i); focus exists "hp") | ((with_reducible apply onSome_i); focus exists "fl") | with_reducible refine onSome_i atI0 ?_ | with_reducible refine onSome_i atI1 ?_ | with_reducible refine onSome_i atI2 ?_ | with_reducible refine onSome_i atI3 ?_ | refine ifB_t rfl ?_ | refine ifB_f rfl ?_ | refine ifB_not ?_ | refine ifB_if ?_ | refine ifB_if1 ?_ | refine rEq_iq ?_ | refine rEq_sq ?_ | refine rEq_bq ?_ | refine rNe_iq ?_ | refine rNe_sq ?_ | refine rNe_bq ?_ | (apply rEq_tt; (focus exact rfl); (focus exact rfl)) | (apply rNe_tt; (focus exact rfl); (focus exact rfl)) | (apply rEq_ti; focus exact rfl) | (apply rNe_ti; focus exact rfl) | ((with_reducible apply onSome_i); focus ((first | apply hp_len | apply hp_lstOf | apply hp_mutOf | apply hp_seqOf | apply hp_recv | apply hp_lst | apply hp_ins | apply hp_dct | apply hp_dctR); exists "at")) | ((with_reducible apply onSome_i); focus ((apply hp_fdcR); exists "at")) | ((with_reducible apply And.intro); focus exists "sd") | refine ref_i ?_ | refine eq_i ?_ | exists "new" | exact All.nil | refine All.cons ?_ ?_ | (refine ix_all ?_ ?_; focus exists "sd") | refine ifB_d (fun _ => ?_) fun _ => ?_ | refine ifB_nd (fun _ => ?_) fun _ => ?_ | fail) <;> (try (conv => whnf)))))

theorem walk_Body_peek (dd : Nat) : ∀ ds G Q X, sp_peek dd "Body" ds G Q X → t_Body_peek (ends Q X) (startD 2 ds) G := by
  intro ds G Q X hsp
  obtain ⟨b, t, off, n, k, L, i, rfl, ⟨hk, hb, ht, hl, h0, hn⟩, hQ⟩ := hsp
  cases hb with
  | ground hc => exact absurd hc (by decide)
  | room hc => exact absurd hc (by decide)
  | body hc h =>
    obtain ⟨j, rfl⟩ : ∃ j : Nat, i = (j : Int) := ⟨i.toNat, by omega⟩
    exists "run"
    refine onSome_i (atI_nat (List.getElem?_eq_getElem (by omega))) ?_
    rw [List.getD_eq_getElem?_getD, show 0 + ((j : Int)).toNat = j by omega, List.getElem?_eq_getElem (by omega)] at hQ
    exact hQ
theorem walk_Body_poke (dd : Nat) : ∀ ds G Q X, sp_poke dd "Body" ds G Q X → t_Body_poke (ends Q X) (startD 3 ds) G := by
  intro ds G Q X hsp
  obtain ⟨b, t, off, n, k, L, i, v, rfl, ⟨hk, hb, ht, hl, h0, hn⟩, hQ⟩ := hsp
  cases hb with
  | ground hc => exact absurd hc (by decide)
  | room hc => exact absurd hc (by decide)
  | body hc h =>
    obtain ⟨j, rfl⟩ : ∃ j : Nat, i = (j : Int) := ⟨i.toNat, by omega⟩
    exists "run"
    refine onSome_i (ixN_lt (by omega)) ?_
    rw [show 0 + ((j : Int)).toNat = j by omega] at hQ
    exact hQ
/-! ### a state in the heap -/
structure SA where
  s : Addr
  b : Addr
  t : Addr
  bx : Addr
  w : Addr
  e : Addr
abbrev stObj (A : SA) (m : MSt) : DO := .ins "State" [("body", .ref A.b), ("wide", .int (m.cells.length : Int)), ("boxes", .ref A.bx), ("place", .int m.place), ("high", .bl m.high), ("window", .tup [.int m.wf, .int m.ws]), ("left", .int m.left), ("words", .ref A.w), ("ear", .ref A.e), ("why", .str m.why), ("many", .int m.many)]
structure StAt (G : DH) (A : SA) (pre post : List D) (m : MSt) : Prop where
  st : G A.s = some (stObj A m)
  bd : ∃ d c, d ≤ 3 ∧ BodyIs G d A.b c A.t pre.length m.cells.length
  tl : G A.t = some (.lst (pre ++ m.cells ++ post))
  bx : G A.bx = some (.lst m.boxes)
  wd : G A.w = some (.lst m.words)
  er : G A.e = some (.lst m.ear)
  n1 : A.t ≠ A.bx
  n2 : A.t ≠ A.w
  n3 : A.t ≠ A.e
  n4 : A.bx ≠ A.w
  n5 : A.bx ≠ A.e
  n6 : A.w ≠ A.e
theorem ne_il {G : DH} {a b : Addr} {c : String} {fs : List (String × D)} {xs : List D} (ha : G a = some (.ins c fs)) (hb : G b = some (.lst xs)) : a ≠ b := fun z => by subst z; rw [ha] at hb; cases hb
theorem StAt.s1 {G : DH} {A : SA} {pre post : List D} {m : MSt} (h : StAt G A pre post m) : A.s ≠ A.t := ne_il h.st h.tl
theorem StAt.s2 {G : DH} {A : SA} {pre post : List D} {m : MSt} (h : StAt G A pre post m) : A.s ≠ A.bx := ne_il h.st h.bx
theorem StAt.s3 {G : DH} {A : SA} {pre post : List D} {m : MSt} (h : StAt G A pre post m) : A.s ≠ A.w := ne_il h.st h.wd
theorem StAt.s4 {G : DH} {A : SA} {pre post : List D} {m : MSt} (h : StAt G A pre post m) : A.s ≠ A.e := ne_il h.st h.er
abbrev SA.fp (A : SA) : List Addr := [A.s, A.t, A.bx, A.w, A.e]
/-- another's heap: what is not here stays -/
theorem StAt.frm {G G' : DH} {xs : List Addr} {A : SA} {pre post : List D} {m : MSt} (h : StAt G A pre post m) (f : Fr xs G G') (hx : ∀ a ∈ xs, ∃ o, G a = some o ∧ supO o = false) (ds : ∀ a ∈ xs, a ∉ A.fp) : StAt G' A pre post m := by
  have k : ∀ a ∈ A.fp, a ∉ xs := fun a ha hb => ds a hb ha
  obtain ⟨d, c, h3, hb⟩ := h.bd
  exact ⟨f _ (k _ (by simp [SA.fp])) _ h.st, ⟨d, c, h3, hb.frm f hx⟩, f _ (k _ (by simp [SA.fp])) _ h.tl, f _ (k _ (by simp [SA.fp])) _ h.bx, f _ (k _ (by simp [SA.fp])) _ h.wd, f _ (k _ (by simp [SA.fp])) _ h.er, h.n1, h.n2, h.n3, h.n4, h.n5, h.n6⟩
theorem StAt.sub {G G' : DH} {A : SA} {pre post : List D} {m : MSt} (h : StAt G A pre post m) (f : Sub G G') : StAt G' A pre post m := h.frm (Fr.of f : Fr [] G G') (fun _ z => by simp at z) (fun _ z => by simp at z)
/-- the State's own fields are stored -/
theorem StAt.setS {G : DH} {A : SA} {pre post : List D} {m m' : MSt} {o : DO} (h : StAt G A pre post m) (ho : o = stObj A m') (e1 : m'.cells = m.cells) (e2 : m'.boxes = m.boxes) (e3 : m'.words = m.words) (e4 : m'.ear = m.ear) : StAt (up G A.s o) A pre post m' := by
  obtain ⟨d, c, h3, hb⟩ := h.bd
  subst ho
  exact ⟨up_same, ⟨d, c, h3, by rw [e1]; exact hb.put h.st rfl⟩, (up_ne (Ne.symm h.s1)).trans (by rw [e1]; exact h.tl), (up_ne (Ne.symm h.s2)).trans (by rw [e2]; exact h.bx), (up_ne (Ne.symm h.s3)).trans (by rw [e3]; exact h.wd), (up_ne (Ne.symm h.s4)).trans (by rw [e4]; exact h.er), h.n1, h.n2, h.n3, h.n4, h.n5, h.n6⟩
theorem StAt.setSW {G : DH} {A : SA} {pre post : List D} {m m' : MSt} {o : DO} {n : Nat} (h : StAt G A pre post m) (ho : o = .ins "State" [("body", .ref A.b), ("wide", .int (n : Int)), ("boxes", .ref A.bx), ("place", .int m'.place), ("high", .bl m'.high), ("window", .tup [.int m'.wf, .int m'.ws]), ("left", .int m'.left), ("words", .ref A.w), ("ear", .ref A.e), ("why", .str m'.why), ("many", .int m'.many)]) (hn : n = m'.cells.length) (e1 : m'.cells = m.cells) (e2 : m'.boxes = m.boxes) (e3 : m'.words = m.words) (e4 : m'.ear = m.ear) : StAt (up G A.s o) A pre post m' :=
  h.setS (by rw [ho, hn]) e1 e2 e3 e4
theorem StAt.setT {G : DH} {A : SA} {pre post : List D} {m : MSt} {xs cs : List D} (h : StAt G A pre post m) (e : xs = pre ++ cs ++ post) (hl : cs.length = m.cells.length) : StAt (up G A.t (.lst xs)) A pre post { m with cells := cs } := by
  obtain ⟨d, c, h3, hb⟩ := h.bd
  subst e
  refine ⟨(up_ne h.s1).trans ?_, ⟨d, c, h3, ?_⟩, up_same, (up_ne (Ne.symm h.n1)).trans h.bx, (up_ne (Ne.symm h.n2)).trans h.wd, (up_ne (Ne.symm h.n3)).trans h.er, h.n1, h.n2, h.n3, h.n4, h.n5, h.n6⟩
  · rw [h.st]; unfold stObj; rw [hl]
  · rw [hl]; exact hb.put h.tl rfl
theorem StAt.setB {G : DH} {A : SA} {pre post : List D} {m : MSt} {xs : List D} (h : StAt G A pre post m) : StAt (up G A.bx (.lst xs)) A pre post { m with boxes := xs } := by
  obtain ⟨d, c, h3, hb⟩ := h.bd
  exact ⟨(up_ne h.s2).trans h.st, ⟨d, c, h3, hb.put h.bx rfl⟩, (up_ne h.n1).trans h.tl, up_same, (up_ne (Ne.symm h.n4)).trans h.wd, (up_ne (Ne.symm h.n5)).trans h.er, h.n1, h.n2, h.n3, h.n4, h.n5, h.n6⟩
theorem StAt.setW {G : DH} {A : SA} {pre post : List D} {m : MSt} {xs : List D} (h : StAt G A pre post m) : StAt (up G A.w (.lst xs)) A pre post { m with words := xs } := by
  obtain ⟨d, c, h3, hb⟩ := h.bd
  exact ⟨(up_ne h.s3).trans h.st, ⟨d, c, h3, hb.put h.wd rfl⟩, (up_ne h.n2).trans h.tl, (up_ne h.n4).trans h.bx, up_same, (up_ne (Ne.symm h.n6)).trans h.er, h.n1, h.n2, h.n3, h.n4, h.n5, h.n6⟩
theorem StAt.setE {G : DH} {A : SA} {pre post : List D} {m : MSt} {xs : List D} (h : StAt G A pre post m) : StAt (up G A.e (.lst xs)) A pre post { m with ear := xs } := by
  obtain ⟨d, c, h3, hb⟩ := h.bd
  exact ⟨(up_ne h.s4).trans h.st, ⟨d, c, h3, hb.put h.er rfl⟩, (up_ne h.n3).trans h.tl, (up_ne h.n5).trans h.bx, (up_ne h.n6).trans h.wd, up_same, h.n1, h.n2, h.n3, h.n4, h.n5, h.n6⟩
theorem StAt.new {G : DH} {A : SA} {pre post : List D} {m : MSt} {p : Addr} {o : DO} (h : StAt G A pre post m) (hp : G p = none) : StAt (up G p o) A pre post m := h.sub (.new hp)
theorem StAt.cast {G : DH} {A : SA} {pre post : List D} {m m' : MSt} (h : StAt G A pre post m) (e : m = m') : StAt G A pre post m' := e ▸ h


namespace MSt
def cellM (m : MSt) (a : Int) : D := if a < m.ws then .int (m.wf + a) else .non
end MSt
open MSt
def sp_State_cell : DSp := fun ds G Q _ => ∃ (A : SA) (pre post : List D) (m : MSt) (a : Int), ds = [.ref A.s, .int a] ∧ StAt G A pre post m ∧ Q (m.cellM a) G
theorem use_cell {A : SA} {pre post : List D} {m : MSt} {a : Int} {G : DH} {Q : DQ} {X : DX} (h : StAt G A pre post m) (k1 : a < m.ws → Q (.int (m.wf + a)) G) (k2 : ¬ a < m.ws → Q .non G) : Ir sp_State_cell [.ref A.s, .int a] G Q X := Ir_i ⟨A, pre, post, m, a, rfl, h, by
  unfold cellM
  split
  · exact k1 ‹_›
  · exact k2 ‹_›⟩
def tab_cell : List (String × DSp) := [("State", sp_State_cell)]
def sp_State_coming : DSp := fun ds G Q _ => ∃ (A : SA) (pre post : List D) (m : MSt), ds = [.ref A.s] ∧ (StAt G A pre post m ∧ m.Ok) ∧ Q m.coming G
theorem use_coming {A : SA} {pre post : List D} {m : MSt} {G : DH} {Q : DQ} {X : DX} (h : StAt G A pre post m ∧ m.Ok) (k : Q m.coming G) : Ir sp_State_coming [.ref A.s] G Q X := Ir_i ⟨A, pre, post, m, rfl, h, k⟩
def tab_coming : List (String × DSp) := [("State", sp_State_coming)]
theorem use_peek {G : DH} {b t : Addr} {c : String} {off n d : Nat} {L : List D} {i : Int} {Q : DQ} {X : DX} (h : d ≤ 3 ∧ BodyIs G d b c t off n ∧ G t = some (.lst L) ∧ off + i.toNat < L.length ∧ 0 ≤ i ∧ i < n) (k : Q (L.getD (off + i.toNat) (.int 0)) G) : Ir (sp_peek 3 c) [.ref b, .int i] G Q X := Ir_i ⟨b, t, off, n, d, L, i, rfl, h, k⟩
theorem use_poke {G : DH} {b t : Addr} {c : String} {off n d : Nat} {L : List D} {i : Int} {v : D} {Q : DQ} {X : DX} (h : d ≤ 3 ∧ BodyIs G d b c t off n ∧ G t = some (.lst L) ∧ off + i.toNat < L.length ∧ 0 ≤ i ∧ i < n) (k : Q .non (up G t (.lst (L.set (off + i.toNat) v)))) : Ir (sp_poke 3 c) [.ref b, .int i, v] G Q X := Ir_i ⟨b, t, off, n, d, L, i, v, rfl, h, k⟩
theorem len3 (pre cs post : List D) : pre.length + cs.length ≤ (pre ++ cs ++ post).length := by simp only [List.length_append]; omega
theorem getD3 (pre cs post : List D) (k : Nat) (h : k < cs.length) : (pre ++ cs ++ post).getD (pre.length + k) (.int 0) = cs.getD k (.int 0) := by
  rw [List.getD_eq_getElem?_getD, List.getD_eq_getElem?_getD, List.append_assoc, List.getElem?_append_right (by omega), show pre.length + k - pre.length = k by omega, List.getElem?_append_left h]
theorem set3 (pre cs post : List D) (k : Nat) (v : D) (h : k < cs.length) : (pre ++ cs ++ post).set (pre.length + k) v = pre ++ cs.set k v ++ post := by
  rw [List.append_assoc, List.set_append_right _ _ (by omega), show pre.length + k - pre.length = k by omega, List.set_append_left _ _ h, List.append_assoc]
/-- a cell is looked at, or laid, by the body of a state -/
theorem peek_at {G : DH} {A : SA} {pre post : List D} {m : MSt} {K : DSp → Prop} (h : StAt G A pre post m) (k : ∀ c, (∀ (i : Int) (Q : DQ) (X : DX), 0 ≤ i → i < m.cells.length → Q (m.cells.getD i.toNat (.int 0)) G → Ir (sp_peek 3 c) [.ref A.b, .int i] G Q X) → K (sp_peek 3 c)) : onSome (recv G (.ref A.b)) fun c => onSome (tab_peek.lookup c) K := by
  obtain ⟨d, c, h3, hb⟩ := h.bd
  refine meth_peek hb (k c fun i Q X h0 h1 hq => use_peek ⟨h3, hb, h.tl, (by have := len3 pre m.cells post; omega), h0, h1⟩ ?_)
  rw [getD3 _ _ _ _ (by omega)]
  exact hq
theorem poke_at {G : DH} {A : SA} {pre post : List D} {m : MSt} {K : DSp → Prop} (h : StAt G A pre post m) (k : ∀ c, (∀ (i : Int) (v : D) (Q : DQ) (X : DX), 0 ≤ i → i < m.cells.length → Q .non (up G A.t (.lst (pre ++ m.cells.set i.toNat v ++ post))) → Ir (sp_poke 3 c) [.ref A.b, .int i, v] G Q X) → K (sp_poke 3 c)) : onSome (recv G (.ref A.b)) fun c => onSome (tab_poke.lookup c) K := by
  obtain ⟨d, c, h3, hb⟩ := h.bd
  refine meth_poke hb (k c fun i v Q X h0 h1 hq => use_poke ⟨h3, hb, h.tl, (by have := len3 pre m.cells post; omega), h0, h1⟩ ?_)
  rw [set3 _ _ _ _ _ (by omega)]
  exact hq
def t_State_cell : TSD := (sRet (dIfE (dT (dBin rLtD (dVar 1) (dBin rIxD (dFld (dVar 0) "window") (dC (.int 1))))) (dBin rAddD (dBin rIxD (dFld (dVar 0) "window") (dC (.int 0))) (dVar 1)) (dC .non)))
def t_State_coming : TSD := (sSeq (sAsg (dMeth tab_cell (dVar 0) (dCons (dFld (dVar 0) "place") dNil)) (gSlot 1)) (sSeq (sIf (dT (dIsN false (dVar 1))) (sRet (dC c_BEYOND)) sNx) (sSeq (sAsg (dMeth tab_peek (dFld (dVar 0) "body") (dCons (dVar 1) dNil)) (gSlot 2)) (sRet (dIfE (dT (dIsi ["tuple"] (dVar 2))) (dVar 2) (dC c_NO_ROW))))))
def t_State_plain : TSD := (sSeq (sAsg (dBin rIxD (dVar 1) (dC (.int 0))) (gSlot 2)) (sSeq (sAsg (dBin rAddD (dFld (dVar 0) "place") (dC (.int 1))) (gSlot 3)) (sSeq (sIf (dT (dBin rEqD (dVar 2) (dC (.str ("put" : Str))))) (sAsg (dBin rIxD (dVar 1) (dC (.int 2))) (gSubL (dFld (dVar 0) "boxes") (dBin rIxD (dVar 1) (dC (.int 1))))) (sIf (dT (dBin rInD2 (dVar 2) (dTup (dCons (dC (.str ("add" : Str))) (dCons (dC (.str ("less" : Str))) dNil))))) (sSeq (sPar 4 5 (dCons (dCall sp_worth (dCons (dBin rIxD (dFld (dVar 0) "boxes") (dBin rIxD (dVar 1) (dC (.int 2)))) dNil)) (dCons (dCall sp_worth (dCons (dBin rIxD (dFld (dVar 0) "boxes") (dBin rIxD (dVar 1) (dC (.int 3)))) dNil)) dNil))) (sAsg (dBin rModD (dIfE (dT (dBin rEqD (dVar 2) (dC (.str ("add" : Str))))) (dBin rAddD (dVar 4) (dVar 5)) (dBin rSubD (dVar 4) (dVar 5))) (dC (.int 1000))) (gSubL (dFld (dVar 0) "boxes") (dBin rIxD (dVar 1) (dC (.int 1)))))) (sIf (dT (dBin rInD2 (dVar 2) (dTup (dCons (dC (.str ("load" : Str))) (dCons (dC (.str ("store" : Str))) dNil))))) (sSeq (sAsg (dMeth tab_cell (dVar 0) (dCons (dCall sp_worth (dCons (dBin rIxD (dFld (dVar 0) "boxes") (dIfE (dT (dBin rEqD (dVar 2) (dC (.str ("load" : Str))))) (dBin rIxD (dVar 1) (dC (.int 2))) (dBin rIxD (dVar 1) (dC (.int 1))))) dNil)) dNil)) (gSlot 6)) (sSeq (sIf (dT (dIsN false (dVar 6))) (sRet (dC c_BEYOND)) sNx) (sIf (dT (dBin rEqD (dVar 2) (dC (.str ("load" : Str))))) (sAsg (dMeth tab_peek (dFld (dVar 0) "body") (dCons (dVar 6) dNil)) (gSubL (dFld (dVar 0) "boxes") (dBin rIxD (dVar 1) (dC (.int 1))))) (sDo (dMeth tab_poke (dFld (dVar 0) "body") (dCons (dVar 6) (dCons (dBin rIxD (dFld (dVar 0) "boxes") (dBin rIxD (dVar 1) (dC (.int 2)))) dNil))))))) (sIf (dOrT (dT (dBin rEqD (dVar 2) (dC (.str ("go" : Str))))) (dAndT (dT (dBin rEqD (dVar 2) (dC (.str ("zero" : Str))))) (dT (dBin rEqD (dCall sp_worth (dCons (dBin rIxD (dFld (dVar 0) "boxes") (dBin rIxD (dVar 1) (dC (.int 1)))) dNil)) (dC (.int 0)))))) (sAsg (dBin rIxD (dVar 1) (dNeg (dC (.int 1)))) (gSlot 3)) sNx)))) (sSeq (sAsg (dVar 3) (gFld "State" (dVar 0) "place")) (sRet (dC (.int 0)))))))
def t_State_own : TSD := (sSeq (sAsg (dBin rIxD (dVar 1) (dC (.int 0))) (gSlot 2)) (sSeq (sAsg (dBin rAddD (dFld (dVar 0) "place") (dC (.int 1))) (gSlot 3)) (sSeq (sIf (dT (dBin rEqD (dVar 2) (dC (.str ("say" : Str))))) (sDo (dBM isL rAppD (dFld (dVar 0) "words") (dCons (dCall sp_worth (dCons (dBin rIxD (dFld (dVar 0) "boxes") (dBin rIxD (dVar 1) (dC (.int 1)))) dNil)) dNil))) (sIf (dT (dBin rEqD (dVar 2) (dC (.str ("hear" : Str))))) (sAsg (dIfE (dT (dBin rNeD (dFld (dVar 0) "ear") (dLst dNil))) (dBM isL rPop0D (dFld (dVar 0) "ear") (dCons (dC (.int 0)) dNil)) (dC (.int 0))) (gSubL (dFld (dVar 0) "boxes") (dBin rIxD (dVar 1) (dC (.int 1))))) (sIf (dT (dBin rEqD (dVar 2) (dC (.str ("which" : Str))))) (sAsg (dC (.int 1)) (gSubL (dFld (dVar 0) "boxes") (dBin rIxD (dVar 1) (dC (.int 1))))) (sIf (dT (dBin rEqD (dVar 2) (dC (.str ("room" : Str))))) (sAsg (dBin rIxD (dFld (dVar 0) "window") (dC (.int 1))) (gSubL (dFld (dVar 0) "boxes") (dBin rIxD (dVar 1) (dC (.int 1))))) (sIf (dT (dBin rEqD (dVar 2) (dC (.str ("alarm" : Str))))) (sAsg (dCall sp_worth (dCons (dBin rIxD (dFld (dVar 0) "boxes") (dBin rIxD (dVar 1) (dC (.int 1)))) dNil)) (gFld "State" (dVar 0) "left")) (sIf (dT (dBin rEqD (dVar 2) (dC (.str ("stop" : Str))))) (sAsg (dC (.str ("stop" : Str))) (gFld "State" (dVar 0) "why")) (sSeq (sAsg (dComp (iRngD2 (dBin rIxD (dVar 1) (dC (.int 1))) (dBin rAddD (dBin rIxD (dVar 1) (dC (.int 1))) (dC (.int 3)))) (.one 6) dYes (dCall sp_worth (dCons (dBin rIxD (dFld (dVar 0) "boxes") (dVar 6)) dNil)) [6]) (gLstD 3 (gsCons (gSlot 4) (gsCons (gSlot 5) (gsCons (gSlot 3) gsNil))))) (sSeq (sIf (dT (dBin rGtD (dBin rAddD (dVar 4) (dVar 5)) (dFld (dVar 0) "wide"))) (sSeq (sAsg (dC (.str ("window" : Str))) (gFld "State" (dVar 0) "why")) sRetN) sNx) (sSeq (sAsg (dTup (dCons (dVar 4) (dCons (dVar 5) dNil))) (gFld "State" (dVar 0) "window")) (sAsg (dC (.bl false)) (gFld "State" (dVar 0) "high"))))))))))) (sAsg (dVar 3) (gFld "State" (dVar 0) "place")))))
def t_State_own_low : TSD := (sSeq (sAsg (dBin rIxD (dVar 1) (dC (.int 0))) (gSlot 4)) (sSeq (sIf (dT (dBin rEqD (dVar 4) (dC (.str ("say" : Str))))) (sDo (dBM isL rAppD (dVar 2) (dCons (dCall sp_worth (dCons (dBin rIxD (dFld (dVar 0) "boxes") (dBin rIxD (dVar 1) (dC (.int 1)))) dNil)) dNil))) (sIf (dT (dBin rEqD (dVar 4) (dC (.str ("hear" : Str))))) (sAsg (dIfE (dT (dBin rNeD (dVar 3) (dLst dNil))) (dBM isL rPop0D (dVar 3) (dCons (dC (.int 0)) dNil)) (dC (.int 0))) (gSubL (dFld (dVar 0) "boxes") (dBin rIxD (dVar 1) (dC (.int 1))))) (sIf (dT (dBin rEqD (dVar 4) (dC (.str ("which" : Str))))) (sAsg (dC (.int 0)) (gSubL (dFld (dVar 0) "boxes") (dBin rIxD (dVar 1) (dC (.int 1))))) (sIf (dT (dBin rEqD (dVar 4) (dC (.str ("room" : Str))))) (sAsg (dBin rIxD (dFld (dVar 0) "window") (dC (.int 1))) (gSubL (dFld (dVar 0) "boxes") (dBin rIxD (dVar 1) (dC (.int 1))))) sNx)))) (sAsg (dBin rAddD (dFld (dVar 0) "place") (dC (.int 1))) (gFld "State" (dVar 0) "place"))))
local macro_rules | `(tactic| exists "go") => `(tactic| ((try (conv => whnf)); repeat' ((first | refine onSome_i rfl ?_ | ((with_reducible apply onSome_i); focus exists "hp") | ((with_reducible apply onSome_i); focus exists "fl") | with_reducible refine onSome_i atI0 ?_ | with_reducible refine onSome_i atI1 ?_ | with_reducible refine onSome_i atI2 ?_ | with_reducible refine onSome_i atI3 ?_ | refine ifB_t rfl ?_ | refine ifB_f rfl ?_ | refine ifB_not ?_ | refine ifB_if ?_ | refine ifB_if1 ?_ | refine rEq_iq ?_ | refine rEq_sq ?_ | refine rEq_bq ?_ | refine rNe_iq ?_ | refine rNe_sq ?_ | refine rNe_bq ?_ | (apply rEq_tt; (focus exact rfl); (focus exact rfl)) | (apply rNe_tt; (focus exact rfl); (focus exact rfl)) | (apply rEq_ti; focus exact rfl) | (apply rNe_ti; focus exact rfl) | ((with_reducible apply onSome_i); focus ((first | apply hp_len | apply hp_lstOf | apply hp_mutOf | apply hp_seqOf | apply hp_recv | apply hp_lst | apply hp_ins | apply hp_dct | apply hp_dctR); exists "at")) | ((with_reducible apply onSome_i); focus ((apply hp_fdcR); exists "at")) | ((with_reducible apply And.intro); focus exists "sd") | fail) <;> (try (conv => whnf)))))

theorem walk_State_cell : ∀ ds G Q X, sp_State_cell ds G Q X → t_State_cell (ends Q X) (startD 2 ds) G := by
  intro ds G Q X hsp
  obtain ⟨A, pre, post, m, a, rfl, h, hQ⟩ := hsp
  have st := h.st
  unfold cellM at hQ
  exists "run"
  refine ifB_d (fun h => ?_) fun h => ?_
  · rw [if_pos h] at hQ
    exists "run"
    exact hQ
  · rw [if_neg h] at hQ
    exists "run"
    exact hQ
theorem walk_State_coming : ∀ ds G Q X, sp_State_coming ds G Q X → t_State_coming (ends Q X) (startD 3 ds) G := by
  intro ds G Q X hsp
  obtain ⟨A, pre, post, m, rfl, ⟨h, hok⟩, hQ⟩ := hsp
  have st := h.st
  have hp0 := hok.pl; have hf0 := hok.f0; have hfs := hok.fs
  exists "run"
  refine use_cell h (fun hc => ?_) fun hc => ?_
  · have e : m.coming = (if isTup (m.thAt m.place) then m.thAt m.place else .int 3) := by unfold MSt.coming; rw [if_pos hc]
    rw [e] at hQ
    exists "run"
    refine peek_at h fun c uk => ?_
    exists "run"
    refine uk _ _ _ (by omega) (by omega) ?_
    have hg : GoodTh (m.thAt m.place) := thAt_ok hok _
    unfold MSt.thAt at hQ hg
    generalize m.cells.getD (m.wf + m.place).toNat (.int 0) = d at hQ hg
    rcases hg with ⟨n, hn⟩ | hg
    · exists "run"
      exact hQ
    · obtain ⟨w, ps, rfl⟩ := goodRow_form hg
      exists "run"
      exact hQ
  · have e : m.coming = .int 2 := by unfold MSt.coming; rw [if_neg hc]
    rw [e] at hQ
    exists "run"
    exact hQ
theorem box_at {m : MSt} (h : m.boxes.length = 4) {b : Nat} (hb : b < 4) {Q : D → Prop} (k : Q (m.bxAt b)) : onSome (atI m.boxes (b : Int)) Q := by
  refine onSome_i (atI_nat (List.getElem?_eq_getElem (by omega : b < m.boxes.length))) ?_
  unfold MSt.bxAt at k
  rw [List.getD_eq_getElem?_getD, List.getElem?_eq_getElem (by omega)] at k
  exact k
theorem box_ix {m : MSt} (h : m.boxes.length = 4) {b : Nat} (hb : b < 4) {Q : Nat → Prop} (k : Q b) : onSome (ixN m.boxes.length (b : Int)) Q := onSome_i (ixN_lt (by omega)) k
def sp_State_plain : DSp := fun ds G Q _ => ∃ (A : SA) (pre post : List D) (m : MSt) (w : Str) (ps : List D), ds = [.ref A.s, .tup (.str w :: ps)] ∧ (StAt G A pre post m ∧ m.Ok ∧ GoodRow (.tup (.str w :: ps)) ∧ ownW w = false ∧ w ≠ ("call" : Str)) ∧ ∀ G', StAt G' A pre post (m.plain w ps).1 → Fr A.fp G G' → Q (.int (m.plain w ps).2) G'
local macro_rules | `(tactic| exists "sd") => `(tactic| (first | exact True.intro | exact rfl | with_reducible assumption | omega | decide | exists "hs" | exists "ne" | (simp only [CDivD, small64, inR, List.length_cons, List.length_nil, List.length_append, List.length_map, List.length_replicate, List.length_set, List.length_drop, rangeD_length]; first | done | omega | decide) | exists "hp" | exists "at" | ((with_reducible apply isDc_i); exists "at") | ((with_reducible apply isDc_f); exists "at") | ((with_reducible apply isL_i); exists "at") | exact And.intro rfl (Nat.le_of_ble_eq_true rfl) | exact Nat.le_of_ble_eq_true rfl | exact bxAt_ok (by assumption) _))
local macro_rules | `(tactic| exists "run") => `(tactic| ((try (conv => whnf)); repeat' ((first | refine onSome_i rfl ?_ | ((with_reducible apply onSome_i); focus exists "hp") | ((with_reducible apply onSome_i); focus exists "fl") | with_reducible refine onSome_i atI0 ?_ | with_reducible refine onSome_i atI1 ?_ | with_reducible refine onSome_i atI2 ?_ | with_reducible refine onSome_i atI3 ?_ | refine ifB_t rfl ?_ | refine ifB_f rfl ?_ | refine ifB_not ?_ | refine ifB_if ?_ | refine ifB_if1 ?_ | refine rEq_iq ?_ | refine rEq_sq ?_ | refine rEq_bq ?_ | refine rNe_iq ?_ | refine rNe_sq ?_ | refine rNe_bq ?_ | (apply rEq_tt; (focus exact rfl); (focus exact rfl)) | (apply rNe_tt; (focus exact rfl); (focus exact rfl)) | (apply rEq_ti; focus exact rfl) | (apply rNe_ti; focus exact rfl) | ((with_reducible apply onSome_i); focus ((first | apply hp_len | apply hp_lstOf | apply hp_mutOf | apply hp_seqOf | apply hp_recv | apply hp_lst | apply hp_ins | apply hp_dct | apply hp_dctR); exists "at")) | ((with_reducible apply onSome_i); focus ((apply hp_fdcR); exists "at")) | ((with_reducible apply And.intro); focus exists "sd") | refine ref_i ?_ | refine eq_i ?_ | exists "new" | ((with_reducible apply use_worth); (focus exists "sds"); intros) | (refine box_at (by assumption) (by omega) ?_) | (refine box_ix (by assumption) (by omega) ?_) | fail) <;> (try (conv => whnf)))))
local macro_rules | `(tactic| exists "all") => `(tactic| ((try (conv => whnf)); repeat' ((first | refine onSome_i rfl ?_ | ((with_reducible apply onSome_i); focus exists "hp") | ((with_reducible apply onSome_i); focus exists "fl") | with_reducible refine onSome_i atI0 ?_ | with_reducible refine onSome_i atI1 ?_ | with_reducible refine onSome_i atI2 ?_ | with_reducible refine onSome_i atI3 ?_ | refine ifB_t rfl ?_ | refine ifB_f rfl ?_ | refine ifB_not ?_ | refine ifB_if ?_ | refine ifB_if1 ?_ | refine rEq_iq ?_ | refine rEq_sq ?_ | refine rEq_bq ?_ | refine rNe_iq ?_ | refine rNe_sq ?_ | refine rNe_bq ?_ | (apply rEq_tt; (focus exact rfl); (focus exact rfl)) | (apply rNe_tt; (focus exact rfl); (focus exact rfl)) | (apply rEq_ti; focus exact rfl) | (apply rNe_ti; focus exact rfl) | ((with_reducible apply onSome_i); focus ((first | apply hp_len | apply hp_lstOf | apply hp_mutOf | apply hp_seqOf | apply hp_recv | apply hp_lst | apply hp_ins | apply hp_dct | apply hp_dctR); exists "at")) | ((with_reducible apply onSome_i); focus ((apply hp_fdcR); exists "at")) | ((with_reducible apply And.intro); focus exists "sd") | refine ref_i ?_ | refine eq_i ?_ | exists "new" | ((with_reducible apply use_worth); (focus exists "sds"); intros) | (refine box_at (by assumption) (by omega) ?_) | (refine box_ix (by assumption) (by omega) ?_) | exact All.nil | refine All.cons ?_ ?_ | (refine ix_all ?_ ?_; focus exists "sd") | refine ifB_d (fun _ => ?_) fun _ => ?_ | refine ifB_nd (fun _ => ?_) fun _ => ?_ | fail) <;> (try (conv => whnf)))))

theorem walk_State_plain : ∀ ds G Q X, sp_State_plain ds G Q X → t_State_plain (ends Q X) (startD 7 ds) G := by
  intro ds G Q X hsp
  obtain ⟨A, pre, post, m, w, ps, rfl, ⟨h, hok, hg, ho, hc⟩, hQ⟩ := hsp
  have st := h.st; have tl := h.tl; have bx := h.bx; have wd := h.wd; have er := h.er
  have s1 := h.s1; have s2 := h.s2; have s3 := h.s3; have s4 := h.s4
  have n1 := h.n1; have n2 := h.n2; have n3 := h.n3; have n4 := h.n4; have n5 := h.n5; have n6 := h.n6
  have b4 := hok.b4
  have hf0 := hok.f0; have hfs := hok.fs
  have wn : ∀ k, 0 ≤ worthD (m.bxAt k) ∧ worthD (m.bxAt k) ≤ 999 := hok.wN
  cases hg with
  | put b n hb hn =>
    exists "run"
    exact hQ _ (h.setB.setS rfl rfl rfl rfl rfl) (((Fr.refl _ _).put (by simp)).put (by simp))
  | add b c d hb hc' hd =>
    exists "run"
    exact hQ _ (h.setB.setS rfl rfl rfl rfl rfl) (((Fr.refl _ _).put (by simp)).put (by simp))
  | less b c d hb hc' hd =>
    exists "run"
    exact hQ _ (h.setB.setS rfl rfl rfl rfl rfl) (((Fr.refl _ _).put (by simp)).put (by simp))
  | load b c hb hc' =>
    have wc := wn c
    have e : m.plain ("load" : Str) [.int (b : Int), .int (c : Int)] = (if worthD (m.bxAt c) < m.ws then ((m.setBx b (m.thAt (worthD (m.bxAt c)))).next, 0) else (m, 2)) := rfl
    rw [e] at hQ
    exists "run"
    refine use_cell h (fun hc => ?_) fun hc => ?_
    · rw [if_pos hc] at hQ
      exists "run"
      refine peek_at h fun c uk => ?_
      exists "run"
      refine uk _ _ _ (by omega) (by omega) ?_
      exists "run"
      exact hQ _ (h.setB.setS rfl rfl rfl rfl rfl) (((Fr.refl _ _).put (by simp)).put (by simp))
    · rw [if_neg hc] at hQ
      exists "run"
      exact hQ _ h (Fr.refl _ _)
  | store b c hb hc' =>
    have wc := wn b
    have e : m.plain ("store" : Str) [.int (b : Int), .int (c : Int)] = (if worthD (m.bxAt b) < m.ws then ({ m with cells := m.cells.set (m.wf + worthD (m.bxAt b)).toNat (m.bxAt c) }.next, 0) else (m, 2)) := rfl
    rw [e] at hQ
    exists "run"
    refine use_cell h (fun hc => ?_) fun hc => ?_
    · rw [if_pos hc] at hQ
      exists "run"
      refine poke_at h fun c uk => ?_
      exists "run"
      refine uk _ _ _ _ (by omega) (by omega) ?_
      exists "run"
      exact hQ _ ((h.setT rfl (by rw [List.length_set])).setSW (n := m.cells.length) rfl (List.length_set).symm rfl rfl rfl rfl) (((Fr.refl _ _).put (by simp)).put (by simp))
    · rw [if_neg hc] at hQ
      exists "run"
      exact hQ _ h (Fr.refl _ _)
  | zero b n hb hn =>
    have e : m.plain ("zero" : Str) [.int (b : Int), .int (n : Int)] = (if worthD (m.bxAt b) = 0 then ({ m with place := n }, 0) else (m.next, 0)) := rfl
    rw [e] at hQ
    exists "run"
    refine ifB_d (fun hc => ?_) fun hc => ?_
    · rw [if_pos hc] at hQ
      exists "run"
      exact hQ _ (h.setS rfl rfl rfl rfl rfl) ((Fr.refl _ _).put (by simp))
    · rw [if_neg hc] at hQ
      exists "run"
      exact hQ _ (h.setS rfl rfl rfl rfl rfl) ((Fr.refl _ _).put (by simp))
  | go n hn =>
    exists "run"
    exact hQ _ (h.setS rfl rfl rfl rfl rfl) ((Fr.refl _ _).put (by simp))
  | call n hn => exact absurd rfl hc
  | _ => exact absurd ho (by decide)
def sp_State_own : DSp := fun ds G Q _ => ∃ (A : SA) (pre post : List D) (m : MSt) (w : Str) (ps : List D), ds = [.ref A.s, .tup (.str w :: ps)] ∧ (StAt G A pre post m ∧ m.Ok ∧ GoodRow (.tup (.str w :: ps)) ∧ ownW w = true ∧ m.words.length < 16000000) ∧ ∀ G', StAt G' A pre post (m.own w ps) → Fr A.fp G G' → Q .non G'
theorem toPy_nat {G : DH} {xs : List D} (h : ∀ x ∈ xs, isNatD x) : ∀ x ∈ xs, (toPy G 5 x).isSome = true := fun x hx => by
  obtain ⟨n, _, rfl⟩ := h x hx; rfl
theorem walk_State_own : ∀ ds G Q X, sp_State_own ds G Q X → t_State_own (ends Q X) (startD 7 ds) G := by
  intro ds G Q X hsp
  obtain ⟨A, pre, post, m, w, ps, rfl, ⟨h, hok, hg, ho, hwl⟩, hQ⟩ := hsp
  have st := h.st; have tl := h.tl; have bx := h.bx; have wd := h.wd; have er := h.er
  have s1 := h.s1; have s2 := h.s2; have s3 := h.s3; have s4 := h.s4
  have n1 := h.n1; have n2 := h.n2; have n3 := h.n3; have n4 := h.n4; have n5 := h.n5; have n6 := h.n6
  have b4 := hok.b4
  have hf0 := hok.f0; have hfs := hok.fs; have he20 := hok.e20
  have wn : ∀ k, 0 ≤ worthD (m.bxAt k) ∧ worthD (m.bxAt k) ≤ 999 := hok.wN
  cases hg with
  | say b hb =>
    exists "run"
    exact hQ _ (h.setW.setS rfl rfl rfl rfl rfl) (((Fr.refl _ _).put (by simp)).put (by simp))
  | hear b hb =>
    have e : m.own ("hear" : Str) [.int (b : Int)] = { m with boxes := m.boxes.set b (m.ear.headD (D.int 0)), ear := m.ear.tail }.next := rfl
    rw [e] at hQ
    exists "run"
    rename_i p hp
    refine rNe_nil (ys := m.ear) (by exists "at") up_same (toPy_nat hok.er) ?_
    cases he : m.ear with
    | nil =>
      exists "run"
      rw [he] at hQ
      exact hQ _ (((h.new hp).setB.setS (m' := { m with boxes := m.boxes.set b (.int 0), place := m.place + 1 }) rfl rfl rfl rfl rfl).cast (by rw [he]; rfl)) ((((Fr.refl _ _).new hp).put (by simp)).put (by simp))
    | cons x r =>
      rw [he] at hQ er
      exists "run"
      exact hQ _ ((((h.new hp).setE (xs := r)).setB (xs := m.boxes.set b x)).setS rfl rfl rfl rfl rfl) (((((Fr.refl _ _).new hp).put (by simp)).put (by simp)).put (by simp))
  | which b hb =>
    exists "run"
    exact hQ _ (h.setB.setS rfl rfl rfl rfl rfl) (((Fr.refl _ _).put (by simp)).put (by simp))
  | room b hb =>
    exists "run"
    exact hQ _ (h.setB.setS rfl rfl rfl rfl rfl) (((Fr.refl _ _).put (by simp)).put (by simp))
  | alarm b hb =>
    exists "run"
    exact hQ _ ((h.setS (m' := { m with left := worthD (m.bxAt b) }) rfl rfl rfl rfl rfl).setS rfl rfl rfl rfl rfl) (((Fr.refl _ _).put (by simp)).put (by simp))
  | stop =>
    exists "run"
    exact hQ _ ((h.setS (m' := { m with why := ("stop" : Str) }) rfl rfl rfl rfl rfl).setS rfl rfl rfl rfl rfl) (((Fr.refl _ _).put (by simp)).put (by simp))
  | enter b hb =>
    rcases (show b = 0 ∨ b = 1 by omega) with rfl | rfl
    · exists "run"
      refine box_at (b := 0) b4 (by omega) ?_
      exists "run"
      refine box_at (b := 1) b4 (by omega) ?_
      exists "run"
      refine box_at (b := 2) b4 (by omega) ?_
      exists "run"
      rename_i p hp
      have e : m.own ("enter" : Str) [.int ((0 : Nat) : Int)] = (if m.cells.length < worthD (m.bxAt 0) + worthD (m.bxAt 1) then { m with why := ("window" : Str) } else { m with wf := worthD (m.bxAt 0), ws := worthD (m.bxAt 1), high := false, place := worthD (m.bxAt 2) }) := rfl
      rw [e] at hQ
      refine ifB_d (fun hc => ?_) fun hc => ?_
      · rw [if_pos hc] at hQ
        exists "run"
        simp only [up_up]
        exact hQ _ ((h.new hp).setS rfl rfl rfl rfl rfl) (((Fr.refl _ _).new hp).put (by simp))
      · rw [if_neg hc] at hQ
        exists "run"
        simp only [up_up]
        exact hQ _ ((h.new hp).setS rfl rfl rfl rfl rfl) (((Fr.refl _ _).new hp).put (by simp))
    · exists "run"
      refine box_at (b := 1) b4 (by omega) ?_
      exists "run"
      refine box_at (b := 2) b4 (by omega) ?_
      exists "run"
      refine box_at (b := 3) b4 (by omega) ?_
      exists "run"
      rename_i p hp
      have e : m.own ("enter" : Str) [.int ((1 : Nat) : Int)] = (if m.cells.length < worthD (m.bxAt 1) + worthD (m.bxAt 2) then { m with why := ("window" : Str) } else { m with wf := worthD (m.bxAt 1), ws := worthD (m.bxAt 2), high := false, place := worthD (m.bxAt 3) }) := rfl
      rw [e] at hQ
      refine ifB_d (fun hc => ?_) fun hc => ?_
      · rw [if_pos hc] at hQ
        exists "run"
        simp only [up_up]
        exact hQ _ ((h.new hp).setS rfl rfl rfl rfl rfl) (((Fr.refl _ _).new hp).put (by simp))
      · rw [if_neg hc] at hQ
        exists "run"
        simp only [up_up]
        exact hQ _ ((h.new hp).setS rfl rfl rfl rfl rfl) (((Fr.refl _ _).new hp).put (by simp))
  | _ => exact absurd ho (by decide)
def sp_State_own_low : DSp := fun ds G Q _ => ∃ (A : SA) (pre post : List D) (m : MSt) (w : Str) (ps : List D) (mw me : Addr), ds = [.ref A.s, .tup (.str w :: ps), .ref mw, .ref me] ∧ (StAt G A pre post m ∧ m.Ok ∧ GoodRow (.tup (.str w :: ps)) ∧ ownW w = true) ∧
  ((mw = A.w ∧ me = A.e ∧ m.words.length < 16000000 ∧ ∀ G', StAt G' A pre post (m.low w ps) → Fr A.fp G G' → Q .non G') ∨
   (∃ ws, G mw = some (.lst ws) ∧ ws.length < 16000000 ∧ G me = some (.lst []) ∧ mw ∉ A.fp ∧ me ∉ A.fp ∧ ∀ G', StAt G' A pre post (m.lowX w ps).1 → G' mw = some (.lst (ws ++ (m.lowX w ps).2)) → Fr (mw :: A.fp) G G' → Q .non G'))
theorem walk_State_own_low : ∀ ds G Q X, sp_State_own_low ds G Q X → t_State_own_low (ends Q X) (startD 5 ds) G := by
  intro ds G Q X hsp
  obtain ⟨A, pre, post, m, w, ps, mw, me, rfl, ⟨h, hok, hg, ho⟩, hQ⟩ := hsp
  have st := h.st; have tl := h.tl; have bx := h.bx; have wd := h.wd; have er := h.er
  have s1 := h.s1; have s2 := h.s2; have s3 := h.s3; have s4 := h.s4
  have n1 := h.n1; have n2 := h.n2; have n3 := h.n3; have n4 := h.n4; have n5 := h.n5; have n6 := h.n6
  have b4 := hok.b4
  have hf0 := hok.f0; have hfs := hok.fs; have he20 := hok.e20
  have wn : ∀ k, 0 ≤ worthD (m.bxAt k) ∧ worthD (m.bxAt k) ≤ 999 := hok.wN
  rcases hQ with ⟨rfl, rfl, hwl, hQ⟩ | ⟨ws, hmw, hwl, hme, nw, ne, hQ⟩
  · cases hg with
    | say b hb =>
      exists "run"
      exact hQ _ (h.setW.setS rfl rfl rfl rfl rfl) (((Fr.refl _ _).put (by simp)).put (by simp))
    | hear b hb =>
      have e : m.low ("hear" : Str) [.int (b : Int)] = { m with boxes := m.boxes.set b (m.ear.headD (D.int 0)), ear := m.ear.tail }.next := rfl
      rw [e] at hQ
      exists "run"
      rename_i p hp
      refine rNe_nil (ys := m.ear) (by exists "at") up_same (toPy_nat hok.er) ?_
      cases he : m.ear with
      | nil =>
        exists "run"
        rw [he] at hQ
        exact hQ _ (((h.new hp).setB.setS (m' := { m with boxes := m.boxes.set b (.int 0), place := m.place + 1 }) rfl rfl rfl rfl rfl).cast (by rw [he]; rfl)) ((((Fr.refl _ _).new hp).put (by simp)).put (by simp))
      | cons x r =>
        rw [he] at hQ er
        exists "run"
        exact hQ _ ((((h.new hp).setE (xs := r)).setB (xs := m.boxes.set b x)).setS rfl rfl rfl rfl rfl) (((((Fr.refl _ _).new hp).put (by simp)).put (by simp)).put (by simp))
    | which b hb =>
      exists "run"
      exact hQ _ (h.setB.setS rfl rfl rfl rfl rfl) (((Fr.refl _ _).put (by simp)).put (by simp))
    | room b hb =>
      exists "run"
      exact hQ _ (h.setB.setS rfl rfl rfl rfl rfl) (((Fr.refl _ _).put (by simp)).put (by simp))
    | alarm b hb =>
      exists "run"
      exact hQ _ (h.setS rfl rfl rfl rfl rfl) ((Fr.refl _ _).put (by simp))
    | stop =>
      exists "run"
      exact hQ _ (h.setS rfl rfl rfl rfl rfl) ((Fr.refl _ _).put (by simp))
    | enter b hb =>
      exists "run"
      exact hQ _ (h.setS rfl rfl rfl rfl rfl) ((Fr.refl _ _).put (by simp))
    | _ => exact absurd ho (by decide)
  · simp only [SA.fp, List.mem_cons, List.not_mem_nil, or_false, not_or] at nw ne
    obtain ⟨w1, w2, w3, w4, w5⟩ := nw
    obtain ⟨e1, e2, e3, e4, e5⟩ := ne
    have frx : ∀ G', Fr A.fp G G' → Fr (mw :: A.fp) G G' := fun G' f => f.wk fun a ha => List.mem_cons_of_mem _ ha
    cases hg with
    | say b hb =>
      exists "run"
      refine hQ _ ((h.frm (xs := [mw]) (Fr.put (Fr.refl _ _) (by simp)) (fun a ha => ?_) (fun a ha => ?_)).setS rfl rfl rfl rfl rfl) (by show _ = some (DO.lst (ws ++ [D.int (worthD (m.bxAt b))])); exists "at") (((Fr.refl _ _).put (by simp)).put (by simp))
      · simp only [List.mem_cons, List.not_mem_nil, or_false] at ha; subst ha; exact ⟨_, hmw, rfl⟩
      · simp only [List.mem_cons, List.not_mem_nil, or_false] at ha; subst ha; simp [SA.fp, w1, w2, w3, w4, w5]
    | hear b hb =>
      exists "run"
      rename_i p hp
      refine rNe_nil (ys := []) (by exists "at") up_same (fun _ h => by simp at h) ?_
      exists "run"
      exact hQ _ ((h.new hp).setB.setS rfl rfl rfl rfl rfl) (by show _ = some (DO.lst (ws ++ [])); rw [List.append_nil]; exists "at") (frx _ ((((Fr.refl _ _).new hp).put (by simp)).put (by simp)))
    | which b hb =>
      exists "run"
      exact hQ _ (h.setB.setS rfl rfl rfl rfl rfl) (by show _ = some (DO.lst (ws ++ [])); rw [List.append_nil]; exists "at") (frx _ (((Fr.refl _ _).put (by simp)).put (by simp)))
    | room b hb =>
      exists "run"
      exact hQ _ (h.setB.setS rfl rfl rfl rfl rfl) (by show _ = some (DO.lst (ws ++ [])); rw [List.append_nil]; exists "at") (frx _ (((Fr.refl _ _).put (by simp)).put (by simp)))
    | alarm b hb =>
      exists "run"
      exact hQ _ (h.setS rfl rfl rfl rfl rfl) (by show _ = some (DO.lst (ws ++ [])); rw [List.append_nil]; exists "at") (frx _ ((Fr.refl _ _).put (by simp)))
    | stop =>
      exists "run"
      exact hQ _ (h.setS rfl rfl rfl rfl rfl) (by show _ = some (DO.lst (ws ++ [])); rw [List.append_nil]; exists "at") (frx _ ((Fr.refl _ _).put (by simp)))
    | enter b hb =>
      exists "run"
      exact hQ _ (h.setS rfl rfl rfl rfl rfl) (by show _ = some (DO.lst (ws ++ [])); rw [List.append_nil]; exists "at") (frx _ ((Fr.refl _ _).put (by simp)))
    | _ => exact absurd ho (by decide)


open MSt
def sp_State_caught : DSp := fun ds G Q _ => ∃ (A : SA) (pre post : List D) (m : MSt) (n place more : Int), ds = [.ref A.s, .int n, .int place, .int more] ∧ (StAt G A pre post m ∧ m.Ok ∧ (m.high = true → n = 2 ∨ n = 3)) ∧ ∀ G', StAt G' A pre post (m.caught n place more) → Fr A.fp G G' → Q .non G'
theorem use_caught {A : SA} {pre post : List D} {m : MSt} {n place more : Int} {G : DH} {Q : DQ} {X : DX} (h : StAt G A pre post m) (hok : m.Ok) (hn : m.high = true → n = 2 ∨ n = 3) (k : ∀ G', StAt G' A pre post (m.caught n place more) → Fr A.fp G G' → Q .non G') : Ir sp_State_caught [.ref A.s, .int n, .int place, .int more] G Q X := Ir_i ⟨A, pre, post, m, n, place, more, rfl, ⟨h, hok, hn⟩, k⟩
def tab_caught : List (String × DSp) := [("State", sp_State_caught)]
def _root_.L3.MSt.wc (m : MSt) (cs : List D) : MSt := { m with cells := cs }
theorem poke_wc {G : DH} {A : SA} {pre post : List D} {m : MSt} {cs : List D} {K : DSp → Prop} (h : StAt G A pre post (m.wc cs)) (k : ∀ c, (∀ (i : Int) (v : D) (Q : DQ) (X : DX), 0 ≤ i → i < cs.length → (∀ G', StAt G' A pre post (m.wc (cs.set i.toNat v)) → Fr A.fp G G' → Q .non G') → Ir (sp_poke 3 c) [.ref A.b, .int i, v] G Q X) → K (sp_poke 3 c)) : onSome (recv G (.ref A.b)) fun c => onSome (tab_poke.lookup c) K :=
  poke_at h fun c uk => k c fun i v Q X h0 h1 hq => uk i v Q X h0 h1 (hq _ (h.setT (m := m.wc cs) rfl (List.length_set)) ((Fr.refl _ _).put (by simp)))
def t_State_caught : TSD := (sSeq (sIf (dT (dFld (dVar 0) "high")) (sSeq (sAsg (dKIxI kv_WORDS (dVar 1)) (gFld "State" (dVar 0) "why")) sRetN) sNx) (sSeq (sFor (iEnumTD (dTup (dCons (dVar 2) (dCons (dBin rIxD (dFld (dVar 0) "window") (dC (.int 0))) (dCons (dBin rIxD (dFld (dVar 0) "window") (dC (.int 1))) (dCons (dVar 1) (dCons (dVar 3) dNil))))))) (gTupD 2 (gsCons (gSlot 5) (gsCons (gSlot 6) gsNil))) (sDo (dMeth tab_poke (dFld (dVar 0) "body") (dCons (dVar 5) (dCons (dVar 6) dNil))))) (sSeq (sFor (iRngD1 (dC c_BOXES)) (gSlot 4) (sDo (dMeth tab_poke (dFld (dVar 0) "body") (dCons (dBin rAddD (dC c_KEPT) (dVar 4)) (dCons (dBin rIxD (dFld (dVar 0) "boxes") (dVar 4)) dNil))))) (sSeq (sAsg (dC (.bl true)) (gFld "State" (dVar 0) "high")) (sSeq (sAsg (dTup (dCons (dC (.int 0)) (dCons (dFld (dVar 0) "wide") dNil))) (gFld "State" (dVar 0) "window")) (sSeq (sAsg (dC (.int 0)) (gFld "State" (dVar 0) "left")) (sAsg (dCall sp_worth (dCons (dMeth tab_peek (dFld (dVar 0) "body") (dCons (dC c_GOES_TO) dNil)) dNil)) (gFld "State" (dVar 0) "place"))))))))
def t_State_counted : TSD := (sIf (dAndT (dNotT (dT (dFld (dVar 0) "high"))) (dT (dBin rGtD (dFld (dVar 0) "left") (dC (.int 0))))) (sSeq (sAsg (dBin rSubD (dFld (dVar 0) "left") (dC (.int 1))) (gFld "State" (dVar 0) "left")) (sIf (dT (dBin rEqD (dFld (dVar 0) "left") (dC (.int 0)))) (sDo (dMeth tab_caught (dVar 0) (dCons (dC c_ALARM) (dCons (dFld (dVar 0) "place") (dCons (dC (.int 0)) dNil))))) sNx)) sNx)

theorem walk_State_caught : ∀ ds G Q X, sp_State_caught ds G Q X → t_State_caught (ends Q X) (startD 7 ds) G := by
  intro ds G Q X hsp
  obtain ⟨A, pre, post, m, n, place, more, rfl, ⟨h, hok, hn⟩, hQ⟩ := hsp
  have st := h.st
  have b4 := hok.b4
  have c16 := hok.c16
  have hf0 := hok.f0; have hfs := hok.fs
  by_cases hh : m.high = true
  · have e : m.caught n place more = { m with why := if n = 2 then ("beyond" : Str) else ("no row" : Str) } := by unfold MSt.caught; rw [if_pos hh]
    rw [e] at hQ
    exists "run"
    refine ifB_t hh ?_
    rcases hn hh with rfl | rfl
    · exists "run"
      exact hQ _ (h.setS rfl rfl rfl rfl rfl) ((Fr.refl _ _).put (by simp))
    · exists "run"
      exact hQ _ (h.setS rfl rfl rfl rfl rfl) ((Fr.refl _ _).put (by simp))
  · have e : m.caught n place more = { m with cells := kept m.cells place m.wf m.ws n more m.boxes, high := true, wf := 0, ws := m.cells.length, left := 0, place := worthD (m.cells.getD 5 (.int 0)) } := by unfold MSt.caught; rw [if_neg hh]
    rw [e] at hQ
    have hh' : m.high = false := by simpa using hh
    exists "run"
    refine ifB_f hh' ?_
    exists "run"
    have h0 : StAt G A pre post (m.wc m.cells) := h
    refine poke_wc h0 fun c uk => ?_
    exists "run"
    refine uk _ _ _ _ (by decide) (by first | (simp only [List.length_set]; omega) | omega) fun G1 h1 f1 => ?_
    clear uk
    have st1 := h1.st
    exists "run"
    refine poke_wc h1 fun c uk => ?_
    exists "run"
    refine uk _ _ _ _ (by decide) (by first | (simp only [List.length_set]; omega) | omega) fun G2 h2 f2 => ?_
    clear uk
    have st2 := h2.st
    exists "run"
    refine poke_wc h2 fun c uk => ?_
    exists "run"
    refine uk _ _ _ _ (by decide) (by first | (simp only [List.length_set]; omega) | omega) fun G3 h3 f3 => ?_
    clear uk
    have st3 := h3.st
    exists "run"
    refine poke_wc h3 fun c uk => ?_
    exists "run"
    refine uk _ _ _ _ (by decide) (by first | (simp only [List.length_set]; omega) | omega) fun G4 h4 f4 => ?_
    clear uk
    have st4 := h4.st
    exists "run"
    refine poke_wc h4 fun c uk => ?_
    exists "run"
    refine uk _ _ _ _ (by decide) (by first | (simp only [List.length_set]; omega) | omega) fun G5 h5 f5 => ?_
    clear uk
    have st5 := h5.st
    exists "run"
    have bx5 := h5.bx
    refine poke_wc h5 fun c uk => ?_
    exists "run"
    refine box_at (b := 0) b4 (by omega) ?_
    exists "run"
    refine uk _ _ _ _ (by decide) (by simp only [List.length_set]; omega) fun G6 h6 f6 => ?_
    clear uk
    have st6 := h6.st
    exists "run"
    have bx6 := h6.bx
    refine poke_wc h6 fun c uk => ?_
    exists "run"
    refine box_at (b := 1) b4 (by omega) ?_
    exists "run"
    refine uk _ _ _ _ (by decide) (by simp only [List.length_set]; omega) fun G7 h7 f7 => ?_
    clear uk
    have st7 := h7.st
    exists "run"
    have bx7 := h7.bx
    refine poke_wc h7 fun c uk => ?_
    exists "run"
    refine box_at (b := 2) b4 (by omega) ?_
    exists "run"
    refine uk _ _ _ _ (by decide) (by simp only [List.length_set]; omega) fun G8 h8 f8 => ?_
    clear uk
    have st8 := h8.st
    exists "run"
    have bx8 := h8.bx
    refine poke_wc h8 fun c uk => ?_
    exists "run"
    refine box_at (b := 3) b4 (by omega) ?_
    exists "run"
    refine uk _ _ _ _ (by decide) (by simp only [List.length_set]; omega) fun G9 h9 f9 => ?_
    clear uk
    have lk : (kept m.cells place m.wf m.ws n more m.boxes).length = m.cells.length := len_kept _ _ _ _ _ _ _
    have k5 : (kept m.cells place m.wf m.ws n more m.boxes).getD 5 (.int 0) = m.cells.getD 5 (.int 0) := by simp [kept, List.getD_eq_getElem?_getD, List.getElem?_set]
    have h10 : StAt G9 A pre post (m.wc (kept m.cells place m.wf m.ws n more m.boxes)) := h9
    clear h0 h1 h2 h3 h4 h5 h6 h7 h8 h9 st1 st2 st3 st4 st5 st6 st7 st8 bx5 bx6 bx7 bx8
    have ff : Fr A.fp G G9 := f1.trans (f2.trans (f3.trans (f4.trans (f5.trans (f6.trans (f7.trans (f8.trans f9)))))))
    generalize hks : kept m.cells place m.wf m.ws n more m.boxes = ks at lk k5 h10 hQ
    have st10 := h10.st
    exists "run"
    simp only [up_up]
    refine peek_at (h10.setS (m' := { m.wc ks with high := true, wf := 0, ws := (ks.length : Int), left := 0 }) rfl rfl rfl rfl rfl) fun c uk => ?_
    exists "run"
    refine uk _ _ _ (by decide) (by show (5 : Int) < (ks.length : Int); omega) ?_
    have g5 : GoodTh (m.cells.getD 5 (.int 0)) := good0 hok.cg 5
    show Ir sp_worth [ks.getD 5 (.int 0)] _ _ _
    rw [k5]
    refine use_worth g5 ?_
    exists "run"
    simp only [up_up]
    refine hQ _ ((h10.setS (m' := { m.wc ks with high := true, wf := 0, ws := (ks.length : Int), left := 0, place := worthD (m.cells.getD 5 (.int 0)) }) rfl rfl rfl rfl rfl).cast ?_) (ff.put (by simp))
    rw [lk]; rfl
def sp_State_counted : DSp := fun ds G Q _ => ∃ (A : SA) (pre post : List D) (m : MSt), ds = [.ref A.s] ∧ (StAt G A pre post m ∧ m.Ok) ∧ ∀ G', StAt G' A pre post m.counted → Fr A.fp G G' → Q .non G'
theorem use_counted {A : SA} {pre post : List D} {m : MSt} {G : DH} {Q : DQ} {X : DX} (h : StAt G A pre post m) (hok : m.Ok) (k : ∀ G', StAt G' A pre post m.counted → Fr A.fp G G' → Q .non G') : Ir sp_State_counted [.ref A.s] G Q X := Ir_i ⟨A, pre, post, m, rfl, ⟨h, hok⟩, k⟩
def tab_counted : List (String × DSp) := [("State", sp_State_counted)]
theorem walk_State_counted : ∀ ds G Q X, sp_State_counted ds G Q X → t_State_counted (ends Q X) (startD 1 ds) G := by
  intro ds G Q X hsp
  obtain ⟨A, pre, post, m, rfl, ⟨h, hok⟩, hQ⟩ := hsp
  have st := h.st
  unfold MSt.counted at hQ
  exists "run"
  refine ifB_i (fun hh => ?_) fun hh => ?_
  · rw [if_neg (by rw [hh]; simp)] at hQ
    exists "run"
    exact hQ _ h (Fr.refl _ _)
  · exists "run"
    refine ifB_d (fun hl => ?_) fun hl => ?_
    · rw [if_pos (by rw [hh]; simp; exact hl)] at hQ
      have h1 : StAt (up G A.s (stObj A { m with left := m.left - 1 })) A pre post { m with left := m.left - 1 } := h.setS rfl rfl rfl rfl rfl
      have hok1 : ({ m with left := m.left - 1 } : MSt).Ok := { hok with l0 := by show 0 ≤ m.left - 1; omega }
      exists "run"
      refine ifB_d (fun hz => ?_) fun hz => ?_
      · rw [if_pos hz] at hQ
        exists "run"
        exact use_caught h1 hok1 (fun z => by rw [show m.high = true from z] at hh; cases hh) fun G' h' f' => hQ G' h' (((Fr.refl _ _).put (by simp)).trans f')
      · rw [if_neg hz] at hQ
        exists "run"
        exact hQ _ h1 ((Fr.refl _ _).put (by simp))
    · rw [if_neg (by rw [hh]; simp; omega)] at hQ
      exists "run"
      exact hQ _ h (Fr.refl _ _)


open MSt
def tab_plain : List (String × DSp) := [("State", sp_State_plain)]
def tab_own : List (String × DSp) := [("State", sp_State_own)]
def tab_own_low : List (String × DSp) := [("State", sp_State_own_low)]
structure RunOk (ks : List Bool) (m : MSt) : Prop where
  ok : m.Ok
  p9 : m.place ≤ 999
  k7 : ks.length = 7
  wl : (m.words.length : Int) ≤ m.many
  mn : m.many < 15000000
def sp_State_step : DSp := fun ds G Q _ => ∃ (A : SA) (pre post : List D) (m : MSt) (ks : List Bool), ds = [.ref A.s, .tup (ks.map .bl)] ∧ (StAt G A pre post m ∧ RunOk ks m) ∧ ∀ G', StAt G' A pre post (MSt.step ks m) → Fr A.fp G G' → Q .non G'
theorem use_step {A : SA} {pre post : List D} {m : MSt} {ks : List Bool} {G : DH} {Q : DQ} {X : DX} (h : StAt G A pre post m) (r : RunOk ks m) (k : ∀ G', StAt G' A pre post (MSt.step ks m) → Fr A.fp G G' → Q .non G') : Ir sp_State_step [.ref A.s, .tup (ks.map .bl)] G Q X := Ir_i ⟨A, pre, post, m, ks, rfl, ⟨h, r⟩, k⟩
def tab_step : List (String × DSp) := [("State", sp_State_step)]
theorem own_lk {w : Str} {ps : List D} (h : GoodRow (.tup (.str w :: ps))) : (kv_OWN.lookup w).isSome = ownW w := by
  cases h <;> rfl
theorem own_ix {w : Str} {ps : List D} (h : GoodRow (.tup (.str w :: ps))) (ho : ownW w = true) : ownIx w = some (ixW w) ∧ ixW w < 7 := by
  cases h <;> first | (exact ⟨rfl, by decide⟩) | (exact absurd ho (by decide))
theorem call_ps {w : Str} {ps : List D} (h : GoodRow (.tup (.str w :: ps))) (hw : w = ("call" : Str)) : ∃ n : Nat, n ≤ 999 ∧ ps = [.int (n : Int)] := by
  cases h <;> first | (exact ⟨_, ‹_›, rfl⟩) | (exact absurd hw (by decide))
theorem not_own_call : ownW ("call" : Str) = false := rfl
def t_State_step : TSD := (sSeq (sAsg (dBin rAddD (dFld (dVar 0) "many") (dC (.int 1))) (gFld "State" (dVar 0) "many")) (sSeq (sAsg (dMeth tab_coming (dVar 0) dNil) (gSlot 2)) (sIf (dT (dIsi ["int"] (dVar 2))) (sDo (dMeth tab_caught (dVar 0) (dCons (dVar 2) (dCons (dFld (dVar 0) "place") (dCons (dC (.int 0)) dNil))))) (sIf (dT (dBin rEqD (dBin rIxD (dVar 2) (dC (.int 0))) (dC (.str ("call" : Str))))) (sSeq (sAsg (dBin rAddD (dFld (dVar 0) "place") (dC (.int 1))) (gFld "State" (dVar 0) "place")) (sIf (dNotT (dT (dFld (dVar 0) "high"))) (sDo (dMeth tab_caught (dVar 0) (dCons (dC c_CALL) (dCons (dFld (dVar 0) "place") (dCons (dBin rIxD (dVar 2) (dC (.int 1))) dNil))))) sNx)) (sIf (dAndT (dT (dKIn false kv_OWN (dBin rIxD (dVar 2) (dC (.int 0))))) (dT (dFld (dVar 0) "high"))) (sDo (dMeth tab_own (dVar 0) (dCons (dVar 2) dNil))) (sIf (dAndT (dT (dKIn false kv_OWN (dBin rIxD (dVar 2) (dC (.int 0))))) (dT (dCall sp_is_caught (dCons (dVar 1) (dCons (dVar 2) dNil))))) (sDo (dMeth tab_caught (dVar 0) (dCons (dC c_OWN_ROW) (dCons (dFld (dVar 0) "place") (dCons (dC (.int 0)) dNil))))) (sIf (dT (dKIn false kv_OWN (dBin rIxD (dVar 2) (dC (.int 0))))) (sSeq (sDo (dMeth tab_own_low (dVar 0) (dCons (dVar 2) (dCons (dFld (dVar 0) "words") (dCons (dFld (dVar 0) "ear") dNil))))) (sDo (dMeth tab_counted (dVar 0) dNil))) (sSeq (sAsg (dMeth tab_plain (dVar 0) (dCons (dVar 2) dNil)) (gSlot 3)) (sIf (dT (dBin rEqD (dVar 3) (dC (.int 0)))) (sDo (dMeth tab_counted (dVar 0) dNil)) (sDo (dMeth tab_caught (dVar 0) (dCons (dVar 3) (dCons (dFld (dVar 0) "place") (dCons (dC (.int 0)) dNil))))))))))))))

theorem walk_State_step : ∀ ds G Q X, sp_State_step ds G Q X → t_State_step (ends Q X) (startD 4 ds) G := by
  intro ds G Q X hsp
  obtain ⟨A, pre, post, m, ks, rfl, ⟨h, r⟩, hQ⟩ := hsp
  have st := h.st
  have hok := r.ok.tick
  have hw1 := r.wl; have hw2 := r.mn
  have hwl : m.tick.words.length < 16000000 := by show m.words.length < 16000000; omega
  have f0 : Fr A.fp G (up G A.s (stObj A m.tick)) := (Fr.refl _ _).put (by simp)
  have h1 : StAt (up G A.s (stObj A m.tick)) A pre post m.tick := h.setS rfl rfl rfl rfl rfl
  have es : MSt.step ks m = step1 ks m.tick := rfl
  rw [es] at hQ
  exists "run"
  show Ir sp_State_coming [D.ref A.s] (up G A.s (stObj A m.tick)) _ _
  generalize up G A.s (stObj A m.tick) = G1 at f0 h1
  have ep : m.tick.place ≤ 999 := r.p9
  generalize m.tick = mt at h1 hok hwl hQ ep
  have st1 := h1.st
  have wd1 := h1.wd; have er1 := h1.er
  clear st
  refine use_coming ⟨h1, hok⟩ ?_
  unfold step1 at hQ
  rcases coming_ok hok with e | e | ⟨hp, hg, et⟩
  · rw [e] at hQ ⊢
    exists "run"
    exact use_caught h1 hok (fun _ => .inl rfl) fun G' h' f' => hQ G' h' (f0.trans f')
  · rw [e] at hQ ⊢
    exists "run"
    exact use_caught h1 hok (fun _ => .inr rfl) fun G' h' f' => hQ G' h' (f0.trans f')
  · obtain ⟨w, ps, ef⟩ := goodRow_form hg
    rw [ef] at hQ hg ⊢
    replace hQ : ∀ G', StAt G' A pre post (rowStep ks mt w ps) → Fr A.fp G G' → Q .non G' := hQ
    unfold rowStep at hQ
    have hlk := own_lk hg
    exists "run"
    refine ifB_d (fun hw => ?_) fun hw => ?_
    · rw [if_pos hw] at hQ
      obtain ⟨n, hn, rfl⟩ := call_ps hg hw
      have h2 : StAt (up G1 A.s (stObj A mt.next)) A pre post mt.next := h1.setS rfl rfl rfl rfl rfl
      exists "run"
      refine ifB_i (fun hh => ?_) fun hh => ?_
      · rw [if_pos hh] at hQ
        exists "run"
        exact hQ _ h2 (f0.put (by simp))
      · rw [if_neg (by rw [hh]; simp)] at hQ
        exists "run"
        exact use_caught h2 hok.next (fun z => by rw [show mt.high = true from z] at hh; cases hh) fun G' h' f' => hQ G' h' ((f0.put (by simp)).trans f')
    · rw [if_neg hw] at hQ
      exists "run"
      by_cases ho : ownW w = true
      · rw [if_pos ho] at hQ
        have hlk' : (kv_OWN.lookup w).isSome = true := hlk.trans ho
        obtain ⟨ix1, ix2⟩ := own_ix hg ho
        have hks : ks[ixW w]? = some (isC ks w) := by
          unfold isC
          rw [List.getD_eq_getElem?_getD, List.getElem?_eq_getElem (by have := r.k7; omega)]
          rfl
        refine ifB_t hlk' ?_
        exists "run"
        refine ifB_i (fun hh => ?_) fun hh => ?_
        · rw [if_pos hh] at hQ
          exists "run"
          exact Ir_i ⟨A, pre, post, mt, w, ps, rfl, ⟨h1, hok, hg, ho, hwl⟩, fun G' h' f' => hQ G' h' (f0.trans f')⟩
        · rw [if_neg (by rw [hh]; simp)] at hQ
          exists "run"
          refine ifB_t hlk' ?_
          exists "run"
          refine Ir_i ⟨ks, w, ps, ixW w, isC ks w, rfl, ⟨ix1, hks⟩, ?_⟩
          exists "run"
          refine ifB_i (fun hc => ?_) fun hc => ?_
          · rw [if_pos hc] at hQ
            exists "run"
            exact use_caught h1 hok (fun z => by rw [z] at hh; cases hh) fun G' h' f' => hQ G' h' (f0.trans f')
          · rw [if_neg (by rw [hc]; simp)] at hQ
            exists "run"
            refine ifB_t hlk' ?_
            exists "run"
            refine Ir_i ⟨A, pre, post, mt, w, ps, A.w, A.e, rfl, ⟨h1, hok, hg, ho⟩, .inl ⟨rfl, rfl, hwl, fun G2 h2 f2 => ?_⟩⟩
            have st2 := h2.st
            exists "run"
            exact use_counted h2 (hok.low w ps) fun G' h' f' => hQ G' h' (f0.trans (f2.trans f'))
      · have ho' : ownW w = false := by simpa using ho
        rw [if_neg ho] at hQ
        have hlk' : (kv_OWN.lookup w).isSome = false := hlk.trans ho'
        refine ifB_f hlk' ?_
        exists "run"
        refine ifB_f hlk' ?_
        exists "run"
        refine ifB_f hlk' ?_
        exists "run"
        refine Ir_i ⟨A, pre, post, mt, w, ps, rfl, ⟨h1, hok, hg, ho', hw⟩, fun G2 h2 f2 => ?_⟩
        have st2 := h2.st
        obtain ⟨k1, k2⟩ := hok.plain (w := w) (row_ps hg)
        exists "run"
        refine ifB_d (fun hz => ?_) fun hz => ?_
        · rw [if_pos hz] at hQ
          exists "run"
          exact use_counted h2 k1 fun G' h' f' => hQ G' h' (f0.trans (f2.trans f'))
        · rw [if_neg hz] at hQ
          exists "run"
          exact use_caught h2 k1 (fun _ => k2.elim (fun z => absurd z hz) fun z => .inl z.1) fun G' h' f' => hQ G' h' (f0.trans (f2.trans f'))


open MSt
def bundle (m : MSt) : D := .tup [.tup m.cells, .tup m.boxes, .int m.place, .bl m.high, .tup [.int m.wf, .int m.ws], .int m.left, .tup m.words, .tup m.ear, .str m.why, .int m.many]
def sp_State_packed : DSp := fun ds G Q _ => ∃ (A : SA) (pre post : List D) (m : MSt), ds = [.ref A.s] ∧ (StAt G A pre post m ∧ m.cells.length ≤ 1000 ∧ m.boxes.length ≤ 1000 ∧ m.words.length < 16000000 ∧ m.ear.length ≤ 1000) ∧ ∀ G', Sub G G' → Q (bundle m) G'
def tab_packed : List (String × DSp) := [("State", sp_State_packed)]
structure FreshS (G : DH) (bx w e : Addr) : Prop where
  h1 : G bx = none
  h2 : G w = none
  h3 : G e = none
  n1 : bx ≠ w
  n2 : bx ≠ e
  n3 : w ≠ e
def sp_State_take : DSp := fun ds G Q _ => ∃ (A : SA) (pre post : List D) (m m' : MSt), ds = [.ref A.s, bundle m'] ∧ (StAt G A pre post m ∧ m'.cells.length = m.cells.length ∧ m.cells.length ≤ 1000 ∧ m'.boxes.length ≤ 1000 ∧ m'.words.length < 16000000 ∧ m'.ear.length ≤ 1000) ∧ ∀ bx w e G', FreshS G bx w e → StAt G' { A with bx := bx, w := w, e := e } pre post m' → Fr [A.s, A.t] G G' → Q .non G'
def tab_take : List (String × DSp) := [("State", sp_State_take)]
def sp_State_init : DSp := fun ds G Q _ => ∃ (s b e0 : Addr) (n : Int) (ear : List D), ds = [.ref s, .ref b, .int n, .ref e0] ∧ (G s = some (.ins "State" []) ∧ G e0 = some (.lst ear) ∧ ear.length ≤ 1000) ∧ ∀ bx w e G', FreshS G bx w e → G' s = some (.ins "State" [("body", .ref b), ("wide", .int n), ("boxes", .ref bx), ("place", .int 0), ("high", .bl true), ("window", .tup [.int 0, .int n]), ("left", .int 0), ("words", .ref w), ("ear", .ref e), ("why", .str ("" : Str)), ("many", .int 0)]) →
  G' bx = some (.lst [.int 0, .int 0, .int 0, .int 0]) → G' w = some (.lst []) → G' e = some (.lst ear) → Fr [s] G G' → Q .non G'
def sp_Body_init : DSp := fun ds G Q _ => ∃ (b c0 : Addr) (cells : List D), ds = [.ref b, .ref c0] ∧ (G b = some (.ins "Body" []) ∧ G c0 = some (.lst cells) ∧ cells.length ≤ 1000) ∧ ∀ t G', G t = none → G' b = some (.ins "Body" [("things", .ref t)]) → G' t = some (.lst cells) → Fr [b] G G' → Q .non G'
def t_State___init__ : TSD := (sSeq (sAsg (dVar 1) (gFld "State" (dVar 0) "body")) (sSeq (sAsg (dVar 2) (gFld "State" (dVar 0) "wide")) (sSeq (sAsg (dBin rMulD (dLst (dCons (dC (.int 0)) dNil)) (dC c_BOXES)) (gFld "State" (dVar 0) "boxes")) (sSeq (sAsg (dC (.int 0)) (gFld "State" (dVar 0) "place")) (sSeq (sAsg (dC (.bl true)) (gFld "State" (dVar 0) "high")) (sSeq (sAsg (dTup (dCons (dC (.int 0)) (dCons (dVar 2) dNil))) (gFld "State" (dVar 0) "window")) (sSeq (sAsg (dC (.int 0)) (gFld "State" (dVar 0) "left")) (sSeq (sAsg (dLst dNil) (gFld "State" (dVar 0) "words")) (sSeq (sAsg (dB rListD (dCons (dVar 3) dNil)) (gFld "State" (dVar 0) "ear")) (sSeq (sAsg (dC (.str ("" : Str))) (gFld "State" (dVar 0) "why")) (sAsg (dC (.int 0)) (gFld "State" (dVar 0) "many"))))))))))))
def t_State_packed : TSD := (sSeq (sAsg (dB rTupleD (dCons (dComp (iRngD1 (dFld (dVar 0) "wide")) (.one 3) dYes (dMeth tab_peek (dFld (dVar 0) "body") (dCons (dVar 3) dNil)) [3]) dNil)) (gSlot 1)) (sSeq (sAsg (dTup (dCons (dVar 1) (dCons (dB rTupleD (dCons (dFld (dVar 0) "boxes") dNil)) (dCons (dFld (dVar 0) "place") (dCons (dFld (dVar 0) "high") (dCons (dFld (dVar 0) "window") (dCons (dFld (dVar 0) "left") dNil))))))) (gSlot 2)) (sRet (dBin rAddD (dVar 2) (dTup (dCons (dB rTupleD (dCons (dFld (dVar 0) "words") dNil)) (dCons (dB rTupleD (dCons (dFld (dVar 0) "ear") dNil)) (dCons (dFld (dVar 0) "why") (dCons (dFld (dVar 0) "many") dNil)))))))))
def t_State_take : TSD := (sSeq (sFor (iRngD1 (dFld (dVar 0) "wide")) (gSlot 2) (sDo (dMeth tab_poke (dFld (dVar 0) "body") (dCons (dVar 2) (dCons (dBin rIxD (dBin rIxD (dVar 1) (dC (.int 0))) (dVar 2)) dNil))))) (sSeq (sAsg (dB rListD (dCons (dBin rIxD (dVar 1) (dC (.int 1))) dNil)) (gFld "State" (dVar 0) "boxes")) (sSeq (sAsg (dSl (dVar 1) (dPart (dC (.int 2))) (dPart (dC (.int 6)))) (gTupD 4 (gsCons (gFld "State" (dVar 0) "place") (gsCons (gFld "State" (dVar 0) "high") (gsCons (gFld "State" (dVar 0) "window") (gsCons (gFld "State" (dVar 0) "left") gsNil)))))) (sSeq (sAsg (dB rListD (dCons (dBin rIxD (dVar 1) (dC (.int 6))) dNil)) (gFld "State" (dVar 0) "words")) (sSeq (sAsg (dB rListD (dCons (dBin rIxD (dVar 1) (dC (.int 7))) dNil)) (gFld "State" (dVar 0) "ear")) (sAsg (dSl (dVar 1) (dPart (dC (.int 8))) dNoPart) (gTupD 2 (gsCons (gFld "State" (dVar 0) "why") (gsCons (gFld "State" (dVar 0) "many") gsNil)))))))))
def t_Body___init__ : TSD := (sAsg (dB rListD (dCons (dVar 1) dNil)) (gFld "Body" (dVar 0) "things"))

theorem walk_Body_init : ∀ ds G Q X, sp_Body_init ds G Q X → t_Body___init__ (ends Q X) (startD 2 ds) G := by
  intro ds G Q X hsp
  obtain ⟨b, c0, cells, rfl, ⟨hb, hc, hl⟩, hQ⟩ := hsp
  exists "run"
  rename_i p hp
  exact hQ p _ hp up_same (by exists "at") (((Fr.refl _ _).new hp).put (by simp))
theorem walk_State_init : ∀ ds G Q X, sp_State_init ds G Q X → t_State___init__ (ends Q X) (startD 4 ds) G := by
  intro ds G Q X hsp
  obtain ⟨s, b, e0, n, ear, rfl, ⟨hs, he, hl⟩, hQ⟩ := hsp
  have n0 : s ≠ e0 := ne_il hs he
  exists "run"
  refine hQ _ _ _ _ ?_ up_same ?_ ?_ ?_ ?_
  · exact ⟨‹_›, ‹_›, ‹_›, (by exists "ne"), (by exists "ne"), (by exists "ne")⟩
  · exists "atd"
  · exists "at"
  · exists "at"
  · exists "fr"
theorem rangeD_succ (lo : Int) (n : Nat) : rangeD lo (n + 1) = .int lo :: rangeD (lo + 1) n := by
  unfold rangeD
  rw [List.range_succ_eq_map, List.map_cons, List.map_map]
  simp only [Function.comp_def]
  congr 1
  · congr 1; simp
  · refine List.map_congr_left fun i _ => ?_
    congr 1; omega
theorem rangeD_cells (cs : List D) : (rangeD 0 cs.length).map (fun d => match d with | .int k => cs.getD k.toNat (.int 0) | d => d) = cs := by
  refine List.ext_getElem? fun i => ?_
  rw [List.getElem?_map]
  by_cases h : i < cs.length
  · rw [rangeD_get 0 cs.length i h, List.getElem?_eq_getElem h]
    show some (cs.getD ((0 : Int) + (i : Int)).toNat (.int 0)) = _
    rw [show ((0 : Int) + (i : Int)).toNat = i by omega, List.getD_eq_getElem?_getD, List.getElem?_eq_getElem h]
    rfl
  · rw [List.getElem?_eq_none (by rw [rangeD_length]; omega), List.getElem?_eq_none (by omega)]
    rfl
theorem walk_State_packed : ∀ ds G Q X, sp_State_packed ds G Q X → t_State_packed (ends Q X) (startD 4 ds) G := by
  intro ds G Q X hsp
  obtain ⟨A, pre, post, m, rfl, ⟨h, hl1, hl2, hl3, hl4⟩, hQ⟩ := hsp
  have st := h.st
  exists "run"
  rename_i p hp
  refine dComp_sub (I := ⟨rangeD 0 ((m.cells.length : Int)).toNat, fun _ => True⟩) hp (fun _ _ => trivial) (fun _ => true) (fun d => match d with | .int k => m.cells.getD k.toNat (.int 0) | d => d) (by show (rangeD 0 _).length < _; rw [rangeD_length]; omega) (fun d hd G' s' => ?_) (fun d hd _ G' s' => ?_) (fun G' s' e' => ?_)
  · intro k hk
    exact hk _ (.refl _)
  · obtain ⟨i, hi, rfl⟩ := rangeD_mem hd
    have h' := h.sub s'
    have st' := h'.st
    intro k hk
    exists "run"
    refine peek_at h' fun c uk => ?_
    exists "run"
    exact uk _ _ _ (by omega) (by omega) (hk _ (.refl _))
  · rw [List.filter_eq_self.mpr (fun _ _ => rfl), Int.toNat_natCast, rangeD_cells] at e'
    have h' := h.sub s'
    have st' := h'.st; have bx := h'.bx; have wd := h'.wd; have er := h'.er
    exists "run"
    exact hQ _ s'
theorem walk_State_take : ∀ ds G Q X, sp_State_take ds G Q X → t_State_take (ends Q X) (startD 3 ds) G := by
  intro ds G Q X hsp
  obtain ⟨A, pre, post, m, m', rfl, ⟨h, hc, hl1, hl2, hl3, hl4⟩, hQ⟩ := hsp
  have st := h.st
  exists "run"
  refine forRun_ind (fun r τ G' => ∃ (k j : Nat), r = rangeD (k : Int) j ∧ k + j = m.cells.length ∧ StAt G' A pre post (m.wc (m'.cells.take k ++ m.cells.drop k)) ∧ Fr [A.s, A.t] G G' ∧ ∃ z, τ = [some (.ref A.s), some (bundle m'), z]) ?_ ?_ _ _ _ ⟨0, m.cells.length, ?_, by omega, h, Fr.refl _ _, none, rfl⟩
  · rintro τ G1 ⟨k, j, hr, hk, h1, f1, z, rfl⟩
    refine ⟨trivial, ?_⟩
    have hj : j = 0 := by cases j with | zero => rfl | succ j => rw [rangeD_succ] at hr; cases hr
    subst hj
    have ec : m'.cells.take k ++ m.cells.drop k = m'.cells := by rw [List.take_of_length_le (by omega), List.drop_eq_nil_of_le (by omega), List.append_nil]
    rw [ec] at h1
    have st1 := h1.st
    have s1 := h1.s1
    have tl1 := h1.tl
    unfold bundle
    exists "run"
    have g0 : ∀ p, G1 p = none → p ∉ [A.s, A.t] → G p = none := fun p h n => f1.none n h
    obtain ⟨d, c, h3, hb⟩ := h1.bd
    rename_i p2 hp2 p1 _ _ _ _ _ _ hp1 p0 _ _ _ _ _ _ _ _ hp0
    have t2 : A.t ≠ p2 := ne_new hp2 tl1
    have t1 : A.t ≠ p1 := ne_new hp1 tl1
    have t0 : A.t ≠ p0 := ne_new hp0 tl1
    have key : ∀ GF, Fr [A.s] G1 GF → GF A.s = some (stObj { A with bx := p2, w := p1, e := p0 } m') → GF p2 = some (.lst m'.boxes) → GF p1 = some (.lst m'.words) → GF p0 = some (.lst m'.ear) → Q .non GF := fun GF ff k1 k2 k3 k4 =>
      hQ p2 p1 p0 GF ⟨g0 _ hp2 (by exists "nin"), g0 _ hp1 (by exists "nin"), g0 _ hp0 (by exists "nin"), (by exists "ne"), (by exists "ne"), (by exists "ne")⟩
        ⟨k1, ⟨d, c, h3, hb.frm ff (fun a ha => by simp only [List.mem_cons, List.not_mem_nil, or_false] at ha; subst ha; exact ⟨_, st1, rfl⟩)⟩, ff _ (by exists "nin") _ tl1, k2, k3, k4, t2, t1, t0, (by exists "ne"), (by exists "ne"), (by exists "ne")⟩ (f1.trans (ff.wk (by simp)))
    refine key _ ?_ up_same ?_ ?_ ?_
    · exists "fr"
    · exists "atd"
    · exists "atd"
    · exists "atd"
  · rintro d r ih τ G1 ⟨k, j, hr, hk, h1, f1, z, rfl⟩
    cases j with
    | zero => cases hr
    | succ j =>
      rw [rangeD_succ] at hr
      injection hr with hr1 hr2
      subst hr1 hr2
      refine ⟨trivial, ?_⟩
      have st1 := h1.st
      exists "run"
      refine poke_at h1 fun c uk => ?_
      exists "run"
      refine onSome_i (atI_nat (List.getElem?_eq_getElem (show k < m'.cells.length by omega))) ?_
      exists "run"
      have hlen : (m'.cells.take k ++ m.cells.drop k).length = m.cells.length := by rw [List.length_append, List.length_take, List.length_drop]; omega
      refine uk _ _ _ _ (by omega) (by show (k : Int) < ((m'.cells.take k ++ m.cells.drop k).length : Int); omega) ?_
      have es : (m'.cells.take k ++ m.cells.drop k).set ((k : Int)).toNat m'.cells[k] = m'.cells.take (k + 1) ++ m.cells.drop (k + 1) := by
        rw [Int.toNat_natCast, List.set_append_right _ _ (by rw [List.length_take]; omega), List.length_take, show k - min k m'.cells.length = 0 by omega, List.drop_eq_getElem_cons (show k < m.cells.length by omega), List.set_cons_zero, List.take_succ_eq_append_getElem (by omega), List.append_assoc]
        rfl
      refine ih _ _ ⟨k + 1, j, by rw [show ((k + 1 : Nat) : Int) = (k : Int) + 1 by omega], by omega, ?_, f1.put (by simp), _, rfl⟩
      refine (h1.setT (cs := (m'.cells.take k ++ m.cells.drop k).set ((k : Int)).toNat m'.cells[k]) rfl (List.length_set)).cast ?_
      rw [es]; rfl
  · rw [Int.toNat_natCast]; rfl


open MSt
structure MaAt (G : DH) (a : Addr) (A : SA) (ks : List Bool) (m : MSt) : Prop where
  ma : G a = some (.ins "Machine" [("kind", .tup (ks.map .bl)), ("state", .ref A.s)])
  st : StAt G A [] [] m
theorem MaAt.ne {G : DH} {a : Addr} {A : SA} {ks : List Bool} {m : MSt} (h : MaAt G a A ks m) : a ∉ A.fp := by
  intro z
  simp only [SA.fp, List.mem_cons, List.not_mem_nil, or_false] at z
  have k := h.ma
  rcases z with z | z | z | z | z <;> subst z
  · rw [h.st.st] at k; injection k with k; injection k with k _; exact absurd k (by decide)
  · rw [h.st.tl] at k; cases k
  · rw [h.st.bx] at k; cases k
  · rw [h.st.wd] at k; cases k
  · rw [h.st.er] at k; cases k
theorem MaAt.frm {G G' : DH} {xs : List Addr} {a : Addr} {A : SA} {ks : List Bool} {m : MSt} (h : MaAt G a A ks m) (f : Fr xs G G') (hx : ∀ a ∈ xs, ∃ o, G a = some o ∧ supO o = false) (ds : ∀ b ∈ xs, b ∉ A.fp ∧ b ≠ a) : MaAt G' a A ks m :=
  ⟨f _ (fun z => (ds _ z).2 rfl) _ h.ma, h.st.frm f hx fun b hb => (ds b hb).1⟩
theorem MaAt.sub {G G' : DH} {a : Addr} {A : SA} {ks : List Bool} {m : MSt} (h : MaAt G a A ks m) (f : Sub G G') : MaAt G' a A ks m := ⟨f _ _ h.ma, h.st.sub f⟩
/-- all its places are new -/
def SA.new (A : SA) (G : DH) : Prop := G A.s = none ∧ G A.b = none ∧ G A.t = none ∧ G A.bx = none ∧ G A.w = none ∧ G A.e = none
/-- its body is a list of its own -/
def BodyO (G : DH) (A : SA) : Prop := G A.b = some (.ins "Body" [("things", .ref A.t)])
def sp_Machine_init : DSp := fun ds G Q _ => ∃ (a pc pe : Addr) (ks : List Bool) (cells ear : List D), ds = [.ref a, .tup (ks.map .bl), .ref pc, .ref pe] ∧ (G a = some (.ins "Machine" []) ∧ ks.length = 7 ∧ G pc = some (.lst cells) ∧ Cells cells ∧ G pe = some (.lst ear) ∧ ear.length ≤ 20 ∧ ∀ x ∈ ear, isNatD x) ∧ ∀ A G', A.new G → MaAt G' a A ks (start cells ear) → Fr [a] G G' → BodyO G' A → Q .non G'
theorem earB_ok {xs : List D} (h : xs.length ≤ 20) (k : ∀ x ∈ xs, isNatD x) : (decide (xs.length ≤ 20) && xs.all natB) = true ∧ xs.all biD = true := by
  refine ⟨?_, ?_⟩
  · rw [decide_eq_true h, Bool.true_and, List.all_eq_true]
    intro x hx
    obtain ⟨n, hn, rfl⟩ := k x hx
    exact nb_ok (by omega)
  · rw [List.all_eq_true]
    intro x hx
    obtain ⟨n, hn, rfl⟩ := k x hx
    rfl
theorem use_need_ear {p : Addr} {xs : List D} {G : DH} {Q : DQ} {X : DX} (h : G p = some (.lst xs) ∧ xs.length ≤ 20 ∧ ∀ x ∈ xs, isNatD x) (k : ∀ G', Sub G G' → Q .non G') : Ir sp_need_ear [.ref p] G Q X :=
  Ir_i ⟨p, xs, rfl, ⟨h.1, (earB_ok h.2.1 h.2.2).2, by have := h.2.1; omega⟩, fun _ => k, fun z => by rw [(earB_ok h.2.1 h.2.2).1] at z; cases z⟩
def t_Machine___init__ : TSD := (sSeq (sDo (dCall sp_need_kind (dCons (dVar 1) dNil))) (sSeq (sDo (dCall sp_need_cells (dCons (dVar 2) dNil))) (sSeq (sDo (dCall sp_need_ear (dCons (dVar 3) dNil))) (sSeq (sAsg (dVar 1) (gFld "Machine" (dVar 0) "kind")) (sAsg (dMake "State" sp_State_init (dCons (dMake "Body" sp_Body_init (dCons (dVar 2) dNil)) (dCons (dB rLen (dCons (dVar 2) dNil)) (dCons (dVar 3) dNil)))) (gFld "Machine" (dVar 0) "state"))))))
def t_Machine_go : TSD := (sSeq (sDo (dCall sp_need_count (dCons (dVar 1) (dCons (dC (.int 0)) (dCons (dC c_MOST_STEPS) dNil))))) (sSeq (sFor (iRngD1 (dVar 1)) (gSlot 2) (sSeq (sIf (dT (dBin rNeD (dFld (dFld (dVar 0) "state") "why") (dC (.str ("" : Str))))) (sRet (dVar 2)) sNx) (sDo (dMeth tab_step (dFld (dVar 0) "state") (dCons (dFld (dVar 0) "kind") dNil))))) (sRet (dVar 1))))
def t_Machine_said : TSD := (sRet (dB rListD (dCons (dFld (dFld (dVar 0) "state") "words") dNil)))
def t_Machine_carried : TSD := (sRet (dMeth tab_packed (dFld (dVar 0) "state") dNil))
local macro_rules | `(tactic| exists "run") => `(tactic| ((try (conv => whnf)); repeat' ((first | refine onSome_i rfl ?_ | ((with_reducible apply onSome_i); focus exists "hp") | ((with_reducible apply onSome_i); focus exists "fl") | with_reducible refine onSome_i atI0 ?_ | with_reducible refine onSome_i atI1 ?_ | with_reducible refine onSome_i atI2 ?_ | with_reducible refine onSome_i atI3 ?_ | refine ifB_t rfl ?_ | refine ifB_f rfl ?_ | refine ifB_not ?_ | refine ifB_if ?_ | refine ifB_if1 ?_ | refine rEq_iq ?_ | refine rEq_sq ?_ | refine rEq_bq ?_ | refine rNe_iq ?_ | refine rNe_sq ?_ | refine rNe_bq ?_ | (apply rEq_tt; (focus exact rfl); (focus exact rfl)) | (apply rNe_tt; (focus exact rfl); (focus exact rfl)) | (apply rEq_ti; focus exact rfl) | (apply rNe_ti; focus exact rfl) | ((with_reducible apply onSome_i); focus ((first | apply hp_len | apply hp_lstOf | apply hp_mutOf | apply hp_seqOf | apply hp_recv | apply hp_lst | apply hp_ins | apply hp_dct | apply hp_dctR); exists "at")) | ((with_reducible apply onSome_i); focus ((apply hp_fdcR); exists "at")) | ((with_reducible apply And.intro); focus exists "sd") | refine ref_i ?_ | refine eq_i ?_ | exists "new" | ((with_reducible apply use_need_kind); (focus exists "sds"); intros) | ((with_reducible apply use_need_cells); (focus exists "sds"); intros) | ((with_reducible apply use_need_ear); (focus exists "sds"); intros) | ((with_reducible apply use_need_count); (focus exists "sds"); intros) | fail) <;> (try (conv => whnf)))))
local macro_rules | `(tactic| exists "all") => `(tactic| ((try (conv => whnf)); repeat' ((first | refine onSome_i rfl ?_ | ((with_reducible apply onSome_i); focus exists "hp") | ((with_reducible apply onSome_i); focus exists "fl") | with_reducible refine onSome_i atI0 ?_ | with_reducible refine onSome_i atI1 ?_ | with_reducible refine onSome_i atI2 ?_ | with_reducible refine onSome_i atI3 ?_ | refine ifB_t rfl ?_ | refine ifB_f rfl ?_ | refine ifB_not ?_ | refine ifB_if ?_ | refine ifB_if1 ?_ | refine rEq_iq ?_ | refine rEq_sq ?_ | refine rEq_bq ?_ | refine rNe_iq ?_ | refine rNe_sq ?_ | refine rNe_bq ?_ | (apply rEq_tt; (focus exact rfl); (focus exact rfl)) | (apply rNe_tt; (focus exact rfl); (focus exact rfl)) | (apply rEq_ti; focus exact rfl) | (apply rNe_ti; focus exact rfl) | ((with_reducible apply onSome_i); focus ((first | apply hp_len | apply hp_lstOf | apply hp_mutOf | apply hp_seqOf | apply hp_recv | apply hp_lst | apply hp_ins | apply hp_dct | apply hp_dctR); exists "at")) | ((with_reducible apply onSome_i); focus ((apply hp_fdcR); exists "at")) | ((with_reducible apply And.intro); focus exists "sd") | refine ref_i ?_ | refine eq_i ?_ | exists "new" | ((with_reducible apply use_need_kind); (focus exists "sds"); intros) | ((with_reducible apply use_need_cells); (focus exists "sds"); intros) | ((with_reducible apply use_need_ear); (focus exists "sds"); intros) | ((with_reducible apply use_need_count); (focus exists "sds"); intros) | exact All.nil | refine All.cons ?_ ?_ | (refine ix_all ?_ ?_; focus exists "sd") | refine ifB_d (fun _ => ?_) fun _ => ?_ | refine ifB_nd (fun _ => ?_) fun _ => ?_ | fail) <;> (try (conv => whnf)))))

theorem walk_Machine_init : ∀ ds G Q X, sp_Machine_init ds G Q X → t_Machine___init__ (ends Q X) (startD 4 ds) G := by
  intro ds G Q X hsp
  obtain ⟨a, pc, pe, ks, cells, ear, rfl, ⟨ha, h7, hpc, hc, hpe, he, hn⟩, hQ⟩ := hsp
  have hc40 := hc.2.1
  have n1 : a ≠ pc := ne_il ha hpc
  have n2 : a ≠ pe := ne_il ha hpe
  exists "run"
  rename_i G1 s1 G2 s2 G3 s3 b nb hb
  have s13 : Sub G G3 := s1.trans (s2.trans s3)
  have ha3 := s13 _ _ ha; have hpc3 := s13 _ _ hpc; have hpe3 := s13 _ _ hpe
  refine Ir_i ⟨b, pc, cells, rfl, ⟨up_same, (by exists "at"), by omega⟩, fun t G4 ht hb4 ht4 f4 => ?_⟩
  have nbt : b ≠ t := ne_il hb4 ht4
  exists "run"
  rename_i s hs
  have hs3 : s ≠ a ∧ s ≠ b ∧ s ≠ t ∧ s ≠ pe ∧ G3 s = none := by
    have k1 : (up (up G3 a (DO.ins "Machine" (putD "kind" (D.tup (List.map D.bl ks)) []))) b (DO.ins "Body" [])) s = none := by
      refine Fr.none f4 ?_ hs
      simp only [List.mem_cons, List.not_mem_nil, or_false]
      intro z; subst z; rw [hb4] at hs; cases hs
    obtain ⟨k2, k3⟩ := up_none k1
    obtain ⟨k4, k5⟩ := up_none k3
    exact ⟨Ne.symm k4, Ne.symm k2, (ne_new' hs ht4), (ne_new' k5 hpe3), k5⟩
  obtain ⟨hsa, hsb, hst, hspe, hs3⟩ := hs3
  refine Ir_i ⟨s, b, pe, _, ear, rfl, ⟨up_same, (by exists "at"), by omega⟩, fun bx w e G5 fs st5 bx5 w5 e5 f5 => ?_⟩
  exists "run"
  obtain ⟨fb, fw, fe, q1, q2, q3⟩ := fs
  have g5a : G5 a = some (.ins "Machine" [("kind", .tup (ks.map .bl))]) := by exists "atd"
  have g5b : G5 b = some (.ins "Body" [("things", .ref t)]) := by exists "at"
  have g5t : G5 t = some (.lst cells) := by exists "at"
  have kt : G3 t = none := (up_none (up_none ht).2).2
  have new4 : ∀ p, up G4 s (DO.ins "State" []) p = none → G3 p = none ∧ t ≠ p := fun p hp => by
    obtain ⟨k1, k2⟩ := up_none hp
    have k3 : t ≠ p := ne_new k2 ht4
    have k4 := Fr.none f4 (show p ∉ [b] by simp only [List.mem_cons, List.not_mem_nil, or_false]; intro z; subst z; rw [hb4] at k2; cases k2) k2
    exact ⟨(up_none (up_none k4).2).2, k3⟩
  have n0 : ∀ p, G3 p = none → G p = none := fun p hp => s13.none hp
  have nta : a ≠ t := ne_new kt ha3
  obtain ⟨b1, b2⟩ := new4 _ fb
  obtain ⟨c1, c2⟩ := new4 _ fw
  obtain ⟨d1, d2⟩ := new4 _ fe
  have nab : a ≠ bx := ne_new b1 ha3
  have naw : a ≠ w := ne_new c1 ha3
  have nae : a ≠ e := ne_new d1 ha3
  have key : ∀ GF, GF a = some (.ins "Machine" [("kind", .tup (ks.map .bl)), ("state", .ref s)]) → Fr [a] G5 GF → Q .non GF := fun GF k1 k2 => by
    have g : ∀ p o, p ≠ a → G5 p = some o → GF p = some o := fun p o n h => k2 p (by simpa using n) o h
    refine hQ ⟨s, b, t, bx, w, e⟩ GF ⟨n0 _ hs3, n0 _ hb, n0 _ kt, n0 _ b1, n0 _ c1, n0 _ d1⟩ ⟨k1, ⟨g _ _ hsa st5, ⟨0, "Body", by omega, .body rfl (g _ _ (Ne.symm nb) g5b)⟩, ?_, g _ _ (Ne.symm nab) bx5, g _ _ (Ne.symm naw) w5, g _ _ (Ne.symm nae) e5, b2, c2, d2, q1, q2, q3⟩⟩ ?_ (g _ _ (Ne.symm nb) g5b)
    · show GF t = some (.lst ([] ++ cells ++ []))
      rw [List.append_nil, List.nil_append]
      exact g _ _ (Ne.symm nta) g5t
    · intro p hp o ho
      have hpa : p ≠ a := by simpa using hp
      have h3 := s13 _ _ ho
      have e1 : p ≠ b := ne_new hb h3
      have e2 : p ≠ s := ne_new hs3 h3
      refine g _ _ hpa (f5 _ (by simpa using e2) _ ?_)
      rw [up_ne e2]
      refine f4 _ (by simpa using e1) _ ?_
      rw [up_ne e1, up_ne hpa]
      exact h3
  refine key _ ?_ ?_
  · exact up_same
  · exists "fr"
def sp_Machine_go : DSp := fun ds G Q _ => ∃ (a : Addr) (A : SA) (ks : List Bool) (m : MSt) (n : Nat), ds = [.ref a, .int (n : Int)] ∧ (MaAt G a A ks m ∧ n ≤ 400 ∧ m.Ok ∧ m.place ≤ 999 ∧ ks.length = 7 ∧ (m.words.length : Int) ≤ m.many ∧ m.many < 14000000) ∧ ∀ G', MaAt G' a A ks (MSt.go ks n m).1 → Fr A.fp G G' → Q (.int ((MSt.go ks n m).2 : Int)) G'
def tab_go : List (String × DSp) := [("Machine", sp_Machine_go)]
def sp_Machine_said : DSp := fun ds G Q _ => ∃ (a : Addr) (A : SA) (ks : List Bool) (m : MSt), ds = [.ref a] ∧ (MaAt G a A ks m ∧ m.words.length < 16000000) ∧ ∀ p G', G p = none → G' p = some (.lst m.words) → Sub G G' → Q (.ref p) G'
def tab_said : List (String × DSp) := [("Machine", sp_Machine_said)]
def sp_Machine_carried : DSp := fun ds G Q _ => ∃ (a : Addr) (A : SA) (ks : List Bool) (m : MSt), ds = [.ref a] ∧ (MaAt G a A ks m ∧ m.Ok ∧ m.words.length < 16000000) ∧ ∀ G', Sub G G' → Q (bundle m) G'
def tab_carried : List (String × DSp) := [("Machine", sp_Machine_carried)]
theorem walk_Machine_said : ∀ ds G Q X, sp_Machine_said ds G Q X → t_Machine_said (ends Q X) (startD 1 ds) G := by
  intro ds G Q X hsp
  obtain ⟨a, A, ks, m, rfl, ⟨h, hl⟩, hQ⟩ := hsp
  have ma := h.ma; have st := h.st.st; have wd := h.st.wd
  exists "run"
  exact hQ _ _ ‹_› up_same (.new ‹_›)
theorem walk_Machine_carried : ∀ ds G Q X, sp_Machine_carried ds G Q X → t_Machine_carried (ends Q X) (startD 1 ds) G := by
  intro ds G Q X hsp
  obtain ⟨a, A, ks, m, rfl, ⟨h, hok, hl⟩, hQ⟩ := hsp
  have ma := h.ma; have st := h.st.st
  have h1 := hok.c40; have h2 := hok.b4; have h3 := hok.e20
  exists "run"
  exact Ir_i ⟨A, [], [], m, rfl, ⟨h.st, by omega, by omega, hl, by omega⟩, hQ⟩
theorem caught_mw (m : MSt) (n p k : Int) : (m.caught n p k).many = m.many ∧ (m.caught n p k).words = m.words := by
  unfold MSt.caught
  split <;> exact ⟨rfl, rfl⟩
theorem counted_mw (m : MSt) : m.counted.many = m.many ∧ m.counted.words = m.words := by
  unfold MSt.counted
  split
  · split
    · exact caught_mw _ _ _ _
    · exact ⟨rfl, rfl⟩
  · exact ⟨rfl, rfl⟩
theorem low_mw (m : MSt) (w : Str) (ps : List D) : (m.low w ps).many = m.many ∧ (m.low w ps).words.length ≤ m.words.length + 1 := by
  unfold MSt.low
  repeat' split
  · exact ⟨rfl, by show (m.words ++ [_]).length ≤ _; simp⟩
  all_goals exact ⟨rfl, Nat.le_succ _⟩
theorem own_mw (m : MSt) (w : Str) (ps : List D) : (m.own w ps).many = m.many ∧ (m.own w ps).words.length ≤ m.words.length + 1 := by
  unfold MSt.own
  repeat' split
  · exact ⟨rfl, by show (m.words ++ [_]).length ≤ _; simp⟩
  all_goals exact ⟨rfl, Nat.le_succ _⟩
theorem plain_mw (m : MSt) (w : Str) (ps : List D) : (m.plain w ps).1.many = m.many ∧ (m.plain w ps).1.words = m.words := by
  unfold MSt.plain
  repeat' split
  all_goals exact ⟨rfl, rfl⟩
theorem rowStep_mw (ks : List Bool) (m : MSt) (w : Str) (ps : List D) : (rowStep ks m w ps).many = m.many ∧ (rowStep ks m w ps).words.length ≤ m.words.length + 1 := by
  unfold rowStep
  repeat' split
  · exact ⟨rfl, Nat.le_succ _⟩
  · rw [(caught_mw _ _ _ _).1, (caught_mw _ _ _ _).2]; exact ⟨rfl, Nat.le_succ _⟩
  · exact own_mw _ _ _
  · rw [(caught_mw _ _ _ _).1, (caught_mw _ _ _ _).2]; exact ⟨rfl, Nat.le_succ _⟩
  · rw [(counted_mw _).1, (counted_mw _).2]; exact low_mw _ _ _
  · rw [(counted_mw _).1, (counted_mw _).2, (plain_mw _ _ _).1, (plain_mw _ _ _).2]; exact ⟨rfl, Nat.le_succ _⟩
  · rw [(caught_mw _ _ _ _).1, (caught_mw _ _ _ _).2, (plain_mw _ _ _).1, (plain_mw _ _ _).2]; exact ⟨rfl, Nat.le_succ _⟩
theorem step_many (ks : List Bool) (m : MSt) : (MSt.step ks m).many = m.many + 1 ∧ (MSt.step ks m).words.length ≤ m.words.length + 1 := by
  unfold MSt.step step1
  split
  · exact rowStep_mw _ _ _ _
  · rw [(caught_mw _ _ _ _).1, (caught_mw _ _ _ _).2]; exact ⟨rfl, Nat.le_succ _⟩
  · exact ⟨rfl, Nat.le_succ _⟩
theorem go_succ (ks : List Bool) (j : Nat) (m : MSt) : MSt.go ks (j + 1) m = if m.why = ("" : Str) then ((MSt.go ks j (MSt.step ks m)).1, (MSt.go ks j (MSt.step ks m)).2 + 1) else (m, 0) := rfl
theorem walk_Machine_go : ∀ ds G Q X, sp_Machine_go ds G Q X → t_Machine_go (ends Q X) (startD 3 ds) G := by
  intro ds G Q X hsp
  obtain ⟨a, A, ks, m, n, rfl, ⟨h, hn, hok, hp, h7, hw, hm⟩, hQ⟩ := hsp
  exists "run"
  refine forRun_ind (fun r τ G' => ∃ (k j : Nat) (mk : MSt), r = rangeD (k : Int) j ∧ k + j = n ∧ MaAt G' a A ks mk ∧ mk.Ok ∧ mk.place ≤ 999 ∧ (mk.words.length : Int) ≤ mk.many ∧ mk.many = m.many + k ∧ (MSt.go ks n m).1 = (MSt.go ks j mk).1 ∧ (MSt.go ks n m).2 = k + (MSt.go ks j mk).2 ∧ Fr A.fp G G' ∧ ∃ z, τ = [some (.ref a), some (.int (n : Int)), z]) ?_ ?_ _ _ _ ⟨0, n, m, ?_, by omega, h, hok, hp, hw, by simp, rfl, by simp, Fr.refl _ _, none, rfl⟩
  · rintro τ G1 ⟨k, j, mk, hr, hk, h1, o1, p1, w1, m1, e1, e2, f1, z, rfl⟩
    refine ⟨trivial, ?_⟩
    have hj : j = 0 := by cases j with | zero => rfl | succ j => rw [rangeD_succ] at hr; cases hr
    subst hj
    have hk' : k = n := by omega
    subst hk'
    exists "run"
    rw [e1, e2] at hQ
    exact hQ _ h1 f1
  · rintro d r ih τ G1 ⟨k, j, mk, hr, hk, h1, o1, p1, w1, m1, e1, e2, f1, z, rfl⟩
    cases j with
    | zero => cases hr
    | succ j =>
      rw [rangeD_succ] at hr
      injection hr with hr1 hr2
      subst hr1 hr2
      refine ⟨trivial, ?_⟩
      have ma := h1.ma; have st := h1.st.st
      rw [go_succ] at e1 e2
      exists "run"
      refine ifB_d (fun hy => ?_) fun hy => ?_
      rotate_left
      · rw [if_neg hy] at e1 e2
        exists "run"
        rw [e1, e2] at hQ
        exact hQ _ h1 f1
      · rw [if_pos hy] at e1 e2
        exists "run"
        refine use_step h1.st ⟨o1, p1, h7, w1, by omega⟩ fun G2 h2 f2 => ?_
        obtain ⟨s1, s2⟩ := step_many ks mk
        obtain ⟨s3, s4⟩ := step_ok (ks := ks) o1 p1
        refine ih _ _ ⟨k + 1, j, MSt.step ks mk, by rw [show ((k + 1 : Nat) : Int) = (k : Int) + 1 by omega], by omega, ⟨f2 _ h1.ne _ h1.ma, h2⟩, s3, s4, by omega, by omega, e1, by rw [e2]; simp only []; omega, f1.trans f2, _, rfl⟩
  · rfl


/-! ### the same, and of the same kinds -/
inductive EqD (G : DH) : Nat → D → D → Prop
  | non {n : Nat} : EqD G n .non .non
  | int {n : Nat} (i : Int) : EqD G n (.int i) (.int i)
  | str {n : Nat} (i : Str) : EqD G n (.str i) (.str i)
  | bl {n : Nat} (i : Bool) : EqD G n (.bl i) (.bl i)
  | tup {n : Nat} {xs ys : List D} (hl : xs.length = ys.length) (hz : xs.length < 16000000) (h : ∀ (k : Nat) x y, xs[k]? = some x → ys[k]? = some y → EqD G n x y) : EqD G (n + 1) (.tup xs) (.tup ys)
  | lst {n : Nat} {a b : Addr} {xs ys : List D} (ha : G a = some (.lst xs)) (hb : G b = some (.lst ys)) (hl : xs.length = ys.length) (hz : xs.length < 16000000) (h : ∀ (k : Nat) x y, xs[k]? = some x → ys[k]? = some y → EqD G n x y) : EqD G (n + 1) (.ref a) (.ref b)
theorem EqD.sub {G G' : DH} (f : Sub G G') : ∀ {n : Nat} {x y : D}, EqD G n x y → EqD G' n x y
  | _, _, _, .non => .non
  | _, _, _, .int i => .int i
  | _, _, _, .str i => .str i
  | _, _, _, .bl i => .bl i
  | _, _, _, .tup hl hz h => .tup hl hz fun k x y h1 h2 => EqD.sub f (h k x y h1 h2)
  | _, _, _, .lst ha hb hl hz h => .lst (f _ _ ha) (f _ _ hb) hl hz fun k x y h1 h2 => EqD.sub f (h k x y h1 h2)
def sp_l_same : Nat → DSp
  | 0 => fun _ _ _ _ => False
  | n + 1 => fun ds G Q _ => ∃ x y, ds = [x, y] ∧ EqD G n x y ∧ ∀ G', Sub G G' → Q (.bl true) G'
theorem use_same {n : Nat} {x y : D} {G : DH} {Q : DQ} {X : DX} (h : EqD G n x y) (k : ∀ G', Sub G G' → Q (.bl true) G') : Ir (sp_l_same (n + 1)) [x, y] G Q X := Ir_i ⟨x, y, rfl, h, k⟩
def t_l_same (n : Nat) : TSD := (sSeq (sIf (dT (dIsi ["tuple", "list"] (dVar 1))) (sSeq (sIf (dOrT (dNotT (dT (dIsi ["tuple", "list"] (dVar 0)))) (dT (dBin rNeD (dIsi ["list"] (dVar 0)) (dIsi ["list"] (dVar 1))))) (sRet (dC (.bl false))) sNx) (sSeq (sIf (dT (dBin rNeD (dB rLen (dCons (dVar 0) dNil)) (dB rLen (dCons (dVar 1) dNil)))) (sRet (dC (.bl false))) sNx) (sRet (dBin rEqD (dComp (iRngD1 (dB rLen (dCons (dVar 1) dNil))) (.one 2) (dNotT (dT (dCall (sp_l_same n) (dCons (dBin rIxD (dVar 0) (dVar 2)) (dCons (dBin rIxD (dVar 1) (dVar 2)) dNil))))) (dVar 2) [2]) (dLst dNil))))) sNx) (sSeq (sIf (dT (dIsN false (dVar 1))) (sRet (dIsN false (dVar 0))) sNx) (sSeq (sIf (dT (dIsi ["str"] (dVar 1))) (sRet (dAndV (dIsi ["str"] (dVar 0)) (dBin rEqD (dVar 0) (dVar 1)))) sNx) (sSeq (sIf (dOrT (dT (dIsi ["bool"] (dVar 1))) (dT (dIsi ["bool"] (dVar 0)))) (sRet (dAndV (dIsi ["bool"] (dVar 1)) (dAndV (dIsi ["bool"] (dVar 0)) (dBin rEqD (dVar 0) (dVar 1))))) sNx) (sRet (dAndV (dIsi ["int"] (dVar 0)) (dBin rEqD (dVar 0) (dVar 1))))))))
local macro_rules | `(tactic| exists "run") => `(tactic| ((try (conv => whnf)); repeat' ((first | refine onSome_i rfl ?_ | ((with_reducible apply onSome_i); focus exists "hp") | ((with_reducible apply onSome_i); focus exists "fl") | with_reducible refine onSome_i atI0 ?_ | with_reducible refine onSome_i atI1 ?_ | with_reducible refine onSome_i atI2 ?_ | with_reducible refine onSome_i atI3 ?_ | refine ifB_t rfl ?_ | refine ifB_f rfl ?_ | refine ifB_not ?_ | refine ifB_if ?_ | refine ifB_if1 ?_ | refine rEq_iq ?_ | refine rEq_sq ?_ | refine rEq_bq ?_ | refine rNe_iq ?_ | refine rNe_sq ?_ | refine rNe_bq ?_ | (apply rEq_tt; (focus exact rfl); (focus exact rfl)) | (apply rNe_tt; (focus exact rfl); (focus exact rfl)) | (apply rEq_ti; focus exact rfl) | (apply rNe_ti; focus exact rfl) | ((with_reducible apply onSome_i); focus ((first | apply hp_len | apply hp_lstOf | apply hp_mutOf | apply hp_seqOf | apply hp_recv | apply hp_lst | apply hp_ins | apply hp_dct | apply hp_dctR); exists "at")) | ((with_reducible apply onSome_i); focus ((apply hp_fdcR); exists "at")) | ((with_reducible apply And.intro); focus exists "sd") | refine ref_i ?_ | refine eq_i ?_ | exists "new" | fail) <;> (try (conv => whnf)))))
local macro_rules | `(tactic| exists "all") => `(tactic| ((try (conv => whnf)); repeat' ((first | refine onSome_i rfl ?_ | ((with_reducible apply onSome_i); focus exists "hp") | ((with_reducible apply onSome_i); focus exists "fl") | with_reducible refine onSome_i atI0 ?_ | with_reducible refine onSome_i atI1 ?_ | with_reducible refine onSome_i atI2 ?_ | with_reducible refine onSome_i atI3 ?_ | refine ifB_t rfl ?_ | refine ifB_f rfl ?_ | refine ifB_not ?_ | refine ifB_if ?_ | refine ifB_if1 ?_ | refine rEq_iq ?_ | refine rEq_sq ?_ | refine rEq_bq ?_ | refine rNe_iq ?_ | refine rNe_sq ?_ | refine rNe_bq ?_ | (apply rEq_tt; (focus exact rfl); (focus exact rfl)) | (apply rNe_tt; (focus exact rfl); (focus exact rfl)) | (apply rEq_ti; focus exact rfl) | (apply rNe_ti; focus exact rfl) | ((with_reducible apply onSome_i); focus ((first | apply hp_len | apply hp_lstOf | apply hp_mutOf | apply hp_seqOf | apply hp_recv | apply hp_lst | apply hp_ins | apply hp_dct | apply hp_dctR); exists "at")) | ((with_reducible apply onSome_i); focus ((apply hp_fdcR); exists "at")) | ((with_reducible apply And.intro); focus exists "sd") | refine ref_i ?_ | refine eq_i ?_ | exists "new" | exact All.nil | refine All.cons ?_ ?_ | (refine ix_all ?_ ?_; focus exists "sd") | refine ifB_d (fun _ => ?_) fun _ => ?_ | refine ifB_nd (fun _ => ?_) fun _ => ?_ | fail) <;> (try (conv => whnf)))))

theorem walk_l_same (n : Nat) : ∀ ds G Q X, sp_l_same (n + 1) ds G Q X → t_l_same n (ends Q X) (startD 3 ds) G := by
  intro ds G Q X hsp
  obtain ⟨x, y, rfl, h, hQ⟩ := hsp
  have dt : ∀ {α : Type} [DecidableEq α] (i : α), (∀ G', Sub G G' → Q (.bl true) G') → Q (.bl (decide (i = i))) G := fun i h => by
    rw [decide_eq_true rfl]; exact h _ (.refl _)
  cases h with
  | non => exists "run"; exact hQ _ (.refl _)
  | int i => exists "run"; exact dt i hQ
  | str i => exists "run"; exact dt i hQ
  | bl i => exists "run"; exact dt i hQ
  | @tup n xs ys hl hz h =>
    exists "run"
    refine ifB_t (decide_eq_true (by omega)) ?_
    exists "run"
    rename_i p hp
    refine dComp_sub (I := ⟨rangeD 0 ((ys.length : Int)).toNat, fun _ => True⟩) hp (fun _ _ => trivial) (fun _ => false) id (by show (rangeD 0 _).length < _; rw [rangeD_length]; omega) (fun d hd G' s' => ?_) (fun d hd hf G' s' => by cases hf) (fun G' s' e' => ?_)
    · obtain ⟨i, hi, rfl⟩ := rangeD_mem hd
      rw [show (0 : Int) + (i : Int) = (i : Int) by omega]
      have hx : xs[i]? = some xs[i] := List.getElem?_eq_getElem (by omega)
      have hy : ys[i]? = some ys[i] := List.getElem?_eq_getElem (by omega)
      intro k hk
      exists "run"
      refine onSome_i (atI_nat hx) ?_
      exists "run"
      refine onSome_i (atI_nat hy) ?_
      exists "run"
      refine use_same ((h i _ _ hx hy).sub s') fun G2 s2 => ?_
      exact hk _ s2
    · have e2 : ((rangeD 0 ((ys.length : Int)).toNat).filter fun _ => false).map id = [] := by simp
      rw [e2] at e'
      exists "run"
      rename_i q hq
      refine rEq_nil (ys := []) (by exists "at") up_same (fun _ h => by simp at h) ?_
      exact hQ _ (s'.tr hq)
  | @lst n a b xs ys ha hb hl hz h =>
    exists "run"
    refine ifB_t (decide_eq_true (by omega)) ?_
    exists "run"
    rename_i p hp
    refine dComp_sub (I := ⟨rangeD 0 ((ys.length : Int)).toNat, fun _ => True⟩) hp (fun _ _ => trivial) (fun _ => false) id (by show (rangeD 0 _).length < _; rw [rangeD_length]; omega) (fun d hd G' s' => ?_) (fun d hd hf G' s' => by cases hf) (fun G' s' e' => ?_)
    · obtain ⟨i, hi, rfl⟩ := rangeD_mem hd
      rw [show (0 : Int) + (i : Int) = (i : Int) by omega]
      have hx : xs[i]? = some xs[i] := List.getElem?_eq_getElem (by omega)
      have hy : ys[i]? = some ys[i] := List.getElem?_eq_getElem (by omega)
      have ha' := s' _ _ ha; have hb' := s' _ _ hb
      intro k hk
      exists "run"
      refine onSome_i (atI_nat hx) ?_
      exists "run"
      refine onSome_i (atI_nat hy) ?_
      exists "run"
      refine use_same ((h i _ _ hx hy).sub s') fun G2 s2 => ?_
      exact hk _ s2
    · have e2 : ((rangeD 0 ((ys.length : Int)).toNat).filter fun _ => false).map id = [] := by simp
      rw [e2] at e'
      exists "run"
      rename_i q hq
      refine rEq_nil (ys := []) (by exists "at") up_same (fun _ h => by simp at h) ?_
      exact hQ _ (s'.tr hq)
/-! ### plain data are the same as themselves -/
def dataB : Nat → D → Bool
  | _, .non => true
  | _, .int _ => true
  | _, .str _ => true
  | _, .bl _ => true
  | n + 1, .tup xs => xs.all (dataB n) && decide (xs.length < 16000000)
  | _, _ => false
theorem EqD.self {G : DH} : ∀ {n : Nat} {x : D}, dataB n x = true → EqD G n x x
  | n, .non, _ => .non
  | n, .int _, _ => .int _
  | n, .str _, _ => .str _
  | n, .bl _, _ => .bl _
  | 0, .tup xs, h => by cases h
  | n, .ref _, h => by cases n <;> cases h
  | n, .gl _, h => by cases n <;> cases h
  | n, .fn _ _ _ _, h => by cases n <;> cases h
  | n, .rl _, h => by cases n <;> cases h
  | n, .wl _, h => by cases n <;> cases h
  | n + 1, .tup xs, h => by
    simp only [dataB, Bool.and_eq_true, decide_eq_true_eq, List.all_eq_true] at h
    exact .tup rfl h.2 fun k x y h1 h2 => by
      rw [h1] at h2; cases h2
      exact EqD.self (h.1 x (List.mem_of_getElem? h1))
theorem data_row {n : Nat} {d : D} (h : GoodRow d) : dataB (n + 1) d = true := by
  cases h <;> (cases n <;> rfl)
theorem data_th {n : Nat} {d : D} (h : GoodTh d) : dataB (n + 1) d = true := by
  cases h with
  | num => rfl
  | row h => exact data_row h
theorem data_nat {n : Nat} {d : D} (h : isNatD d) : dataB n d = true := by
  obtain ⟨k, _, rfl⟩ := h; cases n <;> rfl
theorem data_tup {n : Nat} {xs : List D} (h : ∀ x ∈ xs, dataB n x = true) (hl : xs.length < 16000000) : dataB (n + 1) (.tup xs) = true := by
  simp only [dataB, Bool.and_eq_true, decide_eq_true_eq, List.all_eq_true]
  exact ⟨h, hl⟩
/-! ### lists of cells compared -/
theorem th_py {d : D} (h : GoodTh d) : ∃ p, (∀ G, toPy G 5 d = some p) ∧ PyData.eqv p p = true := by
  cases h with
  | num k hk => exact ⟨.int k, fun _ => rfl, by simp [PyData.eqv]⟩
  | row h => cases h <;> exact ⟨_, fun _ => rfl, by simp [PyData.eqv, PyData.eqvAll]⟩
theorem ths_py : ∀ {xs : List D}, (∀ x ∈ xs, GoodTh x) → ∃ ps, (∀ G, allPy (toPy G 5) xs = some ps) ∧ PyData.eqvAll ps ps = true
  | [], _ => ⟨[], fun _ => rfl, by simp [PyData.eqvAll]⟩
  | x :: xs, h => by
    obtain ⟨p, h1, h2⟩ := th_py (h x List.mem_cons_self)
    obtain ⟨ps, h3, h4⟩ := ths_py fun y hy => h y (List.mem_cons_of_mem _ hy)
    exact ⟨p :: ps, fun G => by rw [allPy, h1, h3]; rfl, by simp [PyData.eqvAll, h2, h4]⟩
theorem rNe_ths {G : DH} {p q : Addr} {xs : List D} {Q : DQ} (hp : G p = some (.lst xs)) (hq : G q = some (.lst xs)) (hx : ∀ x ∈ xs, GoodTh x) (h : Q (.bl false) G) : rNeD (.ref p) (.ref q) G Q := by
  obtain ⟨ps, h1, h2⟩ := ths_py hx
  have e : ∀ a, G a = some (.lst xs) → toPy G 6 (.ref a) = some (.list ps) := fun a ha => by simp only [toPy, ha, oLst, Option.bind_some, h1, Option.map_some]
  refine rNe_py (e p hp) (e q hq) rfl ?_
  rw [show PyData.eqv (.list ps) (.list ps) = true by simpa [PyData.eqv] using h2]
  exact h


open MSt

theorem data_bundle {m : MSt} (h : m.Ok) (hw : m.words.length < 16000000) : dataB 3 (bundle m) = true := by
  have h1 := h.c40; have h2 := h.b4; have h3 := h.e20
  unfold bundle
  refine data_tup (allM_cons (data_tup (fun x hx => data_th (h.cg x hx)) (by omega)) (allM_cons (data_tup (fun x hx => data_th (h.bg x hx)) (by omega)) (allM_cons rfl (allM_cons rfl (allM_cons rfl (allM_cons rfl (allM_cons (data_tup (fun x hx => data_nat (h.wd x hx)) hw) (allM_cons (data_tup (fun x hx => data_nat (h.er x hx)) (by omega)) (allM_cons rfl (allM_cons rfl allM_nil)))))))))) (by simp)
/-! ### a machine that goes on -/
structure GoOk (ks : List Bool) (m : MSt) : Prop where
  ok : m.Ok
  p9 : m.place ≤ 999
  k7 : ks.length = 7
  wl : (m.words.length : Int) ≤ m.many
def sp_gone_on : DSp := fun ds G Q _ => ∃ (ks : List Bool) (m : MSt), ds = [.tup (ks.map .bl), bundle m] ∧ (m.Ok ∧ ks.length = 7 ∧ m.words.length < 16000000) ∧ ∀ a A G', G a = none → A.new G → MaAt G' a A ks m → Sub G G' → Q (.ref a) G'
def t_gone_on : TSD := (sSeq (sAsg (dMake "Machine" sp_Machine_init (dCons (dVar 0) (dCons (dB rListD (dCons (dBin rIxD (dVar 1) (dC (.int 0))) dNil)) (dCons (dLst dNil) dNil)))) (gSlot 2)) (sSeq (sDo (dMeth tab_take (dFld (dVar 2) "state") (dCons (dVar 1) dNil))) (sRet (dVar 2))))
theorem walk_gone_on : ∀ ds G Q X, sp_gone_on ds G Q X → t_gone_on (ends Q X) (startD 3 ds) G := by
  intro ds G Q X hsp
  obtain ⟨ks, m, rfl, ⟨hok, h7, hw⟩, hQ⟩ := hsp
  have c1 := hok.c16; have c2 := hok.c40; have c3 := hok.cg; have c4 := hok.b4; have c5 := hok.e20
  unfold bundle
  exists "run"
  rename_i pc hpc pe npe hpe a na1 na2 ha
  refine Ir_i ⟨a, pc, pe, ks, m.cells, [], rfl, ⟨up_same, h7, (by exists "at"), ⟨c1, c2, c3⟩, (by exists "at"), by simp, fun _ h => by simp at h⟩, fun A G1 new1 ma1 f1 _ => ?_⟩
  have ma := ma1.ma; have st := ma1.st.st
  exists "run"
  refine Ir_i ⟨A, [], [], start m.cells [], m, rfl, ⟨ma1.st, rfl, (by show m.cells.length ≤ 1000; omega), by omega, hw, by omega⟩, fun bx w e G2 fs st2 f2 => ?_⟩
  exists "run"
  have n3 : ∀ p, up (up (up G pc (DO.lst m.cells)) pe (DO.lst [])) a (DO.ins "Machine" []) p = none → G p = none := fun p hp => (up_none (up_none (up_none hp).2).2).2
  have n4 : ∀ p, G1 p = none → G p = none := fun p hp => n3 p (f1.none (by simp only [List.mem_cons, List.not_mem_nil, or_false]; intro z; subst z; rw [ma] at hp; cases hp) hp)
  obtain ⟨k1, k2, k3, k4, k5, k6⟩ := new1
  obtain ⟨fb, fw, fe, q1, q2, q3⟩ := fs
  have hne := ma1.ne
  simp only [SA.fp, List.mem_cons, List.not_mem_nil, or_false, not_or] at hne
  refine hQ a { A with bx := bx, w := w, e := e } G2 ha ⟨n3 _ k1, n3 _ k2, n3 _ k3, n4 _ fb, n4 _ fw, n4 _ fe⟩ ⟨f2 _ (by simp [hne.1, hne.2.1]) _ ma, st2⟩ ?_
  intro p o ho
  have e1 : p ≠ pc := ne_new hpc ho
  have e2 : p ≠ pe := ne_new hpe ho
  have e3 : p ≠ a := ne_new ha ho
  have ho3 : up (up (up G pc (DO.lst m.cells)) pe (DO.lst [])) a (DO.ins "Machine" []) p = some o := by rw [up_ne e3, up_ne e2, up_ne e1]; exact ho
  have e4 : p ≠ A.s := ne_new k1 ho3
  have e5 : p ≠ A.t := ne_new k3 ho3
  exact f2 _ (by simp [e4, e5]) _ (f1 _ (by simp [e3]) _ ho3)


open MSt
/-! ### machines side by side -/
def AllIn (G : DH) (xs : List Addr) : Prop := ∀ x ∈ xs, ∃ o, G x = some o
theorem AllIn.nin {G : DH} {xs : List Addr} {a : Addr} (h : AllIn G xs) (ha : G a = none) : a ∉ xs := fun z => by
  obtain ⟨o, e⟩ := h a z; rw [ha] at e; cases e
theorem StAt.all {G : DH} {A : SA} {pre post : List D} {m : MSt} (h : StAt G A pre post m) : AllIn G A.fp := fun x hx => by
  simp only [SA.fp, List.mem_cons, List.not_mem_nil, or_false] at hx
  rcases hx with rfl | rfl | rfl | rfl | rfl
  · exact ⟨_, h.st⟩
  · exact ⟨_, h.tl⟩
  · exact ⟨_, h.bx⟩
  · exact ⟨_, h.wd⟩
  · exact ⟨_, h.er⟩
theorem StAt.sup {G : DH} {A : SA} {pre post : List D} {m : MSt} (h : StAt G A pre post m) : ∀ x ∈ A.fp, ∃ o, G x = some o ∧ supO o = false := fun x hx => by
  simp only [SA.fp, List.mem_cons, List.not_mem_nil, or_false] at hx
  rcases hx with rfl | rfl | rfl | rfl | rfl
  · exact ⟨_, h.st, rfl⟩
  · exact ⟨_, h.tl, rfl⟩
  · exact ⟨_, h.bx, rfl⟩
  · exact ⟨_, h.wd, rfl⟩
  · exact ⟨_, h.er, rfl⟩
theorem MaAt.all {G : DH} {a : Addr} {A : SA} {ks : List Bool} {m : MSt} (h : MaAt G a A ks m) : AllIn G (a :: A.fp) := fun x hx => by
  rcases List.mem_cons.mp hx with rfl | hx
  · exact ⟨_, h.ma⟩
  · exact h.st.all x hx
theorem AllIn.sub {G G' : DH} {xs : List Addr} (h : AllIn G xs) (s : Sub G G') : AllIn G' xs := fun x hx => by obtain ⟨o, e⟩ := h x hx; exact ⟨o, s _ _ e⟩
theorem new_nin {G : DH} {A : SA} {xs : List Addr} (h : A.new G) (k : AllIn G xs) : ∀ b ∈ A.fp, b ∉ xs := fun b hb => by
  simp only [SA.fp, List.mem_cons, List.not_mem_nil, or_false] at hb
  obtain ⟨h1, h2, h3, h4, h5, h6⟩ := h
  rcases hb with rfl | rfl | rfl | rfl | rfl
  · exact k.nin h1
  · exact k.nin h3
  · exact k.nin h4
  · exact k.nin h5
  · exact k.nin h6
theorem nin_symm {xs : List Addr} {a : Addr} {ys : List Addr} (h : ∀ b ∈ ys, b ∉ a :: xs) : ∀ b ∈ xs, b ∉ ys := fun b hb hc => h b hc (List.mem_cons_of_mem _ hb)
/-- another machine stays -/
theorem MaAt.other {G G' : DH} {a : Addr} {A B : SA} {ks : List Bool} {m m1 : MSt} {pre post : List D} (h : MaAt G a A ks m) (h1 : StAt G B pre post m1) (f : Fr B.fp G G') (d : ∀ b ∈ B.fp, b ∉ a :: A.fp) : MaAt G' a A ks m :=
  h.frm f h1.sup fun b hb => ⟨fun z => d b hb (List.mem_cons_of_mem _ z), fun z => d b hb (by rw [z]; exact List.mem_cons_self)⟩
theorem HasSt.sup {s : Addr} {G : DH} (h : HasSt s G) : ∀ x ∈ [s], ∃ o, G x = some o ∧ supO o = false := fun x hx => by
  obtain ⟨o, e, ns, i, m, c, _, _, _, _, _, rfl⟩ := h
  have : x = s := by simpa using hx
  subst this
  exact ⟨_, e, rfl⟩
theorem HasSt.all {s : Addr} {G : DH} (h : HasSt s G) : AllIn G [s] := fun x hx => by obtain ⟨o, e, _⟩ := h.sup x hx; exact ⟨o, e⟩
theorem MaAt.stf {s : Addr} {G G' : DH} {a : Addr} {A : SA} {ks : List Bool} {m : MSt} (h : MaAt G a A ks m) (hs : HasSt s G) (f : StF s G G') (d : s ∉ a :: A.fp) : MaAt G' a A ks m :=
  h.frm f.fr1 hs.sup fun b hb => by
    have : b = s := by simpa using hb
    subst this
    exact ⟨fun z => d (List.mem_cons_of_mem _ z), fun z => d (by rw [z]; exact List.mem_cons_self)⟩
theorem make_machineB {G0 : DH} {x pc pe : Addr} {ks : List Bool} {cells ear : List D} {K : DH → Prop} {X : DX} (hx : G0 x = none) (h7 : ks.length = 7) (hpc : G0 pc = some (.lst cells)) (hc : Cells cells) (hpe : G0 pe = some (.lst ear)) (he : Ear ear)
    (k : ∀ A G', A.new G0 → MaAt G' x A ks (start cells ear) → Sub G0 G' → BodyO G' A → K G') : Ir sp_Machine_init [.ref x, .tup (ks.map .bl), .ref pc, .ref pe] (up G0 x (.ins "Machine" [])) (fun v G2 => v = .non ∧ K G2) X := by
  have n1 : pc ≠ x := ne_new hx hpc
  have n2 : pe ≠ x := ne_new hx hpe
  refine Ir_i ⟨x, pc, pe, ks, cells, ear, rfl, ⟨up_same, h7, (up_ne n1).trans hpc, hc, (up_ne n2).trans hpe, he.1, he.2⟩, fun A G1 new1 ma1 f1 b1 => ⟨rfl, ?_⟩⟩
  obtain ⟨k1, k2, k3, k4, k5, k6⟩ := new1
  refine k A G1 ⟨(up_none k1).2, (up_none k2).2, (up_none k3).2, (up_none k4).2, (up_none k5).2, (up_none k6).2⟩ ma1 (fun p o ho => ?_) b1
  have e : p ≠ x := ne_new hx ho
  exact f1 _ (by simpa using e) _ ((up_ne e).trans ho)
theorem make_machine {G0 : DH} {x pc pe : Addr} {ks : List Bool} {cells ear : List D} {K : DH → Prop} {X : DX} (hx : G0 x = none) (h7 : ks.length = 7) (hpc : G0 pc = some (.lst cells)) (hc : Cells cells) (hpe : G0 pe = some (.lst ear)) (he : Ear ear)
    (k : ∀ A G', A.new G0 → MaAt G' x A ks (start cells ear) → Sub G0 G' → K G') : Ir sp_Machine_init [.ref x, .tup (ks.map .bl), .ref pc, .ref pe] (up G0 x (.ins "Machine" [])) (fun v G2 => v = .non ∧ K G2) X :=
  make_machineB hx h7 hpc hc hpe he fun A G' n m s _ => k A G' n m s
/-! ### lists of numbers compared -/
def pyNat : D → PyData
  | .int i => .int i
  | _ => .none
theorem allPy_nat {G : DH} : ∀ {xs : List D}, (∀ x ∈ xs, isNatD x) → allPy (toPy G 5) xs = some (xs.map pyNat)
  | [], _ => rfl
  | x :: xs, h => by
    obtain ⟨n, _, rfl⟩ := h x List.mem_cons_self
    rw [allPy, allPy_nat fun y hy => h y (List.mem_cons_of_mem _ hy)]
    rfl
theorem eqv_nat : ∀ {xs : List D}, (∀ x ∈ xs, isNatD x) → PyData.eqv (.list (xs.map pyNat)) (.list (xs.map pyNat)) = true
  | [], _ => rfl
  | x :: xs, h => by
    obtain ⟨n, _, rfl⟩ := h x List.mem_cons_self
    have ih := eqv_nat fun y hy => h y (List.mem_cons_of_mem _ hy)
    show (PyData.eqv (.int (n : Int)) (.int (n : Int)) && PyData.eqv (.list (xs.map pyNat)) (.list (xs.map pyNat))) = true
    rw [ih, Bool.and_true]
    simp [PyData.eqv]
theorem rNe_nats {G : DH} {p q : Addr} {xs : List D} {Q : DQ} (hp : G p = some (.lst xs)) (hq : G q = some (.lst xs)) (hn : ∀ x ∈ xs, isNatD x) (h : Q (.bl false) G) : rNeD (.ref p) (.ref q) G Q := by
  have e1 : ∀ {r : Addr}, G r = some (.lst xs) → toPy G 6 (.ref r) = some (.list (xs.map pyNat)) := fun h => by
    simp only [toPy, h, oLst, Option.bind_some, allPy_nat hn, Option.map_some]
  refine rNe_py (e1 hp) (e1 hq) rfl ?_
  rw [eqv_nat hn]
  exact h
theorem go_le (ks : List Bool) : ∀ (n : Nat) (m : MSt), (MSt.go ks n m).2 ≤ n
  | 0, m => Nat.le_refl _
  | n + 1, m => by
    rw [go_succ]
    split
    · exact Nat.succ_le_succ (go_le ks n _)
    · exact Nat.zero_le _
theorem go_many (ks : List Bool) : ∀ (n : Nat) (m : MSt), (m.words.length : Int) ≤ m.many → (MSt.go ks n m).1.many ≤ m.many + n ∧ ((MSt.go ks n m).1.words.length : Int) ≤ (MSt.go ks n m).1.many
  | 0, m, h => ⟨by show m.many ≤ m.many + ((0 : Nat) : Int); omega, h⟩
  | n + 1, m, h => by
    rw [go_succ]
    split
    · obtain ⟨s1, s2⟩ := step_many ks m
      obtain ⟨i1, i2⟩ := go_many ks n (MSt.step ks m) (by omega)
      exact ⟨by show (MSt.go ks n (MSt.step ks m)).1.many ≤ _; omega, i2⟩
    · exact ⟨by show m.many ≤ _; omega, h⟩

/-! ### a dict keyed by words alone holds no body up -/
def supS : DO → Bool
  | .ins c _ => c != "State" && c != "Machine"
  | .dct kvs => kvs.any fun e => e.1.isLeft
  | _ => false
theorem getD_left : ∀ {kvs : List (Key × D)} {k : Int} {d : D}, getD kvs (.inl k) = some d → (kvs.any fun e => e.1.isLeft) = true
  | [], k, d, h => by cases h
  | (e, v) :: r, k, d, h => by
    cases e with
    | inl i => simp
    | inr w =>
      have : (r.any fun e => e.1.isLeft) = true := getD_left (kvs := r) (k := k) (d := d) (by simpa [getD] using h)
      simpa using this
theorem BodyIs.monoS {G G' : DH} (k : ∀ a o, supS o = true → G a = some o → G' a = some o) : ∀ {d b c t off n}, BodyIs G d b c t off n → BodyIs G' d b c t off n
  | _, _, _, _, _, _, .body hc h => .body hc (k _ _ rfl h)
  | _, _, _, _, _, _, .ground hc h => .ground hc (k _ _ rfl h)
  | _, _, _, _, _, _, .room hc h hh hf hk hg hl => .room hc (k _ _ rfl h) (k _ _ rfl hh) (k _ _ (getD_left hk) hf) hk (BodyIs.monoS k hg) hl
theorem MaAt.frmS {G G' : DH} {xs : List Addr} {a : Addr} {A : SA} {ks : List Bool} {m : MSt} (h : MaAt G a A ks m) (f : Fr xs G G') (hx : ∀ a ∈ xs, ∃ o, G a = some o ∧ supS o = false) (ds : ∀ b ∈ xs, b ∉ a :: A.fp) : MaAt G' a A ks m := by
  have k : ∀ b ∈ a :: A.fp, b ∉ xs := fun b hb hc => ds b hc hb
  obtain ⟨d, c, h3, hb⟩ := h.st.bd
  refine ⟨f _ (k _ (by simp)) _ h.ma, f _ (k _ (by simp [SA.fp])) _ h.st.st, ⟨d, c, h3, hb.monoS ?_⟩, f _ (k _ (by simp [SA.fp])) _ h.st.tl, f _ (k _ (by simp [SA.fp])) _ h.st.bx, f _ (k _ (by simp [SA.fp])) _ h.st.wd, f _ (k _ (by simp [SA.fp])) _ h.st.er, h.st.n1, h.st.n2, h.st.n3, h.st.n4, h.st.n5, h.st.n6⟩
  exact fun a v hv e => f a (fun z => by obtain ⟨o, ho, hs⟩ := hx a z; rw [e] at ho; cases ho; rw [hv] at hs; cases hs) v e
/-! ### things as data -/
theorem good_py {d : D} (h : GoodTh d) : ∃ p, (∀ G, toPy G 4 d = some p) ∧ PyData.eqv p p = true := by
  rcases h with ⟨n, hn⟩ | h
  · exact ⟨_, fun _ => rfl, by simp [PyData.eqv]⟩
  · cases h <;> exact ⟨_, fun _ => rfl, by simp [PyData.eqv, PyData.eqvAll]⟩
theorem goods_py : ∀ {xs : List D}, (∀ x ∈ xs, GoodTh x) → ∃ ps, (∀ G, allPy (toPy G 4) xs = some ps) ∧ PyData.eqvAll ps ps = true
  | [], _ => ⟨[], fun _ => rfl, by simp [PyData.eqvAll]⟩
  | x :: xs, h => by
    obtain ⟨p, h1, h2⟩ := good_py (h x List.mem_cons_self)
    obtain ⟨ps, h3, h4⟩ := goods_py fun y hy => h y (List.mem_cons_of_mem _ hy)
    exact ⟨p :: ps, fun G => by rw [allPy, h1, h3]; rfl, by simp [PyData.eqvAll, h2, h4]⟩
theorem nat_gt {xs : List D} (h : ∀ x ∈ xs, isNatD x) : ∀ x ∈ xs, GoodTh x := fun x hx => by
  obtain ⟨n, hn, rfl⟩ := h x hx
  exact .num n hn
theorem goodL_py {xs : List D} (h : ∀ x ∈ xs, GoodTh x) : ∃ p : PyData, (∀ G a, G a = some (.lst xs) → toPy G 5 (.ref a) = some p) ∧ PyData.eqv p p = true := by
  obtain ⟨ps, h1, h2⟩ := goods_py h
  exact ⟨.list ps, fun G a ha => by simp only [toPy, ha, oLst, Option.bind_some, h1, Option.map_some], by simpa [PyData.eqv] using h2⟩
theorem rNe_two {G : DH} {p q a b c d : Addr} {xs ys : List D} {Q : DQ} (hp : G p = some (.lst [.ref a, .ref b])) (hq : G q = some (.lst [.ref c, .ref d])) (ha : G a = some (.lst xs)) (hb : G b = some (.lst ys)) (hc : G c = some (.lst xs)) (hd : G d = some (.lst ys)) (hx : ∀ x ∈ xs, GoodTh x) (hy : ∀ x ∈ ys, GoodTh x) (h : Q (.bl false) G) : rNeD (.ref p) (.ref q) G Q := by
  obtain ⟨P, p1, p2⟩ := goodL_py hx
  obtain ⟨R, r1, r2⟩ := goodL_py hy
  have e1 : toPy G 6 (.ref p) = some (.list [P, R]) := by
    have e : allPy (toPy G 5) [.ref a, .ref b] = some [P, R] := by rw [allPy, p1 _ _ ha, allPy, r1 _ _ hb]; rfl
    rw [toPy, hp]
    show (allPy (toPy G 5) [.ref a, .ref b]).map PyData.list = _
    rw [e]; rfl
  have e2 : toPy G 6 (.ref q) = some (.list [P, R]) := by
    have e : allPy (toPy G 5) [.ref c, .ref d] = some [P, R] := by rw [allPy, p1 _ _ hc, allPy, r1 _ _ hd]; rfl
    rw [toPy, hq]
    show (allPy (toPy G 5) [.ref c, .ref d]).map PyData.list = _
    rw [e]; rfl
  refine rNe_py e1 e2 rfl ?_
  rw [show PyData.eqv (.list [P, R]) (.list [P, R]) = true by simp [PyData.eqv, PyData.eqvAll, p2, r2]]
  exact h


open MSt
/-! ### the law's own machine: a dict -/
structure LA where
  d : Addr
  c : Addr
  b : Addr
  w : Addr
  e : Addr
abbrev LA.fp (L : LA) : List Addr := [L.d, L.c, L.b, L.w, L.e]
abbrev kS (x : Str) : Key := Sum.inr x
abbrev lmObj (L : LA) (m : MSt) : DO := .dct [(kS "cells", .ref L.c), (kS "boxes", .ref L.b), (kS "place", .int m.place), (kS "high", .bl m.high), (kS "window", .tup [.int m.wf, .int m.ws]), (kS "alarm", .int m.left), (kS "said", .ref L.w), (kS "ear", .ref L.e), (kS "why", .str m.why), (kS "many", .int m.many)]
structure LmAt (G : DH) (L : LA) (m : MSt) : Prop where
  dc : G L.d = some (lmObj L m)
  cl : G L.c = some (.lst m.cells)
  bx : G L.b = some (.lst m.boxes)
  wd : G L.w = some (.lst m.words)
  er : G L.e = some (.lst m.ear)
  n1 : L.c ≠ L.b
  n2 : L.c ≠ L.w
  n3 : L.c ≠ L.e
  n4 : L.b ≠ L.w
  n5 : L.b ≠ L.e
  n6 : L.w ≠ L.e
theorem ne_dl {G : DH} {a b : Addr} {kvs : List (Key × D)} {xs : List D} (ha : G a = some (.dct kvs)) (hb : G b = some (.lst xs)) : a ≠ b := fun z => by subst z; rw [ha] at hb; cases hb
def LA.near (G : DH) (L L' : LA) : Prop := ∀ x ∈ L'.fp, x ∈ L.fp ∨ G x = none
theorem LA.near_self (G : DH) (L : LA) : LA.near G L L := fun _ h => .inl h
theorem near_trans {G G' : DH} {L L' L'' : LA} (f : Fr L.fp G G') (h : LA.near G L L') (k : LA.near G' L' L'') : LA.near G L L'' := fun x hx => by
  rcases k x hx with z | z
  · exact h x z
  · by_cases hxl : x ∈ L.fp
    · exact .inl hxl
    · exact .inr (f.none hxl z)
theorem near_fr {G G' G'' : DH} {L L' : LA} (f : Fr L.fp G G') (h : LA.near G L L') (k : Fr L'.fp G' G'') : Fr L.fp G G'' := fun a ha o ho => k a (fun z => by
  rcases h a z with y | y
  · exact ha y
  · rw [ho] at y; cases y) o (f a ha o ho)
theorem LmAt.dlt {G : DH} {L : LA} {m : MSt} (h : LmAt G L m) : L.d ≠ L.c ∧ L.d ≠ L.b ∧ L.d ≠ L.w ∧ L.d ≠ L.e := ⟨ne_dl h.dc h.cl, ne_dl h.dc h.bx, ne_dl h.dc h.wd, ne_dl h.dc h.er⟩
theorem LmAt.setD {G : DH} {L : LA} {m m' : MSt} {o : DO} (h : LmAt G L m) (ho : o = lmObj L m') (e1 : m'.cells = m.cells) (e2 : m'.boxes = m.boxes) (e3 : m'.words = m.words) (e4 : m'.ear = m.ear) : LmAt (up G L.d o) L m' := by
  obtain ⟨k1, k2, k3, k4⟩ := h.dlt
  subst ho
  exact ⟨up_same, (up_ne (Ne.symm k1)).trans (by rw [e1]; exact h.cl), (up_ne (Ne.symm k2)).trans (by rw [e2]; exact h.bx), (up_ne (Ne.symm k3)).trans (by rw [e3]; exact h.wd), (up_ne (Ne.symm k4)).trans (by rw [e4]; exact h.er), h.n1, h.n2, h.n3, h.n4, h.n5, h.n6⟩
theorem LmAt.setB {G : DH} {L : LA} {m : MSt} {xs : List D} (h : LmAt G L m) : LmAt (up G L.b (.lst xs)) L { m with boxes := xs } := by
  obtain ⟨k1, k2, k3, k4⟩ := h.dlt
  exact ⟨(up_ne k2).trans h.dc, (up_ne h.n1).trans h.cl, up_same, (up_ne (Ne.symm h.n4)).trans h.wd, (up_ne (Ne.symm h.n5)).trans h.er, h.n1, h.n2, h.n3, h.n4, h.n5, h.n6⟩
theorem LmAt.setC {G : DH} {L : LA} {m : MSt} {xs : List D} (h : LmAt G L m) : LmAt (up G L.c (.lst xs)) L { m with cells := xs } := by
  obtain ⟨k1, k2, k3, k4⟩ := h.dlt
  exact ⟨(up_ne k1).trans h.dc, up_same, (up_ne (Ne.symm h.n1)).trans h.bx, (up_ne (Ne.symm h.n2)).trans h.wd, (up_ne (Ne.symm h.n3)).trans h.er, h.n1, h.n2, h.n3, h.n4, h.n5, h.n6⟩
theorem LmAt.setW {G : DH} {L : LA} {m : MSt} {xs : List D} (h : LmAt G L m) : LmAt (up G L.w (.lst xs)) L { m with words := xs } := by
  obtain ⟨k1, k2, k3, k4⟩ := h.dlt
  exact ⟨(up_ne k3).trans h.dc, (up_ne h.n2).trans h.cl, (up_ne h.n4).trans h.bx, up_same, (up_ne (Ne.symm h.n6)).trans h.er, h.n1, h.n2, h.n3, h.n4, h.n5, h.n6⟩
theorem LmAt.setE {G : DH} {L : LA} {m : MSt} {xs : List D} (h : LmAt G L m) : LmAt (up G L.e (.lst xs)) L { m with ear := xs } := by
  obtain ⟨k1, k2, k3, k4⟩ := h.dlt
  exact ⟨(up_ne k4).trans h.dc, (up_ne h.n3).trans h.cl, (up_ne h.n5).trans h.bx, (up_ne h.n6).trans h.wd, up_same, h.n1, h.n2, h.n3, h.n4, h.n5, h.n6⟩
theorem LmAt.sub {G G' : DH} {L : LA} {m : MSt} (h : LmAt G L m) (s : Sub G G') : LmAt G' L m := ⟨s _ _ h.dc, s _ _ h.cl, s _ _ h.bx, s _ _ h.wd, s _ _ h.er, h.n1, h.n2, h.n3, h.n4, h.n5, h.n6⟩
theorem LmAt.frm {G G' : DH} {xs : List Addr} {L : LA} {m : MSt} (h : LmAt G L m) (f : Fr xs G G') (d : ∀ b ∈ xs, b ∉ L.fp) : LmAt G' L m := by
  have k : ∀ a ∈ L.fp, a ∉ xs := fun a ha hb => d a hb ha
  exact ⟨f _ (k _ (by simp [LA.fp])) _ h.dc, f _ (k _ (by simp [LA.fp])) _ h.cl, f _ (k _ (by simp [LA.fp])) _ h.bx, f _ (k _ (by simp [LA.fp])) _ h.wd, f _ (k _ (by simp [LA.fp])) _ h.er, h.n1, h.n2, h.n3, h.n4, h.n5, h.n6⟩
def sp_l_worth : DSp := fun ds G Q _ => ∃ d, ds = [d] ∧ GoodTh d ∧ Q (.int (worthD d)) G
theorem use_l_worth {d : D} {G : DH} {Q : DQ} {X : DX} (h : GoodTh d) (k : Q (.int (worthD d)) G) : Ir sp_l_worth [d] G Q X := Ir_i ⟨d, rfl, h, k⟩
def sp_l_machine : DSp := fun ds G Q _ => ∃ (pc pe : Addr) (cells ear : List D), ds = [.ref pc, .ref pe] ∧ (G pc = some (.lst cells) ∧ G pe = some (.lst ear) ∧ cells.length ≤ 1000 ∧ ear.length ≤ 1000) ∧ ∀ L G', (∀ x ∈ L.fp, G x = none) → LmAt G' L (start cells ear) → Sub G G' → Q (.ref L.d) G'
def sp_l_bundle : DSp := fun ds G Q _ => ∃ (L : LA) (m : MSt), ds = [.ref L.d] ∧ (LmAt G L m ∧ m.Ok ∧ m.words.length < 16000000) ∧ ∀ G', Sub G G' → Q (bundle m) G'
def sp_l_caught : DSp := fun ds G Q _ => ∃ (L : LA) (m : MSt) (n more : Int), ds = [.ref L.d, .int n, .int more] ∧ (LmAt G L m ∧ m.Ok ∧ (m.high = true → n = 2 ∨ n = 3)) ∧ ∀ L' G', L'.d = L.d → LmAt G' L' (m.caught n m.place more) → Fr L.fp G G' → LA.near G L L' → Q .non G'
def t_l_worth : TSD := (sRet (dIfE (dT (dIsi ["int"] (dVar 0))) (dVar 0) (dC (.int 0))))
def t_l_machine : TSD := (sSeq (sAsg (dDisp (dpCons (dC (.str ("cells" : Str))) (dB rListD (dCons (dVar 0) dNil)) (dpCons (dC (.str ("boxes" : Str))) (dBin rMulD (dLst (dCons (dC (.int 0)) dNil)) (dC (.int 4))) (dpCons (dC (.str ("place" : Str))) (dC (.int 0)) (dpCons (dC (.str ("high" : Str))) (dC (.bl true)) (dpCons (dC (.str ("window" : Str))) (dTup (dCons (dC (.int 0)) (dCons (dB rLen (dCons (dVar 0) dNil)) dNil))) (dpCons (dC (.str ("alarm" : Str))) (dC (.int 0)) dpNil))))))) (gSlot 2)) (sSeq (sDo (dDupd (dVar 2) (dDisp (dpCons (dC (.str ("said" : Str))) (dLst dNil) (dpCons (dC (.str ("ear" : Str))) (dB rListD (dCons (dVar 1) dNil)) (dpCons (dC (.str ("why" : Str))) (dC (.str ("" : Str))) (dpCons (dC (.str ("many" : Str))) (dC (.int 0)) dpNil))))))) (sRet (dVar 2))))
def t_l_bundle : TSD := (sRet (dTup (dCons (dB rTupleD (dCons (dDget (dVar 0) (dC (.str ("cells" : Str)))) dNil)) (dCons (dB rTupleD (dCons (dDget (dVar 0) (dC (.str ("boxes" : Str)))) dNil)) (dCons (dDget (dVar 0) (dC (.str ("place" : Str)))) (dCons (dDget (dVar 0) (dC (.str ("high" : Str)))) (dCons (dDget (dVar 0) (dC (.str ("window" : Str)))) (dCons (dDget (dVar 0) (dC (.str ("alarm" : Str)))) (dCons (dB rTupleD (dCons (dDget (dVar 0) (dC (.str ("said" : Str)))) dNil)) (dCons (dB rTupleD (dCons (dDget (dVar 0) (dC (.str ("ear" : Str)))) dNil)) (dCons (dDget (dVar 0) (dC (.str ("why" : Str)))) (dCons (dDget (dVar 0) (dC (.str ("many" : Str)))) dNil))))))))))))
def t_l_caught : TSD := (sSeq (sIf (dT (dDget (dVar 0) (dC (.str ("high" : Str))))) (sSeq (sAsg (dDget (dDisp (dpCons (dC (.int 2)) (dC (.str ("beyond" : Str))) (dpCons (dC (.int 3)) (dC (.str ("no row" : Str))) dpNil))) (dVar 1)) (gDput (dVar 0) (dC (.str ("why" : Str))))) sRetN) sNx) (sSeq (sAsg (dLst (dCons (dDget (dVar 0) (dC (.str ("place" : Str)))) (dCons (dBin rIxD (dDget (dVar 0) (dC (.str ("window" : Str)))) (dC (.int 0))) (dCons (dBin rIxD (dDget (dVar 0) (dC (.str ("window" : Str)))) (dC (.int 1))) (dCons (dVar 1) (dCons (dVar 2) dNil)))))) (gSlot 3)) (sSeq (sAsg (dBin rAddD (dBin rAddD (dBin rAddD (dVar 3) (dSl (dDget (dVar 0) (dC (.str ("cells" : Str)))) (dPart (dC (.int 5))) (dPart (dC (.int 6))))) (dDget (dVar 0) (dC (.str ("boxes" : Str))))) (dSl (dDget (dVar 0) (dC (.str ("cells" : Str)))) (dPart (dC (.int 10))) dNoPart)) (gDput (dVar 0) (dC (.str ("cells" : Str))))) (sDo (dDupd (dVar 0) (dDisp (dpCons (dC (.str ("high" : Str))) (dC (.bl true)) (dpCons (dC (.str ("window" : Str))) (dTup (dCons (dC (.int 0)) (dCons (dB rLen (dCons (dDget (dVar 0) (dC (.str ("cells" : Str)))) dNil)) dNil))) (dpCons (dC (.str ("alarm" : Str))) (dC (.int 0)) (dpCons (dC (.str ("place" : Str))) (dCall sp_l_worth (dCons (dBin rIxD (dDget (dVar 0) (dC (.str ("cells" : Str)))) (dC (.int 5))) dNil)) dpNil))))))))))
local macro_rules | `(tactic| exists "run") => `(tactic| ((try (conv => whnf)); repeat' ((first | refine onSome_i rfl ?_ | ((with_reducible apply onSome_i); focus exists "hp") | ((with_reducible apply onSome_i); focus exists "fl") | with_reducible refine onSome_i atI0 ?_ | with_reducible refine onSome_i atI1 ?_ | with_reducible refine onSome_i atI2 ?_ | with_reducible refine onSome_i atI3 ?_ | refine ifB_t rfl ?_ | refine ifB_f rfl ?_ | refine ifB_not ?_ | refine ifB_if ?_ | refine ifB_if1 ?_ | refine rEq_iq ?_ | refine rEq_sq ?_ | refine rEq_bq ?_ | refine rNe_iq ?_ | refine rNe_sq ?_ | refine rNe_bq ?_ | (apply rEq_tt; (focus exact rfl); (focus exact rfl)) | (apply rNe_tt; (focus exact rfl); (focus exact rfl)) | (apply rEq_ti; focus exact rfl) | (apply rNe_ti; focus exact rfl) | ((with_reducible apply onSome_i); focus ((first | apply hp_len | apply hp_lstOf | apply hp_mutOf | apply hp_seqOf | apply hp_recv | apply hp_lst | apply hp_ins | apply hp_dct | apply hp_dctR); exists "at")) | ((with_reducible apply onSome_i); focus ((apply hp_fdcR); exists "at")) | ((with_reducible apply And.intro); focus exists "sd") | refine ref_i ?_ | refine eq_i ?_ | exists "new" | ((with_reducible apply use_l_worth); (focus exists "sds"); intros) | (refine box_at (by assumption) (by omega) ?_) | (refine box_ix (by assumption) (by omega) ?_) | fail) <;> (try (conv => whnf)))))
local macro_rules | `(tactic| exists "all") => `(tactic| ((try (conv => whnf)); repeat' ((first | refine onSome_i rfl ?_ | ((with_reducible apply onSome_i); focus exists "hp") | ((with_reducible apply onSome_i); focus exists "fl") | with_reducible refine onSome_i atI0 ?_ | with_reducible refine onSome_i atI1 ?_ | with_reducible refine onSome_i atI2 ?_ | with_reducible refine onSome_i atI3 ?_ | refine ifB_t rfl ?_ | refine ifB_f rfl ?_ | refine ifB_not ?_ | refine ifB_if ?_ | refine ifB_if1 ?_ | refine rEq_iq ?_ | refine rEq_sq ?_ | refine rEq_bq ?_ | refine rNe_iq ?_ | refine rNe_sq ?_ | refine rNe_bq ?_ | (apply rEq_tt; (focus exact rfl); (focus exact rfl)) | (apply rNe_tt; (focus exact rfl); (focus exact rfl)) | (apply rEq_ti; focus exact rfl) | (apply rNe_ti; focus exact rfl) | ((with_reducible apply onSome_i); focus ((first | apply hp_len | apply hp_lstOf | apply hp_mutOf | apply hp_seqOf | apply hp_recv | apply hp_lst | apply hp_ins | apply hp_dct | apply hp_dctR); exists "at")) | ((with_reducible apply onSome_i); focus ((apply hp_fdcR); exists "at")) | ((with_reducible apply And.intro); focus exists "sd") | refine ref_i ?_ | refine eq_i ?_ | exists "new" | ((with_reducible apply use_l_worth); (focus exists "sds"); intros) | (refine box_at (by assumption) (by omega) ?_) | (refine box_ix (by assumption) (by omega) ?_) | exact All.nil | refine All.cons ?_ ?_ | (refine ix_all ?_ ?_; focus exists "sd") | refine ifB_d (fun _ => ?_) fun _ => ?_ | refine ifB_nd (fun _ => ?_) fun _ => ?_ | fail) <;> (try (conv => whnf)))))

theorem walk_l_worth : ∀ ds G Q X, sp_l_worth ds G Q X → t_l_worth (ends Q X) (startD 1 ds) G := by
  intro ds G Q X hsp
  obtain ⟨d, rfl, hd, hQ⟩ := hsp
  rcases hd with ⟨n, hn⟩ | hd
  · exists "run"
    exact hQ
  · cases hd <;> (exists "run"; exact hQ)
theorem walk_l_bundle : ∀ ds G Q X, sp_l_bundle ds G Q X → t_l_bundle (ends Q X) (startD 1 ds) G := by
  intro ds G Q X hsp
  obtain ⟨L, m, rfl, ⟨h, hok, hw⟩, hQ⟩ := hsp
  have h1 := hok.c40; have h2 := hok.b4; have h3 := hok.e20
  have dc := h.dc; have cl := h.cl; have bx := h.bx; have wd := h.wd; have er := h.er
  exists "run"
  exact hQ _ (.refl _)
theorem cut56 {cs : List D} (h : 16 ≤ cs.length) : cutD cs (some 5) (some 6) = [cs.getD 5 (.int 0)] := by
  have e5 : HT.sIx cs.length 0 (some 5) = 5 := (HT.sIx_nat cs.length 0 5).trans (by omega)
  have e6 : HT.sIx cs.length cs.length (some 6) = 6 := (HT.sIx_nat cs.length cs.length 6).trans (by omega)
  unfold cutD
  rw [e5, e6]
  match cs, h with
  | c0 :: c1 :: c2 :: c3 :: c4 :: c5 :: r, _ => simp
theorem cut10 {cs : List D} (h : 16 ≤ cs.length) : cutD cs (some 10) none = cs.drop 10 := by
  have e5 : HT.sIx cs.length 0 (some 10) = 10 := (HT.sIx_nat cs.length 0 10).trans (by omega)
  unfold cutD
  rw [e5]
  show (cs.drop 10).take (cs.length - 10) = cs.drop 10
  exact List.take_of_length_le (by rw [List.length_drop]; omega)
theorem kept_eq {cs bs : List D} (h : 16 ≤ cs.length) (hb : bs.length = 4) (a b c d e : Int) : [D.int a, .int b, .int c, .int d, .int e] ++ [cs.getD 5 (.int 0)] ++ bs ++ cs.drop 10 = kept cs a b c d e bs := by
  match bs, hb with
  | [b0, b1, b2, b3], _ =>
    match cs, h with
    | c0 :: c1 :: c2 :: c3 :: c4 :: c5 :: c6 :: c7 :: c8 :: c9 :: r, _ => rfl
theorem walk_l_machine : ∀ ds G Q X, sp_l_machine ds G Q X → t_l_machine (ends Q X) (startD 3 ds) G := by
  intro ds G Q X hsp
  obtain ⟨pc, pe, cells, ear, rfl, ⟨hc, he, l1, l2⟩, hQ⟩ := hsp
  have hQ' : ∀ d c b w e G', G' d = some (.dct [(kS "cells", .ref c), (kS "boxes", .ref b), (kS "place", .int 0), (kS "high", .bl true), (kS "window", .tup [.int 0, .int (cells.length : Int)]), (kS "alarm", .int 0), (kS "said", .ref w), (kS "ear", .ref e), (kS "why", .str ("" : Str)), (kS "many", .int 0)]) → G d = none → G c = none → G b = none → G w = none → G e = none →
      G' c = some (.lst cells) → G' b = some (.lst [.int 0, .int 0, .int 0, .int 0]) → G' w = some (.lst []) → G' e = some (.lst ear) → (c ≠ b ∧ c ≠ w ∧ c ≠ e ∧ b ≠ w ∧ b ≠ e ∧ w ≠ e) → Sub G G' → Q (.ref d) G' := fun d c b w e G' h1 g1 g2 g3 g4 g5 h2 h3 h4 h5 ⟨n1, n2, n3, n4, n5, n6⟩ hs =>
    hQ ⟨d, c, b, w, e⟩ G' (fun x hx => by
      simp only [LA.fp, List.mem_cons, List.not_mem_nil, or_false] at hx
      rcases hx with rfl | rfl | rfl | rfl | rfl <;> assumption) ⟨h1, h2, h3, h4, h5, n1, n2, n3, n4, n5, n6⟩ hs
  exists "run"
  refine hQ' _ _ _ _ _ _ up_same ?_ ?_ ?_ ?_ ?_ ?_ ?_ ?_ ?_ ?_ ?_
  · assumption
  · assumption
  · assumption
  · assumption
  · assumption
  · exists "at"
  · exists "atd"
  · exists "at"
  · exists "at"
  · exact ⟨(by exists "ne"), (by exists "ne"), (by exists "ne"), (by exists "ne"), (by exists "ne"), (by exists "ne")⟩
  · exists "sub"
theorem walk_l_caught : ∀ ds G Q X, sp_l_caught ds G Q X → t_l_caught (ends Q X) (startD 4 ds) G := by
  intro ds G Q X hsp
  obtain ⟨L, m, n, more, rfl, ⟨h, hok, hn⟩, hQ⟩ := hsp
  have b4 := hok.b4; have c16 := hok.c16; have c40 := hok.c40
  have dc := h.dc; have cl := h.cl; have bx := h.bx
  obtain ⟨k1, k2, k3, k4⟩ := h.dlt
  have n1 := h.n1; have n2 := h.n2; have n3 := h.n3
  by_cases hh : m.high = true
  · have e : m.caught n m.place more = { m with why := if n = 2 then ("beyond" : Str) else ("no row" : Str) } := by unfold MSt.caught; rw [if_pos hh]
    rw [e] at hQ
    exists "run"
    refine ifB_t hh ?_
    rcases hn hh with rfl | rfl
    · exists "run"
      rename_i p hp
      simp only [up_up]
      exact hQ L _ rfl ((h.sub (.new hp)).setD rfl rfl rfl rfl rfl) (((Fr.refl _ _).new hp).put (by simp)) (LA.near_self _ _)
    · exists "run"
      rename_i p hp
      simp only [up_up]
      exact hQ L _ rfl ((h.sub (.new hp)).setD rfl rfl rfl rfl rfl) (((Fr.refl _ _).new hp).put (by simp)) (LA.near_self _ _)
  · have e : m.caught n m.place more = { m with cells := kept m.cells m.place m.wf m.ws n more m.boxes, high := true, wf := 0, ws := m.cells.length, left := 0, place := worthD (m.cells.getD 5 (.int 0)) } := by unfold MSt.caught; rw [if_neg hh]
    rw [e] at hQ
    have hh' : m.high = false := by simpa using hh
    exists "run"
    refine ifB_f hh' ?_
    exists "run"
    rw [cut56 c16]
    exists "run"
    rw [cut10 c16]
    exists "run"
    have k5 : (kept m.cells m.place m.wf m.ws n more m.boxes).getD 5 (.int 0) = m.cells.getD 5 (.int 0) := by simp [kept, List.getD_eq_getElem?_getD, List.getElem?_set]
    have lk : (kept m.cells m.place m.wf m.ws n more m.boxes).length = m.cells.length := len_kept _ _ _ _ _ _ _
    have eat : atI ([D.int m.place, .int m.wf, .int m.ws, .int n, .int more] ++ [m.cells.getD 5 (.int 0)] ++ m.boxes ++ m.cells.drop 10) 5 = some (m.cells.getD 5 (.int 0)) := by
      rw [kept_eq c16 b4, ← k5]
      refine atI_nat (j := 5) ?_
      rw [List.getD_eq_getElem?_getD, List.getElem?_eq_getElem (by omega)]
      rfl
    refine onSome_i eat ?_
    have g5 : GoodTh (m.cells.getD 5 (.int 0)) := good0 hok.cg 5
    exists "run"
    have hQ' : ∀ c G', G' L.d = some (.dct [(kS "cells", .ref c), (kS "boxes", .ref L.b), (kS "place", .int (worthD (m.cells.getD 5 (.int 0)))), (kS "high", .bl true), (kS "window", .tup [.int 0, .int (([D.int m.place, .int m.wf, .int m.ws, .int n, .int more] ++ [m.cells.getD 5 (.int 0)] ++ m.boxes ++ m.cells.drop 10).length : Int)]), (kS "alarm", .int 0), (kS "said", .ref L.w), (kS "ear", .ref L.e), (kS "why", .str m.why), (kS "many", .int m.many)]) → G c = none →
        G' c = some (.lst ([D.int m.place, .int m.wf, .int m.ws, .int n, .int more] ++ [m.cells.getD 5 (.int 0)] ++ m.boxes ++ m.cells.drop 10)) → Fr [L.d] G G' → Q .non G' := fun c G' h1 g1 h2 f => by
      rw [kept_eq c16 b4] at h1 h2
      rw [lk] at h1
      have nd : ∀ x, x ≠ L.d → ∀ o, G x = some o → G' x = some o := fun x hx o ho => f x (by simpa using hx) o ho
      refine hQ { L with c := c } G' rfl ⟨h1, h2, nd _ (Ne.symm k2) _ h.bx, nd _ (Ne.symm k3) _ h.wd, nd _ (Ne.symm k4) _ h.er, ne_new' g1 h.bx, ne_new' g1 h.wd, ne_new' g1 h.er, h.n4, h.n5, h.n6⟩ (f.wk (by simp)) ?_
      intro x hx
      simp only [LA.fp, List.mem_cons, List.not_mem_nil, or_false] at hx ⊢
      rcases hx with rfl | rfl | rfl | rfl | rfl <;> simp_all
    refine hQ' _ _ up_same ?_ ?_ ?_
    · assumption
    · exists "at"
    · exists "fr"


open MSt
theorem LmAt.cast {G : DH} {L : LA} {m m' : MSt} (h : LmAt G L m) (e : m = m') : LmAt G L m' := e ▸ h
theorem cell_at {cs : List D} {i : Int} (h0 : 0 ≤ i) (h1 : i < cs.length) {Q : D → Prop} (k : Q (cs.getD i.toNat (.int 0))) : onSome (atI cs i) Q := by
  obtain ⟨j, rfl⟩ : ∃ j : Nat, i = (j : Int) := ⟨i.toNat, by omega⟩
  refine onSome_i (atI_nat (List.getElem?_eq_getElem (by omega : j < cs.length))) ?_
  rw [Int.toNat_natCast, List.getD_eq_getElem?_getD, List.getElem?_eq_getElem (by omega)] at k
  exact k
theorem cell_ix {n : Nat} {i : Int} (h0 : 0 ≤ i) (h1 : i < n) {Q : Nat → Prop} (k : Q i.toNat) : onSome (ixN n i) Q := by
  obtain ⟨j, rfl⟩ : ∃ j : Nat, i = (j : Int) := ⟨i.toNat, by omega⟩
  exact onSome_i (ixN_lt (by omega)) k
def lplainS (m : MSt) (w : Str) (ps : List D) : MSt := if (m.plain w ps).2 = 0 then (m.plain w ps).1 else m.caught 2 m.place 0
def sp_l_plain : DSp := fun ds G Q _ => ∃ (L : LA) (m : MSt) (w : Str) (ps : List D), ds = [.ref L.d, .tup (.str w :: ps)] ∧ (LmAt G L m ∧ m.Ok ∧ GoodRow (.tup (.str w :: ps)) ∧ ownW w = false ∧ w ≠ ("call" : Str)) ∧ ∀ L' G', L'.d = L.d → LmAt G' L' (lplainS m w ps) → Fr L.fp G G' → LA.near G L L' → Q (.bl (decide ((m.plain w ps).2 = 0))) G'
def t_l_plain : TSD := (sSeq (sPar 3 4 (dCons (dBin rIxD (dVar 1) (dC (.int 0))) (dCons (dDget (dVar 0) (dC (.str ("boxes" : Str)))) dNil))) (sSeq (sAsg (dBin rAddD (dDget (dVar 0) (dC (.str ("place" : Str)))) (dC (.int 1))) (gSlot 2)) (sSeq (sIf (dT (dBin rInD2 (dVar 3) (dTup (dCons (dC (.str ("load" : Str))) (dCons (dC (.str ("store" : Str))) dNil))))) (sSeq (sAsg (dCall sp_l_worth (dCons (dBin rIxD (dVar 4) (dIfE (dT (dBin rEqD (dVar 3) (dC (.str ("load" : Str))))) (dBin rIxD (dVar 1) (dC (.int 2))) (dBin rIxD (dVar 1) (dC (.int 1))))) dNil)) (gSlot 5)) (sSeq (sIf (dT (dBin rGeD (dVar 5) (dBin rIxD (dDget (dVar 0) (dC (.str ("window" : Str)))) (dC (.int 1))))) (sSeq (sDo (dCall sp_l_caught (dCons (dVar 0) (dCons (dC (.int 2)) (dCons (dC (.int 0)) dNil))))) (sRet (dC (.bl false)))) sNx) (sIf (dT (dBin rEqD (dVar 3) (dC (.str ("load" : Str))))) (sAsg (dBin rIxD (dDget (dVar 0) (dC (.str ("cells" : Str)))) (dBin rAddD (dBin rIxD (dDget (dVar 0) (dC (.str ("window" : Str)))) (dC (.int 0))) (dVar 5))) (gSubL (dVar 4) (dBin rIxD (dVar 1) (dC (.int 1))))) (sAsg (dBin rIxD (dVar 4) (dBin rIxD (dVar 1) (dC (.int 2)))) (gSubL (dDget (dVar 0) (dC (.str ("cells" : Str)))) (dBin rAddD (dBin rIxD (dDget (dVar 0) (dC (.str ("window" : Str)))) (dC (.int 0))) (dVar 5))))))) sNx) (sSeq (sIf (dT (dBin rEqD (dVar 3) (dC (.str ("put" : Str))))) (sAsg (dBin rIxD (dVar 1) (dC (.int 2))) (gSubL (dVar 4) (dBin rIxD (dVar 1) (dC (.int 1))))) sNx) (sSeq (sIf (dT (dBin rInD2 (dVar 3) (dTup (dCons (dC (.str ("add" : Str))) (dCons (dC (.str ("less" : Str))) dNil))))) (sSeq (sPar 6 7 (dCons (dCall sp_l_worth (dCons (dBin rIxD (dVar 4) (dBin rIxD (dVar 1) (dC (.int 2)))) dNil)) (dCons (dCall sp_l_worth (dCons (dBin rIxD (dVar 4) (dBin rIxD (dVar 1) (dC (.int 3)))) dNil)) dNil))) (sAsg (dBin rModD (dBin rIxD (dLst (dCons (dBin rAddD (dVar 6) (dVar 7)) (dCons (dBin rSubD (dVar 6) (dVar 7)) dNil))) (dB rIntB (dCons (dBin rEqD (dVar 3) (dC (.str ("less" : Str)))) dNil))) (dC (.int 1000))) (gSubL (dVar 4) (dBin rIxD (dVar 1) (dC (.int 1)))))) sNx) (sSeq (sIf (dOrT (dT (dBin rEqD (dVar 3) (dC (.str ("go" : Str))))) (dAndT (dT (dBin rEqD (dVar 3) (dC (.str ("zero" : Str))))) (dT (dBin rEqD (dCall sp_l_worth (dCons (dBin rIxD (dVar 4) (dBin rIxD (dVar 1) (dC (.int 1)))) dNil)) (dC (.int 0)))))) (sAsg (dBin rIxD (dVar 1) (dNeg (dC (.int 1)))) (gSlot 2)) sNx) (sSeq (sAsg (dVar 2) (gDput (dVar 0) (dC (.str ("place" : Str))))) (sRet (dC (.bl true))))))))))

theorem walk_l_plain : ∀ ds G Q X, sp_l_plain ds G Q X → t_l_plain (ends Q X) (startD 8 ds) G := by
  intro ds G Q X hsp
  obtain ⟨L, m, w, ps, rfl, ⟨h, hok, hg, ho, hc⟩, hQ⟩ := hsp
  have dc := h.dc; have cl := h.cl; have bx := h.bx
  obtain ⟨k1, k2, k3, k4⟩ := h.dlt
  have n1 := h.n1
  have b4 := hok.b4; have hf0 := hok.f0; have hfs := hok.fs
  have wn : ∀ k, 0 ≤ worthD (m.bxAt k) ∧ worthD (m.bxAt k) ≤ 999 := hok.wN
  cases hg with
  | put b n hb hn =>
    exists "run"
    exact hQ L _ rfl (h.setB.setD rfl rfl rfl rfl rfl) (by exists "fr") (LA.near_self _ _)
  | add b c d hb hc' hd =>
    exists "run"
    rename_i p hp
    exact hQ L _ rfl (((h.sub (.new hp)).setB).setD rfl rfl rfl rfl rfl) (by exists "fr") (LA.near_self _ _)
  | less b c d hb hc' hd =>
    exists "run"
    rename_i p hp
    exact hQ L _ rfl (((h.sub (.new hp)).setB).setD rfl rfl rfl rfl rfl) (by exists "fr") (LA.near_self _ _)
  | load b c hb hc' =>
    have wc := wn c
    have e : m.plain ("load" : Str) [.int (b : Int), .int (c : Int)] = (if worthD (m.bxAt c) < m.ws then ((m.setBx b (m.thAt (worthD (m.bxAt c)))).next, 0) else (m, 2)) := rfl
    unfold lplainS at hQ
    exists "run"
    refine ifB_d (fun hc => ?_) fun hc => ?_
    · rw [if_neg (show ¬ worthD (m.bxAt c) < m.ws by omega)] at e
      rw [e] at hQ
      exists "run"
      refine Ir_i ⟨L, m, 2, 0, rfl, ⟨h, hok, fun _ => .inl rfl⟩, fun L' G' e1 h' f' n' => ?_⟩
      exists "run"
      exact hQ L' G' e1 h' f' n'
    · rw [if_pos (show worthD (m.bxAt c) < m.ws by omega)] at e
      rw [e] at hQ
      exists "run"
      refine cell_at (by omega) (by omega) ?_
      exists "run"
      exact hQ L _ rfl (h.setB.setD rfl rfl rfl rfl rfl) (by exists "fr") (LA.near_self _ _)
  | store b c hb hc' =>
    have wc := wn b
    have e : m.plain ("store" : Str) [.int (b : Int), .int (c : Int)] = (if worthD (m.bxAt b) < m.ws then ({ m with cells := m.cells.set (m.wf + worthD (m.bxAt b)).toNat (m.bxAt c) }.next, 0) else (m, 2)) := rfl
    unfold lplainS at hQ
    exists "run"
    refine ifB_d (fun hc => ?_) fun hc => ?_
    · rw [if_neg (show ¬ worthD (m.bxAt b) < m.ws by omega)] at e
      rw [e] at hQ
      exists "run"
      refine Ir_i ⟨L, m, 2, 0, rfl, ⟨h, hok, fun _ => .inl rfl⟩, fun L' G' e1 h' f' n' => ?_⟩
      exists "run"
      exact hQ L' G' e1 h' f' n'
    · rw [if_pos (show worthD (m.bxAt b) < m.ws by omega)] at e
      rw [e] at hQ
      exists "run"
      refine cell_ix (by omega) (by omega) ?_
      exists "run"
      exact hQ L _ rfl (h.setC.setD rfl rfl rfl rfl rfl) (by exists "fr") (LA.near_self _ _)
  | zero b n hb hn =>
    have e : m.plain ("zero" : Str) [.int (b : Int), .int (n : Int)] = (if worthD (m.bxAt b) = 0 then ({ m with place := n }, 0) else (m.next, 0)) := rfl
    unfold lplainS at hQ
    exists "run"
    refine ifB_d (fun hc => ?_) fun hc => ?_
    · rw [if_pos hc] at e
      rw [e] at hQ
      exists "run"
      exact hQ L _ rfl (h.setD rfl rfl rfl rfl rfl) (by exists "fr") (LA.near_self _ _)
    · rw [if_neg hc] at e
      rw [e] at hQ
      exists "run"
      exact hQ L _ rfl (h.setD rfl rfl rfl rfl rfl) (by exists "fr") (LA.near_self _ _)
  | go n hn =>
    exists "run"
    exact hQ L _ rfl (h.setD rfl rfl rfl rfl rfl) (by exists "fr") (LA.near_self _ _)
  | call n hn => exact absurd rfl hc
  | _ => exact absurd ho (by decide)
def sp_l_counts : DSp := fun ds G Q _ => ∃ (L : LA) (m : MSt), ds = [.ref L.d] ∧ (LmAt G L m ∧ m.Ok) ∧ ∀ L' G', L'.d = L.d → LmAt G' L' m.counted → Fr L.fp G G' → LA.near G L L' → Q .non G'
def sp_l_own : DSp := fun ds G Q _ => ∃ (ks : List Bool) (w : Str) (ps : List D), ds = [.tup (ks.map .bl), .str w] ∧ (ks.length = 7 ∧ GoodRow (.tup (.str w :: ps))) ∧ (ownW w = true → ∀ G', Sub G G' → Q (.bl (isC ks w)) G') ∧ (ownW w = false → ∀ G', Sub G G' → Q .non G')
def sp_l_high : DSp := fun ds G Q _ => ∃ (L : LA) (m : MSt) (w : Str) (ps : List D), ds = [.ref L.d, .tup (.str w :: ps)] ∧ (LmAt G L m ∧ m.Ok ∧ GoodRow (.tup (.str w :: ps)) ∧ ownW w = true ∧ m.words.length < 16000000 ∧ m.high = true ∧ m.why = ("" : Str)) ∧ ∀ L' G', L'.d = L.d → LmAt G' L' (m.own w ps) → Fr L.fp G G' → LA.near G L L' → Q .non G'
def sp_l_low : DSp := fun ds G Q _ => ∃ (L : LA) (m : MSt) (w : Str) (ps : List D), ds = [.ref L.d, .tup (.str w :: ps), .ref L.w, .ref L.e] ∧ (LmAt G L m ∧ m.Ok ∧ GoodRow (.tup (.str w :: ps)) ∧ ownW w = true ∧ m.words.length < 16000000) ∧ ∀ L' G', L'.d = L.d → LmAt G' L' (m.low w ps) → Fr L.fp G G' → LA.near G L L' → Q .non G'
def t_l_counts : TSD := (sIf (dAndT (dNotT (dT (dDget (dVar 0) (dC (.str ("high" : Str)))))) (dT (dBin rGtD (dDget (dVar 0) (dC (.str ("alarm" : Str)))) (dC (.int 0))))) (sSeq (sAsg (dBin rSubD (dDget (dVar 0) (dC (.str ("alarm" : Str)))) (dC (.int 1))) (gDput (dVar 0) (dC (.str ("alarm" : Str))))) (sIf (dT (dBin rEqD (dDget (dVar 0) (dC (.str ("alarm" : Str)))) (dC (.int 0)))) (sDo (dCall sp_l_caught (dCons (dVar 0) (dCons (dC (.int 4)) (dCons (dC (.int 0)) dNil))))) sNx)) sNx)
def t_l_own : TSD := (sSeq (sAsg (dLst (dCons (dC (.str ("say" : Str))) (dCons (dC (.str ("hear" : Str))) (dCons (dC (.str ("which" : Str))) (dCons (dC (.str ("room" : Str))) (dCons (dC (.str ("enter" : Str))) (dCons (dC (.str ("alarm" : Str))) (dCons (dC (.str ("stop" : Str))) dNil)))))))) (gSlot 2)) (sRet (dIfE (dT (dBin rInD2 (dVar 1) (dVar 2))) (dBin rIxD (dVar 0) (dBM isL rIdxD (dVar 2) (dCons (dVar 1) dNil))) (dC .non))))
def t_l_high : TSD := (sSeq (sPar 3 4 (dCons (dBin rIxD (dVar 1) (dC (.int 0))) (dCons (dDget (dVar 0) (dC (.str ("boxes" : Str)))) dNil))) (sSeq (sAsg (dBin rAddD (dDget (dVar 0) (dC (.str ("place" : Str)))) (dC (.int 1))) (gSlot 2)) (sSeq (sIf (dT (dBin rEqD (dVar 3) (dC (.str ("say" : Str))))) (sDo (dBM isL rAppD (dDget (dVar 0) (dC (.str ("said" : Str)))) (dCons (dCall sp_l_worth (dCons (dBin rIxD (dVar 4) (dBin rIxD (dVar 1) (dC (.int 1)))) dNil)) dNil))) sNx) (sSeq (sIf (dT (dBin rEqD (dVar 3) (dC (.str ("hear" : Str))))) (sSeq (sAsg (dBin rIxD (dBin rAddD (dDget (dVar 0) (dC (.str ("ear" : Str)))) (dLst (dCons (dC (.int 0)) dNil))) (dC (.int 0))) (gSubL (dVar 4) (dBin rIxD (dVar 1) (dC (.int 1))))) (sAsg (dSl (dDget (dVar 0) (dC (.str ("ear" : Str)))) (dPart (dC (.int 1))) dNoPart) (gDput (dVar 0) (dC (.str ("ear" : Str)))))) sNx) (sSeq (sIf (dT (dBin rInD2 (dVar 3) (dTup (dCons (dC (.str ("which" : Str))) (dCons (dC (.str ("room" : Str))) dNil))))) (sAsg (dBin rIxD (dLst (dCons (dC (.int 1)) (dCons (dB rLen (dCons (dDget (dVar 0) (dC (.str ("cells" : Str)))) dNil)) dNil))) (dB rIntB (dCons (dBin rEqD (dVar 3) (dC (.str ("room" : Str)))) dNil))) (gSubL (dVar 4) (dBin rIxD (dVar 1) (dC (.int 1))))) sNx) (sSeq (sIf (dT (dBin rEqD (dVar 3) (dC (.str ("alarm" : Str))))) (sAsg (dCall sp_l_worth (dCons (dBin rIxD (dVar 4) (dBin rIxD (dVar 1) (dC (.int 1)))) dNil)) (gDput (dVar 0) (dC (.str ("alarm" : Str))))) sNx) (sSeq (sIf (dT (dBin rEqD (dVar 3) (dC (.str ("stop" : Str))))) (sAsg (dC (.str ("stop" : Str))) (gDput (dVar 0) (dC (.str ("why" : Str))))) sNx) (sSeq (sIf (dT (dBin rEqD (dVar 3) (dC (.str ("enter" : Str))))) (sSeq (sAsg (dComp (iLstD (dSl (dVar 4) (dPart (dBin rIxD (dVar 1) (dC (.int 1)))) (dPart (dBin rAddD (dBin rIxD (dVar 1) (dC (.int 1))) (dC (.int 3)))))) (.one 8) dYes (dCall sp_l_worth (dCons (dVar 8) dNil)) [8]) (gLstD 3 (gsCons (gSlot 5) (gsCons (gSlot 6) (gsCons (gSlot 7) gsNil))))) (sIf (dT (dBin rGtD (dBin rAddD (dVar 5) (dVar 6)) (dB rLen (dCons (dDget (dVar 0) (dC (.str ("cells" : Str)))) dNil)))) (sAsg (dC (.str ("window" : Str))) (gDput (dVar 0) (dC (.str ("why" : Str))))) (sSeq (sDo (dDupd (dVar 0) (dDisp (dpCons (dC (.str ("window" : Str))) (dTup (dCons (dVar 5) (dCons (dVar 6) dNil))) (dpCons (dC (.str ("high" : Str))) (dC (.bl false)) dpNil))))) (sAsg (dVar 7) (gSlot 2))))) sNx) (sIf (dT (dBin rNeD (dDget (dVar 0) (dC (.str ("why" : Str)))) (dC (.str ("window" : Str))))) (sAsg (dVar 2) (gDput (dVar 0) (dC (.str ("place" : Str))))) sNx)))))))))
def t_l_low : TSD := (sSeq (sPar 4 5 (dCons (dBin rIxD (dVar 1) (dC (.int 0))) (dCons (dDget (dVar 0) (dC (.str ("boxes" : Str)))) dNil))) (sSeq (sIf (dT (dBin rEqD (dVar 4) (dC (.str ("say" : Str))))) (sDo (dBM isL rAppD (dVar 2) (dCons (dCall sp_l_worth (dCons (dBin rIxD (dVar 5) (dBin rIxD (dVar 1) (dC (.int 1)))) dNil)) dNil))) sNx) (sSeq (sIf (dT (dBin rEqD (dVar 4) (dC (.str ("hear" : Str))))) (sAsg (dIfE (dT (dBin rNeD (dVar 3) (dLst dNil))) (dBM isL rPop0D (dVar 3) (dCons (dC (.int 0)) dNil)) (dC (.int 0))) (gSubL (dVar 5) (dBin rIxD (dVar 1) (dC (.int 1))))) sNx) (sSeq (sIf (dT (dBin rInD2 (dVar 4) (dTup (dCons (dC (.str ("which" : Str))) (dCons (dC (.str ("room" : Str))) dNil))))) (sAsg (dBin rIxD (dLst (dCons (dC (.int 0)) (dCons (dBin rIxD (dDget (dVar 0) (dC (.str ("window" : Str)))) (dC (.int 1))) dNil))) (dB rIntB (dCons (dBin rEqD (dVar 4) (dC (.str ("room" : Str)))) dNil))) (gSubL (dVar 5) (dBin rIxD (dVar 1) (dC (.int 1))))) sNx) (sAsg (dBin rAddD (dDget (dVar 0) (dC (.str ("place" : Str)))) (dC (.int 1))) (gDput (dVar 0) (dC (.str ("place" : Str)))))))))

theorem walk_l_counts : ∀ ds G Q X, sp_l_counts ds G Q X → t_l_counts (ends Q X) (startD 1 ds) G := by
  intro ds G Q X hsp
  obtain ⟨L, m, rfl, ⟨h, hok⟩, hQ⟩ := hsp
  have dc := h.dc
  unfold MSt.counted at hQ
  exists "run"
  refine ifB_i (fun hh => ?_) fun hh => ?_
  · rw [if_neg (by rw [hh]; simp)] at hQ
    exists "run"
    exact hQ L _ rfl h (Fr.refl _ _) (LA.near_self _ _)
  · exists "run"
    refine ifB_d (fun hl => ?_) fun hl => ?_
    · rw [if_pos (by rw [hh]; simp; exact hl)] at hQ
      have h1 : LmAt (up G L.d (lmObj L { m with left := m.left - 1 })) L { m with left := m.left - 1 } := h.setD rfl rfl rfl rfl rfl
      have hok1 : ({ m with left := m.left - 1 } : MSt).Ok := { hok with l0 := by show 0 ≤ m.left - 1; omega }
      exists "run"
      refine ifB_d (fun hz => ?_) fun hz => ?_
      · rw [if_pos hz] at hQ
        exists "run"
        exact Ir_i ⟨L, { m with left := m.left - 1 }, 4, 0, rfl, ⟨h1, hok1, fun z => by rw [show m.high = true from z] at hh; cases hh⟩, fun L' G' e1 h' f' n' => hQ L' G' e1 h' (near_fr (Fr.put (Fr.refl _ _) (by simp)) (LA.near_self _ _) f') (near_trans (Fr.put (Fr.refl _ _) (by simp)) (LA.near_self _ _) n')⟩
      · rw [if_neg hz] at hQ
        exists "run"
        exact hQ L _ rfl h1 (by exists "fr") (LA.near_self _ _)
    · rw [if_neg (by rw [hh]; simp; omega)] at hQ
      exists "run"
      exact hQ L _ rfl h (Fr.refl _ _) (LA.near_self _ _)
theorem walk_l_own : ∀ ds G Q X, sp_l_own ds G Q X → t_l_own (ends Q X) (startD 3 ds) G := by
  intro ds G Q X hsp
  obtain ⟨ks, w, ps, rfl, ⟨h7, hg⟩, h1, h2⟩ := hsp
  match ks, h7 with
  | [a, b, c, d, e, f, g], _ =>
    cases hg <;> exists "run"
    all_goals first
      | exact h2 rfl _ (.new ‹_›)
      | exact h1 rfl _ (.new ‹_›)
theorem cut_b {bs : List D} (h : bs.length = 4) {k : Nat} (hk : k = 0 ∨ k = 1) : cutD bs (some (k : Int)) (some ((k : Int) + 3)) = [bs.getD k (.int 0), bs.getD (k + 1) (.int 0), bs.getD (k + 2) (.int 0)] := by
  match bs, h with
  | [a, b, c, d], _ => rcases hk with rfl | rfl <;> rfl
theorem cut_tail (xs : List D) : cutD xs (some 1) none = xs.tail := by
  have e : HT.sIx xs.length 0 (some 1) = min 1 xs.length := HT.sIx_nat xs.length 0 1
  unfold cutD
  rw [e]
  cases xs with
  | nil => rfl
  | cons x r => simp [HT.sIx_none]
theorem walk_l_high : ∀ ds G Q X, sp_l_high ds G Q X → t_l_high (ends Q X) (startD 9 ds) G := by
  intro ds G Q X hsp
  obtain ⟨L, m, w, ps, rfl, ⟨h, hok, hg, ho, hwl, hh, hy⟩, hQ⟩ := hsp
  have dc := h.dc; have cl := h.cl; have bx := h.bx; have wd := h.wd; have er := h.er
  obtain ⟨k1, k2, k3, k4⟩ := h.dlt
  have n1 := h.n1; have n2 := h.n2; have n3 := h.n3; have n4 := h.n4; have n5 := h.n5; have n6 := h.n6
  have b4 := hok.b4; have hf0 := hok.f0; have hfs := hok.fs; have he20 := hok.e20
  have hws := (hok.hi hh).2
  have wn : ∀ k, 0 ≤ worthD (m.bxAt k) ∧ worthD (m.bxAt k) ≤ 999 := hok.wN
  have yy : (!decide (m.why = ("window" : Str))) = true := by rw [hy]; rfl
  cases hg with
  | say b hb =>
    exists "run"
    refine ifB_f (decide_eq_false (by rw [hy]; decide)) ?_
    exists "run"
    exact hQ L _ rfl (h.setW.setD rfl rfl rfl rfl rfl) (by exists "fr") (LA.near_self _ _)
  | hear b hb =>
    have e : m.own ("hear" : Str) [.int (b : Int)] = { m with boxes := m.boxes.set b (m.ear.headD (D.int 0)), ear := m.ear.tail }.next := rfl
    rw [e] at hQ
    exists "run"
    have eh : atI (m.ear ++ [D.int 0]) 0 = some (m.ear.headD (.int 0)) := by
      cases m.ear with
      | nil => rfl
      | cons x r => exact atI0
    refine onSome_i eh ?_
    exists "run"
    rw [cut_tail]
    refine ifB_f (decide_eq_false (by rw [hy]; decide)) ?_
    exists "run"
    have hQ' : ∀ p G', G' L.d = some (.dct [(kS "cells", .ref L.c), (kS "boxes", .ref L.b), (kS "place", .int (m.place + 1)), (kS "high", .bl m.high), (kS "window", .tup [.int m.wf, .int m.ws]), (kS "alarm", .int m.left), (kS "said", .ref L.w), (kS "ear", .ref p), (kS "why", .str m.why), (kS "many", .int m.many)]) → G p = none → G' p = some (.lst m.ear.tail) → G' L.b = some (.lst (m.boxes.set b (m.ear.headD (D.int 0)))) → Fr [L.d, L.b] G G' → Q .non G' := fun p G' h1 g1 h2 h3 f => by
      have nd : ∀ x, x ≠ L.d → x ≠ L.b → ∀ o, G x = some o → G' x = some o := fun x hx hy o ho => f x (by simpa using ⟨hx, hy⟩) o ho
      refine hQ { L with e := p } G' rfl ⟨h1, nd _ (Ne.symm k1) h.n1 _ h.cl, h3, nd _ (Ne.symm k3) (Ne.symm h.n4) _ h.wd, h2, h.n1, h.n2, Ne.symm (ne_new' g1 h.cl), h.n4, Ne.symm (ne_new' g1 h.bx), Ne.symm (ne_new' g1 h.wd)⟩ (f.wk (by simp)) ?_
      intro x hx
      simp only [LA.fp, List.mem_cons, List.not_mem_nil, or_false] at hx ⊢
      rcases hx with rfl | rfl | rfl | rfl | rfl <;> simp_all
    simp only [up_up]
    refine hQ' _ _ up_same ?_ ?_ ?_ ?_
    · assumption
    · exists "at"
    · exists "at"
    · exists "fr"
  | which b hb =>
    exists "run"
    refine ifB_f (decide_eq_false (by rw [hy]; decide)) ?_
    exists "run"
    rename_i p hp
    exact hQ L _ rfl (((h.sub (.new hp)).setB).setD rfl rfl rfl rfl rfl) (by exists "fr") (LA.near_self _ _)
  | room b hb =>
    have e : m.own ("room" : Str) [.int (b : Int)] = (m.setBx b (.int (m.cells.length : Int))).next := by rw [← hws]; rfl
    rw [e] at hQ
    exists "run"
    refine ifB_f (decide_eq_false (by rw [hy]; decide)) ?_
    exists "run"
    rename_i p hp
    exact hQ L _ rfl (((h.sub (.new hp)).setB).setD rfl rfl rfl rfl rfl) (by exists "fr") (LA.near_self _ _)
  | alarm b hb =>
    exists "run"
    refine ifB_f (decide_eq_false (by rw [hy]; decide)) ?_
    exists "run"
    simp only [up_up]
    exact hQ L _ rfl (h.setD rfl rfl rfl rfl rfl) (by exists "fr") (LA.near_self _ _)
  | stop =>
    exists "run"
    simp only [up_up]
    exact hQ L _ rfl (h.setD rfl rfl rfl rfl rfl) (by exists "fr") (LA.near_self _ _)
  | enter b hb =>
    have e : m.own ("enter" : Str) [.int (b : Int)] = (if m.cells.length < worthD (m.bxAt b) + worthD (m.bxAt (b + 1)) then { m with why := ("window" : Str) } else { m with wf := worthD (m.bxAt b), ws := worthD (m.bxAt (b + 1)), high := false, place := worthD (m.bxAt (b + 2)) }) := rfl
    rw [e] at hQ
    exists "run"
    rw [cut_b b4 (by omega)]
    exists "run"
    refine ifB_d (fun hc => ?_) fun hc => ?_
    · rw [if_pos (show m.cells.length < worthD (m.bxAt b) + worthD (m.bxAt (b + 1)) from hc)] at hQ
      exists "run"
      refine hQ L _ rfl (LmAt.setD (LmAt.sub h ?_) rfl rfl rfl rfl rfl) (by exists "fr") (LA.near_self _ _)
      exists "sub"
    · rw [if_neg (show ¬ m.cells.length < worthD (m.bxAt b) + worthD (m.bxAt (b + 1)) from hc)] at hQ
      exists "run"
      refine ifB_f (decide_eq_false (by rw [hy]; decide)) ?_
      exists "run"
      simp only [up_up]
      have hQ' : ∀ G', G' L.d = some (lmObj L { m with wf := worthD (m.bxAt b), ws := worthD (m.bxAt (b + 1)), high := false, place := worthD (m.bxAt (b + 2)) }) → Fr [L.d] G G' → Q .non G' := fun G' h1 f => by
        have nd : ∀ x, x ≠ L.d → ∀ o, G x = some o → G' x = some o := fun x hx o ho => f x (by simpa using hx) o ho
        exact hQ L G' rfl ⟨h1, nd _ (Ne.symm k1) _ h.cl, nd _ (Ne.symm k2) _ h.bx, nd _ (Ne.symm k3) _ h.wd, nd _ (Ne.symm k4) _ h.er, h.n1, h.n2, h.n3, h.n4, h.n5, h.n6⟩ (f.wk (by simp)) (LA.near_self _ _)
      refine hQ' _ up_same ?_
      exists "fr"
  | _ => exact absurd ho (by decide)
theorem walk_l_low : ∀ ds G Q X, sp_l_low ds G Q X → t_l_low (ends Q X) (startD 6 ds) G := by
  intro ds G Q X hsp
  obtain ⟨L, m, w, ps, rfl, ⟨h, hok, hg, ho, hwl⟩, hQ⟩ := hsp
  have dc := h.dc; have cl := h.cl; have bx := h.bx; have wd := h.wd; have er := h.er
  obtain ⟨k1, k2, k3, k4⟩ := h.dlt
  have n1 := h.n1; have n2 := h.n2; have n3 := h.n3; have n4 := h.n4; have n5 := h.n5; have n6 := h.n6
  have b4 := hok.b4; have he20 := hok.e20
  cases hg with
  | say b hb =>
    exists "run"
    exact hQ L _ rfl (h.setW.setD rfl rfl rfl rfl rfl) (by exists "fr") (LA.near_self _ _)
  | hear b hb =>
    have e : m.low ("hear" : Str) [.int (b : Int)] = { m with boxes := m.boxes.set b (m.ear.headD (D.int 0)), ear := m.ear.tail }.next := rfl
    rw [e] at hQ
    exists "run"
    rename_i p hp
    refine rNe_nil (ys := m.ear) (by exists "at") up_same (toPy_nat hok.er) ?_
    cases he : m.ear with
    | nil =>
      exists "run"
      rw [he] at hQ
      exact hQ L _ rfl (((h.sub (.new hp)).setB.setD (m' := { m with boxes := m.boxes.set b (.int 0), place := m.place + 1 }) rfl rfl rfl rfl rfl).cast (by rw [he]; rfl)) (by exists "fr") (LA.near_self _ _)
    | cons x r =>
      rw [he] at hQ er
      exists "run"
      exact hQ L _ rfl ((((h.sub (.new hp)).setE (xs := r)).setB (xs := m.boxes.set b x)).setD rfl rfl rfl rfl rfl) (by exists "fr") (LA.near_self _ _)
  | which b hb =>
    exists "run"
    rename_i p hp
    exact hQ L _ rfl (((h.sub (.new hp)).setB).setD rfl rfl rfl rfl rfl) (by exists "fr") (LA.near_self _ _)
  | room b hb =>
    exists "run"
    rename_i p hp
    exact hQ L _ rfl (((h.sub (.new hp)).setB).setD rfl rfl rfl rfl rfl) (by exists "fr") (LA.near_self _ _)
  | alarm b hb =>
    exists "run"
    exact hQ L _ rfl (h.setD rfl rfl rfl rfl rfl) (by exists "fr") (LA.near_self _ _)
  | stop =>
    exists "run"
    exact hQ L _ rfl (h.setD rfl rfl rfl rfl rfl) (by exists "fr") (LA.near_self _ _)
  | enter b hb =>
    exists "run"
    exact hQ L _ rfl (h.setD rfl rfl rfl rfl rfl) (by exists "fr") (LA.near_self _ _)
  | _ => exact absurd ho (by decide)


open MSt
def sp_l_step : DSp := fun ds G Q _ => ∃ (L : LA) (m : MSt) (ks : List Bool) (dm : D), ds = [.ref L.d, .tup (ks.map .bl), .non, dm] ∧ (LmAt G L m ∧ RunOk ks m ∧ m.why = ("" : Str)) ∧ ∀ L' G', L'.d = L.d → LmAt G' L' (MSt.step ks m) → Fr L.fp G G' → LA.near G L L' → Q .non G'
theorem use_lcaught {L : LA} {m : MSt} {n more : Int} {G : DH} {Q : DQ} {X : DX} (h : LmAt G L m) (hok : m.Ok) (hn : m.high = true → n = 2 ∨ n = 3) (k : ∀ L' G', L'.d = L.d → LmAt G' L' (m.caught n m.place more) → Fr L.fp G G' → LA.near G L L' → Q .non G') : Ir sp_l_caught [.ref L.d, .int n, .int more] G Q X := Ir_i ⟨L, m, n, more, rfl, ⟨h, hok, hn⟩, k⟩
theorem use_lcounts {L L0 : LA} {m : MSt} {G : DH} {Q : DQ} {X : DX} (e : L.d = L0.d) (h : LmAt G L m) (hok : m.Ok) (k : ∀ L' G', L'.d = L.d → LmAt G' L' m.counted → Fr L.fp G G' → LA.near G L L' → Q .non G') : Ir sp_l_counts [.ref L0.d] G Q X := Ir_i ⟨L, m, by rw [e], ⟨h, hok⟩, k⟩
theorem plain_no {m : MSt} {w : Str} {ps : List D} : (m.plain w ps).2 ≠ 0 → m.plain w ps = (m, 2) := by
  unfold MSt.plain
  repeat' split
  all_goals first
    | (intro _; rfl)
    | (intro z; exact absurd rfl z)
def t_l_step : TSD := (sSeq (sAsg (dBin rAddD (dDget (dVar 0) (dC (.str ("many" : Str)))) (dC (.int 1))) (gDput (dVar 0) (dC (.str ("many" : Str))))) (sSeq (sAsg (dIfE (dT (dBin rLtD (dDget (dVar 0) (dC (.str ("place" : Str)))) (dBin rIxD (dDget (dVar 0) (dC (.str ("window" : Str)))) (dC (.int 1))))) (dBin rIxD (dDget (dVar 0) (dC (.str ("cells" : Str)))) (dBin rAddD (dBin rIxD (dDget (dVar 0) (dC (.str ("window" : Str)))) (dC (.int 0))) (dDget (dVar 0) (dC (.str ("place" : Str)))))) (dC .non)) (gSlot 4)) (sIf (dNotT (dT (dIsi ["tuple"] (dVar 4)))) (sDo (dCall sp_l_caught (dCons (dVar 0) (dCons (dIfE (dT (dIsN false (dVar 4))) (dC (.int 2)) (dC (.int 3))) (dCons (dC (.int 0)) dNil))))) (sIf (dT (dBin rEqD (dBin rIxD (dVar 4) (dC (.int 0))) (dC (.str ("call" : Str))))) (sSeq (sAsg (dBin rAddD (dDget (dVar 0) (dC (.str ("place" : Str)))) (dC (.int 1))) (gDput (dVar 0) (dC (.str ("place" : Str))))) (sIf (dNotT (dT (dDget (dVar 0) (dC (.str ("high" : Str)))))) (sDo (dCall sp_l_caught (dCons (dVar 0) (dCons (dC (.int 5)) (dCons (dBin rIxD (dVar 4) (dC (.int 1))) dNil))))) sNx)) (sIf (dT (dIsN false (dCall sp_l_own (dCons (dVar 1) (dCons (dBin rIxD (dVar 4) (dC (.int 0))) dNil))))) (sIf (dT (dCall sp_l_plain (dCons (dVar 0) (dCons (dVar 4) dNil)))) (sDo (dCall sp_l_counts (dCons (dVar 0) dNil))) sNx) (sIf (dAndT (dT (dIsN true (dVar 2))) (dAndT (dNotT (dT (dCall sp_l_own (dCons (dVar 1) (dCons (dBin rIxD (dVar 4) (dC (.int 0))) dNil))))) (dOrT (dT (dBin rEqD (dVar 2) (dC (.str ("plain" : Str))))) (dNotT (dT (dDget (dVar 0) (dC (.str ("high" : Str))))))))) (sSeq (sDo (dCall sp_l_low (dCons (dVar 0) (dCons (dVar 4) (dCons (dVar 3) (dCons (dLst dNil) dNil)))))) (sDo (dCall sp_l_counts (dCons (dVar 0) dNil)))) (sIf (dT (dDget (dVar 0) (dC (.str ("high" : Str))))) (sDo (dCall sp_l_high (dCons (dVar 0) (dCons (dVar 4) dNil)))) (sIf (dT (dCall sp_l_own (dCons (dVar 1) (dCons (dBin rIxD (dVar 4) (dC (.int 0))) dNil)))) (sDo (dCall sp_l_caught (dCons (dVar 0) (dCons (dC (.int 1)) (dCons (dC (.int 0)) dNil))))) (sSeq (sDo (dCall sp_l_low (dCons (dVar 0) (dCons (dVar 4) (dCons (dDget (dVar 0) (dC (.str ("said" : Str)))) (dCons (dDget (dVar 0) (dC (.str ("ear" : Str)))) dNil)))))) (sDo (dCall sp_l_counts (dCons (dVar 0) dNil))))))))))))

theorem walk_l_step : ∀ ds G Q X, sp_l_step ds G Q X → t_l_step (ends Q X) (startD 5 ds) G := by
  intro ds G Q X hsp
  obtain ⟨L, m, ks, dm, rfl, ⟨h, r, hy⟩, hQ⟩ := hsp
  have dc := h.dc; have cl := h.cl
  obtain ⟨k1, k2, k3, k4⟩ := h.dlt
  have hok := r.ok.tick
  have hw1 := r.wl; have hw2 := r.mn
  have hwl : m.tick.words.length < 16000000 := by show m.words.length < 16000000; omega
  have f0 : Fr L.fp G (up G L.d (lmObj L m.tick)) := (Fr.refl _ _).put (by simp)
  have h1 : LmAt (up G L.d (lmObj L m.tick)) L m.tick := h.setD rfl rfl rfl rfl rfl
  have es : MSt.step ks m = step1 ks m.tick := rfl
  rw [es] at hQ
  have q1 := r.ok.f0; have q2 := r.ok.pl; have q3 := r.ok.fs; have q4 := r.p9
  have ec : m.tick.coming = if m.place < m.ws then (if isTup (m.cells.getD (m.wf + m.place).toNat (.int 0)) then m.cells.getD (m.wf + m.place).toNat (.int 0) else .int 3) else .int 2 := rfl
  unfold step1 at hQ
  have fin : ∀ {m'}, ∀ L' G', L'.d = L.d → LmAt G' L' m' → Fr L.fp (up G L.d (lmObj L m.tick)) G' → LA.near (up G L.d (lmObj L m.tick)) L L' → (∀ L' G', L'.d = L.d → LmAt G' L' m' → Fr L.fp G G' → LA.near G L L' → Q .non G') → Q .non G' := fun L' G' e h f n k => k L' G' e h (f0.trans f) (near_trans f0 (LA.near_self _ _) n)
  exists "run"
  refine ifB_d (fun hlt => ?_) fun hlt => ?_
  rotate_left
  · rw [if_neg hlt] at ec
    rw [ec] at hQ
    exists "run"
    exact use_lcaught h1 hok (fun _ => .inl rfl) fun L' G' e h' f n => fin L' G' e h' f n hQ
  rw [if_pos hlt] at ec
  exists "run"
  refine cell_at (by omega) (by omega) ?_
  have gd : GoodTh (m.cells.getD (m.wf + m.place).toNat (.int 0)) := good0 r.ok.cg _
  generalize m.cells.getD (m.wf + m.place).toNat (.int 0) = th at gd ec ⊢
  rcases gd with ⟨n, hn⟩ | hg
  · replace ec : m.tick.coming = .int 3 := ec
    rw [ec] at hQ
    exists "run"
    exact use_lcaught h1 hok (fun _ => .inr rfl) fun L' G' e h' f n => fin L' G' e h' f n hQ
  obtain ⟨w, ps, rfl⟩ := goodRow_form hg
  replace ec : m.tick.coming = .tup (.str w :: ps) := ec
  rw [ec] at hQ
  replace hQ : ∀ L' G', L'.d = L.d → LmAt G' L' (rowStep ks m.tick w ps) → Fr L.fp G G' → LA.near G L L' → Q .non G' := hQ
  unfold rowStep at hQ
  exists "run"
  refine ifB_d (fun hw => ?_) fun hw => ?_
  · rw [if_pos hw] at hQ
    obtain ⟨n, hn, rfl⟩ := call_ps hg hw
    have h3 : LmAt (up (up G L.d (lmObj L m.tick)) L.d (lmObj L m.tick.next)) L m.tick.next := h1.setD rfl rfl rfl rfl rfl
    have f3 : Fr L.fp G (up (up G L.d (lmObj L m.tick)) L.d (lmObj L m.tick.next)) := f0.put (by simp)
    exists "run"
    refine ifB_i (fun hh => ?_) fun hh => ?_
    · rw [if_pos (show m.tick.high = true from hh)] at hQ
      exists "run"
      exact hQ L _ rfl h3 f3 (LA.near_self _ _)
    · rw [if_neg (show ¬ m.tick.high = true by rw [show m.tick.high = m.high from rfl, hh]; simp)] at hQ
      exists "run"
      exact use_lcaught h3 hok.next (fun z => by rw [show m.high = true from z] at hh; cases hh) fun L' G' e h' f n => hQ L' G' e h' (f3.trans f) (near_trans f3 (LA.near_self _ _) n)
  · rw [if_neg hw] at hQ
    exists "run"
    refine Ir_i ⟨ks, w, ps, rfl, ⟨r.k7, hg⟩, fun ho G2 s2 => ?_, fun ho G2 s2 => ?_⟩
    · rw [if_pos ho] at hQ
      have h2 : LmAt G2 L m.tick := h1.sub s2
      have dc2 := h2.dc
      have f2 : Fr L.fp G G2 := f0.trans fun a _ => s2 a
      exists "run"
      refine ifB_i (fun hh => ?_) fun hh => ?_
      · rw [if_pos hh] at hQ
        exists "run"
        exact Ir_i ⟨L, m.tick, w, ps, rfl, ⟨h2, hok, hg, ho, hwl, hh, hy⟩, fun L' G' e h' f n => hQ L' G' e h' (f2.trans f) (near_trans f2 (LA.near_self _ _) n)⟩
      · rw [if_neg (by rw [hh]; simp)] at hQ
        exists "run"
        refine Ir_i ⟨ks, w, ps, rfl, ⟨r.k7, hg⟩, fun _ G3 s3 => ?_, fun z => by rw [ho] at z; cases z⟩
        have h3 : LmAt G3 L m.tick := h2.sub s3
        have dc3 := h3.dc
        have f3 : Fr L.fp G G3 := f2.trans fun a _ => s3 a
        exists "run"
        refine ifB_i (fun hc => ?_) fun hc => ?_
        · rw [if_pos hc] at hQ
          exists "run"
          exact use_lcaught h3 hok (fun z => by rw [z] at hh; cases hh) fun L' G' e h' f n => hQ L' G' e h' (f3.trans f) (near_trans f3 (LA.near_self _ _) n)
        · rw [if_neg (by rw [hc]; simp)] at hQ
          exists "run"
          refine Ir_i ⟨L, m.tick, w, ps, rfl, ⟨h3, hok, hg, ho, hwl⟩, fun L4 G4 e4 h4 f4 n4 => ?_⟩
          exists "run"
          exact use_lcounts e4 h4 (hok.low w ps) fun L' G' e h' f n => hQ L' G' (e.trans e4) h' (f3.trans (near_fr f4 n4 f)) (near_trans f3 (LA.near_self _ _) (near_trans f4 n4 n))
    · rw [if_neg (by rw [ho]; simp)] at hQ
      have h2 : LmAt G2 L m.tick := h1.sub s2
      have dc2 := h2.dc
      have f2 : Fr L.fp G G2 := f0.trans fun a _ => s2 a
      obtain ⟨k1, k2⟩ := hok.plain (w := w) (row_ps hg)
      exists "run"
      refine Ir_i ⟨L, m.tick, w, ps, rfl, ⟨h2, hok, hg, ho, hw⟩, fun L4 G4 e4 h4 f4 n4 => ?_⟩
      unfold lplainS at h4
      exists "run"
      refine ifB_d (fun hz => ?_) fun hz => ?_
      · rw [if_pos hz] at hQ h4
        exists "run"
        exact use_lcounts e4 h4 k1 fun L' G' e h' f n => hQ L' G' (e.trans e4) h' (f2.trans (near_fr f4 n4 f)) (near_trans f2 (LA.near_self _ _) (near_trans f4 n4 n))
      · have ep := plain_no hz
        rw [if_neg hz] at hQ h4
        rw [ep] at hQ
        exists "run"
        exact hQ L4 G4 e4 h4 (f2.trans f4) (near_trans f2 (LA.near_self _ _) n4)


open MSt
theorem LmAt.supS {G : DH} {L : LA} {m : MSt} (h : LmAt G L m) : ∀ x ∈ L.fp, ∃ o, G x = some o ∧ supS o = false := fun x hx => by
  simp only [LA.fp, List.mem_cons, List.not_mem_nil, or_false] at hx
  rcases hx with rfl | rfl | rfl | rfl | rfl
  · exact ⟨_, h.dc, rfl⟩
  · exact ⟨_, h.cl, rfl⟩
  · exact ⟨_, h.bx, rfl⟩
  · exact ⟨_, h.wd, rfl⟩
  · exact ⟨_, h.er, rfl⟩
theorem LmAt.all {G : DH} {L : LA} {m : MSt} (h : LmAt G L m) : AllIn G L.fp := fun x hx => by obtain ⟨o, e, _⟩ := h.supS x hx; exact ⟨o, e⟩
theorem near_nin {G : DH} {L L' : LA} {xs : List Addr} (n : LA.near G L L') (h : ∀ b ∈ L.fp, b ∉ xs) (k : AllIn G xs) : ∀ b ∈ L'.fp, b ∉ xs := fun b hb => by
  rcases n b hb with z | z
  · exact h b z
  · exact k.nin z
def sp_l_goes : DSp := fun ds G Q _ => ∃ (L : LA) (m : MSt) (ks : List Bool) (dm : D) (n : Nat), ds = [.ref L.d, .tup (ks.map .bl), .non, dm, .int (n : Int)] ∧ (LmAt G L m ∧ n ≤ 400 ∧ m.Ok ∧ m.place ≤ 999 ∧ ks.length = 7 ∧ (m.words.length : Int) ≤ m.many ∧ m.many < 14000000) ∧ ∀ L' G', L'.d = L.d → LmAt G' L' (MSt.go ks n m).1 → Fr L.fp G G' → LA.near G L L' → Q (.int ((MSt.go ks n m).2 : Int)) G'
def t_l_goes : TSD := (sSeq (sFor (iRngD1 (dVar 4)) (gSlot 5) (sSeq (sIf (dT (dBin rNeD (dDget (dVar 0) (dC (.str ("why" : Str)))) (dC (.str ("" : Str))))) (sRet (dVar 5)) sNx) (sDo (dCall sp_l_step (dCons (dVar 0) (dCons (dVar 1) (dCons (dVar 2) (dCons (dVar 3) dNil)))))))) (sRet (dVar 4)))
local macro_rules | `(tactic| exists "run") => `(tactic| ((try (conv => whnf)); repeat' ((first | refine onSome_i rfl ?_ | ((with_reducible apply onSome_i); focus exists "hp") | ((with_reducible apply onSome_i); focus exists "fl") | with_reducible refine onSome_i atI0 ?_ | with_reducible refine onSome_i atI1 ?_ | with_reducible refine onSome_i atI2 ?_ | with_reducible refine onSome_i atI3 ?_ | refine ifB_t rfl ?_ | refine ifB_f rfl ?_ | refine ifB_not ?_ | refine ifB_if ?_ | refine ifB_if1 ?_ | refine rEq_iq ?_ | refine rEq_sq ?_ | refine rEq_bq ?_ | refine rNe_iq ?_ | refine rNe_sq ?_ | refine rNe_bq ?_ | (apply rEq_tt; (focus exact rfl); (focus exact rfl)) | (apply rNe_tt; (focus exact rfl); (focus exact rfl)) | (apply rEq_ti; focus exact rfl) | (apply rNe_ti; focus exact rfl) | ((with_reducible apply onSome_i); focus ((first | apply hp_len | apply hp_lstOf | apply hp_mutOf | apply hp_seqOf | apply hp_recv | apply hp_lst | apply hp_ins | apply hp_dct | apply hp_dctR); exists "at")) | ((with_reducible apply onSome_i); focus ((apply hp_fdcR); exists "at")) | ((with_reducible apply And.intro); focus exists "sd") | refine ref_i ?_ | refine eq_i ?_ | exists "new" | (refine box_at (by assumption) (by omega) ?_) | (refine box_ix (by assumption) (by omega) ?_) | fail) <;> (try (conv => whnf)))))
local macro_rules | `(tactic| exists "all") => `(tactic| ((try (conv => whnf)); repeat' ((first | refine onSome_i rfl ?_ | ((with_reducible apply onSome_i); focus exists "hp") | ((with_reducible apply onSome_i); focus exists "fl") | with_reducible refine onSome_i atI0 ?_ | with_reducible refine onSome_i atI1 ?_ | with_reducible refine onSome_i atI2 ?_ | with_reducible refine onSome_i atI3 ?_ | refine ifB_t rfl ?_ | refine ifB_f rfl ?_ | refine ifB_not ?_ | refine ifB_if ?_ | refine ifB_if1 ?_ | refine rEq_iq ?_ | refine rEq_sq ?_ | refine rEq_bq ?_ | refine rNe_iq ?_ | refine rNe_sq ?_ | refine rNe_bq ?_ | (apply rEq_tt; (focus exact rfl); (focus exact rfl)) | (apply rNe_tt; (focus exact rfl); (focus exact rfl)) | (apply rEq_ti; focus exact rfl) | (apply rNe_ti; focus exact rfl) | ((with_reducible apply onSome_i); focus ((first | apply hp_len | apply hp_lstOf | apply hp_mutOf | apply hp_seqOf | apply hp_recv | apply hp_lst | apply hp_ins | apply hp_dct | apply hp_dctR); exists "at")) | ((with_reducible apply onSome_i); focus ((apply hp_fdcR); exists "at")) | ((with_reducible apply And.intro); focus exists "sd") | refine ref_i ?_ | refine eq_i ?_ | exists "new" | (refine box_at (by assumption) (by omega) ?_) | (refine box_ix (by assumption) (by omega) ?_) | exact All.nil | refine All.cons ?_ ?_ | (refine ix_all ?_ ?_; focus exists "sd") | refine ifB_d (fun _ => ?_) fun _ => ?_ | refine ifB_nd (fun _ => ?_) fun _ => ?_ | fail) <;> (try (conv => whnf)))))

theorem walk_l_goes : ∀ ds G Q X, sp_l_goes ds G Q X → t_l_goes (ends Q X) (startD 6 ds) G := by
  intro ds G Q X hsp
  obtain ⟨L, m, ks, dm, n, rfl, ⟨h, hn, hok, hp, h7, hw, hm⟩, hQ⟩ := hsp
  exists "run"
  refine forRun_ind (fun r τ G' => ∃ (k j : Nat) (mk : MSt) (L' : LA), r = rangeD (k : Int) j ∧ k + j = n ∧ L'.d = L.d ∧ LmAt G' L' mk ∧ mk.Ok ∧ mk.place ≤ 999 ∧ (mk.words.length : Int) ≤ mk.many ∧ mk.many = m.many + k ∧ (MSt.go ks n m).1 = (MSt.go ks j mk).1 ∧ (MSt.go ks n m).2 = k + (MSt.go ks j mk).2 ∧ Fr L.fp G G' ∧ LA.near G L L' ∧ ∃ z, τ = [some (.ref L.d), some (.tup (ks.map .bl)), some .non, some dm, some (.int (n : Int)), z]) ?_ ?_ _ _ _ ⟨0, n, m, L, ?_, by omega, rfl, h, hok, hp, hw, by simp, rfl, by simp, Fr.refl _ _, LA.near_self _ _, none, rfl⟩
  · rintro τ G1 ⟨k, j, mk, L1, hr, hk, el, h1, o1, p1, w1, m1, e1, e2, f1, n1, z, rfl⟩
    refine ⟨trivial, ?_⟩
    have hj : j = 0 := by cases j with | zero => rfl | succ j => rw [rangeD_succ] at hr; cases hr
    subst hj
    have hk' : k = n := by omega
    subst hk'
    exists "run"
    rw [e1, e2] at hQ
    exact hQ L1 _ el h1 f1 n1
  · rintro d r ih τ G1 ⟨k, j, mk, L1, hr, hk, el, h1, o1, p1, w1, m1, e1, e2, f1, n1, z, rfl⟩
    cases j with
    | zero => cases hr
    | succ j =>
      rw [rangeD_succ] at hr
      injection hr with hr1 hr2
      subst hr1 hr2
      refine ⟨trivial, ?_⟩
      have dc := h1.dc
      rw [el] at dc
      rw [go_succ] at e1 e2
      exists "run"
      refine ifB_d (fun hy => ?_) fun hy => ?_
      rotate_left
      · rw [if_neg hy] at e1 e2
        exists "run"
        rw [e1, e2] at hQ
        exact hQ L1 _ el h1 f1 n1
      · rw [if_pos hy] at e1 e2
        exists "run"
        refine Ir_i ⟨L1, mk, ks, dm, by rw [el], ⟨h1, ⟨o1, p1, h7, w1, by omega⟩, hy⟩, fun L2 G2 el2 h2 f2 n2 => ?_⟩
        obtain ⟨s1, s2⟩ := step_many ks mk
        obtain ⟨s3, s4⟩ := step_ok (ks := ks) o1 p1
        exists "run"
        refine ih _ _ ⟨k + 1, j, MSt.step ks mk, L2, by rw [show ((k + 1 : Nat) : Int) = (k : Int) + 1 by omega], by omega, el2.trans el, h2, s3, s4, by omega, by omega, e1, by rw [e2]; simp only []; omega, near_fr f1 n1 f2, near_trans f1 n1 n2, _, rfl⟩
  · rfl


open MSt
def sp_l_begin : DSp := fun ds G Q _ => ∃ s row, ds = [.ref s, row] ∧ (HasSt s G ∧ GoodTh row) ∧ ∀ p xs G', StF s G G' → G p = none → G' p = some (.lst xs) → Cells xs → Q (.ref p) G'
theorem use_begin {s : Addr} {row : D} {G : DH} {Q : DQ} {X : DX} (h : HasSt s G ∧ GoodTh row) (k : ∀ p xs G', StF s G G' → G p = none → G' p = some (.lst xs) → Cells xs → Q (.ref p) G') : Ir sp_l_begin [.ref s, row] G Q X := Ir_i ⟨s, row, rfl, h, k⟩
theorem cut_to (xs : List D) (k : Nat) : cutD xs none (some (k : Int)) = xs.take k := by
  have e : HT.sIx xs.length xs.length (some (k : Int)) = min k xs.length := HT.sIx_nat _ _ _
  have e0 : HT.sIx xs.length 0 none = 0 := rfl
  unfold cutD
  rw [e, e0, List.drop_zero, Nat.sub_zero]
  rw [List.take_eq_take_iff]
  omega
theorem cut_from (xs : List D) (k : Nat) : cutD xs (some (k : Int)) none = xs.drop k := by
  have e : HT.sIx xs.length 0 (some (k : Int)) = min k xs.length := HT.sIx_nat _ _ _
  have e0 : HT.sIx xs.length xs.length none = xs.length := rfl
  unfold cutD
  rw [e, e0]
  rw [List.take_of_length_le (by rw [List.length_drop]; omega)]
  by_cases h : k ≤ xs.length
  · rw [Nat.min_eq_left h]
  · rw [Nat.min_eq_right (by omega), List.drop_of_length_le (Nat.le_refl _), List.drop_of_length_le (by omega)]
theorem cells_cut {xs : List D} {n : Int} (h0 : 16 ≤ n) (h1 : n ≤ 40) (h2 : n ≤ xs.length) (hx : ∀ x ∈ xs, GoodTh x) : Cells (cutD xs none (some n)) ∧ ((cutD xs none (some n)).length : Int) = n := by
  obtain ⟨k, rfl⟩ : ∃ k : Nat, n = (k : Int) := ⟨n.toNat, by omega⟩
  rw [cut_to]
  have e : (xs.take k).length = k := by rw [List.length_take]; omega
  exact ⟨⟨by omega, by omega, fun x hm => hx x (List.mem_of_mem_take hm)⟩, by omega⟩
theorem cells_put {xs : List D} {n a : Int} {row : D} (h : Cells xs ∧ (xs.length : Int) = n) (h0 : 0 ≤ a) (h1 : a < n) (hr : GoodTh row) : Cells (cutD xs none (some a) ++ [row] ++ cutD xs (some (a + 1)) none) := by
  obtain ⟨⟨c1, c2, c3⟩, hn⟩ := h
  obtain ⟨k, rfl⟩ : ∃ k : Nat, a = (k : Int) := ⟨a.toNat, by omega⟩
  rw [cut_to, show ((k : Int) + 1) = ((k + 1 : Nat) : Int) by omega, cut_from]
  have e : (xs.take k ++ [row] ++ xs.drop (k + 1)).length = xs.length := by
    simp only [List.length_append, List.length_take, List.length_drop, List.length_cons, List.length_nil]; omega
  refine ⟨by omega, by omega, fun x hm => ?_⟩
  simp only [List.mem_append, List.mem_cons, List.not_mem_nil, or_false] at hm
  rcases hm with (hm | rfl) | hm
  · exact c3 x (List.mem_of_mem_take hm)
  · exact hr
  · exact c3 x (List.mem_of_mem_drop hm)
theorem cut_le {A : List D} {lo hi : Option Int} : (cutD A lo hi).length ≤ A.length := by
  unfold cutD
  rw [List.length_take, List.length_drop]
  omega
theorem cut_s1 {A : List D} {lo hi : Option Int} {row : D} (h : A.length ≤ 40) : (cutD A lo hi).length + [row].length ≤ 16777216 := by
  have := cut_le (A := A) (lo := lo) (hi := hi)
  show _ + 1 ≤ _
  omega
theorem cut_s2 {A : List D} {lo hi lo' hi' : Option Int} {row : D} (h : A.length ≤ 40) : (cutD A lo hi ++ [row]).length + (cutD A lo' hi').length ≤ 16777216 := by
  have := cut_le (A := A) (lo := lo) (hi := hi)
  have := cut_le (A := A) (lo := lo') (hi := hi')
  rw [List.length_append]
  show _ + 1 + _ ≤ _
  omega
def t_l_begin : TSD := (sSeq (sAsg (dBin rAddD (dC (.int 16)) (dCall sp_l_drawn (dCons (dVar 0) (dCons (dC (.int 25)) dNil)))) (gSlot 2)) (sSeq (sAsg (dCall sp_l_drawn (dCons (dVar 0) (dCons (dC (.int 9)) dNil))) (gSlot 3)) (sSeq (sAsg (dBin rIxD (dLst (dCons (dBin rSubD (dVar 2) (dVar 3)) (dCons (dCall sp_l_drawn (dCons (dVar 0) (dCons (dC (.int 12)) dNil))) (dCons (dC (.int 1)) (dCons (dC (.int 0)) (dCons (dC (.int 12)) dNil)))))) (dCall sp_l_drawn (dCons (dVar 0) (dCons (dC (.int 5)) dNil)))) (gSlot 4)) (sSeq (sAsg (dCall sp_l_drawn (dCons (dVar 0) (dCons (dB rMax (dCons (dC (.int 1)) (dCons (dVar 4) dNil))) dNil))) (gSlot 5)) (sSeq (sAsg (dLst (dCons (dTup (dCons (dC (.str ("put" : Str))) (dCons (dC (.int 3)) (dCons (dBin rIxD (dLst (dCons (dC (.int 0)) (dCons (dC (.int 1)) (dCons (dC (.int 2)) (dCons (dC (.int 3)) (dCons (dC (.int 999)) dNil)))))) (dCall sp_l_drawn (dCons (dVar 0) (dCons (dC (.int 5)) dNil)))) dNil)))) (dCons (dTup (dCons (dC (.str ("alarm" : Str))) (dCons (dC (.int 3)) dNil))) (dCons (dTup (dCons (dC (.str ("put" : Str))) (dCons (dC (.int 0)) (dCons (dVar 3) dNil)))) (dCons (dTup (dCons (dC (.str ("put" : Str))) (dCons (dC (.int 1)) (dCons (dVar 4) dNil)))) dNil))))) (gSlot 6)) (sSeq (sAsg (dBin rAddD (dVar 6) (dLst (dCons (dTup (dCons (dC (.str ("put" : Str))) (dCons (dC (.int 2)) (dCons (dVar 5) dNil)))) (dCons (dBin rIxD (dLst (dCons (dTup (dCons (dC (.str ("enter" : Str))) (dCons (dC (.int 0)) dNil))) (dCons (dTup (dCons (dC (.str ("put" : Str))) (dCons (dC (.int 3)) (dCons (dCall sp_l_number (dCons (dVar 0) dNil)) dNil)))) dNil))) (dBin rFdivD (dCall sp_l_drawn (dCons (dVar 0) (dCons (dC (.int 3)) dNil))) (dC (.int 2)))) dNil)))) (gSlot 6)) (sSeq (sAsg (dSl (dBin rAddD (dVar 6) (dComp (iRngD1 (dVar 2)) (.one 8) dYes (dCall sp_l_row (dCons (dVar 0) (dCons (dC (.int 0)) dNil))) [8])) dNoPart (dPart (dVar 2))) (gSlot 7)) (sSeq (sAsg (dB rMin (dCons (dBin rSubD (dVar 2) (dC (.int 1))) (dCons (dBin rIxD (dLst (dCons (dC (.int 6)) (dCons (dBin rAddD (dVar 3) (dVar 5)) dNil))) (dB rIntB (dCons (dBin rEqD (dBin rIxD (dVar 6) (dC (.int 5))) (dTup (dCons (dC (.str ("enter" : Str))) (dCons (dC (.int 0)) dNil)))) dNil))) dNil))) (gSlot 8)) (sRet (dIfE (dT (dBin rGtD (dVar 8) (dC (.int 5)))) (dBin rAddD (dBin rAddD (dSl (dVar 7) dNoPart (dPart (dVar 8))) (dLst (dCons (dVar 1) dNil))) (dSl (dVar 7) (dPart (dBin rAddD (dVar 8) (dC (.int 1)))) dNoPart)) (dVar 7)))))))))))
local macro_rules | `(tactic| exists "run") => `(tactic| ((try (conv => whnf)); repeat' ((first | refine onSome_i rfl ?_ | ((with_reducible apply onSome_i); focus exists "hp") | ((with_reducible apply onSome_i); focus exists "fl") | with_reducible refine onSome_i atI0 ?_ | with_reducible refine onSome_i atI1 ?_ | with_reducible refine onSome_i atI2 ?_ | with_reducible refine onSome_i atI3 ?_ | refine ifB_t rfl ?_ | refine ifB_f rfl ?_ | refine ifB_not ?_ | refine ifB_if ?_ | refine ifB_if1 ?_ | refine rEq_iq ?_ | refine rEq_sq ?_ | refine rEq_bq ?_ | refine rNe_iq ?_ | refine rNe_sq ?_ | refine rNe_bq ?_ | (apply rEq_tt; (focus exact rfl); (focus exact rfl)) | (apply rNe_tt; (focus exact rfl); (focus exact rfl)) | (apply rEq_ti; focus exact rfl) | (apply rNe_ti; focus exact rfl) | ((with_reducible apply onSome_i); focus ((first | apply hp_len | apply hp_lstOf | apply hp_mutOf | apply hp_seqOf | apply hp_recv | apply hp_lst | apply hp_ins | apply hp_dct | apply hp_dctR); exists "at")) | ((with_reducible apply onSome_i); focus ((apply hp_fdcR); exists "at")) | ((with_reducible apply And.intro); focus exists "sd") | refine ref_i ?_ | refine eq_i ?_ | exists "new" | ((with_reducible apply use_drawn); (focus exists "sds"); intros) | ((with_reducible apply use_number); (focus exists "sds"); intros) | ((with_reducible apply use_row); (focus exists "sds"); intros) | ((with_reducible apply use_any); (focus exists "sds"); intros) | ((with_reducible apply use_ruler); (focus exists "sds"); intros) | ((with_reducible apply use_cells); (focus exists "sds"); intros) | ((with_reducible apply use_kind); (focus exists "sds"); intros) | ((with_reducible apply use_ear); (focus exists "sds"); intros) | fail) <;> (try (conv => whnf)))))
local macro_rules | `(tactic| exists "all") => `(tactic| ((try (conv => whnf)); repeat' ((first | refine onSome_i rfl ?_ | ((with_reducible apply onSome_i); focus exists "hp") | ((with_reducible apply onSome_i); focus exists "fl") | with_reducible refine onSome_i atI0 ?_ | with_reducible refine onSome_i atI1 ?_ | with_reducible refine onSome_i atI2 ?_ | with_reducible refine onSome_i atI3 ?_ | refine ifB_t rfl ?_ | refine ifB_f rfl ?_ | refine ifB_not ?_ | refine ifB_if ?_ | refine ifB_if1 ?_ | refine rEq_iq ?_ | refine rEq_sq ?_ | refine rEq_bq ?_ | refine rNe_iq ?_ | refine rNe_sq ?_ | refine rNe_bq ?_ | (apply rEq_tt; (focus exact rfl); (focus exact rfl)) | (apply rNe_tt; (focus exact rfl); (focus exact rfl)) | (apply rEq_ti; focus exact rfl) | (apply rNe_ti; focus exact rfl) | ((with_reducible apply onSome_i); focus ((first | apply hp_len | apply hp_lstOf | apply hp_mutOf | apply hp_seqOf | apply hp_recv | apply hp_lst | apply hp_ins | apply hp_dct | apply hp_dctR); exists "at")) | ((with_reducible apply onSome_i); focus ((apply hp_fdcR); exists "at")) | ((with_reducible apply And.intro); focus exists "sd") | refine ref_i ?_ | refine eq_i ?_ | exists "new" | ((with_reducible apply use_drawn); (focus exists "sds"); intros) | ((with_reducible apply use_number); (focus exists "sds"); intros) | ((with_reducible apply use_row); (focus exists "sds"); intros) | ((with_reducible apply use_any); (focus exists "sds"); intros) | ((with_reducible apply use_ruler); (focus exists "sds"); intros) | ((with_reducible apply use_cells); (focus exists "sds"); intros) | ((with_reducible apply use_kind); (focus exists "sds"); intros) | ((with_reducible apply use_ear); (focus exists "sds"); intros) | exact All.nil | refine All.cons ?_ ?_ | (refine ix_all ?_ ?_; focus exists "sd") | refine ifB_d (fun _ => ?_) fun _ => ?_ | refine ifB_nd (fun _ => ?_) fun _ => ?_ | fail) <;> (try (conv => whnf)))))

theorem walk_l_begin : ∀ ds G Q X, sp_l_begin ds G Q X → t_l_begin (ends Q X) (startD 9 ds) G := by
  intro ds G Q X hsp
  obtain ⟨s, row, rfl, ⟨hs, hrow⟩, hQ⟩ := hsp
  exists "run"
  rename_i r1 G1 h1 f1 r2 G2 h2 f2 r3 G3 h3 f3 pa hpa r4 G4 h4 f4
  refine ix_P (fun d => ∃ n : Nat, n ≤ 40 ∧ d = .int (n : Int)) (by exists "sd") (allM_cons ⟨16 + r1 - r2, by omega, congrArg D.int (by omega : (16 : Int) + r1 - r2 = ((16 + r1 - r2 : Nat) : Int))⟩ (allM_cons ⟨r3, by omega, rfl⟩ (allM_cons ⟨1, by decide, rfl⟩ (allM_cons ⟨0, by decide, rfl⟩ (allM_cons ⟨12, by decide, rfl⟩ allM_nil))))) fun d ⟨size, hsize, ed⟩ => ?_
  subst ed
  exists "run"
  rename_i r5 G5 h5 f5 pb hpb r6 G6 h6 f6
  have h5' : r5 ≤ 40 := by split at h5 <;> omega
  refine ix_P isNatD (by exists "sd") (allM_cons ⟨0, by decide, rfl⟩ (allM_cons ⟨1, by decide, rfl⟩ (allM_cons ⟨2, by decide, rfl⟩ (allM_cons ⟨3, by decide, rfl⟩ (allM_cons ⟨999, by decide, rfl⟩ allM_nil))))) fun d ⟨v, hv, ed⟩ => ?_
  subst ed
  exists "run"
  rename_i pc hpc r7 G7 h7 f7 pd hpd r8 G8 h8 f8
  rw [show ((r8 : Int) / 2) = ((r8 / 2 : Nat) : Int) from rfl]
  refine ix_P (fun d => ∃ ps, d = .tup ps ∧ GoodTh (.tup ps) ∧ ∃ P, ∀ G, allPy (toPy G 5) ps = some P) (by show r8 / 2 < 2; omega) (allM_cons ⟨_, rfl, .row (.enter 0 (by decide)), _, fun _ => rfl⟩ (allM_cons ⟨_, rfl, .row (.put 3 r7 (by decide) (by omega)), _, fun _ => rfl⟩ allM_nil)) fun d ⟨ps, ed, g5, P5, e5⟩ => ?_
  subst ed
  exists "run"
  rename_i pe hpe pf npf hpf pg npg1 npg2 hpg
  refine dComp_st (by exists "nn") (s := s) (by exists "hs") (fun _ _ => trivial) GoodTh (by rw [rangeD_length]; omega) (fun d hd G' f' => ?_) (fun G9 xs f9 e9 hl hx => ?_)
  · obtain ⟨i, _, rfl⟩ := rangeD_mem hd
    exists "go"
    intro k hk
    exists "all"
    exact hk _ _ (.row ‹_›) (by exists "stf")
  · rw [rangeD_length] at hl
    exists "run"
    obtain ⟨A, eA⟩ : ∃ A, A = cutD ([.tup [.str ("put" : Str), .int 3, .int (v : Int)], .tup [.str ("alarm" : Str), .int 3], .tup [.str ("put" : Str), .int 0, .int (r2 : Int)], .tup [.str ("put" : Str), .int 1, .int (size : Int)]] ++ [.tup [.str ("put" : Str), .int 2, .int (r5 : Int)], .tup ps] ++ xs) none (some (16 + (r1 : Int))) := ⟨_, rfl⟩
    have hA : Cells A ∧ (A.length : Int) = 16 + (r1 : Int) := by
      rw [eA]
      refine cells_cut (by omega) (by omega) (by simp only [List.length_append, List.length_cons, List.length_nil]; omega) ?_
      exists "gts"
    rw [← eA]
    clear eA
    have hA40 := hA.1.2.1
    refine rEq_tt (e5 _) rfl ?_
    generalize PyData.eqv _ _ = bb
    cases bb
    all_goals exists "run"
    all_goals
      refine ifB_d (fun hat => ?_) fun hat => ?_
      · exists "run"
        refine ⟨cut_s1 hA40, ?_⟩
        exists "run"
        refine ⟨cut_s2 hA40, ?_⟩
        exists "run"
        refine hQ _ _ _ (by exists "stf") (by exists "none") up_same (cells_put hA ?_ ?_ hrow)
        all_goals first
          | omega
          | (trace_state; fail)
      · exists "run"
        exact hQ _ _ _ (by exists "stf") (by exists "none") (by exists "at") hA.1


open MSt
def sp_law : DSp := fun ds G Q _ => ∃ ns : List Int, ds = [.rl (ns.map D.int)] ∧ ns.length ≤ 63 ∧ ∀ G', Q (.bl true) G'
theorem law_pre (ns : List Int) (h : ns.length ≤ 63) : sp_law [.rl (ns.map D.int)] (fun _ => none) (fun d _ => d = .bl true) (fun _ _ _ => False) := ⟨ns, rfl, h, fun _ => rfl⟩
def t_law : TSD := (sSeq (sAsg (dCall sp_l_start (dCons (dVar 0) dNil)) (gSlot 1)) (sSeq (sAsg (dLst (dCons (dC (.str ("put" : Str))) (dCons (dC (.str ("add" : Str))) (dCons (dC (.str ("less" : Str))) (dCons (dC (.str ("load" : Str))) (dCons (dC (.str ("store" : Str))) (dCons (dC (.str ("zero" : Str))) (dCons (dC (.str ("go" : Str))) (dCons (dC (.str ("call" : Str))) (dCons (dC (.str ("say" : Str))) (dCons (dC (.str ("hear" : Str))) (dCons (dC (.str ("which" : Str))) (dCons (dC (.str ("room" : Str))) (dCons (dC (.str ("enter" : Str))) dNil)))))))))))))) (gSlot 2)) (sSeq (sForS (iLstD (dBin rAddD (dVar 2) (dLst (dCons (dC (.str ("alarm" : Str))) (dCons (dC (.str ("stop" : Str))) (dCons (dC (.str ("" : Str))) (dCons (dC (.str ("load" : Str))) (dCons (dC (.str ("store" : Str))) dNil)))))))) (gSlot 3) (sSeq (sAsg (dCall sp_l_row (dCons (dVar 1) (dCons (dC (.int 0)) dNil))) (gSlot 4)) (sSeq (sForS (iRngD1 (dC (.int 60))) (gSlot 5) (sIf (dAndT (dT (dBin rNeD (dBin rIxD (dVar 4) (dC (.int 0))) (dVar 3))) (dT (dBin rNeD (dVar 3) (dC (.str ("" : Str)))))) (sAsg (dCall sp_l_row (dCons (dVar 1) (dCons (dC (.int 0)) dNil))) (gSlot 4)) sNx)) (sSeq (sAsg (dCall sp_l_begin (dCons (dVar 1) (dCons (dIfE (dT (dBin rEqD (dVar 3) (dC (.str ("" : Str))))) (dC (.int 7)) (dVar 4)) dNil))) (gSlot 6)) (sSeq (sPar 8 9 (dCons (dCall sp_l_kind (dCons (dVar 1) dNil)) (dCons (dCall sp_l_ear (dCons (dVar 1) dNil)) dNil))) (sSeq (sPar 10 11 (dCons (dMake "Machine" sp_Machine_init (dCons (dVar 8) (dCons (dVar 6) (dCons (dVar 9) dNil)))) (dCons (dCall sp_l_machine (dCons (dVar 6) (dCons (dVar 9) dNil))) dNil))) (sForS (iRngD1 (dC (.int 9))) (gSlot 7) (sSeq (sIf (dNotT (dT (dCall (sp_l_same 4) (dCons (dMeth tab_go (dVar 10) (dCons (dC (.int 1)) dNil)) (dCons (dCall sp_l_goes (dCons (dVar 11) (dCons (dVar 8) (dCons (dC .non) (dCons (dLst dNil) (dCons (dC (.int 1)) dNil)))))) dNil))))) (sRet (dC (.bl false))) sNx) (sIf (dNotT (dT (dCall (sp_l_same 4) (dCons (dMeth tab_carried (dVar 10) dNil) (dCons (dCall sp_l_bundle (dCons (dVar 11) dNil)) dNil))))) (sRet (dC (.bl false))) sNx))))))))) (sRet (dC (.bl true))))))
local macro_rules | `(tactic| exists "run") => `(tactic| ((try (conv => whnf)); repeat' ((first | refine onSome_i rfl ?_ | ((with_reducible apply onSome_i); focus exists "hp") | ((with_reducible apply onSome_i); focus exists "fl") | with_reducible refine onSome_i atI0 ?_ | with_reducible refine onSome_i atI1 ?_ | with_reducible refine onSome_i atI2 ?_ | with_reducible refine onSome_i atI3 ?_ | refine ifB_t rfl ?_ | refine ifB_f rfl ?_ | refine ifB_not ?_ | refine ifB_if ?_ | refine ifB_if1 ?_ | refine rEq_iq ?_ | refine rEq_sq ?_ | refine rEq_bq ?_ | refine rNe_iq ?_ | refine rNe_sq ?_ | refine rNe_bq ?_ | (apply rEq_tt; (focus exact rfl); (focus exact rfl)) | (apply rNe_tt; (focus exact rfl); (focus exact rfl)) | (apply rEq_ti; focus exact rfl) | (apply rNe_ti; focus exact rfl) | ((with_reducible apply onSome_i); focus ((first | apply hp_len | apply hp_lstOf | apply hp_mutOf | apply hp_seqOf | apply hp_recv | apply hp_lst | apply hp_ins | apply hp_dct | apply hp_dctR); exists "at")) | ((with_reducible apply onSome_i); focus ((apply hp_fdcR); exists "at")) | ((with_reducible apply And.intro); focus exists "sd") | refine ref_i ?_ | refine eq_i ?_ | exists "new" | ((with_reducible apply use_drawn); (focus exists "sds"); intros) | ((with_reducible apply use_number); (focus exists "sds"); intros) | ((with_reducible apply use_row); (focus exists "sds"); intros) | ((with_reducible apply use_any); (focus exists "sds"); intros) | ((with_reducible apply use_ruler); (focus exists "sds"); intros) | ((with_reducible apply use_cells); (focus exists "sds"); intros) | ((with_reducible apply use_kind); (focus exists "sds"); intros) | ((with_reducible apply use_ear); (focus exists "sds"); intros) | ((with_reducible apply use_begin); (focus exists "sds"); intros) | fail) <;> (try (conv => whnf)))))
local macro_rules | `(tactic| exists "all") => `(tactic| ((try (conv => whnf)); repeat' ((first | refine onSome_i rfl ?_ | ((with_reducible apply onSome_i); focus exists "hp") | ((with_reducible apply onSome_i); focus exists "fl") | with_reducible refine onSome_i atI0 ?_ | with_reducible refine onSome_i atI1 ?_ | with_reducible refine onSome_i atI2 ?_ | with_reducible refine onSome_i atI3 ?_ | refine ifB_t rfl ?_ | refine ifB_f rfl ?_ | refine ifB_not ?_ | refine ifB_if ?_ | refine ifB_if1 ?_ | refine rEq_iq ?_ | refine rEq_sq ?_ | refine rEq_bq ?_ | refine rNe_iq ?_ | refine rNe_sq ?_ | refine rNe_bq ?_ | (apply rEq_tt; (focus exact rfl); (focus exact rfl)) | (apply rNe_tt; (focus exact rfl); (focus exact rfl)) | (apply rEq_ti; focus exact rfl) | (apply rNe_ti; focus exact rfl) | ((with_reducible apply onSome_i); focus ((first | apply hp_len | apply hp_lstOf | apply hp_mutOf | apply hp_seqOf | apply hp_recv | apply hp_lst | apply hp_ins | apply hp_dct | apply hp_dctR); exists "at")) | ((with_reducible apply onSome_i); focus ((apply hp_fdcR); exists "at")) | ((with_reducible apply And.intro); focus exists "sd") | refine ref_i ?_ | refine eq_i ?_ | exists "new" | ((with_reducible apply use_drawn); (focus exists "sds"); intros) | ((with_reducible apply use_number); (focus exists "sds"); intros) | ((with_reducible apply use_row); (focus exists "sds"); intros) | ((with_reducible apply use_any); (focus exists "sds"); intros) | ((with_reducible apply use_ruler); (focus exists "sds"); intros) | ((with_reducible apply use_cells); (focus exists "sds"); intros) | ((with_reducible apply use_kind); (focus exists "sds"); intros) | ((with_reducible apply use_ear); (focus exists "sds"); intros) | ((with_reducible apply use_begin); (focus exists "sds"); intros) | exact All.nil | refine All.cons ?_ ?_ | (refine ix_all ?_ ?_; focus exists "sd") | refine ifB_d (fun _ => ?_) fun _ => ?_ | refine ifB_nd (fun _ => ?_) fun _ => ?_ | fail) <;> (try (conv => whnf)))))

theorem walk_law : ∀ ds G Q X, sp_law ds G Q X → t_law (ends Q X) (startD 12 ds) G := by
  intro ds G Q X hsp
  obtain ⟨ns, rfl, hl, hQ⟩ := hsp
  exists "run"
  refine Ir_i ⟨ns, rfl, hl, fun s o hs0 ho => ?_⟩
  have hs : HasSt s (up G s o) := .put ho
  generalize up G s o = G0 at hs
  exists "run"
  rename_i pw hpw py npy hpy px npx1 npx2 hpx
  have nsx : s ≠ px := HasSt.ne hpx hs
  refine FR_lst (fun d => ∃ w, d = .str w) (fun _ τ G' => HasSt s G' ∧ ∃ z3 z4 z5 z6 z7 z8 z9 z10 z11, τ = [some (.rl (ns.map D.int)), some (.ref s), some (.ref pw), z3, z4, z5, z6, z7, z8, z9, z10, z11]) ?_ up_same ⟨(by exists "hs"), none, none, none, none, none, none, none, none, none, rfl⟩ ?_ ?_
  · intro d hd
    simp only [List.mem_append, List.mem_cons, List.not_mem_nil, or_false] at hd
    rcases hd with (rfl | rfl | rfl | rfl | rfl | rfl | rfl | rfl | rfl | rfl | rfl | rfl | rfl) | (rfl | rfl | rfl | rfl | rfl) <;> exact ⟨_, rfl⟩
  · rintro XS τ G' gx ⟨-, z3, z4, z5, z6, z7, z8, z9, z10, z11, rfl⟩
    exists "run"
    exact hQ _
  clear hs hpw hpy hpx npy npx1 npx2 hs0 ho
  rintro XS d n K0 ⟨w, rfl⟩ ih0 τ G2 gx ⟨gs, z3, z4, z5, z6, z7, z8, z9, z10, z11, rfl⟩
  exists "run"
  rename_i row0 G3 hrow0 f3
  refine FR_rng (fun _ τ G' => ∃ row z5, GoodRow row ∧ StF s G3 G' ∧ τ = [some (.rl (ns.map D.int)), some (.ref s), some (.ref pw), some (.str w), some row, z5, z6, z7, z8, z9, z10, z11]) ⟨row0, z5, hrow0, .refl f3.has, rfl⟩ ?_ ?_
  rotate_left
  · rintro i K1 hi ih τ G' ⟨row, z5, hr, f4, rfl⟩
    obtain ⟨w1, ps, rfl⟩ := goodRow_form hr
    have hs4 := f4.has
    exists "run"
    refine ifB_d (fun _ => ?_) fun _ => ?_
    · exists "run"
      exact ih _ _ ⟨_, _, hr, f4, rfl⟩
    · exists "run"
      refine ifB_d (fun _ => ?_) fun _ => ?_
      · exists "run"
        exact ih _ _ ⟨_, _, hr, f4, rfl⟩
      · exists "run"
        exact ih _ _ ⟨_, _, ‹_›, f4.trans ‹_›, rfl⟩
  rintro τ G4 ⟨row, z5, hr, f4, rfl⟩
  have gs4 : HasSt s G4 := f4.has
  have gx4 : G4 px = some (.lst XS) := by exists "at"
  have gt7 : GoodTh (.int 7) := .num 7 (by decide)
  have gtr : GoodTh row := .row hr
  clear f3 f4 gs gx
  exists "run"
  refine ifB_d (fun _ => ?_) fun _ => ?_
  all_goals
    exists "run"
    rename_i pc cells G5 f5 hpc hpc5 hcells ks G6 h7 f6 pe ear G7 f7 hpe hpe7 hear a ha
    have hpc7 : G7 pc = some (.lst cells) := by exists "at"
    have gx7 : G7 px = some (.lst XS) := by exists "at"
    have gs7 : HasSt s G7 := f7.has
    have hc16 := hcells.1; have hc40 := hcells.2.1; have he20 := hear.1
    have o1 : AllIn G7 [s, px] := fun x hx => by
      simp only [List.mem_cons, List.not_mem_nil, or_false] at hx
      rcases hx with rfl | rfl
      · exact gs7.all _ List.mem_cons_self
      · exact ⟨_, gx7⟩
    refine make_machine ha h7 hpc7 hcells hpe7 hear fun A G8 new1 ma1 s8 => ?_
    have d1 : ∀ b ∈ [s, px], b ∉ a :: A.fp := fun b hb z => by
      rcases List.mem_cons.mp z with rfl | z
      · exact o1.nin ha hb
      · exact new_nin new1 o1 _ z hb
    have o1 := o1.sub s8
    have hpc8 := s8 _ _ hpc7; have hpe8 := s8 _ _ hpe7; have gx8 := s8 _ _ gx7; have gs8 := gs7.sub s8
    exists "run"
    refine Ir_i ⟨pc, pe, cells, ear, rfl, ⟨hpc8, hpe8, by omega, by omega⟩, fun L G9 newL lm s9 => ?_⟩
    have d2 : ∀ b ∈ [s, px], b ∉ L.fp := fun b hb z => o1.nin (newL b z) hb
    have d3 : ∀ b ∈ L.fp, b ∉ a :: A.fp := fun b hb => ma1.all.nin (newL b hb)
    have ma1 := ma1.sub s9
    have gx9 := s9 _ _ gx8; have gs9 := gs8.sub s9
    have e1 : s ∉ a :: A.fp := d1 s List.mem_cons_self
    have e2 : s ∉ L.fp := d2 s List.mem_cons_self
    have x1 : px ∉ a :: A.fp := d1 px (by simp)
    have x2 : px ∉ L.fp := d2 px (by simp)
    clear gx8 gs8 gx7 gs7 f5 f6 f7 hpc hpc5 hpc7 hpc8 hpe hpe7 hpe8 gx4 gs4 d1 d2 o1 newL new1 s8 s9 ha
    obtain ⟨k1, k2⟩ := start_ok hcells hear
    exists "run"
    refine FR_rng (fun i τ G' => ∃ (L' : LA) (m : MSt) (z7 : Option D), HasSt s G' ∧ G' px = some (.lst XS) ∧ L'.d = L.d ∧ MaAt G' a A ks m ∧ LmAt G' L' m ∧ m.Ok ∧ m.place ≤ 999 ∧ (m.words.length : Int) ≤ m.many ∧ m.many ≤ (i : Int) ∧ s ∉ L'.fp ∧ px ∉ L'.fp ∧ (∀ b ∈ L'.fp, b ∉ a :: A.fp) ∧ τ = [some (.rl (ns.map D.int)), some (.ref s), some (.ref pw), some (.str w), some row, z5, some (.ref pc), z7, some (.tup (ks.map .bl)), some (.ref pe), some (.ref a), some (.ref L.d)]) ⟨L, start cells ear, _, gs9, gx9, rfl, ma1, lm, k1, k2, Int.le_refl _, Int.le_refl _, e2, x2, d3, rfl⟩ ?_ ?_
    · rintro τ G' ⟨L', m, z7, hs', gx', -, -, -, -, -, -, -, -, -, -, rfl⟩
      exists "run"
      exact ih0 _ _ gx' ⟨hs', _, _, _, _, _, _, _, _, _, rfl⟩
    rintro i K1 hi ih τ G1 ⟨L1, m, z7, hs1, gx1, el, m1, l1, ok, p9, wl, mn, n2, x2, n3, rfl⟩
    clear ma1 lm gs9 gx9 e2 d3 k1 k2
    have ma1 := m1.ma
    exists "run"
    refine Ir_i ⟨a, A, ks, m, 1, rfl, ⟨m1, by decide, ok, p9, h7, wl, by omega⟩, fun G5 m2 f5 => ?_⟩
    have n4 : ∀ b ∈ A.fp, b ∉ L1.fp := fun b hb z => n3 b z (List.mem_cons_of_mem _ hb)
    have l1 := l1.frm f5 n4
    have hs5 := hs1.frm f5 fun z => e1 (List.mem_cons_of_mem _ z)
    have gx5 : G5 px = some (.lst XS) := f5 _ (fun z => x1 (List.mem_cons_of_mem _ z)) _ gx1
    exists "run"
    rename_i pm hpm
    have sm : Sub G5 (up G5 pm (.lst [])) := .new hpm
    have l1 := l1.sub sm; have m2 := m2.sub sm; have hs6 := hs5.sub sm; have gx6 := sm _ _ gx5
    refine Ir_i ⟨L1, m, ks, .ref pm, 1, by rw [el]; rfl, ⟨l1, by decide, ok, p9, h7, wl, by omega⟩, fun L2 G6 el2 l2 f6 nr => ?_⟩
    have n5 := near_nin nr n3 m2.all
    have n6 : s ∉ L2.fp := fun z => near_nin nr (xs := [s]) (fun b hb hc => n2 (by rw [List.mem_singleton.mp hc] at hb; exact hb)) hs6.all _ z List.mem_cons_self
    have n7 : px ∉ L2.fp := fun z => near_nin nr (xs := [px]) (fun b hb hc => x2 (by rw [List.mem_singleton.mp hc] at hb; exact hb)) (fun x hx => by rw [List.mem_singleton.mp hx]; exact ⟨_, gx6⟩) _ z List.mem_cons_self
    have m2 := m2.frmS f6 l1.supS n3
    have hs6 := hs6.frm f6 n2
    have gx6 := f6 _ x2 _ gx6
    have hle := go_le ks 1 m
    obtain ⟨hm1, hm2⟩ := go_many ks 1 m wl
    obtain ⟨ok', p9'⟩ := go_ok (ks := ks) (n := 1) ok p9
    generalize (MSt.go ks 1 m).1 = m' at m2 l2 hm1 hm2 ok' p9'
    have hw16' : m'.words.length < 16000000 := by omega
    clear sm l1 m1 ma1 hpm
    exists "run"
    refine use_same (.int _) fun G7 s7 => ?_
    have m2 := m2.sub s7; have l2 := l2.sub s7; have hs7 := hs6.sub s7; have gx7 := s7 _ _ gx6
    have ma2 := m2.ma
    have db := data_bundle ok' hw16'
    exists "run"
    refine Ir_i ⟨a, A, ks, m', rfl, ⟨m2, ok', hw16'⟩, fun G8 s8 => ?_⟩
    have m2 := m2.sub s8; have l2 := l2.sub s8; have hs8 := hs7.sub s8; have gx8 := s8 _ _ gx7
    exists "run"
    refine Ir_i ⟨L2, m', by rw [el2, el], ⟨l2, ok', hw16'⟩, fun G9 s9 => ?_⟩
    have m2 := m2.sub s9; have l2 := l2.sub s9; have hs9 := hs8.sub s9; have gx9 := s9 _ _ gx8
    exists "run"
    refine use_same (EqD.self db) fun G10 s10 => ?_
    have m2 := m2.sub s10; have l2 := l2.sub s10; have hs10 := hs9.sub s10; have gx10 := s10 _ _ gx9
    exists "run"
    exact ih _ _ ⟨L2, m', _, hs10, gx10, el2.trans el, m2, l2, ok', p9', hm2, by omega, n6, n7, n5, rfl⟩


end L3
namespace L3
open PySem PySem.Spec PyProof.Rows L2
abbrev FnP (K : PySem.W.Frag) (x qual : Str) (st : Stmt) (f : Addr) (fd : FuncData) : Prop := FunD K x qual (defArgs st) (defBody st) (defScope st) [] [] f fd
theorem sc_l_start : FnScope ["_law_script", "_law_mixed", "_law_cell"] ["_law_script"] (defScope s_l_start) := ⟨rfl, rfl, rfl, by decide +kernel, rfl, by decide +kernel, by decide +kernel⟩
theorem der_l_start {P : Program} {w : World} {K : PySem.W.Frag} {mg : Str → Option Value} {base : Heap} {k n : Nat} {f : Addr} {cdv : Value} {A : Around} {outer : List Env} {s : Shared} {H : Hp} {E : XK}
  (hr : Room (k + 1) (A.deeper (envOfC "_law_start" (defScope s_l_start) s.heap.objs.size f cdv))) : MSs (cxOf (L2.CX P w) P w K mg base ["_law_script", "_law_mixed", "_law_cell"] "_law_start" (defScope s_l_start) f cdv A outer s H E) (fun cls d _ H => E cls d H) (defBody s_l_start) t_l_start :=
  (ms_cons (ms_asg m_int (mg_name (j := 1) sc_l_start.nd)) (ms_cons (ms_for (passes_of rfl) rfl (mi_lst (m_var 0)) (mg_name (j := 2) sc_l_start.nd) (ms_one (ms_asg (m_op mo_mod (m_op mo_add (m_op mo_add (m_op mo_mul (m_var 1) m_int) (m_var 2)) m_int) m_int) (mg_name (j := 1) sc_l_start.nd)))) (ms_one (ms_ret (m_lst (ma_cons (m_var 0) (ma_cons m_int (ma_cons (m_var 1) (ma_cons m_int ma_nil)))))))))
theorem len_o_l_start : ∀ ds G Q X, sp_l_start ds G Q X → ds.length = 1 := by
  intro ds G Q X h
  obtain ⟨_, h⟩ := h
  repeat (first | (obtain ⟨rfl, _⟩ := h; rfl; done) | obtain ⟨_, h⟩ := h)
theorem ok_l_start {P : Program} {w : World} {K : PySem.W.Frag} {mg : Str → Option Value} {base : Heap} {k n : Nat} {f : Addr} {fd : FuncData} (F : FnP K "_law_start" "_law_start" s_l_start f fd) (g : mg ("_law_start" : Str) = some (.ref f))
  : FnD P w K mg base (k + 2) ("_law_start" : Str) sp_l_start :=
  ⟨f, fd, ["_law_script"], g, F.kp, FunD.bindsN F fun _ _ _ _ _ _ us hl => match us, hl with | [_], _ => rfl, L3.fn_ok (He5.fun_of F) sc_l_start t_l_start (len_o_l_start) walk_l_start fun cdv A outer s H E hr => der_l_start (n := 0)  hr⟩
theorem sc_l_drawn : FnScope ["_law_state", "_law_many", "_law_found", "_law_cell"] ["_law_state", "_law_many"] (defScope s_l_drawn) := ⟨rfl, rfl, rfl, by decide +kernel, rfl, by decide +kernel, by decide +kernel⟩
theorem der_l_drawn {P : Program} {w : World} {K : PySem.W.Frag} {mg : Str → Option Value} {base : Heap} {k n : Nat} {f : Addr} {cdv : Value} {A : Around} {outer : List Env} {s : Shared} {H : Hp} {E : XK}
  (b_len : mg ("len" : Str) = none)
  (hr : Room (k + 1) (A.deeper (envOfC "_law_drawn" (defScope s_l_drawn) s.heap.objs.size f cdv))) : MSs (cxOf (L2.CX P w) P w K mg base ["_law_state", "_law_many", "_law_found", "_law_cell"] "_law_drawn" (defScope s_l_drawn) f cdv A outer s H E) (fun cls d _ H => E cls d H) (defBody s_l_drawn) t_l_drawn :=
  (ms_cons (ms_if (m_tcmp mo_gt (m_ix (m_var 0) m_int) m_int) (ms_cons (ms_asg (m_op mo_mod (m_ix (m_var 0) m_int) (m_var 1)) (mg_name (j := 2) sc_l_drawn.nd)) (ms_cons (ms_asg (m_op mo_fdiv (m_ix (m_var 0) m_int) (m_var 1)) (mg_sub (m_var 0) m_int)) (ms_one (ms_ret (m_var 2))))) ms_nil) (ms_cons (ms_asg (m_op mo_add (m_ix (m_var 0) m_int) m_int) (mg_sub (m_var 0) m_int)) (ms_cons (ms_if (m_tcmp mo_le (m_ix (m_var 0) m_int) (m_B mc_len b_len PySem.boot_len (ma_cons (m_ix (m_var 0) m_int) ma_nil))) (ms_cons (ms_asg (m_ix (m_ix (m_var 0) m_int) (m_op mo_sub (m_ix (m_var 0) m_int) m_int)) (mg_name (j := 3) sc_l_drawn.nd)) (ms_cons (ms_asg (m_ifE (m_tcmp mo_ge (m_var 3) (m_op mo_pow m_int m_int)) (m_op mo_fdiv (m_var 3) (m_var 1)) m_int) (mg_sub (m_var 0) m_int)) (ms_one (ms_ret (m_op mo_mod (m_var 3) (m_var 1)))))) ms_nil) (ms_cons (ms_asg (m_op mo_mod (m_op mo_add (m_op mo_mul (m_ix (m_var 0) m_int) m_int) m_int) m_int) (mg_sub (m_var 0) m_int)) (ms_one (ms_ret (m_op mo_mod (m_op mo_fdiv (m_ix (m_var 0) m_int) m_int) (m_var 1))))))))
theorem len_o_l_drawn : ∀ ds G Q X, sp_l_drawn ds G Q X → ds.length = 2 := by
  intro ds G Q X h
  obtain ⟨_, h⟩ := h
  repeat (first | (obtain ⟨rfl, _⟩ := h; rfl; done) | obtain ⟨_, h⟩ := h)
theorem ok_l_drawn {P : Program} {w : World} {K : PySem.W.Frag} {mg : Str → Option Value} {base : Heap} {k n : Nat} {f : Addr} {fd : FuncData} (F : FnP K "_law_drawn" "_law_drawn" s_l_drawn f fd) (g : mg ("_law_drawn" : Str) = some (.ref f))
  (b_len : mg ("len" : Str) = none)
  : FnD P w K mg base (k + 2) ("_law_drawn" : Str) sp_l_drawn :=
  ⟨f, fd, ["_law_state", "_law_many"], g, F.kp, FunD.bindsN F fun _ _ _ _ _ _ us hl => match us, hl with | [_, _], _ => rfl, L3.fn_ok (He5.fun_of F) sc_l_drawn t_l_drawn (len_o_l_drawn) walk_l_drawn fun cdv A outer s H E hr => der_l_drawn (n := 0) b_len hr⟩
theorem sc_l_number : FnScope ["_law_state"] ["_law_state"] (defScope s_l_number) := ⟨rfl, rfl, rfl, by decide +kernel, rfl, by decide +kernel, by decide +kernel⟩
theorem der_l_number {P : Program} {w : World} {K : PySem.W.Frag} {mg : Str → Option Value} {base : Heap} {k n : Nat} {f : Addr} {cdv : Value} {A : Around} {outer : List Env} {s : Shared} {H : Hp} {E : XK}
  (f_l_drawn : FnD P w K mg base k ("_law_drawn" : Str) sp_l_drawn)
  (hr : Room (k + 1) (A.deeper (envOfC "_law_number" (defScope s_l_number) s.heap.objs.size f cdv))) : MSs (cxOf (L2.CX P w) P w K mg base ["_law_state"] "_law_number" (defScope s_l_number) f cdv A outer s H E) (fun cls d _ H => E cls d H) (defBody s_l_number) t_l_number :=
  (ms_one (ms_ret (m_call f_l_drawn (hr.mono (Nat.le_succ _)) (takes_of rfl rfl rfl rfl) (ma_cons (m_var 0) (ma_cons (m_ix (m_lst (ma_cons m_int (ma_cons m_int (ma_cons m_int (ma_cons m_int ma_nil))))) (m_call f_l_drawn (hr.mono (Nat.le_succ _)) (takes_of rfl rfl rfl rfl) (ma_cons (m_var 0) (ma_cons m_int ma_nil)))) ma_nil)))))
theorem len_o_l_number : ∀ ds G Q X, sp_l_number ds G Q X → ds.length = 1 := by
  intro ds G Q X h
  obtain ⟨_, h⟩ := h
  repeat (first | (obtain ⟨rfl, _⟩ := h; rfl; done) | obtain ⟨_, h⟩ := h)
theorem ok_l_number {P : Program} {w : World} {K : PySem.W.Frag} {mg : Str → Option Value} {base : Heap} {k n : Nat} {f : Addr} {fd : FuncData} (F : FnP K "_law_number" "_law_number" s_l_number f fd) (g : mg ("_law_number" : Str) = some (.ref f))
  (f_l_drawn : FnD P w K mg base k ("_law_drawn" : Str) sp_l_drawn)
  : FnD P w K mg base (k + 2) ("_law_number" : Str) sp_l_number :=
  ⟨f, fd, ["_law_state"], g, F.kp, FunD.bindsN F fun _ _ _ _ _ _ us hl => match us, hl with | [_], _ => rfl, L3.fn_ok (He5.fun_of F) sc_l_number t_l_number (len_o_l_number) walk_l_number fun cdv A outer s H E hr => der_l_number (n := 0) f_l_drawn hr⟩
theorem sc_l_row : FnScope ["_law_state", "_law_low_here", "_law_words", "_law_word", "_law_near", "_law_b", "_law_c", "_law_d", "_law_k"] ["_law_state", "_law_low_here"] (defScope s_l_row) := ⟨rfl, rfl, rfl, by decide +kernel, rfl, by decide +kernel, by decide +kernel⟩
theorem der_l_row {P : Program} {w : World} {K : PySem.W.Frag} {mg : Str → Option Value} {base : Heap} {k n : Nat} {f : Addr} {cdv : Value} {A : Around} {outer : List Env} {s : Shared} {H : Hp} {E : XK}
  (f_l_drawn : FnD P w K mg base k ("_law_drawn" : Str) sp_l_drawn)
  (b_range : mg ("range" : Str) = none)
  (f_l_number : FnD P w K mg base k ("_law_number" : Str) sp_l_number)
  (hr : Room (k + 1) (A.deeper (envOfC "_law_row" (defScope s_l_row) s.heap.objs.size f cdv))) : MSs (cxOf (L2.CX P w) P w K mg base ["_law_state", "_law_low_here", "_law_words", "_law_word", "_law_near", "_law_b", "_law_c", "_law_d", "_law_k"] "_law_row" (defScope s_l_row) f cdv A outer s H E) (fun cls d _ H => E cls d H) (defBody s_l_row) t_l_row :=
  (ms_cons (ms_asg (m_lst (ma_cons m_str (ma_cons m_str (ma_cons m_str (ma_cons m_str (ma_cons m_str (ma_cons m_str (ma_cons m_str (ma_cons m_str (ma_cons m_str (ma_cons m_str (ma_cons m_str (ma_cons m_str (ma_cons m_str ma_nil)))))))))))))) (mg_name (j := 2) sc_l_row.nd)) (ms_cons (ms_asg (m_op mo_add (m_var 2) (m_lst (ma_cons m_str (ma_cons m_str (ma_cons m_str ma_nil))))) (mg_name (j := 2) sc_l_row.nd)) (ms_cons (ms_asg (m_ix (m_var 2) (m_call f_l_drawn (hr.mono (Nat.le_succ _)) (takes_of rfl rfl rfl rfl) (ma_cons (m_var 0) (ma_cons m_int ma_nil)))) (mg_name (j := 3) sc_l_row.nd)) (ms_cons (ms_asg (m_comp rfl sc_l_row.nd (own := [("_law_k", 8)]) (ct := (.one 8)) (mi_rng1 b_range m_int) (blkOk_by (N := ["_law_state", "_law_low_here", "_law_words", "_law_word", "_law_near", "_law_b", "_law_c", "_law_d", "_law_k"]) (sc := defScope s_l_row) (by decide +kernel)) (fun _ _ _ _ _ => pg_name (i := 8) sc_l_row.nd rfl (Or.inl rfl)) (fun _ _ _ _ _ => mts_nil) (fun _ _ _ _ _ => (m_call f_l_drawn (hr.mono (Nat.le_succ _)) takes0 (ma_cons (m_var 0) (ma_cons m_int ma_nil))))) (mg_lst (n := 3) rfl (mgs_cons (mg_name (j := 5) sc_l_row.nd) (mgs_cons (mg_name (j := 6) sc_l_row.nd) (mgs_cons (mg_name (j := 7) sc_l_row.nd) mgs_nil))))) (ms_cons (ms_asg (m_ix (m_lst (ma_cons (m_op mo_add (m_var 1) (m_call f_l_drawn (hr.mono (Nat.le_succ _)) (takes_of rfl rfl rfl rfl) (ma_cons (m_var 0) (ma_cons m_int ma_nil)))) (ma_cons (m_call f_l_number (hr.mono (Nat.le_succ _)) (takes_of rfl rfl rfl rfl) (ma_cons (m_var 0) ma_nil)) ma_nil))) (m_op mo_fdiv (m_call f_l_drawn (hr.mono (Nat.le_succ _)) (takes_of rfl rfl rfl rfl) (ma_cons (m_var 0) (ma_cons m_int ma_nil))) m_int)) (mg_name (j := 4) sc_l_row.nd)) (ms_cons (ms_if (m_tcmp mo_in (m_var 3) (m_tup (ma_cons m_str (ma_cons m_str (ma_cons m_str (ma_cons m_str ma_nil)))))) (ms_one (ms_ret (m_dget2 (huR hr) (m_disp (mp_cons m_str (m_tup (ma_cons m_str (ma_cons (m_var 5) (ma_cons (m_call f_l_number (hr.mono (Nat.le_succ _)) (takes_of rfl rfl rfl rfl) (ma_cons (m_var 0) ma_nil)) ma_nil)))) (mp_cons m_str (m_tup (ma_cons m_str (ma_cons (m_var 5) (ma_cons (m_var 4) ma_nil)))) mp_nil))) (m_var 3) (m_tup (ma_cons (m_var 3) (ma_cons (m_var 4) ma_nil)))))) ms_nil) (ms_cons (ms_if (m_tcmp mo_in (m_var 3) (m_tup (ma_cons m_str (ma_cons m_str ma_nil)))) (ms_one (ms_ret (m_tup (ma_cons (m_var 3) (ma_cons (m_var 5) (ma_cons (m_var 6) (ma_cons (m_var 7) ma_nil))))))) ms_nil) (ms_cons (ms_if (m_tcmp mo_in (m_var 3) (m_tup (ma_cons m_str (ma_cons m_str ma_nil)))) (ms_one (ms_ret (m_tup (ma_cons (m_var 3) (ma_cons (m_var 5) (ma_cons (m_var 6) ma_nil)))))) ms_nil) (ms_one (ms_ret (m_ifE (m_tcmp (mo_eq (huR hr)) (m_var 3) m_str) (m_tup (ma_cons m_str ma_nil)) (m_tup (ma_cons (m_var 3) (ma_cons (m_ifE (m_tcmp (mo_eq (huR hr)) (m_var 3) m_str) (m_op mo_mod (m_var 5) m_int) (m_var 5)) ma_nil))))))))))))))
theorem len_o_l_row : ∀ ds G Q X, sp_l_row ds G Q X → ds.length = 2 := by
  intro ds G Q X h
  obtain ⟨_, h⟩ := h
  repeat (first | (obtain ⟨rfl, _⟩ := h; rfl; done) | obtain ⟨_, h⟩ := h)
theorem ok_l_row {P : Program} {w : World} {K : PySem.W.Frag} {mg : Str → Option Value} {base : Heap} {k n : Nat} {f : Addr} {fd : FuncData} (F : FnP K "_law_row" "_law_row" s_l_row f fd) (g : mg ("_law_row" : Str) = some (.ref f))
  (f_l_drawn : FnD P w K mg base k ("_law_drawn" : Str) sp_l_drawn)
  (b_range : mg ("range" : Str) = none)
  (f_l_number : FnD P w K mg base k ("_law_number" : Str) sp_l_number)
  : FnD P w K mg base (k + 2) ("_law_row" : Str) sp_l_row :=
  ⟨f, fd, ["_law_state", "_law_low_here"], g, F.kp, FunD.bindsN F fun _ _ _ _ _ _ us hl => match us, hl with | [_, _], _ => rfl, L3.fn_ok (He5.fun_of F) sc_l_row t_l_row (len_o_l_row) walk_l_row fun cdv A outer s H E hr => der_l_row (n := 0) f_l_drawn b_range f_l_number hr⟩
theorem sc_l_begin : FnScope ["_law_state", "_law_row_here", "_law_wide", "_law_first", "_law_size", "_law_start_here", "_law_rows", "_law_cells_here", "_law_at"] ["_law_state", "_law_row_here"] (defScope s_l_begin) := ⟨rfl, rfl, rfl, by decide +kernel, rfl, by decide +kernel, by decide +kernel⟩
theorem der_l_begin {P : Program} {w : World} {K : PySem.W.Frag} {mg : Str → Option Value} {base : Heap} {k n : Nat} {f : Addr} {cdv : Value} {A : Around} {outer : List Env} {s : Shared} {H : Hp} {E : XK}
  (f_l_drawn : FnD P w K mg base k ("_law_drawn" : Str) sp_l_drawn)
  (b_max : mg ("max" : Str) = none)
  (f_l_number : FnD P w K mg base k ("_law_number" : Str) sp_l_number)
  (b_range : mg ("range" : Str) = none)
  (f_l_row : FnD P w K mg base k ("_law_row" : Str) sp_l_row)
  (b_int : mg ("int" : Str) = none)
  (b_min : mg ("min" : Str) = none)
  (hr : Room (k + 1) (A.deeper (envOfC "_law_begin" (defScope s_l_begin) s.heap.objs.size f cdv))) : MSs (cxOf (L2.CX P w) P w K mg base ["_law_state", "_law_row_here", "_law_wide", "_law_first", "_law_size", "_law_start_here", "_law_rows", "_law_cells_here", "_law_at"] "_law_begin" (defScope s_l_begin) f cdv A outer s H E) (fun cls d _ H => E cls d H) (defBody s_l_begin) t_l_begin :=
  (ms_cons (ms_asg (m_op mo_add m_int (m_call f_l_drawn (hr.mono (Nat.le_succ _)) (takes_of rfl rfl rfl rfl) (ma_cons (m_var 0) (ma_cons m_int ma_nil)))) (mg_name (j := 2) sc_l_begin.nd)) (ms_cons (ms_asg (m_call f_l_drawn (hr.mono (Nat.le_succ _)) (takes_of rfl rfl rfl rfl) (ma_cons (m_var 0) (ma_cons m_int ma_nil))) (mg_name (j := 3) sc_l_begin.nd)) (ms_cons (ms_asg (m_ix (m_lst (ma_cons (m_op mo_sub (m_var 2) (m_var 3)) (ma_cons (m_call f_l_drawn (hr.mono (Nat.le_succ _)) (takes_of rfl rfl rfl rfl) (ma_cons (m_var 0) (ma_cons m_int ma_nil))) (ma_cons m_int (ma_cons m_int (ma_cons m_int ma_nil)))))) (m_call f_l_drawn (hr.mono (Nat.le_succ _)) (takes_of rfl rfl rfl rfl) (ma_cons (m_var 0) (ma_cons m_int ma_nil)))) (mg_name (j := 4) sc_l_begin.nd)) (ms_cons (ms_asg (m_call f_l_drawn (hr.mono (Nat.le_succ _)) (takes_of rfl rfl rfl rfl) (ma_cons (m_var 0) (ma_cons (m_B (mc_max rfl) b_max (by decide +kernel) (ma_cons m_int (ma_cons (m_var 4) ma_nil))) ma_nil))) (mg_name (j := 5) sc_l_begin.nd)) (ms_cons (ms_asg (m_lst (ma_cons (m_tup (ma_cons m_str (ma_cons m_int (ma_cons (m_ix (m_lst (ma_cons m_int (ma_cons m_int (ma_cons m_int (ma_cons m_int (ma_cons m_int ma_nil)))))) (m_call f_l_drawn (hr.mono (Nat.le_succ _)) (takes_of rfl rfl rfl rfl) (ma_cons (m_var 0) (ma_cons m_int ma_nil)))) ma_nil)))) (ma_cons (m_tup (ma_cons m_str (ma_cons m_int ma_nil))) (ma_cons (m_tup (ma_cons m_str (ma_cons m_int (ma_cons (m_var 3) ma_nil)))) (ma_cons (m_tup (ma_cons m_str (ma_cons m_int (ma_cons (m_var 4) ma_nil)))) ma_nil))))) (mg_name (j := 6) sc_l_begin.nd)) (ms_cons (ms_asg (m_op mo_add (m_var 6) (m_lst (ma_cons (m_tup (ma_cons m_str (ma_cons m_int (ma_cons (m_var 5) ma_nil)))) (ma_cons (m_ix (m_lst (ma_cons (m_tup (ma_cons m_str (ma_cons m_int ma_nil))) (ma_cons (m_tup (ma_cons m_str (ma_cons m_int (ma_cons (m_call f_l_number (hr.mono (Nat.le_succ _)) (takes_of rfl rfl rfl rfl) (ma_cons (m_var 0) ma_nil)) ma_nil)))) ma_nil))) (m_op mo_fdiv (m_call f_l_drawn (hr.mono (Nat.le_succ _)) (takes_of rfl rfl rfl rfl) (ma_cons (m_var 0) (ma_cons m_int ma_nil))) m_int)) ma_nil)))) (mg_name (j := 6) sc_l_begin.nd)) (ms_cons (ms_asg (m_sl (m_op mo_add (m_var 6) (m_comp rfl sc_l_begin.nd (own := [("_law_at", 8)]) (ct := (.one 8)) (mi_rng1 b_range (m_var 2)) (blkOk_by (N := ["_law_state", "_law_row_here", "_law_wide", "_law_first", "_law_size", "_law_start_here", "_law_rows", "_law_cells_here", "_law_at"]) (sc := defScope s_l_begin) (by decide +kernel)) (fun _ _ _ _ _ => pg_name (i := 8) sc_l_begin.nd rfl (Or.inl rfl)) (fun _ _ _ _ _ => mts_nil) (fun _ _ _ _ _ => (m_call f_l_row (hr.mono (Nat.le_succ _)) takes0 (ma_cons (m_var 0) (ma_cons m_int ma_nil)))))) mo_none (mo_some (m_var 2))) (mg_name (j := 7) sc_l_begin.nd)) (ms_cons (ms_asg (m_B (mc_min rfl) b_min (by decide +kernel) (ma_cons (m_op mo_sub (m_var 2) m_int) (ma_cons (m_ix (m_lst (ma_cons m_int (ma_cons (m_op mo_add (m_var 3) (m_var 5)) ma_nil))) (m_Ty mc_intb b_int (by decide +kernel) (ma_cons (m_cmp (mo_eq (huR hr)) (m_ix (m_var 6) m_int) (m_tup (ma_cons m_str (ma_cons m_int ma_nil)))) ma_nil))) ma_nil))) (mg_name (j := 8) sc_l_begin.nd)) (ms_one (ms_ret (m_ifE (m_tcmp mo_gt (m_var 8) m_int) (m_op mo_add (m_op mo_add (m_sl (m_var 7) mo_none (mo_some (m_var 8))) (m_lst (ma_cons (m_var 1) ma_nil))) (m_sl (m_var 7) (mo_some (m_op mo_add (m_var 8) m_int)) mo_none)) (m_var 7))))))))))))
theorem len_o_l_begin : ∀ ds G Q X, sp_l_begin ds G Q X → ds.length = 2 := by
  intro ds G Q X h
  obtain ⟨_, h⟩ := h
  repeat (first | (obtain ⟨rfl, _⟩ := h; rfl; done) | obtain ⟨_, h⟩ := h)
theorem ok_l_begin {P : Program} {w : World} {K : PySem.W.Frag} {mg : Str → Option Value} {base : Heap} {k n : Nat} {f : Addr} {fd : FuncData} (F : FnP K "_law_begin" "_law_begin" s_l_begin f fd) (g : mg ("_law_begin" : Str) = some (.ref f))
  (f_l_drawn : FnD P w K mg base k ("_law_drawn" : Str) sp_l_drawn)
  (b_max : mg ("max" : Str) = none)
  (f_l_number : FnD P w K mg base k ("_law_number" : Str) sp_l_number)
  (b_range : mg ("range" : Str) = none)
  (f_l_row : FnD P w K mg base k ("_law_row" : Str) sp_l_row)
  (b_int : mg ("int" : Str) = none)
  (b_min : mg ("min" : Str) = none)
  : FnD P w K mg base (k + 2) ("_law_begin" : Str) sp_l_begin :=
  ⟨f, fd, ["_law_state", "_law_row_here"], g, F.kp, FunD.bindsN F fun _ _ _ _ _ _ us hl => match us, hl with | [_, _], _ => rfl, L3.fn_ok (He5.fun_of F) sc_l_begin t_l_begin (len_o_l_begin) walk_l_begin fun cdv A outer s H E hr => der_l_begin (n := 0) f_l_drawn b_max f_l_number b_range f_l_row b_int b_min hr⟩
theorem sc_l_ear : FnScope ["_law_state", "_law_k"] ["_law_state"] (defScope s_l_ear) := ⟨rfl, rfl, rfl, by decide +kernel, rfl, by decide +kernel, by decide +kernel⟩
theorem der_l_ear {P : Program} {w : World} {K : PySem.W.Frag} {mg : Str → Option Value} {base : Heap} {k n : Nat} {f : Addr} {cdv : Value} {A : Around} {outer : List Env} {s : Shared} {H : Hp} {E : XK}
  (b_range : mg ("range" : Str) = none)
  (f_l_drawn : FnD P w K mg base k ("_law_drawn" : Str) sp_l_drawn)
  (f_l_number : FnD P w K mg base k ("_law_number" : Str) sp_l_number)
  (hr : Room (k + 1) (A.deeper (envOfC "_law_ear" (defScope s_l_ear) s.heap.objs.size f cdv))) : MSs (cxOf (L2.CX P w) P w K mg base ["_law_state", "_law_k"] "_law_ear" (defScope s_l_ear) f cdv A outer s H E) (fun cls d _ H => E cls d H) (defBody s_l_ear) t_l_ear :=
  (ms_one (ms_ret (m_comp rfl sc_l_ear.nd (own := [("_law_k", 1)]) (ct := (.one 1)) (mi_rng1 b_range (m_call f_l_drawn (hr.mono (Nat.le_succ _)) (takes_of rfl rfl rfl rfl) (ma_cons (m_var 0) (ma_cons (m_ix (m_lst (ma_cons m_int (ma_cons m_int ma_nil))) (m_call f_l_drawn (hr.mono (Nat.le_succ _)) (takes_of rfl rfl rfl rfl) (ma_cons (m_var 0) (ma_cons m_int ma_nil)))) ma_nil)))) (blkOk_by (N := ["_law_state", "_law_k"]) (sc := defScope s_l_ear) (by decide +kernel)) (fun _ _ _ _ _ => pg_name (i := 1) sc_l_ear.nd rfl (Or.inl rfl)) (fun _ _ _ _ _ => mts_nil) (fun _ _ _ _ _ => (m_call f_l_number (hr.mono (Nat.le_succ _)) takes0 (ma_cons (m_var 0) ma_nil))))))
theorem len_o_l_ear : ∀ ds G Q X, sp_l_ear ds G Q X → ds.length = 1 := by
  intro ds G Q X h
  obtain ⟨_, h⟩ := h
  repeat (first | (obtain ⟨rfl, _⟩ := h; rfl; done) | obtain ⟨_, h⟩ := h)
theorem ok_l_ear {P : Program} {w : World} {K : PySem.W.Frag} {mg : Str → Option Value} {base : Heap} {k n : Nat} {f : Addr} {fd : FuncData} (F : FnP K "_law_ear" "_law_ear" s_l_ear f fd) (g : mg ("_law_ear" : Str) = some (.ref f))
  (b_range : mg ("range" : Str) = none)
  (f_l_drawn : FnD P w K mg base k ("_law_drawn" : Str) sp_l_drawn)
  (f_l_number : FnD P w K mg base k ("_law_number" : Str) sp_l_number)
  : FnD P w K mg base (k + 2) ("_law_ear" : Str) sp_l_ear :=
  ⟨f, fd, ["_law_state"], g, F.kp, FunD.bindsN F fun _ _ _ _ _ _ us hl => match us, hl with | [_], _ => rfl, L3.fn_ok (He5.fun_of F) sc_l_ear t_l_ear (len_o_l_ear) walk_l_ear fun cdv A outer s H E hr => der_l_ear (n := 0) b_range f_l_drawn f_l_number hr⟩
theorem sc_l_kind : FnScope ["_law_state", "_law_way", "_law_one", "_law_k"] ["_law_state"] (defScope s_l_kind) := ⟨rfl, rfl, rfl, by decide +kernel, rfl, by decide +kernel, by decide +kernel⟩
theorem der_l_kind {P : Program} {w : World} {K : PySem.W.Frag} {mg : Str → Option Value} {base : Heap} {k n : Nat} {f : Addr} {cdv : Value} {A : Around} {outer : List Env} {s : Shared} {H : Hp} {E : XK}
  (f_l_drawn : FnD P w K mg base k ("_law_drawn" : Str) sp_l_drawn)
  (b_range : mg ("range" : Str) = none)
  (b_tuple : mg ("tuple" : Str) = none)
  (hr : Room (k + 1) (A.deeper (envOfC "_law_kind" (defScope s_l_kind) s.heap.objs.size f cdv))) : MSs (cxOf (L2.CX P w) P w K mg base ["_law_state", "_law_way", "_law_one", "_law_k"] "_law_kind" (defScope s_l_kind) f cdv A outer s H E) (fun cls d _ H => E cls d H) (defBody s_l_kind) t_l_kind :=
  (ms_cons (ms_asg (m_call f_l_drawn (hr.mono (Nat.le_succ _)) (takes_of rfl rfl rfl rfl) (ma_cons (m_var 0) (ma_cons m_int ma_nil))) (mg_name (j := 1) sc_l_kind.nd)) (ms_cons (ms_if (m_tcmp (mo_eq (huR hr)) (m_var 1) m_int) (ms_one (ms_ret (m_op mo_mul (m_tup (ma_cons m_bl ma_nil)) m_int))) ms_nil) (ms_cons (ms_asg (m_call f_l_drawn (hr.mono (Nat.le_succ _)) (takes_of rfl rfl rfl rfl) (ma_cons (m_var 0) (ma_cons m_int ma_nil))) (mg_name (j := 2) sc_l_kind.nd)) (ms_one (ms_ret (m_Ty mc_tuple b_tuple (by decide +kernel) (ma_cons (m_comp rfl sc_l_kind.nd (own := [("_law_k", 3)]) (ct := (.one 3)) (mi_rng1 b_range m_int) (blkOk_by (N := ["_law_state", "_law_way", "_law_one", "_law_k"]) (sc := defScope s_l_kind) (by decide +kernel)) (fun _ _ _ _ _ => pg_name (i := 3) sc_l_kind.nd rfl (Or.inl rfl)) (fun _ _ _ _ _ => mts_nil) (fun _ _ _ _ _ => (m_ifE (m_tcmp (mo_eq (huR hr)) (m_var 1) m_int) (m_cmp (mo_eq (huR hr)) (m_call f_l_drawn (hr.mono (Nat.le_succ _)) takes0 (ma_cons (m_var 0) (ma_cons m_int ma_nil))) m_int) (m_cmp (mo_ne (huR hr)) (m_var 3) (m_var 2))))) ma_nil)))))))
theorem len_o_l_kind : ∀ ds G Q X, sp_l_kind ds G Q X → ds.length = 1 := by
  intro ds G Q X h
  obtain ⟨_, h⟩ := h
  repeat (first | (obtain ⟨rfl, _⟩ := h; rfl; done) | obtain ⟨_, h⟩ := h)
theorem ok_l_kind {P : Program} {w : World} {K : PySem.W.Frag} {mg : Str → Option Value} {base : Heap} {k n : Nat} {f : Addr} {fd : FuncData} (F : FnP K "_law_kind" "_law_kind" s_l_kind f fd) (g : mg ("_law_kind" : Str) = some (.ref f))
  (f_l_drawn : FnD P w K mg base k ("_law_drawn" : Str) sp_l_drawn)
  (b_range : mg ("range" : Str) = none)
  (b_tuple : mg ("tuple" : Str) = none)
  : FnD P w K mg base (k + 2) ("_law_kind" : Str) sp_l_kind :=
  ⟨f, fd, ["_law_state"], g, F.kp, FunD.bindsN F fun _ _ _ _ _ _ us hl => match us, hl with | [_], _ => rfl, L3.fn_ok (He5.fun_of F) sc_l_kind t_l_kind (len_o_l_kind) walk_l_kind fun cdv A outer s H E hr => der_l_kind (n := 0) f_l_drawn b_range b_tuple hr⟩
theorem sc_l_machine : FnScope ["_law_cells_here", "_law_ear_here", "_law_m"] ["_law_cells_here", "_law_ear_here"] (defScope s_l_machine) := ⟨rfl, rfl, rfl, by decide +kernel, rfl, by decide +kernel, by decide +kernel⟩
theorem der_l_machine {P : Program} {w : World} {K : PySem.W.Frag} {mg : Str → Option Value} {base : Heap} {k n : Nat} {f : Addr} {cdv : Value} {A : Around} {outer : List Env} {s : Shared} {H : Hp} {E : XK}
  (b_len : mg ("len" : Str) = none)
  (b_list : mg ("list" : Str) = none)
  (hr : Room (k + 1) (A.deeper (envOfC "_law_machine" (defScope s_l_machine) s.heap.objs.size f cdv))) : MSs (cxOf (L2.CX P w) P w K mg base ["_law_cells_here", "_law_ear_here", "_law_m"] "_law_machine" (defScope s_l_machine) f cdv A outer s H E) (fun cls d _ H => E cls d H) (defBody s_l_machine) t_l_machine :=
  (ms_cons (ms_asg (m_disp (mp_cons m_str (m_Ty mc_list b_list (by decide +kernel) (ma_cons (m_var 0) ma_nil)) (mp_cons m_str (m_op mo_mul (m_lst (ma_cons m_int ma_nil)) m_int) (mp_cons m_str m_int (mp_cons m_str m_bl (mp_cons m_str (m_tup (ma_cons m_int (ma_cons (m_B mc_len b_len PySem.boot_len (ma_cons (m_var 0) ma_nil)) ma_nil))) (mp_cons m_str m_int mp_nil))))))) (mg_name (j := 2) sc_l_machine.nd)) (ms_cons (ms_do (m_dupd (huR hr) (m_var 2) (m_disp (mp_cons m_str (m_lst ma_nil) (mp_cons m_str (m_Ty mc_list b_list (by decide +kernel) (ma_cons (m_var 1) ma_nil)) (mp_cons m_str m_str (mp_cons m_str m_int mp_nil))))))) (ms_one (ms_ret (m_var 2)))))
theorem len_o_l_machine : ∀ ds G Q X, sp_l_machine ds G Q X → ds.length = 2 := by
  intro ds G Q X h
  obtain ⟨_, h⟩ := h
  repeat (first | (obtain ⟨rfl, _⟩ := h; rfl; done) | obtain ⟨_, h⟩ := h)
theorem ok_l_machine {P : Program} {w : World} {K : PySem.W.Frag} {mg : Str → Option Value} {base : Heap} {k n : Nat} {f : Addr} {fd : FuncData} (F : FnP K "_law_machine" "_law_machine" s_l_machine f fd) (g : mg ("_law_machine" : Str) = some (.ref f))
  (b_len : mg ("len" : Str) = none)
  (b_list : mg ("list" : Str) = none)
  : FnD P w K mg base (k + 2) ("_law_machine" : Str) sp_l_machine :=
  ⟨f, fd, ["_law_cells_here", "_law_ear_here"], g, F.kp, FunD.bindsN F fun _ _ _ _ _ _ us hl => match us, hl with | [_, _], _ => rfl, L3.fn_ok (He5.fun_of F) sc_l_machine t_l_machine (len_o_l_machine) walk_l_machine fun cdv A outer s H E hr => der_l_machine (n := 0) b_len b_list hr⟩
theorem sc_need_kind : FnScope ["kind", "good", "part"] ["kind"] (defScope s_need_kind) := ⟨rfl, rfl, rfl, by decide +kernel, rfl, by decide +kernel, by decide +kernel⟩
theorem der_need_kind {P : Program} {w : World} {K : PySem.W.Frag} {mg : Str → Option Value} {base : Heap} {k n : Nat} {f : Addr} {cdv : Value} {A : Around} {outer : List Env} {s : Shared} {H : Hp} {E : XK}
  (b_isinstance : mg ("isinstance" : Str) = none)
  (b_tuple : mg ("tuple" : Str) = none)
  (b_len : mg ("len" : Str) = none)
  (k_OWN_ORDER : Kon K mg ("OWN_ORDER" : Str) c_OWN_ORDER)
  (b_bool : mg ("bool" : Str) = none)
  (r_BadKind : RsD K mg ("BadKind" : Str))
  (hr : Room (k + 1) (A.deeper (envOfC "need_kind" (defScope s_need_kind) s.heap.objs.size f cdv))) : MSs (cxOf (L2.CX P w) P w K mg base ["kind", "good", "part"] "need_kind" (defScope s_need_kind) f cdv A outer s H E) (fun cls d _ H => E cls d H) (defBody s_need_kind) t_need_kind :=
  (ms_cons (ms_asg (m_and (m_isi (n := "tuple") b_isinstance b_tuple (by decide +kernel) (by decide) (m_var 0)) (m_one (m_cmp (mo_eq (huR hr)) (m_B mc_len b_len PySem.boot_len (ma_cons (m_var 0) ma_nil)) (m_B mc_len b_len PySem.boot_len (ma_cons (m_kon k_OWN_ORDER) ma_nil))))) (mg_name (j := 1) sc_need_kind.nd)) (ms_one (ms_if (m_tw (mw_or (m_tnot (m_tval (m_var 1))) (mw_or1 (m_tcmp (mo_ne (huR hr)) (m_comp rfl sc_need_kind.nd (own := [("part", 2)]) (ct := (.one 2)) (mi_tup (m_var 0)) (blkOk_by (N := ["kind", "good", "part"]) (sc := defScope s_need_kind) (by decide +kernel)) (fun _ _ _ _ _ => pg_name (i := 2) sc_need_kind.nd rfl (Or.inl rfl)) (fun _ _ _ _ _ => (mts_one (m_tnot (m_tval (m_isi (n := "bool") b_isinstance b_bool (by decide +kernel) (by decide) (m_var 2)))))) (fun _ _ _ _ _ => (m_var 2))) (m_lst ma_nil))))) (ms_one (ms_raise (c := "BadKind") r_BadKind rfl (takes_of rfl rfl rfl rfl))) ms_nil)))
theorem len_o_need_kind : ∀ ds G Q X, sp_need_kind ds G Q X → ds.length = 1 := by
  intro ds G Q X h
  obtain ⟨_, h⟩ := h
  repeat (first | (obtain ⟨rfl, _⟩ := h; rfl; done) | obtain ⟨_, h⟩ := h)
theorem ok_need_kind {P : Program} {w : World} {K : PySem.W.Frag} {mg : Str → Option Value} {base : Heap} {k n : Nat} {f : Addr} {fd : FuncData} (F : FnP K "need_kind" "need_kind" s_need_kind f fd) (g : mg ("need_kind" : Str) = some (.ref f))
  (b_isinstance : mg ("isinstance" : Str) = none)
  (b_tuple : mg ("tuple" : Str) = none)
  (b_len : mg ("len" : Str) = none)
  (k_OWN_ORDER : Kon K mg ("OWN_ORDER" : Str) c_OWN_ORDER)
  (b_bool : mg ("bool" : Str) = none)
  (r_BadKind : RsD K mg ("BadKind" : Str))
  : FnD P w K mg base (k + 2) ("need_kind" : Str) sp_need_kind :=
  ⟨f, fd, ["kind"], g, F.kp, FunD.bindsN F fun _ _ _ _ _ _ us hl => match us, hl with | [_], _ => rfl, L3.fn_ok (He5.fun_of F) sc_need_kind t_need_kind (len_o_need_kind) walk_need_kind fun cdv A outer s H E hr => der_need_kind (n := 0) b_isinstance b_tuple b_len k_OWN_ORDER b_bool r_BadKind hr⟩
theorem sc_is_number : FnScope ["part", "low", "high"] ["part", "low", "high"] (defScope s_is_number) := ⟨rfl, rfl, rfl, by decide +kernel, rfl, by decide +kernel, by decide +kernel⟩
theorem der_is_number {P : Program} {w : World} {K : PySem.W.Frag} {mg : Str → Option Value} {base : Heap} {k n : Nat} {f : Addr} {cdv : Value} {A : Around} {outer : List Env} {s : Shared} {H : Hp} {E : XK}
  (b_isinstance : mg ("isinstance" : Str) = none)
  (b_int : mg ("int" : Str) = none)
  (b_bool : mg ("bool" : Str) = none)
  (hr : Room (k + 1) (A.deeper (envOfC "is_number" (defScope s_is_number) s.heap.objs.size f cdv))) : MSs (cxOf (L2.CX P w) P w K mg base ["part", "low", "high"] "is_number" (defScope s_is_number) f cdv A outer s H E) (fun cls d _ H => E cls d H) (defBody s_is_number) t_is_number :=
  (ms_one (ms_ret (m_and (m_isi (n := "int") b_isinstance b_int (by decide +kernel) (by decide) (m_var 0)) (m_and (m_not (m_isi (n := "bool") b_isinstance b_bool (by decide +kernel) (by decide) (m_var 0))) (m_one (m_chain mo_le mo_le (m_var 1) (m_var 0) (m_var 2)))))))
theorem len_o_is_number : ∀ ds G Q X, sp_is_number ds G Q X → ds.length = 3 := by
  intro ds G Q X h
  obtain ⟨_, h⟩ := h
  repeat (first | (obtain ⟨rfl, _⟩ := h; rfl; done) | obtain ⟨_, h⟩ := h)
theorem ok_is_number {P : Program} {w : World} {K : PySem.W.Frag} {mg : Str → Option Value} {base : Heap} {k n : Nat} {f : Addr} {fd : FuncData} (F : FnP K "is_number" "is_number" s_is_number f fd) (g : mg ("is_number" : Str) = some (.ref f))
  (b_isinstance : mg ("isinstance" : Str) = none)
  (b_int : mg ("int" : Str) = none)
  (b_bool : mg ("bool" : Str) = none)
  : FnD P w K mg base (k + 2) ("is_number" : Str) sp_is_number :=
  ⟨f, fd, ["part", "low", "high"], g, F.kp, FunD.bindsN F fun _ _ _ _ _ _ us hl => match us, hl with | [_, _, _], _ => rfl, L3.fn_ok (He5.fun_of F) sc_is_number t_is_number (len_o_is_number) walk_is_number fun cdv A outer s H E hr => der_is_number (n := 0) b_isinstance b_int b_bool hr⟩
theorem sc_is_part : FnScope ["sign", "part"] ["sign", "part"] (defScope s_is_part) := ⟨rfl, rfl, rfl, by decide +kernel, rfl, by decide +kernel, by decide +kernel⟩
theorem der_is_part {P : Program} {w : World} {K : PySem.W.Frag} {mg : Str → Option Value} {base : Heap} {k n : Nat} {f : Addr} {cdv : Value} {A : Around} {outer : List Env} {s : Shared} {H : Hp} {E : XK}
  (k_MOST_NUMBER : Kon K mg ("MOST_NUMBER" : Str) c_MOST_NUMBER)
  (k_BOXES : Kon K mg ("BOXES" : Str) c_BOXES)
  (f_is_number : FnD P w K mg base k ("is_number" : Str) sp_is_number)
  (hr : Room (k + 1) (A.deeper (envOfC "is_part" (defScope s_is_part) s.heap.objs.size f cdv))) : MSs (cxOf (L2.CX P w) P w K mg base ["sign", "part"] "is_part" (defScope s_is_part) f cdv A outer s H E) (fun cls d _ H => E cls d H) (defBody s_is_part) t_is_part :=
  (ms_one (ms_ret (m_call f_is_number (hr.mono (Nat.le_succ _)) (takes_of rfl rfl rfl rfl) (ma_cons (m_var 1) (ma_cons m_int (ma_cons (m_dget (huR hr) (m_disp (mp_cons m_str (m_op mo_sub (m_kon k_BOXES) m_int) (mp_cons m_str m_int (mp_cons m_str (m_kon k_MOST_NUMBER) mp_nil)))) (m_var 0)) ma_nil))))))
theorem len_o_is_part : ∀ ds G Q X, sp_is_part ds G Q X → ds.length = 2 := by
  intro ds G Q X h
  obtain ⟨_, h⟩ := h
  repeat (first | (obtain ⟨rfl, _⟩ := h; rfl; done) | obtain ⟨_, h⟩ := h)
theorem ok_is_part {P : Program} {w : World} {K : PySem.W.Frag} {mg : Str → Option Value} {base : Heap} {k n : Nat} {f : Addr} {fd : FuncData} (F : FnP K "is_part" "is_part" s_is_part f fd) (g : mg ("is_part" : Str) = some (.ref f))
  (k_MOST_NUMBER : Kon K mg ("MOST_NUMBER" : Str) c_MOST_NUMBER)
  (k_BOXES : Kon K mg ("BOXES" : Str) c_BOXES)
  (f_is_number : FnD P w K mg base k ("is_number" : Str) sp_is_number)
  : FnD P w K mg base (k + 2) ("is_part" : Str) sp_is_part :=
  ⟨f, fd, ["sign", "part"], g, F.kp, FunD.bindsN F fun _ _ _ _ _ _ us hl => match us, hl with | [_, _], _ => rfl, L3.fn_ok (He5.fun_of F) sc_is_part t_is_part (len_o_is_part) walk_is_part fun cdv A outer s H E hr => der_is_part (n := 0) k_MOST_NUMBER k_BOXES f_is_number hr⟩
theorem sc_is_row : FnScope ["row", "signs", "k"] ["row"] (defScope s_is_row) := ⟨rfl, rfl, rfl, by decide +kernel, rfl, by decide +kernel, by decide +kernel⟩
theorem der_is_row {P : Program} {w : World} {K : PySem.W.Frag} {mg : Str → Option Value} {base : Heap} {k n : Nat} {f : Addr} {cdv : Value} {A : Around} {outer : List Env} {s : Shared} {H : Hp} {E : XK}
  (b_isinstance : mg ("isinstance" : Str) = none)
  (b_tuple : mg ("tuple" : Str) = none)
  (b_len : mg ("len" : Str) = none)
  (b_str : mg ("str" : Str) = none)
  (kd_PLAIN : KD w K mg ("PLAIN" : Str) kv_PLAIN)
  (kd_OWN : KD w K mg ("OWN" : Str) kv_OWN)
  (b_range : mg ("range" : Str) = none)
  (f_is_part : FnD P w K mg base k ("is_part" : Str) sp_is_part)
  (hr : Room (k + 1) (A.deeper (envOfC "is_row" (defScope s_is_row) s.heap.objs.size f cdv))) : MSs (cxOf (L2.CX P w) P w K mg base ["row", "signs", "k"] "is_row" (defScope s_is_row) f cdv A outer s H E) (fun cls d _ H => E cls d H) (defBody s_is_row) t_is_row :=
  (ms_cons (ms_if (m_tw (mw_or (m_tnot (m_tval (m_isi (n := "tuple") b_isinstance b_tuple (by decide +kernel) (by decide) (m_var 0)))) (mw_or (m_tcmp (mo_eq (huR hr)) (m_B mc_len b_len PySem.boot_len (ma_cons (m_var 0) ma_nil)) m_int) (mw_or1 (m_tnot (m_tval (m_isi (n := "str") b_isinstance b_str (by decide +kernel) (by decide) (m_ix (m_var 0) m_int)))))))) (ms_one (ms_ret m_bl)) ms_nil) (ms_cons (ms_asg (m_ifE (m_tkin kd_PLAIN (m_ix (m_var 0) m_int)) (m_kix kd_PLAIN (m_ix (m_var 0) m_int)) (m_kget kd_OWN (m_ix (m_var 0) m_int))) (mg_name (j := 1) sc_is_row.nd)) (ms_cons (ms_if (m_tw (mw_or (m_tisN (m_var 1)) (mw_or1 (m_tcmp (mo_ne (huR hr)) (m_B mc_len b_len PySem.boot_len (ma_cons (m_var 0) ma_nil)) (m_op mo_add (m_B mc_len b_len PySem.boot_len (ma_cons (m_var 1) ma_nil)) m_int))))) (ms_one (ms_ret m_bl)) ms_nil) (ms_one (ms_ret (m_cmp (mo_eq (huR hr)) (m_comp rfl sc_is_row.nd (own := [("k", 2)]) (ct := (.one 2)) (mi_rng1 b_range (m_B mc_len b_len PySem.boot_len (ma_cons (m_var 1) ma_nil))) (blkOk_by (N := ["row", "signs", "k"]) (sc := defScope s_is_row) (by decide +kernel)) (fun _ _ _ _ _ => pg_name (i := 2) sc_is_row.nd rfl (Or.inl rfl)) (fun _ _ _ _ _ => (mts_one (m_tnot (m_tval (m_call f_is_part (hr.mono (Nat.le_succ _)) takes0 (ma_cons (m_ix (m_var 1) (m_var 2)) (ma_cons (m_ix (m_var 0) (m_op mo_add (m_var 2) m_int)) ma_nil))))))) (fun _ _ _ _ _ => (m_var 2))) (m_lst ma_nil)))))))
theorem len_o_is_row : ∀ ds G Q X, sp_is_row ds G Q X → ds.length = 1 := by
  intro ds G Q X h
  obtain ⟨_, h⟩ := h
  repeat (first | (obtain ⟨rfl, _⟩ := h; rfl; done) | obtain ⟨_, h⟩ := h)
theorem ok_is_row {P : Program} {w : World} {K : PySem.W.Frag} {mg : Str → Option Value} {base : Heap} {k n : Nat} {f : Addr} {fd : FuncData} (F : FnP K "is_row" "is_row" s_is_row f fd) (g : mg ("is_row" : Str) = some (.ref f))
  (b_isinstance : mg ("isinstance" : Str) = none)
  (b_tuple : mg ("tuple" : Str) = none)
  (b_len : mg ("len" : Str) = none)
  (b_str : mg ("str" : Str) = none)
  (kd_PLAIN : KD w K mg ("PLAIN" : Str) kv_PLAIN)
  (kd_OWN : KD w K mg ("OWN" : Str) kv_OWN)
  (b_range : mg ("range" : Str) = none)
  (f_is_part : FnD P w K mg base k ("is_part" : Str) sp_is_part)
  : FnD P w K mg base (k + 2) ("is_row" : Str) sp_is_row :=
  ⟨f, fd, ["row"], g, F.kp, FunD.bindsN F fun _ _ _ _ _ _ us hl => match us, hl with | [_], _ => rfl, L3.fn_ok (He5.fun_of F) sc_is_row t_is_row (len_o_is_row) walk_is_row fun cdv A outer s H E hr => der_is_row (n := 0) b_isinstance b_tuple b_len b_str kd_PLAIN kd_OWN b_range f_is_part hr⟩
theorem sc_is_thing : FnScope ["thing"] ["thing"] (defScope s_is_thing) := ⟨rfl, rfl, rfl, by decide +kernel, rfl, by decide +kernel, by decide +kernel⟩
theorem der_is_thing {P : Program} {w : World} {K : PySem.W.Frag} {mg : Str → Option Value} {base : Heap} {k n : Nat} {f : Addr} {cdv : Value} {A : Around} {outer : List Env} {s : Shared} {H : Hp} {E : XK}
  (k_MOST_NUMBER : Kon K mg ("MOST_NUMBER" : Str) c_MOST_NUMBER)
  (f_is_number : FnD P w K mg base k ("is_number" : Str) sp_is_number)
  (f_is_row : FnD P w K mg base k ("is_row" : Str) sp_is_row)
  (hr : Room (k + 1) (A.deeper (envOfC "is_thing" (defScope s_is_thing) s.heap.objs.size f cdv))) : MSs (cxOf (L2.CX P w) P w K mg base ["thing"] "is_thing" (defScope s_is_thing) f cdv A outer s H E) (fun cls d _ H => E cls d H) (defBody s_is_thing) t_is_thing :=
  (ms_one (ms_ret (m_or (m_call f_is_number (hr.mono (Nat.le_succ _)) (takes_of rfl rfl rfl rfl) (ma_cons (m_var 0) (ma_cons m_int (ma_cons (m_kon k_MOST_NUMBER) ma_nil)))) (m_one (m_call f_is_row (hr.mono (Nat.le_succ _)) (takes_of rfl rfl rfl rfl) (ma_cons (m_var 0) ma_nil))))))
theorem len_o_is_thing : ∀ ds G Q X, sp_is_thing ds G Q X → ds.length = 1 := by
  intro ds G Q X h
  obtain ⟨_, h⟩ := h
  repeat (first | (obtain ⟨rfl, _⟩ := h; rfl; done) | obtain ⟨_, h⟩ := h)
theorem ok_is_thing {P : Program} {w : World} {K : PySem.W.Frag} {mg : Str → Option Value} {base : Heap} {k n : Nat} {f : Addr} {fd : FuncData} (F : FnP K "is_thing" "is_thing" s_is_thing f fd) (g : mg ("is_thing" : Str) = some (.ref f))
  (k_MOST_NUMBER : Kon K mg ("MOST_NUMBER" : Str) c_MOST_NUMBER)
  (f_is_number : FnD P w K mg base k ("is_number" : Str) sp_is_number)
  (f_is_row : FnD P w K mg base k ("is_row" : Str) sp_is_row)
  : FnD P w K mg base (k + 2) ("is_thing" : Str) sp_is_thing :=
  ⟨f, fd, ["thing"], g, F.kp, FunD.bindsN F fun _ _ _ _ _ _ us hl => match us, hl with | [_], _ => rfl, L3.fn_ok (He5.fun_of F) sc_is_thing t_is_thing (len_o_is_thing) walk_is_thing fun cdv A outer s H E hr => der_is_thing (n := 0) k_MOST_NUMBER f_is_number f_is_row hr⟩
theorem sc_need_cells : FnScope ["cells", "at", "thing"] ["cells"] (defScope s_need_cells) := ⟨rfl, rfl, rfl, by decide +kernel, rfl, by decide +kernel, by decide +kernel⟩
theorem der_need_cells {P : Program} {w : World} {K : PySem.W.Frag} {mg : Str → Option Value} {base : Heap} {k n : Nat} {f : Addr} {cdv : Value} {A : Around} {outer : List Env} {s : Shared} {H : Hp} {E : XK}
  (b_enumerate : mg ("enumerate" : Str) = none)
  (k_MOST_CELLS : Kon K mg ("MOST_CELLS" : Str) c_MOST_CELLS)
  (f_is_thing : FnD P w K mg base k ("is_thing" : Str) sp_is_thing)
  (b_len : mg ("len" : Str) = none)
  (k_LEAST_CELLS : Kon K mg ("LEAST_CELLS" : Str) c_LEAST_CELLS)
  (hr : Room (k + 1) (A.deeper (envOfC "need_cells" (defScope s_need_cells) s.heap.objs.size f cdv))) : MSs (cxOf (L2.CX P w) P w K mg base ["cells", "at", "thing"] "need_cells" (defScope s_need_cells) f cdv A outer s H E) (fun cls d _ H => E cls d H) (defBody s_need_cells) t_need_cells :=
  (ms_cons (ms_for (passes_of rfl) rfl (mi_enum b_enumerate (m_var 0)) (mg_tup (n := 2) rfl (mgs_cons (mg_name (j := 1) sc_need_cells.nd) (mgs_cons (mg_name (j := 2) sc_need_cells.nd) mgs_nil))) (ms_one (ms_if (m_tw (mw_or (m_tcmp mo_ge (m_var 1) (m_kon k_MOST_CELLS)) (mw_or1 (m_tnot (m_tval (m_call f_is_thing (hr.mono (Nat.le_succ _)) (takes_of rfl rfl rfl rfl) (ma_cons (m_var 2) ma_nil))))))) (ms_one ms_dead) ms_nil))) (ms_one (ms_if (m_tcmp mo_lt (m_B mc_len b_len PySem.boot_len (ma_cons (m_var 0) ma_nil)) (m_kon k_LEAST_CELLS)) (ms_one ms_dead) ms_nil)))
theorem len_o_need_cells : ∀ ds G Q X, sp_need_cells ds G Q X → ds.length = 1 := by
  intro ds G Q X h
  obtain ⟨_, h⟩ := h
  repeat (first | (obtain ⟨rfl, _⟩ := h; rfl; done) | obtain ⟨_, h⟩ := h)
theorem ok_need_cells {P : Program} {w : World} {K : PySem.W.Frag} {mg : Str → Option Value} {base : Heap} {k n : Nat} {f : Addr} {fd : FuncData} (F : FnP K "need_cells" "need_cells" s_need_cells f fd) (g : mg ("need_cells" : Str) = some (.ref f))
  (b_enumerate : mg ("enumerate" : Str) = none)
  (k_MOST_CELLS : Kon K mg ("MOST_CELLS" : Str) c_MOST_CELLS)
  (f_is_thing : FnD P w K mg base k ("is_thing" : Str) sp_is_thing)
  (b_len : mg ("len" : Str) = none)
  (k_LEAST_CELLS : Kon K mg ("LEAST_CELLS" : Str) c_LEAST_CELLS)
  : FnD P w K mg base (k + 2) ("need_cells" : Str) sp_need_cells :=
  ⟨f, fd, ["cells"], g, F.kp, FunD.bindsN F fun _ _ _ _ _ _ us hl => match us, hl with | [_], _ => rfl, L3.fn_ok (He5.fun_of F) sc_need_cells t_need_cells (len_o_need_cells) walk_need_cells fun cdv A outer s H E hr => der_need_cells (n := 0) b_enumerate k_MOST_CELLS f_is_thing b_len k_LEAST_CELLS hr⟩
theorem sc_need_ear : FnScope ["ear", "part"] ["ear"] (defScope s_need_ear) := ⟨rfl, rfl, rfl, by decide +kernel, rfl, by decide +kernel, by decide +kernel⟩
theorem der_need_ear {P : Program} {w : World} {K : PySem.W.Frag} {mg : Str → Option Value} {base : Heap} {k n : Nat} {f : Addr} {cdv : Value} {A : Around} {outer : List Env} {s : Shared} {H : Hp} {E : XK}
  (b_len : mg ("len" : Str) = none)
  (k_MOST_EAR : Kon K mg ("MOST_EAR" : Str) c_MOST_EAR)
  (k_MOST_NUMBER : Kon K mg ("MOST_NUMBER" : Str) c_MOST_NUMBER)
  (f_is_number : FnD P w K mg base k ("is_number" : Str) sp_is_number)
  (r_BadEar : RsD K mg ("BadEar" : Str))
  (hr : Room (k + 1) (A.deeper (envOfC "need_ear" (defScope s_need_ear) s.heap.objs.size f cdv))) : MSs (cxOf (L2.CX P w) P w K mg base ["ear", "part"] "need_ear" (defScope s_need_ear) f cdv A outer s H E) (fun cls d _ H => E cls d H) (defBody s_need_ear) t_need_ear :=
  (ms_one (ms_if (m_tw (mw_or (m_tcmp mo_gt (m_B mc_len b_len PySem.boot_len (ma_cons (m_var 0) ma_nil)) (m_kon k_MOST_EAR)) (mw_or1 (m_tcmp (mo_ne (huR hr)) (m_comp rfl sc_need_ear.nd (own := [("part", 1)]) (ct := (.one 1)) (mi_lst (m_var 0)) (blkOk_by (N := ["ear", "part"]) (sc := defScope s_need_ear) (by decide +kernel)) (fun _ _ _ _ _ => pg_name (i := 1) sc_need_ear.nd rfl (Or.inl rfl)) (fun _ _ _ _ _ => (mts_one (m_tnot (m_tval (m_call f_is_number (hr.mono (Nat.le_succ _)) takes0 (ma_cons (m_var 1) (ma_cons m_int (ma_cons (m_kon k_MOST_NUMBER) ma_nil)))))))) (fun _ _ _ _ _ => (m_var 1))) (m_lst ma_nil))))) (ms_one (ms_raise (c := "BadEar") r_BadEar rfl (takes_of rfl rfl rfl rfl))) ms_nil))
theorem len_o_need_ear : ∀ ds G Q X, sp_need_ear ds G Q X → ds.length = 1 := by
  intro ds G Q X h
  obtain ⟨_, h⟩ := h
  repeat (first | (obtain ⟨rfl, _⟩ := h; rfl; done) | obtain ⟨_, h⟩ := h)
theorem ok_need_ear {P : Program} {w : World} {K : PySem.W.Frag} {mg : Str → Option Value} {base : Heap} {k n : Nat} {f : Addr} {fd : FuncData} (F : FnP K "need_ear" "need_ear" s_need_ear f fd) (g : mg ("need_ear" : Str) = some (.ref f))
  (b_len : mg ("len" : Str) = none)
  (k_MOST_EAR : Kon K mg ("MOST_EAR" : Str) c_MOST_EAR)
  (k_MOST_NUMBER : Kon K mg ("MOST_NUMBER" : Str) c_MOST_NUMBER)
  (f_is_number : FnD P w K mg base k ("is_number" : Str) sp_is_number)
  (r_BadEar : RsD K mg ("BadEar" : Str))
  : FnD P w K mg base (k + 2) ("need_ear" : Str) sp_need_ear :=
  ⟨f, fd, ["ear"], g, F.kp, FunD.bindsN F fun _ _ _ _ _ _ us hl => match us, hl with | [_], _ => rfl, L3.fn_ok (He5.fun_of F) sc_need_ear t_need_ear (len_o_need_ear) walk_need_ear fun cdv A outer s H E hr => der_need_ear (n := 0) b_len k_MOST_EAR k_MOST_NUMBER f_is_number r_BadEar hr⟩
theorem sc_Body___init__ : FnScope ["self", "things"] ["self", "things"] (defScope s_Body___init__) := ⟨rfl, rfl, rfl, by decide +kernel, rfl, by decide +kernel, by decide +kernel⟩
theorem der_Body___init__ {P : Program} {w : World} {K : PySem.W.Frag} {mg : Str → Option Value} {base : Heap} {k n : Nat} {f : Addr} {cdv : Value} {A : Around} {outer : List Env} {s : Shared} {H : Hp} {E : XK}
  (T : FldTxt K mg)
  (b_list : mg ("list" : Str) = none)
  (hr : Room (k + 1) (A.deeper (envOfC "Body.__init__" (defScope s_Body___init__) s.heap.objs.size f cdv))) : MSs (cxOf (L2.CX P w) P w K mg base ["self", "things"] "Body.__init__" (defScope s_Body___init__) f cdv A outer s H E) (fun cls d _ H => E cls d H) (defBody s_Body___init__) t_Body___init__ :=
  (ms_one (ms_asg (m_Ty mc_list b_list (by decide +kernel) (ma_cons (m_var 1) ma_nil)) (mg_fld (c := "Body") (f := "things") T (by decide) (m_var 0))))
theorem len_o_Body___init__ : ∀ ds G Q X, sp_Body_init ds G Q X → ds.length = 2 := by
  intro ds G Q X h
  obtain ⟨_, h⟩ := h
  repeat (first | (obtain ⟨rfl, _⟩ := h; rfl; done) | obtain ⟨_, h⟩ := h)
theorem ok_Body___init__ {P : Program} {w : World} {K : PySem.W.Frag} {mg : Str → Option Value} {base : Heap} {h : Heap} (X : K.In h) (G : h.Ns mainGlobals mg) (c0 : (He.Fa.glo ("Body" : Str)).ok K = true) (c1 : (He.Fa.mkr ("Body" : Str)).ok K = true) {k n : Nat} {fd : FuncData} (F : FnP K "__init__" "Body.__init__" s_Body___init__ (He.ma K (He.ga K ("Body" : Str)) "__init__") fd)
  (T : FldTxt K mg)
  (b_list : mg ("list" : Str) = none)
  : MkD P w K mg base (k + 2) ("Body" : Str) sp_Body_init :=
  mkd_of (c := "Body") X G c0 c1 (FunD.bindsN F fun _ _ _ _ _ _ us hl => match us, hl with | [_, _], _ => rfl) (L3.fn_ok (He5.fun_of F) sc_Body___init__ t_Body___init__ (len_o_Body___init__) walk_Body_init fun cdv A outer s H E hr => der_Body___init__ (n := 0) T b_list hr)
theorem sc_State___init__ : FnScope ["self", "body", "wide", "ear"] ["self", "body", "wide", "ear"] (defScope s_State___init__) := ⟨rfl, rfl, rfl, by decide +kernel, rfl, by decide +kernel, by decide +kernel⟩
theorem der_State___init__ {P : Program} {w : World} {K : PySem.W.Frag} {mg : Str → Option Value} {base : Heap} {k n : Nat} {f : Addr} {cdv : Value} {A : Around} {outer : List Env} {s : Shared} {H : Hp} {E : XK}
  (T : FldTxt K mg)
  (k_BOXES : Kon K mg ("BOXES" : Str) c_BOXES)
  (b_list : mg ("list" : Str) = none)
  (hr : Room (k + 1) (A.deeper (envOfC "State.__init__" (defScope s_State___init__) s.heap.objs.size f cdv))) : MSs (cxOf (L2.CX P w) P w K mg base ["self", "body", "wide", "ear"] "State.__init__" (defScope s_State___init__) f cdv A outer s H E) (fun cls d _ H => E cls d H) (defBody s_State___init__) t_State___init__ :=
  (ms_cons (ms_asg (m_var 1) (mg_fld (c := "State") (f := "body") T (by decide) (m_var 0))) (ms_cons (ms_asg (m_var 2) (mg_fld (c := "State") (f := "wide") T (by decide) (m_var 0))) (ms_cons (ms_asg (m_op mo_mul (m_lst (ma_cons m_int ma_nil)) (m_kon k_BOXES)) (mg_fld (c := "State") (f := "boxes") T (by decide) (m_var 0))) (ms_cons (ms_asg m_int (mg_fld (c := "State") (f := "place") T (by decide) (m_var 0))) (ms_cons (ms_asg m_bl (mg_fld (c := "State") (f := "high") T (by decide) (m_var 0))) (ms_cons (ms_asg (m_tup (ma_cons m_int (ma_cons (m_var 2) ma_nil))) (mg_fld (c := "State") (f := "window") T (by decide) (m_var 0))) (ms_cons (ms_asg m_int (mg_fld (c := "State") (f := "left") T (by decide) (m_var 0))) (ms_cons (ms_asg (m_lst ma_nil) (mg_fld (c := "State") (f := "words") T (by decide) (m_var 0))) (ms_cons (ms_asg (m_Ty mc_list b_list (by decide +kernel) (ma_cons (m_var 3) ma_nil)) (mg_fld (c := "State") (f := "ear") T (by decide) (m_var 0))) (ms_cons (ms_asg m_str (mg_fld (c := "State") (f := "why") T (by decide) (m_var 0))) (ms_one (ms_asg m_int (mg_fld (c := "State") (f := "many") T (by decide) (m_var 0))))))))))))))
theorem len_o_State___init__ : ∀ ds G Q X, sp_State_init ds G Q X → ds.length = 4 := by
  intro ds G Q X h
  obtain ⟨_, h⟩ := h
  repeat (first | (obtain ⟨rfl, _⟩ := h; rfl; done) | obtain ⟨_, h⟩ := h)
theorem ok_State___init__ {P : Program} {w : World} {K : PySem.W.Frag} {mg : Str → Option Value} {base : Heap} {h : Heap} (X : K.In h) (G : h.Ns mainGlobals mg) (c0 : (He.Fa.glo ("State" : Str)).ok K = true) (c1 : (He.Fa.mkr ("State" : Str)).ok K = true) {k n : Nat} {fd : FuncData} (F : FnP K "__init__" "State.__init__" s_State___init__ (He.ma K (He.ga K ("State" : Str)) "__init__") fd)
  (T : FldTxt K mg)
  (k_BOXES : Kon K mg ("BOXES" : Str) c_BOXES)
  (b_list : mg ("list" : Str) = none)
  : MkD P w K mg base (k + 2) ("State" : Str) sp_State_init :=
  mkd_of (c := "State") X G c0 c1 (FunD.bindsN F fun _ _ _ _ _ _ us hl => match us, hl with | [_, _, _, _], _ => rfl) (L3.fn_ok (He5.fun_of F) sc_State___init__ t_State___init__ (len_o_State___init__) walk_State_init fun cdv A outer s H E hr => der_State___init__ (n := 0) T k_BOXES b_list hr)
theorem sc_Machine___init__ : FnScope ["self", "kind", "cells", "ear"] ["self", "kind", "cells", "ear"] (defScope s_Machine___init__) := ⟨rfl, rfl, rfl, by decide +kernel, rfl, by decide +kernel, by decide +kernel⟩
theorem der_Machine___init__ {P : Program} {w : World} {K : PySem.W.Frag} {mg : Str → Option Value} {base : Heap} {k n : Nat} {f : Addr} {cdv : Value} {A : Around} {outer : List Env} {s : Shared} {H : Hp} {E : XK}
  (f_need_kind : FnD P w K mg base k ("need_kind" : Str) sp_need_kind)
  (f_need_cells : FnD P w K mg base k ("need_cells" : Str) sp_need_cells)
  (f_need_ear : FnD P w K mg base k ("need_ear" : Str) sp_need_ear)
  (T : FldTxt K mg)
  (b_len : mg ("len" : Str) = none)
  (mk_Body : MkD P w K mg base k ("Body" : Str) sp_Body_init)
  (mk_State : MkD P w K mg base k ("State" : Str) sp_State_init)
  (hr : Room (k + 1) (A.deeper (envOfC "Machine.__init__" (defScope s_Machine___init__) s.heap.objs.size f cdv))) : MSs (cxOf (L2.CX P w) P w K mg base ["self", "kind", "cells", "ear"] "Machine.__init__" (defScope s_Machine___init__) f cdv A outer s H E) (fun cls d _ H => E cls d H) (defBody s_Machine___init__) t_Machine___init__ :=
  (ms_cons (ms_do (m_call f_need_kind (hr.mono (Nat.le_succ _)) (takes_of rfl rfl rfl rfl) (ma_cons (m_var 1) ma_nil))) (ms_cons (ms_do (m_call f_need_cells (hr.mono (Nat.le_succ _)) (takes_of rfl rfl rfl rfl) (ma_cons (m_var 2) ma_nil))) (ms_cons (ms_do (m_call f_need_ear (hr.mono (Nat.le_succ _)) (takes_of rfl rfl rfl rfl) (ma_cons (m_var 3) ma_nil))) (ms_cons (ms_asg (m_var 1) (mg_fld (c := "Machine") (f := "kind") T (by decide) (m_var 0))) (ms_one (ms_asg (m_make (c := "State") mk_State hr (takes_of rfl rfl rfl rfl) (ma_cons (m_make (c := "Body") mk_Body hr (takes_of rfl rfl rfl rfl) (ma_cons (m_var 2) ma_nil)) (ma_cons (m_B mc_len b_len PySem.boot_len (ma_cons (m_var 2) ma_nil)) (ma_cons (m_var 3) ma_nil)))) (mg_fld (c := "Machine") (f := "state") T (by decide) (m_var 0))))))))
theorem len_o_Machine___init__ : ∀ ds G Q X, sp_Machine_init ds G Q X → ds.length = 4 := by
  intro ds G Q X h
  obtain ⟨_, h⟩ := h
  repeat (first | (obtain ⟨rfl, _⟩ := h; rfl; done) | obtain ⟨_, h⟩ := h)
theorem ok_Machine___init__ {P : Program} {w : World} {K : PySem.W.Frag} {mg : Str → Option Value} {base : Heap} {h : Heap} (X : K.In h) (G : h.Ns mainGlobals mg) (c0 : (He.Fa.glo ("Machine" : Str)).ok K = true) (c1 : (He.Fa.mkr ("Machine" : Str)).ok K = true) {k n : Nat} {fd : FuncData} (F : FnP K "__init__" "Machine.__init__" s_Machine___init__ (He.ma K (He.ga K ("Machine" : Str)) "__init__") fd)
  (f_need_kind : FnD P w K mg base k ("need_kind" : Str) sp_need_kind)
  (f_need_cells : FnD P w K mg base k ("need_cells" : Str) sp_need_cells)
  (f_need_ear : FnD P w K mg base k ("need_ear" : Str) sp_need_ear)
  (T : FldTxt K mg)
  (b_len : mg ("len" : Str) = none)
  (mk_Body : MkD P w K mg base k ("Body" : Str) sp_Body_init)
  (mk_State : MkD P w K mg base k ("State" : Str) sp_State_init)
  : MkD P w K mg base (k + 2) ("Machine" : Str) sp_Machine_init :=
  mkd_of (c := "Machine") X G c0 c1 (FunD.bindsN F fun _ _ _ _ _ _ us hl => match us, hl with | [_, _, _, _], _ => rfl) (L3.fn_ok (He5.fun_of F) sc_Machine___init__ t_Machine___init__ (len_o_Machine___init__) walk_Machine_init fun cdv A outer s H E hr => der_Machine___init__ (n := 0) f_need_kind f_need_cells f_need_ear T b_len mk_Body mk_State hr)
theorem sc_l_worth : FnScope ["_law_thing"] ["_law_thing"] (defScope s_l_worth) := ⟨rfl, rfl, rfl, by decide +kernel, rfl, by decide +kernel, by decide +kernel⟩
theorem der_l_worth {P : Program} {w : World} {K : PySem.W.Frag} {mg : Str → Option Value} {base : Heap} {k n : Nat} {f : Addr} {cdv : Value} {A : Around} {outer : List Env} {s : Shared} {H : Hp} {E : XK}
  (b_isinstance : mg ("isinstance" : Str) = none)
  (b_int : mg ("int" : Str) = none)
  (hr : Room (k + 1) (A.deeper (envOfC "_law_worth" (defScope s_l_worth) s.heap.objs.size f cdv))) : MSs (cxOf (L2.CX P w) P w K mg base ["_law_thing"] "_law_worth" (defScope s_l_worth) f cdv A outer s H E) (fun cls d _ H => E cls d H) (defBody s_l_worth) t_l_worth :=
  (ms_one (ms_ret (m_ifE (m_tval (m_isi (n := "int") b_isinstance b_int (by decide +kernel) (by decide) (m_var 0))) (m_var 0) m_int)))
theorem len_o_l_worth : ∀ ds G Q X, sp_l_worth ds G Q X → ds.length = 1 := by
  intro ds G Q X h
  obtain ⟨_, h⟩ := h
  repeat (first | (obtain ⟨rfl, _⟩ := h; rfl; done) | obtain ⟨_, h⟩ := h)
theorem ok_l_worth {P : Program} {w : World} {K : PySem.W.Frag} {mg : Str → Option Value} {base : Heap} {k n : Nat} {f : Addr} {fd : FuncData} (F : FnP K "_law_worth" "_law_worth" s_l_worth f fd) (g : mg ("_law_worth" : Str) = some (.ref f))
  (b_isinstance : mg ("isinstance" : Str) = none)
  (b_int : mg ("int" : Str) = none)
  : FnD P w K mg base (k + 2) ("_law_worth" : Str) sp_l_worth :=
  ⟨f, fd, ["_law_thing"], g, F.kp, FunD.bindsN F fun _ _ _ _ _ _ us hl => match us, hl with | [_], _ => rfl, L3.fn_ok (He5.fun_of F) sc_l_worth t_l_worth (len_o_l_worth) walk_l_worth fun cdv A outer s H E hr => der_l_worth (n := 0) b_isinstance b_int hr⟩
theorem sc_l_caught : FnScope ["_law_m", "_law_number_here", "_law_more", "_law_told"] ["_law_m", "_law_number_here", "_law_more"] (defScope s_l_caught) := ⟨rfl, rfl, rfl, by decide +kernel, rfl, by decide +kernel, by decide +kernel⟩
theorem der_l_caught {P : Program} {w : World} {K : PySem.W.Frag} {mg : Str → Option Value} {base : Heap} {k n : Nat} {f : Addr} {cdv : Value} {A : Around} {outer : List Env} {s : Shared} {H : Hp} {E : XK}
  (f_l_worth : FnD P w K mg base k ("_law_worth" : Str) sp_l_worth)
  (b_len : mg ("len" : Str) = none)
  (hr : Room (k + 1) (A.deeper (envOfC "_law_caught" (defScope s_l_caught) s.heap.objs.size f cdv))) : MSs (cxOf (L2.CX P w) P w K mg base ["_law_m", "_law_number_here", "_law_more", "_law_told"] "_law_caught" (defScope s_l_caught) f cdv A outer s H E) (fun cls d _ H => E cls d H) (defBody s_l_caught) t_l_caught :=
  (ms_cons (ms_if (m_tval (m_dget (huR hr) (m_var 0) m_str)) (ms_cons (ms_dput (huR hr) (m_dget (huR hr) (m_disp (mp_cons m_int m_str (mp_cons m_int m_str mp_nil))) (m_var 1)) (m_var 0) m_str) (ms_one ms_retN)) ms_nil) (ms_cons (ms_asg (m_lst (ma_cons (m_dget (huR hr) (m_var 0) m_str) (ma_cons (m_ix (m_dget (huR hr) (m_var 0) m_str) m_int) (ma_cons (m_ix (m_dget (huR hr) (m_var 0) m_str) m_int) (ma_cons (m_var 1) (ma_cons (m_var 2) ma_nil)))))) (mg_name (j := 3) sc_l_caught.nd)) (ms_cons (ms_dput (huR hr) (m_op mo_add (m_op mo_add (m_op mo_add (m_var 3) (m_sl (m_dget (huR hr) (m_var 0) m_str) (mo_some m_int) (mo_some m_int))) (m_dget (huR hr) (m_var 0) m_str)) (m_sl (m_dget (huR hr) (m_var 0) m_str) (mo_some m_int) mo_none)) (m_var 0) m_str) (ms_one (ms_do (m_dupd (huR hr) (m_var 0) (m_disp (mp_cons m_str m_bl (mp_cons m_str (m_tup (ma_cons m_int (ma_cons (m_B mc_len b_len PySem.boot_len (ma_cons (m_dget (huR hr) (m_var 0) m_str) ma_nil)) ma_nil))) (mp_cons m_str m_int (mp_cons m_str (m_call f_l_worth (hr.mono (Nat.le_succ _)) (takes_of rfl rfl rfl rfl) (ma_cons (m_ix (m_dget (huR hr) (m_var 0) m_str) m_int) ma_nil)) mp_nil)))))))))))
theorem len_o_l_caught : ∀ ds G Q X, sp_l_caught ds G Q X → ds.length = 3 := by
  intro ds G Q X h
  obtain ⟨_, h⟩ := h
  repeat (first | (obtain ⟨rfl, _⟩ := h; rfl; done) | obtain ⟨_, h⟩ := h)
theorem ok_l_caught {P : Program} {w : World} {K : PySem.W.Frag} {mg : Str → Option Value} {base : Heap} {k n : Nat} {f : Addr} {fd : FuncData} (F : FnP K "_law_caught" "_law_caught" s_l_caught f fd) (g : mg ("_law_caught" : Str) = some (.ref f))
  (f_l_worth : FnD P w K mg base k ("_law_worth" : Str) sp_l_worth)
  (b_len : mg ("len" : Str) = none)
  : FnD P w K mg base (k + 2) ("_law_caught" : Str) sp_l_caught :=
  ⟨f, fd, ["_law_m", "_law_number_here", "_law_more"], g, F.kp, FunD.bindsN F fun _ _ _ _ _ _ us hl => match us, hl with | [_, _, _], _ => rfl, L3.fn_ok (He5.fun_of F) sc_l_caught t_l_caught (len_o_l_caught) walk_l_caught fun cdv A outer s H E hr => der_l_caught (n := 0) f_l_worth b_len hr⟩
theorem sc_l_own : FnScope ["_law_kind_here", "_law_word", "_law_words"] ["_law_kind_here", "_law_word"] (defScope s_l_own) := ⟨rfl, rfl, rfl, by decide +kernel, rfl, by decide +kernel, by decide +kernel⟩
theorem der_l_own {P : Program} {w : World} {K : PySem.W.Frag} {mg : Str → Option Value} {base : Heap} {k n : Nat} {f : Addr} {cdv : Value} {A : Around} {outer : List Env} {s : Shared} {H : Hp} {E : XK}
  (hr : Room (k + 1) (A.deeper (envOfC "_law_own" (defScope s_l_own) s.heap.objs.size f cdv))) : MSs (cxOf (L2.CX P w) P w K mg base ["_law_kind_here", "_law_word", "_law_words"] "_law_own" (defScope s_l_own) f cdv A outer s H E) (fun cls d _ H => E cls d H) (defBody s_l_own) t_l_own :=
  (ms_cons (ms_asg (m_lst (ma_cons m_str (ma_cons m_str (ma_cons m_str (ma_cons m_str (ma_cons m_str (ma_cons m_str (ma_cons m_str ma_nil)))))))) (mg_name (j := 2) sc_l_own.nd)) (ms_one (ms_ret (m_ifE (m_tcmp mo_in (m_var 1) (m_var 2)) (m_ix (m_var 0) (m_lm PySem.F.plainAttrs_list PySem.F.slot_list_index PySem.F.type_list_index mm_index (m_var 2) (ma_cons (m_var 1) ma_nil))) m_non))))
theorem len_o_l_own : ∀ ds G Q X, sp_l_own ds G Q X → ds.length = 2 := by
  intro ds G Q X h
  obtain ⟨_, h⟩ := h
  repeat (first | (obtain ⟨rfl, _⟩ := h; rfl; done) | obtain ⟨_, h⟩ := h)
theorem ok_l_own {P : Program} {w : World} {K : PySem.W.Frag} {mg : Str → Option Value} {base : Heap} {k n : Nat} {f : Addr} {fd : FuncData} (F : FnP K "_law_own" "_law_own" s_l_own f fd) (g : mg ("_law_own" : Str) = some (.ref f))
  : FnD P w K mg base (k + 2) ("_law_own" : Str) sp_l_own :=
  ⟨f, fd, ["_law_kind_here", "_law_word"], g, F.kp, FunD.bindsN F fun _ _ _ _ _ _ us hl => match us, hl with | [_, _], _ => rfl, L3.fn_ok (He5.fun_of F) sc_l_own t_l_own (len_o_l_own) walk_l_own fun cdv A outer s H E hr => der_l_own (n := 0)  hr⟩
theorem sc_l_plain : FnScope ["_law_m", "_law_row_here", "_law_after", "_law_word", "_law_boxes", "_law_address", "_law_one", "_law_other"] ["_law_m", "_law_row_here"] (defScope s_l_plain) := ⟨rfl, rfl, rfl, by decide +kernel, rfl, by decide +kernel, by decide +kernel⟩
theorem der_l_plain {P : Program} {w : World} {K : PySem.W.Frag} {mg : Str → Option Value} {base : Heap} {k n : Nat} {f : Addr} {cdv : Value} {A : Around} {outer : List Env} {s : Shared} {H : Hp} {E : XK}
  (f_l_worth : FnD P w K mg base k ("_law_worth" : Str) sp_l_worth)
  (f_l_caught : FnD P w K mg base k ("_law_caught" : Str) sp_l_caught)
  (b_int : mg ("int" : Str) = none)
  (hr : Room (k + 1) (A.deeper (envOfC "_law_plain" (defScope s_l_plain) s.heap.objs.size f cdv))) : MSs (cxOf (L2.CX P w) P w K mg base ["_law_m", "_law_row_here", "_law_after", "_law_word", "_law_boxes", "_law_address", "_law_one", "_law_other"] "_law_plain" (defScope s_l_plain) f cdv A outer s H E) (fun cls d _ H => E cls d H) (defBody s_l_plain) t_l_plain :=
  (ms_cons (ms_par rfl sc_l_plain.nd rfl rfl (by decide) rfl rfl (ma_cons (m_ix (m_var 1) m_int) (ma_cons (m_dget (huR hr) (m_var 0) m_str) ma_nil)) rfl) (ms_cons (ms_asg (m_op mo_add (m_dget (huR hr) (m_var 0) m_str) m_int) (mg_name (j := 2) sc_l_plain.nd)) (ms_cons (ms_if (m_tcmp mo_in (m_var 3) (m_tup (ma_cons m_str (ma_cons m_str ma_nil)))) (ms_cons (ms_asg (m_call f_l_worth (hr.mono (Nat.le_succ _)) (takes_of rfl rfl rfl rfl) (ma_cons (m_ix (m_var 4) (m_ifE (m_tcmp (mo_eq (huR hr)) (m_var 3) m_str) (m_ix (m_var 1) m_int) (m_ix (m_var 1) m_int))) ma_nil)) (mg_name (j := 5) sc_l_plain.nd)) (ms_cons (ms_if (m_tcmp mo_ge (m_var 5) (m_ix (m_dget (huR hr) (m_var 0) m_str) m_int)) (ms_cons (ms_do (m_call f_l_caught (hr.mono (Nat.le_succ _)) (takes_of rfl rfl rfl rfl) (ma_cons (m_var 0) (ma_cons m_int (ma_cons m_int ma_nil))))) (ms_one (ms_ret m_bl))) ms_nil) (ms_one (ms_if (m_tcmp (mo_eq (huR hr)) (m_var 3) m_str) (ms_one (ms_asg (m_ix (m_dget (huR hr) (m_var 0) m_str) (m_op mo_add (m_ix (m_dget (huR hr) (m_var 0) m_str) m_int) (m_var 5))) (mg_sub (m_var 4) (m_ix (m_var 1) m_int)))) (ms_one (ms_asg (m_ix (m_var 4) (m_ix (m_var 1) m_int)) (mg_sub (m_dget (huR hr) (m_var 0) m_str) (m_op mo_add (m_ix (m_dget (huR hr) (m_var 0) m_str) m_int) (m_var 5))))))))) ms_nil) (ms_cons (ms_if (m_tcmp (mo_eq (huR hr)) (m_var 3) m_str) (ms_one (ms_asg (m_ix (m_var 1) m_int) (mg_sub (m_var 4) (m_ix (m_var 1) m_int)))) ms_nil) (ms_cons (ms_if (m_tcmp mo_in (m_var 3) (m_tup (ma_cons m_str (ma_cons m_str ma_nil)))) (ms_cons (ms_par rfl sc_l_plain.nd rfl rfl (by decide) rfl rfl (ma_cons (m_call f_l_worth (hr.mono (Nat.le_succ _)) (takes_of rfl rfl rfl rfl) (ma_cons (m_ix (m_var 4) (m_ix (m_var 1) m_int)) ma_nil)) (ma_cons (m_call f_l_worth (hr.mono (Nat.le_succ _)) (takes_of rfl rfl rfl rfl) (ma_cons (m_ix (m_var 4) (m_ix (m_var 1) m_int)) ma_nil)) ma_nil)) rfl) (ms_one (ms_asg (m_op mo_mod (m_ix (m_lst (ma_cons (m_op mo_add (m_var 6) (m_var 7)) (ma_cons (m_op mo_sub (m_var 6) (m_var 7)) ma_nil))) (m_Ty mc_intb b_int (by decide +kernel) (ma_cons (m_cmp (mo_eq (huR hr)) (m_var 3) m_str) ma_nil))) m_int) (mg_sub (m_var 4) (m_ix (m_var 1) m_int))))) ms_nil) (ms_cons (ms_if (m_tw (mw_or (m_tcmp (mo_eq (huR hr)) (m_var 3) m_str) (mw_or1 (m_tw (mw_and (m_tcmp (mo_eq (huR hr)) (m_var 3) m_str) (mw_and1 (m_tcmp (mo_eq (huR hr)) (m_call f_l_worth (hr.mono (Nat.le_succ _)) (takes_of rfl rfl rfl rfl) (ma_cons (m_ix (m_var 4) (m_ix (m_var 1) m_int)) ma_nil)) m_int))))))) (ms_one (ms_asg (m_ix (m_var 1) (m_neg m_int)) (mg_name (j := 2) sc_l_plain.nd))) ms_nil) (ms_cons (ms_dput (huR hr) (m_var 2) (m_var 0) m_str) (ms_one (ms_ret m_bl)))))))))
theorem len_o_l_plain : ∀ ds G Q X, sp_l_plain ds G Q X → ds.length = 2 := by
  intro ds G Q X h
  obtain ⟨_, h⟩ := h
  repeat (first | (obtain ⟨rfl, _⟩ := h; rfl; done) | obtain ⟨_, h⟩ := h)
theorem ok_l_plain {P : Program} {w : World} {K : PySem.W.Frag} {mg : Str → Option Value} {base : Heap} {k n : Nat} {f : Addr} {fd : FuncData} (F : FnP K "_law_plain" "_law_plain" s_l_plain f fd) (g : mg ("_law_plain" : Str) = some (.ref f))
  (f_l_worth : FnD P w K mg base k ("_law_worth" : Str) sp_l_worth)
  (f_l_caught : FnD P w K mg base k ("_law_caught" : Str) sp_l_caught)
  (b_int : mg ("int" : Str) = none)
  : FnD P w K mg base (k + 2) ("_law_plain" : Str) sp_l_plain :=
  ⟨f, fd, ["_law_m", "_law_row_here"], g, F.kp, FunD.bindsN F fun _ _ _ _ _ _ us hl => match us, hl with | [_, _], _ => rfl, L3.fn_ok (He5.fun_of F) sc_l_plain t_l_plain (len_o_l_plain) walk_l_plain fun cdv A outer s H E hr => der_l_plain (n := 0) f_l_worth f_l_caught b_int hr⟩
theorem sc_l_counts : FnScope ["_law_m"] ["_law_m"] (defScope s_l_counts) := ⟨rfl, rfl, rfl, by decide +kernel, rfl, by decide +kernel, by decide +kernel⟩
theorem der_l_counts {P : Program} {w : World} {K : PySem.W.Frag} {mg : Str → Option Value} {base : Heap} {k n : Nat} {f : Addr} {cdv : Value} {A : Around} {outer : List Env} {s : Shared} {H : Hp} {E : XK}
  (f_l_caught : FnD P w K mg base k ("_law_caught" : Str) sp_l_caught)
  (hr : Room (k + 1) (A.deeper (envOfC "_law_counts" (defScope s_l_counts) s.heap.objs.size f cdv))) : MSs (cxOf (L2.CX P w) P w K mg base ["_law_m"] "_law_counts" (defScope s_l_counts) f cdv A outer s H E) (fun cls d _ H => E cls d H) (defBody s_l_counts) t_l_counts :=
  (ms_one (ms_if (m_tw (mw_and (m_tnot (m_tval (m_dget (huR hr) (m_var 0) m_str))) (mw_and1 (m_tcmp mo_gt (m_dget (huR hr) (m_var 0) m_str) m_int)))) (ms_cons (ms_dput (huR hr) (m_op mo_sub (m_dget (huR hr) (m_var 0) m_str) m_int) (m_var 0) m_str) (ms_one (ms_if (m_tcmp (mo_eq (huR hr)) (m_dget (huR hr) (m_var 0) m_str) m_int) (ms_one (ms_do (m_call f_l_caught (hr.mono (Nat.le_succ _)) (takes_of rfl rfl rfl rfl) (ma_cons (m_var 0) (ma_cons m_int (ma_cons m_int ma_nil)))))) ms_nil))) ms_nil))
theorem len_o_l_counts : ∀ ds G Q X, sp_l_counts ds G Q X → ds.length = 1 := by
  intro ds G Q X h
  obtain ⟨_, h⟩ := h
  repeat (first | (obtain ⟨rfl, _⟩ := h; rfl; done) | obtain ⟨_, h⟩ := h)
theorem ok_l_counts {P : Program} {w : World} {K : PySem.W.Frag} {mg : Str → Option Value} {base : Heap} {k n : Nat} {f : Addr} {fd : FuncData} (F : FnP K "_law_counts" "_law_counts" s_l_counts f fd) (g : mg ("_law_counts" : Str) = some (.ref f))
  (f_l_caught : FnD P w K mg base k ("_law_caught" : Str) sp_l_caught)
  : FnD P w K mg base (k + 2) ("_law_counts" : Str) sp_l_counts :=
  ⟨f, fd, ["_law_m"], g, F.kp, FunD.bindsN F fun _ _ _ _ _ _ us hl => match us, hl with | [_], _ => rfl, L3.fn_ok (He5.fun_of F) sc_l_counts t_l_counts (len_o_l_counts) walk_l_counts fun cdv A outer s H E hr => der_l_counts (n := 0) f_l_caught hr⟩
theorem sc_l_low : FnScope ["_law_m", "_law_row_here", "_law_mouth", "_law_ear_here", "_law_word", "_law_boxes"] ["_law_m", "_law_row_here", "_law_mouth", "_law_ear_here"] (defScope s_l_low) := ⟨rfl, rfl, rfl, by decide +kernel, rfl, by decide +kernel, by decide +kernel⟩
theorem der_l_low {P : Program} {w : World} {K : PySem.W.Frag} {mg : Str → Option Value} {base : Heap} {k n : Nat} {f : Addr} {cdv : Value} {A : Around} {outer : List Env} {s : Shared} {H : Hp} {E : XK}
  (f_l_worth : FnD P w K mg base k ("_law_worth" : Str) sp_l_worth)
  (b_int : mg ("int" : Str) = none)
  (hr : Room (k + 1) (A.deeper (envOfC "_law_low" (defScope s_l_low) s.heap.objs.size f cdv))) : MSs (cxOf (L2.CX P w) P w K mg base ["_law_m", "_law_row_here", "_law_mouth", "_law_ear_here", "_law_word", "_law_boxes"] "_law_low" (defScope s_l_low) f cdv A outer s H E) (fun cls d _ H => E cls d H) (defBody s_l_low) t_l_low :=
  (ms_cons (ms_par rfl sc_l_low.nd rfl rfl (by decide) rfl rfl (ma_cons (m_ix (m_var 1) m_int) (ma_cons (m_dget (huR hr) (m_var 0) m_str) ma_nil)) rfl) (ms_cons (ms_if (m_tcmp (mo_eq (huR hr)) (m_var 4) m_str) (ms_one (ms_do (m_lm PySem.F.plainAttrs_list PySem.F.slot_list_append PySem.F.type_list_append mm_append (m_var 2) (ma_cons (m_call f_l_worth (hr.mono (Nat.le_succ _)) (takes_of rfl rfl rfl rfl) (ma_cons (m_ix (m_var 5) (m_ix (m_var 1) m_int)) ma_nil)) ma_nil)))) ms_nil) (ms_cons (ms_if (m_tcmp (mo_eq (huR hr)) (m_var 4) m_str) (ms_one (ms_asg (m_ifE (m_tcmp (mo_ne (huR hr)) (m_var 3) (m_lst ma_nil)) (m_lm PySem.F.plainAttrs_list PySem.F.slot_list_pop PySem.F.type_list_pop mm_pop0 (m_var 3) (ma_cons m_int ma_nil)) m_int) (mg_sub (m_var 5) (m_ix (m_var 1) m_int)))) ms_nil) (ms_cons (ms_if (m_tcmp mo_in (m_var 4) (m_tup (ma_cons m_str (ma_cons m_str ma_nil)))) (ms_one (ms_asg (m_ix (m_lst (ma_cons m_int (ma_cons (m_ix (m_dget (huR hr) (m_var 0) m_str) m_int) ma_nil))) (m_Ty mc_intb b_int (by decide +kernel) (ma_cons (m_cmp (mo_eq (huR hr)) (m_var 4) m_str) ma_nil))) (mg_sub (m_var 5) (m_ix (m_var 1) m_int)))) ms_nil) (ms_one (ms_dput (huR hr) (m_op mo_add (m_dget (huR hr) (m_var 0) m_str) m_int) (m_var 0) m_str))))))
theorem len_o_l_low : ∀ ds G Q X, sp_l_low ds G Q X → ds.length = 4 := by
  intro ds G Q X h
  obtain ⟨_, h⟩ := h
  repeat (first | (obtain ⟨rfl, _⟩ := h; rfl; done) | obtain ⟨_, h⟩ := h)
theorem ok_l_low {P : Program} {w : World} {K : PySem.W.Frag} {mg : Str → Option Value} {base : Heap} {k n : Nat} {f : Addr} {fd : FuncData} (F : FnP K "_law_low" "_law_low" s_l_low f fd) (g : mg ("_law_low" : Str) = some (.ref f))
  (f_l_worth : FnD P w K mg base k ("_law_worth" : Str) sp_l_worth)
  (b_int : mg ("int" : Str) = none)
  : FnD P w K mg base (k + 2) ("_law_low" : Str) sp_l_low :=
  ⟨f, fd, ["_law_m", "_law_row_here", "_law_mouth", "_law_ear_here"], g, F.kp, FunD.bindsN F fun _ _ _ _ _ _ us hl => match us, hl with | [_, _, _, _], _ => rfl, L3.fn_ok (He5.fun_of F) sc_l_low t_l_low (len_o_l_low) walk_l_low fun cdv A outer s H E hr => der_l_low (n := 0) f_l_worth b_int hr⟩
theorem sc_l_high : FnScope ["_law_m", "_law_row_here", "_law_after", "_law_word", "_law_boxes", "_law_first", "_law_size", "_law_start_here", "_law_thing"] ["_law_m", "_law_row_here"] (defScope s_l_high) := ⟨rfl, rfl, rfl, by decide +kernel, rfl, by decide +kernel, by decide +kernel⟩
theorem der_l_high {P : Program} {w : World} {K : PySem.W.Frag} {mg : Str → Option Value} {base : Heap} {k n : Nat} {f : Addr} {cdv : Value} {A : Around} {outer : List Env} {s : Shared} {H : Hp} {E : XK}
  (f_l_worth : FnD P w K mg base k ("_law_worth" : Str) sp_l_worth)
  (b_len : mg ("len" : Str) = none)
  (b_int : mg ("int" : Str) = none)
  (hr : Room (k + 1) (A.deeper (envOfC "_law_high" (defScope s_l_high) s.heap.objs.size f cdv))) : MSs (cxOf (L2.CX P w) P w K mg base ["_law_m", "_law_row_here", "_law_after", "_law_word", "_law_boxes", "_law_first", "_law_size", "_law_start_here", "_law_thing"] "_law_high" (defScope s_l_high) f cdv A outer s H E) (fun cls d _ H => E cls d H) (defBody s_l_high) t_l_high :=
  (ms_cons (ms_par rfl sc_l_high.nd rfl rfl (by decide) rfl rfl (ma_cons (m_ix (m_var 1) m_int) (ma_cons (m_dget (huR hr) (m_var 0) m_str) ma_nil)) rfl) (ms_cons (ms_asg (m_op mo_add (m_dget (huR hr) (m_var 0) m_str) m_int) (mg_name (j := 2) sc_l_high.nd)) (ms_cons (ms_if (m_tcmp (mo_eq (huR hr)) (m_var 3) m_str) (ms_one (ms_do (m_lm PySem.F.plainAttrs_list PySem.F.slot_list_append PySem.F.type_list_append mm_append (m_dget (huR hr) (m_var 0) m_str) (ma_cons (m_call f_l_worth (hr.mono (Nat.le_succ _)) (takes_of rfl rfl rfl rfl) (ma_cons (m_ix (m_var 4) (m_ix (m_var 1) m_int)) ma_nil)) ma_nil)))) ms_nil) (ms_cons (ms_if (m_tcmp (mo_eq (huR hr)) (m_var 3) m_str) (ms_cons (ms_asg (m_ix (m_op mo_add (m_dget (huR hr) (m_var 0) m_str) (m_lst (ma_cons m_int ma_nil))) m_int) (mg_sub (m_var 4) (m_ix (m_var 1) m_int))) (ms_one (ms_dput (huR hr) (m_sl (m_dget (huR hr) (m_var 0) m_str) (mo_some m_int) mo_none) (m_var 0) m_str))) ms_nil) (ms_cons (ms_if (m_tcmp mo_in (m_var 3) (m_tup (ma_cons m_str (ma_cons m_str ma_nil)))) (ms_one (ms_asg (m_ix (m_lst (ma_cons m_int (ma_cons (m_B mc_len b_len PySem.boot_len (ma_cons (m_dget (huR hr) (m_var 0) m_str) ma_nil)) ma_nil))) (m_Ty mc_intb b_int (by decide +kernel) (ma_cons (m_cmp (mo_eq (huR hr)) (m_var 3) m_str) ma_nil))) (mg_sub (m_var 4) (m_ix (m_var 1) m_int)))) ms_nil) (ms_cons (ms_if (m_tcmp (mo_eq (huR hr)) (m_var 3) m_str) (ms_one (ms_dput (huR hr) (m_call f_l_worth (hr.mono (Nat.le_succ _)) (takes_of rfl rfl rfl rfl) (ma_cons (m_ix (m_var 4) (m_ix (m_var 1) m_int)) ma_nil)) (m_var 0) m_str)) ms_nil) (ms_cons (ms_if (m_tcmp (mo_eq (huR hr)) (m_var 3) m_str) (ms_one (ms_dput (huR hr) m_str (m_var 0) m_str)) ms_nil) (ms_cons (ms_if (m_tcmp (mo_eq (huR hr)) (m_var 3) m_str) (ms_cons (ms_asg (m_comp rfl sc_l_high.nd (own := [("_law_thing", 8)]) (ct := (.one 8)) (mi_lst (m_sl (m_var 4) (mo_some (m_ix (m_var 1) m_int)) (mo_some (m_op mo_add (m_ix (m_var 1) m_int) m_int)))) (blkOk_by (N := ["_law_m", "_law_row_here", "_law_after", "_law_word", "_law_boxes", "_law_first", "_law_size", "_law_start_here", "_law_thing"]) (sc := defScope s_l_high) (by decide +kernel)) (fun _ _ _ _ _ => pg_name (i := 8) sc_l_high.nd rfl (Or.inl rfl)) (fun _ _ _ _ _ => mts_nil) (fun _ _ _ _ _ => (m_call f_l_worth (hr.mono (Nat.le_succ _)) takes0 (ma_cons (m_var 8) ma_nil)))) (mg_lst (n := 3) rfl (mgs_cons (mg_name (j := 5) sc_l_high.nd) (mgs_cons (mg_name (j := 6) sc_l_high.nd) (mgs_cons (mg_name (j := 7) sc_l_high.nd) mgs_nil))))) (ms_one (ms_if (m_tcmp mo_gt (m_op mo_add (m_var 5) (m_var 6)) (m_B mc_len b_len PySem.boot_len (ma_cons (m_dget (huR hr) (m_var 0) m_str) ma_nil))) (ms_one (ms_dput (huR hr) m_str (m_var 0) m_str)) (ms_cons (ms_do (m_dupd (huR hr) (m_var 0) (m_disp (mp_cons m_str (m_tup (ma_cons (m_var 5) (ma_cons (m_var 6) ma_nil))) (mp_cons m_str m_bl mp_nil))))) (ms_one (ms_asg (m_var 7) (mg_name (j := 2) sc_l_high.nd))))))) ms_nil) (ms_one (ms_if (m_tcmp (mo_ne (huR hr)) (m_dget (huR hr) (m_var 0) m_str) m_str) (ms_one (ms_dput (huR hr) (m_var 2) (m_var 0) m_str)) ms_nil))))))))))
theorem len_o_l_high : ∀ ds G Q X, sp_l_high ds G Q X → ds.length = 2 := by
  intro ds G Q X h
  obtain ⟨_, h⟩ := h
  repeat (first | (obtain ⟨rfl, _⟩ := h; rfl; done) | obtain ⟨_, h⟩ := h)
theorem ok_l_high {P : Program} {w : World} {K : PySem.W.Frag} {mg : Str → Option Value} {base : Heap} {k n : Nat} {f : Addr} {fd : FuncData} (F : FnP K "_law_high" "_law_high" s_l_high f fd) (g : mg ("_law_high" : Str) = some (.ref f))
  (f_l_worth : FnD P w K mg base k ("_law_worth" : Str) sp_l_worth)
  (b_len : mg ("len" : Str) = none)
  (b_int : mg ("int" : Str) = none)
  : FnD P w K mg base (k + 2) ("_law_high" : Str) sp_l_high :=
  ⟨f, fd, ["_law_m", "_law_row_here"], g, F.kp, FunD.bindsN F fun _ _ _ _ _ _ us hl => match us, hl with | [_, _], _ => rfl, L3.fn_ok (He5.fun_of F) sc_l_high t_l_high (len_o_l_high) walk_l_high fun cdv A outer s H E hr => der_l_high (n := 0) f_l_worth b_len b_int hr⟩
theorem sc_l_step : FnScope ["_law_m", "_law_kind_here", "_law_way", "_law_mouth", "_law_thing"] ["_law_m", "_law_kind_here", "_law_way", "_law_mouth"] (defScope s_l_step) := ⟨rfl, rfl, rfl, by decide +kernel, rfl, by decide +kernel, by decide +kernel⟩
theorem der_l_step {P : Program} {w : World} {K : PySem.W.Frag} {mg : Str → Option Value} {base : Heap} {k n : Nat} {f : Addr} {cdv : Value} {A : Around} {outer : List Env} {s : Shared} {H : Hp} {E : XK}
  (b_isinstance : mg ("isinstance" : Str) = none)
  (b_tuple : mg ("tuple" : Str) = none)
  (f_l_caught : FnD P w K mg base k ("_law_caught" : Str) sp_l_caught)
  (f_l_own : FnD P w K mg base k ("_law_own" : Str) sp_l_own)
  (f_l_plain : FnD P w K mg base k ("_law_plain" : Str) sp_l_plain)
  (f_l_counts : FnD P w K mg base k ("_law_counts" : Str) sp_l_counts)
  (f_l_low : FnD P w K mg base k ("_law_low" : Str) sp_l_low)
  (f_l_high : FnD P w K mg base k ("_law_high" : Str) sp_l_high)
  (hr : Room (k + 1) (A.deeper (envOfC "_law_step" (defScope s_l_step) s.heap.objs.size f cdv))) : MSs (cxOf (L2.CX P w) P w K mg base ["_law_m", "_law_kind_here", "_law_way", "_law_mouth", "_law_thing"] "_law_step" (defScope s_l_step) f cdv A outer s H E) (fun cls d _ H => E cls d H) (defBody s_l_step) t_l_step :=
  (ms_cons (ms_dput (huR hr) (m_op mo_add (m_dget (huR hr) (m_var 0) m_str) m_int) (m_var 0) m_str) (ms_cons (ms_asg (m_ifE (m_tcmp mo_lt (m_dget (huR hr) (m_var 0) m_str) (m_ix (m_dget (huR hr) (m_var 0) m_str) m_int)) (m_ix (m_dget (huR hr) (m_var 0) m_str) (m_op mo_add (m_ix (m_dget (huR hr) (m_var 0) m_str) m_int) (m_dget (huR hr) (m_var 0) m_str))) m_non) (mg_name (j := 4) sc_l_step.nd)) (ms_one (ms_if (m_tnot (m_tval (m_isi (n := "tuple") b_isinstance b_tuple (by decide +kernel) (by decide) (m_var 4)))) (ms_one (ms_do (m_call f_l_caught (hr.mono (Nat.le_succ _)) (takes_of rfl rfl rfl rfl) (ma_cons (m_var 0) (ma_cons (m_ifE (m_tisN (m_var 4)) m_int m_int) (ma_cons m_int ma_nil)))))) (ms_one (ms_if (m_tcmp (mo_eq (huR hr)) (m_ix (m_var 4) m_int) m_str) (ms_cons (ms_dput (huR hr) (m_op mo_add (m_dget (huR hr) (m_var 0) m_str) m_int) (m_var 0) m_str) (ms_one (ms_if (m_tnot (m_tval (m_dget (huR hr) (m_var 0) m_str))) (ms_one (ms_do (m_call f_l_caught (hr.mono (Nat.le_succ _)) (takes_of rfl rfl rfl rfl) (ma_cons (m_var 0) (ma_cons m_int (ma_cons (m_ix (m_var 4) m_int) ma_nil)))))) ms_nil))) (ms_one (ms_if (m_tisN (m_call f_l_own (hr.mono (Nat.le_succ _)) (takes_of rfl rfl rfl rfl) (ma_cons (m_var 1) (ma_cons (m_ix (m_var 4) m_int) ma_nil)))) (ms_one (ms_if (m_tval (m_call f_l_plain (hr.mono (Nat.le_succ _)) (takes_of rfl rfl rfl rfl) (ma_cons (m_var 0) (ma_cons (m_var 4) ma_nil)))) (ms_one (ms_do (m_call f_l_counts (hr.mono (Nat.le_succ _)) (takes_of rfl rfl rfl rfl) (ma_cons (m_var 0) ma_nil)))) ms_nil)) (ms_one (ms_if (m_tw (mw_and (m_tnotN (m_var 2)) (mw_and (m_tnot (m_tval (m_call f_l_own (hr.mono (Nat.le_succ _)) (takes_of rfl rfl rfl rfl) (ma_cons (m_var 1) (ma_cons (m_ix (m_var 4) m_int) ma_nil))))) (mw_and1 (m_tw (mw_or (m_tcmp (mo_eq (huR hr)) (m_var 2) m_str) (mw_or1 (m_tnot (m_tval (m_dget (huR hr) (m_var 0) m_str)))))))))) (ms_cons (ms_do (m_call f_l_low (hr.mono (Nat.le_succ _)) (takes_of rfl rfl rfl rfl) (ma_cons (m_var 0) (ma_cons (m_var 4) (ma_cons (m_var 3) (ma_cons (m_lst ma_nil) ma_nil)))))) (ms_one (ms_do (m_call f_l_counts (hr.mono (Nat.le_succ _)) (takes_of rfl rfl rfl rfl) (ma_cons (m_var 0) ma_nil))))) (ms_one (ms_if (m_tval (m_dget (huR hr) (m_var 0) m_str)) (ms_one (ms_do (m_call f_l_high (hr.mono (Nat.le_succ _)) (takes_of rfl rfl rfl rfl) (ma_cons (m_var 0) (ma_cons (m_var 4) ma_nil))))) (ms_one (ms_if (m_tval (m_call f_l_own (hr.mono (Nat.le_succ _)) (takes_of rfl rfl rfl rfl) (ma_cons (m_var 1) (ma_cons (m_ix (m_var 4) m_int) ma_nil)))) (ms_one (ms_do (m_call f_l_caught (hr.mono (Nat.le_succ _)) (takes_of rfl rfl rfl rfl) (ma_cons (m_var 0) (ma_cons m_int (ma_cons m_int ma_nil)))))) (ms_cons (ms_do (m_call f_l_low (hr.mono (Nat.le_succ _)) (takes_of rfl rfl rfl rfl) (ma_cons (m_var 0) (ma_cons (m_var 4) (ma_cons (m_dget (huR hr) (m_var 0) m_str) (ma_cons (m_dget (huR hr) (m_var 0) m_str) ma_nil)))))) (ms_one (ms_do (m_call f_l_counts (hr.mono (Nat.le_succ _)) (takes_of rfl rfl rfl rfl) (ma_cons (m_var 0) ma_nil)))))))))))))))))))
theorem len_o_l_step : ∀ ds G Q X, sp_l_step ds G Q X → ds.length = 4 := by
  intro ds G Q X h
  obtain ⟨_, h⟩ := h
  repeat (first | (obtain ⟨rfl, _⟩ := h; rfl; done) | obtain ⟨_, h⟩ := h)
theorem ok_l_step {P : Program} {w : World} {K : PySem.W.Frag} {mg : Str → Option Value} {base : Heap} {k n : Nat} {f : Addr} {fd : FuncData} (F : FnP K "_law_step" "_law_step" s_l_step f fd) (g : mg ("_law_step" : Str) = some (.ref f))
  (b_isinstance : mg ("isinstance" : Str) = none)
  (b_tuple : mg ("tuple" : Str) = none)
  (f_l_caught : FnD P w K mg base k ("_law_caught" : Str) sp_l_caught)
  (f_l_own : FnD P w K mg base k ("_law_own" : Str) sp_l_own)
  (f_l_plain : FnD P w K mg base k ("_law_plain" : Str) sp_l_plain)
  (f_l_counts : FnD P w K mg base k ("_law_counts" : Str) sp_l_counts)
  (f_l_low : FnD P w K mg base k ("_law_low" : Str) sp_l_low)
  (f_l_high : FnD P w K mg base k ("_law_high" : Str) sp_l_high)
  : FnD P w K mg base (k + 2) ("_law_step" : Str) sp_l_step :=
  ⟨f, fd, ["_law_m", "_law_kind_here", "_law_way", "_law_mouth"], g, F.kp, FunD.bindsN F fun _ _ _ _ _ _ us hl => match us, hl with | [_, _, _, _], _ => rfl, L3.fn_ok (He5.fun_of F) sc_l_step t_l_step (len_o_l_step) walk_l_step fun cdv A outer s H E hr => der_l_step (n := 0) b_isinstance b_tuple f_l_caught f_l_own f_l_plain f_l_counts f_l_low f_l_high hr⟩
theorem sc_l_goes : FnScope ["_law_m", "_law_kind_here", "_law_way", "_law_mouth", "_law_many", "_law_count"] ["_law_m", "_law_kind_here", "_law_way", "_law_mouth", "_law_many"] (defScope s_l_goes) := ⟨rfl, rfl, rfl, by decide +kernel, rfl, by decide +kernel, by decide +kernel⟩
theorem der_l_goes {P : Program} {w : World} {K : PySem.W.Frag} {mg : Str → Option Value} {base : Heap} {k n : Nat} {f : Addr} {cdv : Value} {A : Around} {outer : List Env} {s : Shared} {H : Hp} {E : XK}
  (b_range : mg ("range" : Str) = none)
  (f_l_step : FnD P w K mg base k ("_law_step" : Str) sp_l_step)
  (hr : Room (k + 1) (A.deeper (envOfC "_law_goes" (defScope s_l_goes) s.heap.objs.size f cdv))) : MSs (cxOf (L2.CX P w) P w K mg base ["_law_m", "_law_kind_here", "_law_way", "_law_mouth", "_law_many", "_law_count"] "_law_goes" (defScope s_l_goes) f cdv A outer s H E) (fun cls d _ H => E cls d H) (defBody s_l_goes) t_l_goes :=
  (ms_cons (ms_for (passes_of rfl) rfl (mi_rng1 b_range (m_var 4)) (mg_name (j := 5) sc_l_goes.nd) (ms_cons (ms_if (m_tcmp (mo_ne (huR hr)) (m_dget (huR hr) (m_var 0) m_str) m_str) (ms_one (ms_ret (m_var 5))) ms_nil) (ms_one (ms_do (m_call f_l_step (hr.mono (Nat.le_succ _)) (takes_of rfl rfl rfl rfl) (ma_cons (m_var 0) (ma_cons (m_var 1) (ma_cons (m_var 2) (ma_cons (m_var 3) ma_nil))))))))) (ms_one (ms_ret (m_var 4))))
theorem len_o_l_goes : ∀ ds G Q X, sp_l_goes ds G Q X → ds.length = 5 := by
  intro ds G Q X h
  obtain ⟨_, h⟩ := h
  repeat (first | (obtain ⟨rfl, _⟩ := h; rfl; done) | obtain ⟨_, h⟩ := h)
theorem ok_l_goes {P : Program} {w : World} {K : PySem.W.Frag} {mg : Str → Option Value} {base : Heap} {k n : Nat} {f : Addr} {fd : FuncData} (F : FnP K "_law_goes" "_law_goes" s_l_goes f fd) (g : mg ("_law_goes" : Str) = some (.ref f))
  (b_range : mg ("range" : Str) = none)
  (f_l_step : FnD P w K mg base k ("_law_step" : Str) sp_l_step)
  : FnD P w K mg base (k + 2) ("_law_goes" : Str) sp_l_goes :=
  ⟨f, fd, ["_law_m", "_law_kind_here", "_law_way", "_law_mouth", "_law_many"], g, F.kp, FunD.bindsN F fun _ _ _ _ _ _ us hl => match us, hl with | [_, _, _, _, _], _ => rfl, L3.fn_ok (He5.fun_of F) sc_l_goes t_l_goes (len_o_l_goes) walk_l_goes fun cdv A outer s H E hr => der_l_goes (n := 0) b_range f_l_step hr⟩
theorem sc_need_count : FnScope ["many", "low", "high"] ["many", "low", "high"] (defScope s_need_count) := ⟨rfl, rfl, rfl, by decide +kernel, rfl, by decide +kernel, by decide +kernel⟩
theorem der_need_count {P : Program} {w : World} {K : PySem.W.Frag} {mg : Str → Option Value} {base : Heap} {k n : Nat} {f : Addr} {cdv : Value} {A : Around} {outer : List Env} {s : Shared} {H : Hp} {E : XK}
  (f_is_number : FnD P w K mg base k ("is_number" : Str) sp_is_number)
  (r_BadCount : RsD K mg ("BadCount" : Str))
  (hr : Room (k + 1) (A.deeper (envOfC "need_count" (defScope s_need_count) s.heap.objs.size f cdv))) : MSs (cxOf (L2.CX P w) P w K mg base ["many", "low", "high"] "need_count" (defScope s_need_count) f cdv A outer s H E) (fun cls d _ H => E cls d H) (defBody s_need_count) t_need_count :=
  (ms_one (ms_if (m_tnot (m_tval (m_call f_is_number (hr.mono (Nat.le_succ _)) (takes_of rfl rfl rfl rfl) (ma_cons (m_var 0) (ma_cons (m_var 1) (ma_cons (m_var 2) ma_nil)))))) (ms_one (ms_raise (c := "BadCount") r_BadCount rfl (takes_of rfl rfl rfl rfl))) ms_nil))
theorem len_o_need_count : ∀ ds G Q X, sp_need_count ds G Q X → ds.length = 3 := by
  intro ds G Q X h
  obtain ⟨_, h⟩ := h
  repeat (first | (obtain ⟨rfl, _⟩ := h; rfl; done) | obtain ⟨_, h⟩ := h)
theorem ok_need_count {P : Program} {w : World} {K : PySem.W.Frag} {mg : Str → Option Value} {base : Heap} {k n : Nat} {f : Addr} {fd : FuncData} (F : FnP K "need_count" "need_count" s_need_count f fd) (g : mg ("need_count" : Str) = some (.ref f))
  (f_is_number : FnD P w K mg base k ("is_number" : Str) sp_is_number)
  (r_BadCount : RsD K mg ("BadCount" : Str))
  : FnD P w K mg base (k + 2) ("need_count" : Str) sp_need_count :=
  ⟨f, fd, ["many", "low", "high"], g, F.kp, FunD.bindsN F fun _ _ _ _ _ _ us hl => match us, hl with | [_, _, _], _ => rfl, L3.fn_ok (He5.fun_of F) sc_need_count t_need_count (len_o_need_count) walk_need_count fun cdv A outer s H E hr => der_need_count (n := 0) f_is_number r_BadCount hr⟩
theorem sc_State_cell : FnScope ["self", "address"] ["self", "address"] (defScope s_State_cell) := ⟨rfl, rfl, rfl, by decide +kernel, rfl, by decide +kernel, by decide +kernel⟩
theorem der_State_cell {P : Program} {w : World} {K : PySem.W.Frag} {mg : Str → Option Value} {base : Heap} {k n : Nat} {f : Addr} {cdv : Value} {A : Around} {outer : List Env} {s : Shared} {H : Hp} {E : XK}
  (T : FldTxt K mg)
  (hr : Room (k + 1) (A.deeper (envOfC "State.cell" (defScope s_State_cell) s.heap.objs.size f cdv))) : MSs (cxOf (L2.CX P w) P w K mg base ["self", "address"] "State.cell" (defScope s_State_cell) f cdv A outer s H E) (fun cls d _ H => E cls d H) (defBody s_State_cell) t_State_cell :=
  (ms_one (ms_ret (m_ifE (m_tcmp mo_lt (m_var 1) (m_ix (m_fld (f := "window") T (m_var 0)) m_int)) (m_op mo_add (m_ix (m_fld (f := "window") T (m_var 0)) m_int) (m_var 1)) m_non)))
theorem len_o_State_cell : ∀ ds G Q X, sp_State_cell ds G Q X → ds.length = 2 := by
  intro ds G Q X h
  obtain ⟨_, h⟩ := h
  repeat (first | (obtain ⟨rfl, _⟩ := h; rfl; done) | obtain ⟨_, h⟩ := h)
theorem ok_State_cell {P : Program} {w : World} {K : PySem.W.Frag} {mg : Str → Option Value} {base : Heap} {h : Heap} (X : K.In h) (G : h.Ns mainGlobals mg) (c0 : (He.Fa.glo ("State" : Str)).ok K = true) (c1 : (He.Fa.meth ("State" : Str) "cell").ok K = true) (c2 : (He.Fa.cls ("State" : Str)).ok K = true) {k n : Nat} {fd : FuncData} (F : FnP K "cell" "State.cell" s_State_cell (He.ma K (He.ga K ("State" : Str)) "cell") fd)
  (T : FldTxt K mg)
  : MtD P w K mg base (k + 2) "State" ("cell" : Str) sp_State_cell :=
  mtd_of (c := "State") (m := "cell") X G c0 c2 c1 (FunD.bindsN F fun _ _ _ _ _ _ us hl => match us, hl with | [_, _], _ => rfl) (L3.fn_ok (He5.fun_of F) sc_State_cell t_State_cell (len_o_State_cell) walk_State_cell fun cdv A outer s H E hr => der_State_cell (n := 0) T hr)
theorem sc_Body_peek : FnScope ["self", "at"] ["self", "at"] (defScope s_Body_peek) := ⟨rfl, rfl, rfl, by decide +kernel, rfl, by decide +kernel, by decide +kernel⟩
theorem der_Body_peek {P : Program} {w : World} {K : PySem.W.Frag} {mg : Str → Option Value} {base : Heap} {k n : Nat} {f : Addr} {cdv : Value} {A : Around} {outer : List Env} {s : Shared} {H : Hp} {E : XK}
  (T : FldTxt K mg)
  (hr : Room (k + 1) (A.deeper (envOfC "Body.peek" (defScope s_Body_peek) s.heap.objs.size f cdv))) : MSs (cxOf (L2.CX P w) P w K mg base ["self", "at"] "Body.peek" (defScope s_Body_peek) f cdv A outer s H E) (fun cls d _ H => E cls d H) (defBody s_Body_peek) t_Body_peek :=
  (ms_one (ms_ret (m_ix (m_fld (f := "things") T (m_var 0)) (m_var 1))))
theorem len_o_Body_peek : ∀ ds G Q X, (sp_peek 3 "Body") ds G Q X → ds.length = 2 := by
  intro ds G Q X h
  obtain ⟨_, h⟩ := h
  repeat (first | (obtain ⟨rfl, _⟩ := h; rfl; done) | obtain ⟨_, h⟩ := h)
theorem ok_Body_peek {P : Program} {w : World} {K : PySem.W.Frag} {mg : Str → Option Value} {base : Heap} {h : Heap} (X : K.In h) (G : h.Ns mainGlobals mg) (c0 : (He.Fa.glo ("Body" : Str)).ok K = true) (c1 : (He.Fa.meth ("Body" : Str) "peek").ok K = true) (c2 : (He.Fa.cls ("Body" : Str)).ok K = true) {k n : Nat} {fd : FuncData} (F : FnP K "peek" "Body.peek" s_Body_peek (He.ma K (He.ga K ("Body" : Str)) "peek") fd)
  (T : FldTxt K mg)
  : MtD P w K mg base (k + 2) "Body" ("peek" : Str) (sp_peek 3 "Body") :=
  mtd_of (c := "Body") (m := "peek") X G c0 c2 c1 (FunD.bindsN F fun _ _ _ _ _ _ us hl => match us, hl with | [_, _], _ => rfl) (L3.fn_ok (He5.fun_of F) sc_Body_peek t_Body_peek (len_o_Body_peek) (walk_Body_peek 3) fun cdv A outer s H E hr => der_Body_peek (n := 0) T hr)
theorem sc_State_coming : FnScope ["self", "at", "thing"] ["self"] (defScope s_State_coming) := ⟨rfl, rfl, rfl, by decide +kernel, rfl, by decide +kernel, by decide +kernel⟩
theorem der_State_coming {P : Program} {w : World} {K : PySem.W.Frag} {mg : Str → Option Value} {base : Heap} {k n : Nat} {f : Addr} {cdv : Value} {A : Around} {outer : List Env} {s : Shared} {H : Hp} {E : XK}
  (m_cell : TabOk P w K mg base k "cell" tab_cell)
  (T : FldTxt K mg)
  (k_BEYOND : Kon K mg ("BEYOND" : Str) c_BEYOND)
  (m_peek : TabOk P w K mg base k "peek" tab_peek)
  (b_isinstance : mg ("isinstance" : Str) = none)
  (b_tuple : mg ("tuple" : Str) = none)
  (k_NO_ROW : Kon K mg ("NO_ROW" : Str) c_NO_ROW)
  (hr : Room (k + 1) (A.deeper (envOfC "State.coming" (defScope s_State_coming) s.heap.objs.size f cdv))) : MSs (cxOf (L2.CX P w) P w K mg base ["self", "at", "thing"] "State.coming" (defScope s_State_coming) f cdv A outer s H E) (fun cls d _ H => E cls d H) (defBody s_State_coming) t_State_coming :=
  (ms_cons (ms_asg (m_meth (m := "cell") m_cell (hr.mono (Nat.le_succ _)) (takes_of rfl rfl rfl rfl) (m_var 0) (ma_cons (m_fld (f := "place") T (m_var 0)) ma_nil)) (mg_name (j := 1) sc_State_coming.nd)) (ms_cons (ms_if (m_tisN (m_var 1)) (ms_one (ms_ret (m_kon k_BEYOND))) ms_nil) (ms_cons (ms_asg (m_meth (m := "peek") m_peek (hr.mono (Nat.le_succ _)) (takes_of rfl rfl rfl rfl) (m_fld (f := "body") T (m_var 0)) (ma_cons (m_var 1) ma_nil)) (mg_name (j := 2) sc_State_coming.nd)) (ms_one (ms_ret (m_ifE (m_tval (m_isi (n := "tuple") b_isinstance b_tuple (by decide +kernel) (by decide) (m_var 2))) (m_var 2) (m_kon k_NO_ROW)))))))
theorem len_o_State_coming : ∀ ds G Q X, sp_State_coming ds G Q X → ds.length = 1 := by
  intro ds G Q X h
  obtain ⟨_, h⟩ := h
  repeat (first | (obtain ⟨rfl, _⟩ := h; rfl; done) | obtain ⟨_, h⟩ := h)
theorem ok_State_coming {P : Program} {w : World} {K : PySem.W.Frag} {mg : Str → Option Value} {base : Heap} {h : Heap} (X : K.In h) (G : h.Ns mainGlobals mg) (c0 : (He.Fa.glo ("State" : Str)).ok K = true) (c1 : (He.Fa.meth ("State" : Str) "coming").ok K = true) (c2 : (He.Fa.cls ("State" : Str)).ok K = true) {k n : Nat} {fd : FuncData} (F : FnP K "coming" "State.coming" s_State_coming (He.ma K (He.ga K ("State" : Str)) "coming") fd)
  (m_cell : TabOk P w K mg base k "cell" tab_cell)
  (T : FldTxt K mg)
  (k_BEYOND : Kon K mg ("BEYOND" : Str) c_BEYOND)
  (m_peek : TabOk P w K mg base k "peek" tab_peek)
  (b_isinstance : mg ("isinstance" : Str) = none)
  (b_tuple : mg ("tuple" : Str) = none)
  (k_NO_ROW : Kon K mg ("NO_ROW" : Str) c_NO_ROW)
  : MtD P w K mg base (k + 2) "State" ("coming" : Str) sp_State_coming :=
  mtd_of (c := "State") (m := "coming") X G c0 c2 c1 (FunD.bindsN F fun _ _ _ _ _ _ us hl => match us, hl with | [_], _ => rfl) (L3.fn_ok (He5.fun_of F) sc_State_coming t_State_coming (len_o_State_coming) walk_State_coming fun cdv A outer s H E hr => der_State_coming (n := 0) m_cell T k_BEYOND m_peek b_isinstance b_tuple k_NO_ROW hr)
theorem sc_Body_poke : FnScope ["self", "at", "thing"] ["self", "at", "thing"] (defScope s_Body_poke) := ⟨rfl, rfl, rfl, by decide +kernel, rfl, by decide +kernel, by decide +kernel⟩
theorem der_Body_poke {P : Program} {w : World} {K : PySem.W.Frag} {mg : Str → Option Value} {base : Heap} {k n : Nat} {f : Addr} {cdv : Value} {A : Around} {outer : List Env} {s : Shared} {H : Hp} {E : XK}
  (T : FldTxt K mg)
  (hr : Room (k + 1) (A.deeper (envOfC "Body.poke" (defScope s_Body_poke) s.heap.objs.size f cdv))) : MSs (cxOf (L2.CX P w) P w K mg base ["self", "at", "thing"] "Body.poke" (defScope s_Body_poke) f cdv A outer s H E) (fun cls d _ H => E cls d H) (defBody s_Body_poke) t_Body_poke :=
  (ms_one (ms_asg (m_var 2) (mg_sub (m_fld (f := "things") T (m_var 0)) (m_var 1))))
theorem len_o_Body_poke : ∀ ds G Q X, (sp_poke 3 "Body") ds G Q X → ds.length = 3 := by
  intro ds G Q X h
  obtain ⟨_, h⟩ := h
  repeat (first | (obtain ⟨rfl, _⟩ := h; rfl; done) | obtain ⟨_, h⟩ := h)
theorem ok_Body_poke {P : Program} {w : World} {K : PySem.W.Frag} {mg : Str → Option Value} {base : Heap} {h : Heap} (X : K.In h) (G : h.Ns mainGlobals mg) (c0 : (He.Fa.glo ("Body" : Str)).ok K = true) (c1 : (He.Fa.meth ("Body" : Str) "poke").ok K = true) (c2 : (He.Fa.cls ("Body" : Str)).ok K = true) {k n : Nat} {fd : FuncData} (F : FnP K "poke" "Body.poke" s_Body_poke (He.ma K (He.ga K ("Body" : Str)) "poke") fd)
  (T : FldTxt K mg)
  : MtD P w K mg base (k + 2) "Body" ("poke" : Str) (sp_poke 3 "Body") :=
  mtd_of (c := "Body") (m := "poke") X G c0 c2 c1 (FunD.bindsN F fun _ _ _ _ _ _ us hl => match us, hl with | [_, _, _], _ => rfl) (L3.fn_ok (He5.fun_of F) sc_Body_poke t_Body_poke (len_o_Body_poke) (walk_Body_poke 3) fun cdv A outer s H E hr => der_Body_poke (n := 0) T hr)
theorem sc_worth : FnScope ["thing"] ["thing"] (defScope s_worth) := ⟨rfl, rfl, rfl, by decide +kernel, rfl, by decide +kernel, by decide +kernel⟩
theorem der_worth {P : Program} {w : World} {K : PySem.W.Frag} {mg : Str → Option Value} {base : Heap} {k n : Nat} {f : Addr} {cdv : Value} {A : Around} {outer : List Env} {s : Shared} {H : Hp} {E : XK}
  (b_isinstance : mg ("isinstance" : Str) = none)
  (b_tuple : mg ("tuple" : Str) = none)
  (hr : Room (k + 1) (A.deeper (envOfC "worth" (defScope s_worth) s.heap.objs.size f cdv))) : MSs (cxOf (L2.CX P w) P w K mg base ["thing"] "worth" (defScope s_worth) f cdv A outer s H E) (fun cls d _ H => E cls d H) (defBody s_worth) t_worth :=
  (ms_one (ms_ret (m_ifE (m_tval (m_isi (n := "tuple") b_isinstance b_tuple (by decide +kernel) (by decide) (m_var 0))) m_int (m_var 0))))
theorem len_o_worth : ∀ ds G Q X, sp_worth ds G Q X → ds.length = 1 := by
  intro ds G Q X h
  obtain ⟨_, h⟩ := h
  repeat (first | (obtain ⟨rfl, _⟩ := h; rfl; done) | obtain ⟨_, h⟩ := h)
theorem ok_worth {P : Program} {w : World} {K : PySem.W.Frag} {mg : Str → Option Value} {base : Heap} {k n : Nat} {f : Addr} {fd : FuncData} (F : FnP K "worth" "worth" s_worth f fd) (g : mg ("worth" : Str) = some (.ref f))
  (b_isinstance : mg ("isinstance" : Str) = none)
  (b_tuple : mg ("tuple" : Str) = none)
  : FnD P w K mg base (k + 2) ("worth" : Str) sp_worth :=
  ⟨f, fd, ["thing"], g, F.kp, FunD.bindsN F fun _ _ _ _ _ _ us hl => match us, hl with | [_], _ => rfl, L3.fn_ok (He5.fun_of F) sc_worth t_worth (len_o_worth) walk_worth fun cdv A outer s H E hr => der_worth (n := 0) b_isinstance b_tuple hr⟩
theorem sc_State_caught : FnScope ["self", "number", "place", "more", "box", "at", "thing"] ["self", "number", "place", "more"] (defScope s_State_caught) := ⟨rfl, rfl, rfl, by decide +kernel, rfl, by decide +kernel, by decide +kernel⟩
theorem der_State_caught {P : Program} {w : World} {K : PySem.W.Frag} {mg : Str → Option Value} {base : Heap} {k n : Nat} {f : Addr} {cdv : Value} {A : Around} {outer : List Env} {s : Shared} {H : Hp} {E : XK}
  (T : FldTxt K mg)
  (kdi_WORDS : KDI K mg ("WORDS" : Str) kv_WORDS)
  (b_enumerate : mg ("enumerate" : Str) = none)
  (m_poke : TabOk P w K mg base k "poke" tab_poke)
  (b_range : mg ("range" : Str) = none)
  (k_BOXES : Kon K mg ("BOXES" : Str) c_BOXES)
  (k_KEPT : Kon K mg ("KEPT" : Str) c_KEPT)
  (m_peek : TabOk P w K mg base k "peek" tab_peek)
  (k_GOES_TO : Kon K mg ("GOES_TO" : Str) c_GOES_TO)
  (f_worth : FnD P w K mg base k ("worth" : Str) sp_worth)
  (hr : Room (k + 1) (A.deeper (envOfC "State.caught" (defScope s_State_caught) s.heap.objs.size f cdv))) : MSs (cxOf (L2.CX P w) P w K mg base ["self", "number", "place", "more", "box", "at", "thing"] "State.caught" (defScope s_State_caught) f cdv A outer s H E) (fun cls d _ H => E cls d H) (defBody s_State_caught) t_State_caught :=
  (ms_cons (ms_if (m_tval (m_fld (f := "high") T (m_var 0))) (ms_cons (ms_asg (m_kixi kdi_WORDS (m_var 1)) (mg_fld (c := "State") (f := "why") T (by decide) (m_var 0))) (ms_one ms_retN)) ms_nil) (ms_cons (ms_for (passes_of rfl) rfl (mi_enumT b_enumerate (m_tup (ma_cons (m_var 2) (ma_cons (m_ix (m_fld (f := "window") T (m_var 0)) m_int) (ma_cons (m_ix (m_fld (f := "window") T (m_var 0)) m_int) (ma_cons (m_var 1) (ma_cons (m_var 3) ma_nil))))))) (mg_tup (n := 2) rfl (mgs_cons (mg_name (j := 5) sc_State_caught.nd) (mgs_cons (mg_name (j := 6) sc_State_caught.nd) mgs_nil))) (ms_one (ms_do (m_meth (m := "poke") m_poke (hr.mono (Nat.le_succ _)) (takes_of rfl rfl rfl rfl) (m_fld (f := "body") T (m_var 0)) (ma_cons (m_var 5) (ma_cons (m_var 6) ma_nil)))))) (ms_cons (ms_for (passes_of rfl) rfl (mi_rng1 b_range (m_kon k_BOXES)) (mg_name (j := 4) sc_State_caught.nd) (ms_one (ms_do (m_meth (m := "poke") m_poke (hr.mono (Nat.le_succ _)) (takes_of rfl rfl rfl rfl) (m_fld (f := "body") T (m_var 0)) (ma_cons (m_op mo_add (m_kon k_KEPT) (m_var 4)) (ma_cons (m_ix (m_fld (f := "boxes") T (m_var 0)) (m_var 4)) ma_nil)))))) (ms_cons (ms_asg m_bl (mg_fld (c := "State") (f := "high") T (by decide) (m_var 0))) (ms_cons (ms_asg (m_tup (ma_cons m_int (ma_cons (m_fld (f := "wide") T (m_var 0)) ma_nil))) (mg_fld (c := "State") (f := "window") T (by decide) (m_var 0))) (ms_cons (ms_asg m_int (mg_fld (c := "State") (f := "left") T (by decide) (m_var 0))) (ms_one (ms_asg (m_call f_worth (hr.mono (Nat.le_succ _)) (takes_of rfl rfl rfl rfl) (ma_cons (m_meth (m := "peek") m_peek (hr.mono (Nat.le_succ _)) (takes_of rfl rfl rfl rfl) (m_fld (f := "body") T (m_var 0)) (ma_cons (m_kon k_GOES_TO) ma_nil)) ma_nil)) (mg_fld (c := "State") (f := "place") T (by decide) (m_var 0))))))))))
theorem len_o_State_caught : ∀ ds G Q X, sp_State_caught ds G Q X → ds.length = 4 := by
  intro ds G Q X h
  obtain ⟨_, h⟩ := h
  repeat (first | (obtain ⟨rfl, _⟩ := h; rfl; done) | obtain ⟨_, h⟩ := h)
theorem ok_State_caught {P : Program} {w : World} {K : PySem.W.Frag} {mg : Str → Option Value} {base : Heap} {h : Heap} (X : K.In h) (G : h.Ns mainGlobals mg) (c0 : (He.Fa.glo ("State" : Str)).ok K = true) (c1 : (He.Fa.meth ("State" : Str) "caught").ok K = true) (c2 : (He.Fa.cls ("State" : Str)).ok K = true) {k n : Nat} {fd : FuncData} (F : FnP K "caught" "State.caught" s_State_caught (He.ma K (He.ga K ("State" : Str)) "caught") fd)
  (T : FldTxt K mg)
  (kdi_WORDS : KDI K mg ("WORDS" : Str) kv_WORDS)
  (b_enumerate : mg ("enumerate" : Str) = none)
  (m_poke : TabOk P w K mg base k "poke" tab_poke)
  (b_range : mg ("range" : Str) = none)
  (k_BOXES : Kon K mg ("BOXES" : Str) c_BOXES)
  (k_KEPT : Kon K mg ("KEPT" : Str) c_KEPT)
  (m_peek : TabOk P w K mg base k "peek" tab_peek)
  (k_GOES_TO : Kon K mg ("GOES_TO" : Str) c_GOES_TO)
  (f_worth : FnD P w K mg base k ("worth" : Str) sp_worth)
  : MtD P w K mg base (k + 2) "State" ("caught" : Str) sp_State_caught :=
  mtd_of (c := "State") (m := "caught") X G c0 c2 c1 (FunD.bindsN F fun _ _ _ _ _ _ us hl => match us, hl with | [_, _, _, _], _ => rfl) (L3.fn_ok (He5.fun_of F) sc_State_caught t_State_caught (len_o_State_caught) walk_State_caught fun cdv A outer s H E hr => der_State_caught (n := 0) T kdi_WORDS b_enumerate m_poke b_range k_BOXES k_KEPT m_peek k_GOES_TO f_worth hr)
theorem sc_State_own : FnScope ["self", "row", "word", "after", "first", "size", "box"] ["self", "row"] (defScope s_State_own) := ⟨rfl, rfl, rfl, by decide +kernel, rfl, by decide +kernel, by decide +kernel⟩
theorem der_State_own {P : Program} {w : World} {K : PySem.W.Frag} {mg : Str → Option Value} {base : Heap} {k n : Nat} {f : Addr} {cdv : Value} {A : Around} {outer : List Env} {s : Shared} {H : Hp} {E : XK}
  (T : FldTxt K mg)
  (f_worth : FnD P w K mg base k ("worth" : Str) sp_worth)
  (b_range : mg ("range" : Str) = none)
  (hr : Room (k + 1) (A.deeper (envOfC "State.own" (defScope s_State_own) s.heap.objs.size f cdv))) : MSs (cxOf (L2.CX P w) P w K mg base ["self", "row", "word", "after", "first", "size", "box"] "State.own" (defScope s_State_own) f cdv A outer s H E) (fun cls d _ H => E cls d H) (defBody s_State_own) t_State_own :=
  (ms_cons (ms_asg (m_ix (m_var 1) m_int) (mg_name (j := 2) sc_State_own.nd)) (ms_cons (ms_asg (m_op mo_add (m_fld (f := "place") T (m_var 0)) m_int) (mg_name (j := 3) sc_State_own.nd)) (ms_cons (ms_if (m_tcmp (mo_eq (huR hr)) (m_var 2) m_str) (ms_one (ms_do (m_lm PySem.F.plainAttrs_list PySem.F.slot_list_append PySem.F.type_list_append mm_append (m_fld (f := "words") T (m_var 0)) (ma_cons (m_call f_worth (hr.mono (Nat.le_succ _)) (takes_of rfl rfl rfl rfl) (ma_cons (m_ix (m_fld (f := "boxes") T (m_var 0)) (m_ix (m_var 1) m_int)) ma_nil)) ma_nil)))) (ms_one (ms_if (m_tcmp (mo_eq (huR hr)) (m_var 2) m_str) (ms_one (ms_asg (m_ifE (m_tcmp (mo_ne (huR hr)) (m_fld (f := "ear") T (m_var 0)) (m_lst ma_nil)) (m_lm PySem.F.plainAttrs_list PySem.F.slot_list_pop PySem.F.type_list_pop mm_pop0 (m_fld (f := "ear") T (m_var 0)) (ma_cons m_int ma_nil)) m_int) (mg_sub (m_fld (f := "boxes") T (m_var 0)) (m_ix (m_var 1) m_int)))) (ms_one (ms_if (m_tcmp (mo_eq (huR hr)) (m_var 2) m_str) (ms_one (ms_asg m_int (mg_sub (m_fld (f := "boxes") T (m_var 0)) (m_ix (m_var 1) m_int)))) (ms_one (ms_if (m_tcmp (mo_eq (huR hr)) (m_var 2) m_str) (ms_one (ms_asg (m_ix (m_fld (f := "window") T (m_var 0)) m_int) (mg_sub (m_fld (f := "boxes") T (m_var 0)) (m_ix (m_var 1) m_int)))) (ms_one (ms_if (m_tcmp (mo_eq (huR hr)) (m_var 2) m_str) (ms_one (ms_asg (m_call f_worth (hr.mono (Nat.le_succ _)) (takes_of rfl rfl rfl rfl) (ma_cons (m_ix (m_fld (f := "boxes") T (m_var 0)) (m_ix (m_var 1) m_int)) ma_nil)) (mg_fld (c := "State") (f := "left") T (by decide) (m_var 0)))) (ms_one (ms_if (m_tcmp (mo_eq (huR hr)) (m_var 2) m_str) (ms_one (ms_asg m_str (mg_fld (c := "State") (f := "why") T (by decide) (m_var 0)))) (ms_cons (ms_asg (m_comp rfl sc_State_own.nd (own := [("box", 6)]) (ct := (.one 6)) (mi_rng2 b_range (m_ix (m_var 1) m_int) (m_op mo_add (m_ix (m_var 1) m_int) m_int)) (blkOk_by (N := ["self", "row", "word", "after", "first", "size", "box"]) (sc := defScope s_State_own) (by decide +kernel)) (fun _ _ _ _ _ => pg_name (i := 6) sc_State_own.nd rfl (Or.inl rfl)) (fun _ _ _ _ _ => mts_nil) (fun _ _ _ _ _ => (m_call f_worth (hr.mono (Nat.le_succ _)) takes0 (ma_cons (m_ix (m_fld (f := "boxes") T (m_var 0)) (m_var 6)) ma_nil)))) (mg_lst (n := 3) rfl (mgs_cons (mg_name (j := 4) sc_State_own.nd) (mgs_cons (mg_name (j := 5) sc_State_own.nd) (mgs_cons (mg_name (j := 3) sc_State_own.nd) mgs_nil))))) (ms_cons (ms_if (m_tcmp mo_gt (m_op mo_add (m_var 4) (m_var 5)) (m_fld (f := "wide") T (m_var 0))) (ms_cons (ms_asg m_str (mg_fld (c := "State") (f := "why") T (by decide) (m_var 0))) (ms_one ms_retN)) ms_nil) (ms_cons (ms_asg (m_tup (ma_cons (m_var 4) (ma_cons (m_var 5) ma_nil))) (mg_fld (c := "State") (f := "window") T (by decide) (m_var 0))) (ms_one (ms_asg m_bl (mg_fld (c := "State") (f := "high") T (by decide) (m_var 0)))))))))))))))))) (ms_one (ms_asg (m_var 3) (mg_fld (c := "State") (f := "place") T (by decide) (m_var 0)))))))
theorem len_o_State_own : ∀ ds G Q X, sp_State_own ds G Q X → ds.length = 2 := by
  intro ds G Q X h
  obtain ⟨_, h⟩ := h
  repeat (first | (obtain ⟨rfl, _⟩ := h; rfl; done) | obtain ⟨_, h⟩ := h)
theorem ok_State_own {P : Program} {w : World} {K : PySem.W.Frag} {mg : Str → Option Value} {base : Heap} {h : Heap} (X : K.In h) (G : h.Ns mainGlobals mg) (c0 : (He.Fa.glo ("State" : Str)).ok K = true) (c1 : (He.Fa.meth ("State" : Str) "own").ok K = true) (c2 : (He.Fa.cls ("State" : Str)).ok K = true) {k n : Nat} {fd : FuncData} (F : FnP K "own" "State.own" s_State_own (He.ma K (He.ga K ("State" : Str)) "own") fd)
  (T : FldTxt K mg)
  (f_worth : FnD P w K mg base k ("worth" : Str) sp_worth)
  (b_range : mg ("range" : Str) = none)
  : MtD P w K mg base (k + 2) "State" ("own" : Str) sp_State_own :=
  mtd_of (c := "State") (m := "own") X G c0 c2 c1 (FunD.bindsN F fun _ _ _ _ _ _ us hl => match us, hl with | [_, _], _ => rfl) (L3.fn_ok (He5.fun_of F) sc_State_own t_State_own (len_o_State_own) walk_State_own fun cdv A outer s H E hr => der_State_own (n := 0) T f_worth b_range hr)
theorem sc_is_caught : FnScope ["kind", "row"] ["kind", "row"] (defScope s_is_caught) := ⟨rfl, rfl, rfl, by decide +kernel, rfl, by decide +kernel, by decide +kernel⟩
theorem der_is_caught {P : Program} {w : World} {K : PySem.W.Frag} {mg : Str → Option Value} {base : Heap} {k n : Nat} {f : Addr} {cdv : Value} {A : Around} {outer : List Env} {s : Shared} {H : Hp} {E : XK}
  (kt_OWN_ORDER : KTup K mg ("OWN_ORDER" : Str) kt_OWN_ORDER)
  (hr : Room (k + 1) (A.deeper (envOfC "is_caught" (defScope s_is_caught) s.heap.objs.size f cdv))) : MSs (cxOf (L2.CX P w) P w K mg base ["kind", "row"] "is_caught" (defScope s_is_caught) f cdv A outer s H E) (fun cls d _ H => E cls d H) (defBody s_is_caught) t_is_caught :=
  (ms_one (ms_ret (m_ix (m_var 0) (m_tidx kt_OWN_ORDER (m_ix (m_var 1) m_int)))))
theorem len_o_is_caught : ∀ ds G Q X, sp_is_caught ds G Q X → ds.length = 2 := by
  intro ds G Q X h
  obtain ⟨_, h⟩ := h
  repeat (first | (obtain ⟨rfl, _⟩ := h; rfl; done) | obtain ⟨_, h⟩ := h)
theorem ok_is_caught {P : Program} {w : World} {K : PySem.W.Frag} {mg : Str → Option Value} {base : Heap} {k n : Nat} {f : Addr} {fd : FuncData} (F : FnP K "is_caught" "is_caught" s_is_caught f fd) (g : mg ("is_caught" : Str) = some (.ref f))
  (kt_OWN_ORDER : KTup K mg ("OWN_ORDER" : Str) kt_OWN_ORDER)
  : FnD P w K mg base (k + 2) ("is_caught" : Str) sp_is_caught :=
  ⟨f, fd, ["kind", "row"], g, F.kp, FunD.bindsN F fun _ _ _ _ _ _ us hl => match us, hl with | [_, _], _ => rfl, L3.fn_ok (He5.fun_of F) sc_is_caught t_is_caught (len_o_is_caught) walk_is_caught fun cdv A outer s H E hr => der_is_caught (n := 0) kt_OWN_ORDER hr⟩
theorem sc_State_own_low : FnScope ["self", "row", "mouth", "ear", "word"] ["self", "row", "mouth", "ear"] (defScope s_State_own_low) := ⟨rfl, rfl, rfl, by decide +kernel, rfl, by decide +kernel, by decide +kernel⟩
theorem der_State_own_low {P : Program} {w : World} {K : PySem.W.Frag} {mg : Str → Option Value} {base : Heap} {k n : Nat} {f : Addr} {cdv : Value} {A : Around} {outer : List Env} {s : Shared} {H : Hp} {E : XK}
  (T : FldTxt K mg)
  (f_worth : FnD P w K mg base k ("worth" : Str) sp_worth)
  (hr : Room (k + 1) (A.deeper (envOfC "State.own_low" (defScope s_State_own_low) s.heap.objs.size f cdv))) : MSs (cxOf (L2.CX P w) P w K mg base ["self", "row", "mouth", "ear", "word"] "State.own_low" (defScope s_State_own_low) f cdv A outer s H E) (fun cls d _ H => E cls d H) (defBody s_State_own_low) t_State_own_low :=
  (ms_cons (ms_asg (m_ix (m_var 1) m_int) (mg_name (j := 4) sc_State_own_low.nd)) (ms_cons (ms_if (m_tcmp (mo_eq (huR hr)) (m_var 4) m_str) (ms_one (ms_do (m_lm PySem.F.plainAttrs_list PySem.F.slot_list_append PySem.F.type_list_append mm_append (m_var 2) (ma_cons (m_call f_worth (hr.mono (Nat.le_succ _)) (takes_of rfl rfl rfl rfl) (ma_cons (m_ix (m_fld (f := "boxes") T (m_var 0)) (m_ix (m_var 1) m_int)) ma_nil)) ma_nil)))) (ms_one (ms_if (m_tcmp (mo_eq (huR hr)) (m_var 4) m_str) (ms_one (ms_asg (m_ifE (m_tcmp (mo_ne (huR hr)) (m_var 3) (m_lst ma_nil)) (m_lm PySem.F.plainAttrs_list PySem.F.slot_list_pop PySem.F.type_list_pop mm_pop0 (m_var 3) (ma_cons m_int ma_nil)) m_int) (mg_sub (m_fld (f := "boxes") T (m_var 0)) (m_ix (m_var 1) m_int)))) (ms_one (ms_if (m_tcmp (mo_eq (huR hr)) (m_var 4) m_str) (ms_one (ms_asg m_int (mg_sub (m_fld (f := "boxes") T (m_var 0)) (m_ix (m_var 1) m_int)))) (ms_one (ms_if (m_tcmp (mo_eq (huR hr)) (m_var 4) m_str) (ms_one (ms_asg (m_ix (m_fld (f := "window") T (m_var 0)) m_int) (mg_sub (m_fld (f := "boxes") T (m_var 0)) (m_ix (m_var 1) m_int)))) ms_nil))))))) (ms_one (ms_asg (m_op mo_add (m_fld (f := "place") T (m_var 0)) m_int) (mg_fld (c := "State") (f := "place") T (by decide) (m_var 0))))))
theorem len_o_State_own_low : ∀ ds G Q X, sp_State_own_low ds G Q X → ds.length = 4 := by
  intro ds G Q X h
  obtain ⟨_, h⟩ := h
  repeat (first | (obtain ⟨rfl, _⟩ := h; rfl; done) | obtain ⟨_, h⟩ := h)
theorem ok_State_own_low {P : Program} {w : World} {K : PySem.W.Frag} {mg : Str → Option Value} {base : Heap} {h : Heap} (X : K.In h) (G : h.Ns mainGlobals mg) (c0 : (He.Fa.glo ("State" : Str)).ok K = true) (c1 : (He.Fa.meth ("State" : Str) "own_low").ok K = true) (c2 : (He.Fa.cls ("State" : Str)).ok K = true) {k n : Nat} {fd : FuncData} (F : FnP K "own_low" "State.own_low" s_State_own_low (He.ma K (He.ga K ("State" : Str)) "own_low") fd)
  (T : FldTxt K mg)
  (f_worth : FnD P w K mg base k ("worth" : Str) sp_worth)
  : MtD P w K mg base (k + 2) "State" ("own_low" : Str) sp_State_own_low :=
  mtd_of (c := "State") (m := "own_low") X G c0 c2 c1 (FunD.bindsN F fun _ _ _ _ _ _ us hl => match us, hl with | [_, _, _, _], _ => rfl) (L3.fn_ok (He5.fun_of F) sc_State_own_low t_State_own_low (len_o_State_own_low) walk_State_own_low fun cdv A outer s H E hr => der_State_own_low (n := 0) T f_worth hr)
theorem sc_State_counted : FnScope ["self"] ["self"] (defScope s_State_counted) := ⟨rfl, rfl, rfl, by decide +kernel, rfl, by decide +kernel, by decide +kernel⟩
theorem der_State_counted {P : Program} {w : World} {K : PySem.W.Frag} {mg : Str → Option Value} {base : Heap} {k n : Nat} {f : Addr} {cdv : Value} {A : Around} {outer : List Env} {s : Shared} {H : Hp} {E : XK}
  (T : FldTxt K mg)
  (m_caught : TabOk P w K mg base k "caught" tab_caught)
  (k_ALARM : Kon K mg ("ALARM" : Str) c_ALARM)
  (hr : Room (k + 1) (A.deeper (envOfC "State.counted" (defScope s_State_counted) s.heap.objs.size f cdv))) : MSs (cxOf (L2.CX P w) P w K mg base ["self"] "State.counted" (defScope s_State_counted) f cdv A outer s H E) (fun cls d _ H => E cls d H) (defBody s_State_counted) t_State_counted :=
  (ms_one (ms_if (m_tw (mw_and (m_tnot (m_tval (m_fld (f := "high") T (m_var 0)))) (mw_and1 (m_tcmp mo_gt (m_fld (f := "left") T (m_var 0)) m_int)))) (ms_cons (ms_asg (m_op mo_sub (m_fld (f := "left") T (m_var 0)) m_int) (mg_fld (c := "State") (f := "left") T (by decide) (m_var 0))) (ms_one (ms_if (m_tcmp (mo_eq (huR hr)) (m_fld (f := "left") T (m_var 0)) m_int) (ms_one (ms_do (m_meth (m := "caught") m_caught (hr.mono (Nat.le_succ _)) (takes_of rfl rfl rfl rfl) (m_var 0) (ma_cons (m_kon k_ALARM) (ma_cons (m_fld (f := "place") T (m_var 0)) (ma_cons m_int ma_nil)))))) ms_nil))) ms_nil))
theorem len_o_State_counted : ∀ ds G Q X, sp_State_counted ds G Q X → ds.length = 1 := by
  intro ds G Q X h
  obtain ⟨_, h⟩ := h
  repeat (first | (obtain ⟨rfl, _⟩ := h; rfl; done) | obtain ⟨_, h⟩ := h)
theorem ok_State_counted {P : Program} {w : World} {K : PySem.W.Frag} {mg : Str → Option Value} {base : Heap} {h : Heap} (X : K.In h) (G : h.Ns mainGlobals mg) (c0 : (He.Fa.glo ("State" : Str)).ok K = true) (c1 : (He.Fa.meth ("State" : Str) "counted").ok K = true) (c2 : (He.Fa.cls ("State" : Str)).ok K = true) {k n : Nat} {fd : FuncData} (F : FnP K "counted" "State.counted" s_State_counted (He.ma K (He.ga K ("State" : Str)) "counted") fd)
  (T : FldTxt K mg)
  (m_caught : TabOk P w K mg base k "caught" tab_caught)
  (k_ALARM : Kon K mg ("ALARM" : Str) c_ALARM)
  : MtD P w K mg base (k + 2) "State" ("counted" : Str) sp_State_counted :=
  mtd_of (c := "State") (m := "counted") X G c0 c2 c1 (FunD.bindsN F fun _ _ _ _ _ _ us hl => match us, hl with | [_], _ => rfl) (L3.fn_ok (He5.fun_of F) sc_State_counted t_State_counted (len_o_State_counted) walk_State_counted fun cdv A outer s H E hr => der_State_counted (n := 0) T m_caught k_ALARM hr)
theorem sc_State_plain : FnScope ["self", "row", "word", "after", "one", "other", "at"] ["self", "row"] (defScope s_State_plain) := ⟨rfl, rfl, rfl, by decide +kernel, rfl, by decide +kernel, by decide +kernel⟩
theorem der_State_plain {P : Program} {w : World} {K : PySem.W.Frag} {mg : Str → Option Value} {base : Heap} {k n : Nat} {f : Addr} {cdv : Value} {A : Around} {outer : List Env} {s : Shared} {H : Hp} {E : XK}
  (T : FldTxt K mg)
  (f_worth : FnD P w K mg base k ("worth" : Str) sp_worth)
  (m_cell : TabOk P w K mg base k "cell" tab_cell)
  (k_BEYOND : Kon K mg ("BEYOND" : Str) c_BEYOND)
  (m_peek : TabOk P w K mg base k "peek" tab_peek)
  (m_poke : TabOk P w K mg base k "poke" tab_poke)
  (hr : Room (k + 1) (A.deeper (envOfC "State.plain" (defScope s_State_plain) s.heap.objs.size f cdv))) : MSs (cxOf (L2.CX P w) P w K mg base ["self", "row", "word", "after", "one", "other", "at"] "State.plain" (defScope s_State_plain) f cdv A outer s H E) (fun cls d _ H => E cls d H) (defBody s_State_plain) t_State_plain :=
  (ms_cons (ms_asg (m_ix (m_var 1) m_int) (mg_name (j := 2) sc_State_plain.nd)) (ms_cons (ms_asg (m_op mo_add (m_fld (f := "place") T (m_var 0)) m_int) (mg_name (j := 3) sc_State_plain.nd)) (ms_cons (ms_if (m_tcmp (mo_eq (huR hr)) (m_var 2) m_str) (ms_one (ms_asg (m_ix (m_var 1) m_int) (mg_sub (m_fld (f := "boxes") T (m_var 0)) (m_ix (m_var 1) m_int)))) (ms_one (ms_if (m_tcmp mo_in (m_var 2) (m_tup (ma_cons m_str (ma_cons m_str ma_nil)))) (ms_cons (ms_par rfl sc_State_plain.nd rfl rfl (by decide) rfl rfl (ma_cons (m_call f_worth (hr.mono (Nat.le_succ _)) (takes_of rfl rfl rfl rfl) (ma_cons (m_ix (m_fld (f := "boxes") T (m_var 0)) (m_ix (m_var 1) m_int)) ma_nil)) (ma_cons (m_call f_worth (hr.mono (Nat.le_succ _)) (takes_of rfl rfl rfl rfl) (ma_cons (m_ix (m_fld (f := "boxes") T (m_var 0)) (m_ix (m_var 1) m_int)) ma_nil)) ma_nil)) rfl) (ms_one (ms_asg (m_op mo_mod (m_ifE (m_tcmp (mo_eq (huR hr)) (m_var 2) m_str) (m_op mo_add (m_var 4) (m_var 5)) (m_op mo_sub (m_var 4) (m_var 5))) m_int) (mg_sub (m_fld (f := "boxes") T (m_var 0)) (m_ix (m_var 1) m_int))))) (ms_one (ms_if (m_tcmp mo_in (m_var 2) (m_tup (ma_cons m_str (ma_cons m_str ma_nil)))) (ms_cons (ms_asg (m_meth (m := "cell") m_cell (hr.mono (Nat.le_succ _)) (takes_of rfl rfl rfl rfl) (m_var 0) (ma_cons (m_call f_worth (hr.mono (Nat.le_succ _)) (takes_of rfl rfl rfl rfl) (ma_cons (m_ix (m_fld (f := "boxes") T (m_var 0)) (m_ifE (m_tcmp (mo_eq (huR hr)) (m_var 2) m_str) (m_ix (m_var 1) m_int) (m_ix (m_var 1) m_int))) ma_nil)) ma_nil)) (mg_name (j := 6) sc_State_plain.nd)) (ms_cons (ms_if (m_tisN (m_var 6)) (ms_one (ms_ret (m_kon k_BEYOND))) ms_nil) (ms_one (ms_if (m_tcmp (mo_eq (huR hr)) (m_var 2) m_str) (ms_one (ms_asg (m_meth (m := "peek") m_peek (hr.mono (Nat.le_succ _)) (takes_of rfl rfl rfl rfl) (m_fld (f := "body") T (m_var 0)) (ma_cons (m_var 6) ma_nil)) (mg_sub (m_fld (f := "boxes") T (m_var 0)) (m_ix (m_var 1) m_int)))) (ms_one (ms_do (m_meth (m := "poke") m_poke (hr.mono (Nat.le_succ _)) (takes_of rfl rfl rfl rfl) (m_fld (f := "body") T (m_var 0)) (ma_cons (m_var 6) (ma_cons (m_ix (m_fld (f := "boxes") T (m_var 0)) (m_ix (m_var 1) m_int)) ma_nil))))))))) (ms_one (ms_if (m_tw (mw_or (m_tcmp (mo_eq (huR hr)) (m_var 2) m_str) (mw_or1 (m_tw (mw_and (m_tcmp (mo_eq (huR hr)) (m_var 2) m_str) (mw_and1 (m_tcmp (mo_eq (huR hr)) (m_call f_worth (hr.mono (Nat.le_succ _)) (takes_of rfl rfl rfl rfl) (ma_cons (m_ix (m_fld (f := "boxes") T (m_var 0)) (m_ix (m_var 1) m_int)) ma_nil)) m_int))))))) (ms_one (ms_asg (m_ix (m_var 1) (m_neg m_int)) (mg_name (j := 3) sc_State_plain.nd))) ms_nil))))))) (ms_cons (ms_asg (m_var 3) (mg_fld (c := "State") (f := "place") T (by decide) (m_var 0))) (ms_one (ms_ret m_int))))))
theorem len_o_State_plain : ∀ ds G Q X, sp_State_plain ds G Q X → ds.length = 2 := by
  intro ds G Q X h
  obtain ⟨_, h⟩ := h
  repeat (first | (obtain ⟨rfl, _⟩ := h; rfl; done) | obtain ⟨_, h⟩ := h)
theorem ok_State_plain {P : Program} {w : World} {K : PySem.W.Frag} {mg : Str → Option Value} {base : Heap} {h : Heap} (X : K.In h) (G : h.Ns mainGlobals mg) (c0 : (He.Fa.glo ("State" : Str)).ok K = true) (c1 : (He.Fa.meth ("State" : Str) "plain").ok K = true) (c2 : (He.Fa.cls ("State" : Str)).ok K = true) {k n : Nat} {fd : FuncData} (F : FnP K "plain" "State.plain" s_State_plain (He.ma K (He.ga K ("State" : Str)) "plain") fd)
  (T : FldTxt K mg)
  (f_worth : FnD P w K mg base k ("worth" : Str) sp_worth)
  (m_cell : TabOk P w K mg base k "cell" tab_cell)
  (k_BEYOND : Kon K mg ("BEYOND" : Str) c_BEYOND)
  (m_peek : TabOk P w K mg base k "peek" tab_peek)
  (m_poke : TabOk P w K mg base k "poke" tab_poke)
  : MtD P w K mg base (k + 2) "State" ("plain" : Str) sp_State_plain :=
  mtd_of (c := "State") (m := "plain") X G c0 c2 c1 (FunD.bindsN F fun _ _ _ _ _ _ us hl => match us, hl with | [_, _], _ => rfl) (L3.fn_ok (He5.fun_of F) sc_State_plain t_State_plain (len_o_State_plain) walk_State_plain fun cdv A outer s H E hr => der_State_plain (n := 0) T f_worth m_cell k_BEYOND m_peek m_poke hr)
theorem sc_State_step : FnScope ["self", "kind", "row", "number"] ["self", "kind"] (defScope s_State_step) := ⟨rfl, rfl, rfl, by decide +kernel, rfl, by decide +kernel, by decide +kernel⟩
theorem der_State_step {P : Program} {w : World} {K : PySem.W.Frag} {mg : Str → Option Value} {base : Heap} {k n : Nat} {f : Addr} {cdv : Value} {A : Around} {outer : List Env} {s : Shared} {H : Hp} {E : XK}
  (T : FldTxt K mg)
  (m_coming : TabOk P w K mg base k "coming" tab_coming)
  (b_isinstance : mg ("isinstance" : Str) = none)
  (b_int : mg ("int" : Str) = none)
  (m_caught : TabOk P w K mg base k "caught" tab_caught)
  (k_CALL : Kon K mg ("CALL" : Str) c_CALL)
  (kd_OWN : KD w K mg ("OWN" : Str) kv_OWN)
  (m_own : TabOk P w K mg base k "own" tab_own)
  (f_is_caught : FnD P w K mg base k ("is_caught" : Str) sp_is_caught)
  (k_OWN_ROW : Kon K mg ("OWN_ROW" : Str) c_OWN_ROW)
  (m_own_low : TabOk P w K mg base k "own_low" tab_own_low)
  (m_counted : TabOk P w K mg base k "counted" tab_counted)
  (m_plain : TabOk P w K mg base k "plain" tab_plain)
  (hr : Room (k + 1) (A.deeper (envOfC "State.step" (defScope s_State_step) s.heap.objs.size f cdv))) : MSs (cxOf (L2.CX P w) P w K mg base ["self", "kind", "row", "number"] "State.step" (defScope s_State_step) f cdv A outer s H E) (fun cls d _ H => E cls d H) (defBody s_State_step) t_State_step :=
  (ms_cons (ms_asg (m_op mo_add (m_fld (f := "many") T (m_var 0)) m_int) (mg_fld (c := "State") (f := "many") T (by decide) (m_var 0))) (ms_cons (ms_asg (m_meth0 (m := "coming") m_coming (hr.mono (Nat.le_succ _)) (takes_of rfl rfl rfl rfl) (m_var 0)) (mg_name (j := 2) sc_State_step.nd)) (ms_one (ms_if (m_tval (m_isi (n := "int") b_isinstance b_int (by decide +kernel) (by decide) (m_var 2))) (ms_one (ms_do (m_meth (m := "caught") m_caught (hr.mono (Nat.le_succ _)) (takes_of rfl rfl rfl rfl) (m_var 0) (ma_cons (m_var 2) (ma_cons (m_fld (f := "place") T (m_var 0)) (ma_cons m_int ma_nil)))))) (ms_one (ms_if (m_tcmp (mo_eq (huR hr)) (m_ix (m_var 2) m_int) m_str) (ms_cons (ms_asg (m_op mo_add (m_fld (f := "place") T (m_var 0)) m_int) (mg_fld (c := "State") (f := "place") T (by decide) (m_var 0))) (ms_one (ms_if (m_tnot (m_tval (m_fld (f := "high") T (m_var 0)))) (ms_one (ms_do (m_meth (m := "caught") m_caught (hr.mono (Nat.le_succ _)) (takes_of rfl rfl rfl rfl) (m_var 0) (ma_cons (m_kon k_CALL) (ma_cons (m_fld (f := "place") T (m_var 0)) (ma_cons (m_ix (m_var 2) m_int) ma_nil)))))) ms_nil))) (ms_one (ms_if (m_tw (mw_and (m_tkin kd_OWN (m_ix (m_var 2) m_int)) (mw_and1 (m_tval (m_fld (f := "high") T (m_var 0)))))) (ms_one (ms_do (m_meth (m := "own") m_own (hr.mono (Nat.le_succ _)) (takes_of rfl rfl rfl rfl) (m_var 0) (ma_cons (m_var 2) ma_nil)))) (ms_one (ms_if (m_tw (mw_and (m_tkin kd_OWN (m_ix (m_var 2) m_int)) (mw_and1 (m_tval (m_call f_is_caught (hr.mono (Nat.le_succ _)) (takes_of rfl rfl rfl rfl) (ma_cons (m_var 1) (ma_cons (m_var 2) ma_nil))))))) (ms_one (ms_do (m_meth (m := "caught") m_caught (hr.mono (Nat.le_succ _)) (takes_of rfl rfl rfl rfl) (m_var 0) (ma_cons (m_kon k_OWN_ROW) (ma_cons (m_fld (f := "place") T (m_var 0)) (ma_cons m_int ma_nil)))))) (ms_one (ms_if (m_tkin kd_OWN (m_ix (m_var 2) m_int)) (ms_cons (ms_do (m_meth (m := "own_low") m_own_low (hr.mono (Nat.le_succ _)) (takes_of rfl rfl rfl rfl) (m_var 0) (ma_cons (m_var 2) (ma_cons (m_fld (f := "words") T (m_var 0)) (ma_cons (m_fld (f := "ear") T (m_var 0)) ma_nil))))) (ms_one (ms_do (m_meth0 (m := "counted") m_counted (hr.mono (Nat.le_succ _)) (takes_of rfl rfl rfl rfl) (m_var 0))))) (ms_cons (ms_asg (m_meth (m := "plain") m_plain (hr.mono (Nat.le_succ _)) (takes_of rfl rfl rfl rfl) (m_var 0) (ma_cons (m_var 2) ma_nil)) (mg_name (j := 3) sc_State_step.nd)) (ms_one (ms_if (m_tcmp (mo_eq (huR hr)) (m_var 3) m_int) (ms_one (ms_do (m_meth0 (m := "counted") m_counted (hr.mono (Nat.le_succ _)) (takes_of rfl rfl rfl rfl) (m_var 0)))) (ms_one (ms_do (m_meth (m := "caught") m_caught (hr.mono (Nat.le_succ _)) (takes_of rfl rfl rfl rfl) (m_var 0) (ma_cons (m_var 3) (ma_cons (m_fld (f := "place") T (m_var 0)) (ma_cons m_int ma_nil)))))))))))))))))))))
theorem len_o_State_step : ∀ ds G Q X, sp_State_step ds G Q X → ds.length = 2 := by
  intro ds G Q X h
  obtain ⟨_, h⟩ := h
  repeat (first | (obtain ⟨rfl, _⟩ := h; rfl; done) | obtain ⟨_, h⟩ := h)
theorem ok_State_step {P : Program} {w : World} {K : PySem.W.Frag} {mg : Str → Option Value} {base : Heap} {h : Heap} (X : K.In h) (G : h.Ns mainGlobals mg) (c0 : (He.Fa.glo ("State" : Str)).ok K = true) (c1 : (He.Fa.meth ("State" : Str) "step").ok K = true) (c2 : (He.Fa.cls ("State" : Str)).ok K = true) {k n : Nat} {fd : FuncData} (F : FnP K "step" "State.step" s_State_step (He.ma K (He.ga K ("State" : Str)) "step") fd)
  (T : FldTxt K mg)
  (m_coming : TabOk P w K mg base k "coming" tab_coming)
  (b_isinstance : mg ("isinstance" : Str) = none)
  (b_int : mg ("int" : Str) = none)
  (m_caught : TabOk P w K mg base k "caught" tab_caught)
  (k_CALL : Kon K mg ("CALL" : Str) c_CALL)
  (kd_OWN : KD w K mg ("OWN" : Str) kv_OWN)
  (m_own : TabOk P w K mg base k "own" tab_own)
  (f_is_caught : FnD P w K mg base k ("is_caught" : Str) sp_is_caught)
  (k_OWN_ROW : Kon K mg ("OWN_ROW" : Str) c_OWN_ROW)
  (m_own_low : TabOk P w K mg base k "own_low" tab_own_low)
  (m_counted : TabOk P w K mg base k "counted" tab_counted)
  (m_plain : TabOk P w K mg base k "plain" tab_plain)
  : MtD P w K mg base (k + 2) "State" ("step" : Str) sp_State_step :=
  mtd_of (c := "State") (m := "step") X G c0 c2 c1 (FunD.bindsN F fun _ _ _ _ _ _ us hl => match us, hl with | [_, _], _ => rfl) (L3.fn_ok (He5.fun_of F) sc_State_step t_State_step (len_o_State_step) walk_State_step fun cdv A outer s H E hr => der_State_step (n := 0) T m_coming b_isinstance b_int m_caught k_CALL kd_OWN m_own f_is_caught k_OWN_ROW m_own_low m_counted m_plain hr)
theorem sc_Machine_go : FnScope ["self", "many", "count"] ["self", "many"] (defScope s_Machine_go) := ⟨rfl, rfl, rfl, by decide +kernel, rfl, by decide +kernel, by decide +kernel⟩
theorem der_Machine_go {P : Program} {w : World} {K : PySem.W.Frag} {mg : Str → Option Value} {base : Heap} {k n : Nat} {f : Addr} {cdv : Value} {A : Around} {outer : List Env} {s : Shared} {H : Hp} {E : XK}
  (k_MOST_STEPS : Kon K mg ("MOST_STEPS" : Str) c_MOST_STEPS)
  (f_need_count : FnD P w K mg base k ("need_count" : Str) sp_need_count)
  (b_range : mg ("range" : Str) = none)
  (T : FldTxt K mg)
  (m_step : TabOk P w K mg base k "step" tab_step)
  (hr : Room (k + 1) (A.deeper (envOfC "Machine.go" (defScope s_Machine_go) s.heap.objs.size f cdv))) : MSs (cxOf (L2.CX P w) P w K mg base ["self", "many", "count"] "Machine.go" (defScope s_Machine_go) f cdv A outer s H E) (fun cls d _ H => E cls d H) (defBody s_Machine_go) t_Machine_go :=
  (ms_cons (ms_do (m_call f_need_count (hr.mono (Nat.le_succ _)) (takes_of rfl rfl rfl rfl) (ma_cons (m_var 1) (ma_cons m_int (ma_cons (m_kon k_MOST_STEPS) ma_nil))))) (ms_cons (ms_for (passes_of rfl) rfl (mi_rng1 b_range (m_var 1)) (mg_name (j := 2) sc_Machine_go.nd) (ms_cons (ms_if (m_tcmp (mo_ne (huR hr)) (m_fld (f := "why") T (m_fld (f := "state") T (m_var 0))) m_str) (ms_one (ms_ret (m_var 2))) ms_nil) (ms_one (ms_do (m_meth (m := "step") m_step (hr.mono (Nat.le_succ _)) (takes_of rfl rfl rfl rfl) (m_fld (f := "state") T (m_var 0)) (ma_cons (m_fld (f := "kind") T (m_var 0)) ma_nil)))))) (ms_one (ms_ret (m_var 1)))))
theorem len_o_Machine_go : ∀ ds G Q X, sp_Machine_go ds G Q X → ds.length = 2 := by
  intro ds G Q X h
  obtain ⟨_, h⟩ := h
  repeat (first | (obtain ⟨rfl, _⟩ := h; rfl; done) | obtain ⟨_, h⟩ := h)
theorem ok_Machine_go {P : Program} {w : World} {K : PySem.W.Frag} {mg : Str → Option Value} {base : Heap} {h : Heap} (X : K.In h) (G : h.Ns mainGlobals mg) (c0 : (He.Fa.glo ("Machine" : Str)).ok K = true) (c1 : (He.Fa.meth ("Machine" : Str) "go").ok K = true) (c2 : (He.Fa.cls ("Machine" : Str)).ok K = true) {k n : Nat} {fd : FuncData} (F : FnP K "go" "Machine.go" s_Machine_go (He.ma K (He.ga K ("Machine" : Str)) "go") fd)
  (k_MOST_STEPS : Kon K mg ("MOST_STEPS" : Str) c_MOST_STEPS)
  (f_need_count : FnD P w K mg base k ("need_count" : Str) sp_need_count)
  (b_range : mg ("range" : Str) = none)
  (T : FldTxt K mg)
  (m_step : TabOk P w K mg base k "step" tab_step)
  : MtD P w K mg base (k + 2) "Machine" ("go" : Str) sp_Machine_go :=
  mtd_of (c := "Machine") (m := "go") X G c0 c2 c1 (FunD.bindsN F fun _ _ _ _ _ _ us hl => match us, hl with | [_, _], _ => rfl) (L3.fn_ok (He5.fun_of F) sc_Machine_go t_Machine_go (len_o_Machine_go) walk_Machine_go fun cdv A outer s H E hr => der_Machine_go (n := 0) k_MOST_STEPS f_need_count b_range T m_step hr)
theorem sc_l_same : FnScope ["_law_found", "_law_due", "_law_k"] ["_law_found", "_law_due"] (defScope s_l_same) := ⟨rfl, rfl, rfl, by decide +kernel, rfl, by decide +kernel, by decide +kernel⟩
theorem der_l_same {P : Program} {w : World} {K : PySem.W.Frag} {mg : Str → Option Value} {base : Heap} {k n : Nat} {f : Addr} {cdv : Value} {A : Around} {outer : List Env} {s : Shared} {H : Hp} {E : XK}
  (b_isinstance : mg ("isinstance" : Str) = none)
  (b_tuple : mg ("tuple" : Str) = none)
  (b_list : mg ("list" : Str) = none)
  (b_len : mg ("len" : Str) = none)
  (b_range : mg ("range" : Str) = none)
  (f_l_same : FnD P w K mg base k ("_law_same" : Str) (sp_l_same n))
  (b_str : mg ("str" : Str) = none)
  (b_bool : mg ("bool" : Str) = none)
  (b_int : mg ("int" : Str) = none)
  (hr : Room (k + 1) (A.deeper (envOfC "_law_same" (defScope s_l_same) s.heap.objs.size f cdv))) : MSs (cxOf (L2.CX P w) P w K mg base ["_law_found", "_law_due", "_law_k"] "_law_same" (defScope s_l_same) f cdv A outer s H E) (fun cls d _ H => E cls d H) (defBody s_l_same) (t_l_same n) :=
  (ms_cons (ms_if (m_tval (m_isi2 (n := "tuple") (m := "list") b_isinstance b_tuple (by decide +kernel) b_list (by decide +kernel) (by decide) (by decide) (m_var 1))) (ms_cons (ms_if (m_tw (mw_or (m_tnot (m_tval (m_isi2 (n := "tuple") (m := "list") b_isinstance b_tuple (by decide +kernel) b_list (by decide +kernel) (by decide) (by decide) (m_var 0)))) (mw_or1 (m_tcmp (mo_ne (huR hr)) (m_isi (n := "list") b_isinstance b_list (by decide +kernel) (by decide) (m_var 0)) (m_isi (n := "list") b_isinstance b_list (by decide +kernel) (by decide) (m_var 1)))))) (ms_one (ms_ret m_bl)) ms_nil) (ms_cons (ms_if (m_tcmp (mo_ne (huR hr)) (m_B mc_len b_len PySem.boot_len (ma_cons (m_var 0) ma_nil)) (m_B mc_len b_len PySem.boot_len (ma_cons (m_var 1) ma_nil))) (ms_one (ms_ret m_bl)) ms_nil) (ms_one (ms_ret (m_cmp (mo_eq (huR hr)) (m_comp rfl sc_l_same.nd (own := [("_law_k", 2)]) (ct := (.one 2)) (mi_rng1 b_range (m_B mc_len b_len PySem.boot_len (ma_cons (m_var 1) ma_nil))) (blkOk_by (N := ["_law_found", "_law_due", "_law_k"]) (sc := defScope s_l_same) (by decide +kernel)) (fun _ _ _ _ _ => pg_name (i := 2) sc_l_same.nd rfl (Or.inl rfl)) (fun _ _ _ _ _ => (mts_one (m_tnot (m_tval (m_call f_l_same (hr.mono (Nat.le_succ _)) takes0 (ma_cons (m_ix (m_var 0) (m_var 2)) (ma_cons (m_ix (m_var 1) (m_var 2)) ma_nil))))))) (fun _ _ _ _ _ => (m_var 2))) (m_lst ma_nil)))))) ms_nil) (ms_cons (ms_if (m_tisN (m_var 1)) (ms_one (ms_ret (m_isN (m_var 0)))) ms_nil) (ms_cons (ms_if (m_tval (m_isi (n := "str") b_isinstance b_str (by decide +kernel) (by decide) (m_var 1))) (ms_one (ms_ret (m_and (m_isi (n := "str") b_isinstance b_str (by decide +kernel) (by decide) (m_var 0)) (m_one (m_cmp (mo_eq (huR hr)) (m_var 0) (m_var 1)))))) ms_nil) (ms_cons (ms_if (m_tw (mw_or (m_tval (m_isi (n := "bool") b_isinstance b_bool (by decide +kernel) (by decide) (m_var 1))) (mw_or1 (m_tval (m_isi (n := "bool") b_isinstance b_bool (by decide +kernel) (by decide) (m_var 0)))))) (ms_one (ms_ret (m_and (m_isi (n := "bool") b_isinstance b_bool (by decide +kernel) (by decide) (m_var 1)) (m_and (m_isi (n := "bool") b_isinstance b_bool (by decide +kernel) (by decide) (m_var 0)) (m_one (m_cmp (mo_eq (huR hr)) (m_var 0) (m_var 1))))))) ms_nil) (ms_one (ms_ret (m_and (m_isi (n := "int") b_isinstance b_int (by decide +kernel) (by decide) (m_var 0)) (m_one (m_cmp (mo_eq (huR hr)) (m_var 0) (m_var 1))))))))))
theorem len_o_l_same (n : Nat) : ∀ ds G Q X, (sp_l_same (n + 1)) ds G Q X → ds.length = 2 := by
  intro ds G Q X h
  obtain ⟨_, h⟩ := h
  repeat (first | (obtain ⟨rfl, _⟩ := h; rfl; done) | obtain ⟨_, h⟩ := h)
theorem ok_l_same {P : Program} {w : World} {K : PySem.W.Frag} {mg : Str → Option Value} {base : Heap} {k n : Nat} {f : Addr} {fd : FuncData} (F : FnP K "_law_same" "_law_same" s_l_same f fd) (g : mg ("_law_same" : Str) = some (.ref f))
  (b_isinstance : mg ("isinstance" : Str) = none)
  (b_tuple : mg ("tuple" : Str) = none)
  (b_list : mg ("list" : Str) = none)
  (b_len : mg ("len" : Str) = none)
  (b_range : mg ("range" : Str) = none)
  (f_l_same : FnD P w K mg base k ("_law_same" : Str) (sp_l_same n))
  (b_str : mg ("str" : Str) = none)
  (b_bool : mg ("bool" : Str) = none)
  (b_int : mg ("int" : Str) = none)
  : FnD P w K mg base (k + 2) ("_law_same" : Str) (sp_l_same (n + 1)) :=
  ⟨f, fd, ["_law_found", "_law_due"], g, F.kp, FunD.bindsN F fun _ _ _ _ _ _ us hl => match us, hl with | [_, _], _ => rfl, L3.fn_ok (He5.fun_of F) sc_l_same (t_l_same n) (len_o_l_same n) (walk_l_same n) fun cdv A outer s H E hr => der_l_same (n := n) b_isinstance b_tuple b_list b_len b_range f_l_same b_str b_bool b_int hr⟩
theorem nofn0_l_same {P : Program} {w : World} {K : PySem.W.Frag} {mg : Str → Option Value} {base : Heap} {k : Nat} {f : Addr} {fd : FuncData} {ps : List Str} : FnOk P w K mg base (L2.CX P w) k f fd ps (liftSp K mg (sp_l_same 0)) := nofn fun _ _ _ _ h => h
theorem ok_l_same0 {P : Program} {w : World} {K : PySem.W.Frag} {mg : Str → Option Value} {base : Heap} {k : Nat} {f : Addr} {fd : FuncData} (F : FnP K "_law_same" "_law_same" s_l_same f fd) (g : mg ("_law_same" : Str) = some (.ref f)) : FnD P w K mg base k ("_law_same" : Str) (sp_l_same 0) :=
  ⟨f, fd, ["_law_found", "_law_due"], g, F.kp, FunD.bindsN F fun _ _ _ _ _ _ us hl => match us, hl with | [_, _], _ => rfl, nofn0_l_same⟩
theorem sc_l_bundle : FnScope ["_law_m"] ["_law_m"] (defScope s_l_bundle) := ⟨rfl, rfl, rfl, by decide +kernel, rfl, by decide +kernel, by decide +kernel⟩
theorem der_l_bundle {P : Program} {w : World} {K : PySem.W.Frag} {mg : Str → Option Value} {base : Heap} {k n : Nat} {f : Addr} {cdv : Value} {A : Around} {outer : List Env} {s : Shared} {H : Hp} {E : XK}
  (b_tuple : mg ("tuple" : Str) = none)
  (hr : Room (k + 1) (A.deeper (envOfC "_law_bundle" (defScope s_l_bundle) s.heap.objs.size f cdv))) : MSs (cxOf (L2.CX P w) P w K mg base ["_law_m"] "_law_bundle" (defScope s_l_bundle) f cdv A outer s H E) (fun cls d _ H => E cls d H) (defBody s_l_bundle) t_l_bundle :=
  (ms_one (ms_ret (m_tup (ma_cons (m_Ty mc_tuple b_tuple (by decide +kernel) (ma_cons (m_dget (huR hr) (m_var 0) m_str) ma_nil)) (ma_cons (m_Ty mc_tuple b_tuple (by decide +kernel) (ma_cons (m_dget (huR hr) (m_var 0) m_str) ma_nil)) (ma_cons (m_dget (huR hr) (m_var 0) m_str) (ma_cons (m_dget (huR hr) (m_var 0) m_str) (ma_cons (m_dget (huR hr) (m_var 0) m_str) (ma_cons (m_dget (huR hr) (m_var 0) m_str) (ma_cons (m_Ty mc_tuple b_tuple (by decide +kernel) (ma_cons (m_dget (huR hr) (m_var 0) m_str) ma_nil)) (ma_cons (m_Ty mc_tuple b_tuple (by decide +kernel) (ma_cons (m_dget (huR hr) (m_var 0) m_str) ma_nil)) (ma_cons (m_dget (huR hr) (m_var 0) m_str) (ma_cons (m_dget (huR hr) (m_var 0) m_str) ma_nil)))))))))))))
theorem len_o_l_bundle : ∀ ds G Q X, sp_l_bundle ds G Q X → ds.length = 1 := by
  intro ds G Q X h
  obtain ⟨_, h⟩ := h
  repeat (first | (obtain ⟨rfl, _⟩ := h; rfl; done) | obtain ⟨_, h⟩ := h)
theorem ok_l_bundle {P : Program} {w : World} {K : PySem.W.Frag} {mg : Str → Option Value} {base : Heap} {k n : Nat} {f : Addr} {fd : FuncData} (F : FnP K "_law_bundle" "_law_bundle" s_l_bundle f fd) (g : mg ("_law_bundle" : Str) = some (.ref f))
  (b_tuple : mg ("tuple" : Str) = none)
  : FnD P w K mg base (k + 2) ("_law_bundle" : Str) sp_l_bundle :=
  ⟨f, fd, ["_law_m"], g, F.kp, FunD.bindsN F fun _ _ _ _ _ _ us hl => match us, hl with | [_], _ => rfl, L3.fn_ok (He5.fun_of F) sc_l_bundle t_l_bundle (len_o_l_bundle) walk_l_bundle fun cdv A outer s H E hr => der_l_bundle (n := 0) b_tuple hr⟩
theorem sc_State_packed : FnScope ["self", "things", "start", "at"] ["self"] (defScope s_State_packed) := ⟨rfl, rfl, rfl, by decide +kernel, rfl, by decide +kernel, by decide +kernel⟩
theorem der_State_packed {P : Program} {w : World} {K : PySem.W.Frag} {mg : Str → Option Value} {base : Heap} {k n : Nat} {f : Addr} {cdv : Value} {A : Around} {outer : List Env} {s : Shared} {H : Hp} {E : XK}
  (b_range : mg ("range" : Str) = none)
  (T : FldTxt K mg)
  (m_peek : TabOk P w K mg base k "peek" tab_peek)
  (b_tuple : mg ("tuple" : Str) = none)
  (hr : Room (k + 1) (A.deeper (envOfC "State.packed" (defScope s_State_packed) s.heap.objs.size f cdv))) : MSs (cxOf (L2.CX P w) P w K mg base ["self", "things", "start", "at"] "State.packed" (defScope s_State_packed) f cdv A outer s H E) (fun cls d _ H => E cls d H) (defBody s_State_packed) t_State_packed :=
  (ms_cons (ms_asg (m_Ty mc_tuple b_tuple (by decide +kernel) (ma_cons (m_comp rfl sc_State_packed.nd (own := [("at", 3)]) (ct := (.one 3)) (mi_rng1 b_range (m_fld (f := "wide") T (m_var 0))) (blkOk_by (N := ["self", "things", "start", "at"]) (sc := defScope s_State_packed) (by decide +kernel)) (fun _ _ _ _ _ => pg_name (i := 3) sc_State_packed.nd rfl (Or.inl rfl)) (fun _ _ _ _ _ => mts_nil) (fun _ _ _ _ _ => (m_meth (m := "peek") m_peek (hr.mono (Nat.le_succ _)) takes0 (m_fld (f := "body") T (m_var 0)) (ma_cons (m_var 3) ma_nil)))) ma_nil)) (mg_name (j := 1) sc_State_packed.nd)) (ms_cons (ms_asg (m_tup (ma_cons (m_var 1) (ma_cons (m_Ty mc_tuple b_tuple (by decide +kernel) (ma_cons (m_fld (f := "boxes") T (m_var 0)) ma_nil)) (ma_cons (m_fld (f := "place") T (m_var 0)) (ma_cons (m_fld (f := "high") T (m_var 0)) (ma_cons (m_fld (f := "window") T (m_var 0)) (ma_cons (m_fld (f := "left") T (m_var 0)) ma_nil))))))) (mg_name (j := 2) sc_State_packed.nd)) (ms_one (ms_ret (m_op mo_add (m_var 2) (m_tup (ma_cons (m_Ty mc_tuple b_tuple (by decide +kernel) (ma_cons (m_fld (f := "words") T (m_var 0)) ma_nil)) (ma_cons (m_Ty mc_tuple b_tuple (by decide +kernel) (ma_cons (m_fld (f := "ear") T (m_var 0)) ma_nil)) (ma_cons (m_fld (f := "why") T (m_var 0)) (ma_cons (m_fld (f := "many") T (m_var 0)) ma_nil))))))))))
theorem len_o_State_packed : ∀ ds G Q X, sp_State_packed ds G Q X → ds.length = 1 := by
  intro ds G Q X h
  obtain ⟨_, h⟩ := h
  repeat (first | (obtain ⟨rfl, _⟩ := h; rfl; done) | obtain ⟨_, h⟩ := h)
theorem ok_State_packed {P : Program} {w : World} {K : PySem.W.Frag} {mg : Str → Option Value} {base : Heap} {h : Heap} (X : K.In h) (G : h.Ns mainGlobals mg) (c0 : (He.Fa.glo ("State" : Str)).ok K = true) (c1 : (He.Fa.meth ("State" : Str) "packed").ok K = true) (c2 : (He.Fa.cls ("State" : Str)).ok K = true) {k n : Nat} {fd : FuncData} (F : FnP K "packed" "State.packed" s_State_packed (He.ma K (He.ga K ("State" : Str)) "packed") fd)
  (b_range : mg ("range" : Str) = none)
  (T : FldTxt K mg)
  (m_peek : TabOk P w K mg base k "peek" tab_peek)
  (b_tuple : mg ("tuple" : Str) = none)
  : MtD P w K mg base (k + 2) "State" ("packed" : Str) sp_State_packed :=
  mtd_of (c := "State") (m := "packed") X G c0 c2 c1 (FunD.bindsN F fun _ _ _ _ _ _ us hl => match us, hl with | [_], _ => rfl) (L3.fn_ok (He5.fun_of F) sc_State_packed t_State_packed (len_o_State_packed) walk_State_packed fun cdv A outer s H E hr => der_State_packed (n := 0) b_range T m_peek b_tuple hr)
theorem sc_Machine_carried : FnScope ["self"] ["self"] (defScope s_Machine_carried) := ⟨rfl, rfl, rfl, by decide +kernel, rfl, by decide +kernel, by decide +kernel⟩
theorem der_Machine_carried {P : Program} {w : World} {K : PySem.W.Frag} {mg : Str → Option Value} {base : Heap} {k n : Nat} {f : Addr} {cdv : Value} {A : Around} {outer : List Env} {s : Shared} {H : Hp} {E : XK}
  (T : FldTxt K mg)
  (m_packed : TabOk P w K mg base k "packed" tab_packed)
  (hr : Room (k + 1) (A.deeper (envOfC "Machine.carried" (defScope s_Machine_carried) s.heap.objs.size f cdv))) : MSs (cxOf (L2.CX P w) P w K mg base ["self"] "Machine.carried" (defScope s_Machine_carried) f cdv A outer s H E) (fun cls d _ H => E cls d H) (defBody s_Machine_carried) t_Machine_carried :=
  (ms_one (ms_ret (m_meth0 (m := "packed") m_packed (hr.mono (Nat.le_succ _)) (takes_of rfl rfl rfl rfl) (m_fld (f := "state") T (m_var 0)))))
theorem len_o_Machine_carried : ∀ ds G Q X, sp_Machine_carried ds G Q X → ds.length = 1 := by
  intro ds G Q X h
  obtain ⟨_, h⟩ := h
  repeat (first | (obtain ⟨rfl, _⟩ := h; rfl; done) | obtain ⟨_, h⟩ := h)
theorem ok_Machine_carried {P : Program} {w : World} {K : PySem.W.Frag} {mg : Str → Option Value} {base : Heap} {h : Heap} (X : K.In h) (G : h.Ns mainGlobals mg) (c0 : (He.Fa.glo ("Machine" : Str)).ok K = true) (c1 : (He.Fa.meth ("Machine" : Str) "carried").ok K = true) (c2 : (He.Fa.cls ("Machine" : Str)).ok K = true) {k n : Nat} {fd : FuncData} (F : FnP K "carried" "Machine.carried" s_Machine_carried (He.ma K (He.ga K ("Machine" : Str)) "carried") fd)
  (T : FldTxt K mg)
  (m_packed : TabOk P w K mg base k "packed" tab_packed)
  : MtD P w K mg base (k + 2) "Machine" ("carried" : Str) sp_Machine_carried :=
  mtd_of (c := "Machine") (m := "carried") X G c0 c2 c1 (FunD.bindsN F fun _ _ _ _ _ _ us hl => match us, hl with | [_], _ => rfl) (L3.fn_ok (He5.fun_of F) sc_Machine_carried t_Machine_carried (len_o_Machine_carried) walk_Machine_carried fun cdv A outer s H E hr => der_Machine_carried (n := 0) T m_packed hr)
theorem sc_law : FnScope ["_law_script", "_law_state", "_law_words", "_law_word", "_law_row_here", "_law_again", "_law_cells_here", "_law_step_here", "_law_kind_here", "_law_ear_here", "_law_machine_here", "_law_m"] ["_law_script"] (defScope s_law) := ⟨rfl, rfl, rfl, by decide +kernel, rfl, by decide +kernel, by decide +kernel⟩
theorem der_law {P : Program} {w : World} {K : PySem.W.Frag} {mg : Str → Option Value} {base : Heap} {k n : Nat} {f : Addr} {cdv : Value} {A : Around} {outer : List Env} {s : Shared} {H : Hp} {E : XK}
  (f_l_start : FnD P w K mg base k ("_law_start" : Str) sp_l_start)
  (f_l_row : FnD P w K mg base k ("_law_row" : Str) sp_l_row)
  (b_range : mg ("range" : Str) = none)
  (f_l_begin : FnD P w K mg base k ("_law_begin" : Str) sp_l_begin)
  (f_l_ear : FnD P w K mg base k ("_law_ear" : Str) sp_l_ear)
  (f_l_kind : FnD P w K mg base k ("_law_kind" : Str) sp_l_kind)
  (f_l_machine : FnD P w K mg base k ("_law_machine" : Str) sp_l_machine)
  (mk_Machine : MkD P w K mg base k ("Machine" : Str) sp_Machine_init)
  (f_l_goes : FnD P w K mg base k ("_law_goes" : Str) sp_l_goes)
  (m_go : TabOk P w K mg base k "go" tab_go)
  (f_l_same : FnD P w K mg base k ("_law_same" : Str) (sp_l_same 4))
  (f_l_bundle : FnD P w K mg base k ("_law_bundle" : Str) sp_l_bundle)
  (m_carried : TabOk P w K mg base k "carried" tab_carried)
  (hr : Room (k + 1) (A.deeper (envOfC "law" (defScope s_law) s.heap.objs.size f cdv))) : MSs (cxOf (L2.CX P w) P w K mg base ["_law_script", "_law_state", "_law_words", "_law_word", "_law_row_here", "_law_again", "_law_cells_here", "_law_step_here", "_law_kind_here", "_law_ear_here", "_law_machine_here", "_law_m"] "law" (defScope s_law) f cdv A outer s H E) (fun cls d _ H => E cls d H) (defBody s_law) t_law :=
  (ms_cons (ms_asg (m_call f_l_start (hr.mono (Nat.le_succ _)) (takes_of rfl rfl rfl rfl) (ma_cons (m_var 0) ma_nil)) (mg_name (j := 1) sc_law.nd)) (ms_cons (ms_asg (m_lst (ma_cons m_str (ma_cons m_str (ma_cons m_str (ma_cons m_str (ma_cons m_str (ma_cons m_str (ma_cons m_str (ma_cons m_str (ma_cons m_str (ma_cons m_str (ma_cons m_str (ma_cons m_str (ma_cons m_str ma_nil)))))))))))))) (mg_name (j := 2) sc_law.nd)) (ms_cons (ms_forS (passes_of rfl) rfl (mi_lst (m_op mo_add (m_var 2) (m_lst (ma_cons m_str (ma_cons m_str (ma_cons m_str (ma_cons m_str (ma_cons m_str ma_nil)))))))) (mg_name (j := 3) sc_law.nd) (ms_cons (ms_asg (m_call f_l_row (hr.mono (Nat.le_succ _)) (takes_of rfl rfl rfl rfl) (ma_cons (m_var 1) (ma_cons m_int ma_nil))) (mg_name (j := 4) sc_law.nd)) (ms_cons (ms_forS (passes_of rfl) rfl (mi_rng1 b_range m_int) (mg_name (j := 5) sc_law.nd) (ms_one (ms_if (m_tw (mw_and (m_tcmp (mo_ne (huR hr)) (m_ix (m_var 4) m_int) (m_var 3)) (mw_and1 (m_tcmp (mo_ne (huR hr)) (m_var 3) m_str)))) (ms_one (ms_asg (m_call f_l_row (hr.mono (Nat.le_succ _)) (takes_of rfl rfl rfl rfl) (ma_cons (m_var 1) (ma_cons m_int ma_nil))) (mg_name (j := 4) sc_law.nd))) ms_nil))) (ms_cons (ms_asg (m_call f_l_begin (hr.mono (Nat.le_succ _)) (takes_of rfl rfl rfl rfl) (ma_cons (m_var 1) (ma_cons (m_ifE (m_tcmp (mo_eq (huR hr)) (m_var 3) m_str) m_int (m_var 4)) ma_nil))) (mg_name (j := 6) sc_law.nd)) (ms_cons (ms_par rfl sc_law.nd rfl rfl (by decide) rfl rfl (ma_cons (m_call f_l_kind (hr.mono (Nat.le_succ _)) (takes_of rfl rfl rfl rfl) (ma_cons (m_var 1) ma_nil)) (ma_cons (m_call f_l_ear (hr.mono (Nat.le_succ _)) (takes_of rfl rfl rfl rfl) (ma_cons (m_var 1) ma_nil)) ma_nil)) rfl) (ms_cons (ms_par rfl sc_law.nd rfl rfl (by decide) rfl rfl (ma_cons (m_make (c := "Machine") mk_Machine hr (takes_of rfl rfl rfl rfl) (ma_cons (m_var 8) (ma_cons (m_var 6) (ma_cons (m_var 9) ma_nil)))) (ma_cons (m_call f_l_machine (hr.mono (Nat.le_succ _)) (takes_of rfl rfl rfl rfl) (ma_cons (m_var 6) (ma_cons (m_var 9) ma_nil))) ma_nil)) rfl) (ms_one (ms_forS (passes_of rfl) rfl (mi_rng1 b_range m_int) (mg_name (j := 7) sc_law.nd) (ms_cons (ms_if (m_tnot (m_tval (m_call f_l_same (hr.mono (Nat.le_succ _)) (takes_of rfl rfl rfl rfl) (ma_cons (m_meth (m := "go") m_go (hr.mono (Nat.le_succ _)) (takes_of rfl rfl rfl rfl) (m_var 10) (ma_cons m_int ma_nil)) (ma_cons (m_call f_l_goes (hr.mono (Nat.le_succ _)) (takes_of rfl rfl rfl rfl) (ma_cons (m_var 11) (ma_cons (m_var 8) (ma_cons m_non (ma_cons (m_lst ma_nil) (ma_cons m_int ma_nil)))))) ma_nil))))) (ms_one (ms_ret m_bl)) ms_nil) (ms_one (ms_if (m_tnot (m_tval (m_call f_l_same (hr.mono (Nat.le_succ _)) (takes_of rfl rfl rfl rfl) (ma_cons (m_meth0 (m := "carried") m_carried (hr.mono (Nat.le_succ _)) (takes_of rfl rfl rfl rfl) (m_var 10)) (ma_cons (m_call f_l_bundle (hr.mono (Nat.le_succ _)) (takes_of rfl rfl rfl rfl) (ma_cons (m_var 11) ma_nil)) ma_nil))))) (ms_one (ms_ret m_bl)) ms_nil))))))))))) (ms_one (ms_ret m_bl)))))
theorem len_o_law : ∀ ds G Q X, sp_law ds G Q X → ds.length = 1 := by
  intro ds G Q X h
  obtain ⟨_, h⟩ := h
  repeat (first | (obtain ⟨rfl, _⟩ := h; rfl; done) | obtain ⟨_, h⟩ := h)
theorem law_fnok {P : Program} {w : World} {K : PySem.W.Frag} {mg : Str → Option Value} {base : Heap} {f : Addr} {fd : FuncData} (F : FnP K "law" "law" s_law f fd) (g : mg ("law" : Str) = some (.ref f))
  (f_l_start : FnD P w K mg base 12 ("_law_start" : Str) sp_l_start)
  (f_l_row : FnD P w K mg base 12 ("_law_row" : Str) sp_l_row)
  (b_range : mg ("range" : Str) = none)
  (f_l_begin : FnD P w K mg base 12 ("_law_begin" : Str) sp_l_begin)
  (f_l_ear : FnD P w K mg base 12 ("_law_ear" : Str) sp_l_ear)
  (f_l_kind : FnD P w K mg base 12 ("_law_kind" : Str) sp_l_kind)
  (f_l_machine : FnD P w K mg base 12 ("_law_machine" : Str) sp_l_machine)
  (mk_Machine : MkD P w K mg base 12 ("Machine" : Str) sp_Machine_init)
  (f_l_goes : FnD P w K mg base 12 ("_law_goes" : Str) sp_l_goes)
  (m_go : TabOk P w K mg base 12 "go" tab_go)
  (f_l_same : FnD P w K mg base 12 ("_law_same" : Str) (sp_l_same 4))
  (f_l_bundle : FnD P w K mg base 12 ("_law_bundle" : Str) sp_l_bundle)
  (m_carried : TabOk P w K mg base 12 "carried" tab_carried)
  : FnOk P w K mg base (L2.CX P w) 14 f fd ["_law_script"] (liftSp K mg sp_law) :=
  L3.fn_ok (He5.fun_of F) sc_law t_law len_o_law walk_law fun cdv A outer s H E hr => der_law (n := 0) f_l_start f_l_row b_range f_l_begin f_l_ear f_l_kind f_l_machine mk_Machine f_l_goes m_go f_l_same f_l_bundle m_carried hr
theorem facts {P : Program} {w : World} {K : PySem.W.Frag} {h : Heap} {mg : Str → Option Value} {f : Addr} (X : K.In h) (G : h.Ns mainGlobals mg) (hfa : mg ("law" : Str) = some (.ref f)) (c : He.SaysX fas fns tss tfs exs w h K) :
    ∃ fd : FuncData, (∀ (s : Shared) (v : Value), BindsTo s fd ⟨[v], []⟩ [("_law_script", v)]) ∧ ∀ base : Heap, K.In base → base.Ns mainGlobals mg → FnOk P w K mg base (L2.CX P w) 14 f fd ["_law_script"] (liftSp K mg sp_law) := by
  have cd := c.t.d
  have e := hfa.symm.trans (He.glo_ok X G (cd.fact 0 (f := .glo "law") rfl))
  cases e
  obtain ⟨fd_l_start, F_l_start⟩ := cd.def_ 0 (d := dd_l_start) rfl
  have g_l_start := He.glo_ok X G (cd.fact 1 (f := .glo "_law_start") rfl)
  obtain ⟨fd_l_drawn, F_l_drawn⟩ := cd.def_ 1 (d := dd_l_drawn) rfl
  have g_l_drawn := He.glo_ok X G (cd.fact 2 (f := .glo "_law_drawn") rfl)
  obtain ⟨fd_l_number, F_l_number⟩ := cd.def_ 2 (d := dd_l_number) rfl
  have g_l_number := He.glo_ok X G (cd.fact 3 (f := .glo "_law_number") rfl)
  obtain ⟨fd_l_row, F_l_row⟩ := cd.def_ 3 (d := dd_l_row) rfl
  have g_l_row := He.glo_ok X G (cd.fact 4 (f := .glo "_law_row") rfl)
  obtain ⟨fd_l_begin, F_l_begin⟩ := cd.def_ 4 (d := dd_l_begin) rfl
  have g_l_begin := He.glo_ok X G (cd.fact 5 (f := .glo "_law_begin") rfl)
  obtain ⟨fd_l_ear, F_l_ear⟩ := cd.def_ 5 (d := dd_l_ear) rfl
  have g_l_ear := He.glo_ok X G (cd.fact 6 (f := .glo "_law_ear") rfl)
  obtain ⟨fd_l_kind, F_l_kind⟩ := cd.def_ 6 (d := dd_l_kind) rfl
  have g_l_kind := He.glo_ok X G (cd.fact 7 (f := .glo "_law_kind") rfl)
  obtain ⟨fd_l_machine, F_l_machine⟩ := cd.def_ 7 (d := dd_l_machine) rfl
  have g_l_machine := He.glo_ok X G (cd.fact 8 (f := .glo "_law_machine") rfl)
  obtain ⟨fd_need_kind, F_need_kind⟩ := cd.def_ 8 (d := dd_need_kind) rfl
  have g_need_kind := He.glo_ok X G (cd.fact 9 (f := .glo "need_kind") rfl)
  obtain ⟨fd_is_number, F_is_number⟩ := cd.def_ 9 (d := dd_is_number) rfl
  have g_is_number := He.glo_ok X G (cd.fact 10 (f := .glo "is_number") rfl)
  obtain ⟨fd_is_part, F_is_part⟩ := cd.def_ 10 (d := dd_is_part) rfl
  have g_is_part := He.glo_ok X G (cd.fact 11 (f := .glo "is_part") rfl)
  obtain ⟨fd_is_row, F_is_row⟩ := cd.def_ 11 (d := dd_is_row) rfl
  have g_is_row := He.glo_ok X G (cd.fact 12 (f := .glo "is_row") rfl)
  obtain ⟨fd_is_thing, F_is_thing⟩ := cd.def_ 12 (d := dd_is_thing) rfl
  have g_is_thing := He.glo_ok X G (cd.fact 13 (f := .glo "is_thing") rfl)
  obtain ⟨fd_need_cells, F_need_cells⟩ := cd.def_ 13 (d := dd_need_cells) rfl
  have g_need_cells := He.glo_ok X G (cd.fact 14 (f := .glo "need_cells") rfl)
  obtain ⟨fd_need_ear, F_need_ear⟩ := cd.def_ 14 (d := dd_need_ear) rfl
  have g_need_ear := He.glo_ok X G (cd.fact 15 (f := .glo "need_ear") rfl)
  obtain ⟨fd_Body___init__, F_Body___init__⟩ := cd.def_ 15 (d := dd_Body___init__) rfl
  obtain ⟨fd_State___init__, F_State___init__⟩ := cd.def_ 16 (d := dd_State___init__) rfl
  obtain ⟨fd_Machine___init__, F_Machine___init__⟩ := cd.def_ 17 (d := dd_Machine___init__) rfl
  obtain ⟨fd_l_worth, F_l_worth⟩ := cd.def_ 18 (d := dd_l_worth) rfl
  have g_l_worth := He.glo_ok X G (cd.fact 25 (f := .glo "_law_worth") rfl)
  obtain ⟨fd_l_caught, F_l_caught⟩ := cd.def_ 19 (d := dd_l_caught) rfl
  have g_l_caught := He.glo_ok X G (cd.fact 26 (f := .glo "_law_caught") rfl)
  obtain ⟨fd_l_own, F_l_own⟩ := cd.def_ 20 (d := dd_l_own) rfl
  have g_l_own := He.glo_ok X G (cd.fact 27 (f := .glo "_law_own") rfl)
  obtain ⟨fd_l_plain, F_l_plain⟩ := cd.def_ 21 (d := dd_l_plain) rfl
  have g_l_plain := He.glo_ok X G (cd.fact 28 (f := .glo "_law_plain") rfl)
  obtain ⟨fd_l_counts, F_l_counts⟩ := cd.def_ 22 (d := dd_l_counts) rfl
  have g_l_counts := He.glo_ok X G (cd.fact 29 (f := .glo "_law_counts") rfl)
  obtain ⟨fd_l_low, F_l_low⟩ := cd.def_ 23 (d := dd_l_low) rfl
  have g_l_low := He.glo_ok X G (cd.fact 30 (f := .glo "_law_low") rfl)
  obtain ⟨fd_l_high, F_l_high⟩ := cd.def_ 24 (d := dd_l_high) rfl
  have g_l_high := He.glo_ok X G (cd.fact 31 (f := .glo "_law_high") rfl)
  obtain ⟨fd_l_step, F_l_step⟩ := cd.def_ 25 (d := dd_l_step) rfl
  have g_l_step := He.glo_ok X G (cd.fact 32 (f := .glo "_law_step") rfl)
  obtain ⟨fd_l_goes, F_l_goes⟩ := cd.def_ 26 (d := dd_l_goes) rfl
  have g_l_goes := He.glo_ok X G (cd.fact 33 (f := .glo "_law_goes") rfl)
  obtain ⟨fd_need_count, F_need_count⟩ := cd.def_ 27 (d := dd_need_count) rfl
  have g_need_count := He.glo_ok X G (cd.fact 34 (f := .glo "need_count") rfl)
  obtain ⟨fd_State_cell, F_State_cell⟩ := cd.def_ 28 (d := dd_State_cell) rfl
  obtain ⟨fd_Body_peek, F_Body_peek⟩ := cd.def_ 29 (d := dd_Body_peek) rfl
  obtain ⟨fd_State_coming, F_State_coming⟩ := cd.def_ 30 (d := dd_State_coming) rfl
  obtain ⟨fd_Body_poke, F_Body_poke⟩ := cd.def_ 31 (d := dd_Body_poke) rfl
  obtain ⟨fd_worth, F_worth⟩ := cd.def_ 32 (d := dd_worth) rfl
  have g_worth := He.glo_ok X G (cd.fact 39 (f := .glo "worth") rfl)
  obtain ⟨fd_State_caught, F_State_caught⟩ := cd.def_ 33 (d := dd_State_caught) rfl
  obtain ⟨fd_State_own, F_State_own⟩ := cd.def_ 34 (d := dd_State_own) rfl
  obtain ⟨fd_is_caught, F_is_caught⟩ := cd.def_ 35 (d := dd_is_caught) rfl
  have g_is_caught := He.glo_ok X G (cd.fact 42 (f := .glo "is_caught") rfl)
  obtain ⟨fd_State_own_low, F_State_own_low⟩ := cd.def_ 36 (d := dd_State_own_low) rfl
  obtain ⟨fd_State_counted, F_State_counted⟩ := cd.def_ 37 (d := dd_State_counted) rfl
  obtain ⟨fd_State_plain, F_State_plain⟩ := cd.def_ 38 (d := dd_State_plain) rfl
  obtain ⟨fd_State_step, F_State_step⟩ := cd.def_ 39 (d := dd_State_step) rfl
  obtain ⟨fd_Machine_go, F_Machine_go⟩ := cd.def_ 40 (d := dd_Machine_go) rfl
  obtain ⟨fd_l_same, F_l_same⟩ := cd.def_ 41 (d := dd_l_same) rfl
  have g_l_same := He.glo_ok X G (cd.fact 48 (f := .glo "_law_same") rfl)
  obtain ⟨fd_l_bundle, F_l_bundle⟩ := cd.def_ 42 (d := dd_l_bundle) rfl
  have g_l_bundle := He.glo_ok X G (cd.fact 49 (f := .glo "_law_bundle") rfl)
  obtain ⟨fd_State_packed, F_State_packed⟩ := cd.def_ 43 (d := dd_State_packed) rfl
  obtain ⟨fd_Machine_carried, F_Machine_carried⟩ := cd.def_ 44 (d := dd_Machine_carried) rfl
  obtain ⟨fd_law, F_law⟩ := cd.def_ 45 (d := dd_law) rfl
  have g_law := He.glo_ok X G (cd.fact 0 (f := .glo "law") rfl)
  have b_len := He.free_ok X G (cd.fact 52 (f := .free "len") rfl)
  have b_range := He.free_ok X G (cd.fact 53 (f := .free "range") rfl)
  have b_max := He.free_ok X G (cd.fact 54 (f := .free "max") rfl)
  have b_int := He.free_ok X G (cd.fact 55 (f := .free "int") rfl)
  have b_min := He.free_ok X G (cd.fact 56 (f := .free "min") rfl)
  have b_tuple := He.free_ok X G (cd.fact 57 (f := .free "tuple") rfl)
  have b_list := He.free_ok X G (cd.fact 58 (f := .free "list") rfl)
  have b_isinstance := He.free_ok X G (cd.fact 59 (f := .free "isinstance") rfl)
  have b_bool := He.free_ok X G (cd.fact 60 (f := .free "bool") rfl)
  have b_str := He.free_ok X G (cd.fact 61 (f := .free "str") rfl)
  have b_enumerate := He.free_ok X G (cd.fact 62 (f := .free "enumerate") rfl)
  have r_BadKind := rsd_of X G (cd.fact 63 (f := .glo "BadKind") rfl) (cd.fact 64 (f := .exc "BadKind") rfl)
  have r_BadEar := rsd_of X G (cd.fact 65 (f := .glo "BadEar") rfl) (cd.fact 66 (f := .exc "BadEar") rfl)
  have r_BadCount := rsd_of X G (cd.fact 67 (f := .glo "BadCount") rfl) (cd.fact 68 (f := .exc "BadCount") rfl)
  have m := c.more
  obtain ⟨x_k_OWN_ORDER, m0⟩ := He.ba m
  obtain ⟨x_k_MOST_NUMBER, m1⟩ := He.ba m0
  obtain ⟨x_k_BOXES, m2⟩ := He.ba m1
  obtain ⟨x_k_MOST_CELLS, m3⟩ := He.ba m2
  obtain ⟨x_k_LEAST_CELLS, m4⟩ := He.ba m3
  obtain ⟨x_k_MOST_EAR, m5⟩ := He.ba m4
  obtain ⟨x_k_BEYOND, m6⟩ := He.ba m5
  obtain ⟨x_k_NO_ROW, m7⟩ := He.ba m6
  obtain ⟨x_k_KEPT, m8⟩ := He.ba m7
  obtain ⟨x_k_GOES_TO, m9⟩ := He.ba m8
  obtain ⟨x_k_ALARM, m10⟩ := He.ba m9
  obtain ⟨x_k_CALL, m11⟩ := He.ba m10
  obtain ⟨x_k_OWN_ROW, m12⟩ := He.ba m11
  obtain ⟨x_k_MOST_STEPS, m13⟩ := He.ba m12
  obtain ⟨x_kt_OWN_ORDER, m14⟩ := He.ba m13
  obtain ⟨x_kdi_WORDS, m15⟩ := He.ba m14
  obtain ⟨x_kd_PLAIN, m16⟩ := He.ba m15
  obtain ⟨x_kd_OWN, m17⟩ := He.ba m16
  obtain ⟨x_cb_State, m18⟩ := He.ba m17
  obtain ⟨x_cb_Machine, m19⟩ := He.ba m18
  have x_cb_Body := m19
  have k_OWN_ORDER := konB_ok X G x_k_OWN_ORDER
  have k_MOST_NUMBER := konB_ok X G x_k_MOST_NUMBER
  have k_BOXES := konB_ok X G x_k_BOXES
  have k_MOST_CELLS := konB_ok X G x_k_MOST_CELLS
  have k_LEAST_CELLS := konB_ok X G x_k_LEAST_CELLS
  have k_MOST_EAR := konB_ok X G x_k_MOST_EAR
  have k_BEYOND := konB_ok X G x_k_BEYOND
  have k_NO_ROW := konB_ok X G x_k_NO_ROW
  have k_KEPT := konB_ok X G x_k_KEPT
  have k_GOES_TO := konB_ok X G x_k_GOES_TO
  have k_ALARM := konB_ok X G x_k_ALARM
  have k_CALL := konB_ok X G x_k_CALL
  have k_OWN_ROW := konB_ok X G x_k_OWN_ROW
  have k_MOST_STEPS := konB_ok X G x_k_MOST_STEPS
  have kt_OWN_ORDER := ktB_ok X G x_kt_OWN_ORDER
  have kdi_WORDS := kdiB_ok X G x_kdi_WORDS
  obtain ⟨es_PLAIN, n_PLAIN, T_PLAIN⟩ := c.t.tab 0 (t := (fun K => He.ga K "PLAIN", ["put", "add", "less", "load", "store", "zero", "go", "call"])) rfl
  have kd_PLAIN := kdB_ok X G x_kd_PLAIN T_PLAIN
  obtain ⟨es_OWN, n_OWN, T_OWN⟩ := c.t.tab 1 (t := (fun K => He.ga K "OWN", ["say", "hear", "which", "room", "enter", "alarm", "stop"])) rfl
  have kd_OWN := kdB_ok X G x_kd_OWN T_OWN
  have T : FldTxt K mg := fldTxt_of X G fun c hc => by
    simp only [List.mem_cons, List.not_mem_nil, or_false] at hc
    rcases hc with rfl | rfl | rfl | rfl | rfl | rfl
    · exact .inl x_cb_State
    · exact .inl x_cb_Machine
    · exact .inl x_cb_Body
    · exact .inr (cd.fact 69 (f := .free "Ground") rfl)
    · exact .inr (cd.fact 70 (f := .free "Room") rfl)
    · exact .inr (cd.fact 71 (f := .free "Host") rfl)
  refine ⟨fd_law, fun s v => FunD.bindsA (ps := ["_law_script"]) F_law (fun _ _ _ _ _ _ us hl => match us, hl with | [_], _ => rfl) s [v] rfl, fun base _ _ => ?_⟩
  have f_l_start : FnD P w K mg base 2 "_law_start" sp_l_start := ok_l_start (k := 0) (n := 0) F_l_start g_l_start 
  have f_l_drawn : FnD P w K mg base 2 "_law_drawn" sp_l_drawn := ok_l_drawn (k := 0) (n := 0) F_l_drawn g_l_drawn b_len
  have f_l_number : FnD P w K mg base 4 "_law_number" sp_l_number := ok_l_number (k := 2) (n := 0) F_l_number g_l_number (f_l_drawn.mono (by decide))
  have f_l_row : FnD P w K mg base 6 "_law_row" sp_l_row := ok_l_row (k := 4) (n := 0) F_l_row g_l_row (f_l_drawn.mono (by decide)) b_range (f_l_number.mono (by decide))
  have f_l_begin : FnD P w K mg base 8 "_law_begin" sp_l_begin := ok_l_begin (k := 6) (n := 0) F_l_begin g_l_begin (f_l_drawn.mono (by decide)) b_max (f_l_number.mono (by decide)) b_range (f_l_row.mono (by decide)) b_int b_min
  have f_l_ear : FnD P w K mg base 6 "_law_ear" sp_l_ear := ok_l_ear (k := 4) (n := 0) F_l_ear g_l_ear b_range (f_l_drawn.mono (by decide)) (f_l_number.mono (by decide))
  have f_l_kind : FnD P w K mg base 4 "_law_kind" sp_l_kind := ok_l_kind (k := 2) (n := 0) F_l_kind g_l_kind (f_l_drawn.mono (by decide)) b_range b_tuple
  have f_l_machine : FnD P w K mg base 2 "_law_machine" sp_l_machine := ok_l_machine (k := 0) (n := 0) F_l_machine g_l_machine b_len b_list
  have f_need_kind : FnD P w K mg base 2 "need_kind" sp_need_kind := ok_need_kind (k := 0) (n := 0) F_need_kind g_need_kind b_isinstance b_tuple b_len k_OWN_ORDER b_bool r_BadKind
  have f_is_number : FnD P w K mg base 2 "is_number" sp_is_number := ok_is_number (k := 0) (n := 0) F_is_number g_is_number b_isinstance b_int b_bool
  have f_is_part : FnD P w K mg base 4 "is_part" sp_is_part := ok_is_part (k := 2) (n := 0) F_is_part g_is_part k_MOST_NUMBER k_BOXES (f_is_number.mono (by decide))
  have f_is_row : FnD P w K mg base 6 "is_row" sp_is_row := ok_is_row (k := 4) (n := 0) F_is_row g_is_row b_isinstance b_tuple b_len b_str kd_PLAIN kd_OWN b_range (f_is_part.mono (by decide))
  have f_is_thing : FnD P w K mg base 8 "is_thing" sp_is_thing := ok_is_thing (k := 6) (n := 0) F_is_thing g_is_thing k_MOST_NUMBER (f_is_number.mono (by decide)) (f_is_row.mono (by decide))
  have f_need_cells : FnD P w K mg base 10 "need_cells" sp_need_cells := ok_need_cells (k := 8) (n := 0) F_need_cells g_need_cells b_enumerate k_MOST_CELLS (f_is_thing.mono (by decide)) b_len k_LEAST_CELLS
  have f_need_ear : FnD P w K mg base 4 "need_ear" sp_need_ear := ok_need_ear (k := 2) (n := 0) F_need_ear g_need_ear b_len k_MOST_EAR k_MOST_NUMBER (f_is_number.mono (by decide)) r_BadEar
  have mk_Body : MkD P w K mg base 2 "Body" sp_Body_init := ok_Body___init__ X G (cd.fact 16 (f := .glo "Body") rfl) (cd.fact 18 (f := .mkr "Body") rfl) (k := 0) (n := 0) F_Body___init__ T b_list
  have mk_State : MkD P w K mg base 2 "State" sp_State_init := ok_State___init__ X G (cd.fact 19 (f := .glo "State") rfl) (cd.fact 21 (f := .mkr "State") rfl) (k := 0) (n := 0) F_State___init__ T k_BOXES b_list
  have mk_Machine : MkD P w K mg base 12 "Machine" sp_Machine_init := ok_Machine___init__ X G (cd.fact 22 (f := .glo "Machine") rfl) (cd.fact 24 (f := .mkr "Machine") rfl) (k := 10) (n := 0) F_Machine___init__ (f_need_kind.mono (by decide)) (f_need_cells.mono (by decide)) (f_need_ear.mono (by decide)) T b_len (mk_Body.mono (by decide)) (mk_State.mono (by decide))
  have f_l_worth : FnD P w K mg base 2 "_law_worth" sp_l_worth := ok_l_worth (k := 0) (n := 0) F_l_worth g_l_worth b_isinstance b_int
  have f_l_caught : FnD P w K mg base 4 "_law_caught" sp_l_caught := ok_l_caught (k := 2) (n := 0) F_l_caught g_l_caught (f_l_worth.mono (by decide)) b_len
  have f_l_own : FnD P w K mg base 2 "_law_own" sp_l_own := ok_l_own (k := 0) (n := 0) F_l_own g_l_own 
  have f_l_plain : FnD P w K mg base 6 "_law_plain" sp_l_plain := ok_l_plain (k := 4) (n := 0) F_l_plain g_l_plain (f_l_worth.mono (by decide)) (f_l_caught.mono (by decide)) b_int
  have f_l_counts : FnD P w K mg base 6 "_law_counts" sp_l_counts := ok_l_counts (k := 4) (n := 0) F_l_counts g_l_counts (f_l_caught.mono (by decide))
  have f_l_low : FnD P w K mg base 4 "_law_low" sp_l_low := ok_l_low (k := 2) (n := 0) F_l_low g_l_low (f_l_worth.mono (by decide)) b_int
  have f_l_high : FnD P w K mg base 4 "_law_high" sp_l_high := ok_l_high (k := 2) (n := 0) F_l_high g_l_high (f_l_worth.mono (by decide)) b_len b_int
  have f_l_step : FnD P w K mg base 8 "_law_step" sp_l_step := ok_l_step (k := 6) (n := 0) F_l_step g_l_step b_isinstance b_tuple (f_l_caught.mono (by decide)) (f_l_own.mono (by decide)) (f_l_plain.mono (by decide)) (f_l_counts.mono (by decide)) (f_l_low.mono (by decide)) (f_l_high.mono (by decide))
  have f_l_goes : FnD P w K mg base 10 "_law_goes" sp_l_goes := ok_l_goes (k := 8) (n := 0) F_l_goes g_l_goes b_range (f_l_step.mono (by decide))
  have f_need_count : FnD P w K mg base 4 "need_count" sp_need_count := ok_need_count (k := 2) (n := 0) F_need_count g_need_count (f_is_number.mono (by decide)) r_BadCount
  have mt_State_cell : MtD P w K mg base 2 "State" "cell" sp_State_cell := ok_State_cell X G (cd.fact 19 (f := .glo "State") rfl) (cd.fact 35 (f := .meth "State" "cell") rfl) (cd.fact 20 (f := .cls "State") rfl) (k := 0) (n := 0) F_State_cell T
  have mt_Body_peek : MtD P w K mg base 2 "Body" "peek" (sp_peek 3 "Body") := ok_Body_peek X G (cd.fact 16 (f := .glo "Body") rfl) (cd.fact 36 (f := .meth "Body" "peek") rfl) (cd.fact 17 (f := .cls "Body") rfl) (k := 0) (n := 0) F_Body_peek T
  have m_cell : TabOk P w K mg base 2 "cell" tab_cell := (TabOk.cons' rfl (mt_State_cell.mono (by decide)) TabOk.nil')
  have m_peek : TabOk P w K mg base 2 "peek" tab_peek := (TabOk.cons' rfl (mt_Body_peek.mono (by decide)) (TabOk.cons' rfl (mtd_no X G (cd.fact 69 (f := .free "Ground") rfl)) (TabOk.cons' rfl (mtd_no X G (cd.fact 70 (f := .free "Room") rfl)) TabOk.nil')))
  have mt_State_coming : MtD P w K mg base 4 "State" "coming" sp_State_coming := ok_State_coming X G (cd.fact 19 (f := .glo "State") rfl) (cd.fact 37 (f := .meth "State" "coming") rfl) (cd.fact 20 (f := .cls "State") rfl) (k := 2) (n := 0) F_State_coming (m_cell.mono (by decide)) T k_BEYOND (m_peek.mono (by decide)) b_isinstance b_tuple k_NO_ROW
  have mt_Body_poke : MtD P w K mg base 2 "Body" "poke" (sp_poke 3 "Body") := ok_Body_poke X G (cd.fact 16 (f := .glo "Body") rfl) (cd.fact 38 (f := .meth "Body" "poke") rfl) (cd.fact 17 (f := .cls "Body") rfl) (k := 0) (n := 0) F_Body_poke T
  have f_worth : FnD P w K mg base 2 "worth" sp_worth := ok_worth (k := 0) (n := 0) F_worth g_worth b_isinstance b_tuple
  have m_poke : TabOk P w K mg base 2 "poke" tab_poke := (TabOk.cons' rfl (mt_Body_poke.mono (by decide)) (TabOk.cons' rfl (mtd_no X G (cd.fact 69 (f := .free "Ground") rfl)) (TabOk.cons' rfl (mtd_no X G (cd.fact 70 (f := .free "Room") rfl)) TabOk.nil')))
  have mt_State_caught : MtD P w K mg base 4 "State" "caught" sp_State_caught := ok_State_caught X G (cd.fact 19 (f := .glo "State") rfl) (cd.fact 40 (f := .meth "State" "caught") rfl) (cd.fact 20 (f := .cls "State") rfl) (k := 2) (n := 0) F_State_caught T kdi_WORDS b_enumerate (m_poke.mono (by decide)) b_range k_BOXES k_KEPT (m_peek.mono (by decide)) k_GOES_TO (f_worth.mono (by decide))
  have mt_State_own : MtD P w K mg base 4 "State" "own" sp_State_own := ok_State_own X G (cd.fact 19 (f := .glo "State") rfl) (cd.fact 41 (f := .meth "State" "own") rfl) (cd.fact 20 (f := .cls "State") rfl) (k := 2) (n := 0) F_State_own T (f_worth.mono (by decide)) b_range
  have f_is_caught : FnD P w K mg base 2 "is_caught" sp_is_caught := ok_is_caught (k := 0) (n := 0) F_is_caught g_is_caught kt_OWN_ORDER
  have mt_State_own_low : MtD P w K mg base 4 "State" "own_low" sp_State_own_low := ok_State_own_low X G (cd.fact 19 (f := .glo "State") rfl) (cd.fact 43 (f := .meth "State" "own_low") rfl) (cd.fact 20 (f := .cls "State") rfl) (k := 2) (n := 0) F_State_own_low T (f_worth.mono (by decide))
  have m_caught : TabOk P w K mg base 4 "caught" tab_caught := (TabOk.cons' rfl (mt_State_caught.mono (by decide)) TabOk.nil')
  have mt_State_counted : MtD P w K mg base 6 "State" "counted" sp_State_counted := ok_State_counted X G (cd.fact 19 (f := .glo "State") rfl) (cd.fact 44 (f := .meth "State" "counted") rfl) (cd.fact 20 (f := .cls "State") rfl) (k := 4) (n := 0) F_State_counted T (m_caught.mono (by decide)) k_ALARM
  have mt_State_plain : MtD P w K mg base 4 "State" "plain" sp_State_plain := ok_State_plain X G (cd.fact 19 (f := .glo "State") rfl) (cd.fact 45 (f := .meth "State" "plain") rfl) (cd.fact 20 (f := .cls "State") rfl) (k := 2) (n := 0) F_State_plain T (f_worth.mono (by decide)) (m_cell.mono (by decide)) k_BEYOND (m_peek.mono (by decide)) (m_poke.mono (by decide))
  have m_coming : TabOk P w K mg base 4 "coming" tab_coming := (TabOk.cons' rfl (mt_State_coming.mono (by decide)) TabOk.nil')
  have m_own : TabOk P w K mg base 4 "own" tab_own := (TabOk.cons' rfl (mt_State_own.mono (by decide)) TabOk.nil')
  have m_own_low : TabOk P w K mg base 4 "own_low" tab_own_low := (TabOk.cons' rfl (mt_State_own_low.mono (by decide)) TabOk.nil')
  have m_counted : TabOk P w K mg base 6 "counted" tab_counted := (TabOk.cons' rfl (mt_State_counted.mono (by decide)) TabOk.nil')
  have m_plain : TabOk P w K mg base 4 "plain" tab_plain := (TabOk.cons' rfl (mt_State_plain.mono (by decide)) TabOk.nil')
  have mt_State_step : MtD P w K mg base 8 "State" "step" sp_State_step := ok_State_step X G (cd.fact 19 (f := .glo "State") rfl) (cd.fact 46 (f := .meth "State" "step") rfl) (cd.fact 20 (f := .cls "State") rfl) (k := 6) (n := 0) F_State_step T (m_coming.mono (by decide)) b_isinstance b_int (m_caught.mono (by decide)) k_CALL kd_OWN (m_own.mono (by decide)) (f_is_caught.mono (by decide)) k_OWN_ROW (m_own_low.mono (by decide)) (m_counted.mono (by decide)) (m_plain.mono (by decide))
  have m_step : TabOk P w K mg base 8 "step" tab_step := (TabOk.cons' rfl (mt_State_step.mono (by decide)) TabOk.nil')
  have mt_Machine_go : MtD P w K mg base 10 "Machine" "go" sp_Machine_go := ok_Machine_go X G (cd.fact 22 (f := .glo "Machine") rfl) (cd.fact 47 (f := .meth "Machine" "go") rfl) (cd.fact 23 (f := .cls "Machine") rfl) (k := 8) (n := 0) F_Machine_go k_MOST_STEPS (f_need_count.mono (by decide)) b_range T (m_step.mono (by decide))
  have f_l_same0 : FnD P w K mg base 0 "_law_same" (sp_l_same 0) := ok_l_same0 F_l_same g_l_same
  have f_l_same1 : FnD P w K mg base 2 "_law_same" (sp_l_same 1) := ok_l_same (k := 0) (n := 0) F_l_same g_l_same b_isinstance b_tuple b_list b_len b_range f_l_same0 b_str b_bool b_int
  have f_l_same2 : FnD P w K mg base 4 "_law_same" (sp_l_same 2) := ok_l_same (k := 2) (n := 1) F_l_same g_l_same b_isinstance b_tuple b_list b_len b_range f_l_same1 b_str b_bool b_int
  have f_l_same3 : FnD P w K mg base 6 "_law_same" (sp_l_same 3) := ok_l_same (k := 4) (n := 2) F_l_same g_l_same b_isinstance b_tuple b_list b_len b_range f_l_same2 b_str b_bool b_int
  have f_l_same4 : FnD P w K mg base 8 "_law_same" (sp_l_same 4) := ok_l_same (k := 6) (n := 3) F_l_same g_l_same b_isinstance b_tuple b_list b_len b_range f_l_same3 b_str b_bool b_int
  have f_l_same := f_l_same4
  have f_l_bundle : FnD P w K mg base 2 "_law_bundle" sp_l_bundle := ok_l_bundle (k := 0) (n := 0) F_l_bundle g_l_bundle b_tuple
  have mt_State_packed : MtD P w K mg base 4 "State" "packed" sp_State_packed := ok_State_packed X G (cd.fact 19 (f := .glo "State") rfl) (cd.fact 50 (f := .meth "State" "packed") rfl) (cd.fact 20 (f := .cls "State") rfl) (k := 2) (n := 0) F_State_packed b_range T (m_peek.mono (by decide)) b_tuple
  have m_packed : TabOk P w K mg base 4 "packed" tab_packed := (TabOk.cons' rfl (mt_State_packed.mono (by decide)) TabOk.nil')
  have mt_Machine_carried : MtD P w K mg base 6 "Machine" "carried" sp_Machine_carried := ok_Machine_carried X G (cd.fact 22 (f := .glo "Machine") rfl) (cd.fact 51 (f := .meth "Machine" "carried") rfl) (cd.fact 23 (f := .cls "Machine") rfl) (k := 4) (n := 0) F_Machine_carried T (m_packed.mono (by decide))
  have m_go : TabOk P w K mg base 10 "go" tab_go := (TabOk.cons' rfl (mt_Machine_go.mono (by decide)) TabOk.nil')
  have m_carried : TabOk P w K mg base 6 "carried" tab_carried := (TabOk.cons' rfl (mt_Machine_carried.mono (by decide)) TabOk.nil')
  exact law_fnok F_law g_law (f_l_start.mono (by decide)) (f_l_row.mono (by decide)) b_range (f_l_begin.mono (by decide)) (f_l_ear.mono (by decide)) (f_l_kind.mono (by decide)) (f_l_machine.mono (by decide)) (mk_Machine.mono (by decide)) (f_l_goes.mono (by decide)) (m_go.mono (by decide)) (f_l_same.mono (by decide)) (f_l_bundle.mono (by decide)) (m_carried.mono (by decide))
end L3
open PySem PySem.W PySem.Calls PyProof.Rows
theorem PySem.Challenge.cw_guestworlds_k04_each_row_by_itself_holds : PySem.Challenge.rw_guestworlds_k04_each_row_by_itself.Holds := by
  w_on; o_law
  refine HandSHeadRun.head_any (r := OpenLaw.row PySem.Challenge.rw_guestworlds_k04_each_row_by_itself) (q := view (OpenLaw.row PySem.Challenge.rw_guestworlds_k04_each_row_by_itself).prog [63]) (H := L3.hk) (ob := L3.ob) (M := 9000) (loose := L3.loose) (d := HandSHeadRun.topDef (OpenLaw.row PySem.Challenge.rw_guestworlds_k04_each_row_by_itself).prog 63) (kwd := []) L3.ob_eq
    (by kernel_rfl) (fun s => by kernel_rfl) L3.run (by kernel_rfl) (by kernel_rfl) (by kernel_rfl) (by rfl) (by first | assumption | decide +kernel) (by decide +kernel) ⟨rfl, rfl, rfl, rfl, rfl, by decide +kernel⟩ ?hw ?hc
  case hw => w_witness2
  case hc =>
    refine L3.walk_ofW (l := PySem.Challenge.rw_guestworlds_k04_each_row_by_itself) (n := 63) (k := 14) (x := "_law_script") rfl (by decide) (by kernel_rfl) ⟨rfl, by decide, by decide⟩ ?F
    intro w mg fa h Y G hmg0
    obtain ⟨K, KX, c⟩ := Y
    have hmg : mg ("law" : PySem.Str) = some (.ref fa) := by
      have e : (HandSHeadRun.topDef (OpenLaw.row PySem.Challenge.rw_guestworlds_k04_each_row_by_itself).prog 63).name = ("law" : PySem.Str) := by kernel_rfl
      rw [← e]
      exact hmg0
    obtain ⟨fd, hb, hF⟩ := L3.facts (P := (PySem.Challenge.rw_guestworlds_k04_each_row_by_itself).prog) (w := w) KX G hmg c
    exact ⟨K, fd, L3.liftSp K mg L3.sp_law, KX, hb, fun H a ns hl hO hS => L3.sp_end hO hS (L3.law_pre ns hl), hF⟩
