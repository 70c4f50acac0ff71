import PyProof.Rows.All
import Wide.All
import OpenK.AllK
import Wide.FinOn
import HandS.Words
import KE.KNestM
import KE.KSuper
import KE.KIsAll
import HandS.HeadHook1
import HandS.HeadHook2
import HandS.HeadHook3
import HandS.HeadHook4
import HandS.ClsMeth
import HandS.Property
import HandS.Defaults
import KE.KStateDown
import HandS.Head0
import HandS.Head1
import HandS.Head2
import HandS.HeadEnd
import HandS.ForMost
import HandS.More
import HandS.Star
import HandS.MakeKw
import HandS.IsInst
import HandS.FStr
import HandS.RaiseMore
import HandS.Evl
import HandS.Wide
import HandS.Style
import HandS.TryOnly
import KE.GoesNew
import KE.KDictZip
import HandS.Walk
import KE.KStar
import KE.KFromBytes
import HandS.Base
import HandS.Call
import HandS.Exc
import HandS.ExcSuper
import HandS.Nested
import KE.SortKeyHeap
import KE.KLam
import HandS.SortKw
import HandS.Lambda
import KE.GoesEnum
import PyProof.TupleOfStr
import KE.KUnpackStar
import HandS.WordsExc
import HandS.Text
import KE.GoesZip
import HandS.NoneIn
import HandS.Dict
import HandS.EndTab
import HandS.HeadWalk
import PySem.Challenge.RW_modesdown_k32_whole_children_by_the_fold
set_option Elab.async false
set_option linter.all false
set_option maxRecDepth 100000
set_option maxHeartbeats 0
/-! Md, part 0 (printed by mktx.py): the defs by place. -/
namespace Md
open PySem PySem.Spec PyProof.Rows L2
def top (i : Nat) : Stmt := PySem.Challenge.pw_modesdown_k32_whole_children_by_the_fold.main.body.getD i (.Pass ⟨0, 0, 0, 0⟩)

abbrev S_is_name : Stmt := top 19
abbrev S_is_integer : Stmt := top 20
abbrev S_is_path : Stmt := top 21
abbrev S_names_of : Stmt := top 22
abbrev S_number_of : Stmt := top 28
abbrev S_place_of : Stmt := top 29
abbrev S_pattern_bits : Stmt := top 30
abbrev S_size_of : Stmt := top 34
abbrev S_copied : Stmt := top 35
abbrev S_found_below : Stmt := top 36
abbrev S_joined : Stmt := top 37
abbrev S_commands_of : Stmt := top 44
abbrev S_wrong_index : Stmt := top 45
abbrev S_need_stand : Stmt := top 46
abbrev S_word_in : Stmt := top 47
abbrev S_stand_below : Stmt := top 50
abbrev S_made_step : Stmt := top 51
abbrev S_stand_of : Stmt := top 53
abbrev S_is_some : Stmt := top 61
abbrev S_is_who : Stmt := top 62
abbrev S_is_what : Stmt := top 63
abbrev S_need_groups : Stmt := top 71
abbrev S_commands_in : Stmt := top 82
abbrev S_joined_row : Stmt := top 83
abbrev S__law_pen : Stmt := top 88
abbrev S__law_draw : Stmt := top 89
abbrev S__law_pick : Stmt := top 90
abbrev S__law_words : Stmt := top 91
abbrev S__law_world : Stmt := top 92
abbrev S__law_drawn_mode : Stmt := top 93
abbrev S__law_clauses : Stmt := top 94
abbrev S__law_deed : Stmt := top 95
abbrev S__law_joined : Stmt := top 96
abbrev S__law_at : Stmt := top 97
abbrev S__law_grown : Stmt := top 98
abbrev S__law_user_so : Stmt := top 99
abbrev S__law_row_so : Stmt := top 100
abbrev S__law_tree_so : Stmt := top 101
abbrev S__law_hall : Stmt := top 102
abbrev S__law_alone_right : Stmt := top 103
abbrev S__law_more_right : Stmt := top 104
abbrev S_law : Stmt := top 105
abbrev S_Mode_number : Stmt := inClass (top 31) 5
abbrev S_Entry_mode : Stmt := inClass (top 38) 1
abbrev S_Entry_owner : Stmt := inClass (top 38) 3
abbrev S_Entry_group : Stmt := inClass (top 38) 4
abbrev S_Clause_sign : Stmt := inClass (top 64) 3
abbrev S_Clause_what : Stmt := inClass (top 64) 4
abbrev S_Command_user : Stmt := inClass (top 85) 3
abbrev S_Command_change : Stmt := inClass (top 85) 4
abbrev S_Command_order : Stmt := inClass (top 85) 5
abbrev S_Command_kinds : Stmt := inClass (top 85) 6
abbrev S_Command_start : Stmt := inClass (top 85) 7
abbrev S_Mode_pattern : Stmt := inClass (top 31) 7
abbrev S_Mode_with_pattern : Stmt := inClass (top 31) 8
abbrev S_Holder_names : Stmt := inClass (top 39) 1
abbrev S_Holder_put : Stmt := inClass (top 39) 2
abbrev S_Tree_entry : Stmt := inClass (top 42) 3
abbrev S_Tree_put : Stmt := inClass (top 42) 6
abbrev S_Tree_copy : Stmt := inClass (top 42) 10
abbrev S_Clause_takes : Stmt := inClass (top 64) 5
abbrev S_Clause_moved : Stmt := inClass (top 64) 6
abbrev S_Change_moved : Stmt := inClass (top 65) 6
abbrev S_Change_three : Stmt := inClass (top 65) 7
abbrev S_User_class_at : Stmt := inClass (top 72) 4
abbrev S_User_bits_at : Stmt := inClass (top 72) 5
abbrev S_User_passes : Stmt := inClass (top 72) 6
abbrev S_User_lists : Stmt := inClass (top 72) 7
abbrev S_User_may_change : Stmt := inClass (top 72) 8
abbrev S_Chief_passes : Stmt := inClass (top 73) 1
abbrev S_Chief_lists : Stmt := inClass (top 73) 2
abbrev S_Chief_may_change : Stmt := inClass (top 73) 3
abbrev S_Command_means : Stmt := inClass (top 85) 8
abbrev S_Row_need_index : Stmt := inClass (top 86) 2
abbrev S_Holder_DcontainsD : Stmt := inClass (top 39) 3
abbrev S_Holder_DgetitemD : Stmt := inClass (top 39) 4
abbrev S_Passage_DcallD : Stmt := inClass (top 52) 5
abbrev S_Change_DcallD : Stmt := inClass (top 65) 10
abbrev S_Row_DgetitemD : Stmt := inClass (top 86) 9
abbrev S_Row_DlenD : Stmt := inClass (top 86) 11
abbrev S_Row_DaddD : Stmt := inClass (top 86) 6
abbrev S_Mode_DinitD : Stmt := inClass (top 31) 1
abbrev S_Tree_DinitD : Stmt := inClass (top 42) 1
abbrev S_Passage_DinitD : Stmt := inClass (top 52) 0
abbrev S_Clause_DinitD : Stmt := inClass (top 64) 0
abbrev S_Change_DinitD : Stmt := inClass (top 65) 1
abbrev S_User_DinitD : Stmt := inClass (top 72) 1
abbrev S_Row_DinitD : Stmt := inClass (top 86) 1
abbrev S_Holder_DinitD : Stmt := inClass (top 39) 0
abbrev S_Command_DinitD : Stmt := inClass (top 85) 2
abbrev S_Clause_read : Stmt := inClass (top 64) 1
abbrev S_Change_read : Stmt := inClass (top 65) 2
abbrev S_Entry_DinitD : Stmt := inClass (top 38) 0
abbrev S_Folder_DinitD : Stmt := inClass (top 41) 0
end Md
/-! Md: what is looked at of the written part (printed by mkhd.py). -/
namespace Md
open PySem PySem.Spec PyProof.Rows L2
open PySem.W (Frag)
abbrev MAINP : Program := PySem.Challenge.pw_modesdown_k32_whole_children_by_the_fold
def MAINF : Str := MAINP.main.file
/-! ### defs -/
def fdAt (K : Frag) (f : Addr) : Option FuncData := match K.lookup f with
  | some ⟨_, _, .func d, _⟩ => some d
  | _ => none
abbrev FV : Type := Option (Str × Str × Arguments × FuncBody × Scope × Addr × Addr)
def fnA (K : Frag) (f : Addr) : FV := match fdAt K f with
  | some d => some (d.name, d.qualname, d.params, d.body, d.scope, d.globals, d.builtins)
  | none => none
/-- a def: where, its name, qualified name, text; more: has a cell or defaults, looked at elsewhere -/
structure FD where
  ad : Frag → Addr
  name : Str
  qual : Str
  st : Stmt
  more : Bool
def FD.val (d : FD) : FV := some (d.name, d.qual, defArgs d.st, .stmts (defBody d.st), defScope d.st, mainGlobals, builtinsNs)
def isN : Value → Bool
  | .none => true
  | _ => false
def FD.ok (d : FD) (K : Frag) : Bool := d.more || (PySem.W.keepIn K (.ref (d.ad K)) && match fdAt K (d.ad K) with
  | some e => PySem.W.codeIn K e.code d.qual && (e.closure.isEmpty && isN e.defaults)
  | none => false)
def codeA (K : Frag) (f : Addr) : Addr := match fdAt K f with
  | some d => (match d.code with
    | .ref c => c
    | _ => 0)
  | none => 0
/-! ### classes -/
def ownB (K : Frag) (C : Addr) : Bool := PySem.W.plainGet K C Str.empty && (PySem.W.hasDictIn K C && (PySem.W.plainOver K C && (He.eqO (PySem.W.findIn K (.ref C) "__setattr__") (some (some (.builtin "object.__setattr__"))) && (He.eqO (PySem.W.findIn K (.ref C) "__class__") (some (some (.builtin "object.__class__"))) && decide (PySem.W.mroIn K C (.type "object") = some true)))))
def recA (K : Frag) (p : Addr) (T : String) : Addr := match PySem.W.recIn K p T with
  | some (.ref g :: _) => g
  | _ => 0
def getterA (K : Frag) (C : Addr) (m : Str) : Addr := recA K (He.ma K C m) "property"
def recB (K : Frag) (p : Addr) (T : String) : Bool := match PySem.W.recIn K p T with
  | some (.ref _ :: _) => true
  | _ => false
def propB (K : Frag) (C : Addr) (m : Str) : Bool := He.eqO (PySem.W.findIn K (.ref C) m) (some (some (.ref (He.ma K C m)))) && (He.eqO (PySem.W.specialIn K (.ref (He.ma K C m)) "__get__") (some (some (.builtin "property.__get__"))) && (decide (PySem.W.takesIn K (.ref (He.ma K C m)) = some true) && recB K (He.ma K C m) "property"))
def spcB (K : Frag) (C : Addr) (m : Str) : Bool := He.eqO (PySem.W.findIn K (.ref C) m) (some (some (.ref (He.ma K C m)))) && (PySem.W.isFn K (.ref (He.ma K C m)) && PySem.W.fnIn K (He.ma K C m))
def readB (K : Frag) (C : Addr) : Bool := PySem.W.readsIn K C (.type "type") && He.eqO (PySem.W.specialIn K (.ref C) "__getattribute__") (some (some (.builtin "type.__getattribute__")))
def cmA (K : Frag) (C : Addr) (m : Str) : Addr := recA K (He.ma K C m) "classmethod"
def foundB (K : Frag) (C : Addr) (m : Str) (p : Addr) : Bool := match PySem.W.findCls K (.ref C) (.type "type") m with
  | some (.get g a o t) => decide (g = .builtin "classmethod.__get__") && (decide (a = .ref p) && (decide (o = .none) && decide (t = .ref C)))
  | _ => false
def cmB (K : Frag) (C : Addr) (m : Str) : Bool := readB K C && (foundB K C m (He.ma K C m) && (recB K (He.ma K C m) "classmethod" && PySem.W.fnIn K (cmA K C m)))
/-! ### values -/
def valAt (K : Frag) (a : Addr) (k : Str) (v : V) : Bool := match PySem.W.nsIn K a k with
  | some (some u) => He.relB v u
  | _ => false
def noneOf (K : Frag) (a : Addr) (zs : List Str) : Bool := zs.all fun z => He.eqO (PySem.W.nsIn K a z) (some none)
def tupB (K : Frag) (a : Addr) (vs : List V) : Bool := match K.lookup a with
  | some ⟨.type c, _, .seq its _, _⟩ => decide (c = "tuple") && (decide (its.size ≤ sizeLine) && He.relAll vs its.toList)
  | _ => false
def pcA (K : Frag) (i : Nat) : Addr := match K.lookup (He.ga K "PLACES_changes") with
  | some ⟨_, _, .seq its _, _⟩ => (match its.toList.getD i .none with
    | .ref p => p
    | _ => 0)
  | _ => 0
def conA (K : Frag) (C : Addr) (m : Str) : Addr := match PySem.W.findCls K (.ref C) (.type "type") m with
  | some (.val (.ref t)) => t
  | _ => 0
def cconB (K : Frag) (C : Addr) (m : Str) (vs : List V) : Bool := readB K C && ((match PySem.W.findCls K (.ref C) (.type "type") m with
  | some (.val u) => decide (u = .ref (conA K C m))
  | _ => false) && tupB K (conA K C m) vs)
def superA (K : Frag) (C D : Addr) : Addr := match PySem.W.ks_superIn K C D "__init__" with
  | some (some (.ref f)) => f
  | _ => 0
/-! ### a def with a cell for its class; a def with defaults -/
def fileB (K : Frag) (file : Str) (c : Addr) : Bool := match K.lookup c with
  | some ⟨_, _, .fields vs, _⟩ => (match (vs[2]? : Option Value) with
    | some (.str x _) => file == x
    | _ => false)
  | _ => false
def cellB (K : Frag) (cc D : Addr) : Bool := match K.lookup cc with
  | some ⟨_, _, .cell (some (.ref d)), _⟩ => decide (d = D)
  | _ => false
def supB (K : Frag) (file : Str) (f D : Addr) (qual : Str) : Bool := match fdAt K f with
  | some d => (match d.closure with
    | [(x, cc)] => decide (x = "__class__") && (isN d.defaults && (cellB K cc D && ((PySem.W.clsIn K D).isSome && (PySem.W.codeIn K d.code qual && (match d.code with
      | .ref c => fileB K file c
      | _ => false)))))
    | _ => false)
  | none => false
def dflOk (K : Frag) (f : Addr) (qual : Str) (vs : List V) : Bool := PySem.W.keepIn K (.ref f) && (match fdAt K f with
  | some d => PySem.W.codeIn K d.code qual && (d.closure.isEmpty && He.dflB K d.defaults vs)
  | none => false)

def hnames0 : List Str := ["Mode", "Entry", "Holder", "File", "Folder", "Tree", "Passage", "Clause", "Change", "User", "Chief", "Command", "Row", "PLACES_modes", "BITS", "SHIFTS", "is_name", "is_integer", "is_path", "names_of"]
def hnames1 : List Str := ["number_of", "place_of", "pattern_bits", "size_of", "copied", "found_below", "joined", "commands_of", "wrong_index", "need_stand", "word_in", "stand_below", "made_step", "stand_of", "is_some", "is_who", "is_what", "need_groups", "commands_in", "joined_row"]
def hnames2 : List Str := ["_law_pen", "_law_draw", "_law_pick", "_law_words", "_law_world", "_law_drawn_mode", "_law_clauses", "_law_deed", "_law_joined", "_law_at", "_law_grown", "_law_user_so", "_law_row_so", "_law_tree_so", "_law_hall", "_law_alone_right", "_law_more_right", "law", "PLACES_changes", "BadClause"]
def hnames : List Str := hnames0 ++ (hnames1 ++ (hnames2))
def facts0 : List (Frag → Bool) := [
  fun K => (He.Fa.free "isinstance").ok K,
  fun K => (He.Fa.free "len").ok K,
  fun K => (He.Fa.free "all").ok K,
  fun K => (He.Fa.free "sum").ok K,
  fun K => (He.Fa.free "sorted").ok K,
  fun K => (He.Fa.free "abs").ok K,
  fun K => (He.Fa.free "str").ok K,
  fun K => (He.Fa.free "int").ok K,
  fun K => (He.Fa.free "bool").ok K,
  fun K => (He.Fa.free "tuple").ok K,
  fun K => (He.Fa.free "list").ok K,
  fun K => (He.Fa.free "range").ok K,
  fun K => (He.Fa.free "enumerate").ok K,
  fun K => (He.Fa.free "zip").ok K,
  fun K => (He.Fa.free "super").ok K,
  fun K => (He.Fa.str "LETTERS_names" "abcdefghijklmnopqrstuvwxyz").ok K,
  fun K => (He.Fa.int "LONGEST_NAME" 8).ok K,
  fun K => (He.Fa.int "GREATEST" 511).ok K,
  fun K => (He.Fa.int "MOST_ENTRIES" 60).ok K,
  fun K => (He.Fa.str "CLASSES" "ugo").ok K,
  fun K => (He.Fa.str "SIGNS_changes" "+-=").ok K,
  fun K => (He.Fa.str "LETTERS_changes" "rwxX").ok K,
  fun K => (He.Fa.int "MOST_CLAUSES" 8).ok K,
  fun K => (He.Fa.int "MOST_GROUPS" 2).ok K,
  fun K => (He.Fa.int "SEARCH" 1).ok K,
  fun K => (He.Fa.int "LISTING" 5).ok K,
  fun K => (He.Fa.int "MOST_COMMANDS" 10).ok K,
  fun K => (He.Fa.int "LONGEST_START" 3).ok K,
  fun K => (He.Fa.glo "PLACES_modes").ok K,
  fun K => valAt K (He.ga K "PLACES_modes") "r" (.int 2)]
def facts1 : List (Frag → Bool) := [
  fun K => valAt K (He.ga K "PLACES_modes") "w" (.int 1),
  fun K => valAt K (He.ga K "PLACES_modes") "x" (.int 0),
  fun K => (He.Fa.glo "BITS").ok K,
  fun K => valAt K (He.ga K "BITS") "u" (.int 4),
  fun K => valAt K (He.ga K "BITS") "g" (.int 2),
  fun K => valAt K (He.ga K "BITS") "o" (.int 1),
  fun K => (He.Fa.glo "SHIFTS").ok K,
  fun K => valAt K (He.ga K "SHIFTS") "owner" (.int 6),
  fun K => valAt K (He.ga K "SHIFTS") "group" (.int 3),
  fun K => valAt K (He.ga K "SHIFTS") "others" (.int 0),
  fun K => noneOf K (He.ga K "BITS") ["r", "x", "rx", "rwx", "w", "X", "rX", "rwX", ""],
  fun K => (He.Fa.glo "Mode").ok K,
  fun K => (He.Fa.glo "Entry").ok K,
  fun K => (He.Fa.glo "Holder").ok K,
  fun K => (He.Fa.glo "File").ok K,
  fun K => (He.Fa.glo "Folder").ok K,
  fun K => (He.Fa.glo "Tree").ok K,
  fun K => (He.Fa.glo "Passage").ok K,
  fun K => (He.Fa.glo "Clause").ok K,
  fun K => (He.Fa.glo "Change").ok K,
  fun K => (He.Fa.glo "User").ok K,
  fun K => (He.Fa.glo "Chief").ok K,
  fun K => (He.Fa.glo "Command").ok K,
  fun K => (He.Fa.glo "Row").ok K,
  fun K => (He.Fa.glo "is_name").ok K,
  fun K => (He.Fa.glo "is_integer").ok K,
  fun K => (He.Fa.glo "is_path").ok K,
  fun K => (He.Fa.glo "names_of").ok K,
  fun K => (He.Fa.glo "number_of").ok K,
  fun K => (He.Fa.glo "place_of").ok K]
def facts2 : List (Frag → Bool) := [
  fun K => (He.Fa.glo "pattern_bits").ok K,
  fun K => (He.Fa.glo "size_of").ok K,
  fun K => (He.Fa.glo "copied").ok K,
  fun K => (He.Fa.glo "found_below").ok K,
  fun K => (He.Fa.glo "joined").ok K,
  fun K => (He.Fa.glo "commands_of").ok K,
  fun K => (He.Fa.glo "wrong_index").ok K,
  fun K => (He.Fa.glo "need_stand").ok K,
  fun K => (He.Fa.glo "word_in").ok K,
  fun K => (He.Fa.glo "stand_below").ok K,
  fun K => (He.Fa.glo "made_step").ok K,
  fun K => (He.Fa.glo "stand_of").ok K,
  fun K => (He.Fa.glo "is_some").ok K,
  fun K => (He.Fa.glo "is_who").ok K,
  fun K => (He.Fa.glo "is_what").ok K,
  fun K => (He.Fa.glo "need_groups").ok K,
  fun K => (He.Fa.glo "commands_in").ok K,
  fun K => (He.Fa.glo "joined_row").ok K,
  fun K => (He.Fa.glo "_law_pen").ok K,
  fun K => (He.Fa.glo "_law_draw").ok K,
  fun K => (He.Fa.glo "_law_pick").ok K,
  fun K => (He.Fa.glo "_law_words").ok K,
  fun K => (He.Fa.glo "_law_world").ok K,
  fun K => (He.Fa.glo "_law_drawn_mode").ok K,
  fun K => (He.Fa.glo "_law_clauses").ok K,
  fun K => (He.Fa.glo "_law_deed").ok K,
  fun K => (He.Fa.glo "_law_joined").ok K,
  fun K => (He.Fa.glo "_law_at").ok K,
  fun K => (He.Fa.glo "_law_grown").ok K,
  fun K => (He.Fa.glo "_law_user_so").ok K]
def facts3 : List (Frag → Bool) := [
  fun K => (He.Fa.glo "_law_row_so").ok K,
  fun K => (He.Fa.glo "_law_tree_so").ok K,
  fun K => (He.Fa.glo "_law_hall").ok K,
  fun K => (He.Fa.glo "_law_alone_right").ok K,
  fun K => (He.Fa.glo "_law_more_right").ok K,
  fun K => (He.Fa.glo "law").ok K,
  fun K => ownB K (He.ga K "Mode"),
  fun K => ownB K (He.ga K "File"),
  fun K => ownB K (He.ga K "Folder"),
  fun K => ownB K (He.ga K "Tree"),
  fun K => ownB K (He.ga K "Passage"),
  fun K => ownB K (He.ga K "Clause"),
  fun K => ownB K (He.ga K "Change"),
  fun K => ownB K (He.ga K "User"),
  fun K => ownB K (He.ga K "Chief"),
  fun K => ownB K (He.ga K "Command"),
  fun K => ownB K (He.ga K "Row"),
  fun K => (He.Fa.noat "Mode" "bits").ok K,
  fun K => (He.Fa.noat "File" "mode_now").ok K,
  fun K => (He.Fa.noat "File" "own_owner").ok K,
  fun K => (He.Fa.noat "File" "own_group").ok K,
  fun K => (He.Fa.noat "Folder" "mode_now").ok K,
  fun K => (He.Fa.noat "Folder" "own_owner").ok K,
  fun K => (He.Fa.noat "Folder" "own_group").ok K,
  fun K => (He.Fa.noat "Folder" "below").ok K,
  fun K => (He.Fa.noat "Tree" "top").ok K,
  fun K => (He.Fa.noat "Passage" "word").ok K,
  fun K => (He.Fa.noat "Passage" "row_here").ok K,
  fun K => (He.Fa.noat "Passage" "stand_here").ok K,
  fun K => (He.Fa.noat "Passage" "made").ok K]
def facts4 : List (Frag → Bool) := [
  fun K => (He.Fa.noat "Passage" "last_number").ok K,
  fun K => (He.Fa.noat "Clause" "own_parts").ok K,
  fun K => (He.Fa.noat "Clause" "own_bits").ok K,
  fun K => (He.Fa.noat "Change" "own_clauses").ok K,
  fun K => (He.Fa.noat "Change" "own_rows").ok K,
  fun K => (He.Fa.noat "User" "name").ok K,
  fun K => (He.Fa.noat "User" "own_groups").ok K,
  fun K => (He.Fa.noat "Chief" "name").ok K,
  fun K => (He.Fa.noat "Chief" "own_groups").ok K,
  fun K => (He.Fa.noat "Command" "facts").ok K,
  fun K => (He.Fa.noat "Row" "parts_told").ok K,
  fun K => propB K (He.ga K "Mode") "number",
  fun K => propB K (He.ga K "File") "mode",
  fun K => propB K (He.ga K "File") "owner",
  fun K => propB K (He.ga K "File") "group",
  fun K => propB K (He.ga K "Folder") "mode",
  fun K => propB K (He.ga K "Folder") "owner",
  fun K => propB K (He.ga K "Folder") "group",
  fun K => propB K (He.ga K "Clause") "sign",
  fun K => propB K (He.ga K "Clause") "what",
  fun K => propB K (He.ga K "Command") "user",
  fun K => propB K (He.ga K "Command") "change",
  fun K => propB K (He.ga K "Command") "order",
  fun K => propB K (He.ga K "Command") "kinds",
  fun K => propB K (He.ga K "Command") "start",
  fun K => (He.Fa.meth "Mode" "pattern").ok K,
  fun K => (He.Fa.meth "Mode" "with_pattern").ok K,
  fun K => (He.Fa.meth "Folder" "names").ok K,
  fun K => (He.Fa.meth "Folder" "put").ok K,
  fun K => (He.Fa.meth "Tree" "entry").ok K]
def facts5 : List (Frag → Bool) := [
  fun K => (He.Fa.meth "Tree" "put").ok K,
  fun K => (He.Fa.meth "Tree" "copy").ok K,
  fun K => (He.Fa.meth "Clause" "takes").ok K,
  fun K => (He.Fa.meth "Clause" "moved").ok K,
  fun K => (He.Fa.meth "Change" "moved").ok K,
  fun K => (He.Fa.meth "Change" "three").ok K,
  fun K => (He.Fa.meth "User" "class_at").ok K,
  fun K => (He.Fa.meth "User" "bits_at").ok K,
  fun K => (He.Fa.meth "Chief" "class_at").ok K,
  fun K => (He.Fa.meth "Chief" "bits_at").ok K,
  fun K => (He.Fa.meth "User" "passes").ok K,
  fun K => (He.Fa.meth "User" "lists").ok K,
  fun K => (He.Fa.meth "User" "may_change").ok K,
  fun K => (He.Fa.meth "Chief" "passes").ok K,
  fun K => (He.Fa.meth "Chief" "lists").ok K,
  fun K => (He.Fa.meth "Chief" "may_change").ok K,
  fun K => (He.Fa.meth "Command" "means").ok K,
  fun K => (He.Fa.meth "Row" "need_index").ok K,
  fun K => (He.Fa.mkr "Mode").ok K,
  fun K => (He.Fa.mkr "Tree").ok K,
  fun K => (He.Fa.mkr "Passage").ok K,
  fun K => (He.Fa.mkr "Clause").ok K,
  fun K => (He.Fa.mkr "Change").ok K,
  fun K => (He.Fa.mkr "User").ok K,
  fun K => (He.Fa.mkr "Chief").ok K,
  fun K => (He.Fa.mkr "Row").ok K,
  fun K => spcB K (He.ga K "Folder") "__contains__",
  fun K => spcB K (He.ga K "Folder") "__getitem__",
  fun K => spcB K (He.ga K "Passage") "__call__",
  fun K => spcB K (He.ga K "Change") "__call__"]
def facts6 : List (Frag → Bool) := [
  fun K => spcB K (He.ga K "Row") "__getitem__",
  fun K => spcB K (He.ga K "Row") "__len__",
  fun K => spcB K (He.ga K "Row") "__add__",
  fun K => cmB K (He.ga K "Clause") "read",
  fun K => cmB K (He.ga K "Change") "read",
  fun K => (He.Fa.glo "BadClause").ok K,
  fun K => (He.Fa.glo "PLACES_changes").ok K,
  fun K => tupB K (He.ga K "PLACES_changes") [.ref (pcA K 0), .ref (pcA K 1), .ref (pcA K 2), .ref (pcA K 3)],
  fun K => tupB K (pcA K 0) [.str "r", .str "file"],
  fun K => tupB K (pcA K 1) [.str "w", .str "file"],
  fun K => tupB K (pcA K 2) [.str "x", .str "file"],
  fun K => tupB K (pcA K 3) [.str "x", .str "folder"],
  fun K => decide (PySem.W.kitOne K (.ref (He.ga K "Mode")) (.ref (He.ga K "Mode")) = some true),
  fun K => decide (PySem.W.kitOne K (.ref (He.ga K "Folder")) (.ref (He.ga K "Holder")) = some true),
  fun K => decide (PySem.W.kitOne K (.ref (He.ga K "File")) (.ref (He.ga K "Holder")) = some false),
  fun K => decide (PySem.W.kitOne K (.ref (He.ga K "Clause")) (.ref (He.ga K "Clause")) = some true),
  fun K => decide (PySem.W.kitOne K (.ref (He.ga K "User")) (.ref (He.ga K "User")) = some true),
  fun K => decide (PySem.W.kitOne K (.ref (He.ga K "Chief")) (.ref (He.ga K "User")) = some true),
  fun K => decide (PySem.W.kitOne K (.ref (He.ga K "Change")) (.ref (He.ga K "Change")) = some true),
  fun K => decide (PySem.W.kitOne K (.ref (He.ga K "Row")) (.ref (He.ga K "Row")) = some true),
  fun K => decide (PySem.W.kitOne K (.ref (He.ga K "Command")) (.ref (He.ga K "Row")) = some false),
  fun K => decide (PySem.W.kitOne K (.type "int") (.ref (He.ga K "Mode")) = some false),
  fun K => supB K MAINF (He.ma K (He.ga K "File") "__init__") (He.ga K "Entry") "Entry.__init__",
  fun K => supB K MAINF (He.ma K (He.ga K "Folder") "__init__") (He.ga K "Folder") "Folder.__init__",
  fun K => He.eqO (PySem.W.nsIn K cStatics "thirdparty.any") (some none),
  fun K => (He.Fa.mkr "File").ok K,
  fun K => (He.Fa.mkr "Folder").ok K,
  fun K => He.eqO (PySem.W.ks_superIn K (He.ga K "Folder") (He.ga K "Folder") "__init__") (some (some (.ref (He.ma K (He.ga K "File") "__init__")))),
  fun K => decide (PySem.W.typeIn K (.ref (He.ma K (He.ga K "File") "__init__")) = some (.type "function")),
  fun K => PySem.W.fnIn K (He.ma K (He.ga K "File") "__init__")]
def facts7 : List (Frag → Bool) := [
  fun K => He.eqO (PySem.W.ks_superIn K (He.ga K "Folder") (He.ga K "Entry") "__init__") (some (some (.ref (superA K (He.ga K "Folder") (He.ga K "Entry"))))),
  fun K => decide (PySem.W.typeIn K (.ref (superA K (He.ga K "Folder") (He.ga K "Entry"))) = some (.type "function")),
  fun K => PySem.W.fnIn K (superA K (He.ga K "Folder") (He.ga K "Entry")),
  fun K => He.eqO (PySem.W.ks_superIn K (He.ga K "File") (He.ga K "Entry") "__init__") (some (some (.builtin "object.__init__"))),
  fun K => decide (PySem.W.mroIn K (He.ga K "File") (.ref (He.ga K "Entry")) = some true),
  fun K => decide (PySem.W.mroIn K (He.ga K "Folder") (.ref (He.ga K "Entry")) = some true),
  fun K => decide (PySem.W.mroIn K (He.ga K "Folder") (.ref (He.ga K "Folder")) = some true),
  fun K => (He.Fa.mkr "Command").ok K,
  fun K => dflOk K (He.ma K (He.ga K "Command") "__init__") "Command.__init__" [.str "first", .str "all", .str ""],
  fun K => cconB K (He.ga K "Command") "ORDERS" [.str "first", .str "last"],
  fun K => cconB K (He.ga K "Command") "KINDS" [.str "all", .str "folders", .str "files"],
  fun K => !decide ((He.ga K "Row") = (He.ga K "Command")),
  fun K => PySem.W.selfFirst K (He.ga K "Row"),
  fun K => PySem.W.selfFirst K (He.ga K "Command"),
  fun K => He.eqO (PySem.W.findIn K (.ref (He.ga K "Command")) "__add__") (some (some (.ref (He.ma K (He.ga K "Command") "__add__")))),
  fun K => decide (PySem.W.mroIn K (He.ga K "Command") (.ref (He.ga K "Row")) = some false),
  fun K => He.eqO (PySem.W.findIn K (.ref (He.ga K "Row")) "__radd__") (some none),
  fun K => He.eqO (PySem.W.findIn K (.ref (He.ga K "Command")) "__radd__") (some none)]
def facts : List (Frag → Bool) := facts0 ++ (facts1 ++ (facts2 ++ (facts3 ++ (facts4 ++ (facts5 ++ (facts6 ++ (facts7)))))))
def fds0 : List FD := [
  ⟨fun K => (He.ga K "is_name"), "is_name", "is_name", S_is_name, false⟩,
  ⟨fun K => (He.ga K "is_integer"), "is_integer", "is_integer", S_is_integer, false⟩,
  ⟨fun K => (He.ga K "is_path"), "is_path", "is_path", S_is_path, false⟩,
  ⟨fun K => (He.ga K "names_of"), "names_of", "names_of", S_names_of, false⟩,
  ⟨fun K => (He.ga K "number_of"), "number_of", "number_of", S_number_of, false⟩,
  ⟨fun K => (He.ga K "place_of"), "place_of", "place_of", S_place_of, false⟩,
  ⟨fun K => (He.ga K "pattern_bits"), "pattern_bits", "pattern_bits", S_pattern_bits, false⟩,
  ⟨fun K => (He.ga K "size_of"), "size_of", "size_of", S_size_of, false⟩,
  ⟨fun K => (He.ga K "copied"), "copied", "copied", S_copied, false⟩,
  ⟨fun K => (He.ga K "found_below"), "found_below", "found_below", S_found_below, false⟩,
  ⟨fun K => (He.ga K "joined"), "joined", "joined", S_joined, false⟩,
  ⟨fun K => (He.ga K "commands_of"), "commands_of", "commands_of", S_commands_of, false⟩,
  ⟨fun K => (He.ga K "wrong_index"), "wrong_index", "wrong_index", S_wrong_index, false⟩,
  ⟨fun K => (He.ga K "need_stand"), "need_stand", "need_stand", S_need_stand, false⟩,
  ⟨fun K => (He.ga K "word_in"), "word_in", "word_in", S_word_in, false⟩,
  ⟨fun K => (He.ga K "stand_below"), "stand_below", "stand_below", S_stand_below, false⟩,
  ⟨fun K => (He.ga K "made_step"), "made_step", "made_step", S_made_step, false⟩,
  ⟨fun K => (He.ga K "stand_of"), "stand_of", "stand_of", S_stand_of, false⟩,
  ⟨fun K => (He.ga K "is_some"), "is_some", "is_some", S_is_some, false⟩,
  ⟨fun K => (He.ga K "is_who"), "is_who", "is_who", S_is_who, false⟩,
  ⟨fun K => (He.ga K "is_what"), "is_what", "is_what", S_is_what, false⟩,
  ⟨fun K => (He.ga K "need_groups"), "need_groups", "need_groups", S_need_groups, false⟩,
  ⟨fun K => (He.ga K "commands_in"), "commands_in", "commands_in", S_commands_in, false⟩,
  ⟨fun K => (He.ga K "joined_row"), "joined_row", "joined_row", S_joined_row, false⟩,
  ⟨fun K => (He.ga K "_law_pen"), "_law_pen", "_law_pen", S__law_pen, false⟩,
  ⟨fun K => (He.ga K "_law_draw"), "_law_draw", "_law_draw", S__law_draw, false⟩,
  ⟨fun K => (He.ga K "_law_pick"), "_law_pick", "_law_pick", S__law_pick, false⟩,
  ⟨fun K => (He.ga K "_law_words"), "_law_words", "_law_words", S__law_words, false⟩,
  ⟨fun K => (He.ga K "_law_world"), "_law_world", "_law_world", S__law_world, false⟩,
  ⟨fun K => (He.ga K "_law_drawn_mode"), "_law_drawn_mode", "_law_drawn_mode", S__law_drawn_mode, false⟩]
def fds1 : List FD := [
  ⟨fun K => (He.ga K "_law_clauses"), "_law_clauses", "_law_clauses", S__law_clauses, false⟩,
  ⟨fun K => (He.ga K "_law_deed"), "_law_deed", "_law_deed", S__law_deed, false⟩,
  ⟨fun K => (He.ga K "_law_joined"), "_law_joined", "_law_joined", S__law_joined, false⟩,
  ⟨fun K => (He.ga K "_law_at"), "_law_at", "_law_at", S__law_at, false⟩,
  ⟨fun K => (He.ga K "_law_grown"), "_law_grown", "_law_grown", S__law_grown, false⟩,
  ⟨fun K => (He.ga K "_law_user_so"), "_law_user_so", "_law_user_so", S__law_user_so, false⟩,
  ⟨fun K => (He.ga K "_law_row_so"), "_law_row_so", "_law_row_so", S__law_row_so, false⟩,
  ⟨fun K => (He.ga K "_law_tree_so"), "_law_tree_so", "_law_tree_so", S__law_tree_so, false⟩,
  ⟨fun K => (He.ga K "_law_hall"), "_law_hall", "_law_hall", S__law_hall, false⟩,
  ⟨fun K => (He.ga K "_law_alone_right"), "_law_alone_right", "_law_alone_right", S__law_alone_right, false⟩,
  ⟨fun K => (He.ga K "_law_more_right"), "_law_more_right", "_law_more_right", S__law_more_right, false⟩,
  ⟨fun K => (He.ga K "law"), "law", "law", S_law, false⟩,
  ⟨fun K => getterA K (He.ga K "Mode") "number", "number", "Mode.number", S_Mode_number, false⟩,
  ⟨fun K => getterA K (He.ga K "File") "mode", "mode", "Entry.mode", S_Entry_mode, false⟩,
  ⟨fun K => getterA K (He.ga K "File") "owner", "owner", "Entry.owner", S_Entry_owner, false⟩,
  ⟨fun K => getterA K (He.ga K "File") "group", "group", "Entry.group", S_Entry_group, false⟩,
  ⟨fun K => getterA K (He.ga K "Folder") "mode", "mode", "Entry.mode", S_Entry_mode, false⟩,
  ⟨fun K => getterA K (He.ga K "Folder") "owner", "owner", "Entry.owner", S_Entry_owner, false⟩,
  ⟨fun K => getterA K (He.ga K "Folder") "group", "group", "Entry.group", S_Entry_group, false⟩,
  ⟨fun K => getterA K (He.ga K "Clause") "sign", "sign", "Clause.sign", S_Clause_sign, false⟩,
  ⟨fun K => getterA K (He.ga K "Clause") "what", "what", "Clause.what", S_Clause_what, false⟩,
  ⟨fun K => getterA K (He.ga K "Command") "user", "user", "Command.user", S_Command_user, false⟩,
  ⟨fun K => getterA K (He.ga K "Command") "change", "change", "Command.change", S_Command_change, false⟩,
  ⟨fun K => getterA K (He.ga K "Command") "order", "order", "Command.order", S_Command_order, false⟩,
  ⟨fun K => getterA K (He.ga K "Command") "kinds", "kinds", "Command.kinds", S_Command_kinds, false⟩,
  ⟨fun K => getterA K (He.ga K "Command") "start", "start", "Command.start", S_Command_start, false⟩,
  ⟨fun K => (He.ma K (He.ga K "Mode") "pattern"), "pattern", "Mode.pattern", S_Mode_pattern, false⟩,
  ⟨fun K => (He.ma K (He.ga K "Mode") "with_pattern"), "with_pattern", "Mode.with_pattern", S_Mode_with_pattern, false⟩,
  ⟨fun K => (He.ma K (He.ga K "Folder") "names"), "names", "Holder.names", S_Holder_names, false⟩,
  ⟨fun K => (He.ma K (He.ga K "Folder") "put"), "put", "Holder.put", S_Holder_put, false⟩]
def fds2 : List FD := [
  ⟨fun K => (He.ma K (He.ga K "Tree") "entry"), "entry", "Tree.entry", S_Tree_entry, false⟩,
  ⟨fun K => (He.ma K (He.ga K "Tree") "put"), "put", "Tree.put", S_Tree_put, false⟩,
  ⟨fun K => (He.ma K (He.ga K "Tree") "copy"), "copy", "Tree.copy", S_Tree_copy, false⟩,
  ⟨fun K => (He.ma K (He.ga K "Clause") "takes"), "takes", "Clause.takes", S_Clause_takes, false⟩,
  ⟨fun K => (He.ma K (He.ga K "Clause") "moved"), "moved", "Clause.moved", S_Clause_moved, false⟩,
  ⟨fun K => (He.ma K (He.ga K "Change") "moved"), "moved", "Change.moved", S_Change_moved, false⟩,
  ⟨fun K => (He.ma K (He.ga K "Change") "three"), "three", "Change.three", S_Change_three, false⟩,
  ⟨fun K => (He.ma K (He.ga K "User") "class_at"), "class_at", "User.class_at", S_User_class_at, false⟩,
  ⟨fun K => (He.ma K (He.ga K "User") "bits_at"), "bits_at", "User.bits_at", S_User_bits_at, false⟩,
  ⟨fun K => (He.ma K (He.ga K "Chief") "class_at"), "class_at", "User.class_at", S_User_class_at, false⟩,
  ⟨fun K => (He.ma K (He.ga K "Chief") "bits_at"), "bits_at", "User.bits_at", S_User_bits_at, false⟩,
  ⟨fun K => (He.ma K (He.ga K "User") "passes"), "passes", "User.passes", S_User_passes, false⟩,
  ⟨fun K => (He.ma K (He.ga K "User") "lists"), "lists", "User.lists", S_User_lists, false⟩,
  ⟨fun K => (He.ma K (He.ga K "User") "may_change"), "may_change", "User.may_change", S_User_may_change, false⟩,
  ⟨fun K => (He.ma K (He.ga K "Chief") "passes"), "passes", "Chief.passes", S_Chief_passes, false⟩,
  ⟨fun K => (He.ma K (He.ga K "Chief") "lists"), "lists", "Chief.lists", S_Chief_lists, false⟩,
  ⟨fun K => (He.ma K (He.ga K "Chief") "may_change"), "may_change", "Chief.may_change", S_Chief_may_change, false⟩,
  ⟨fun K => (He.ma K (He.ga K "Command") "means"), "means", "Command.means", S_Command_means, false⟩,
  ⟨fun K => (He.ma K (He.ga K "Row") "need_index"), "need_index", "Row.need_index", S_Row_need_index, false⟩,
  ⟨fun K => (He.ma K (He.ga K "Mode") "__init__"), "__init__", "Mode.__init__", S_Mode_DinitD, false⟩,
  ⟨fun K => (He.ma K (He.ga K "Tree") "__init__"), "__init__", "Tree.__init__", S_Tree_DinitD, false⟩,
  ⟨fun K => (He.ma K (He.ga K "Passage") "__init__"), "__init__", "Passage.__init__", S_Passage_DinitD, false⟩,
  ⟨fun K => (He.ma K (He.ga K "Clause") "__init__"), "__init__", "Clause.__init__", S_Clause_DinitD, false⟩,
  ⟨fun K => (He.ma K (He.ga K "Change") "__init__"), "__init__", "Change.__init__", S_Change_DinitD, false⟩,
  ⟨fun K => (He.ma K (He.ga K "User") "__init__"), "__init__", "User.__init__", S_User_DinitD, false⟩,
  ⟨fun K => (He.ma K (He.ga K "Chief") "__init__"), "__init__", "User.__init__", S_User_DinitD, false⟩,
  ⟨fun K => (He.ma K (He.ga K "Row") "__init__"), "__init__", "Row.__init__", S_Row_DinitD, false⟩,
  ⟨fun K => (He.ma K (He.ga K "Folder") "__contains__"), "__contains__", "Holder.__contains__", S_Holder_DcontainsD, false⟩,
  ⟨fun K => (He.ma K (He.ga K "Folder") "__getitem__"), "__getitem__", "Holder.__getitem__", S_Holder_DgetitemD, false⟩,
  ⟨fun K => (He.ma K (He.ga K "Passage") "__call__"), "__call__", "Passage.__call__", S_Passage_DcallD, false⟩]
def fds3 : List FD := [
  ⟨fun K => (He.ma K (He.ga K "Change") "__call__"), "__call__", "Change.__call__", S_Change_DcallD, false⟩,
  ⟨fun K => (He.ma K (He.ga K "Row") "__getitem__"), "__getitem__", "Row.__getitem__", S_Row_DgetitemD, false⟩,
  ⟨fun K => (He.ma K (He.ga K "Row") "__len__"), "__len__", "Row.__len__", S_Row_DlenD, false⟩,
  ⟨fun K => (He.ma K (He.ga K "Row") "__add__"), "__add__", "Row.__add__", S_Row_DaddD, false⟩,
  ⟨fun K => cmA K (He.ga K "Clause") "read", "read", "Clause.read", S_Clause_read, false⟩,
  ⟨fun K => cmA K (He.ga K "Change") "read", "read", "Change.read", S_Change_read, false⟩,
  ⟨fun K => (He.ma K (He.ga K "File") "__init__"), "__init__", "Entry.__init__", S_Entry_DinitD, true⟩,
  ⟨fun K => (He.ma K (He.ga K "Folder") "__init__"), "__init__", "Folder.__init__", S_Folder_DinitD, true⟩,
  ⟨fun K => superA K (He.ga K "Folder") (He.ga K "Entry"), "__init__", "Holder.__init__", S_Holder_DinitD, false⟩,
  ⟨fun K => (He.ma K (He.ga K "Command") "__init__"), "__init__", "Command.__init__", S_Command_DinitD, true⟩]
def fds : List FD := fds0 ++ (fds1 ++ (fds2 ++ (fds3)))
def dicts : List (Str × List Str) := [("PLACES_modes", ["r", "w", "x"]), ("BITS", ["u", "g", "o"]), ("SHIFTS", ["owner", "group", "others"])]
end Md
/-! Md: the head: what is looked at behind the top. -/
namespace Md
open PySem PySem.Spec PyProof.Rows L2
open PySem.W (Frag)
abbrev R : PySem.W.OpenRow := PySem.W.OpenLaw.row PySem.Challenge.rw_modesdown_k32_whole_children_by_the_fold
abbrev wf (w : World) (b : Bool) : World := w.withFollow "special-get-raises" b
noncomputable abbrev st (w : World) (os : OsState) : Option PySem.W.SharedT := HandSHeadRun.endF (HandSHeadRun.stepQ (HandSHeadRun.denQ HandSHeadRun.tabQ) R.prog w) 100000 R.prog w os
/-- what an object leads to -/
def leads (o : Obj) : List Addr := match o with
  | ⟨_, _, .cls cd, _⟩ => [cd.ns]
  | ⟨_, _, .dict es _, _⟩ => es.toList.flatMap fun e => He.refV e.val
  | ⟨_, _, .seq its _, _⟩ => its.toList.flatMap He.refV
  | ⟨_, _, .func fd, _⟩ => He.refV fd.code ++ He.refV fd.defaults ++ fd.closure.map (·.2)
  | ⟨.type c, _, .fields vs, _⟩ => match decide (c = "property") || decide (c = "classmethod") with
    | true => vs.toList.flatMap He.refV
    | false => []
  | _ => []
def frO {α : Type} (o : Obj) (k : Obj → α) : α := match o with
  | ⟨a, b, c, d⟩ => k ⟨a, b, c, d⟩
theorem frO_eq {α : Type} (o : Obj) (k : Obj → α) : frO o k = k o := by cases o; rfl
def frK {α : Type} : List (Addr × Obj) → (List (Addr × Obj) → α) → α
  | [], k => k []
  | (a, o) :: r, k => HandSHeadRun.frNat a fun a => frO o fun o => frK r fun r => k ((a, o) :: r)
theorem frK_eq {α : Type} : ∀ (l : List (Addr × Obj)) (k : List (Addr × Obj) → α), frK l k = k l
  | [], k => rfl
  | (a, o) :: r, k => by
    show HandSHeadRun.frNat a (fun a => frO o fun o => frK r fun r => k ((a, o) :: r)) = _
    rw [HandSHeadRun.frNat_eq, frO_eq, frK_eq r]
def frA {α : Type} : List Addr → (List Addr → α) → α
  | [], k => k []
  | a :: r, k => HandSHeadRun.frNat a fun a => frA r fun r => k (a :: r)
theorem frA_eq {α : Type} : ∀ (l : List Addr) (k : List Addr → α), frA l k = k l
  | [], k => rfl
  | a :: r, k => by
    show HandSHeadRun.frNat a (fun a => frA r fun r => k (a :: r)) = _
    rw [HandSHeadRun.frNat_eq, frA_eq r]
/-- these objects, but empty tables -/
def pickG (g : Addr → Option Obj) (as : List Addr) : List (Addr × Obj) := as.filterMap fun a => match g a with
  | some o => (match He.emptyTab o with
    | true => none
    | false => some (a, o))
  | none => none
theorem pickG_mem {g : Addr → Option Obj} {as : List Addr} {a : Addr} {o : Obj} (h : (a, o) ∈ pickG g as) : g a = some o ∧ He.emptyTab o = false := by
  unfold pickG at h
  obtain ⟨b, _, e⟩ := List.mem_filterMap.mp h
  cases hb : g b with
  | none => rw [hb] at e; cases e
  | some u =>
    rw [hb] at e
    cases ht : He.emptyTab u with
    | true =>
      have e2 : (match He.emptyTab u with | true => none | false => some (b, u)) = some (a, o) := e
      rw [ht] at e2
      cases e2
    | false =>
      have e2 : (match He.emptyTab u with | true => none | false => some (b, u)) = some (a, o) := e
      rw [ht] at e2
      cases e2
      exact ⟨hb, ht⟩
def leadsL (l : List (Addr × Obj)) : List Addr := l.flatMap fun p => leads p.2
/-- the part of the heap that the names lead to -/
def partG (g : Addr → Option Obj) : Frag :=
  let k0 := pickG g [mainGlobals, cStatics]
  let k1 := pickG g (hnames.map (He.ga k0))
  let k2 := pickG g (leadsL k1)
  let k3 := pickG g (leadsL k2)
  let k4 := pickG g (leadsL k3)
  let k5 := pickG g (leadsL k4)
  k0 ++ (k1 ++ (k2 ++ (k3 ++ (k4 ++ k5))))
def partK {α : Type} (g : Addr → Option Obj) (k : Frag → α) : α :=
  frK (pickG g [mainGlobals, cStatics]) fun k0 => frA (hnames.map (He.ga k0)) fun a1 => frK (pickG g a1) fun k1 => frA (leadsL k1) fun a2 => frK (pickG g a2) fun k2 => frA (leadsL k2) fun a3 => frK (pickG g a3) fun k3 =>
    frA (leadsL k3) fun a4 => frK (pickG g a4) fun k4 => frA (leadsL k4) fun a5 => frK (pickG g a5) fun k5 => frK (k0 ++ (k1 ++ (k2 ++ (k3 ++ (k4 ++ k5))))) k
theorem partK_eq {α : Type} (g : Addr → Option Obj) (k : Frag → α) : partK g k = k (partG g) := by
  unfold partK
  simp only [frK_eq, frA_eq]
  rfl
theorem partG_mem {g : Addr → Option Obj} {a : Addr} {o : Obj} (h : (a, o) ∈ partG g) : g a = some o ∧ He.emptyTab o = false := by
  unfold partG at h
  simp only [List.mem_append] at h
  rcases h with h | h | h | h | h | h <;> exact pickG_mem h
theorem partG_at {g : Addr → Option Obj} {a : Addr} {o : Obj} (h : (partG g).lookup a = some o) : g a = some o ∧ He.emptyTab o = false := partG_mem (He.lookup_mem h)
def cg (K : Frag) : Addr := codeA K (He.ga K "_law_grown")
def Pg (K : Frag) : Addr := He.tabOf K (cg K)
def tabOkB (g : Addr → Option Obj) (K : Frag) : Bool := PySem.W.codeHdIn K (cg K) (Pg K) && match g (Pg K) with
  | some o => He.emptyTab o
  | none => false
def o1 (K : Frag) : Bool := facts.all fun φ => φ K
def o2 (K : Frag) : List FV := fds.map fun d => fnA K (d.ad K)
def o3 (g : Addr → Option Obj) (K : Frag) : Bool × List (Option (List (Option (Str × Int)))) := (tabOkB g K && fds.all fun d => d.ok K, dicts.map fun d => He.dicW K (He.ga K d.1))
def v2 : List FV := fds.map FD.val
def v3 (w : World) : Bool × List (Option (List (Option (Str × Int)))) := (true, dicts.map fun d => some (He.keysIn w.params d.2))
end Md
/-! Md: the names of the top, the view. -/
namespace Md
open PySem PySem.Spec PyProof.Rows L2
def nm0 : List Str := ["_wall", "ModesError", "BadInput", "NoWay", "BadMode", "BadClause", "BadName", "BadPath", "BadUser", "BadCommand", "BadStand", "BadText", "NoEntry", "NoCommand", "TooMany", "LETTERS_names", "LONGEST_NAME", "is_name", "is_integer", "is_path", "names_of", "GREATEST", "SIGNS_modes", "PLACES_modes", "is_mode", "number_of", "place_of", "pattern_bits", "Mode", "MOST_ENTRIES"]
def nm1 : List Str := ["size_of", "copied", "found_below", "joined", "Entry", "Holder", "File", "Folder", "Tree", "commands_of", "wrong_index", "need_stand", "word_in", "next_names", "first_letter_beside", "stand_below", "made_step", "Passage", "stand_of", "CLASSES", "SIGNS_changes", "LETTERS_changes", "PLACES_changes", "BITS", "MOST_CLAUSES", "is_some", "is_who", "is_what", "Clause", "Change"]
def nm2 : List Str := ["MOST_GROUPS", "SHIFTS", "SEARCH", "LISTING", "need_groups", "User", "Chief", "way_in", "changed_at", "below_of", "walked", "MOST_COMMANDS", "LONGEST_START", "commands_in", "joined_row", "repeated_row", "Command", "Row", "_law_pen", "_law_draw", "_law_pick", "_law_words", "_law_world", "_law_drawn_mode", "_law_clauses", "_law_deed", "_law_joined", "_law_at", "_law_grown", "_law_user_so"]
def nm3 : List Str := ["_law_row_so", "_law_tree_so", "_law_hall", "_law_alone_right", "_law_more_right"]
def topNames : List Str := nm0 ++ nm1 ++ nm2 ++ nm3
abbrev qv : Program := PySem.W.view R.prog [105]
end Md
/-! Md: the runs. -/
namespace Md
open PySem PySem.Spec PyProof.Rows L2
theorem r1_f (w : World) (os : OsState) : (st (wf w false) os).map (fun s => partK (HandSHeadRun.getT s) o1) = some true := by kernel_rfl
theorem r23_f (w : World) (os : OsState) : (st (wf w false) os).map (fun s => (partK (HandSHeadRun.getT s) o2, partK (HandSHeadRun.getT s) (o3 (HandSHeadRun.getT s)))) = some (v2, v3 (wf w false)) := by kernel_rfl
theorem rab_f (w : World) (os : OsState) : (st (wf w false) os).map (fun s => (HandSHeadRun.looksF R.prog (PySem.W.boot_heap (wf w false).params) s.abs, HandSHeadRun.seenQ qv topNames (importedModules R.prog.main.body) (fun s => PySem.W.xlAt qv [] s && PySem.W.recOk R.toRowW.records s) s.abs)) = some (true, PySem.W.openGood qv topNames) := by kernel_rfl
end Md
/-! Md: the runs. -/
namespace Md
open PySem PySem.Spec PyProof.Rows L2
theorem r1_t (w : World) (os : OsState) : (st (wf w true) os).map (fun s => partK (HandSHeadRun.getT s) o1) = some true := by kernel_rfl
theorem r23_t (w : World) (os : OsState) : (st (wf w true) os).map (fun s => (partK (HandSHeadRun.getT s) o2, partK (HandSHeadRun.getT s) (o3 (HandSHeadRun.getT s)))) = some (v2, v3 (wf w true)) := by kernel_rfl
theorem rab_t (w : World) (os : OsState) : (st (wf w true) os).map (fun s => (HandSHeadRun.looksF R.prog (PySem.W.boot_heap (wf w true).params) s.abs, HandSHeadRun.seenQ qv topNames (importedModules R.prog.main.body) (fun s => PySem.W.xlAt qv [] s && PySem.W.recOk R.toRowW.records s) s.abs)) = some (true, PySem.W.openGood qv topNames) := by kernel_rfl
end Md
/-! Md, part 1: rules by syntax alone; what is called, made, read is told in the reading. -/
namespace Md
open PySem PySem.Spec PyProof.Rows L2

abbrev Ex := Evl.Ex
abbrev ExR (H : Hp) : Ex H H := Evl.Ex.refl H

/-- who keeps which promise at which level -/
abbrev Gm := Addr → Nat → Sp → Prop
def Fn (P : Program) (w : World) (K : PySem.W.Frag) (mg : Str → Option Value) (base : Heap) : Gm := fun f k sp => FnR P w K mg base CX0 k f sp
/-- a context where the defs of Γ may be called, n levels deep -/
structure Cok (X : Cx) (K : PySem.W.Frag) (mg : Str → Option Value) (Γ : Gm) (n : Nat) : Prop where
  hK : X.K = K
  hm : X.mg = mg
  fn : ∀ f k sp, Γ f k sp → FnR X.prog X.w X.K X.mg X.base CX0 k f sp
  room : Room n X.A

/-- a def of the module by its name -/
def Cal (K : PySem.W.Frag) (mg : Str → Option Value) (Γ : Gm) (n : Nat) (x : Str) (sp : Sp) : Prop :=
  ∃ f k, mg x = some (.ref f) ∧ PySem.W.keepIn K (.ref f) = true ∧ Γ f k sp ∧ k ≤ n
/-- a method of the class at C -/
def MCal (K : PySem.W.Frag) (Γ : Gm) (n : Nat) (C : Addr) (m : Str) (sp : Sp) : Prop :=
  ∃ f k, Cls K C ∧ Meth K C m f ∧ Γ f k sp ∧ k ≤ n
/-- a property of the class at C -/
def PCal (K : PySem.W.Frag) (Γ : Gm) (n : Nat) (C : Addr) (m : Str) (sp : Sp) : Prop :=
  ∃ p g k, Cls K C ∧ PropOf K C m p g ∧ Γ g k sp ∧ k + 1 ≤ n
/-- a class of the module, made by its __init__ -/
def CCal (K : PySem.W.Frag) (mg : Str → Option Value) (Γ : Gm) (n : Nat) (x : Str) (C : Addr) (sp : Sp) : Prop :=
  ∃ f k, mg x = some (.ref C) ∧ Mk K C f ∧ Γ f k sp ∧ k + 1 ≤ n
/-- a special method (len, in, [], +, a call) of the class at C -/
def SCal (K : PySem.W.Frag) (Γ : Gm) (n : Nat) (C : Addr) (m : Str) (sp : Sp) : Prop :=
  ∃ f k, PySem.W.findIn K (.ref C) m = some (some (.ref f)) ∧ PySem.W.isFn K (.ref f) = true ∧ PySem.W.fnIn K f = true ∧ Γ f k sp ∧ k + 2 ≤ n

section
variable {X : Cx} {K : PySem.W.Frag} {mg : Str → Option Value} {Γ : Gm} {n : Nat} {pins : List (Addr × Obj)} {σ : L2.St} {H : Hp} {s : Shared}
theorem run0 {k : Nat} {f : Addr} {sp : Sp} {A : Around} {Q : VK} {E : XK} {Ex : Value → Shared → Prop} {us : List Value} {vs : List V} (F : FnR X.prog X.w X.K X.mg X.base CX0 k f sp) (hr : Room k A) (e0 : Env0 X.prog X.w X.K X.mg X.base A X.stack s H)
    (I : Inv X pins σ H s) (r : Vals vs us) (h : sp vs H Q E) : wpAny (model X.prog X.w) A (call (.ref f) us) (EP X pins σ Q) Ex s := by
  refine wpAny_call (codeAny_mono (F A X.stack s H us vs Q E hr e0 r h) fun r s' hq => ?_)
  cases r with
  | error e => exact False.elim hq
  | ok fl =>
    cases fl with
    | ret u => exact I.after hq
    | next => exact False.elim hq
    | brk => exact False.elim hq
    | cont => exact False.elim hq
end

/-! ### calls -/
def tFn (K : PySem.W.Frag) (mg : Str → Option Value) (Γ : Gm) (n : Nat) (x : Str) (ta : TA) : TE := fun σ H Q => ∃ sp, Cal K mg Γ n x sp ∧ ta σ H fun vs H1 => sp vs H1 Q E0
def tMk (K : PySem.W.Frag) (mg : Str → Option Value) (Γ : Gm) (n : Nat) (x : Str) (ta : TA) : TE := fun σ H Q => ∃ sp C, CCal K mg Γ n x C sp ∧ ta σ H fun vs H1 => ∀ x dx, H1 x = none → H1 dx = none → dx ≠ x →
  sp (V.ref x :: vs) (upd (upd H1 dx (.own x)) x (.ins C dx [])) (fun v H2 => v = .non ∧ Q (.ref x) H2) E0
def tMt (K : PySem.W.Frag) (Γ : Gm) (n : Nat) (m : Str) (te : TE) (ta : TA) : TE := fun σ H Q => te σ H fun x H1 => ∃ a C dx fs sp, x = .ref a ∧ H1 a = some (.ins C dx fs) ∧ MCal K Γ n C m sp ∧ fs.lookup m = none ∧
  ta σ H1 fun vs H2 => sp (x :: vs) H2 Q E0
def tAt (K : PySem.W.Frag) (Γ : Gm) (n : Nat) (f : Str) (te : TE) : TE := fun σ H Q => te σ H fun x H1 => ∃ a C dx fs, x = .ref a ∧ H1 a = some (.ins C dx fs) ∧
  ((∃ v, Cls K C ∧ NoAttr K C f ∧ fs.lookup f = some v ∧ Q v H1) ∨ ∃ sp, PCal K Γ n C f sp ∧ sp [x] H1 Q E0)
/-- f(e, ..), f an expression that gives an instance -/
def tCo (K : PySem.W.Frag) (Γ : Gm) (n : Nat) (tf : TE) (ta : TA) : TE := fun σ H Q => tf σ H fun y H1 => ∃ a C sp, y = .ref a ∧ SCal K Γ n C "__call__" sp ∧ ta σ H1 fun vs H2 => ∃ dx fs, H2 a = some (.ins C dx fs) ∧ sp (.ref a :: vs) H2 Q E0

section
variable {X : Cx} {K : PySem.W.Frag} {mg : Str → Option Value} {Γ : Gm} {n : Nat} {x m f : Str} {p pos apos : Pos} {e o fe : Expr} {es : List Expr} {te tf : TE} {t : TA} {pl : Sem Bool}
theorem pe_fn (c : Cok X K mg Γ n) (hg : Gl X x) (ha : PA X (e :: es) t) (hdb : (x == ("__debug__" : Str)) = false := by decide) (he : starEach (e :: es) X.env = (false, eval e X.env) :: starEach es X.env := by rfl)
    (hpl : (backTo pos (starEach es X.env)).any (·.1) = false := by rfl) : PE X (.Call (.Name x p) (e :: es) [] pos) (tFn K mg Γ n x t) := by
  obtain rfl := c.hK
  obtain rfl := c.hm
  refine ⟨fun pins s σ H Q I h => ?_⟩
  obtain ⟨sp, ⟨f, k, hm, hk, F, hn⟩, h⟩ := h
  refine wpAny_Call_Name_kw (ld_glob I hg hm ?_ hdb)
  refine PySem.W.callWith_K (h₀ := X.base) I.ok.mod.kin hk (thn (ha.run pos pins s σ H _ I h) fun us s1 ⟨vs, H1, I1, r, q⟩ => ⟨I1.kIn, ?_⟩) he hpl
  exact run0 (c.fn _ _ _ F) (c.room.mono hn) I1.env0 I1 r q
theorem pe_mk (c : Cok X K mg Γ n) (hg : Gl X x) (ha : PA X (e :: es) t) (hdb : (x == ("__debug__" : Str)) = false := by decide) (he : starEach (e :: es) X.env = (false, eval e X.env) :: starEach es X.env := by rfl)
    (hpl : (backTo pos (starEach es X.env)).any (·.1) = false := by rfl) : PE X (.Call (.Name x p) (e :: es) [] pos) (tMk K mg Γ n x t) := by
  obtain rfl := c.hK
  obtain rfl := c.hm
  refine ⟨fun pins s σ H Q I h => ?_⟩
  obtain ⟨sp, C, ⟨f, k, hm, M, F, hn⟩, h⟩ := h
  refine wpAny_Call_Name_kw (ld_glob I hg hm ?_ hdb)
  refine PySem.W.callWith_K (h₀ := X.base) I.ok.mod.kin M.kp (thn (ha.run pos pins s σ H _ I h) fun us s1 ⟨vs, H1, I1, r, q⟩ => ⟨I1.kIn, ?_⟩) he hpl
  exact StX.run_makeR M (c.fn _ _ _ F) (c.room.mono hn) (fun _ _ _ _ _ _ _ z => z.elim) I1 r q
theorem pe_mt (c : Cok X K mg Γ n) (he : PE X o te) (ha : PA X (e :: es) t)
    (hst : starEach (e :: es) X.env = (false, eval e X.env) :: starEach es X.env := by rfl) (hpl : (backTo pos (starEach es X.env)).any (·.1) = false := by rfl)
    (ht : eval (.Call (.Attribute o m apos) (e :: es) [] pos) X.env = (do
      let ov ← eval o X.env
      standAt apos.atName
      let (f, first) ← holding [ov] (getMethod ov m pl)
      callWith pos f first (backTo pos (starEach (e :: es) X.env)) (backToKw pos (keywordEach [] X.env))) := by rfl) :
    PE X (.Call (.Attribute o m apos) (e :: es) [] pos) (tMt K Γ n m te t) := by
  obtain rfl := c.hK
  obtain rfl := c.hm
  refine ⟨fun pins s σ H Q I h => ?_⟩
  refine PySem.W.methodCall_KW (pl := pl) (thn (he.run pins s σ H _ I h) fun u s1 ⟨x, H1, I1, rx, a, C, dx, fs, sp, ex, ea, ⟨f, k, cl, hm, F, hn⟩, l, q⟩ => ?_) ht
  subst ex
  obtain rfl : u = Value.ref a := rx
  refine getmeth_ok I1 ea cl hm l ?_
  refine PySem.W.callWith_K (first := [.ref a]) (h₀ := X.base) I.ok.mod.kin hm.kp (thn (ha.run pos pins s1 σ H1 _ I1 q) fun us s2 ⟨vs, H2, I2, r, q2⟩ => ⟨I2.kIn, ?_⟩) hst hpl
  exact run0 (us := .ref a :: us) (vs := .ref a :: vs) (c.fn _ _ _ F) (c.room.mono hn) I2.env0 I2 (.cons rfl r) q2
theorem pe_mt0 (c : Cok X K mg Γ n) (he : PE X o te)
    (ht : eval (.Call (.Attribute o m apos) [] [] pos) X.env = (do
      let ov ← eval o X.env
      standAt apos.atName
      let (f, first) ← holding [ov] (getMethod ov m pl)
      callWith pos f first (backTo pos (starEach [] X.env)) (backToKw pos (keywordEach [] X.env))) := by rfl) :
    PE X (.Call (.Attribute o m apos) [] [] pos) (tMt K Γ n m te tNil) := by
  obtain rfl := c.hK
  obtain rfl := c.hm
  refine ⟨fun pins s σ H Q I h => ?_⟩
  refine PySem.W.methodCall_KW (pl := pl) (thn (he.run pins s σ H _ I h) fun u s1 ⟨x, H1, I1, rx, a, C, dx, fs, sp, ex, ea, ⟨f, k, cl, hm, F, hn⟩, l, q⟩ => ?_) ht
  subst ex
  obtain rfl : u = Value.ref a := rx
  refine getmeth_ok I1 ea cl hm l ?_
  exact PySem.W.callWith_K0 (first := [.ref a]) I1.kIn hm.kp (run0 (us := [.ref a]) (vs := [.ref a]) (c.fn _ _ _ F) (c.room.mono hn) I1.env0 I1 (.cons rfl .nil) q)
theorem pe_at (c : Cok X K mg Γ n) (he : PE X e te) (hab : attributeBase e f X.env (eval e X.env) = eval e X.env := by rfl) : PE X (.Attribute e f pos) (tAt K Γ n f te) := by
  obtain rfl := c.hK
  obtain rfl := c.hm
  refine ⟨fun pins s σ H Q I h => ?_⟩
  refine attr_of hab (thn (he.run pins s σ H _ I h) fun u s1 ⟨x, H1, I1, rx, a, C, dx, fs, ex, ea, q⟩ => ?_)
  subst ex
  obtain rfl : u = Value.ref a := rx
  rcases q with ⟨v, cl, na, l, q⟩ | ⟨sp, ⟨p, g, k, cl, hp, F, hn⟩, q⟩
  · exact getattr_ok I1 ea cl na l fun u' s2 I2 ru => ⟨v, H1, I2, ru, q⟩
  · obtain ⟨mA, O, _, _, _, _⟩ := ins_get I1.hok ea
    obtain ⟨od, J, _⟩ := O.look
    obtain ⟨rest, hrec⟩ := hp.rec_
    have I2 := I1.tok (s1.toks + 1)
    have hr := c.room.mono hn
    have hc : (PySem.W.clsIn X.K C).isSome = true := by
      obtain ⟨cd, hc, _⟩ := PySem.W.any_some cl.hd
      rw [hc]
      rfl
    refine PySem.W.get_bind I1.kIn J (PySem.W.plainGet_of (cl.get f)).1 (PySem.W.findObj_data hc hp.at_ hp.get hp.tak) (PySem.W.plainGet_of (cl.get f)).2 (wpAny_call (PySem.W.prop_get (s := { s1 with toks := s1.toks + 1 }) I1.kIn hrec ?_))
    refine codeAny_mono (c.fn _ _ _ F X.A.in1 X.stack { s1 with toks := s1.toks + 1 } H1 [.ref a] [.ref a] Q E0 hr.in1 I2.env0.in1 (.cons rfl .nil) q) fun r s' hq => ?_
    cases r with
    | error er => exact False.elim hq
    | ok fl =>
      cases fl with
      | ret u =>
        obtain ⟨v, H', I3, rv, q3⟩ := I2.after hq
        show wpAny _ _ (handedOut u) _ _ _
        rw [PySem.W.handedOut_of (handed_of rv)]
        exact wpAny_pure ⟨v, H', I3, rv, q3⟩
      | next => exact False.elim hq
      | brk => exact False.elim hq
      | cont => exact False.elim hq
theorem pe_co (c : Cok X K mg Γ n) (hf : PE X fe tf) (ha : PA X (e :: es) t)
    (ht : eval (.Call fe (e :: es) [] pos) X.env = (do callWith pos (← eval fe X.env) [] (backTo pos (starEach (e :: es) X.env)) (backToKw pos (keywordEach [] X.env))) := by rfl)
    (he : starEach (e :: es) X.env = (false, eval e X.env) :: starEach es X.env := by rfl) (hpl : (backTo pos (starEach es X.env)).any (·.1) = false := by rfl) : PE X (.Call fe (e :: es) [] pos) (tCo K Γ n tf t) := by
  obtain rfl := c.hK
  obtain rfl := c.hm
  refine ⟨fun pins s σ H Q I h => ?_⟩
  refine Call_ (thn (hf.run pins s σ H _ I h) fun u s1 ⟨y, H1, I1, ry, a, C, sp, ey, ⟨f, k, h1, h2, h3, F, hn⟩, q⟩ => ?_) ht
  subst ey
  obtain rfl : u = Value.ref a := ry
  refine StX.callO_with (thn (ha.run pos pins s1 σ H1 _ I1 q) fun us s2 ⟨vs, H2, I2, r, dx, fs, hi, q2⟩ => ?_) he hpl
  obtain ⟨mA, O, _⟩ := ins_get I2.hok hi
  obtain ⟨od, J, _⟩ := O.look
  exact ⟨⟨C, _, _, J, rfl⟩, StX.run_callO (CX := CX0) (E := E0) ⟨h1, h2, h3⟩ (c.fn _ _ _ F) (c.room.mono (by omega)) (fun _ _ _ _ _ _ _ z => z.elim) I2 (.inr ⟨dx, fs, hi⟩) r q2⟩
end

/-! ### len(o), k in o, o[k], a + b by own methods -/
def rLenO (K : PySem.W.Frag) (Γ : Gm) (n : Nat) : List V → Hp → VK → Prop := fun xs H Q => ∃ a C dx fs sp, xs = [.ref a] ∧ H a = some (.ins C dx fs) ∧ SCal K Γ n C "__len__" sp ∧
  sp [.ref a] H (fun v H1 => ∃ i : Int, v = .int i ∧ 0 ≤ i ∧ i < 2 ^ 63 ∧ Q v H1) E0
def rInO (K : PySem.W.Frag) (Γ : Gm) (n : Nat) (neg : Bool) : R2 := fun x y H Q => ∃ a C dx fs sp, y = .ref a ∧ H a = some (.ins C dx fs) ∧ SCal K Γ n C "__contains__" sp ∧
  sp [y, x] H (fun v H1 => ∃ b, v = .bl b ∧ Q (.bl (if neg then !b else b)) H1) E0
def rIxO (K : PySem.W.Frag) (Γ : Gm) (n : Nat) : R2 := fun x y H Q => ∃ a C dx fs sp, x = .ref a ∧ H a = some (.ins C dx fs) ∧ SCal K Γ n C "__getitem__" sp ∧ sp [x, y] H Q E0
section
variable {X : Cx} {K : PySem.W.Frag} {mg : Str → Option Value} {Γ : Gm} {n : Nat}
theorem call_lenO (c : Cok X K mg Γ n) : CallR X (.builtin "len") (rLenO K Γ n) := by
  obtain rfl := c.hK
  obtain rfl := c.hm
  intro pins s σ H xs us Q I r h
  obtain ⟨a, C, dx, fs, sp, rfl, ea, ⟨f, k, h1, h2, h3, F, hn⟩, q⟩ := h
  obtain ⟨u, rfl, rx⟩ := vals1 r
  cases rx
  obtain ⟨mA, O, _⟩ := ins_get I.hok ea
  obtain ⟨od, J, _⟩ := O.look
  obtain ⟨m, hF⟩ := I.fr
  have z0 := run0 (Ex := X.xe) (us := [.ref a]) (vs := [.ref a]) (Q := fun v H1 => ∃ i : Int, v = .int i ∧ 0 ≤ i ∧ i < 2 ^ 63 ∧ Q v H1) (c.fn _ _ _ F) ((c.room.mono (by omega : k + 1 ≤ n)).in1) I.env0.in1 I (.cons rfl .nil) q
  refine PySem.W.len_K hF I.ok.mod.kin J h1 h2 (thn z0 fun v s' hv => ?_)
  obtain ⟨z, H1, I1, rz, i, rfl, h0, h63, q1⟩ := hv
  obtain ⟨t, rfl⟩ := rz
  exact ⟨⟨h0, h63⟩, .int i, H1, I1.tok _, ⟨_, rfl⟩, q1⟩
theorem op_inO (c : Cok X K mg Γ n) : OpR X (compareOp .In) (rInO K Γ n false) := by
  obtain rfl := c.hK
  obtain rfl := c.hm
  intro pins s σ H x y v u Q I rx ry h
  obtain ⟨a, C, dx, fs, sp, rfl, ea, ⟨f, k, h1, h2, h3, F, hn⟩, q⟩ := h
  cases ry
  obtain ⟨mA, O, _⟩ := ins_get I.hok ea
  obtain ⟨od, J, _⟩ := O.look
  obtain ⟨m, hF⟩ := I.fr
  have z0 := run0 (Ex := X.xe) (us := [.ref a, v]) (vs := [.ref a, x]) (Q := fun v H1 => ∃ b, v = .bl b ∧ Q (.bl (if false then !b else b)) H1) (c.fn _ _ _ F) (c.room.mono (by omega)) I.env0 I (.cons rfl (.cons rx .nil)) q
  refine PySem.W.in_K hF I.ok.mod.kin J h1 h2 (thn z0 fun v s' hv => ?_)
  obtain ⟨z, H1, I1, rz, b, rfl, q1⟩ := hv
  cases rz
  exact wpAny_truthy_bool ⟨.bl b, H1, I1, rfl, q1⟩
theorem op_notInO (c : Cok X K mg Γ n) : OpR X (compareOp .NotIn) (rInO K Γ n true) := by
  obtain rfl := c.hK
  obtain rfl := c.hm
  intro pins s σ H x y v u Q I rx ry h
  obtain ⟨a, C, dx, fs, sp, rfl, ea, ⟨f, k, h1, h2, h3, F, hn⟩, q⟩ := h
  cases ry
  obtain ⟨mA, O, _⟩ := ins_get I.hok ea
  obtain ⟨od, J, _⟩ := O.look
  obtain ⟨m, hF⟩ := I.fr
  have z0 := run0 (Ex := X.xe) (us := [.ref a, v]) (vs := [.ref a, x]) (Q := fun v H1 => ∃ b, v = .bl b ∧ Q (.bl (if true then !b else b)) H1) (c.fn _ _ _ F) (c.room.mono (by omega)) I.env0 I (.cons rfl (.cons rx .nil)) q
  refine PySem.W.notIn_K hF I.ok.mod.kin J h1 h2 (thn z0 fun v s' hv => ?_)
  obtain ⟨z, H1, I1, rz, b, rfl, q1⟩ := hv
  cases rz
  exact wpAny_truthy_bool ⟨.bl (!b), H1, I1, rfl, q1⟩
/-- o[k], a node of its own: subscripted slice true is how an own __getitem__ is entered -/
def PlainIxO (b : Expr) : Prop := ∀ (a : Addr) (i : Value), subscripted b true (.ref a) i = runValue (.builtin "lifetime.subscript" ⟨[.ref a, i], []⟩)
theorem pe_ixO {a b : Expr} {ta tb : TE} {pos : Pos} (c : Cok X K mg Γ n) (ha : PE X a ta) (hb : PE X b tb) (hs : PlainIxO b := by exact fun _ _ => by with_unfolding_all rfl) : PE X (.Subscript a b pos) (tOp (rIxO K Γ n) ta tb) := by
  obtain rfl := c.hK
  obtain rfl := c.hm
  refine ⟨fun pins s σ H Q I h => ?_⟩
  refine Subscript_ (binT ha hb I h fun v u s2 x y H2 I2 rx ry q => ?_)
  obtain ⟨o, C, dx, fs, sp, rfl, ea, ⟨f, k, h1, h2, h3, F, hn⟩, q⟩ := q
  cases rx
  obtain ⟨mA, O, _⟩ := ins_get I2.hok ea
  obtain ⟨od, J, _⟩ := O.look
  obtain ⟨m, hF⟩ := I2.fr
  exact PySem.W.sub_K hF I2.ok.mod.kin J h1 h3 h2 (run0 (us := [.ref o, u]) (vs := [.ref o, y]) (c.fn _ _ _ F) ((c.room.mono (by omega : k + 1 ≤ n)).in1) I2.env0.in1 I2 (.cons rfl (.cons ry .nil)) q) (hs _ _)
end
end Md
/-! Md, part 2: zip and enumerate of lists, tuples, texts in any mix. -/
namespace Md
open PySem PySem.Spec PyProof.Rows L2

inductive Kd where | l | t | s
/-- a walked thing: a tracked list, a tracked tuple, a text; its items -/
def SrcAt (k : Kd) (x : V) (xs : List V) (H : Hp) : Prop := match k with
  | .l => ∃ a, x = .ref a ∧ H a = some (.lst xs)
  | .t => ∃ a, x = .ref a ∧ H a = some (.tup xs)
  | .s => ∃ z : Str, x = .str z ∧ xs = z.cps.toList.map fun c => .str ⟨#[c]⟩
def ItAt (k : Kd) (x : V) (it : Addr) (i : Nat) (h : Heap) : Prop := match k with
  | .l => ∃ a, x = .ref a ∧ h.IsListIter it a i
  | .t => ∃ a, x = .ref a ∧ h.IsTupleIter it a i
  | .s => ∃ z t, x = .str z ∧ h.IsStrIter it (strIterType z) z t i
theorem ItAt.keeps {k : Kd} {x : V} {it : Addr} {i : Nat} {h h' : Heap} (st : ItAt k x it i h) (kp : ∀ o, h.get? it = some o → h'.get? it = some o) : ItAt k x it i h' := by
  cases k with
  | l => obtain ⟨a, e, q⟩ := st; exact ⟨a, e, q.at kp⟩
  | t => obtain ⟨a, e, q⟩ := st; exact ⟨a, e, q.at kp⟩
  | s => obtain ⟨z, t, e, o, ho, r⟩ := st; exact ⟨z, t, e, o, kp o ho, r⟩
theorem ItAt.obj {k : Kd} {x : V} {it : Addr} {i : Nat} {h : Heap} (st : ItAt k x it i h) : ∃ o, h.get? it = some o ∧ ∀ v, o.data ≠ .cell v := by
  cases k with
  | l => obtain ⟨a, e, o, ho, c, d⟩ := st; exact ⟨o, ho, fun v z => by rw [d] at z; cases z⟩
  | t => obtain ⟨a, e, o, ho, c, d⟩ := st; exact ⟨o, ho, fun v z => by rw [d] at z; cases z⟩
  | s => obtain ⟨z, t, e, o, ho, c, d⟩ := st; exact ⟨o, ho, fun v z => by rw [d] at z; cases z⟩
section
variable {X : Cx} {pins : List (Addr × Obj)} {σ : L2.St} {H : Hp} {s : Shared}
/-- what draws the next one, where the thing stands as it is told -/
theorem src_draws {A : Around} {k : Kd} {x : V} {xs : List V} {it : Addr} {i : Nat} (I : Inv X pins σ H s) (src : SrcAt k x xs H) (st : ItAt k x it i s.heap) (hit : H it = none) (hh : A.handled = none) :
    ∃ (fp : List Addr) (P : Nat → Value → Prop) (St : Nat → Heap → Prop), Draws X.prog X.w A it fp xs.length P St ∧ it ∈ fp ∧ (∀ b ∈ fp, b = it ∨ ∃ o, H b = some o) ∧ St i s.heap ∧ (∀ i h, St i h → ItAt k x it i h) ∧ ∀ i v, P i v → ∃ y, xs[i]? = some y ∧ RelV y v := by
  cases k with
  | l =>
    obtain ⟨a, rfl, ha⟩ := src
    obtain ⟨a', e, q⟩ := st
    cases e
    obtain ⟨its, r, pl, hz⟩ := I.list (SqL.of ha)
    have hl : its.toArray.size = xs.length := by rw [List.size_toArray]; exact r.length.symm
    have D := Draws.list (prog := X.prog) (w := X.w) (A := A) hh it a (ne_of_none ha hit) its.toArray
    rw [hl] at D
    refine ⟨_, _, _, D, by simp, fun b hb => ?_, ⟨q, pl.isList⟩, fun i h z => ⟨a, rfl, z.1⟩, fun j v hv => ?_⟩
    · rcases List.mem_cons.mp hb with e | e
      · exact .inl e
      · rw [List.mem_singleton.mp e]; exact .inr ⟨_, ha⟩
    · have hv' : its[j]? = some v := by simpa using hv
      cases e : xs[j]? with
      | none =>
        have := r.none_of e
        rw [this] at hv'; cases hv'
      | some y =>
        obtain ⟨u, hu, ru⟩ := r.get e
        rw [hu] at hv'; cases hv'
        exact ⟨y, rfl, ru⟩
  | t =>
    obtain ⟨a, rfl, ha⟩ := src
    obtain ⟨a', e, q⟩ := st
    cases e
    obtain ⟨its, r, pl, hz⟩ := I.tuple (SqT.of ha)
    have hl : its.toArray.size = xs.length := by rw [List.size_toArray]; exact r.length.symm
    have D := Draws.tuple (prog := X.prog) (w := X.w) (A := A) hh it a (ne_of_none ha hit) its.toArray
    rw [hl] at D
    refine ⟨_, _, _, D, by simp, fun b hb => ?_, ⟨q, pl⟩, fun i h z => ⟨a, rfl, z.1⟩, fun j v hv => ?_⟩
    · rcases List.mem_cons.mp hb with e | e
      · exact .inl e
      · rw [List.mem_singleton.mp e]; exact .inr ⟨_, ha⟩
    · have hv' : its[j]? = some v := by simpa using hv
      cases e : xs[j]? with
      | none =>
        have := r.none_of e
        rw [this] at hv'; cases hv'
      | some y =>
        obtain ⟨u, hu, ru⟩ := r.get e
        rw [hu] at hv'; cases hv'
        exact ⟨y, rfl, ru⟩
  | s =>
    obtain ⟨z, rfl, rfl⟩ := src
    obtain ⟨z', t, e, q⟩ := st
    cases e
    have D := Draws.text (prog := X.prog) (w := X.w) (A := A) hh it z t
    have hl : z.cps.size = (z.cps.toList.map fun c => V.str ⟨#[c]⟩).length := by simp
    rw [hl] at D
    refine ⟨_, _, _, D, by simp, fun b hb => .inl (by simpa using hb), q, fun i h y => ⟨z, t, rfl, y⟩, fun j v hv => ?_⟩
    obtain ⟨c, u, hc, rfl⟩ := hv
    exact ⟨.str ⟨#[c]⟩, by simp [hc], ⟨u, rfl⟩⟩
theorem src_begins {k : Kd} {x : V} {xs : List V} {u : Value} (I : Inv X pins σ H s) (src : SrcAt k x xs H) (r : RelV x u) :
    ∃ o G, Begins u o G ∧ G s.heap ∧ ∀ h it, h.get? it = some o → ItAt k x it 0 h := by
  cases k with
  | l =>
    obtain ⟨a, rfl, ha⟩ := src
    cases r
    obtain ⟨its, r, pl, hz⟩ := I.list (SqL.of ha)
    exact ⟨_, _, begins_list a its.toArray, pl.isList, fun h it e => ⟨a, rfl, _, e, rfl, rfl⟩⟩
  | t =>
    obtain ⟨a, rfl, ha⟩ := src
    cases r
    obtain ⟨its, r, pl, hz⟩ := I.tuple (SqT.of ha)
    exact ⟨_, _, begins_tuple a its.toArray, pl, fun h it e => ⟨a, rfl, _, e, rfl, rfl⟩⟩
  | s =>
    obtain ⟨z, rfl, rfl⟩ := src
    obtain ⟨t, rfl⟩ := r
    exact ⟨_, _, begins_text z t, trivial, fun h it e => ⟨z, t, rfl, _, e, rfl, rfl⟩⟩
end

/-! ### new tuples at each turn -/
def ItP (n : Nat) (G : Hp → Prop) (Y : Nat → List V → Prop) : It :=
  ⟨fun i H => i < n ∧ G H, fun i H x H' => ∃ T ys, H T = none ∧ x = .ref T ∧ H' = upd H T (.tup ys) ∧ Y i ys, fun i H => i = n ∧ G H⟩
def YTup (Y : Nat → List V → Prop) : Nat → Hp → V → Hp → Prop := fun i H x H' => ∃ T ys, H T = none ∧ x = .ref T ∧ H' = upd H T (.tup ys) ∧ Y i ys
theorem walk_P {n : Nat} {G : Hp → Prop} {Y : Nat → List V → Prop} : Walk (ItP n G Y) n G (YTup Y) :=
  ⟨fun _ _ hi q => ⟨hi, q⟩, fun _ q => ⟨rfl, q⟩, fun _ _ _ _ _ _ y => y⟩
/-- a Turn from what the library says of one next -/
theorem turn_P {P : Program} {w : World} {K : PySem.W.Frag} {tg : Expr} {n : Nat} {G : Hp → Prop} {Y : Nat → List V → Prop} {fp wr : List Addr} {it : Addr} {tn : Nat → Heap → Prop} (hit : it ∈ fp) (hsub : ∀ b ∈ wr, b ∈ fp)
    (hobj : ∀ i h, tn i h → ∀ b ∈ fp, ∃ o, h.get? b = some o ∧ ∀ v, o.data ≠ .cell v) (hkeep : ∀ i h h', tn i h → (∀ b ∈ fp, ∀ o, h.get? b = some o → h'.get? b = some o) → tn i h')
    (hself : ∀ (A : Around) (i : Nat) (s : Shared) (Q : Value → Shared → Prop) (E : Value → Shared → Prop), tn i s.heap → Q (.ref it) s → wpAny (model P w) A (pyIter (.ref it)) Q E s)
    (go : ∀ (X : Cx), X.prog = P → X.w = w → X.K = K → X.calm = true → ∀ (i : Nat) (pins : List (Addr × Obj)) (s : Shared) (σ : L2.St) (H : Hp), Inv X pins σ H s → (∀ b ∈ fp, FpOk X pins H b) → tn i s.heap → G H →
      ∃ (fpL : List Addr) (YL : Nat → Heap → Value → Heap → Prop) (St : Nat → Heap → Prop), GoesN P w X.A tg it fpL wr n YL St ∧ St i s.heap ∧ (∀ j h, St j h → tn j h) ∧
        ∀ v h', YL i s.heap v h' → ∃ T its ys, v = .ref T ∧ s.heap.objs.size ≤ T ∧ h'.IsTuple T its ∧ Vals ys its.toList ∧ its.size ≤ sizeLine ∧ Y i ys) :
    Turn P w K tg (ItP n G Y) fp it tn where
  mem := hit
  obj := hobj
  keep := hkeep
  item := by
    intro X hP hw hK hc i pins s σ H E I hf st hg
    obtain ⟨fpL, YL, St, W, st0, back, hY⟩ := go X hP hw hK hc i pins s σ H I hf st hg.2
    refine wpAny_mono (W.goes i s _ E hg.1 st0 fun v h' tk y st' hk htk => ?_) (fun r s1 hr => hr) fun _ _ z => z
    obtain ⟨T, its, ys, rfl, hT, hTt, rv, hz, hy⟩ := hY v h' y
    have hfw : ∀ b ∈ wr, FpOk X pins H b := fun b hb => hf b (hsub b hb)
    have new : ObjOk X.prog X.w (upd H T (.tup ys)) h' T (.tup ys) := by
      refine ⟨by rw [rv.length, Array.length_toList]; exact hz, its.toList, rv, ?_⟩
      show IsTup h' T its.toList.toArray
      rw [Array.toArray_toList]
      exact hTt
    have I1 := I.turnedNew (t' := tk) (ch := wr) hk hfw hT new
    refine ⟨.ref T, _, I1, rfl, ⟨T, ys, I.hok.fresh hT, rfl, rfl, hy⟩, back _ _ st', fun b hb => ?_⟩
    obtain ⟨o, ho, _⟩ := hobj i _ st b hb
    rw [upd_ne (Nat.ne_of_lt (Nat.lt_of_lt_of_le (Heap.lt_size ho) hT))]
    exact (hf b hb).1
  done := by
    intro X hP hw hK hc i pins s σ H E I hf st hg
    obtain ⟨rfl, hG⟩ := hg
    obtain ⟨fpL, YL, St, W, st0, back, hY⟩ := go X hP hw hK hc i pins s σ H I hf st hG
    exact W.stops s _ E st0 fun h' tk hk htk => I.turnedL (t' := tk) (ch := wr) hk fun b hb => hf b (hsub b hb)
  self := hself

/-! ### zip of two, of three -/
def zipTn2 (k1 k2 : Kd) (x y : V) (z TI TO i1 i2 : Addr) (i : Nat) (h : Heap) : Prop :=
  IsZip h z TI TO .none ∧ IsTupOf2 h TI (.ref i1) (.ref i2) ∧ (∃ a1 a2, IsTupOf2 h TO a1 a2) ∧ ItAt k1 x i1 i h ∧ ItAt k2 y i2 i h
structure Sep2 (z TI TO i1 i2 : Addr) : Prop where
  a : TI ≠ z
  b : TO ≠ z
  c : TI ≠ TO
  d : TI ≠ i1
  e : TI ≠ i2
  f : z ≠ i1
  g : z ≠ i2
  h : TO ≠ i1
  i : TO ≠ i2
  j : i1 ≠ i2
theorem naddr (N a b : Nat) (h : a ≠ b) : N + a ≠ N + b := by omega
theorem Sep2.new (N : Addr) : Sep2 (N + 4) (N + 2) (N + 3) N (N + 1) := by
  have e := naddr N
  exact ⟨e 2 4 (by decide), e 3 4 (by decide), e 2 3 (by decide), e 2 0 (by decide), e 2 1 (by decide), e 4 0 (by decide), e 4 1 (by decide), e 3 0 (by decide), e 3 1 (by decide), e 0 1 (by decide)⟩
/-- an untracked cell is none of what is tracked -/
theorem notIn_src {H : Hp} {b it : Addr} {fp : List Addr} (hb : H b = none) (hne : b ≠ it) (hfp : ∀ c ∈ fp, c = it ∨ ∃ o, H c = some o) : b ∉ fp := fun hm => by
  rcases hfp b hm with e | ⟨o, e⟩
  · exact hne e
  · rw [hb] at e; cases e
theorem Sep2.zip {H : Hp} {z TI TO i1 i2 : Addr} {fp1 fp2 : List Addr} (S : Sep2 z TI TO i1 i2) (hz : H z = none) (hTO : H TO = none) (h1 : H i1 = none) (h2 : H i2 = none) (m1 : i1 ∈ fp1) (m2 : i2 ∈ fp2)
    (f1 : ∀ c ∈ fp1, c = i1 ∨ ∃ o, H c = some o) (f2 : ∀ c ∈ fp2, c = i2 ∨ ∃ o, H c = some o) : ZipSep2 z TI TO i1 i2 fp1 fp2 :=
  ⟨S.a, S.b, S.c, S.d, m1, notIn_src hz S.f f1, notIn_src hTO S.h f1, S.e, m2, notIn_src hz S.g f2, notIn_src hTO S.i f2, notIn_src h1 S.j f2, notIn_src h2 S.j.symm f1⟩
theorem turn_zip2 {P : Program} {w : World} {K : PySem.W.Frag} {elts : List Expr} {kk : Nat} {tpos : Pos} {k1 k2 : Kd} {x y : V} {xs ys : List V} {z TI TO i1 i2 : Addr} (S : Sep2 z TI TO i1 i2) :
    Turn P w K (.Tuple elts kk tpos) (ItP (min xs.length ys.length) (fun H => SrcAt k1 x xs H ∧ SrcAt k2 y ys H) fun i vs => ∃ a b, vs = [a, b] ∧ xs[i]? = some a ∧ ys[i]? = some b) [z, TI, TO, i1, i2] z (zipTn2 k1 k2 x y z TI TO i1 i2) := by
  refine turn_P (wr := [z, TO, i1, i2]) (by simp) (fun b hb => ?_) (fun i h st c hc => ?_) (fun i h h' st k => ?_) (fun A i s Q E st h => wpAny_pyIter_zip st.1 h) (fun X hP hw hK hc i pins s σ H I hf st hG => ?_)
  · have hb' : b = z ∨ b = TO ∨ b = i1 ∨ b = i2 := by simpa using hb
    rcases hb' with e | e | e | e <;> rw [e] <;> simp
  · obtain ⟨hz, hTI, ⟨a1, a2, hTO⟩, h1, h2⟩ := st
    have e' : c = z ∨ c = TI ∨ c = TO ∨ c = i1 ∨ c = i2 := by simpa using hc
    rcases e' with q | q | q | q | q
    · rw [q]; exact ⟨_, hz, fun v q => nomatch q⟩
    · rw [q]; exact ⟨_, hTI, fun v q => nomatch q⟩
    · rw [q]; exact ⟨_, hTO, fun v q => nomatch q⟩
    · rw [q]; exact h1.obj
    · rw [q]; exact h2.obj
  · obtain ⟨hz, hTI, ⟨a1, a2, hTO⟩, h1, h2⟩ := st
    exact ⟨k z (by simp) _ hz, k TI (by simp) _ hTI, ⟨a1, a2, k TO (by simp) _ hTO⟩, h1.keeps (k i1 (by simp)), h2.keeps (k i2 (by simp))⟩
  · subst hP hw hK
    obtain ⟨hz, hTI, hTO, h1, h2⟩ := st
    have hn : ∀ b ∈ [z, TI, TO, i1, i2], H b = none := fun b hb => (hf b hb).1
    have hh : X.A.in1.handled = none := I.ok.hd hc
    obtain ⟨fp1, P1, St1, D1, m1, f1, s1, b1, y1⟩ := src_draws (A := X.A.in1) I hG.1 h1 (hn i1 (by simp)) hh
    obtain ⟨fp2, P2, St2, D2, m2, f2, s2, b2, y2⟩ := src_draws (A := X.A.in1) I hG.2 h2 (hn i2 (by simp)) hh
    have Z := S.zip (hn z (by simp)) (hn TO (by simp)) (hn i1 (by simp)) (hn i2 (by simp)) m1 m2 f1 f2
    refine ⟨_, _, _, GoesN.zip2 Z D1 D2, ⟨hz, hTI, hTO, s1, s2⟩, fun j h q => ⟨q.1, q.2.1, q.2.2.1, b1 _ _ q.2.2.2.1, b2 _ _ q.2.2.2.2⟩, fun v h' q => ?_⟩
    obtain ⟨T, u, u2, rfl, hT, p1, p2, hTt⟩ := q
    obtain ⟨c, hc1, r1⟩ := y1 _ _ p1
    obtain ⟨d, hd1, r2⟩ := y2 _ _ p2
    exact ⟨T, _, [c, d], rfl, hT, hTt, .cons r1 (.cons r2 .nil), by show 2 ≤ sizeLine; decide, c, d, rfl, hc1, hd1⟩
def iZip2 (ta : TA) : TI := fun σ H R => ta σ H fun vs H1 => ∃ k1 k2 x y xs ys, vs = [x, y] ∧ SrcAt k1 x xs H1 ∧ SrcAt k2 y ys H1 ∧
  R (ItP (min xs.length ys.length) (fun H => SrcAt k1 x xs H ∧ SrcAt k2 y ys H) fun i vs => ∃ a b, vs = [a, b] ∧ xs[i]? = some a ∧ ys[i]? = some b) H1
theorem pi_zip2 {X : Cx} {e e2 : Expr} {ta : TA} {p pos tpos : Pos} {elts : List Expr} {kk : Nat} (hg : Gl X "zip") (hm : X.mg "zip" = none) (ha : PA X [e, e2] ta)
    (hs : starEach [e, e2] X.env = (false, eval e X.env) :: starEach [e2] X.env := by rfl) (hpl : (backTo pos (starEach [e2] X.env)).any (·.1) = false := by rfl) :
    PI X (.Tuple elts kk tpos) (.Call (.Name "zip" p) [e, e2] [] pos) (iZip2 ta) := by
  refine ⟨fun pins s σ H R I h => ?_⟩
  refine Call_ (ld_blt I hg hm PyProof.Rows.boot_zip (PyProof.Rows.callWith_type1 (thn (ha.run pos pins s σ H _ I h) fun us s1 ⟨vs, H1, I1, r1, q1⟩ => ?_) hs hpl))
  obtain ⟨k1, k2, x, y, xs, ys, ex, hqx, hqy, q⟩ := q1
  subst ex
  obtain ⟨u, u2, rfl, r, r'⟩ := vals2 r1
  obtain ⟨o1, G1, B1, g1, t1⟩ := src_begins I1 hqx r
  obtain ⟨o2, G2, B2, g2, t2⟩ := src_begins I1 hqy r'
  refine zip_begins2 B1 B2 g1 g2 fun h' hz hTI hTO e1 e2 hsz hk => wpAny_pyIter_zip hz ?_
  have I2 : Inv X pins σ H1 { s1 with heap := h' } := I1.kept (t' := s1.toks) hk
  refine ⟨s1.heap.objs.size + 4, [s1.heap.objs.size + 4, s1.heap.objs.size + 2, s1.heap.objs.size + 3, s1.heap.objs.size, s1.heap.objs.size + 1], _, _, H1, rfl, I2, turn_zip2 (Sep2.new _), ⟨hz, hTI, ⟨_, _, hTO⟩, t1 _ _ e1, t2 _ _ e2⟩, fun c hcm => ?_, q⟩
  have e' : c = s1.heap.objs.size + 4 ∨ c = s1.heap.objs.size + 2 ∨ c = s1.heap.objs.size + 3 ∨ c = s1.heap.objs.size ∨ c = s1.heap.objs.size + 1 := by simpa using hcm
  have hle : s1.heap.objs.size ≤ c := by
    rcases e' with z | z | z | z | z <;> rw [z] <;> first | exact Nat.le_add_right _ _ | exact Nat.le_refl _
  exact I1.fpOk hle (I1.hok.fresh hle)

def zipTn3 (k1 k2 k3 : Kd) (x y u : V) (z TI TO i1 i2 i3 : Addr) (i : Nat) (h : Heap) : Prop :=
  IsZip h z TI TO .none ∧ IsTupOf3 h TI (.ref i1) (.ref i2) (.ref i3) ∧ (∃ a1 a2 a3, IsTupOf3 h TO a1 a2 a3) ∧ ItAt k1 x i1 i h ∧ ItAt k2 y i2 i h ∧ ItAt k3 u i3 i h
structure Sep3 (z TI TO i1 i2 i3 : Addr) : Prop where
  s12 : Sep2 z TI TO i1 i2
  d3 : TI ≠ i3
  f3 : z ≠ i3
  h3 : TO ≠ i3
  j13 : i1 ≠ i3
  j23 : i2 ≠ i3
theorem Sep3.new (N : Addr) : Sep3 (N + 5) (N + 3) (N + 4) N (N + 1) (N + 2) := by
  have e := naddr N
  exact ⟨⟨e 3 5 (by decide), e 4 5 (by decide), e 3 4 (by decide), e 3 0 (by decide), e 3 1 (by decide), e 5 0 (by decide), e 5 1 (by decide), e 4 0 (by decide), e 4 1 (by decide), e 0 1 (by decide)⟩,
    e 3 2 (by decide), e 5 2 (by decide), e 4 2 (by decide), e 0 2 (by decide), e 1 2 (by decide)⟩
theorem turn_zip3 {P : Program} {w : World} {K : PySem.W.Frag} {elts : List Expr} {kk : Nat} {tpos : Pos} {k1 k2 k3 : Kd} {x y u : V} {xs ys us : List V} {z TI TO i1 i2 i3 : Addr} (S : Sep3 z TI TO i1 i2 i3) :
    Turn P w K (.Tuple elts kk tpos) (ItP (min (min xs.length ys.length) us.length) (fun H => SrcAt k1 x xs H ∧ SrcAt k2 y ys H ∧ SrcAt k3 u us H) fun i vs => ∃ a b c, vs = [a, b, c] ∧ xs[i]? = some a ∧ ys[i]? = some b ∧ us[i]? = some c) [z, TI, TO, i1, i2, i3] z (zipTn3 k1 k2 k3 x y u z TI TO i1 i2 i3) := by
  refine turn_P (wr := [z, TO, i1, i2, i3]) (by simp) (fun b hb => ?_) (fun i h st c hc => ?_) (fun i h h' st k => ?_) (fun A i s Q E st h => wpAny_pyIter_zip st.1 h) (fun X hP hw hK hc i pins s σ H I hf st hG => ?_)
  · have hb' : b = z ∨ b = TO ∨ b = i1 ∨ b = i2 ∨ b = i3 := by simpa using hb
    rcases hb' with e | e | e | e | e <;> rw [e] <;> simp
  · obtain ⟨hz, hTI, ⟨a1, a2, a3, hTO⟩, h1, h2, h3⟩ := st
    have e' : c = z ∨ c = TI ∨ c = TO ∨ c = i1 ∨ c = i2 ∨ c = i3 := by simpa using hc
    rcases e' with q | q | q | q | q | q
    · rw [q]; exact ⟨_, hz, fun v q => nomatch q⟩
    · rw [q]; exact ⟨_, hTI, fun v q => nomatch q⟩
    · rw [q]; exact ⟨_, hTO, fun v q => nomatch q⟩
    · rw [q]; exact h1.obj
    · rw [q]; exact h2.obj
    · rw [q]; exact h3.obj
  · obtain ⟨hz, hTI, ⟨a1, a2, a3, hTO⟩, h1, h2, h3⟩ := st
    exact ⟨k z (by simp) _ hz, k TI (by simp) _ hTI, ⟨a1, a2, a3, k TO (by simp) _ hTO⟩, h1.keeps (k i1 (by simp)), h2.keeps (k i2 (by simp)), h3.keeps (k i3 (by simp))⟩
  · subst hP hw hK
    obtain ⟨hz, hTI, hTO, h1, h2, h3⟩ := st
    have hn : ∀ b ∈ [z, TI, TO, i1, i2, i3], H b = none := fun b hb => (hf b hb).1
    have hh : X.A.in1.handled = none := I.ok.hd hc
    have n1 := hn i1 (by simp)
    have n2 := hn i2 (by simp)
    have n3 := hn i3 (by simp)
    have nz := hn z (by simp)
    have nT := hn TO (by simp)
    obtain ⟨fp1, P1, St1, D1, m1, f1, s1, b1, y1⟩ := src_draws (A := X.A.in1) I hG.1 h1 n1 hh
    obtain ⟨fp2, P2, St2, D2, m2, f2, s2, b2, y2⟩ := src_draws (A := X.A.in1) I hG.2.1 h2 n2 hh
    obtain ⟨fp3, P3, St3, D3, m3, f3, s3, b3, y3⟩ := src_draws (A := X.A.in1) I hG.2.2 h3 n3 hh
    have s := S.s12
    have Z : ZipSep3 z TI TO i1 i2 i3 fp1 fp2 fp3 := by
      constructor <;> first
        | exact s.a | exact s.b | exact s.c | exact s.d | exact s.e | exact S.d3 | exact m1 | exact m2 | exact m3
        | exact notIn_src nz s.f f1 | exact notIn_src nz s.g f2 | exact notIn_src nz S.f3 f3
        | exact notIn_src nT s.h f1 | exact notIn_src nT s.i f2 | exact notIn_src nT S.h3 f3
        | exact notIn_src n1 s.j f2 | exact notIn_src n1 S.j13 f3 | exact notIn_src n2 s.j.symm f1 | exact notIn_src n2 S.j23 f3 | exact notIn_src n3 S.j13.symm f1 | exact notIn_src n3 S.j23.symm f2
    refine ⟨_, _, _, GoesN.zip3 Z D1 D2 D3, ⟨hz, hTI, hTO, s1, s2, s3⟩, fun j h q => ⟨q.1, q.2.1, q.2.2.1, b1 _ _ q.2.2.2.1, b2 _ _ q.2.2.2.2.1, b3 _ _ q.2.2.2.2.2⟩, fun v h' q => ?_⟩
    obtain ⟨T, u1, u2, u3, rfl, hT, p1, p2, p3, hTt⟩ := q
    obtain ⟨c, hc1, r1⟩ := y1 _ _ p1
    obtain ⟨d, hd1, r2⟩ := y2 _ _ p2
    obtain ⟨e, he1, r3⟩ := y3 _ _ p3
    exact ⟨T, _, [c, d, e], rfl, hT, hTt, .cons r1 (.cons r2 (.cons r3 .nil)), by show 3 ≤ sizeLine; decide, c, d, e, rfl, hc1, hd1, he1⟩
def iZip3 (ta : TA) : TI := fun σ H R => ta σ H fun vs H1 => ∃ k1 k2 k3 x y u xs ys us, vs = [x, y, u] ∧ SrcAt k1 x xs H1 ∧ SrcAt k2 y ys H1 ∧ SrcAt k3 u us H1 ∧
  R (ItP (min (min xs.length ys.length) us.length) (fun H => SrcAt k1 x xs H ∧ SrcAt k2 y ys H ∧ SrcAt k3 u us H) fun i vs => ∃ a b c, vs = [a, b, c] ∧ xs[i]? = some a ∧ ys[i]? = some b ∧ us[i]? = some c) H1
theorem vals3 {x y z : V} {us : List Value} (r : Vals [x, y, z] us) : ∃ u v w, us = [u, v, w] ∧ RelV x u ∧ RelV y v ∧ RelV z w := by
  cases r with
  | cons r1 r2 =>
    cases r2 with
    | cons r3 r4 =>
      cases r4 with
      | cons r5 r6 => cases r6; exact ⟨_, _, _, rfl, r1, r3, r5⟩
theorem pi_zip3 {X : Cx} {e e2 e3 : Expr} {ta : TA} {p pos tpos : Pos} {elts : List Expr} {kk : Nat} (hg : Gl X "zip") (hm : X.mg "zip" = none) (ha : PA X [e, e2, e3] ta)
    (hs : starEach [e, e2, e3] X.env = (false, eval e X.env) :: starEach [e2, e3] X.env := by rfl) (hpl : (backTo pos (starEach [e2, e3] X.env)).any (·.1) = false := by rfl) :
    PI X (.Tuple elts kk tpos) (.Call (.Name "zip" p) [e, e2, e3] [] pos) (iZip3 ta) := by
  refine ⟨fun pins s σ H R I h => ?_⟩
  refine Call_ (ld_blt I hg hm PyProof.Rows.boot_zip (PyProof.Rows.callWith_type1 (thn (ha.run pos pins s σ H _ I h) fun us s1 ⟨vs, H1, I1, r1, q1⟩ => ?_) hs hpl))
  obtain ⟨k1, k2, k3, x, y, z, xs, ys, zs, ex, hqx, hqy, hqz, q⟩ := q1
  subst ex
  obtain ⟨u, u2, u3, rfl, r, r', r''⟩ := vals3 r1
  obtain ⟨o1, G1, B1, g1, t1⟩ := src_begins I1 hqx r
  obtain ⟨o2, G2, B2, g2, t2⟩ := src_begins I1 hqy r'
  obtain ⟨o3, G3, B3, g3, t3⟩ := src_begins I1 hqz r''
  refine zip_begins3 B1 B2 B3 g1 g2 g3 fun h' hz hTI hTO e1 e2 e3 hsz hk => wpAny_pyIter_zip hz ?_
  have I2 : Inv X pins σ H1 { s1 with heap := h' } := I1.kept (t' := s1.toks) hk
  refine ⟨s1.heap.objs.size + 5, [s1.heap.objs.size + 5, s1.heap.objs.size + 3, s1.heap.objs.size + 4, s1.heap.objs.size, s1.heap.objs.size + 1, s1.heap.objs.size + 2], _, _, H1, rfl, I2, turn_zip3 (Sep3.new _), ⟨hz, hTI, ⟨_, _, _, hTO⟩, t1 _ _ e1, t2 _ _ e2, t3 _ _ e3⟩, fun c hcm => ?_, q⟩
  have e' : c = s1.heap.objs.size + 5 ∨ c = s1.heap.objs.size + 3 ∨ c = s1.heap.objs.size + 4 ∨ c = s1.heap.objs.size ∨ c = s1.heap.objs.size + 1 ∨ c = s1.heap.objs.size + 2 := by simpa using hcm
  have hle : s1.heap.objs.size ≤ c := by
    rcases e' with z | z | z | z | z | z <;> rw [z] <;> first | exact Nat.le_add_right _ _ | exact Nat.le_refl _
  exact I1.fpOk hle (I1.hok.fresh hle)
end Md
/-! Md, part 3: what stands still (consts, defs, classes), from a def's text to its promise. -/
namespace Md
open PySem PySem.Spec PyProof.Rows L2

/-- a const of the module -/
def Kn (mg : Str → Option Value) (x : Str) (v : V) : Prop := ∃ u, mg x = some u ∧ RelV v u
def DefAt (K : PySem.W.Frag) (mg : Str → Option Value) (x : Str) (st : Stmt) : Prop := ∃ f fd, mg x = some (.ref f) ∧ Fun K x x st f fd
def MetAt (K : PySem.W.Frag) (C : Addr) (m qual : Str) (st : Stmt) : Prop := ∃ f fd, Meth K C m f ∧ Fun K m qual st f fd
def PropAt (K : PySem.W.Frag) (C : Addr) (m qual : Str) (st : Stmt) : Prop := ∃ p g fd, PropOf K C m p g ∧ Fun K m qual st g fd
def MkAt (K : PySem.W.Frag) (C : Addr) (qual : Str) (st : Stmt) : Prop := ∃ f fd, Mk K C f ∧ Fun K "__init__" qual st f fd
def SpcAt (K : PySem.W.Frag) (C : Addr) (m qual : Str) (st : Stmt) : Prop := ∃ f fd, PySem.W.findIn K (.ref C) m = some (some (.ref f)) ∧ PySem.W.isFn K (.ref f) = true ∧ PySem.W.fnIn K f = true ∧ Fun K m qual st f fd
/-- a class whose instances can be asked what they are -/
structure OwnC (K : PySem.W.Frag) (C : Addr) : Prop where
  cl : Cls K C
  ha : PySem.W.findIn K (.ref C) "__class__" = some (some (.builtin "object.__class__"))
  hm : PySem.W.mroIn K C (.type "object") = some true
structure Obc (K : PySem.W.Frag) : Prop where
  hn : PySem.W.specialIn K (.builtin "object.__class__") "__get__" = some (some (.builtin "getset_descriptor.__get__"))
  ht : PySem.W.takesIn K (.builtin "object.__class__") = some true
theorem OwnC.ty {K : PySem.W.Frag} {C a dx : Addr} {H : Hp} {fs : List (Str × V)} (o : OwnC K C) (b : Obc K) (e : H a = some (.ins C dx fs)) : TyX K H (.ref a) (.ref C) := .base (.ins e o.cl o.ha b.hn b.ht o.hm)
theorem isi_ins {K : PySem.W.Frag} {C D a dx : Addr} {H : Hp} {fs : List (Str × V)} {r : Bool} {Q : VK} (o : OwnC K C) (b : Obc K) (e : H a = some (.ins C dx fs)) (k : PySem.W.kitOne K (.ref C) (.ref D) = some r) (q : Q (.bl r) H) :
    rIsi K [.ref a, .ref D] H Q := ⟨_, _, _, _, r, rfl, .own D, o.ty b e, k, q⟩
theorem isi_str {K : PySem.W.Frag} {z : Str} {n : String} {r : Bool} {H : Hp} {Q : VK} (k : kitB "str" n = some r) (q : Q (.bl r) H) : rIsi K [.str z, .ty n] H Q :=
  ⟨_, _, _, _, r, rfl, .ty n, .base (.str z), kit_ty k, q⟩
theorem isi_int {K : PySem.W.Frag} {z : Int} {n : String} {r : Bool} {H : Hp} {Q : VK} (k : kitB "int" n = some r) (q : Q (.bl r) H) : rIsi K [.int z, .ty n] H Q :=
  ⟨_, _, _, _, r, rfl, .ty n, .base (.int z), kit_ty k, q⟩
theorem isi_tup {K : PySem.W.Frag} {a : Addr} {xs : List V} {n : String} {r : Bool} {H : Hp} {Q : VK} (e : H a = some (.tup xs)) (k : kitB "tuple" n = some r) (q : Q (.bl r) H) : rIsi K [.ref a, .ty n] H Q :=
  ⟨_, _, _, _, r, rfl, .ty n, .base (.tup e), kit_ty k, q⟩
theorem isi_intC {K : PySem.W.Frag} {z : Int} {D : Addr} {r : Bool} {H : Hp} {Q : VK} (k : PySem.W.kitOne K (.type "int") (.ref D) = some r) (q : Q (.bl r) H) : rIsi K [.int z, .ref D] H Q :=
  ⟨_, _, _, _, r, rfl, .own D, .base (.int z), k, q⟩

section
variable {X : Cx} {K : PySem.W.Frag} {mg : Str → Option Value} {Γ : Gm} {n : Nat} {x : Str} {p pos : Pos} {v : V}
theorem pe_gc (hg : Gl X x) (hm : Kn X.mg x v) (hd : (x == ("__debug__" : Str)) = false := by decide) : PE X (.Name x pos) (tC v) := by
  obtain ⟨u, h, r⟩ := hm
  exact pe_glob hg h r hd
theorem pe_fn0 (c : Cok X K mg Γ n) (hg : Gl X x) (hdb : (x == ("__debug__" : Str)) = false := by decide) : PE X (.Call (.Name x p) [] [] pos) (tFn K mg Γ n x tNil) := by
  obtain rfl := c.hK
  obtain rfl := c.hm
  refine ⟨fun pins s σ H Q I h => ?_⟩
  obtain ⟨sp, ⟨f, k, hm, hk, F, hn⟩, h⟩ := h
  refine wpAny_Call_Name_kw (ld_glob I hg hm ?_ hdb)
  exact PySem.W.callWith_K0 I.kIn hk (run0 (us := []) (vs := []) (c.fn _ _ _ F) (c.room.mono hn) I.env0 I .nil h)
theorem pe_mk0 (c : Cok X K mg Γ n) (hg : Gl X x) (hdb : (x == ("__debug__" : Str)) = false := by decide) : PE X (.Call (.Name x p) [] [] pos) (tMk K mg Γ n x tNil) := by
  obtain rfl := c.hK
  obtain rfl := c.hm
  refine ⟨fun pins s σ H Q I h => ?_⟩
  obtain ⟨sp, C, ⟨f, k, hm, M, F, hn⟩, h⟩ := h
  refine wpAny_Call_Name_kw (ld_glob I hg hm ?_ hdb)
  exact PySem.W.callWith_K0 I.kIn M.kp (StX.run_makeR M (c.fn _ _ _ F) (c.room.mono hn) (fun _ _ _ _ _ _ _ z => z.elim) I .nil h)
/-! the library's rules whose readings name the written part: by c, that they stand within a comprehension too -/
theorem ix_listC (c : Cok X K mg Γ n) : IxR X (rIxL K) := by obtain rfl := c.hK; exact ix_list
theorem ix_tupC (c : Cok X K mg Γ n) : IxR X (rIxT K) := by obtain rfl := c.hK; exact ix_tup
theorem ix_seqC (c : Cok X K mg Γ n) : IxR X (rIx K) := by obtain rfl := c.hK; exact ix_seq
def rLenS (K : PySem.W.Frag) : List V → Hp → VK → Prop := fun xs H Q => ∃ p ys, xs = [.ref p] ∧ (SqL K H p ys ∨ SqT K H p ys) ∧ Q (.int ys.length) H
theorem len_C (c : Cok X K mg Γ n) : CallR X (.builtin "len") (rLenS K) := by obtain rfl := c.hK; exact call_len_seq
theorem isi_C (c : Cok X K mg Γ n) : CallR X (.builtin "isinstance") (rIsi K) := by obtain rfl := c.hK; exact call_isi
theorem in_C (c : Cok X K mg Γ n) : OpR X (compareOp .In) (rIn K false) := by obtain rfl := c.hK; exact op_in_seq
theorem notIn_C (c : Cok X K mg Γ n) : OpR X (compareOp .NotIn) (rIn K true) := by obtain rfl := c.hK; exact op_notIn_seq
theorem sl_listC (c : Cok X K mg Γ n) : SlR X (rSlL K) := by obtain rfl := c.hK; exact sl_list
theorem sl_tupC (c : Cok X K mg Γ n) : SlR X (rSlT K) := by obtain rfl := c.hK; exact sl_tup
def rTupOf (K : PySem.W.Frag) : List V → Hp → VK → Prop := fun xs H Q => ∃ p ys, xs = [.ref p] ∧ ((SqL K H p ys ∧ ∀ l, H l = none → Q (.ref l) (upd H l (.tup ys))) ∨ (SqT K H p ys ∧ Q (.ref p) H))
theorem tup_C (c : Cok X K mg Γ n) : CallR X (.type "tuple") (rTupOf K) := by obtain rfl := c.hK; exact call_tuple_of
def rListOf (K : PySem.W.Frag) : List V → Hp → VK → Prop := fun xs H Q => ∃ p ys, xs = [.ref p] ∧ (SqL K H p ys ∨ SqT K H p ys) ∧ ∀ l, H l = none → Q (.ref l) (upd H l (.lst ys))
theorem list_C (c : Cok X K mg Γ n) : CallR X (.type "list") (rListOf K) := by obtain rfl := c.hK; exact call_list_of
theorem all_C (c : Cok X K mg Γ n) (hc : X.calm = true) : CallR X (.builtin "all") (rAll K) := by obtain rfl := c.hK; exact cr_all hc
theorem sum_C (c : Cok X K mg Γ n) (hc : X.calm = true) : CallR X (.builtin "sum") (rSum K) := by obtain rfl := c.hK; exact cr_sum hc
theorem sortedS_C (c : Cok X K mg Γ n) : CallR X (.builtin "sorted") (rSortedS K) := by obtain rfl := c.hK; exact cr_sortedS
theorem pi_listC {l tg : Expr} {tl : TE} (c : Cok X K mg Γ n) (hl : PE X l tl) : PI X tg l (iList K tl) := by obtain rfl := c.hK; exact pi_list hl
theorem pi_tupC {l tg : Expr} {tl : TE} (c : Cok X K mg Γ n) (hl : PE X l tl) : PI X tg l (iTup K tl) := by obtain rfl := c.hK; exact pi_tup hl
theorem pg_tupC {es : List Expr} {k : Nat} {t : TGs} {m : Nat} (c : Cok X K mg Γ n) (hc : X.calm = true) (h : PGs X es t)
    (hn : (assignEach es X.env).length = m := by rfl) (hst : (assignEach es X.env).findIdx? (·.1) = none := by rfl) : PG X (.Tuple es k pos) (gTup K m t) := by obtain rfl := c.hK; exact pg_tup hc h hn hst
def rJoin (K : PySem.W.Frag) : V → List V → Hp → VK → Prop := fun x xs H Q => ∃ a p, ∃ ys : List Str, x = .str a ∧ xs = [.ref p] ∧ (SqL K H p (ys.map V.str) ∨ SqT K H p (ys.map V.str)) ∧ (ys.map (·.length)).sum + ys.length * a.length ≤ 16777216 ∧ Q (.str (Txt.join a ys)) H
theorem pe_joinC {o e : Expr} {to te : TE} {apos : Pos} (c : Cok X K mg Γ n) (ho : PE X o to) (he : PE X e te) (hs : starEach [e] X.env = [(false, eval e X.env)] := by rfl) (hbase : attributeBase o "join" X.env (eval o X.env) = eval o X.env := by rfl)
    (hline : (apos.endLine == pos.line) = true := by rfl) : PE X (.Call (.Attribute o "join" apos) [e] [] pos) (tM1 (rJoin K) to te) := by obtain rfl := c.hK; exact pe_join ho he hs hbase hline
theorem pe_bmC {o e : Expr} {es : List Expr} {to : TE} {t : TA} {name : Str} {apos cpos : Pos} {T id : String} {r : V → List V → Hp → VK → Prop} (c : Cok X K mg Γ n) (pa : PlainAttrs T) (slot : Slot T name id) (hty : typeOf (.builtin id) = pure (.type "method_descriptor")) (hm : MtR X id r) (ho : PE X o to) (ha : PA X (e :: es) t)
    (hbase : attributeBase o name X.env (eval o X.env) = eval o X.env := by rfl)
    (hfew : ((backTo cpos (starEach (e :: es) X.env)).all (fun x => !x.1) && (backToKw cpos (keywordEach [] X.env)).all (fun x => x.1.isSome)
      && decide ((e :: es).length + ([] : List Keyword).length + (if ([] : List Keyword).isEmpty then 0 else 1) < 30)) = true := by rfl)
    (hline : (apos.endLine == cpos.line) = true := by rfl) (hs : starEach (e :: es) X.env = (false, eval e X.env) :: starEach es X.env := by rfl) (hplain : (backTo cpos (starEach es X.env)).any (·.1) = false := by rfl) :
    PE X (.Call (.Attribute o name apos) (e :: es) [] cpos) (tBM K T r to t) := by obtain rfl := c.hK; exact pe_bm pa slot hty hm ho ha hbase hfew hline hs hplain
/-- a dict of the module by its name -/
def DAt (K : PySem.W.Frag) (mg : Str → Option Value) (w : World) (x : Str) (d : Addr) : Prop := ∃ es m, mg x = some (.ref d) ∧ KDict K w d es m
end

section
variable {P : Program} {w : World} {K : PySem.W.Frag} {mg : Str → Option Value} {base : Heap}
abbrev bX (P : Program) (w : World) (K : PySem.W.Frag) (mg : Str → Option Value) (base : Heap) (N : List Str) (qual : Str) (st : Stmt) (f : Addr) (cdv : Value) (A : Around) (outer : List Env) (s : Shared) (H : Hp) (E : XK) : Cx :=
  (cxOf CX0 P w K mg base N qual (defScope st) f cdv A outer s H E).nox
theorem fnr_of {x qual : Str} {st : Stmt} {f : Addr} {fd : FuncData} {N ps : List Str} {k : Nat} {sp : Sp} (F : Fun K x qual st f fd) (S : FnScope N ps (defScope st))
    (hb : ∀ (kV doc pm : Value) (an : Option Addr) (cdv ct : Value) (us : List Value), us.length = ps.length → bindArgs (PySem.W.fnOf x qual (defArgs st) (defBody st) (defScope st) .none kV doc pm an cdv ct) ⟨us, []⟩ = pure (ps.zip us))
    (len : ∀ vs H Q E, sp vs H Q E → vs.length = ps.length)
    (hbody : ∀ (f : Addr) (cdv : Value) (A : Around) (outer : List Env) (s : Shared) (H : Hp) (vs : List V) (Q : VK) (E : XK), Cok (bX P w K mg base N qual st f cdv A outer s H E) K mg (Fn P w K mg base) k → sp vs H Q E →
      ∃ t, PSs (bX P w K mg base N qual st f cdv A outer s H E) (defBody st) t ∧ t { nx := fun _ H' => Q .non H', rt := Q } (start N vs) H) : Fn P w K mg base f (k + 1) sp := by
  have z : FnOk P w K mg base CX0 (k + 1) f fd ps sp := F.ok S len fun cdv A outer s H vs Q E hr h => hbody f cdv A outer s H vs Q E ⟨rfl, rfl, fun _ _ _ h => h, hr⟩ h
  exact FnR.imp (z.raw (F.binds hb) .nil) fun vs H Q E h => by rw [List.append_nil]; exact h
theorem cal_of {x : Str} {st : Stmt} {k n : Nat} {sp : Sp} (D : DefAt K mg x st) (h : ∀ f fd, Fun K x x st f fd → Fn P w K mg base f k sp) (hn : k ≤ n := by decide) : Cal K mg (Fn P w K mg base) n x sp := by
  obtain ⟨f, fd, hm, F⟩ := D
  exact ⟨f, k, hm, F.kp, h f fd F, hn⟩
theorem mcal_of {C : Addr} {m qual : Str} {st : Stmt} {k n : Nat} {sp : Sp} (D : MetAt K C m qual st) (cl : Cls K C) (h : ∀ f fd, Fun K m qual st f fd → Fn P w K mg base f k sp) (hn : k ≤ n := by decide) : MCal K (Fn P w K mg base) n C m sp := by
  obtain ⟨f, fd, hm, F⟩ := D
  exact ⟨f, k, cl, hm, h f fd F, hn⟩
theorem pcal_of {C : Addr} {m qual : Str} {st : Stmt} {k n : Nat} {sp : Sp} (D : PropAt K C m qual st) (cl : Cls K C) (h : ∀ f fd, Fun K m qual st f fd → Fn P w K mg base f k sp) (hn : k + 1 ≤ n := by decide) : PCal K (Fn P w K mg base) n C m sp := by
  obtain ⟨p, g, fd, hp, F⟩ := D
  exact ⟨p, g, k, cl, hp, h g fd F, hn⟩
theorem ccal_of {x : Str} {C : Addr} {qual : Str} {st : Stmt} {k n : Nat} {sp : Sp} (D : MkAt K C qual st) (hx : Kn mg x (.ref C)) (h : ∀ f fd, Fun K "__init__" qual st f fd → Fn P w K mg base f k sp) (hn : k + 1 ≤ n := by decide) : CCal K mg (Fn P w K mg base) n x C sp := by
  obtain ⟨f, fd, M, F⟩ := D
  obtain ⟨u, hm, r⟩ := hx
  cases r
  exact ⟨f, k, hm, M, h f fd F, hn⟩
theorem scal_of {C : Addr} {m qual : Str} {st : Stmt} {k n : Nat} {sp : Sp} (D : SpcAt K C m qual st) (h : ∀ f fd, Fun K m qual st f fd → Fn P w K mg base f k sp) (hn : k + 2 ≤ n := by decide) : SCal K (Fn P w K mg base) n C m sp := by
  obtain ⟨f, fd, h1, h2, h3, F⟩ := D
  exact ⟨f, k, h1, h2, h3, h f fd F, hn⟩
end
/-- a promise: of pure work -/
def Pur (R : List V → Hp → (V → Hp → Prop) → Prop) : Sp := fun vs H Q _ => ∃ Z : V → Hp → Prop, R vs H Z ∧ ∀ v H', Ex H H' → Z v H' → Q v H'
end Md
/-! Md, part 4: loops and comprehensions whose work is pure. -/
namespace Md
open PySem PySem.Spec PyProof.Rows L2

theorem Cok.b {X : Cx} {K : PySem.W.Frag} {mg : Str → Option Value} {Γ : Gm} {n : Nat} (c : Cok X K mg Γ n) {s : Shared} {H : Hp} {scope : Scope} {ce : Env} {fp : List Addr} : Cok (X.blk s H scope ce fp) K mg Γ n := ⟨c.hK, c.hm, c.fn, c.room⟩
theorem Ex.none {H H' : Hp} {p : Addr} (e : Ex H H') (h : H' p = none) : H p = none := Evl.fresh_back e h
theorem exr (H : Hp) : Ex H H := Evl.Ex.refl H
theorem exn {H : Hp} {p : Addr} {o : HO} (h : H p = none) : Ex H (upd H p o) := Evl.Ex.new h
theorem ext {A B C : Hp} (a : Ex A B) (b : Ex B C) : Ex A C := Evl.Ex.trans a b
theorem exm {A B : Hp} {p : Addr} {o : HO} (e : Ex A B) (h : A p = none) : Ex A (upd B p o) := Evl.Ex.mut e h
theorem sqt {K : PySem.W.Frag} {H H' : Hp} {a : Addr} {xs : List V} (e : Ex H H') (h : SqT K H a xs) : SqT K H' a xs := Evl.ex_t e h
theorem sql {K : PySem.W.Frag} {H H' : Hp} {a : Addr} {xs : List V} (e : Ex H H') (h : SqL K H a xs) : SqL K H' a xs := Evl.ex_l e h
theorem zl {n : Nat} (h : n ≤ 100000) : n ≤ sizeLine := Evl.sz_of h
theorem zt {n : Nat} (h : n < 100000) : n < sizeLine := Evl.sz_lt h

/-- the list of f's values below n, where t says yes -/
def gvn (t : Nat → Bool) (f : Nat → V) : Nat → List V
  | 0 => []
  | n + 1 => gvn t f n ++ (if t n = true then [f n] else [])
theorem gvn_len (t : Nat → Bool) (f : Nat → V) : ∀ n, (gvn t f n).length ≤ n
  | 0 => Nat.le_refl _
  | n + 1 => by
    have := gvn_len t f n
    show (gvn t f n ++ _).length ≤ n + 1
    rw [List.length_append]
    split <;> simp <;> omega
theorem gvn_all (f : Nat → V) : ∀ n, gvn (fun _ => true) f n = (List.range n).map f
  | 0 => rfl
  | n + 1 => by
    show gvn (fun _ => true) f n ++ [f n] = _
    rw [gvn_all f n, List.range_succ, List.map_append]
    rfl
theorem gvn_list (xs : List V) (f : Nat → V) (h : ∀ i x, xs[i]? = some x → f i = x) : (List.range xs.length).map f = xs := by
  apply List.ext_getElem?
  intro i
  rw [List.getElem?_map]
  by_cases hi : i < xs.length
  · rw [List.getElem?_range hi]
    have e : xs[i]? = some xs[i] := by simp [hi]
    rw [e]
    show some (f i) = _
    rw [h i _ e]
  · rw [List.getElem?_eq_none (by simpa using hi), List.getElem?_eq_none (by simpa using hi)]
    rfl
theorem lc_pure {J : It} {n : Nat} {G : Hp → Prop} {Y : Nat → Hp → V → Hp → Prop} (w : Walk J n G Y) {g : TG} {tt : TT} {te : TE} {vs : List Nat} {σ : L2.St} {H1 : Hp} {D : Addr} {Qd : Hp → Prop} (t : Nat → Bool) (f : Nat → V)
    (hD : H1 D = none) (hz : n ≤ 50000) (hG : ∀ H, Ex H1 H → G H)
    (hs : ∀ i x H H', i < n → Ex H1 H → Y i H x H' → ∀ (Kn : Hp → Prop) (Ky : V → Hp → Prop), (t i = false → ∀ H3, Ex H H3 → Kn H3) → (t i = true → ∀ H4, Ex H H4 → Ky (f i) H4) →
      g x (wipe σ vs) H' fun σ2 H2 => wipe σ2 vs = wipe σ vs ∧ tt σ2 H2 fun b H3 => if b = true then te σ2 H3 Ky else Kn H3)
    (hd : ∀ H, Ex H1 H → H D = some (.lst (gvn t f n)) → Qd H) :
    ∃ W : Nat → Nat → Hp → Prop, (∃ m, W 0 m (upd H1 D (.lst []))) ∧ ∀ i m H, W i m H →
      (J.stop i H ∧ Qd H) ∨ (J.go i H ∧ ∃ Nx : Hp → Prop, (∀ H', Nx H' → ∃ m', m' < m ∧ W (i + 1) m' H') ∧ ∀ x H', J.yld i H x H' → g x (wipe σ vs) H' fun σ2 H2 => wipe σ2 vs = wipe σ vs ∧ tt σ2 H2 fun b H3 =>
        if b = true then te σ2 H3 fun y H4 => ∃ acc, H4 D = some (.lst acc) ∧ acc.length < sizeLine ∧ Nx (upd H4 D (.lst (acc ++ [y]))) else Nx H3) := by
  refine lc_it (Qd := Qd) w (fun i H => Ex H1 H ∧ H D = some (.lst (gvn t f i))) ⟨exn hD, upd_same⟩ (fun i H _ p => hG H p.1) (fun i x H H' hi p y => ?_) (fun H p => hd H p.1 p.2)
  refine hs i x H H' hi p.1 y _ _ (fun ht H3 e3 => ⟨ext p.1 e3, ?_⟩) (fun ht H4 e4 => ⟨gvn t f i, e4 D _ p.2, zt (by have := gvn_len t f i; omega), exm (ext p.1 e4) hD, ?_⟩)
  · rw [e3 D _ p.2]
    show _ = some (HO.lst (gvn t f i ++ _))
    rw [if_neg (by rw [ht]; decide), List.append_nil]
  · rw [upd_same]
    show _ = some (HO.lst (gvn t f i ++ _))
    rw [if_pos ht]
/-- range(n): the turns count from nothing -/
theorem walk_rng0 {n : Nat} : Walk (Itr 0 n) n (fun _ => True) (YFn fun i => .int (i : Nat)) :=
  ⟨fun _ _ hi _ => hi, fun _ _ => Nat.le_refl _, fun i _ _ _ _ _ y => ⟨y.1, by rw [y.2, Int.zero_add]⟩⟩
theorem rng_getD {α β : Type} (xs : List α) (d : α) (g : α → β) {n : Nat} (h : n = xs.length) : (List.range n).map (fun i => g (xs.getD i d)) = xs.map g := by
  subst h
  apply List.ext_getElem?
  intro i
  rw [List.getElem?_map, List.getElem?_map]
  by_cases hi : i < xs.length
  · rw [List.getElem?_range hi]
    show some (g (xs.getD i d)) = _
    rw [List.getD_eq_getElem?_getD]
    have e : xs[i]? = some xs[i] := by simp [hi]
    rw [e]
    rfl
  · rw [List.getElem?_eq_none (by simpa using hi), List.getElem?_eq_none (by simpa using hi)]
    rfl
theorem getD_of {α : Type} {xs : List α} {i : Nat} {x d : α} (h : xs[i]? = some x) : xs.getD i d = x := by
  rw [List.getD_eq_getElem?_getD, h]
  rfl
theorem flat_ints (l : List Int) : (l.map V.int).all flatV = true := by simp [flatV]
theorem flat_strs (l : List Str) : (l.map V.str).all flatV = true := by simp [flatV]
theorem cutV_from (xs : List V) (k : Nat) : cutV xs (some (k : Int)) none = xs.drop k := by
  unfold cutV
  rw [HT.sIx_nat, HT.sIx_none]
  by_cases h : k ≤ xs.length
  · rw [Nat.min_eq_left h]
    exact List.take_of_length_le (by rw [List.length_drop]; omega)
  · rw [Nat.min_eq_right (by omega), List.drop_length, List.drop_eq_nil_of_le (by omega), List.take_nil]
theorem cutV_to (xs : List V) (k : Nat) : cutV xs none (some (k : Int)) = xs.take k := by
  unfold cutV
  rw [HT.sIx_nat, HT.sIx_none, List.drop_zero, Nat.sub_zero]
  by_cases h : k ≤ xs.length
  · rw [Nat.min_eq_left h]
  · rw [Nat.min_eq_right (by omega), List.take_of_length_le (Nat.le_refl _), List.take_of_length_le (by omega)]
theorem cutV_mid (xs : List V) (j k : Nat) (h : j ≤ xs.length) : cutV xs (some (j : Int)) (some (k : Int)) = (xs.drop j).take (k - j) := by
  unfold cutV
  rw [HT.sIx_nat, HT.sIx_nat, Nat.min_eq_left h]
  by_cases h : k ≤ xs.length
  · rw [Nat.min_eq_left h]
  · rw [Nat.min_eq_right (by omega), List.take_of_length_le (by rw [List.length_drop]; omega), List.take_of_length_le (by rw [List.length_drop]; omega)]
end Md
/-! Md, part 9: starred arguments and parameters, classmethods, a class by a local name. -/
namespace Md
open PySem PySem.Spec PyProof.Rows L2

def CmAt (K : PySem.W.Frag) (C : Addr) (m qual : Str) (st : Stmt) : Prop := ∃ mc p g fd, ClX.CRead K C mc ∧ ClX.CMet K C mc m p g ∧ Fun K m qual st g fd
/-- a classmethod of the class at C -/
def CmCal (K : PySem.W.Frag) (Γ : Gm) (n : Nat) (C : Addr) (m : Str) (sp : Sp) : Prop := ∃ mc p g k, ClX.CRead K C mc ∧ ClX.CMet K C mc m p g ∧ Γ g k sp ∧ k ≤ n
/-- the class at C, made by its __init__ -/
def CCalA (K : PySem.W.Frag) (Γ : Gm) (n : Nat) (C : Addr) (sp : Sp) : Prop := ∃ f k, Mk K C f ∧ Γ f k sp ∧ k + 1 ≤ n
def tCm (K : PySem.W.Frag) (Γ : Gm) (n : Nat) (m : Str) (te : TE) (ta : TA) : TE := fun σ H Q => te σ H fun x H1 => ∃ C sp, x = .ref C ∧ CmCal K Γ n C m sp ∧ ta σ H1 fun vs H2 => sp (.ref C :: vs) H2 Q E0
def tMkE (K : PySem.W.Frag) (Γ : Gm) (n : Nat) (tf : TE) (ta : TA) : TE := fun σ H Q => tf σ H fun y H1 => ∃ C sp, y = .ref C ∧ CCalA K Γ n C sp ∧ ta σ H1 fun vs H2 => ∀ x dx, H2 x = none → H2 dx = none → dx ≠ x →
  sp (V.ref x :: vs) (upd (upd H2 dx (.own x)) x (.ins C dx [])) (fun v H3 => v = .non ∧ Q (.ref x) H3) E0
def tMkS (K : PySem.W.Frag) (Γ : Gm) (n : Nat) (tf te : TE) : TE := fun σ H Q => tf σ H fun y H1 => ∃ C sp, y = .ref C ∧ CCalA K Γ n C sp ∧ te σ H1 fun z H2 => ∃ a xs, z = .ref a ∧ (SqT K H2 a xs ∨ SqL K H2 a xs) ∧ ∀ x dx, H2 x = none → H2 dx = none → dx ≠ x →
  sp (V.ref x :: xs) (upd (upd H2 dx (.own x)) x (.ins C dx [])) (fun v H3 => v = .non ∧ Q (.ref x) H3) E0
section
variable {X : Cx} {K : PySem.W.Frag} {mg : Str → Option Value} {Γ : Gm} {n : Nat} {x m : Str} {p p1 p2 pos apos : Pos} {o e e2 fe : Expr} {es : List Expr} {te tf : TE} {t : TA} {pl : Sem Bool}
theorem pa_starC (c : Cok X K mg Γ n) (he : PE X e te) (hr : PA X es t) (hs : starEach (.Starred e p :: es) X.env = (true, eval e X.env) :: starEach es X.env := by rfl) : PA X (.Starred e p :: es) (StX.tStar K te t) := by
  obtain rfl := c.hK
  exact StX.pa_star he hr hs
theorem pe_cm (c : Cok X K mg Γ n) (he : PE X o te) (ha : PA X (e :: es) t)
    (hst : starEach (e :: es) X.env = (false, eval e X.env) :: starEach es X.env := by rfl) (hpl : (backTo pos (starEach es X.env)).any (·.1) = false := by rfl)
    (ht : eval (.Call (.Attribute o m apos) (e :: es) [] pos) X.env = (do
      let ov ← eval o X.env
      standAt apos.atName
      let (f, first) ← holding [ov] (getMethod ov m pl)
      callWith pos f first (backTo pos (starEach (e :: es) X.env)) (backToKw pos (keywordEach [] X.env))) := by rfl) :
    PE X (.Call (.Attribute o m apos) (e :: es) [] pos) (tCm K Γ n m te t) := by
  obtain rfl := c.hK
  refine ⟨fun pins s σ H Q I h => ?_⟩
  refine PySem.W.methodCall_KW (pl := pl) (thn (he.run pins s σ H _ I h) fun u s1 ⟨x, H1, I1, rx, C, sp, ex, ⟨mc, p, g, k, r, cm, F, hn⟩, q⟩ => ?_) ht
  subst ex
  obtain rfl : u = Value.ref C := rx
  refine ClX.getmethcm_ok I1 r cm fun s2 I2 => ?_
  refine ClX.callwith_cm I2 (ClX.base_none I1 (Nat.le_refl _)) cm.fi (thn (ha.run pos _ s2 σ H1 _ I2 q) fun us s3 ⟨vs, H2, I3, rv, q2⟩ => ⟨⟨ClX.pin_at I3, I3.kIn⟩, ?_⟩) hst hpl
  exact ClX.run_cm (c.fn _ _ _ F) (c.room.mono hn) (fun _ _ _ _ _ _ _ z => z.elim) I3 rv q2
theorem pe_mkE (c : Cok X K mg Γ n) (hf : PE X fe tf) (ha : PA X (e :: es) t)
    (ht : eval (.Call fe (e :: es) [] pos) X.env = (do callWith pos (← eval fe X.env) [] (backTo pos (starEach (e :: es) X.env)) (backToKw pos (keywordEach [] X.env))) := by rfl)
    (he : starEach (e :: es) X.env = (false, eval e X.env) :: starEach es X.env := by rfl) (hpl : (backTo pos (starEach es X.env)).any (·.1) = false := by rfl) : PE X (.Call fe (e :: es) [] pos) (tMkE K Γ n tf t) := by
  obtain rfl := c.hK
  refine ⟨fun pins s σ H Q I h => ?_⟩
  refine Call_ (thn (hf.run pins s σ H _ I h) fun u s1 ⟨y, H1, I1, ry, C, sp, ey, ⟨f, k, M, F, hn⟩, q⟩ => ?_) ht
  subst ey
  obtain rfl : u = Value.ref C := ry
  refine PySem.W.callWith_K (h₀ := X.base) I.ok.mod.kin M.kp (thn (ha.run pos pins s1 σ H1 _ I1 q) fun us s2 ⟨vs, H2, I2, r, q2⟩ => ⟨I2.kIn, ?_⟩) he hpl
  exact StX.run_makeR M (c.fn _ _ _ F) (c.room.mono hn) (fun _ _ _ _ _ _ _ z => z.elim) I2 r q2
theorem pe_mkES (c : Cok X K mg Γ n) (hf : PE X fe tf) (ha : PE X e te)
    (ht : eval (.Call fe [.Starred e p] [] pos) X.env = (do callWith pos (← eval fe X.env) [] (backTo pos (starEach [.Starred e p] X.env)) (backToKw pos (keywordEach [] X.env))) := by rfl)
    (hst : starEach [.Starred e p] X.env = [(true, eval e X.env)] := by rfl) : PE X (.Call fe [.Starred e p] [] pos) (tMkS K Γ n tf te) := by
  obtain rfl := c.hK
  refine ⟨fun pins s σ H Q I h => ?_⟩
  refine Call_ (thn (hf.run pins s σ H _ I h) fun u s1 ⟨y, H1, I1, ry, C, sp, ey, ⟨f, k, M, F, hn⟩, q⟩ => ?_) ht
  subst ey
  obtain rfl : u = Value.ref C := ry
  refine PySem.W.callWith_S (h₀ := X.base) I.ok.mod.kin M.kp (thn (ha.run pins s1 σ H1 _ I1 q) fun v s2 ⟨z, H2, I2, rz, a, xs, ez, hxs, q2⟩ => ?_) hst
  subst ez
  obtain rfl : v = Value.ref a := rz
  refine StX.star_any I2 hxs fun us s3 I3 rv => ⟨I3.kIn, ?_⟩
  exact StX.run_makeR M (c.fn _ _ _ F) (c.room.mono hn) (fun _ _ _ _ _ _ _ z => z.elim) I3 rv q2
theorem evalArgs_two {M : Model} {A : Around} {E : Value → Shared → Prop} {s : Shared} {f : Value} {x y : Bool × Sem Value} {rest : List (Bool × Sem Value)} {Q : Args → Shared → Prop}
    (h : wpAny M A (spliced (x :: y :: rest)) (fun vs s' => Q ⟨vs, []⟩ s') E s) : wpAny M A (evalArgs f true (x :: y :: rest) []) Q E s := by
  obtain ⟨b, x⟩ := x
  cases b
  all_goals
  unfold evalArgs
  show wpAny M A (spliced (_ :: y :: rest) >>= _) Q E s
  refine wpAny_bind (wpAny_mono h (fun vs s' h' => ?_) fun _ _ x => x)
  refine wpAny_holding ?_
  exact wpAny_bind (wpAny_pure (wpAny_bind (wpAny_pure (wpAny_pure h'))))
/-- X(*a, *b), X a class of the module -/
theorem pe_mkSS (c : Cok X K mg Γ n) (hg : Gl X x) (ha : PA X [.Starred e p1, .Starred e2 p2] t) (hdb : (x == ("__debug__" : Str)) = false := by decide)
    (hst : starEach [.Starred e p1, .Starred e2 p2] X.env = [(true, eval e X.env), (true, eval e2 X.env)] := by rfl) : PE X (.Call (.Name x p) [.Starred e p1, .Starred e2 p2] [] pos) (tMk K mg Γ n x t) := by
  obtain rfl := c.hK
  obtain rfl := c.hm
  refine ⟨fun pins s σ H Q I h => ?_⟩
  obtain ⟨sp, C, ⟨f, k, hm, M, F, hn⟩, h⟩ := h
  refine wpAny_Call_Name_kw (ld_glob I hg hm ?_ hdb)
  have ha' := ha.run pos pins s σ H _ I h
  rw [hst] at ha'
  show wpAny _ _ (callWith pos (.ref C) [] (backTo pos (starEach [.Starred e p1, .Starred e2 p2] X.env)) []) _ _ _
  rw [hst]
  refine PySem.W.ks_call rfl (PySem.W.keeps_K M.kp) (evalArgs_two (thn ha' fun us s1 ⟨vs, H1, I1, r, q⟩ => ⟨I1.kIn, ?_⟩))
  exact StX.run_makeR M (c.fn _ _ _ F) (c.room.mono hn) (fun _ _ _ _ _ _ _ z => z.elim) I1 r q
end
section
variable {P : Program} {w : World} {K : PySem.W.Frag} {mg : Str → Option Value} {base : Heap}
theorem cmcal_of {C : Addr} {m qual : Str} {st : Stmt} {k n : Nat} {sp : Sp} (D : CmAt K C m qual st) (h : ∀ f fd, Fun K m qual st f fd → Fn P w K mg base f k sp) (hn : k ≤ n := by decide) : CmCal K (Fn P w K mg base) n C m sp := by
  obtain ⟨mc, p, g, fd, r, cm, F⟩ := D
  exact ⟨mc, p, g, k, r, cm, h g fd F, hn⟩
theorem ccalA_of {C : Addr} {qual : Str} {st : Stmt} {k n : Nat} {sp : Sp} (D : MkAt K C qual st) (h : ∀ f fd, Fun K "__init__" qual st f fd → Fn P w K mg base f k sp) (hn : k + 1 ≤ n := by decide) : CCalA K (Fn P w K mg base) n C sp := by
  obtain ⟨f, fd, M, F⟩ := D
  exact ⟨f, k, M, h f fd F, hn⟩
/-- a def with a star parameter -/
theorem fnr_star {x qual : Str} {st : Stmt} {f : Addr} {fd : FuncData} {N ps : List Str} {pv : Str} {k : Nat} {sp : Sp} (F : Fun K x qual st f fd) (S : FnScope N (ps ++ [pv]) (defScope st))
    (hb : ∀ (kV doc pm : Value) (an : Option Addr) (cdv ct : Value) (us rest : List Value), us.length = ps.length → bindArgs (PySem.W.fnOf x qual (defArgs st) (defBody st) (defScope st) .none kV doc pm an cdv ct) ⟨us ++ rest, []⟩ = (newTuple rest >>= fun t => pure (ps.zip us ++ [(pv, t)])))
    (hbody : ∀ (f : Addr) (cdv : Value) (A : Around) (outer : List Env) (s : Shared) (H : Hp) (vs : List V) (Q : VK) (E : XK), Cok (bX P w K mg base N qual st f cdv A outer s H E) K mg (Fn P w K mg base) k → sp vs H Q E →
      ∃ t, PSs (bX P w K mg base N qual st f cdv A outer s H E) (defBody st) t ∧ t { nx := fun _ H' => Q .non H', rt := Q } (start N vs) H) :
    Fn P w K mg base f (k + 1) (fun vs H Q E => ∃ ws rest, vs = ws ++ rest ∧ ws.length = ps.length ∧ rest.length ≤ sizeLine ∧ ∀ p, H p = none → sp (ws ++ [V.ref p]) (upd H p (.tup rest)) Q E) := by
  obtain ⟨oc, od, kV, doc, pm, an, cdv, ct, osl, rfl, lk, hcd⟩ := F.ex
  refine StX.fn_star lk hcd S StX.cxUp_none (hb kV doc pm an cdv ct) fun A outer s H vs Q E hr h => ?_
  obtain ⟨t, h1, q⟩ := hbody f cdv A outer s H vs Q E ⟨rfl, rfl, fun _ _ _ h => h, hr⟩ h
  exact ⟨t, h1.nox, q⟩
end
end Md
/-! Md, part 5 (printed by mktx.py): the defs by place, their slots and scopes, what stands still. -/
namespace Md
open PySem PySem.Spec PyProof.Rows L2

abbrev N_is_name : List Str := ["thing", "sign"]
theorem sc_is_name : FnScope N_is_name ["thing"] (defScope S_is_name) := ⟨rfl, rfl, rfl, by decide +kernel, rfl, by decide +kernel, by decide +kernel⟩
abbrev N_is_integer : List Str := ["thing", "low", "high"]
theorem sc_is_integer : FnScope N_is_integer ["thing", "low", "high"] (defScope S_is_integer) := ⟨rfl, rfl, rfl, by decide +kernel, rfl, by decide +kernel, by decide +kernel⟩
abbrev N_is_path : List Str := ["thing", "part"]
theorem sc_is_path : FnScope N_is_path ["thing"] (defScope S_is_path) := ⟨rfl, rfl, rfl, by decide +kernel, rfl, by decide +kernel, by decide +kernel⟩
abbrev N_names_of : List Str := ["path"]
theorem sc_names_of : FnScope N_names_of ["path"] (defScope S_names_of) := ⟨rfl, rfl, rfl, by decide +kernel, rfl, by decide +kernel, by decide +kernel⟩
abbrev N_number_of : List Str := ["thing"]
theorem sc_number_of : FnScope N_number_of ["thing"] (defScope S_number_of) := ⟨rfl, rfl, rfl, by decide +kernel, rfl, by decide +kernel, by decide +kernel⟩
abbrev N_place_of : List Str := ["letter"]
theorem sc_place_of : FnScope N_place_of ["letter"] (defScope S_place_of) := ⟨rfl, rfl, rfl, by decide +kernel, rfl, by decide +kernel, by decide +kernel⟩
abbrev N_pattern_bits : List Str := ["place", "pattern", "at"]
theorem sc_pattern_bits : FnScope N_pattern_bits ["place", "pattern"] (defScope S_pattern_bits) := ⟨rfl, rfl, rfl, by decide +kernel, rfl, by decide +kernel, by decide +kernel⟩
abbrev N_size_of : List Str := ["entry", "name"]
theorem sc_size_of : FnScope N_size_of ["entry"] (defScope S_size_of) := ⟨rfl, rfl, rfl, by decide +kernel, rfl, by decide +kernel, by decide +kernel⟩
abbrev N_copied : List Str := ["entry", "made", "name"]
theorem sc_copied : FnScope N_copied ["entry"] (defScope S_copied) := ⟨rfl, rfl, rfl, by decide +kernel, rfl, by decide +kernel, by decide +kernel⟩
abbrev N_found_below : List Str := ["entry", "names", "name"]
theorem sc_found_below : FnScope N_found_below ["entry", "names"] (defScope S_found_below) := ⟨rfl, rfl, rfl, by decide +kernel, rfl, by decide +kernel, by decide +kernel⟩
abbrev N_joined : List Str := ["path", "name"]
theorem sc_joined : FnScope N_joined ["path", "name"] (defScope S_joined) := ⟨rfl, rfl, rfl, by decide +kernel, rfl, by decide +kernel, by decide +kernel⟩
abbrev N_commands_of : List Str := ["row", "at"]
theorem sc_commands_of : FnScope N_commands_of ["row"] (defScope S_commands_of) := ⟨rfl, rfl, rfl, by decide +kernel, rfl, by decide +kernel, by decide +kernel⟩
abbrev N_wrong_index : List Str := ["row", "stand", "at", "place", "command"]
theorem sc_wrong_index : FnScope N_wrong_index ["row", "stand"] (defScope S_wrong_index) := ⟨rfl, rfl, rfl, by decide +kernel, rfl, by decide +kernel, by decide +kernel⟩
abbrev N_need_stand : List Str := ["row", "stand", "at"]
theorem sc_need_stand : FnScope N_need_stand ["row", "stand"] (defScope S_need_stand) := ⟨rfl, rfl, rfl, by decide +kernel, rfl, by decide +kernel, by decide +kernel⟩
abbrev N_word_in : List Str := ["stand", "at", "place"]
theorem sc_word_in : FnScope N_word_in ["stand"] (defScope S_word_in) := ⟨rfl, rfl, rfl, by decide +kernel, rfl, by decide +kernel, by decide +kernel⟩
abbrev N_stand_below : List Str := ["row", "stand", "passing", "name", "found", "place", "command", "goes_on", "names"]
theorem sc_stand_below : FnScope N_stand_below ["row", "stand", "passing", "name"] (defScope S_stand_below) := ⟨rfl, rfl, rfl, by decide +kernel, rfl, by decide +kernel, by decide +kernel⟩
abbrev N_made_step : List Str := ["command", "place", "mode", "owner", "group", "user", "later", "change", "seen"]
theorem sc_made_step : FnScope N_made_step ["command", "place", "mode", "owner", "group"] (defScope S_made_step) := ⟨rfl, rfl, rfl, by decide +kernel, rfl, by decide +kernel, by decide +kernel⟩
abbrev N_stand_of : List Str := ["row", "tree", "path", "stand", "above", "name", "folder", "at"]
theorem sc_stand_of : FnScope N_stand_of ["row", "tree", "path"] (defScope S_stand_of) := ⟨rfl, rfl, rfl, by decide +kernel, rfl, by decide +kernel, by decide +kernel⟩
abbrev N_is_some : List Str := ["thing", "letters", "places", "sign", "low", "high"]
theorem sc_is_some : FnScope N_is_some ["thing", "letters"] (defScope S_is_some) := ⟨rfl, rfl, rfl, by decide +kernel, rfl, by decide +kernel, by decide +kernel⟩
abbrev N_is_who : List Str := ["thing"]
theorem sc_is_who : FnScope N_is_who ["thing"] (defScope S_is_who) := ⟨rfl, rfl, rfl, by decide +kernel, rfl, by decide +kernel, by decide +kernel⟩
abbrev N_is_what : List Str := ["thing"]
theorem sc_is_what : FnScope N_is_what ["thing"] (defScope S_is_what) := ⟨rfl, rfl, rfl, by decide +kernel, rfl, by decide +kernel, by decide +kernel⟩
abbrev N_need_groups : List Str := ["groups", "at", "group"]
theorem sc_need_groups : FnScope N_need_groups ["groups"] (defScope S_need_groups) := ⟨rfl, rfl, rfl, by decide +kernel, rfl, by decide +kernel, by decide +kernel⟩
abbrev N_commands_in : List Str := ["thing"]
theorem sc_commands_in : FnScope N_commands_in ["thing"] (defScope S_commands_in) := ⟨rfl, rfl, rfl, by decide +kernel, rfl, by decide +kernel, by decide +kernel⟩
abbrev N_joined_row : List Str := ["one", "other", "ahead", "behind"]
theorem sc_joined_row : FnScope N_joined_row ["one", "other"] (defScope S_joined_row) := ⟨rfl, rfl, rfl, by decide +kernel, rfl, by decide +kernel, by decide +kernel⟩
abbrev N__law_pen : List Str := ["_law_script"]
theorem sc__law_pen : FnScope N__law_pen ["_law_script"] (defScope S__law_pen) := ⟨rfl, rfl, rfl, by decide +kernel, rfl, by decide +kernel, by decide +kernel⟩
abbrev N__law_draw : List Str := ["_law_pen_here", "_law_many", "_law_digit", "_law_at_here", "_law_cell", "_law_great", "_law_mixed"]
theorem sc__law_draw : FnScope N__law_draw ["_law_pen_here", "_law_many"] (defScope S__law_draw) := ⟨rfl, rfl, rfl, by decide +kernel, rfl, by decide +kernel, by decide +kernel⟩
abbrev N__law_pick : List Str := ["_law_pen_here", "_law_some"]
theorem sc__law_pick : FnScope N__law_pick ["_law_pen_here", "_law_some"] (defScope S__law_pick) := ⟨rfl, rfl, rfl, by decide +kernel, rfl, by decide +kernel, by decide +kernel⟩
abbrev N__law_words : List Str := ["_law_pen_here", "_law_many", "_law_letters", "_law_stem", "_law_spot", "_law_front", "_law_k"]
theorem sc__law_words : FnScope N__law_words ["_law_pen_here", "_law_many"] (defScope S__law_words) := ⟨rfl, rfl, rfl, by decide +kernel, rfl, by decide +kernel, by decide +kernel⟩
abbrev N__law_world : List Str := ["_law_pen_here", "_law_some", "_law_users", "_law_at_here", "_law_mine"]
theorem sc__law_world : FnScope N__law_world ["_law_pen_here"] (defScope S__law_world) := ⟨rfl, rfl, rfl, by decide +kernel, rfl, by decide +kernel, by decide +kernel⟩
abbrev N__law_drawn_mode : List Str := ["_law_pen_here"]
theorem sc__law_drawn_mode : FnScope N__law_drawn_mode ["_law_pen_here"] (defScope S__law_drawn_mode) := ⟨rfl, rfl, rfl, by decide +kernel, rfl, by decide +kernel, by decide +kernel⟩
abbrev N__law_clauses : List Str := ["_law_pen_here", "_law_found", "_law_at_here", "_law_who", "_law_what"]
theorem sc__law_clauses : FnScope N__law_clauses ["_law_pen_here"] (defScope S__law_clauses) := ⟨rfl, rfl, rfl, by decide +kernel, rfl, by decide +kernel, by decide +kernel⟩
abbrev N__law_deed : List Str := ["_law_pen_here", "_law_world_here", "_law_user", "_law_clauses_here", "_law_trail", "_law_when", "_law_meant", "_law_at_here"]
theorem sc__law_deed : FnScope N__law_deed ["_law_pen_here", "_law_world_here"] (defScope S__law_deed) := ⟨rfl, rfl, rfl, by decide +kernel, rfl, by decide +kernel, by decide +kernel⟩
abbrev N__law_joined : List Str := ["_law_above", "_law_name"]
theorem sc__law_joined : FnScope N__law_joined ["_law_above", "_law_name"] (defScope S__law_joined) := ⟨rfl, rfl, rfl, by decide +kernel, rfl, by decide +kernel, by decide +kernel⟩
abbrev N__law_at : List Str := ["_law_rows", "_law_spot", "_law_found", "_law_one"]
theorem sc__law_at : FnScope N__law_at ["_law_rows", "_law_spot"] (defScope S__law_at) := ⟨rfl, rfl, rfl, by decide +kernel, rfl, by decide +kernel, by decide +kernel⟩
abbrev N__law_grown : List Str := ["_law_pen_here", "_law_world_here", "_law_most", "_law_owners", "_law_groups", "_law_rows", "_law_k", "_law_above", "_law_spot", "_law_form", "_law_one"]
theorem sc__law_grown : FnScope N__law_grown ["_law_pen_here", "_law_world_here", "_law_most"] (defScope S__law_grown) := ⟨rfl, rfl, rfl, by decide +kernel, rfl, by decide +kernel, by decide +kernel⟩
abbrev N__law_user_so : List Str := ["_law_user", "_law_name", "_law_mine", "_law_is_chief"]
theorem sc__law_user_so : FnScope N__law_user_so ["_law_user"] (defScope S__law_user_so) := ⟨rfl, rfl, rfl, by decide +kernel, rfl, by decide +kernel, by decide +kernel⟩
abbrev N__law_row_so : List Str := ["_law_deeds", "_law_row_so_here", "_law_user", "_law_clauses_here", "_law_when", "_law_meant", "_law_trail", "_law_change_so", "_law_who", "_law_sign", "_law_what"]
theorem sc__law_row_so : FnScope N__law_row_so ["_law_deeds"] (defScope S__law_row_so) := ⟨rfl, rfl, rfl, by decide +kernel, rfl, by decide +kernel, by decide +kernel⟩
abbrev N__law_tree_so : List Str := ["_law_rows", "_law_tree_so_here", "_law_spot", "_law_form", "_law_number", "_law_owner", "_law_group", "_law_entry_so"]
theorem sc__law_tree_so : FnScope N__law_tree_so ["_law_rows"] (defScope S__law_tree_so) := ⟨rfl, rfl, rfl, by decide +kernel, rfl, by decide +kernel, by decide +kernel⟩
abbrev N__law_hall : List Str := ["_law_row_so_here", "_law_tree_so_here", "_law_above", "_law_one", "_law_places"]
theorem sc__law_hall : FnScope N__law_hall ["_law_row_so_here", "_law_tree_so_here", "_law_above"] (defScope S__law_hall) := ⟨rfl, rfl, rfl, by decide +kernel, rfl, by decide +kernel, by decide +kernel⟩
abbrev N__law_alone_right : List Str := ["_law_pen_here", "_law_rows", "_law_row_so_here", "_law_tree_so_here", "_law_one", "_law_spot", "_law_some", "_law_due", "_law_form", "_law_each"]
theorem sc__law_alone_right : FnScope N__law_alone_right ["_law_pen_here", "_law_rows", "_law_row_so_here", "_law_tree_so_here", "_law_one"] (defScope S__law_alone_right) := ⟨rfl, rfl, rfl, by decide +kernel, rfl, by decide +kernel, by decide +kernel⟩
abbrev N__law_more_right : List Str := ["_law_pen_here", "_law_world_here", "_law_row_so_here", "_law_tree_so_here", "_law_one", "_law_name", "_law_twin", "_law_hall_here", "_law_spot"]
theorem sc__law_more_right : FnScope N__law_more_right ["_law_pen_here", "_law_world_here", "_law_row_so_here", "_law_tree_so_here", "_law_one"] (defScope S__law_more_right) := ⟨rfl, rfl, rfl, by decide +kernel, rfl, by decide +kernel, by decide +kernel⟩
abbrev N_law : List Str := ["_law_script", "_law_pen_here", "_law_turn", "_law_world_here", "_law_rows", "_law_deeds", "_law_tree_so_here", "_law_row_so_here", "_law_one", "_law_parts", "_law_hall_here", "_law_k", "_law_deed_here"]
theorem sc_law : FnScope N_law ["_law_script"] (defScope S_law) := ⟨rfl, rfl, rfl, by decide +kernel, rfl, by decide +kernel, by decide +kernel⟩
abbrev N_Mode_number : List Str := ["self"]
theorem sc_Mode_number : FnScope N_Mode_number ["self"] (defScope S_Mode_number) := ⟨rfl, rfl, rfl, by decide +kernel, rfl, by decide +kernel, by decide +kernel⟩
abbrev N_Entry_mode : List Str := ["self"]
theorem sc_Entry_mode : FnScope N_Entry_mode ["self"] (defScope S_Entry_mode) := ⟨rfl, rfl, rfl, by decide +kernel, rfl, by decide +kernel, by decide +kernel⟩
abbrev N_Entry_owner : List Str := ["self"]
theorem sc_Entry_owner : FnScope N_Entry_owner ["self"] (defScope S_Entry_owner) := ⟨rfl, rfl, rfl, by decide +kernel, rfl, by decide +kernel, by decide +kernel⟩
abbrev N_Entry_group : List Str := ["self"]
theorem sc_Entry_group : FnScope N_Entry_group ["self"] (defScope S_Entry_group) := ⟨rfl, rfl, rfl, by decide +kernel, rfl, by decide +kernel, by decide +kernel⟩
abbrev N_Clause_sign : List Str := ["self"]
theorem sc_Clause_sign : FnScope N_Clause_sign ["self"] (defScope S_Clause_sign) := ⟨rfl, rfl, rfl, by decide +kernel, rfl, by decide +kernel, by decide +kernel⟩
abbrev N_Clause_what : List Str := ["self"]
theorem sc_Clause_what : FnScope N_Clause_what ["self"] (defScope S_Clause_what) := ⟨rfl, rfl, rfl, by decide +kernel, rfl, by decide +kernel, by decide +kernel⟩
abbrev N_Command_user : List Str := ["self"]
theorem sc_Command_user : FnScope N_Command_user ["self"] (defScope S_Command_user) := ⟨rfl, rfl, rfl, by decide +kernel, rfl, by decide +kernel, by decide +kernel⟩
abbrev N_Command_change : List Str := ["self"]
theorem sc_Command_change : FnScope N_Command_change ["self"] (defScope S_Command_change) := ⟨rfl, rfl, rfl, by decide +kernel, rfl, by decide +kernel, by decide +kernel⟩
abbrev N_Command_order : List Str := ["self"]
theorem sc_Command_order : FnScope N_Command_order ["self"] (defScope S_Command_order) := ⟨rfl, rfl, rfl, by decide +kernel, rfl, by decide +kernel, by decide +kernel⟩
abbrev N_Command_kinds : List Str := ["self"]
theorem sc_Command_kinds : FnScope N_Command_kinds ["self"] (defScope S_Command_kinds) := ⟨rfl, rfl, rfl, by decide +kernel, rfl, by decide +kernel, by decide +kernel⟩
abbrev N_Command_start : List Str := ["self"]
theorem sc_Command_start : FnScope N_Command_start ["self"] (defScope S_Command_start) := ⟨rfl, rfl, rfl, by decide +kernel, rfl, by decide +kernel, by decide +kernel⟩
abbrev N_Mode_pattern : List Str := ["self", "letter", "place", "at"]
theorem sc_Mode_pattern : FnScope N_Mode_pattern ["self", "letter"] (defScope S_Mode_pattern) := ⟨rfl, rfl, rfl, by decide +kernel, rfl, by decide +kernel, by decide +kernel⟩
abbrev N_Mode_with_pattern : List Str := ["self", "letter", "pattern", "place", "rest"]
theorem sc_Mode_with_pattern : FnScope N_Mode_with_pattern ["self", "letter", "pattern"] (defScope S_Mode_with_pattern) := ⟨rfl, rfl, rfl, by decide +kernel, rfl, by decide +kernel, by decide +kernel⟩
abbrev N_Holder_names : List Str := ["self", "name"]
theorem sc_Holder_names : FnScope N_Holder_names ["self"] (defScope S_Holder_names) := ⟨rfl, rfl, rfl, by decide +kernel, rfl, by decide +kernel, by decide +kernel⟩
abbrev N_Holder_put : List Str := ["self", "name", "entry", "fresh", "kept"]
theorem sc_Holder_put : FnScope N_Holder_put ["self", "name", "entry"] (defScope S_Holder_put) := ⟨rfl, rfl, rfl, by decide +kernel, rfl, by decide +kernel, by decide +kernel⟩
abbrev N_Tree_entry : List Str := ["self", "path", "found"]
theorem sc_Tree_entry : FnScope N_Tree_entry ["self", "path"] (defScope S_Tree_entry) := ⟨rfl, rfl, rfl, by decide +kernel, rfl, by decide +kernel, by decide +kernel⟩
abbrev N_Tree_put : List Str := ["self", "path", "entry", "above", "name", "folder", "kept"]
theorem sc_Tree_put : FnScope N_Tree_put ["self", "path", "entry"] (defScope S_Tree_put) := ⟨rfl, rfl, rfl, by decide +kernel, rfl, by decide +kernel, by decide +kernel⟩
abbrev N_Tree_copy : List Str := ["self"]
theorem sc_Tree_copy : FnScope N_Tree_copy ["self"] (defScope S_Tree_copy) := ⟨rfl, rfl, rfl, by decide +kernel, rfl, by decide +kernel, by decide +kernel⟩
abbrev N_Clause_takes : List Str := ["self", "letter", "pattern", "form"]
theorem sc_Clause_takes : FnScope N_Clause_takes ["self", "letter", "pattern", "form"] (defScope S_Clause_takes) := ⟨rfl, rfl, rfl, by decide +kernel, rfl, by decide +kernel, by decide +kernel⟩
abbrev N_Clause_moved : List Str := ["self", "letter", "pattern", "form", "is_meant"]
theorem sc_Clause_moved : FnScope N_Clause_moved ["self", "letter", "pattern", "form"] (defScope S_Clause_moved) := ⟨rfl, rfl, rfl, by decide +kernel, rfl, by decide +kernel, by decide +kernel⟩
abbrev N_Change_moved : List Str := ["self", "letter", "pattern", "form", "found", "clause"]
theorem sc_Change_moved : FnScope N_Change_moved ["self", "letter", "pattern", "form"] (defScope S_Change_moved) := ⟨rfl, rfl, rfl, by decide +kernel, rfl, by decide +kernel, by decide +kernel⟩
abbrev N_Change_three : List Str := ["self", "form"]
theorem sc_Change_three : FnScope N_Change_three ["self", "form"] (defScope S_Change_three) := ⟨rfl, rfl, rfl, by decide +kernel, rfl, by decide +kernel, by decide +kernel⟩
abbrev N_User_class_at : List Str := ["self", "owner", "group"]
theorem sc_User_class_at : FnScope N_User_class_at ["self", "owner", "group"] (defScope S_User_class_at) := ⟨rfl, rfl, rfl, by decide +kernel, rfl, by decide +kernel, by decide +kernel⟩
abbrev N_User_bits_at : List Str := ["self", "mode", "owner", "group"]
theorem sc_User_bits_at : FnScope N_User_bits_at ["self", "mode", "owner", "group"] (defScope S_User_bits_at) := ⟨rfl, rfl, rfl, by decide +kernel, rfl, by decide +kernel, by decide +kernel⟩
abbrev N_User_passes : List Str := ["self", "mode", "owner", "group"]
theorem sc_User_passes : FnScope N_User_passes ["self", "mode", "owner", "group"] (defScope S_User_passes) := ⟨rfl, rfl, rfl, by decide +kernel, rfl, by decide +kernel, by decide +kernel⟩
abbrev N_User_lists : List Str := ["self", "mode", "owner", "group"]
theorem sc_User_lists : FnScope N_User_lists ["self", "mode", "owner", "group"] (defScope S_User_lists) := ⟨rfl, rfl, rfl, by decide +kernel, rfl, by decide +kernel, by decide +kernel⟩
abbrev N_User_may_change : List Str := ["self", "owner"]
theorem sc_User_may_change : FnScope N_User_may_change ["self", "owner"] (defScope S_User_may_change) := ⟨rfl, rfl, rfl, by decide +kernel, rfl, by decide +kernel, by decide +kernel⟩
abbrev N_Chief_passes : List Str := ["self", "mode", "owner", "group"]
theorem sc_Chief_passes : FnScope N_Chief_passes ["self", "mode", "owner", "group"] (defScope S_Chief_passes) := ⟨rfl, rfl, rfl, by decide +kernel, rfl, by decide +kernel, by decide +kernel⟩
abbrev N_Chief_lists : List Str := ["self", "mode", "owner", "group"]
theorem sc_Chief_lists : FnScope N_Chief_lists ["self", "mode", "owner", "group"] (defScope S_Chief_lists) := ⟨rfl, rfl, rfl, by decide +kernel, rfl, by decide +kernel, by decide +kernel⟩
abbrev N_Chief_may_change : List Str := ["self", "owner"]
theorem sc_Chief_may_change : FnScope N_Chief_may_change ["self", "owner"] (defScope S_Chief_may_change) := ⟨rfl, rfl, rfl, by decide +kernel, rfl, by decide +kernel, by decide +kernel⟩
abbrev N_Command_means : List Str := ["self", "form"]
theorem sc_Command_means : FnScope N_Command_means ["self", "form"] (defScope S_Command_means) := ⟨rfl, rfl, rfl, by decide +kernel, rfl, by decide +kernel, by decide +kernel⟩
abbrev N_Row_need_index : List Str := ["self", "index"]
theorem sc_Row_need_index : FnScope N_Row_need_index ["self", "index"] (defScope S_Row_need_index) := ⟨rfl, rfl, rfl, by decide +kernel, rfl, by decide +kernel, by decide +kernel⟩
abbrev N_Holder_DcontainsD : List Str := ["self", "name"]
theorem sc_Holder_DcontainsD : FnScope N_Holder_DcontainsD ["self", "name"] (defScope S_Holder_DcontainsD) := ⟨rfl, rfl, rfl, by decide +kernel, rfl, by decide +kernel, by decide +kernel⟩
abbrev N_Holder_DgetitemD : List Str := ["self", "name"]
theorem sc_Holder_DgetitemD : FnScope N_Holder_DgetitemD ["self", "name"] (defScope S_Holder_DgetitemD) := ⟨rfl, rfl, rfl, by decide +kernel, rfl, by decide +kernel, by decide +kernel⟩
abbrev N_Passage_DcallD : List Str := ["self", "name", "going", "passing", "at", "goes_on", "number"]
theorem sc_Passage_DcallD : FnScope N_Passage_DcallD ["self", "name"] (defScope S_Passage_DcallD) := ⟨rfl, rfl, rfl, by decide +kernel, rfl, by decide +kernel, by decide +kernel⟩
abbrev N_Change_DcallD : List Str := ["self", "mode", "form", "found", "letter", "row"]
theorem sc_Change_DcallD : FnScope N_Change_DcallD ["self", "mode", "form"] (defScope S_Change_DcallD) := ⟨rfl, rfl, rfl, by decide +kernel, rfl, by decide +kernel, by decide +kernel⟩
abbrev N_Row_DgetitemD : List Str := ["self", "index"]
theorem sc_Row_DgetitemD : FnScope N_Row_DgetitemD ["self", "index"] (defScope S_Row_DgetitemD) := ⟨rfl, rfl, rfl, by decide +kernel, rfl, by decide +kernel, by decide +kernel⟩
abbrev N_Row_DlenD : List Str := ["self"]
theorem sc_Row_DlenD : FnScope N_Row_DlenD ["self"] (defScope S_Row_DlenD) := ⟨rfl, rfl, rfl, by decide +kernel, rfl, by decide +kernel, by decide +kernel⟩
abbrev N_Row_DaddD : List Str := ["self", "other"]
theorem sc_Row_DaddD : FnScope N_Row_DaddD ["self", "other"] (defScope S_Row_DaddD) := ⟨rfl, rfl, rfl, by decide +kernel, rfl, by decide +kernel, by decide +kernel⟩
abbrev N_Mode_DinitD : List Str := ["self", "number"]
theorem sc_Mode_DinitD : FnScope N_Mode_DinitD ["self", "number"] (defScope S_Mode_DinitD) := ⟨rfl, rfl, rfl, by decide +kernel, rfl, by decide +kernel, by decide +kernel⟩
abbrev N_Tree_DinitD : List Str := ["self", "top"]
theorem sc_Tree_DinitD : FnScope N_Tree_DinitD ["self", "top"] (defScope S_Tree_DinitD) := ⟨rfl, rfl, rfl, by decide +kernel, rfl, by decide +kernel, by decide +kernel⟩
abbrev N_Passage_DinitD : List Str := ["self", "row", "stand", "mode", "owner", "group", "folder", "now", "at", "place", "command", "goes_on"]
theorem sc_Passage_DinitD : FnScope N_Passage_DinitD ["self", "row", "stand", "mode", "owner", "group"] (defScope S_Passage_DinitD) := ⟨rfl, rfl, rfl, by decide +kernel, rfl, by decide +kernel, by decide +kernel⟩
abbrev N_Clause_DinitD : List Str := ["self", "who", "sign", "what", "letter"]
theorem sc_Clause_DinitD : FnScope N_Clause_DinitD ["self", "who", "sign", "what"] (defScope S_Clause_DinitD) := ⟨rfl, rfl, rfl, by decide +kernel, rfl, by decide +kernel, by decide +kernel⟩
abbrev N_Change_DinitD : List Str := ["self", "clauses", "at", "clause", "p", "letter", "form"]
theorem sc_Change_DinitD : FnScope N_Change_DinitD ["self", "clauses"] (defScope S_Change_DinitD) := ⟨rfl, rfl, rfl, by decide +kernel, rfl, by decide +kernel, by decide +kernel⟩
abbrev N_User_DinitD : List Str := ["self", "name", "groups"]
theorem sc_User_DinitD : FnScope N_User_DinitD ["self", "name", "groups"] (defScope S_User_DinitD) := ⟨rfl, rfl, rfl, by decide +kernel, rfl, by decide +kernel, by decide +kernel⟩
abbrev N_Row_DinitD : List Str := ["self", "commands"]
theorem sc_Row_DinitD : FnScope N_Row_DinitD ["self", "commands"] (defScope S_Row_DinitD) := ⟨rfl, rfl, rfl, by decide +kernel, rfl, by decide +kernel, by decide +kernel⟩
abbrev N_Holder_DinitD : List Str := ["self"]
theorem sc_Holder_DinitD : FnScope N_Holder_DinitD ["self"] (defScope S_Holder_DinitD) := ⟨rfl, rfl, rfl, by decide +kernel, rfl, by decide +kernel, by decide +kernel⟩
abbrev N_Command_DinitD : List Str := ["self", "user", "change", "order", "kinds", "start", "rights", "part", "is_right"]
theorem sc_Command_DinitD : FnScope N_Command_DinitD ["self", "user", "change", "order", "kinds", "start"] (defScope S_Command_DinitD) := ⟨rfl, rfl, rfl, by decide +kernel, rfl, by decide +kernel, by decide +kernel⟩
abbrev N_Clause_read : List Str := ["cls", "text", "at", "sign"]
theorem sc_Clause_read : FnScope N_Clause_read ["cls", "text"] (defScope S_Clause_read) := ⟨rfl, rfl, rfl, by decide +kernel, rfl, by decide +kernel, by decide +kernel⟩
abbrev N_Change_read : List Str := ["cls", "text", "parts", "found", "at", "part"]
theorem sc_Change_read : FnScope N_Change_read ["cls", "text"] (defScope S_Change_read) := ⟨rfl, rfl, rfl, by decide +kernel, rfl, by decide +kernel, by decide +kernel⟩
abbrev N_Entry_DinitD : List Str := ["self", "mode", "owner", "group", "__class__", "name"]
theorem nd_Entry_DinitD : N_Entry_DinitD.Nodup := by decide +kernel
abbrev N_Folder_DinitD : List Str := ["self", "mode", "owner", "group", "children", "__class__", "names", "name"]
theorem nd_Folder_DinitD : N_Folder_DinitD.Nodup := by decide +kernel
structure Ad where
  Mode : Addr
  Entry : Addr
  Holder : Addr
  File : Addr
  Folder : Addr
  Tree : Addr
  Passage : Addr
  Clause : Addr
  Change : Addr
  User : Addr
  Chief : Addr
  Command : Addr
  Row : Addr
  d_PLACES_modes : Addr
  d_BITS : Addr
  d_SHIFTS : Addr
  t_PC : Addr
/-- what stands still -/
structure Tx (K : PySem.W.Frag) (mg : Str → Option Value) (w : World) (A : Ad) : Prop where
  b_isinstance : mg "isinstance" = none
  b_len : mg "len" = none
  b_all : mg "all" = none
  b_sum : mg "sum" = none
  b_sorted : mg "sorted" = none
  b_abs : mg "abs" = none
  b_str : mg "str" = none
  b_int : mg "int" = none
  b_bool : mg "bool" = none
  b_tuple : mg "tuple" = none
  b_list : mg "list" = none
  b_range : mg "range" = none
  b_enumerate : mg "enumerate" = none
  b_zip : mg "zip" = none
  b_super : mg "super" = none
  k_LETTERS_names : Kn mg "LETTERS_names" (.str "abcdefghijklmnopqrstuvwxyz")
  k_LONGEST_NAME : Kn mg "LONGEST_NAME" (.int 8)
  k_GREATEST : Kn mg "GREATEST" (.int 511)
  k_MOST_ENTRIES : Kn mg "MOST_ENTRIES" (.int 60)
  k_CLASSES : Kn mg "CLASSES" (.str "ugo")
  k_SIGNS_changes : Kn mg "SIGNS_changes" (.str "+-=")
  k_LETTERS_changes : Kn mg "LETTERS_changes" (.str "rwxX")
  k_MOST_CLAUSES : Kn mg "MOST_CLAUSES" (.int 8)
  k_MOST_GROUPS : Kn mg "MOST_GROUPS" (.int 2)
  k_SEARCH : Kn mg "SEARCH" (.int 1)
  k_LISTING : Kn mg "LISTING" (.int 5)
  k_MOST_COMMANDS : Kn mg "MOST_COMMANDS" (.int 10)
  k_LONGEST_START : Kn mg "LONGEST_START" (.int 3)
  k_PLACES_modes : Kn mg "PLACES_modes" (.ref A.d_PLACES_modes)
  d_PLACES_modes : ∃ es n, KDict K w A.d_PLACES_modes es n
  e_PLACES_modes_r : ∃ u, PySem.W.nsIn K A.d_PLACES_modes "r" = some (some u) ∧ RelV (.int 2) u
  e_PLACES_modes_w : ∃ u, PySem.W.nsIn K A.d_PLACES_modes "w" = some (some u) ∧ RelV (.int 1) u
  e_PLACES_modes_x : ∃ u, PySem.W.nsIn K A.d_PLACES_modes "x" = some (some u) ∧ RelV (.int 0) u
  k_BITS : Kn mg "BITS" (.ref A.d_BITS)
  d_BITS : ∃ es n, KDict K w A.d_BITS es n
  e_BITS_u : ∃ u, PySem.W.nsIn K A.d_BITS "u" = some (some u) ∧ RelV (.int 4) u
  e_BITS_g : ∃ u, PySem.W.nsIn K A.d_BITS "g" = some (some u) ∧ RelV (.int 2) u
  e_BITS_o : ∃ u, PySem.W.nsIn K A.d_BITS "o" = some (some u) ∧ RelV (.int 1) u
  k_SHIFTS : Kn mg "SHIFTS" (.ref A.d_SHIFTS)
  d_SHIFTS : ∃ es n, KDict K w A.d_SHIFTS es n
  e_SHIFTS_owner : ∃ u, PySem.W.nsIn K A.d_SHIFTS "owner" = some (some u) ∧ RelV (.int 6) u
  e_SHIFTS_group : ∃ u, PySem.W.nsIn K A.d_SHIFTS "group" = some (some u) ∧ RelV (.int 3) u
  e_SHIFTS_others : ∃ u, PySem.W.nsIn K A.d_SHIFTS "others" = some (some u) ∧ RelV (.int 0) u
  z_BITS : ∀ z ∈ (["r", "x", "rx", "rwx", "w", "X", "rX", "rwX", ""] : List Str), PySem.W.nsIn K A.d_BITS z = some none
  k_Mode : Kn mg "Mode" (.ref A.Mode)
  k_Entry : Kn mg "Entry" (.ref A.Entry)
  k_Holder : Kn mg "Holder" (.ref A.Holder)
  k_File : Kn mg "File" (.ref A.File)
  k_Folder : Kn mg "Folder" (.ref A.Folder)
  k_Tree : Kn mg "Tree" (.ref A.Tree)
  k_Passage : Kn mg "Passage" (.ref A.Passage)
  k_Clause : Kn mg "Clause" (.ref A.Clause)
  k_Change : Kn mg "Change" (.ref A.Change)
  k_User : Kn mg "User" (.ref A.User)
  k_Chief : Kn mg "Chief" (.ref A.Chief)
  k_Command : Kn mg "Command" (.ref A.Command)
  k_Row : Kn mg "Row" (.ref A.Row)
  f_is_name : DefAt K mg "is_name" S_is_name
  f_is_integer : DefAt K mg "is_integer" S_is_integer
  f_is_path : DefAt K mg "is_path" S_is_path
  f_names_of : DefAt K mg "names_of" S_names_of
  f_number_of : DefAt K mg "number_of" S_number_of
  f_place_of : DefAt K mg "place_of" S_place_of
  f_pattern_bits : DefAt K mg "pattern_bits" S_pattern_bits
  f_size_of : DefAt K mg "size_of" S_size_of
  f_copied : DefAt K mg "copied" S_copied
  f_found_below : DefAt K mg "found_below" S_found_below
  f_joined : DefAt K mg "joined" S_joined
  f_commands_of : DefAt K mg "commands_of" S_commands_of
  f_wrong_index : DefAt K mg "wrong_index" S_wrong_index
  f_need_stand : DefAt K mg "need_stand" S_need_stand
  f_word_in : DefAt K mg "word_in" S_word_in
  f_stand_below : DefAt K mg "stand_below" S_stand_below
  f_made_step : DefAt K mg "made_step" S_made_step
  f_stand_of : DefAt K mg "stand_of" S_stand_of
  f_is_some : DefAt K mg "is_some" S_is_some
  f_is_who : DefAt K mg "is_who" S_is_who
  f_is_what : DefAt K mg "is_what" S_is_what
  f_need_groups : DefAt K mg "need_groups" S_need_groups
  f_commands_in : DefAt K mg "commands_in" S_commands_in
  f_joined_row : DefAt K mg "joined_row" S_joined_row
  f__law_pen : DefAt K mg "_law_pen" S__law_pen
  f__law_draw : DefAt K mg "_law_draw" S__law_draw
  f__law_pick : DefAt K mg "_law_pick" S__law_pick
  f__law_words : DefAt K mg "_law_words" S__law_words
  f__law_world : DefAt K mg "_law_world" S__law_world
  f__law_drawn_mode : DefAt K mg "_law_drawn_mode" S__law_drawn_mode
  f__law_clauses : DefAt K mg "_law_clauses" S__law_clauses
  f__law_deed : DefAt K mg "_law_deed" S__law_deed
  f__law_joined : DefAt K mg "_law_joined" S__law_joined
  f__law_at : DefAt K mg "_law_at" S__law_at
  f__law_grown : DefAt K mg "_law_grown" S__law_grown
  f__law_user_so : DefAt K mg "_law_user_so" S__law_user_so
  f__law_row_so : DefAt K mg "_law_row_so" S__law_row_so
  f__law_tree_so : DefAt K mg "_law_tree_so" S__law_tree_so
  f__law_hall : DefAt K mg "_law_hall" S__law_hall
  f__law_alone_right : DefAt K mg "_law_alone_right" S__law_alone_right
  f__law_more_right : DefAt K mg "_law_more_right" S__law_more_right
  f_law : DefAt K mg "law" S_law
  ob : Obc K
  o_Mode : OwnC K A.Mode
  o_File : OwnC K A.File
  o_Folder : OwnC K A.Folder
  o_Tree : OwnC K A.Tree
  o_Passage : OwnC K A.Passage
  o_Clause : OwnC K A.Clause
  o_Change : OwnC K A.Change
  o_User : OwnC K A.User
  o_Chief : OwnC K A.Chief
  o_Command : OwnC K A.Command
  o_Row : OwnC K A.Row
  n_Mode_bits : NoAttr K A.Mode "bits"
  n_File_mode_now : NoAttr K A.File "mode_now"
  n_File_own_owner : NoAttr K A.File "own_owner"
  n_File_own_group : NoAttr K A.File "own_group"
  n_Folder_mode_now : NoAttr K A.Folder "mode_now"
  n_Folder_own_owner : NoAttr K A.Folder "own_owner"
  n_Folder_own_group : NoAttr K A.Folder "own_group"
  n_Folder_below : NoAttr K A.Folder "below"
  n_Tree_top : NoAttr K A.Tree "top"
  n_Passage_word : NoAttr K A.Passage "word"
  n_Passage_row_here : NoAttr K A.Passage "row_here"
  n_Passage_stand_here : NoAttr K A.Passage "stand_here"
  n_Passage_made : NoAttr K A.Passage "made"
  n_Passage_last_number : NoAttr K A.Passage "last_number"
  n_Clause_own_parts : NoAttr K A.Clause "own_parts"
  n_Clause_own_bits : NoAttr K A.Clause "own_bits"
  n_Change_own_clauses : NoAttr K A.Change "own_clauses"
  n_Change_own_rows : NoAttr K A.Change "own_rows"
  n_User_name : NoAttr K A.User "name"
  n_User_own_groups : NoAttr K A.User "own_groups"
  n_Chief_name : NoAttr K A.Chief "name"
  n_Chief_own_groups : NoAttr K A.Chief "own_groups"
  n_Command_facts : NoAttr K A.Command "facts"
  n_Row_parts_told : NoAttr K A.Row "parts_told"
  p_Mode_number : PropAt K A.Mode "number" "Mode.number" S_Mode_number
  p_File_mode : PropAt K A.File "mode" "Entry.mode" S_Entry_mode
  p_File_owner : PropAt K A.File "owner" "Entry.owner" S_Entry_owner
  p_File_group : PropAt K A.File "group" "Entry.group" S_Entry_group
  p_Folder_mode : PropAt K A.Folder "mode" "Entry.mode" S_Entry_mode
  p_Folder_owner : PropAt K A.Folder "owner" "Entry.owner" S_Entry_owner
  p_Folder_group : PropAt K A.Folder "group" "Entry.group" S_Entry_group
  p_Clause_sign : PropAt K A.Clause "sign" "Clause.sign" S_Clause_sign
  p_Clause_what : PropAt K A.Clause "what" "Clause.what" S_Clause_what
  p_Command_user : PropAt K A.Command "user" "Command.user" S_Command_user
  p_Command_change : PropAt K A.Command "change" "Command.change" S_Command_change
  p_Command_order : PropAt K A.Command "order" "Command.order" S_Command_order
  p_Command_kinds : PropAt K A.Command "kinds" "Command.kinds" S_Command_kinds
  p_Command_start : PropAt K A.Command "start" "Command.start" S_Command_start
  m_Mode_pattern : MetAt K A.Mode "pattern" "Mode.pattern" S_Mode_pattern
  m_Mode_with_pattern : MetAt K A.Mode "with_pattern" "Mode.with_pattern" S_Mode_with_pattern
  m_Folder_names : MetAt K A.Folder "names" "Holder.names" S_Holder_names
  m_Folder_put : MetAt K A.Folder "put" "Holder.put" S_Holder_put
  m_Tree_entry : MetAt K A.Tree "entry" "Tree.entry" S_Tree_entry
  m_Tree_put : MetAt K A.Tree "put" "Tree.put" S_Tree_put
  m_Tree_copy : MetAt K A.Tree "copy" "Tree.copy" S_Tree_copy
  m_Clause_takes : MetAt K A.Clause "takes" "Clause.takes" S_Clause_takes
  m_Clause_moved : MetAt K A.Clause "moved" "Clause.moved" S_Clause_moved
  m_Change_moved : MetAt K A.Change "moved" "Change.moved" S_Change_moved
  m_Change_three : MetAt K A.Change "three" "Change.three" S_Change_three
  m_User_class_at : MetAt K A.User "class_at" "User.class_at" S_User_class_at
  m_User_bits_at : MetAt K A.User "bits_at" "User.bits_at" S_User_bits_at
  m_Chief_class_at : MetAt K A.Chief "class_at" "User.class_at" S_User_class_at
  m_Chief_bits_at : MetAt K A.Chief "bits_at" "User.bits_at" S_User_bits_at
  m_User_passes : MetAt K A.User "passes" "User.passes" S_User_passes
  m_User_lists : MetAt K A.User "lists" "User.lists" S_User_lists
  m_User_may_change : MetAt K A.User "may_change" "User.may_change" S_User_may_change
  m_Chief_passes : MetAt K A.Chief "passes" "Chief.passes" S_Chief_passes
  m_Chief_lists : MetAt K A.Chief "lists" "Chief.lists" S_Chief_lists
  m_Chief_may_change : MetAt K A.Chief "may_change" "Chief.may_change" S_Chief_may_change
  m_Command_means : MetAt K A.Command "means" "Command.means" S_Command_means
  m_Row_need_index : MetAt K A.Row "need_index" "Row.need_index" S_Row_need_index
  i_Mode : MkAt K A.Mode "Mode.__init__" S_Mode_DinitD
  i_Tree : MkAt K A.Tree "Tree.__init__" S_Tree_DinitD
  i_Passage : MkAt K A.Passage "Passage.__init__" S_Passage_DinitD
  i_Clause : MkAt K A.Clause "Clause.__init__" S_Clause_DinitD
  i_Change : MkAt K A.Change "Change.__init__" S_Change_DinitD
  i_User : MkAt K A.User "User.__init__" S_User_DinitD
  i_Chief : MkAt K A.Chief "User.__init__" S_User_DinitD
  i_Row : MkAt K A.Row "Row.__init__" S_Row_DinitD
  s_Folder_contains : SpcAt K A.Folder "__contains__" "Holder.__contains__" S_Holder_DcontainsD
  s_Folder_getitem : SpcAt K A.Folder "__getitem__" "Holder.__getitem__" S_Holder_DgetitemD
  s_Passage_call : SpcAt K A.Passage "__call__" "Passage.__call__" S_Passage_DcallD
  s_Change_call : SpcAt K A.Change "__call__" "Change.__call__" S_Change_DcallD
  s_Row_getitem : SpcAt K A.Row "__getitem__" "Row.__getitem__" S_Row_DgetitemD
  s_Row_len : SpcAt K A.Row "__len__" "Row.__len__" S_Row_DlenD
  s_Row_add : SpcAt K A.Row "__add__" "Row.__add__" S_Row_DaddD
  c_Clause_read : CmAt K A.Clause "read" "Clause.read" S_Clause_read
  c_Change_read : CmAt K A.Change "read" "Change.read" S_Change_read
  x_BadClause : ∃ u, mg "BadClause" = some u
  k_PLACES_changes : Kn mg "PLACES_changes" (.ref A.t_PC)
  z_PC : ∃ p0 p1 p2 p3, (∀ H, SqT K H A.t_PC [.ref p0, .ref p1, .ref p2, .ref p3]) ∧ (∀ H, SqT K H p0 [.str "r", .str "file"]) ∧ (∀ H, SqT K H p1 [.str "w", .str "file"]) ∧ (∀ H, SqT K H p2 [.str "x", .str "file"]) ∧ (∀ H, SqT K H p3 [.str "x", .str "folder"])
  t_Mode_Mode : PySem.W.kitOne K (.ref A.Mode) (.ref A.Mode) = some true
  t_Folder_Holder : PySem.W.kitOne K (.ref A.Folder) (.ref A.Holder) = some true
  t_File_Holder : PySem.W.kitOne K (.ref A.File) (.ref A.Holder) = some false
  t_Clause_Clause : PySem.W.kitOne K (.ref A.Clause) (.ref A.Clause) = some true
  t_User_User : PySem.W.kitOne K (.ref A.User) (.ref A.User) = some true
  t_Chief_User : PySem.W.kitOne K (.ref A.Chief) (.ref A.User) = some true
  t_Change_Change : PySem.W.kitOne K (.ref A.Change) (.ref A.Change) = some true
  t_Row_Row : PySem.W.kitOne K (.ref A.Row) (.ref A.Row) = some true
  t_Command_Row : PySem.W.kitOne K (.ref A.Command) (.ref A.Row) = some false
  t_int_Mode : PySem.W.kitOne K (.type "int") (.ref A.Mode) = some false
end Md
/-! Md, part 11: super().__init__() that comes to object's own. -/
namespace PySem
namespace MdO
abbrev bwo (x : Addr) : Obj := { cls := .type "method-wrapper", dict := none, data := .fields #[.builtin "object.__init__", .ref x], slots := #[] }
theorem type_oi : typeOf (.builtin "object.__init__") = pure (.type "wrapper_descriptor") := by show builtinType _ = _; rw [builtinType_eq_fast]; kernel_rfl
theorem cbc_o (x : Addr) : checkBoundCall "object.__init__" ⟨[.ref x], []⟩ = pure () := by kernel_rfl
theorem nac_o : (kfb_private% "nameAndClass") (Value.builtin "object.__init__") = (pure (("__init__" : Str), Value.type "object") : Sem (Str × Value)) := by kernel_rfl
section
open PySem.W
variable {prog : Program} {w : World} {M : Model} {A : Around} {E : Value → Shared → Prop} {h : Heap} {g : Array GenState} {d : Drawn} {t : Nat} {os : OsState}
theorem run_wdo {x C : Addr} {P : Fin → Shared → Prop} (hin : W.Looks M h (isInstance (.ref x) (.type "object")) true) (hq : P (.done (.ret (.ref h.objs.size))) ⟨h.push (bwo x), g, d, t, os⟩) :
    wpAny M A (Builtin.«wrapper_descriptor.__get__» ⟨[.builtin "object.__init__", .ref x, .ref C], []⟩) P E ⟨h, g, d, t, os⟩ := by
  unfold Builtin.«wrapper_descriptor.__get__»
  refine wpAny_bind (wpAny_of_eq (a := (.builtin "object.__init__", some (.ref x), some (.ref C))) (by first | rfl | kernel_rfl) ?_)
  show wpAny M A ((kfb_private% "checkInstance") (.builtin "object.__init__") (.ref x) >>= fun _ => newFields "method-wrapper" [.builtin "object.__init__", .ref x] >>= fun r => ret r) P E _
  refine wpAny_bind ?_
  show wpAny M A ((kfb_private% "nameAndClass") (.builtin "object.__init__") >>= _) _ E _
  refine wpAny_bind (wpAny_of_eq nac_o ?_)
  show wpAny M A (isInstance (.ref x) (.type "object") >>= _) _ E _
  refine wpAny_bind (hin.at ?_)
  refine KFB.if_not rfl ?_
  refine wpAny_pure ?_
  exact wpAny_bind (wpAny_newObj_type (wpAny_pure hq))
theorem super_gao {so D x C : Addr} {l₀ l : List Value} {K : Frag} {name : Str} {tk : Tok} {Q : Fin → Shared → Prop}
    (hso : h.get? so = some { cls := .type "super", dict := none, data := .fields #[.ref D, .ref x, .ref C], slots := #[] }) (hno : W.Looks (model prog w) h (opaqueClassAbove (.ref C)) none)
    (hC : W.Looks (model prog w) h (mroOf (.ref C)) l₀) (hl : (l₀.dropWhile (· != .ref D)).drop 1 = l) (X : K.In h)
    (hf : alongIn K name l = some (some (.builtin "object.__init__"))) (hxC : x ≠ C) (hn : (name == ("__class__" : Str)) = false) (hin : W.Looks (model prog w) h (isInstance (.ref x) (.type "object")) true)
    (hq : Q (.done (.ret (.ref h.objs.size))) ⟨h.push (bwo x), g, d, t, os⟩) :
    wpAny (model prog w) A (Builtin.«super.__getattribute__» ⟨[.ref so, .str name tk], []⟩) Q E ⟨h, g, d, t, os⟩ := by
  have hlk := ESX.slot_wd.lookup
  have hne : (Value.ref x == Value.ref C) = false := by simp [hxC]
  have hTf := type_oi
  have hTi : Shared.TypeIs ⟨h, g, d, t, os⟩ (.builtin "object.__init__") "wrapper_descriptor" := type_oi
  have hdt : ({ cls := .type "super", dict := none, data := .fields #[.ref D, .ref x, .ref C], slots := #[] } : Obj).data = .fields #[.ref D, .ref x, .ref C] := rfl
  have f0 : (#[.ref D, .ref x, .ref C] : Array Value)[0]? = some (.ref D) := rfl
  have f1 : (#[.ref D, .ref x, .ref C] : Array Value)[1]? = some (.ref x) := rfl
  have f2 : (#[.ref D, .ref x, .ref C] : Array Value)[2]? = some (.ref C) := rfl
  unfold Builtin.«super.__getattribute__»
  repeat (first
    | (with_reducible refine wpAny_field hso hdt f0 ?_) | (with_reducible refine wpAny_field hso hdt f1 ?_) | (with_reducible refine wpAny_field hso hdt f2 ?_)
    | (with_reducible refine ks_wpAny_notOpaque hno ?_)
    | (with_reducible refine Looks.at hC ?_; rw [hl])
    | (refine ks_forIn_along X (fun _ _ => rfl) rfl ?_ hf)
    | (with_reducible refine wpAny_call_entry ESX.slot_wd hTi ESX.entry_wd ?_ (ESX.args_wd _ _ _))
    | (with_reducible refine run_wdo hin ?_)
    | (with_reducible refine ⟨_, rfl, ?_⟩)
    | (simp only [hn, hne, Bool.or_false, Bool.false_eq_true, if_false])
    | wp_step
    | dsimp only)
  all_goals exact hq
theorem getMethod_supero {so D x C : Addr} {l₀ l : List Value} {K : Frag} {name : Str} {pl : Sem Bool} {Q : Value × List Value → Shared → Prop}
    (hso : h.get? so = some { cls := .type "super", dict := none, data := .fields #[.ref D, .ref x, .ref C], slots := #[] }) (hno : W.Looks (model prog w) h (opaqueClassAbove (.ref C)) none)
    (hC : W.Looks (model prog w) h (mroOf (.ref C)) l₀) (hl : (l₀.dropWhile (· != .ref D)).drop 1 = l) (X : K.In h)
    (hf : alongIn K name l = some (some (.builtin "object.__init__"))) (hxC : x ≠ C) (hn : (name == ("__class__" : Str)) = false) (hin : W.Looks (model prog w) h (isInstance (.ref x) (.type "object")) true)
    (hq : Q (.ref h.objs.size, []) ⟨h.push (bwo x), g, d, t + 1, os⟩) :
    wpAny (model prog w) A (getMethod (.ref so) name pl) Q E ⟨h, g, d, t, os⟩ := by
  have hlk := F.ks_slot_super_ga.lookup
  have hcan := F.ks_canon_super_ga
  have hT : ∀ t', (⟨h, g, d, t', os⟩ : Shared).TypeIs (.ref so) "super" := fun _ => ⟨_, hso, rfl⟩
  unfold getMethod
  refine wpAny_bind (wpAny_specialOf (hT _) hlk ?_)
  show wpAny _ _ (if (Manifest.canonical "super.__getattribute__" != "object.__getattribute__") = true then _ else _) _ _ _
  rw [if_pos hcan]
  unfold getAttr getAttrBy
  refine wpAny_bind (wpAny_bind (wpAny_mkText (wpAny_holding (wpAny_bind (wpAny_typeOf (hT _) (wpAny_bind (wpAny_of_eq hlk ?_)))))))
  show wpAny _ _ (getAttrByItsOwn (.ref so) (.str name t) (.type "super") (.builtin "super.__getattribute__") true false) _ _ _
  unfold getAttrByItsOwn hookBefore callGetattribute boundAndCalled
  refine wpAny_bind (wpAny_of_eq (show (if onTheHeap (.type "super") then typeLookup (.type "super") "__getattr__" else pure none) = pure none from rfl) ?_)
  refine wpAny_bind (wpAny_attempt (wpAny_holding ?_))
  show wpAny _ _ (bindSpecial (.builtin "super.__getattribute__") (.ref so) >>= _) _ _ _
  refine wpAny_bind (wpAny_of_eq (F.ks_slot_super_ga.bind _) ?_)
  refine wpAny_mono (Q := fun v s' => v = .ref h.objs.size ∧ s' = ⟨h.push (bwo x), g, d, t + 1, os⟩) (E := fun _ _ => False)
    (wpAny_call_entry F.ks_slot_super_ga (hT _) F.ks_entry_super_ga (super_gao hso hno hC hl X hf hxC hn hin ⟨_, rfl, rfl, rfl⟩) (F.ks_gaArgs_super _ _)) (fun v s' hv => ?_) fun _ _ z => z.elim
  obtain ⟨rfl, rfl⟩ := hv
  exact wpAny_pure (wpAny_pure hq)
end
section
open PySem.W PySem.Calls PyProof.Rows
variable {prog : Program} {w : World} {M : Model} {A : Around} {E : Value → Shared → Prop} {s : Shared}
theorem callWith_bwo {pos : Pos} {u x : Addr} {first : List Value} {Q : Value → Shared → Prop}
    (ho : s.heap.get? u = some (bwo x)) (h : wpAny M A (call (.ref u) (first ++ [])) Q E s) : wpAny M A (callWith pos (.ref u) first [] []) Q E s := by
  unfold callWith
  refine wpAny_bind (wpAny_holding ?_)
  refine PySem.evalArgs_none (wpAny_bind (wpAny_standAt ?_))
  simp only [List.any_nil, Bool.or_false]
  refine wpAny_bind (m := keeperOf (.ref u)) ?_
  unfold keeperOf
  refine wpAny_bind (wpAny_load ho ?_)
  simp only [bwo, show (Value.type "method-wrapper" != Value.type "method") = true by decide, show (Value.type "method-wrapper" == Value.type "builtin_function_or_method" || Value.type "method-wrapper" == Value.type "method-wrapper") = true by decide, if_true]
  refine wpAny_pure ?_
  exact wpAny_bind (wpAny_mono h (fun r s₂ hr => wpAny_bind (wpAny_holding (wpAny_point (wpAny_pure hr)))) fun _ _ x => x)
end
section
variable {prog : Program} {w : World} {A : Around} {E : Value → Shared → Prop} {h : Heap} {g : Array GenState} {d : Drawn} {t : Nat} {os : OsState}
theorem call_bwo {K : W.Frag} {u x C : Addr} {ox : Obj} {od : Option Obj} {Q : Value → Shared → Prop} (X : K.In h) (I : W.InstAt h x ox C od) (hu : h.get? u = some (bwo x)) (hc : (W.clsIn K C).isSome = true) (hq : Q .none ⟨h, g, d, t, os⟩) :
    wpAny (model prog w) A (call (.ref u) []) Q E ⟨h, g, d, t, os⟩ := by
  refine wpAny_call (codeAny_of_tree ?_)
  show wpAny _ A.in1 (callAny (.ref u) ⟨[], []⟩) _ _ _
  simp only [callAny]
  refine wpAny_bind (wpAny_load hu ?_)
  simp only [bwo, show (Value.type "method-wrapper" == Value.type "method" || Value.type "method-wrapper" == Value.type "builtin_function_or_method" || Value.type "method-wrapper" == Value.type "method-wrapper") = true by decide, if_true]
  refine W.KFB.if_so (by decide) ?_
  refine wpAny_bind (wpAny_of_eq (cbc_o x) ?_)
  refine wpAny_bind (wpAny_pure (wpAny_pure ?_))
  refine ⟨Code.quiet_builtin _ (by decide +kernel), codeAny_builtin F.entry_object_init ?_⟩
  show wpAny _ _ (Builtin.«object.__init__» ⟨[.ref x], []⟩) _ _ _
  unfold Builtin.«object.__init__»
  wp_walk
  exact hq
end
end MdO
end PySem
/-! Md, part 12: defs that begin by super().__init__(..). -/
namespace Md
open PySem PySem.Spec PyProof.Rows L2 PySem.W

/-- what stands of a def with the cell of its class -/
structure SupF (P : Program) (K : Frag) (mg : Str → Option Value) (f cc c D : Addr) (qual : Str) (fd : FuncData) : Prop where
  lk : ∃ oc od osl, K.lookup f = some ⟨oc, od, .func fd, osl⟩
  code : ∃ ccl cdd vs ccs file tf, K.lookup c = some ⟨ccl, cdd, .fields vs, ccs⟩ ∧ vs[2]? = some (.str file tf) ∧ ((P.main.file : Str) == file) = true
  cell : ∃ cl cld csl, K.lookup cc = some ⟨cl, cld, .cell (some (.ref D)), csl⟩
  clsD : ∃ cdD, clsIn K D = some cdD
  rec_ : codeIn K (.ref c) qual = true
  sup : mg "super" = none
  top : (P.main.scope.names.lookup ("super" : Str)).isSome = false
  opq : nsIn K cStatics "thirdparty.any" = some none
/-- what super().__init__ of an instance of C, in a def of the class D, is -/
inductive SupTo (K : Frag) (Γ : Gm) (n : Nat) (C D : Addr) : Sp → Prop where
  | own {f2 k : Nat} {sp : Sp} (sub : mroIn K C (.ref D) = some true) (at_ : ks_superIn K C D "__init__" = some (some (.ref f2))) (ty : typeIn K (.ref f2) = some (.type "function")) (fi : fnIn K f2 = true) (g : Γ f2 k sp) (h : k ≤ n) : SupTo K Γ n C D sp
  | obj (sub : mroIn K C (.ref D) = some true) (at_ : ks_superIn K C D "__init__" = some (some (.builtin "object.__init__"))) (ob : mroIn K C (.type "object") = some true) : SupTo K Γ n C D (fun vs H Q _ => ∃ a, vs = [.ref a] ∧ Q .non H)
theorem SupTo.sub {K : Frag} {Γ : Gm} {n : Nat} {C D : Addr} {sp : Sp} (h : SupTo K Γ n C D sp) : mroIn K C (.ref D) = some true := by
  cases h with
  | own sub => exact sub
  | obj sub => exact sub
/-- the env of such a def -/
structure SupE (X : Cx) (f cc c : Addr) (slf : Str) : Prop where
  hk : X.env.scope.kind = .function
  hs : X.env.scope.names.lookup ("super" : Str) = some .globalImplicit
  hc : X.env.scope.names.lookup ("__class__" : Str) = some .free
  fu : X.env.func = some f
  co : X.env.code = .ref c
  ce : X.env.cells.lookup ("__class__" : Str) = some cc
  n0 : X.N[0]? = some slf
  l0 : X.env.scope.names.lookup slf = some .local
section
variable {X : Cx} {K : Frag} {mg : Str → Option Value} {Γ : Gm} {n : Nat} {pins : List (Addr × Obj)} {σ : L2.St} {H : Hp} {s : Shared} {f cc c D a C dx : Addr} {qual : Str} {fd : FuncData} {fs : List (Str × V)} {slf : Str} {ar : Arg}
theorem clsIn_of {h : Heap} {D : Addr} {cd : ClassData} (X : K.In h) (e : clsIn K D = some cd) : ∃ oD, h.get? D = some oD ∧ oD.data = .cls cd := by
  unfold clsIn at e
  split at e
  · rename_i c d cd' sl ho
    cases e
    exact ⟨_, X _ _ ho, rfl⟩
  · cases e
theorem sup_node {body : List Stmt} {p0 p1 : Pos} {attr : Str} {whole : Sem Value} {E : Value → Shared → Prop} (S : SupF X.prog X.K X.mg f cc c D qual fd) (W : SupE X f cc c slf) (hp : (fd.params.posonlyargs ++ fd.params.args).head? = some ar) (har : ar.arg = slf)
    (I : Inv X pins σ H s) (h0 : σ[0]? = some (some (.ref a))) (ea : H a = some (.ins C dx fs)) (hsub : mroIn X.K C (.ref D) = some true) (hat : (attr == ("__class__" : Str)) = false) :
    _root_.PySem.wpAt (model X.prog X.w) X.A (.func body X.env) (attributeBase (.Call (.Name "super" p0) [] [] p1) attr X.env whole) (fun ov s1 => ∃ so, ov = .ref so ∧ Inv X ((so, ks_superObj D a C) :: pins) σ H s1) E s := by
  have KX := I.kIn
  obtain ⟨oc, od, osl, hf⟩ := S.lk
  obtain ⟨ccl, cdd, vs, ccs, file, tf, hcode, hvs, hfile⟩ := S.code
  obtain ⟨cl, cld, csl, hcell⟩ := S.cell
  obtain ⟨cdD, hD⟩ := S.clsD
  obtain ⟨oD, hD1, hD2⟩ := clsIn_of KX hD
  obtain ⟨mA, O, _⟩ := ins_get I.hok ea
  obtain ⟨od', J, _⟩ := O.look
  obtain ⟨mb, hb1, hb2⟩ := I.mod.blt
  obtain ⟨m, hn, hl⟩ := I.loc
  subst har
  obtain ⟨u, ru, lk⟩ := hl 0 ar.arg (.ref a) W.n0 h0 (.inl W.l0)
  cases ru
  have hm : m ar.arg = some (.ref a) := by
    rcases lk with ⟨_, hm⟩ | ⟨hk, _⟩
    · exact hm
    · rcases hk with hk | hk
      · exact absurd (W.l0.symm.trans hk) (by intro z; cases z)
      · exact absurd (W.l0.symm.trans hk) (by intro z; cases z)
  refine ks_wpAt_super_base (env := X.env) W.hs W.hc hat W.fu (KX _ _ hf) rfl hp W.co (KX _ _ hcode) rfl hvs hfile S.top ?_
  refine ks_loadName_global W.hk W.hs (Calls.loadGlobal_builtin (by rw [I.ok.glob]; exact I.mod.glob.keeps I.bk) S.sup (by rw [I.ok.blt]; exact hb1.keeps I.bk) ((hb2 _ (by decide +kernel)).trans (by decide +kernel : bootBuiltins ("super" : Str) = some (.type "super"))) ⟨rfl, ?_⟩)
  refine wpAny_loadName_free W.hk W.hc W.ce ⟨_, KX _ _ hcell, rfl⟩ ?_
  refine wpAny_loadName_local W.hk W.l0 hn hm ?_
  refine ks_wpAny_isType_cls hD1 hD2 ⟨rfl, ?_⟩
  refine ks_wpAny_call_super hD1 hD2 J.at_ J.cls (fun c e => ?_) (looks_mroIn KX hsub) (fun h' e k => ?_)
  · have := J.no
    unfold notCls at this
    rw [e] at this
    exact Bool.noConfusion this
  · exact ⟨_, rfl, ClX.pin_new (t' := s.toks) I k (Nat.le_refl _) e (fun v z => nomatch z)⟩
theorem pin_old {p q : Addr × Obj} (I : Inv X (p :: q :: pins) σ H s) : s.heap.get? q.1 = some q.2 := (I.pin q (List.mem_append_right _ (List.mem_cons_of_mem _ List.mem_cons_self))).1
/-- super().__init__(e, ..) -/
theorem sup_stmtN {body : List Stmt} {p0 p1 apos pos pos2 : Pos} {e : Expr} {es : List Expr} {ta : TA} {nx : L2.St → Hp → Prop} {Dn : Ends} (c0 : Cok X K mg Γ n) (S : SupF X.prog X.K X.mg f cc c D qual fd) (W : SupE X f cc c slf) (hp : (fd.params.posonlyargs ++ fd.params.args).head? = some ar) (har : ar.arg = slf)
    (I : Inv X pins σ H s) (h0 : σ[0]? = some (some (.ref a))) (ea : H a = some (.ins C dx fs)) {f2 k : Nat} {sp : Sp} (sub : mroIn X.K C (.ref D) = some true) (at_ : ks_superIn X.K C D "__init__" = some (some (.ref f2))) (ty : typeIn X.K (.ref f2) = some (.type "function")) (fi : fnIn X.K f2 = true) (gm : Γ f2 k sp) (hn : k ≤ n)
    (ha : PA X (e :: es) ta) (h : ta σ H fun vs H1 => sp (.ref a :: vs) H1 (fun _ H2 => nx σ H2) E0)
    (hs : swapsWith (.Call (.Attribute (.Call (.Name "super" p0) [] [] p1) "__init__" apos) (e :: es) [] pos) none pos2.line X.env = pure false := by rfl)
    (hst : starEach (e :: es) X.env = (false, eval e X.env) :: starEach es X.env := by rfl) (hpl : (backTo pos (starEach es X.env)).any (·.1) = false := by rfl) {pl : Sem Bool}
    (he : eval (.Call (.Attribute (.Call (.Name "super" p0) [] [] p1) "__init__" apos) (e :: es) [] pos) X.env = (do
      let ov ← attributeBase (.Call (.Name "super" p0) [] [] p1) "__init__" X.env (eval (.Call (.Name "super" p0) [] [] p1) X.env)
      standAt apos.atName
      let (f, first) ← holding [ov] (getMethod ov "__init__" pl)
      callWith pos f first (backTo pos (starEach (e :: es) X.env)) []) := by rfl) :
    _root_.PySem.wpAt (model X.prog X.w) X.A (.func body X.env) (exec (.Expr (.Call (.Attribute (.Call (.Name "super" p0) [] [] p1) "__init__" apos) (e :: es) [] pos) pos2) X.env) (fun fl s' => fl = .next ∧ ∃ H', Inv X pins σ H' s' ∧ nx σ H') X.xe s := by
  refine ks_wpAt_Expr_any ?_ I.quiet hs
  refine ks_wpAt_MethodCall (pl := pl) ?_ he
  refine _root_.PySem.wpAt_mono (sup_node S W hp har I h0 ea sub (by decide)) (fun ov s1 ⟨so, eov, I1⟩ => ?_) fun _ _ z => z
  subst eov
  have KX := I1.kIn
  have hso := ClX.pin_at I1
  obtain ⟨mA, O, _⟩ := ins_get I1.hok ea
  obtain ⟨od', J, _⟩ := O.look
  cases hc : clsIn X.K C with
  | none => unfold ks_superIn at at_; rw [hc] at at_; cases at_
  | some cd =>
    unfold ks_superIn at at_
    rw [hc] at at_
    obtain ⟨of, hof, hofc⟩ : ∃ of, s1.heap.get? f2 = some of ∧ of.cls = .type "function" := by
      have ht' : (X.K.lookup f2).map (·.cls) = some (.type "function") := ty
      cases z : X.K.lookup f2 with
      | none => rw [z] at ht'; cases ht'
      | some of => rw [z] at ht'; exact ⟨of, KX _ _ z, Option.some.inj ht'⟩
    obtain ⟨hh, g, d, t, os⟩ := s1
    refine ks_wpAny_getMethod_super hso (looks_opaque KX S.opq) (l₀ := cd.mro) (fun A Q E s k q => wpAny_bind ((looks_clsIn KX hc) A _ E s k (wpAny_pure q))) rfl KX at_ hof hofc (ks_ne KX J hc) (by decide) ?_
    have I2 : Inv X ((hh.objs.size, methodObj (.ref f2) (.ref a)) :: (so, ks_superObj D a C) :: pins) σ H ⟨hh.push (methodObj (.ref f2) (.ref a)), g, d, t + 1, os⟩ :=
      ClX.pin_new (t' := t + 1) I1 (fun _ _ z => Heap.get?_push_of_some _ z) (Nat.le_refl _) (Heap.get?_push_size hh rfl) (fun v z => nomatch z)
    refine wpAny_mono (ClX.callwith_cm (Q := EP X pins σ (fun _ H2 => nx σ H2)) I2 (ClX.base_none I1 (Nat.le_refl _)) fi (thn (ha.run pos _ _ σ H _ I2 h) fun us s3 ⟨vs, H2, I3, rv, q2⟩ => ⟨⟨ClX.pin_at I3, I3.kIn⟩, ?_⟩) hst hpl) (fun v s' hv => ?_) fun _ _ z => z
    · have z := ClX.run_cm (E := E0) (c0.fn _ _ _ gm) (c0.room.mono hn) (fun _ _ _ _ _ _ _ z => z.elim) I3 rv q2
      exact thn z fun _ _ y => ClX.unpinE y
    · obtain ⟨x, H', I', rx, q⟩ := hv
      exact ⟨rfl, H', I', q⟩
/-- super().__init__() -/
theorem sup_stmt0 {body : List Stmt} {p0 p1 apos pos pos2 : Pos} {nx : L2.St → Hp → Prop} (c0 : Cok X K mg Γ n) (S : SupF X.prog X.K X.mg f cc c D qual fd) (W : SupE X f cc c slf) (hp : (fd.params.posonlyargs ++ fd.params.args).head? = some ar) (har : ar.arg = slf)
    (I : Inv X pins σ H s) (h0 : σ[0]? = some (some (.ref a))) (ea : H a = some (.ins C dx fs)) {sp : Sp} (to : SupTo X.K Γ n C D sp) (h : sp [.ref a] H (fun _ H2 => nx σ H2) E0)
    (hs : swapsWith (.Call (.Attribute (.Call (.Name "super" p0) [] [] p1) "__init__" apos) [] [] pos) none pos2.line X.env = pure false := by rfl) {pl : Sem Bool}
    (he : eval (.Call (.Attribute (.Call (.Name "super" p0) [] [] p1) "__init__" apos) [] [] pos) X.env = (do
      let ov ← attributeBase (.Call (.Name "super" p0) [] [] p1) "__init__" X.env (eval (.Call (.Name "super" p0) [] [] p1) X.env)
      standAt apos.atName
      let (f, first) ← holding [ov] (getMethod ov "__init__" pl)
      callWith pos f first (backTo pos (starEach [] X.env)) []) := by rfl) :
    _root_.PySem.wpAt (model X.prog X.w) X.A (.func body X.env) (exec (.Expr (.Call (.Attribute (.Call (.Name "super" p0) [] [] p1) "__init__" apos) [] [] pos) pos2) X.env) (fun fl s' => fl = .next ∧ ∃ H', Inv X pins σ H' s' ∧ nx σ H') X.xe s := by
  refine ks_wpAt_Expr_any ?_ I.quiet hs
  refine ks_wpAt_MethodCall (pl := pl) ?_ he
  refine _root_.PySem.wpAt_mono (sup_node S W hp har I h0 ea to.sub (by decide)) (fun ov s1 ⟨so, eov, I1⟩ => ?_) fun _ _ z => z
  subst eov
  have KX := I1.kIn
  have hso := ClX.pin_at I1
  obtain ⟨mA, O, _⟩ := ins_get I1.hok ea
  obtain ⟨od', J, _⟩ := O.look
  obtain ⟨hh, g, d, t, os⟩ := s1
  cases to with
  | @own f2 k _ sub at_ ty fi gm hn =>
    cases hc : clsIn X.K C with
    | none => unfold ks_superIn at at_; rw [hc] at at_; cases at_
    | some cd =>
      unfold ks_superIn at at_
      rw [hc] at at_
      obtain ⟨of, hof, hofc⟩ : ∃ of, hh.get? f2 = some of ∧ of.cls = .type "function" := by
        have ht' : (X.K.lookup f2).map (·.cls) = some (.type "function") := ty
        cases z : X.K.lookup f2 with
        | none => rw [z] at ht'; cases ht'
        | some of => rw [z] at ht'; exact ⟨of, KX _ _ z, Option.some.inj ht'⟩
      refine ks_wpAny_getMethod_super hso (looks_opaque KX S.opq) (l₀ := cd.mro) (fun A Q E s k q => wpAny_bind ((looks_clsIn KX hc) A _ E s k (wpAny_pure q))) rfl KX at_ hof hofc (ks_ne KX J hc) (by decide) ?_
      have I2 : Inv X ((hh.objs.size, methodObj (.ref f2) (.ref a)) :: (so, ks_superObj D a C) :: pins) σ H ⟨hh.push (methodObj (.ref f2) (.ref a)), g, d, t + 1, os⟩ :=
        ClX.pin_new (t' := t + 1) I1 (fun _ _ z => Heap.get?_push_of_some _ z) (Nat.le_refl _) (Heap.get?_push_size hh rfl) (fun v z => nomatch z)
      refine wpAny_mono (Q := EP X pins σ (fun _ H2 => nx σ H2)) (PySem.W.callWith_of (P := MethP X.K hh.objs.size f2 (.ref a)) rfl (keeps_M fi) (PySem.evalArgs_none ⟨⟨ClX.pin_at I2, I2.kIn⟩, ?_⟩)) (fun v s' hv => ?_) fun _ _ z => z
      · have z := ClX.run_cm (E := E0) (us := []) (vs := []) (c0.fn _ _ _ gm) (c0.room.mono hn) (fun _ _ _ _ _ _ _ z => z.elim) I2 .nil h
        exact thn z fun _ _ y => ClX.unpinE y
      · obtain ⟨x, H', I', rx, q⟩ := hv
        exact ⟨rfl, H', I', q⟩
  | obj sub at_ ob =>
    obtain ⟨a', ea', hq⟩ := h
    cases hc : clsIn X.K C with
    | none => unfold ks_superIn at at_; rw [hc] at at_; cases at_
    | some cd =>
      unfold ks_superIn at at_
      rw [hc] at at_
      refine MdO.getMethod_supero hso (looks_opaque KX S.opq) (l₀ := cd.mro) (fun A Q E s k q => wpAny_bind ((looks_clsIn KX hc) A _ E s k (wpAny_pure q))) rfl KX at_ (ks_ne KX J hc) (by decide) (J.type.andThen (looks_mroIn KX ob)) ?_
      have I2 : Inv X ((hh.objs.size, MdO.bwo a) :: (so, ks_superObj D a C) :: pins) σ H ⟨hh.push (MdO.bwo a), g, d, t + 1, os⟩ :=
        ClX.pin_new (t' := t + 1) I1 (fun _ _ z => Heap.get?_push_of_some _ z) (Nat.le_refl _) (Heap.get?_push_size hh rfl) (fun v z => nomatch z)
      obtain ⟨mA2, O2, _⟩ := ins_get I2.hok ea
      obtain ⟨od2, J2, _⟩ := O2.look
      exact MdO.callWith_bwo (ClX.pin_at I2) (MdO.call_bwo I2.kIn J2 (ClX.pin_at I2) (by rw [hc]; rfl) ⟨rfl, H, ClX.unpin (ClX.unpin I2), hq⟩)
end
end Md
/-! Md, part 13: such a def, entered. -/
namespace Md
open PySem PySem.Spec PyProof.Rows L2 NdefX
section
variable {P : Program} {w : World} {K : PySem.W.Frag} {mg : Str → Option Value} {base : Heap}
abbrev sF (name qual : Str) (params : Arguments) (body : List Stmt) (scope : Scope) (cc c : Addr) : NF := ⟨name, qual, params, body, scope, [("__class__", cc)], c⟩
abbrev sX (P : Program) (w : World) (K : PySem.W.Frag) (mg : Str → Option Value) (base : Heap) (N : List Str) (F : NF) (f : Addr) (A : Around) (outer : List Env) (s : Shared) (H : Hp) (E : XK) : Cx := (ncx CX0 P w K mg base N F f A outer s H E).nox
theorem one_lookup {x y : Str} {c d : Addr} (h : ([(x, c)] : List (Str × Addr)).lookup y = some d) : y = x ∧ c = d := by
  unfold List.lookup at h
  cases e : y == x with
  | true =>
    rw [e] at h
    exact ⟨eq_of_beq e, Option.some.inj h⟩
  | false =>
    rw [e] at h
    cases h
theorem run_sup {name qual : Str} {params : Arguments} {body : List Stmt} {scope : Scope} {dV kV doc pm ct : Value} {an : Option Addr} {f cc c D : Addr} {N ps : List Str} {k : Nat} {A : Around} {outer : List Env} {s : Shared} {H : Hp} {args : Args} {Q : VK} {E : XK} {G : List V → Hp → Prop}
    (S0 : SupF P K mg f cc c D qual (PySem.W.fnX name qual params body scope [("__class__", cc)] dV kV doc pm an (.ref c) ct)) (S : NScope N ps ["__class__"] scope) (hr : Room (k + 1) A) (e0 : Env0 P w K mg base A outer s H)
    (hb : StX.Bnd CX0 P w K mg base (PySem.W.fnX name qual params body scope [("__class__", cc)] dV kV doc pm an (.ref c) ct) args ps A outer s H E G)
    (hbody : ∀ (s2 : Shared) (H2 : Hp) (vs : List V), G vs H2 → Cok (sX P w K mg base N (sF name qual params body scope cc c) f A outer s2 H2 E) K mg (Fn P w K mg base) k → ∀ s3, Inv (sX P w K mg base N (sF name qual params body scope cc c) f A outer s2 H2 E) [] (startF N vs [none]) H2 s3 →
      _root_.PySem.wpAt (model P w) (sX P w K mg base N (sF name qual params body scope cc c) f A outer s2 H2 E).A (.func body (sX P w K mg base N (sF name qual params body scope cc c) f A outer s2 H2 E).env) (execs body (sX P w K mg base N (sF name qual params body scope cc c) f A outer s2 H2 E).env)
        (SP (sX P w K mg base N (sF name qual params body scope cc c) f A outer s2 H2 E) [] { nx := fun _ H' => Q .non H', rt := Q }) (fun _ _ => False) s3) :
    codeAny (model P w) A (.call (.ref f) args) (CR CX0 outer P w H s Q E) s := by
  have KX : K.In s.heap := e0.mod.kin.keeps fun b o e => (e0.bs b o e).1
  obtain ⟨oc, od, osl, lk⟩ := S0.lk
  obtain ⟨cl, cld, csl, hcell⟩ := S0.cell
  refine codeAny_call_function hr.depth (KX _ _ lk) rfl S.co S.gen rfl (PySem.W.codeRec_of KX S0.rec_) ?_
  refine hb _ _ _ fun s2 H2 vs us e2 un ho hx r hl g => ?_
  have lim : s2.heap.NoLimit := e0.mod.nolimit.keeps fun b o e => (e2.bs b o e).1
  have C : CellsAt [("__class__", cc)] ["__class__"] [none] s2.heap H2 := by
    have hcc := e2.bs _ _ (e0.mod.kin _ _ hcell)
    refine ⟨rfl, fun y d e => ?_, fun x y d e e' => ?_, fun i y e => ?_⟩
    · obtain ⟨_, rfl⟩ := one_lookup e
      exact ⟨hcc.2, _, _, hcc.1, rfl⟩
    · obtain ⟨h1, _⟩ := one_lookup e
      obtain ⟨h2, _⟩ := one_lookup e'
      rw [h1, h2]
    · match i, e with
      | 0, e =>
        cases e
        exact ⟨cc, by simp [List.lookup], fun v z => by cases z⟩
      | _ + 1, e => cases e
  refine wpAny_newFunctionEnv S.nocell (fun ⟨n, _⟩ hy => S.par n (List.of_mem_zip hy).1) (fun h₁ hns hsb => ⟨lim.fresh _ hsb, ?_⟩) S.kind
  have kp : ∀ b o, s2.heap.get? b = some o → h₁.get? b = some o := fun b o e => hsb.extBut b o (Nat.ne_of_lt (Heap.lt_size e)) (Heap.get?_push_of_some _ e)
  have I : Inv (ncx CX0 P w K mg base N (sF name qual params body scope cc c) f A outer s2 H2 E) [] (startF N vs [none]) H2 { s2 with heap := h₁, toks := s2.toks + (ps.zip us).length } :=
    inv_startN S hr.hd e2 hl r C hns kp
  have z := hbody s2 H2 vs g ⟨rfl, rfl, fun _ _ _ h => h, hr.deeper _⟩ _ (I.wish _)
  show codeAny _ _ (.func body (envF (sF name qual params body scope cc c) f s2.heap.objs.size)) _ _
  refine _root_.PySem.ks_codeAny_funcAt (_root_.PySem.wpAt_mono z (fun fl s' hs => ?_) fun _ _ z => z.elim)
  have fin : ∀ {σ' : L2.St} {H' : Hp} {v : V} {u : Value}, Inv (sX P w K mg base N (sF name qual params body scope cc c) f A outer s2 H2 E) [] σ' H' s' → L2.RelV v u → Q v H' → CE outer P w H s Q u s' :=
    fun {σ' H' v u} J rv q => ⟨v, H', J.os.trans ho, J.bare, un.trans J.base, J.hok, rv, q⟩
  cases fl with
  | ret u =>
    obtain ⟨v, σ', H', J, rv, q⟩ := hs
    exact fin J rv q
  | next =>
    obtain ⟨σ', H', J, q⟩ := hs
    exact fin (v := V.non) (u := Value.none) J rfl q
  | brk =>
    obtain ⟨_, _, _, q⟩ := hs
    exact False.elim q
  | cont =>
    obtain ⟨_, _, _, q⟩ := hs
    exact False.elim q
end
section
variable {X : Cx} {K : PySem.W.Frag} {mg : Str → Option Value} {Γ : Gm} {n : Nat} {pins : List (Addr × Obj)} {σ : L2.St} {H : Hp} {s : Shared} {f cc c D a C dx : Addr} {qual : Str} {fd : FuncData} {fs : List (Str × V)} {slf : Str} {ar : Arg}
theorem sup_body0 {body rest : List Stmt} {p0 p1 apos pos pos2 : Pos} {t : TS} {Dn : Ends} (c0 : Cok X K mg Γ n) (S : SupF X.prog X.K X.mg f cc c D qual fd) (W : SupE X f cc c slf) (hp : (fd.params.posonlyargs ++ fd.params.args).head? = some ar) (har : ar.arg = slf)
    (I : Inv X pins σ H s) (h0 : σ[0]? = some (some (.ref a))) (ea : H a = some (.ins C dx fs)) {sp : Sp} (to : SupTo X.K Γ n C D sp) (R : PSs X rest t) (h : sp [.ref a] H (fun _ H2 => t Dn σ H2) E0)
    (hs : swapsWith (.Call (.Attribute (.Call (.Name "super" p0) [] [] p1) "__init__" apos) [] [] pos) none pos2.line X.env = pure false := by rfl) {pl : Sem Bool}
    (he : eval (.Call (.Attribute (.Call (.Name "super" p0) [] [] p1) "__init__" apos) [] [] pos) X.env = (do
      let ov ← attributeBase (.Call (.Name "super" p0) [] [] p1) "__init__" X.env (eval (.Call (.Name "super" p0) [] [] p1) X.env)
      standAt apos.atName
      let (f, first) ← holding [ov] (getMethod ov "__init__" pl)
      callWith pos f first (backTo pos (starEach [] X.env)) []) := by rfl) :
    _root_.PySem.wpAt (model X.prog X.w) X.A (.func body X.env) (execs (.Expr (.Call (.Attribute (.Call (.Name "super" p0) [] [] p1) "__init__" apos) [] [] pos) pos2 :: rest) X.env) (SP X pins Dn) X.xe s := by
  refine _root_.PySem.ks_wpAt_execs_cons (_root_.PySem.wpAt_mono (sup_stmt0 (pl := pl) c0 S W hp har I h0 ea to h hs he) (fun fl s' ⟨efl, H', I', q⟩ => ?_) fun _ _ z => z)
  subst efl
  exact wpAt_of_wpAny (R.run pins s' σ H' Dn I' q)
theorem sup_bodyN {body rest : List Stmt} {p0 p1 apos pos pos2 : Pos} {e : Expr} {es : List Expr} {ta : TA} {t : TS} {Dn : Ends} (c0 : Cok X K mg Γ n) (S : SupF X.prog X.K X.mg f cc c D qual fd) (W : SupE X f cc c slf) (hp : (fd.params.posonlyargs ++ fd.params.args).head? = some ar) (har : ar.arg = slf)
    (I : Inv X pins σ H s) (h0 : σ[0]? = some (some (.ref a))) (ea : H a = some (.ins C dx fs)) {f2 k : Nat} {sp : Sp} (sub : PySem.W.mroIn X.K C (.ref D) = some true) (at_ : PySem.W.ks_superIn X.K C D "__init__" = some (some (.ref f2))) (ty : PySem.W.typeIn X.K (.ref f2) = some (.type "function")) (fi : PySem.W.fnIn X.K f2 = true) (gm : Γ f2 k sp) (hn : k ≤ n)
    (ha : PA X (e :: es) ta) (R : PSs X rest t) (h : ta σ H fun vs H1 => sp (.ref a :: vs) H1 (fun _ H2 => t Dn σ H2) E0)
    (hs : swapsWith (.Call (.Attribute (.Call (.Name "super" p0) [] [] p1) "__init__" apos) (e :: es) [] pos) none pos2.line X.env = pure false := by rfl)
    (hst : starEach (e :: es) X.env = (false, eval e X.env) :: starEach es X.env := by rfl) (hpl : (backTo pos (starEach es X.env)).any (·.1) = false := by rfl) {pl : Sem Bool}
    (he : eval (.Call (.Attribute (.Call (.Name "super" p0) [] [] p1) "__init__" apos) (e :: es) [] pos) X.env = (do
      let ov ← attributeBase (.Call (.Name "super" p0) [] [] p1) "__init__" X.env (eval (.Call (.Name "super" p0) [] [] p1) X.env)
      standAt apos.atName
      let (f, first) ← holding [ov] (getMethod ov "__init__" pl)
      callWith pos f first (backTo pos (starEach (e :: es) X.env)) []) := by rfl) :
    _root_.PySem.wpAt (model X.prog X.w) X.A (.func body X.env) (execs (.Expr (.Call (.Attribute (.Call (.Name "super" p0) [] [] p1) "__init__" apos) (e :: es) [] pos) pos2 :: rest) X.env) (SP X pins Dn) X.xe s := by
  refine _root_.PySem.ks_wpAt_execs_cons (_root_.PySem.wpAt_mono (sup_stmtN (Dn := Dn) (pl := pl) c0 S W hp har I h0 ea sub at_ ty fi gm hn ha h hs hst hpl he) (fun fl s' ⟨efl, H', I', q⟩ => ?_) fun _ _ z => z)
  subst efl
  exact wpAt_of_wpAny (R.run pins s' σ H' Dn I' q)
end
end Md
/-! Md, part 14: what stands of the two defs that ask super. -/
namespace Md
open PySem PySem.Spec PyProof.Rows L2 NdefX
theorem nsc_Entry : NScope N_Entry_DinitD ["self", "mode", "owner", "group"] ["__class__"] (defScope S_Entry_DinitD) := nscope_by (by decide +kernel)
theorem nsc_Folder : NScope N_Folder_DinitD ["self", "mode", "owner", "group", "children"] ["__class__"] (defScope S_Folder_DinitD) := nscope_by (by decide +kernel)
structure Sx (P : Program) (K : PySem.W.Frag) (mg : Str → Option Value) (A : Ad) : Prop where
  ent : ∃ (f cc c : Addr) (kV doc pm ct : Value) (an : Option Addr), SupF P K mg f cc c A.Entry "Entry.__init__" (PySem.W.fnX "__init__" "Entry.__init__" (defArgs S_Entry_DinitD) (defBody S_Entry_DinitD) (defScope S_Entry_DinitD) [("__class__", cc)] .none kV doc pm an (.ref c) ct) ∧
    Mk K A.File f ∧ PySem.W.ks_superIn K A.Folder A.Folder "__init__" = some (some (.ref f)) ∧ PySem.W.typeIn K (.ref f) = some (.type "function") ∧ PySem.W.fnIn K f = true
  fol : ∃ (f cc c : Addr) (kV doc pm ct : Value) (an : Option Addr), SupF P K mg f cc c A.Folder "Folder.__init__" (PySem.W.fnX "__init__" "Folder.__init__" (defArgs S_Folder_DinitD) (defBody S_Folder_DinitD) (defScope S_Folder_DinitD) [("__class__", cc)] .none kV doc pm an (.ref c) ct) ∧ Mk K A.Folder f
  hol : ∃ f fd, PySem.W.ks_superIn K A.Folder A.Entry "__init__" = some (some (.ref f)) ∧ PySem.W.typeIn K (.ref f) = some (.type "function") ∧ PySem.W.fnIn K f = true ∧ Fun K "__init__" "Holder.__init__" S_Holder_DinitD f fd
  obj : PySem.W.ks_superIn K A.File A.Entry "__init__" = some (some (.builtin "object.__init__"))
  m1 : PySem.W.mroIn K A.File (.ref A.Entry) = some true
  m2 : PySem.W.mroIn K A.Folder (.ref A.Entry) = some true
  m3 : PySem.W.mroIn K A.Folder (.ref A.Folder) = some true
end Md
/-! Md, part 16: o + b of two own classes; a class called with keywords; a class's const. -/
namespace Md
open PySem PySem.Spec PyProof.Rows L2
section
open PySem.W
variable {prog : Program} {w : World} {A : Around} {E : Value → Shared → Prop} {s : Shared} {K : Frag} {x C C2 f f2 : Addr} {ox : Obj} {od : Option Obj} {b : Value}
theorem inPy {M : Model} {h : Heap} {nm : String} (X : K.In h) (hs : findIn K (.ref C) (PySem.dunder nm) = some (some (.ref f))) (hr : findIn K (.ref C) (dunderR nm) = some none) : Looks M h (numberSlotInPython (.ref C) nm) true := by
  intro A Q E s k q
  unfold numberSlotInPython
  refine wpAny_bind (looks_findIn X hs A _ E s k ?_)
  show wpAny M A (pure true >>= _) _ _ _
  refine wpAny_bind (wpAny_pure ?_)
  refine wpAny_bind (looks_findIn X hr A _ E s k ?_)
  show wpAny M A (pure false >>= _) _ _ _
  refine wpAny_bind (wpAny_pure ?_)
  exact wpAny_pure q
theorem binop2 {op : Operator} {Q : Value → Shared → Prop} (X : K.In s.heap) (I : InstAt s.heap x ox C od) (hb : Looks (model prog w) s.heap (typeOf b) (.ref C2)) (hne : C ≠ C2) (hc : selfFirst K C = true) (hc2 : selfFirst K C2 = true)
    (hs : findIn K (.ref C) (PySem.dunder op.info.2) = some (some (.ref f))) (hf : isFn K (.ref f) = true) (hs2 : findIn K (.ref C2) (PySem.dunder op.info.2) = some (some (.ref f2))) (hsub : mroIn K C2 (.ref C) = some false)
    (r1 : findIn K (.ref C) (dunderR op.info.2) = some none) (r2 : findIn K (.ref C2) (dunderR op.info.2) = some none)
    (h : wpAny (model prog w) A (call (.ref f) [.ref x, b]) (PySem.W.CmpBack Q) E s) : wpAny (model prog w) A (binaryOp op (.ref x) b) Q E s := by
  obtain ⟨cd, hcd, hm⟩ := any_some hc
  obtain ⟨rest, hm⟩ : ∃ rest, cd.mro = .ref C :: rest := by
    cases q : cd.mro with
    | nil => rw [q] at hm; cases hm
    | cons a r => rw [q] at hm; exact ⟨r, by rw [List.head?_cons] at hm; cases (beq_iff_eq.mp hm); rfl⟩
  obtain ⟨cd2, hcd2, hm2⟩ := any_some hc2
  obtain ⟨rest2, hm2⟩ : ∃ rest, cd2.mro = .ref C2 :: rest := by
    cases q : cd2.mro with
    | nil => rw [q] at hm2; cases hm2
    | cons a r => rw [q] at hm2; exact ⟨r, by rw [List.head?_cons] at hm2; cases (beq_iff_eq.mp hm2); rfl⟩
  have hneb : (Value.ref C == Value.ref C2) = false := by simp [hne]
  unfold binaryOp
  refine wpAny_holding (wpAny_bind ?_)
  unfold binaryOp1
  refine wpAny_bind (I.type.here (wpAny_bind (hb.here (wpAny_bind ((fills_K X hcd hm hs).here ?_)))))
  simp only [hneb, Bool.false_eq_true, if_false]
  refine wpAny_bind ((fills_K X hcd2 hm2 hs2).here ?_)
  simp only [Bool.and_self, if_true]
  refine wpAny_bind ((looks_mroIn X hsub).here ?_)
  rw [if_neg Bool.false_ne_true]
  refine wpAny_bind ((inPy X hs r1).here ?_)
  rw [if_pos (show true = true from rfl)]
  refine wpAny_bind ((inPy X hs2 r2).here ?_)
  rw [if_neg (show ¬ (!true) = true from Bool.false_ne_true)]
  rw [if_pos (show true = true from rfl)]
  refine wpAny_bind (m := tryMethod (.ref x) _ b) ?_
  unfold tryMethod
  refine wpAny_bind (special_fn X I hs (beq_iff_eq.mp hf) (wpAny_mono h (fun v s' hv => ?_) fun _ _ e => e))
  cases v <;> first | exact hv.elim | exact wpAny_pure (wpAny_pure (wpAny_pure hv))
end
/-- o + b of two own classes: o's __add__ answers -/
structure AddF (K : PySem.W.Frag) (C C2 : Addr) : Prop where
  ne : C ≠ C2
  s1 : PySem.W.selfFirst K C = true
  s2 : PySem.W.selfFirst K C2 = true
  a2 : ∃ f2, PySem.W.findIn K (.ref C2) "__add__" = some (some (.ref f2))
  sub : PySem.W.mroIn K C2 (.ref C) = some false
  r1 : PySem.W.findIn K (.ref C) "__radd__" = some none
  r2 : PySem.W.findIn K (.ref C2) "__radd__" = some none
def rAddO (K : PySem.W.Frag) (Γ : Gm) (n : Nat) : R2 := fun x y H Q => ∃ a b C dx fs C2 dx2 fs2 sp, x = .ref a ∧ y = .ref b ∧ H a = some (.ins C dx fs) ∧ H b = some (.ins C2 dx2 fs2) ∧ AddF K C C2 ∧ Cls K C2 ∧ SCal K Γ n C "__add__" sp ∧
  sp [x, y] H (fun v H1 => (∃ p, v = .ref p) ∧ Q v H1) E0
section
variable {X : Cx} {K : PySem.W.Frag} {mg : Str → Option Value} {Γ : Gm} {n : Nat}
theorem op_addO (c : Cok X K mg Γ n) : OpR X (binaryOp .Add) (rAddO K Γ n) := by
  obtain rfl := c.hK
  obtain rfl := c.hm
  intro pins s σ H x y v u Q I rx ry h
  obtain ⟨a, b, C, dx, fs, C2, dx2, fs2, sp, rfl, rfl, ea, eb, F, cl2, ⟨f, k, h1, h2, h3, G, hn⟩, q⟩ := h
  cases rx
  cases ry
  obtain ⟨mA, O, _⟩ := ins_get I.hok ea
  obtain ⟨od, J, _⟩ := O.look
  obtain ⟨mB, O2, _⟩ := ins_get I.hok eb
  obtain ⟨od2, J2, _⟩ := O2.look
  obtain ⟨f2, hf2⟩ := F.a2
  have z0 := run0 (Ex := X.xe) (us := [.ref a, .ref b]) (vs := [.ref a, .ref b]) (c.fn _ _ _ G) (c.room.mono (by omega)) I.env0 I (.cons rfl (.cons rfl .nil)) q
  refine binop2 (op := .Add) I.kIn J J2.type F.ne F.s1 F.s2 h1 h2 hf2 F.sub F.r1 F.r2 (thn z0 fun v s' hv => ?_)
  obtain ⟨z, H1, I1, rz, ⟨p, rfl⟩, q1⟩ := hv
  cases rz
  exact ⟨.ref p, H1, I1, rfl, q1⟩
end
/-! a class called with keywords -/
def KwAt (K : PySem.W.Frag) (C : Addr) (qual : Str) (st : Stmt) (dvs : List V) : Prop := ∃ f fd, Mk K C f ∧ FunD K "__init__" qual (defArgs st) (defBody st) (defScope st) dvs [] f fd
section
variable {P : Program} {w : World} {K : PySem.W.Frag} {mg : Str → Option Value} {base : Heap}
theorem kwok_of {x qual : Str} {st : Stmt} {f : Addr} {fd : FuncData} {N ps : List Str} {dvs : List V} {k : Nat} {sp : Sp} (F : FunD K x qual (defArgs st) (defBody st) (defScope st) dvs [] f fd) (S : FnScope N ps (defScope st))
    (len : ∀ vs H Q E, sp vs H Q E → vs.length = ps.length)
    (hbody : ∀ (f : Addr) (cdv : Value) (A : Around) (outer : List Env) (s : Shared) (H : Hp) (vs : List V) (Q : VK) (E : XK), Cok (bX P w K mg base N qual st f cdv A outer s H E) K mg (Fn P w K mg base) k → sp vs H Q E →
      ∃ t, PSs (bX P w K mg base N qual st f cdv A outer s H E) (defBody st) t ∧ t { nx := fun _ H' => Q .non H', rt := Q } (start N vs) H) : FnOk P w K mg base CX0 (k + 1) f fd ps sp :=
  F.ok S len fun cdv A outer s H vs Q E hr h => by
    obtain ⟨t, h1, q⟩ := hbody f cdv A outer s H vs Q E ⟨rfl, rfl, fun _ _ _ h => h, hr⟩ h
    exact ⟨t, h1.nox, q⟩
end
end Md
/-! Md, part 17: what stands of the commands' class. -/
namespace Md
open PySem PySem.Spec PyProof.Rows L2
structure Ty (K : PySem.W.Frag) (A : Ad) : Prop where
  cmd : KwAt K A.Command "Command.__init__" S_Command_DinitD [.str "first", .str "all", .str ""]
  ord : ∃ t mc u, ClX.CRead K A.Command mc ∧ ClX.CVal K A.Command mc "ORDERS" (.ref t) u ∧ ∀ H, SqT K H t [.str "first", .str "last"]
  kin : ∃ t mc u, ClX.CRead K A.Command mc ∧ ClX.CVal K A.Command mc "KINDS" (.ref t) u ∧ ∀ H, SqT K H t [.str "all", .str "folders", .str "files"]
  add : AddF K A.Row A.Command
theorem cmd_bn {K : PySem.W.Frag} {f : Addr} {fd : FuncData} (F : FunD K "__init__" "Command.__init__" (defArgs S_Command_DinitD) (defBody S_Command_DinitD) (defScope S_Command_DinitD) [.str "first", .str "all", .str ""] [] f fd) :
    ∃ g, KBn K fd ["self", "user", "change", "order", "kinds", "start"] 3 ["order", "kinds", "start"] g (fun vs zs => vs ++ zs) := by
  obtain ⟨its, h⟩ := F.kbindsD (ps := ["self", "user", "change", "order", "kinds", "start"]) 3 ["order", "kinds", "start"] (fun us _ ws => us ++ ws) (by simp) (fun r1 _ r3 => r1.append r3) fun T kV doc pm an cdv ct us its ws l1 l2 l3 =>
    match us, its, ws, l1, l2, l3 with
    | [_, _, _], [_, _, _], [_, _, _], _, _, _ => ⟨_, rfl, rfl⟩
  exact ⟨_, h⟩
end Md
/-! Md, part 20: sorted(xs, key=lambda one: one[0]). -/
namespace Md
open PySem PySem.Spec PyProof.Rows L2
/-- f(v), f a lambda x: x[0], v a list whose first is a text -/
theorem lam0_call {prog : Program} {w : World} {A : Around} {s : Shared} {f c' p : Addr} {qual a : Str} {params : Arguments} {e1 e2 : Expr} {p3 : Pos} {scope : Scope} {pm ctv : Value} {z : Str} {t : Tok} {items : Array Value}
    (h1 : ∃ p1, e1 = .Name a p1) (h2 : ∃ j p2, e2 = .Constant (.int 0) j p2)
    (hf : s.heap.get? f = some (PySem.W.kla_obj "<lambda>" qual params (.Subscript e1 e2 p3) scope [] pm c' ctv)) (hcode : s.heap.CodeRec (.ref c') qual) (lim : s.heap.NoLimit) (room : A.depth < recursionLimit)
    (hbind : ∀ v, bindArgs (PySem.W.kla_fn "<lambda>" qual params (.Subscript e1 e2 p3) scope [] pm (.ref c') ctv) ⟨[v], []⟩ = pure [(a, v)])
    (hloc : scope.names.lookup a = some .local) (hcell : ∀ x ∈ scope.names, x.2 ≠ .cell) (hk : scope.kind = .function) (hco : scope.isCoroutine = false) (hgen : scope.isGenerator = false)
    (hd : (a == ("__debug__" : Str)) = false) (hs : ∀ o i, subscripted e2 false o i = operate [o, i] (getItem o i))
    (hp : s.heap.IsList p items) (hx : items[0]? = some (.str z t)) :
    wpAny (model prog w) A (call (.ref f) [.ref p]) (PySem.W.KeyPure (.str z) s) (fun _ _ => False) s := by
  obtain ⟨p1, rfl⟩ := h1
  obtain ⟨j, p2, rfl⟩ := h2
  refine wpAny_call (PySem.W.kla_callFunE room hf rfl hco hgen rfl hcode ?_)
  rw [hbind]
  refine wpAny_pure (wpAny_newFunctionEnv hcell (fun x hx => ?_) (fun h₁ hns hsb => ⟨lim.fresh _ hsb, ?_⟩) hk)
  · rw [List.mem_singleton.mp hx]
    exact hloc
  show codeAny _ _ (.expr _ (PySem.W.envX qual scope s.heap.objs.size f (.ref c') [])) _ _
  have kp : ∀ b o, s.heap.get? b = some o → h₁.get? b = some o := fun b o e => hsb.extBut b o (Nat.ne_of_lt (Heap.lt_size e)) (Heap.get?_push_of_some _ e)
  have hp1 : h₁.IsList p items := hp.imp fun o q => ⟨kp _ _ q.1, q.2⟩
  refine PySem.W.kla_codeExpr (Subscript_ (wpAny_Name (wpAny_loadName_local hk hloc hns (show List.lookup a [(a, Value.ref p)] = some (.ref p) by simp [List.lookup]) ?_) hd))
  refine wpAny_Constant_int ?_
  refine item_listR hp1 (by decide) (by decide) hx ?_ (hs _ _)
  exact ⟨h₁, _, rfl, kp, .str z t⟩
theorem vals_each : ∀ {ps : List (Addr × Str)} {its : List Value}, Vals (ps.map fun p => V.ref p.1) its → PySem.W.EachIs (fun v (b : Addr × Str) => v = Value.ref b.1) its ps
  | [], _, .nil => .nil
  | _ :: _, _, .cons r h => .cons r (vals_each h)
theorem each_vals : ∀ {ps : List (Addr × Str)} {its : List Value}, PySem.W.EachIs (fun v (b : Addr × Str) => v = Value.ref b.1) its ps → Vals (ps.map fun p => V.ref p.1) its
  | [], _, .nil => .nil
  | _ :: _, _, .cons r h => .cons r (each_vals h)
def srtF (ps : List (Addr × Str)) : List (Addr × Str) := ps.mergeSort (PySem.W.dataLe false fun p => PyData.str p.2)
def rSortL (P : Addr) (q : Str) : V → Hp → VK → Prop := fun x H1 Q => ∃ l, ∃ ps : List (Addr × Str), x = .ref l ∧ H1 l = some (.lst (ps.map fun p => V.ref p.1)) ∧ (∀ p ∈ ps, ∃ r, H1 p.1 = some (.lst (.str p.2 :: r))) ∧ LamX.TabS H1 P q ∧
  ∀ H2 l', LamX.ExtN H1 H2 → LamX.TabS H2 P q → (∀ o, H1 l' = some o → ∃ ps, o = .tbl ps) → H2 l' = some (.lst ((srtF ps).map fun p => V.ref p.1)) → Q (.ref l') H2
def tSortL (P : Addr) (q : Str) (te : TE) : TE := fun σ H Q => te σ H fun x H1 => rSortL P q x H1 Q
def oneV (R : V → Hp → Prop) : List V → Hp → Prop := fun vs H => match vs with
  | [x] => R x H
  | _ => False
theorem oneV_of {R : V → Hp → Prop} {vs : List V} {H : Hp} (h : oneV R vs H) : ∃ x, vs = [x] ∧ R x H := by
  match vs, h with
  | [x], h => exact ⟨x, rfl, h⟩
theorem pe_sortL {X : Cx} {K : PySem.W.Frag} {mg : Str → Option Value} {Γ : Gm} {n : Nat} (cx : Cok X K mg Γ (n + 1)) {P c : Addr} {a : Str} {e e1 e2 : Expr} {te : TE} {p pos p3 p4 kpos : Pos} {params : Arguments} {scope : Scope}
    (TB : LamX.TabB X.base X.mg c P) (hcode : X.env.code = .ref c) (hg : Gl X "sorted") (hm : X.mg "sorted" = none) (he : PE X e te)
    (h1 : ∃ p1, e1 = .Name a p1) (h2 : ∃ j p2, e2 = .Constant (.int 0) j p2) (hdef : defaultsOf params X.env = ([], [])) (hcell : ∀ x ∈ scope.names, x.2 ≠ .cell) (hfree : ∀ y ∈ scope.names, y.2 ≠ .free)
    (hbind : ∀ v qual pm cdv ctv, bindArgs (PySem.W.kla_fn "<lambda>" qual params (.Subscript e1 e2 p3) scope [] pm cdv ctv) ⟨[v], []⟩ = pure [(a, v)])
    (hclo : cloFrom X.env.cells scope.names [] = [])
    (hloc : scope.names.lookup a = some .local) (hk : scope.kind = .function) (hco : scope.isCoroutine = false) (hgen : scope.isGenerator = false) (hd : (a == ("__debug__" : Str)) = false)
    (hs : ∀ o i, subscripted e2 false o i = operate [o, i] (getItem o i))
    (hst1 : starEach [e] X.env = (false, eval e X.env) :: starEach [] X.env := by rfl) (hst : backTo pos (starEach [e] X.env) = (false, eval e X.env) :: backTo pos (starEach [] X.env) := by rfl) (hpl : (backTo pos (starEach [e] X.env)).any (·.1) = false := by rfl)
    (hkws : backToKw pos (keywordEach [⟨some "key", .Lambda params (.Subscript e1 e2 p3) scope p4, kpos⟩] X.env) = [((some ("key" : Str) : Option Str), (do let v ← eval (.Lambda params (.Subscript e1 e2 p3) scope p4) X.env; standAt pos; pure v : Sem Value))] := by rfl) :
    PE X (.Call (.Name "sorted" p) [e] [⟨some "key", .Lambda params (.Subscript e1 e2 p3) scope p4, kpos⟩] pos) (tSortL P (X.env.qual ++ "<lambda>") te) := by
  refine ⟨fun pins s σ H Q I h => ?_⟩
  refine wpAny_Call_Name_kw (ld_blt (u := .builtin "sorted") I hg hm (by decide +kernel) ?_)
  refine PyProof.Rows.callWith_kw (thn ((pa_cons he pa_nil hst1).run pos pins s σ H (oneV fun x H1 => rSortL P (X.env.qual ++ "<lambda>") x H1 Q) I h) fun us s1 ⟨vs, H1, I1, r, q⟩ => ?_) hst hpl (by rw [hkws]; rfl) (by rw [hkws]; rfl)
  obtain ⟨x, rfl, l, ps, rfl, hl, hps, hT, q⟩ := oneV_of q
  obtain ⟨u, rfl, ru⟩ := vals1 r
  obtain rfl : u = Value.ref l := ru
  rw [hkws]
  show wpAny _ _ (evalAll [do let v ← eval (.Lambda params (.Subscript e1 e2 p3) scope p4) X.env; standAt pos; pure v]) _ _ s1
  refine wpAny_evalAll_cons (wpAny_bind (LamX.lam_make2 (T := [(P, X.env.qual ++ "<lambda>")]) I1 TB hcode (List.mem_singleton.mpr rfl) (fun p hp _ => by rw [List.mem_singleton.mp hp]) (fun p hp => by rw [List.mem_singleton.mp hp]; exact hT) hdef (fun y hy e => absurd e (hfree y hy)) fun f c' pm ctv H2 s2 I2 hE hTs hf hfn hfr hc' => wpAny_bind (wpAny_standAt (wpAny_pure (wpAny_evalAll_nil ?_)))))
  rw [hclo] at hf
  have hT2 : LamX.TabS H2 P (X.env.qual ++ "<lambda>") := hTs (P, X.env.qual ++ "<lambda>") (List.mem_singleton.mpr rfl)
  have hl2 : H2 l = some (.lst (ps.map fun p => V.ref p.1)) := hE _ _ hl (fun ps z => by cases z)
  obtain ⟨its, rv, pl, hz⟩ := I2.list (SqL.of hl2)
  have hpz : ps.length ≤ sizeLine := by rw [List.length_map] at hz; exact hz
  obtain ⟨⟨oc, vs, t, hoc, hdc, hvc⟩, _, _⟩ := I2.hok c' _ hc'
  have hcr : s2.heap.CodeRec (.ref c') (X.env.qual ++ "<lambda>") := ⟨c', oc, vs, t, rfl, hoc, hdc, hvc⟩
  have hrm := cx.room.dp
  have hun := cx.room.un
  show wpAny _ _ (call (.builtin "sorted") [.ref l] [(Str.ofString "key", .ref f)]) _ _ s2
  refine PySem.W.sorted_key_data (b := false) (bs := ps) (R := fun v (b : Addr × Str) => v = Value.ref b.1) (fun b => PyData.str b.2) pl.isList (vals_each rv) (fun d hd d' hd' => ?_) (.inr fun d hd => ?_) hpz (fun b hb => ?_) (PyProof.Rows.ksk_s1 _ _) (fun _ => PyProof.Rows.ksk_l1 _ _) (fun x => PyProof.Rows.ksk_t1 _ _)
    (fun v x hR hx h tk kp => ?_) (fun out cc h' tk kp fresh hD hlen hE2 => ?_)
  · obtain ⟨y, _, rfl⟩ := List.mem_map.mp hd
    obtain ⟨y', _, rfl⟩ := List.mem_map.mp hd'
    rfl
  · obtain ⟨y, _, rfl⟩ := List.mem_map.mp hd
    exact ⟨fun z => (by cases z), fun xs z => (by cases z)⟩
  · show _ + 2 + 0 < _
    omega
  · subst hR
    obtain ⟨r, hx1⟩ := hps x hx
    have hx2 := hE _ _ hx1 (fun ps z => by cases z)
    obtain ⟨_, its', n', rv', ho'⟩ := I2.hok x.1 _ hx2
    match its', rv' with
    | u :: us, .cons ru rus =>
      obtain ⟨t', rfl⟩ := ru
      exact lam0_call (s := { s2 with heap := h, toks := tk }) h1 h2 (kp _ _ hf) ⟨c', oc, vs, t, rfl, kp _ _ hoc, hdc, hvc⟩ (I2.nolimit.keeps kp) (by show X.A.depth < recursionLimit; omega) (fun v => hbind v _ _ _ _) hloc hcell hk hco hgen hd hs ⟨_, kp _ _ ho', rfl, _, rfl⟩ rfl
  · have hv := each_vals hE2
    have nl : H2 (s2.heap.objs.size + 1) = none := I2.hok.fresh (Nat.le_succ _)
    have hln : ((srtF ps).map fun p => V.ref p.1).length ≤ sizeLine := by
      rw [List.length_map]
      show (ps.mergeSort _).length ≤ _
      rw [List.length_mergeSort]
      exact hpz
    refine ⟨.ref _, upd H2 (s2.heap.objs.size + 1) (.lst ((srtF ps).map fun p => V.ref p.1)), I2.laid (t' := tk) kp (Nat.le_succ _) ⟨hln, out, cc, hv, hD⟩, rfl, ?_⟩
    refine q _ _ (hE.trans (LamX.ExtN.of (exn nl))) (hT2.ext (exn nl)) (fun o e => ?_) upd_same
    by_cases hn : ∃ ps, o = .tbl ps
    · exact hn
    · rw [hE _ _ e (fun ps z => hn ⟨ps, z⟩)] at nl
      cases nl
/-- a def whose code object is known -/
def FunC (K : PySem.W.Frag) (x qual : Str) (st : Stmt) (f c : Addr) : Prop := ∃ (oc : Value) (od : Option Addr) (kV doc pm : Value) (an : Option Addr) (ct : Value) (osl : Array (Option Value)),
  K.lookup f = some ⟨oc, od, .func (PySem.W.fnOf x qual (defArgs st) (defBody st) (defScope st) .none kV doc pm an (.ref c) ct), osl⟩ ∧ PySem.W.codeIn K (.ref c) qual = true
section
variable {P : Program} {w : World} {K : PySem.W.Frag} {mg : Str → Option Value} {base : Heap}
theorem fnr_ofC {x qual : Str} {st : Stmt} {f c : Addr} {N ps : List Str} {k : Nat} {sp : Sp} (F : FunC K x qual st f c) (S : FnScope N ps (defScope st))
    (hb : ∀ (kV doc pm : Value) (an : Option Addr) (cdv ct : Value) (us : List Value), us.length = ps.length → bindArgs (PySem.W.fnOf x qual (defArgs st) (defBody st) (defScope st) .none kV doc pm an cdv ct) ⟨us, []⟩ = pure (ps.zip us))
    (len : ∀ vs H Q E, sp vs H Q E → vs.length = ps.length)
    (hbody : ∀ (A : Around) (outer : List Env) (s : Shared) (H : Hp) (vs : List V) (Q : VK) (E : XK), Cok (bX P w K mg base N qual st f (.ref c) A outer s H E) K mg (Fn P w K mg base) k → sp vs H Q E →
      ∃ t, PSs (bX P w K mg base N qual st f (.ref c) A outer s H E) (defBody st) t ∧ t { nx := fun _ H' => Q .non H', rt := Q } (start N vs) H) : Fn P w K mg base f (k + 1) sp := by
  obtain ⟨oc, od, kV, doc, pm, an, ct, osl, lk, hcd⟩ := F
  have z : FnOk P w K mg base CX0 (k + 1) f _ ps sp := fn_of lk hcd S len fun A outer s H vs Q E hr h => by
    obtain ⟨t, h1, q⟩ := hbody A outer s H vs Q E ⟨rfl, rfl, fun _ _ _ h => h, hr⟩ h
    exact ⟨t, h1.nox, q⟩
  exact FnR.imp (z.raw (.all (hb kV doc pm an (.ref c) ct)) .nil) fun vs H Q E h => by rw [List.append_nil]; exact h
end
end Md
/-! Md: what is told of the written part (printed by mkhd.py). -/
namespace Md
open PySem PySem.Spec PyProof.Rows L2
open PySem.W (Frag)
theorem ba3 {a b c : Bool} (h : (a && (b && c)) = true) : a = true ∧ b = true ∧ c = true := ⟨(He.ba h).1, (He.ba (He.ba h).2).1, (He.ba (He.ba h).2).2⟩
/-! ### defs -/
theorem fdAt_at {K : Frag} {f : Addr} {d : FuncData} (h : fdAt K f = some d) : ∃ (oc : Value) (od : Option Addr) (osl : Array (Option Value)), K.lookup f = some ⟨oc, od, .func d, osl⟩ := by
  unfold fdAt at h
  split at h
  · rename_i e
    cases h
    exact ⟨_, _, _, e⟩
  · cases h
theorem isN_ok {v : Value} (h : isN v = true) : v = .none := by
  cases v <;> first | rfl | cases h
theorem fd_ex {K : Frag} {f : Addr} {name qual : Str} {st : Stmt} (e : fnA K f = some (name, qual, defArgs st, .stmts (defBody st), defScope st, mainGlobals, builtinsNs)) : ∃ d, fdAt K f = some d ∧ d.name = name ∧ d.qualname = qual ∧ d.params = defArgs st ∧ d.body = .stmts (defBody st) ∧ d.scope = defScope st ∧ d.globals = mainGlobals ∧ d.builtins = builtinsNs := by
  unfold fnA at e
  cases q : fdAt K f with
  | none => rw [q] at e; cases e
  | some d =>
    rw [q] at e
    have e2 : some (d.name, d.qualname, d.params, d.body, d.scope, d.globals, d.builtins) = some (name, qual, defArgs st, .stmts (defBody st), defScope st, mainGlobals, builtinsNs) := e
    simp only [Option.some.injEq, Prod.mk.injEq] at e2
    obtain ⟨h1, h2, h3, h4, h5, h6, h7⟩ := e2
    exact ⟨d, rfl, h1, h2, h3, h4, h5, h6, h7⟩
theorem fd_fun {K : Frag} {ad : Frag → Addr} {name qual : Str} {st : Stmt} (e : fnA K (ad K) = FD.val ⟨ad, name, qual, st, false⟩) (c : FD.ok ⟨ad, name, qual, st, false⟩ K = true) : ∃ fd, Fun K name qual st (ad K) fd := by
  obtain ⟨d, hd, h1, h2, h3, h4, h5, h6, h7⟩ := fd_ex e
  have c2 : (PySem.W.keepIn K (.ref (ad K)) && match fdAt K (ad K) with
    | some e => PySem.W.codeIn K e.code qual && (e.closure.isEmpty && isN e.defaults)
    | none => false) = true := c
  rw [hd] at c2
  obtain ⟨k1, k2, k3⟩ := ba3 c2
  obtain ⟨k4, k5⟩ := He.ba k3
  obtain ⟨oc, od, osl, lk⟩ := fdAt_at hd
  obtain ⟨n1, n2, n3, n4, n5, n6, n7, n8, n9, n10, n11, n12, n13, n14, n15⟩ := d
  obtain rfl : n1 = name := h1
  obtain rfl : n2 = qual := h2
  obtain rfl : n3 = defArgs st := h3
  obtain rfl : n4 = _ := h4
  obtain rfl : n5 = defScope st := h5
  obtain rfl : n6 = _ := h6
  obtain rfl : n15 = _ := h7
  have k6 : n7 = [] := List.isEmpty_iff.mp k4
  have k7 : n8 = .none := isN_ok k5
  subst k6 k7
  exact ⟨_, ⟨oc, od, n9, n10, n11, n12, n13, n14, osl, rfl, lk, k2⟩, k1⟩
theorem funC_of {K : Frag} {x qual : Str} {st : Stmt} {f : Addr} {fd : FuncData} (F : Fun K x qual st f fd) : FunC K x qual st f (codeA K f) := by
  obtain ⟨oc, od, kV, doc, pm, an, cdv, ct, osl, rfl, lk, hcd⟩ := F.ex
  have hd : fdAt K f = some (PySem.W.fnOf x qual (defArgs st) (defBody st) (defScope st) .none kV doc pm an cdv ct) := by
    unfold fdAt
    rw [lk]
  have hc : ∃ c, cdv = .ref c := by
    cases cdv with
    | ref c => exact ⟨c, rfl⟩
    | _ => cases hcd
  obtain ⟨c, rfl⟩ := hc
  have e : codeA K f = c := by
    unfold codeA
    rw [hd]
  rw [e]
  exact ⟨oc, od, kV, doc, pm, an, ct, osl, lk, hcd⟩
/-! ### classes -/
theorem ownB_ok {K : Frag} {C : Addr} (h : ownB K C = true) : OwnC K C := by
  obtain ⟨h1, h2, h3⟩ := ba3 h
  obtain ⟨h4, h5, h6⟩ := ba3 h3
  obtain ⟨h7, h8⟩ := He.ba h6
  exact ⟨⟨h1, h2, h4, He.eqO_ok h5⟩, He.eqO_ok h7, of_decide_eq_true h8⟩
theorem obc1 (K : Frag) : PySem.W.specialIn K (.builtin "object.__class__") "__get__" = some (some (.builtin "getset_descriptor.__get__")) := by kernel_rfl
theorem obc2 (K : Frag) : PySem.W.takesIn K (.builtin "object.__class__") = some true := by kernel_rfl
theorem recB_ok {K : Frag} {p : Addr} {T : String} (h : recB K p T = true) : ∃ rest, PySem.W.recIn K p T = some (.ref (recA K p T) :: rest) := by
  unfold recB at h
  split at h
  · rename_i g rest e
    refine ⟨rest, ?_⟩
    unfold recA
    rw [e]
  · cases h
theorem propB_ok {K : Frag} {C : Addr} {m : Str} (h : propB K C m = true) : PropOf K C m (He.ma K C m) (getterA K C m) := by
  obtain ⟨h1, h2, h3⟩ := ba3 h
  obtain ⟨h4, h5⟩ := He.ba h3
  exact ⟨He.eqO_ok h1, He.eqO_ok h2, of_decide_eq_true h4, recB_ok h5⟩
theorem spcB_ok {K : Frag} {C : Addr} {m : Str} (h : spcB K C m = true) : PySem.W.findIn K (.ref C) m = some (some (.ref (He.ma K C m))) ∧ PySem.W.isFn K (.ref (He.ma K C m)) = true ∧ PySem.W.fnIn K (He.ma K C m) = true := by
  obtain ⟨h1, h2, h3⟩ := ba3 h
  exact ⟨He.eqO_ok h1, h2, h3⟩
theorem readB_ok {K : Frag} {C : Addr} (h : readB K C = true) : ClX.CRead K C (.type "type") := ⟨(He.ba h).1, He.eqO_ok (He.ba h).2⟩
theorem foundB_ok {K : Frag} {C : Addr} {m : Str} {p : Addr} (h : foundB K C m p = true) : PySem.W.findCls K (.ref C) (.type "type") m = some (.get (.builtin "classmethod.__get__") (.ref p) .none (.ref C)) := by
  unfold foundB at h
  split at h
  · rename_i g a o t e
    obtain ⟨h1, h2, h3⟩ := ba3 h
    obtain ⟨h4, h5⟩ := He.ba h3
    rw [e, of_decide_eq_true h1, of_decide_eq_true h2, of_decide_eq_true h4, of_decide_eq_true h5]
  · cases h
theorem cmB_ok {K : Frag} {C : Addr} {m : Str} (h : cmB K C m = true) : ClX.CRead K C (.type "type") ∧ ClX.CMet K C (.type "type") m (He.ma K C m) (cmA K C m) := by
  obtain ⟨h1, h2, h3⟩ := ba3 h
  obtain ⟨h4, h5⟩ := He.ba h3
  exact ⟨readB_ok h1, foundB_ok h2, recB_ok h4, h5⟩
/-! ### values -/
theorem valAt_ok {K : Frag} {a : Addr} {k : Str} {v : V} (h : valAt K a k v = true) : ∃ u, PySem.W.nsIn K a k = some (some u) ∧ RelV v u := by
  unfold valAt at h
  split at h
  · rename_i u e
    exact ⟨u, e, He.relB_ok h⟩
  · cases h
theorem noneOf_ok {K : Frag} {a : Addr} {zs : List Str} (h : noneOf K a zs = true) : ∀ z ∈ zs, PySem.W.nsIn K a z = some none := fun z hz => He.eqO_ok (List.all_eq_true.mp h z hz)
theorem tupB_ok {K : Frag} {a : Addr} {vs : List V} (h : tupB K a vs = true) (H : Hp) : SqT K H a vs := by
  unfold tupB at h
  split at h
  · rename_i c od its n sl e
    obtain ⟨h1, h2, h3⟩ := ba3 h
    exact .inr ⟨_, its, n, e, congrArg Value.type (of_decide_eq_true h1), rfl, of_decide_eq_true h2, He.relAll_ok h3⟩
  · cases h
theorem cconB_ok {K : Frag} {C : Addr} {m : Str} {vs : List V} (h : cconB K C m vs = true) : ∃ t mc u, ClX.CRead K C mc ∧ ClX.CVal K C mc m (.ref t) u ∧ ∀ H, SqT K H t vs := by
  obtain ⟨h1, h2, h3⟩ := ba3 h
  split at h2
  · rename_i u e
    have e3 : u = .ref (conA K C m) := of_decide_eq_true h2
    exact ⟨conA K C m, .type "type", u, readB_ok h1, ⟨e, by rw [e3]; rfl⟩, tupB_ok h3⟩
  · cases h2
/-! ### a def with a cell for its class; a def with defaults -/
theorem fileB_ok {K : Frag} {file : Str} {c : Addr} (h : fileB K file c = true) : ∃ ccl cdd vs ccs x tf, K.lookup c = some ⟨ccl, cdd, .fields vs, ccs⟩ ∧ vs[2]? = some (.str x tf) ∧ (file == x) = true := by
  unfold fileB at h
  split at h
  · rename_i vs _ e
    split at h
    · rename_i x t e2
      exact ⟨_, _, vs, _, x, t, e, e2, h⟩
    · cases h
  · cases h
theorem cellB_ok {K : Frag} {cc D : Addr} (h : cellB K cc D = true) : ∃ cl cld csl, K.lookup cc = some ⟨cl, cld, .cell (some (.ref D)), csl⟩ := by
  unfold cellB at h
  split at h
  · rename_i d _ e
    rw [of_decide_eq_true h] at e
    exact ⟨_, _, _, e⟩
  · cases h
theorem sup_of {K : Frag} {mg : Str → Option Value} {ad : Frag → Addr} {D : Addr} {qual : Str} {st : Stmt} (e : fnA K (ad K) = FD.val ⟨ad, "__init__", qual, st, true⟩) (h : supB K MAINF (ad K) D qual = true) (hs : mg "super" = none) (ho : PySem.W.nsIn K cStatics "thirdparty.any" = some none) :
    ∃ (cc c : Addr) (kV doc pm : Value) (an : Option Addr) (ct : Value), SupF MAINP K mg (ad K) cc c D qual (PySem.W.fnX "__init__" qual (defArgs st) (defBody st) (defScope st) [("__class__", cc)] .none kV doc pm an (.ref c) ct) := by
  obtain ⟨d, hd, h1, h2, h3, h4, h5, h6, h7⟩ := fd_ex e
  unfold supB at h
  rw [hd] at h
  obtain ⟨oc, od, osl, lk⟩ := fdAt_at hd
  obtain ⟨n1, n2, n3, n4, n5, n6, n7, n8, n9, n10, n11, n12, n13, n14, n15⟩ := d
  obtain rfl : n1 = "__init__" := h1
  obtain rfl : n2 = qual := h2
  obtain rfl : n3 = defArgs st := h3
  obtain rfl : n4 = _ := h4
  obtain rfl : n5 = defScope st := h5
  obtain rfl : n6 = _ := h6
  obtain rfl : n15 = _ := h7
  match n7, h with
  | [(x, cc)], h =>
    obtain ⟨k1, k2, k3⟩ := ba3 h
    obtain ⟨k4, k5, k6⟩ := ba3 k3
    obtain ⟨k7, k8⟩ := He.ba k6
    have k9 : n8 = .none := isN_ok k2
    obtain rfl : x = "__class__" := of_decide_eq_true k1
    subst k9
    cases n13 with
    | ref c =>
      have k10 : fileB K MAINF c = true := k8
      obtain ⟨cdD, hcd⟩ := Option.isSome_iff_exists.mp k5
      exact ⟨cc, c, n9, n10, n11, n12, n14, ⟨oc, od, osl, lk⟩, fileB_ok k10, cellB_ok k4, ⟨cdD, hcd⟩, k7, hs, by decide +kernel, ho⟩
    | _ => cases k8
theorem dfl_of {K : Frag} {ad : Frag → Addr} {name qual : Str} {st : Stmt} {vs : List V} (e : fnA K (ad K) = FD.val ⟨ad, name, qual, st, true⟩) (h : dflOk K (ad K) qual vs = true) : ∃ fd, FunD K name qual (defArgs st) (defBody st) (defScope st) vs [] (ad K) fd := by
  obtain ⟨d, hd, h1, h2, h3, h4, h5, h6, h7⟩ := fd_ex e
  unfold dflOk at h
  rw [hd] at h
  obtain ⟨k1, k2, k3⟩ := ba3 h
  obtain ⟨k4, k5⟩ := He.ba k3
  obtain ⟨oc, od, osl, lk⟩ := fdAt_at hd
  obtain ⟨n1, n2, n3, n4, n5, n6, n7, n8, n9, n10, n11, n12, n13, n14, n15⟩ := d
  obtain rfl : n1 = name := h1
  obtain rfl : n2 = qual := h2
  obtain rfl : n3 = defArgs st := h3
  obtain rfl : n4 = _ := h4
  obtain rfl : n5 = defScope st := h5
  obtain rfl : n6 = _ := h6
  obtain rfl : n15 = _ := h7
  have k6 : n7 = [] := List.isEmpty_iff.mp k4
  subst k6
  exact ⟨_, ⟨oc, od, n8, n9, n10, n11, n12, n13, n14, osl, rfl, lk, k2, He.dflB_ok k5, He.kwdB_ok rfl⟩, k1⟩

def adOf (K : Frag) : Ad where
  Mode := (He.ga K "Mode")
  Entry := (He.ga K "Entry")
  Holder := (He.ga K "Holder")
  File := (He.ga K "File")
  Folder := (He.ga K "Folder")
  Tree := (He.ga K "Tree")
  Passage := (He.ga K "Passage")
  Clause := (He.ga K "Clause")
  Change := (He.ga K "Change")
  User := (He.ga K "User")
  Chief := (He.ga K "Chief")
  Command := (He.ga K "Command")
  Row := (He.ga K "Row")
  d_PLACES_modes := (He.ga K "PLACES_modes")
  d_BITS := (He.ga K "BITS")
  d_SHIFTS := (He.ga K "SHIFTS")
  t_PC := (He.ga K "PLACES_changes")
/-- what is told of the written part -/
structure Told0 (w : World) (K : Frag) : Prop where
  b : ∀ φ ∈ facts, φ K = true
  d : ∀ d ∈ fds, d.ok K = true
  e : fds.map (fun d => fnA K (d.ad K)) = fds.map FD.val
  t : dicts.map (fun d => He.dicW K (He.ga K d.1)) = dicts.map fun d => some (He.keysIn w.params d.2)
section
variable {w : World} {K : Frag} {h : Heap} {mg : Str → Option Value}
theorem Told0.f (c : Told0 w K) (i : Nat) {φ : Frag → Bool} (e : facts[i]? = some φ) : φ K = true := c.b φ (List.mem_of_getElem? e)
theorem Told0.ev (c : Told0 w K) (i : Nat) {d : FD} (e : fds[i]? = some d) : fnA K (d.ad K) = d.val := by
  have h1 : (fds.map fun d => fnA K (d.ad K))[i]? = (fds.map FD.val)[i]? := by rw [c.e]
  rw [List.getElem?_map, List.getElem?_map, e] at h1
  exact Option.some.inj h1
theorem Told0.g (c : Told0 w K) (i : Nat) {ad : Frag → Addr} {name qual : Str} {st : Stmt} (e : fds[i]? = some ⟨ad, name, qual, st, false⟩) : ∃ fd, Fun K name qual st (ad K) fd := fd_fun (c.ev i e) (c.d _ (List.mem_of_getElem? e))
theorem Told0.dk (c : Told0 w K) (i : Nat) {x : Str} {ks : List Str} (e : dicts[i]? = some (x, ks)) : ∃ es n, KDict K w (He.ga K x) es n := by
  have h1 : (dicts.map fun d => He.dicW K (He.ga K d.1))[i]? = (dicts.map fun d => some (He.keysIn w.params d.2))[i]? := by rw [c.t]
  rw [List.getElem?_map, List.getElem?_map, e] at h1
  exact He.dicW_ok (Option.some.inj h1)
theorem tx_of (c : Told0 w K) (X : K.In h) (G : h.Ns mainGlobals mg) : Tx K mg w (adOf K) := by
  have f := fun i {φ} e => c.f i (φ := φ) e
  have g := fun i {ad} {name} {qual} {st} e => c.g i (ad := ad) (name := name) (qual := qual) (st := st) e
  have dk := fun i {x} {ks} e => c.dk i (x := x) (ks := ks) e
  exact {
    b_isinstance := He.free_ok X G (f 0 rfl),
    b_len := He.free_ok X G (f 1 rfl),
    b_all := He.free_ok X G (f 2 rfl),
    b_sum := He.free_ok X G (f 3 rfl),
    b_sorted := He.free_ok X G (f 4 rfl),
    b_abs := He.free_ok X G (f 5 rfl),
    b_str := He.free_ok X G (f 6 rfl),
    b_int := He.free_ok X G (f 7 rfl),
    b_bool := He.free_ok X G (f 8 rfl),
    b_tuple := He.free_ok X G (f 9 rfl),
    b_list := He.free_ok X G (f 10 rfl),
    b_range := He.free_ok X G (f 11 rfl),
    b_enumerate := He.free_ok X G (f 12 rfl),
    b_zip := He.free_ok X G (f 13 rfl),
    b_super := He.free_ok X G (f 14 rfl),
    k_LETTERS_names := (He.str_ok X G (f 15 rfl)).elim fun t h => ⟨_, h, t, rfl⟩,
    k_LONGEST_NAME := (He.int_ok X G (f 16 rfl)).elim fun t h => ⟨_, h, t, rfl⟩,
    k_GREATEST := (He.int_ok X G (f 17 rfl)).elim fun t h => ⟨_, h, t, rfl⟩,
    k_MOST_ENTRIES := (He.int_ok X G (f 18 rfl)).elim fun t h => ⟨_, h, t, rfl⟩,
    k_CLASSES := (He.str_ok X G (f 19 rfl)).elim fun t h => ⟨_, h, t, rfl⟩,
    k_SIGNS_changes := (He.str_ok X G (f 20 rfl)).elim fun t h => ⟨_, h, t, rfl⟩,
    k_LETTERS_changes := (He.str_ok X G (f 21 rfl)).elim fun t h => ⟨_, h, t, rfl⟩,
    k_MOST_CLAUSES := (He.int_ok X G (f 22 rfl)).elim fun t h => ⟨_, h, t, rfl⟩,
    k_MOST_GROUPS := (He.int_ok X G (f 23 rfl)).elim fun t h => ⟨_, h, t, rfl⟩,
    k_SEARCH := (He.int_ok X G (f 24 rfl)).elim fun t h => ⟨_, h, t, rfl⟩,
    k_LISTING := (He.int_ok X G (f 25 rfl)).elim fun t h => ⟨_, h, t, rfl⟩,
    k_MOST_COMMANDS := (He.int_ok X G (f 26 rfl)).elim fun t h => ⟨_, h, t, rfl⟩,
    k_LONGEST_START := (He.int_ok X G (f 27 rfl)).elim fun t h => ⟨_, h, t, rfl⟩,
    k_PLACES_modes := ⟨_, He.glo_ok X G (f 28 rfl), rfl⟩,
    d_PLACES_modes := dk 0 rfl,
    e_PLACES_modes_r := valAt_ok (f 29 rfl),
    e_PLACES_modes_w := valAt_ok (f 30 rfl),
    e_PLACES_modes_x := valAt_ok (f 31 rfl),
    k_BITS := ⟨_, He.glo_ok X G (f 32 rfl), rfl⟩,
    d_BITS := dk 1 rfl,
    e_BITS_u := valAt_ok (f 33 rfl),
    e_BITS_g := valAt_ok (f 34 rfl),
    e_BITS_o := valAt_ok (f 35 rfl),
    k_SHIFTS := ⟨_, He.glo_ok X G (f 36 rfl), rfl⟩,
    d_SHIFTS := dk 2 rfl,
    e_SHIFTS_owner := valAt_ok (f 37 rfl),
    e_SHIFTS_group := valAt_ok (f 38 rfl),
    e_SHIFTS_others := valAt_ok (f 39 rfl),
    z_BITS := noneOf_ok (f 40 rfl),
    k_Mode := ⟨_, He.glo_ok X G (f 41 rfl), rfl⟩,
    k_Entry := ⟨_, He.glo_ok X G (f 42 rfl), rfl⟩,
    k_Holder := ⟨_, He.glo_ok X G (f 43 rfl), rfl⟩,
    k_File := ⟨_, He.glo_ok X G (f 44 rfl), rfl⟩,
    k_Folder := ⟨_, He.glo_ok X G (f 45 rfl), rfl⟩,
    k_Tree := ⟨_, He.glo_ok X G (f 46 rfl), rfl⟩,
    k_Passage := ⟨_, He.glo_ok X G (f 47 rfl), rfl⟩,
    k_Clause := ⟨_, He.glo_ok X G (f 48 rfl), rfl⟩,
    k_Change := ⟨_, He.glo_ok X G (f 49 rfl), rfl⟩,
    k_User := ⟨_, He.glo_ok X G (f 50 rfl), rfl⟩,
    k_Chief := ⟨_, He.glo_ok X G (f 51 rfl), rfl⟩,
    k_Command := ⟨_, He.glo_ok X G (f 52 rfl), rfl⟩,
    k_Row := ⟨_, He.glo_ok X G (f 53 rfl), rfl⟩,
    f_is_name := ((g 0 rfl)).elim fun fd F => ⟨_, fd, He.glo_ok X G (f 54 rfl), F⟩,
    f_is_integer := ((g 1 rfl)).elim fun fd F => ⟨_, fd, He.glo_ok X G (f 55 rfl), F⟩,
    f_is_path := ((g 2 rfl)).elim fun fd F => ⟨_, fd, He.glo_ok X G (f 56 rfl), F⟩,
    f_names_of := ((g 3 rfl)).elim fun fd F => ⟨_, fd, He.glo_ok X G (f 57 rfl), F⟩,
    f_number_of := ((g 4 rfl)).elim fun fd F => ⟨_, fd, He.glo_ok X G (f 58 rfl), F⟩,
    f_place_of := ((g 5 rfl)).elim fun fd F => ⟨_, fd, He.glo_ok X G (f 59 rfl), F⟩,
    f_pattern_bits := ((g 6 rfl)).elim fun fd F => ⟨_, fd, He.glo_ok X G (f 60 rfl), F⟩,
    f_size_of := ((g 7 rfl)).elim fun fd F => ⟨_, fd, He.glo_ok X G (f 61 rfl), F⟩,
    f_copied := ((g 8 rfl)).elim fun fd F => ⟨_, fd, He.glo_ok X G (f 62 rfl), F⟩,
    f_found_below := ((g 9 rfl)).elim fun fd F => ⟨_, fd, He.glo_ok X G (f 63 rfl), F⟩,
    f_joined := ((g 10 rfl)).elim fun fd F => ⟨_, fd, He.glo_ok X G (f 64 rfl), F⟩,
    f_commands_of := ((g 11 rfl)).elim fun fd F => ⟨_, fd, He.glo_ok X G (f 65 rfl), F⟩,
    f_wrong_index := ((g 12 rfl)).elim fun fd F => ⟨_, fd, He.glo_ok X G (f 66 rfl), F⟩,
    f_need_stand := ((g 13 rfl)).elim fun fd F => ⟨_, fd, He.glo_ok X G (f 67 rfl), F⟩,
    f_word_in := ((g 14 rfl)).elim fun fd F => ⟨_, fd, He.glo_ok X G (f 68 rfl), F⟩,
    f_stand_below := ((g 15 rfl)).elim fun fd F => ⟨_, fd, He.glo_ok X G (f 69 rfl), F⟩,
    f_made_step := ((g 16 rfl)).elim fun fd F => ⟨_, fd, He.glo_ok X G (f 70 rfl), F⟩,
    f_stand_of := ((g 17 rfl)).elim fun fd F => ⟨_, fd, He.glo_ok X G (f 71 rfl), F⟩,
    f_is_some := ((g 18 rfl)).elim fun fd F => ⟨_, fd, He.glo_ok X G (f 72 rfl), F⟩,
    f_is_who := ((g 19 rfl)).elim fun fd F => ⟨_, fd, He.glo_ok X G (f 73 rfl), F⟩,
    f_is_what := ((g 20 rfl)).elim fun fd F => ⟨_, fd, He.glo_ok X G (f 74 rfl), F⟩,
    f_need_groups := ((g 21 rfl)).elim fun fd F => ⟨_, fd, He.glo_ok X G (f 75 rfl), F⟩,
    f_commands_in := ((g 22 rfl)).elim fun fd F => ⟨_, fd, He.glo_ok X G (f 76 rfl), F⟩,
    f_joined_row := ((g 23 rfl)).elim fun fd F => ⟨_, fd, He.glo_ok X G (f 77 rfl), F⟩,
    f__law_pen := ((g 24 rfl)).elim fun fd F => ⟨_, fd, He.glo_ok X G (f 78 rfl), F⟩,
    f__law_draw := ((g 25 rfl)).elim fun fd F => ⟨_, fd, He.glo_ok X G (f 79 rfl), F⟩,
    f__law_pick := ((g 26 rfl)).elim fun fd F => ⟨_, fd, He.glo_ok X G (f 80 rfl), F⟩,
    f__law_words := ((g 27 rfl)).elim fun fd F => ⟨_, fd, He.glo_ok X G (f 81 rfl), F⟩,
    f__law_world := ((g 28 rfl)).elim fun fd F => ⟨_, fd, He.glo_ok X G (f 82 rfl), F⟩,
    f__law_drawn_mode := ((g 29 rfl)).elim fun fd F => ⟨_, fd, He.glo_ok X G (f 83 rfl), F⟩,
    f__law_clauses := ((g 30 rfl)).elim fun fd F => ⟨_, fd, He.glo_ok X G (f 84 rfl), F⟩,
    f__law_deed := ((g 31 rfl)).elim fun fd F => ⟨_, fd, He.glo_ok X G (f 85 rfl), F⟩,
    f__law_joined := ((g 32 rfl)).elim fun fd F => ⟨_, fd, He.glo_ok X G (f 86 rfl), F⟩,
    f__law_at := ((g 33 rfl)).elim fun fd F => ⟨_, fd, He.glo_ok X G (f 87 rfl), F⟩,
    f__law_grown := ((g 34 rfl)).elim fun fd F => ⟨_, fd, He.glo_ok X G (f 88 rfl), F⟩,
    f__law_user_so := ((g 35 rfl)).elim fun fd F => ⟨_, fd, He.glo_ok X G (f 89 rfl), F⟩,
    f__law_row_so := ((g 36 rfl)).elim fun fd F => ⟨_, fd, He.glo_ok X G (f 90 rfl), F⟩,
    f__law_tree_so := ((g 37 rfl)).elim fun fd F => ⟨_, fd, He.glo_ok X G (f 91 rfl), F⟩,
    f__law_hall := ((g 38 rfl)).elim fun fd F => ⟨_, fd, He.glo_ok X G (f 92 rfl), F⟩,
    f__law_alone_right := ((g 39 rfl)).elim fun fd F => ⟨_, fd, He.glo_ok X G (f 93 rfl), F⟩,
    f__law_more_right := ((g 40 rfl)).elim fun fd F => ⟨_, fd, He.glo_ok X G (f 94 rfl), F⟩,
    f_law := ((g 41 rfl)).elim fun fd F => ⟨_, fd, He.glo_ok X G (f 95 rfl), F⟩,
    ob := ⟨obc1 _, obc2 _⟩,
    o_Mode := ownB_ok (f 96 rfl),
    o_File := ownB_ok (f 97 rfl),
    o_Folder := ownB_ok (f 98 rfl),
    o_Tree := ownB_ok (f 99 rfl),
    o_Passage := ownB_ok (f 100 rfl),
    o_Clause := ownB_ok (f 101 rfl),
    o_Change := ownB_ok (f 102 rfl),
    o_User := ownB_ok (f 103 rfl),
    o_Chief := ownB_ok (f 104 rfl),
    o_Command := ownB_ok (f 105 rfl),
    o_Row := ownB_ok (f 106 rfl),
    n_Mode_bits := He.noat_ok (f 107 rfl),
    n_File_mode_now := He.noat_ok (f 108 rfl),
    n_File_own_owner := He.noat_ok (f 109 rfl),
    n_File_own_group := He.noat_ok (f 110 rfl),
    n_Folder_mode_now := He.noat_ok (f 111 rfl),
    n_Folder_own_owner := He.noat_ok (f 112 rfl),
    n_Folder_own_group := He.noat_ok (f 113 rfl),
    n_Folder_below := He.noat_ok (f 114 rfl),
    n_Tree_top := He.noat_ok (f 115 rfl),
    n_Passage_word := He.noat_ok (f 116 rfl),
    n_Passage_row_here := He.noat_ok (f 117 rfl),
    n_Passage_stand_here := He.noat_ok (f 118 rfl),
    n_Passage_made := He.noat_ok (f 119 rfl),
    n_Passage_last_number := He.noat_ok (f 120 rfl),
    n_Clause_own_parts := He.noat_ok (f 121 rfl),
    n_Clause_own_bits := He.noat_ok (f 122 rfl),
    n_Change_own_clauses := He.noat_ok (f 123 rfl),
    n_Change_own_rows := He.noat_ok (f 124 rfl),
    n_User_name := He.noat_ok (f 125 rfl),
    n_User_own_groups := He.noat_ok (f 126 rfl),
    n_Chief_name := He.noat_ok (f 127 rfl),
    n_Chief_own_groups := He.noat_ok (f 128 rfl),
    n_Command_facts := He.noat_ok (f 129 rfl),
    n_Row_parts_told := He.noat_ok (f 130 rfl),
    p_Mode_number := ((g 42 rfl)).elim fun fd F => ⟨_, _, fd, propB_ok (f 131 rfl), F⟩,
    p_File_mode := ((g 43 rfl)).elim fun fd F => ⟨_, _, fd, propB_ok (f 132 rfl), F⟩,
    p_File_owner := ((g 44 rfl)).elim fun fd F => ⟨_, _, fd, propB_ok (f 133 rfl), F⟩,
    p_File_group := ((g 45 rfl)).elim fun fd F => ⟨_, _, fd, propB_ok (f 134 rfl), F⟩,
    p_Folder_mode := ((g 46 rfl)).elim fun fd F => ⟨_, _, fd, propB_ok (f 135 rfl), F⟩,
    p_Folder_owner := ((g 47 rfl)).elim fun fd F => ⟨_, _, fd, propB_ok (f 136 rfl), F⟩,
    p_Folder_group := ((g 48 rfl)).elim fun fd F => ⟨_, _, fd, propB_ok (f 137 rfl), F⟩,
    p_Clause_sign := ((g 49 rfl)).elim fun fd F => ⟨_, _, fd, propB_ok (f 138 rfl), F⟩,
    p_Clause_what := ((g 50 rfl)).elim fun fd F => ⟨_, _, fd, propB_ok (f 139 rfl), F⟩,
    p_Command_user := ((g 51 rfl)).elim fun fd F => ⟨_, _, fd, propB_ok (f 140 rfl), F⟩,
    p_Command_change := ((g 52 rfl)).elim fun fd F => ⟨_, _, fd, propB_ok (f 141 rfl), F⟩,
    p_Command_order := ((g 53 rfl)).elim fun fd F => ⟨_, _, fd, propB_ok (f 142 rfl), F⟩,
    p_Command_kinds := ((g 54 rfl)).elim fun fd F => ⟨_, _, fd, propB_ok (f 143 rfl), F⟩,
    p_Command_start := ((g 55 rfl)).elim fun fd F => ⟨_, _, fd, propB_ok (f 144 rfl), F⟩,
    m_Mode_pattern := ((g 56 rfl)).elim fun fd F => ⟨_, fd, He.meth_ok (f 145 rfl), F⟩,
    m_Mode_with_pattern := ((g 57 rfl)).elim fun fd F => ⟨_, fd, He.meth_ok (f 146 rfl), F⟩,
    m_Folder_names := ((g 58 rfl)).elim fun fd F => ⟨_, fd, He.meth_ok (f 147 rfl), F⟩,
    m_Folder_put := ((g 59 rfl)).elim fun fd F => ⟨_, fd, He.meth_ok (f 148 rfl), F⟩,
    m_Tree_entry := ((g 60 rfl)).elim fun fd F => ⟨_, fd, He.meth_ok (f 149 rfl), F⟩,
    m_Tree_put := ((g 61 rfl)).elim fun fd F => ⟨_, fd, He.meth_ok (f 150 rfl), F⟩,
    m_Tree_copy := ((g 62 rfl)).elim fun fd F => ⟨_, fd, He.meth_ok (f 151 rfl), F⟩,
    m_Clause_takes := ((g 63 rfl)).elim fun fd F => ⟨_, fd, He.meth_ok (f 152 rfl), F⟩,
    m_Clause_moved := ((g 64 rfl)).elim fun fd F => ⟨_, fd, He.meth_ok (f 153 rfl), F⟩,
    m_Change_moved := ((g 65 rfl)).elim fun fd F => ⟨_, fd, He.meth_ok (f 154 rfl), F⟩,
    m_Change_three := ((g 66 rfl)).elim fun fd F => ⟨_, fd, He.meth_ok (f 155 rfl), F⟩,
    m_User_class_at := ((g 67 rfl)).elim fun fd F => ⟨_, fd, He.meth_ok (f 156 rfl), F⟩,
    m_User_bits_at := ((g 68 rfl)).elim fun fd F => ⟨_, fd, He.meth_ok (f 157 rfl), F⟩,
    m_Chief_class_at := ((g 69 rfl)).elim fun fd F => ⟨_, fd, He.meth_ok (f 158 rfl), F⟩,
    m_Chief_bits_at := ((g 70 rfl)).elim fun fd F => ⟨_, fd, He.meth_ok (f 159 rfl), F⟩,
    m_User_passes := ((g 71 rfl)).elim fun fd F => ⟨_, fd, He.meth_ok (f 160 rfl), F⟩,
    m_User_lists := ((g 72 rfl)).elim fun fd F => ⟨_, fd, He.meth_ok (f 161 rfl), F⟩,
    m_User_may_change := ((g 73 rfl)).elim fun fd F => ⟨_, fd, He.meth_ok (f 162 rfl), F⟩,
    m_Chief_passes := ((g 74 rfl)).elim fun fd F => ⟨_, fd, He.meth_ok (f 163 rfl), F⟩,
    m_Chief_lists := ((g 75 rfl)).elim fun fd F => ⟨_, fd, He.meth_ok (f 164 rfl), F⟩,
    m_Chief_may_change := ((g 76 rfl)).elim fun fd F => ⟨_, fd, He.meth_ok (f 165 rfl), F⟩,
    m_Command_means := ((g 77 rfl)).elim fun fd F => ⟨_, fd, He.meth_ok (f 166 rfl), F⟩,
    m_Row_need_index := ((g 78 rfl)).elim fun fd F => ⟨_, fd, He.meth_ok (f 167 rfl), F⟩,
    i_Mode := ((g 79 rfl)).elim fun fd F => ⟨_, fd, He.mkr_ok (f 168 rfl), F⟩,
    i_Tree := ((g 80 rfl)).elim fun fd F => ⟨_, fd, He.mkr_ok (f 169 rfl), F⟩,
    i_Passage := ((g 81 rfl)).elim fun fd F => ⟨_, fd, He.mkr_ok (f 170 rfl), F⟩,
    i_Clause := ((g 82 rfl)).elim fun fd F => ⟨_, fd, He.mkr_ok (f 171 rfl), F⟩,
    i_Change := ((g 83 rfl)).elim fun fd F => ⟨_, fd, He.mkr_ok (f 172 rfl), F⟩,
    i_User := ((g 84 rfl)).elim fun fd F => ⟨_, fd, He.mkr_ok (f 173 rfl), F⟩,
    i_Chief := ((g 85 rfl)).elim fun fd F => ⟨_, fd, He.mkr_ok (f 174 rfl), F⟩,
    i_Row := ((g 86 rfl)).elim fun fd F => ⟨_, fd, He.mkr_ok (f 175 rfl), F⟩,
    s_Folder_contains := ((g 87 rfl)).elim fun fd F => ⟨_, fd, (spcB_ok (f 176 rfl)).1, (spcB_ok (f 176 rfl)).2.1, (spcB_ok (f 176 rfl)).2.2, F⟩,
    s_Folder_getitem := ((g 88 rfl)).elim fun fd F => ⟨_, fd, (spcB_ok (f 177 rfl)).1, (spcB_ok (f 177 rfl)).2.1, (spcB_ok (f 177 rfl)).2.2, F⟩,
    s_Passage_call := ((g 89 rfl)).elim fun fd F => ⟨_, fd, (spcB_ok (f 178 rfl)).1, (spcB_ok (f 178 rfl)).2.1, (spcB_ok (f 178 rfl)).2.2, F⟩,
    s_Change_call := ((g 90 rfl)).elim fun fd F => ⟨_, fd, (spcB_ok (f 179 rfl)).1, (spcB_ok (f 179 rfl)).2.1, (spcB_ok (f 179 rfl)).2.2, F⟩,
    s_Row_getitem := ((g 91 rfl)).elim fun fd F => ⟨_, fd, (spcB_ok (f 180 rfl)).1, (spcB_ok (f 180 rfl)).2.1, (spcB_ok (f 180 rfl)).2.2, F⟩,
    s_Row_len := ((g 92 rfl)).elim fun fd F => ⟨_, fd, (spcB_ok (f 181 rfl)).1, (spcB_ok (f 181 rfl)).2.1, (spcB_ok (f 181 rfl)).2.2, F⟩,
    s_Row_add := ((g 93 rfl)).elim fun fd F => ⟨_, fd, (spcB_ok (f 182 rfl)).1, (spcB_ok (f 182 rfl)).2.1, (spcB_ok (f 182 rfl)).2.2, F⟩,
    c_Clause_read := ((g 94 rfl)).elim fun fd F => ⟨.type "type", _, _, fd, (cmB_ok (f 183 rfl)).1, (cmB_ok (f 183 rfl)).2, F⟩,
    c_Change_read := ((g 95 rfl)).elim fun fd F => ⟨.type "type", _, _, fd, (cmB_ok (f 184 rfl)).1, (cmB_ok (f 184 rfl)).2, F⟩,
    x_BadClause := ⟨_, He.glo_ok X G (f 185 rfl)⟩,
    k_PLACES_changes := ⟨_, He.glo_ok X G (f 186 rfl), rfl⟩,
    z_PC := ⟨_, _, _, _, tupB_ok (f 187 rfl), tupB_ok (f 188 rfl), tupB_ok (f 189 rfl), tupB_ok (f 190 rfl), tupB_ok (f 191 rfl)⟩,
    t_Mode_Mode := of_decide_eq_true (f 192 rfl),
    t_Folder_Holder := of_decide_eq_true (f 193 rfl),
    t_File_Holder := of_decide_eq_true (f 194 rfl),
    t_Clause_Clause := of_decide_eq_true (f 195 rfl),
    t_User_User := of_decide_eq_true (f 196 rfl),
    t_Chief_User := of_decide_eq_true (f 197 rfl),
    t_Change_Change := of_decide_eq_true (f 198 rfl),
    t_Row_Row := of_decide_eq_true (f 199 rfl),
    t_Command_Row := of_decide_eq_true (f 200 rfl),
    t_int_Mode := of_decide_eq_true (f 201 rfl) }
theorem sx_of (c : Told0 w K) (X : K.In h) (G : h.Ns mainGlobals mg) : Sx MAINP K mg (adOf K) := by
  have f := fun i {φ} e => c.f i (φ := φ) e
  have g := fun i {ad} {name} {qual} {st} e => c.g i (ad := ad) (name := name) (qual := qual) (st := st) e
  have hs : mg "super" = none := He.free_ok X G (f 14 rfl)
  have ho := He.eqO_ok (f 204 rfl)
  refine ⟨?_, ?_, ?_, He.eqO_ok (f 213 rfl), of_decide_eq_true (f 214 rfl), of_decide_eq_true (f 215 rfl), of_decide_eq_true (f 216 rfl)⟩
  · obtain ⟨cc, cq, kV, doc, pm, an, ct, s⟩ := sup_of (c.ev 96 rfl) (f 202 rfl) hs ho
    exact ⟨_, cc, cq, kV, doc, pm, ct, an, s, He.mkr_ok (f 205 rfl), He.eqO_ok (f 207 rfl), of_decide_eq_true (f 208 rfl), (f 209 rfl)⟩
  · obtain ⟨cc, cq, kV, doc, pm, an, ct, s⟩ := sup_of (c.ev 97 rfl) (f 203 rfl) hs ho
    exact ⟨_, cc, cq, kV, doc, pm, ct, an, s, He.mkr_ok (f 206 rfl)⟩
  · obtain ⟨fd, F⟩ := (g 98 rfl)
    exact ⟨_, fd, He.eqO_ok (f 210 rfl), of_decide_eq_true (f 211 rfl), (f 212 rfl), F⟩
theorem ty_of (c : Told0 w K) (X : K.In h) (G : h.Ns mainGlobals mg) : Ty K (adOf K) := by
  have f := fun i {φ} e => c.f i (φ := φ) e
  refine ⟨?_, ?_, ?_, ?_⟩
  · obtain ⟨fd, F⟩ := dfl_of (c.ev 99 rfl) (f 218 rfl)
    exact ⟨_, fd, He.mkr_ok (f 217 rfl), F⟩
  · exact cconB_ok (f 219 rfl)
  · exact cconB_ok (f 220 rfl)
  · refine ⟨?_, (f 222 rfl), (f 223 rfl), ⟨_, He.eqO_ok (f 224 rfl)⟩, of_decide_eq_true (f 225 rfl), He.eqO_ok (f 226 rfl), He.eqO_ok (f 227 rfl)⟩
    intro z
    have h := (f 221 rfl)
    have z2 : He.ga K "Row" = He.ga K "Command" := z
    rw [decide_eq_true z2] at h
    cases h
theorem grown_at (c : Told0 w K) (X : K.In h) (G : h.Ns mainGlobals mg) : mg "_law_grown" = some (.ref (He.ga K "_law_grown")) ∧ PySem.W.keepIn K (.ref (He.ga K "_law_grown")) = true ∧ FunC K "_law_grown" "_law_grown" S__law_grown (He.ga K "_law_grown") (codeA K (He.ga K "_law_grown")) := by
  have f := fun i {φ} e => c.f i (φ := φ) e
  obtain ⟨fd, F⟩ := c.g 34 rfl
  exact ⟨He.glo_ok X G (f 88 rfl), F.kp, funC_of F⟩
theorem law_at (c : Told0 w K) (X : K.In h) (G : h.Ns mainGlobals mg) : mg "law" = some (.ref (He.ga K "law")) ∧ ∃ fd, Fun K "law" "law" S_law (He.ga K "law") fd := by
  have f := fun i {φ} e => c.f i (φ := φ) e
  exact ⟨He.glo_ok X G (f 95 rfl), c.g 41 rfl⟩
end
end Md
/-! Md, part 6: dicts of the module. -/
namespace Md
open PySem PySem.Spec PyProof.Rows L2
/-- k in d, k not in d -/
def rKd (K : PySem.W.Frag) (d : Addr) (neg : Bool) : R2 := fun x y H Q => ∃ (z : Str) (r : Option Value), x = .str z ∧ y = .ref d ∧ PySem.W.nsIn K d z = some r ∧ Q (.bl (if neg then !r.isSome else r.isSome)) H
def rKdG (K : PySem.W.Frag) (d : Addr) : R2 := fun x y H Q => ∃ (z : Str) (u0 : Value) (v0 : V), x = .ref d ∧ y = .str z ∧ PySem.W.nsIn K d z = some (some u0) ∧ RelV v0 u0 ∧ Q v0 H
section
variable {X : Cx} {K : PySem.W.Frag} {mg : Str → Option Value} {Γ : Gm} {n : Nat} {w : World} {d : Addr} {a b : Expr} {ta tb : TE} {pos : Pos}
theorem inKd_C (c : Cok X K mg Γ n) (D : ∃ es m, KDict K w d es m) (hw : X.w = w := by rfl) : OpR X (compareOp .In) (rKd K d false) := by
  obtain rfl := c.hK
  subst hw
  obtain ⟨es, m, D⟩ := D
  exact op_in_kd D
theorem notInKd_C (c : Cok X K mg Γ n) (D : ∃ es m, KDict K w d es m) (hw : X.w = w := by rfl) : OpR X (compareOp .NotIn) (rKd K d true) := by
  obtain rfl := c.hK
  subst hw
  obtain ⟨es, m, D⟩ := D
  exact op_notIn_kd D
theorem pe_kd (c : Cok X K mg Γ n) (D : ∃ es m, KDict K w d es m) (ha : PE X a ta) (hb : PE X b tb) (hs : NoSl b) (hw : X.w = w := by rfl) : PE X (.Subscript a b pos) (tOp (rKdG K d) ta tb) := by
  obtain rfl := c.hK
  subst hw
  obtain ⟨es, m, D⟩ := D
  refine ⟨fun pins s σ H Q I h => ?_⟩
  refine subD_of PySem.F.slot_dict_getitem.lookup hs (thn (ha.run pins s σ H _ I h) fun u s1 ⟨x, H1, I1, rx, q1⟩ => thn (hb.run pins s1 σ H1 _ I1 q1) fun iv s2 ⟨y, H2, I2, ry, q2⟩ => ?_)
  have k := op_item_kd D pins s2 σ H2 x y u iv Q I2 rx ry q2
  obtain ⟨z, u0, v0, ex, ey, e, r, q⟩ := q2
  subst ex
  obtain rfl : u = Value.ref d := rx
  exact ⟨kd_type D I2, k⟩
end
end Md
namespace PySem
open Sem (wp)
set_option maxHeartbeats 1000000 in
theorem md_enumerate_new {v : Value} {o : Obj} {H : Heap → Prop} (B : Begins v o H) :
    Meets (Builtin.«enumerate.__new__» ⟨[.type "enumerate", v], []⟩) (fun _ R s => H s.heap ∧
      R (.ok (.ret (.ref (s.heap.push o).objs.size))) { s with heap := (s.heap.push o).push { cls := .type "enumerate", data := .fields #[.none, .bool false, .ref s.heap.objs.size, rawInt 0, .none, .none] } }) :=
  .of_wp fun prog w A R s h => by
    obtain ⟨hp, g, d, tk, os⟩ := s; obtain ⟨h1, h⟩ := h
    have hsub := sub_enumerate
    have q1 : ∀ {A' : Around} {E : Value → Shared → Prop} {Q : Value → Shared → Prop}, Q (.ref hp.objs.size) ⟨hp.push o, g, d, tk, os⟩ → wpAny (model prog w) A' (pyIter v) Q E ⟨hp, g, d, tk, os⟩ :=
      fun q => B.iter prog w _ _ ⟨hp, g, d, tk, os⟩ _ h1 q
    wp_walk using q1
    refine wpAny_stack_any fun st => wpAny_pure ?_
    split
    · rename_i c _ _ _ _ _
      cases (c == Value.type "enumerate")
      · wp_walk using q1
        exact ⟨_, rfl, h⟩
      · wp_walk using q1
        exact ⟨_, rfl, h⟩
    · wp_walk using q1
      exact ⟨_, rfl, h⟩
section
variable {prog : Program} {w : World} {A : Around} {E : Value → Shared → Prop} {s : Shared}
theorem md_enum_begins {v : Value} {o : Obj} {H : Heap → Prop} {Q : Value → Shared → Prop} (B : Begins v o H) (h1 : H s.heap)
    (h : ∀ h', IsEnum h' (s.heap.objs.size + 1) s.heap.objs.size 0 .none → h'.get? s.heap.objs.size = some o → h'.objs.size = s.heap.objs.size + 2 →
      (∀ b o, s.heap.get? b = some o → h'.get? b = some o) → Q (.ref (s.heap.objs.size + 1)) { s with heap := h' }) :
    wpAny (model prog w) A (call (.type "enumerate") [v]) Q E s := by
  refine callType_new F.called_enumerate (by decide) (F.typeCall_enumerate_1 _) (F.newCall_enumerate_1 _) (fun obj => F.args_object_init_2 obj _) F.entry_enumerate_new
    (md_enumerate_new B) ⟨h1, ?_⟩
  have hz : (s.heap.push o).objs.size = s.heap.objs.size + 1 := Heap.size_push ..
  show _ ∧ _
  rw [hz]
  have he : IsEnum ((s.heap.push o).push { cls := .type "enumerate", data := .fields #[.none, .bool false, .ref s.heap.objs.size, rawInt 0, .none, .none] }) (s.heap.objs.size + 1) s.heap.objs.size 0 .none := by
    have := Heap.get?_push_size (s.heap.push o) (o := { cls := .type "enumerate", data := .fields #[.none, .bool false, .ref s.heap.objs.size, rawInt 0, .none, .none] }) rfl
    rw [hz] at this; exact this
  refine ⟨⟨_, he, rfl⟩, h _ he (Heap.get?_push_of_some _ (Heap.get?_push_size _ B.free)) (by rw [Heap.size_push, hz]) fun b o x => Heap.get?_push_of_some _ (Heap.get?_push_of_some _ x)⟩
end
end PySem
namespace Md
open PySem PySem.Spec PyProof.Rows L2
def YEnum (xs : List V) : Nat → List V → Prop := fun i vs => ∃ a, vs = [.int (i : Nat), a] ∧ xs[i]? = some a
theorem turn_enumA {P : Program} {w : World} {K : PySem.W.Frag} {elts : List Expr} {kk : Nat} {tpos : Pos} {k : Kd} {x : V} {xs : List V} {e it : Addr} (hne : e ≠ it) :
    Turn P w K (.Tuple elts kk tpos) (ItP xs.length (fun H => SrcAt k x xs H) (YEnum xs)) [e, it] e (fun i h => (∃ old, IsEnum h e it (0 + (i : Int)) old) ∧ ItAt k x it i h) := by
  refine turn_P (wr := [e, it]) (by simp) (fun b hb => hb) (fun i h st c hc => ?_) (fun i h h' st k => ?_) (fun A i s Q E st h => wpAny_pyIter_enum st.1.choose_spec h) (fun X hP hw hK hc i pins s σ H I hf st hG => ?_)
  · obtain ⟨⟨old, he⟩, h1⟩ := st
    have e' : c = e ∨ c = it := by simpa using hc
    rcases e' with q | q
    · rw [q]; exact ⟨_, he, fun v q => nomatch q⟩
    · rw [q]; exact h1.obj
  · obtain ⟨⟨old, he⟩, h1⟩ := st
    exact ⟨⟨old, k e (by simp) _ he⟩, h1.keeps (k it (by simp))⟩
  · subst hP hw hK
    obtain ⟨he, h1⟩ := st
    have hn : ∀ b ∈ [e, it], H b = none := fun b hb => (hf b hb).1
    have hh : X.A.in1.handled = none := I.ok.hd hc
    obtain ⟨fp1, P1, St1, D1, m1, f1, s1, b1, y1⟩ := src_draws (A := X.A.in1) I hG h1 (hn it (by simp)) hh
    have hef : e ∉ fp1 := notIn_src (hn e (by simp)) hne f1
    refine ⟨_, _, _, GoesN.enumFrom 0 D1 e hne hef m1, ⟨he, s1⟩, fun j h q => ⟨q.1, b1 _ _ q.2⟩, fun v h' q => ?_⟩
    obtain ⟨T, t, u, rfl, hT, p1, hTt⟩ := q
    obtain ⟨c, hc1, r1⟩ := y1 _ _ p1
    rw [Int.zero_add] at hTt
    exact ⟨T, _, [.int (i : Nat), c], rfl, hT, hTt, .cons ⟨t, rfl⟩ (.cons r1 .nil), by show 2 ≤ sizeLine; decide, c, rfl, hc1⟩
def iEnumA (ta : TA) : TI := fun σ H R => ta σ H fun vs H1 => ∃ k x xs, vs = [x] ∧ SrcAt k x xs H1 ∧ R (ItP xs.length (fun H => SrcAt k x xs H) (YEnum xs)) H1
theorem pi_enumA {X : Cx} {e : Expr} {ta : TA} {p pos tpos : Pos} {elts : List Expr} {kk : Nat} (hg : Gl X "enumerate") (hm : X.mg "enumerate" = none) (ha : PA X [e] ta) (hs : starEach [e] X.env = [(false, eval e X.env)] := by rfl) :
    PI X (.Tuple elts kk tpos) (.Call (.Name "enumerate" p) [e] [] pos) (iEnumA ta) := by
  refine ⟨fun pins s σ H R I h => ?_⟩
  refine Call_ (ld_blt I hg hm boot_enumerate (PyProof.Rows.callWith_type1 (thn (ha.run pos pins s σ H _ I h) fun us s1 ⟨vs, H1, I1, r1, q1⟩ => ?_) hs rfl))
  obtain ⟨k, x, xs, ex, hq, q⟩ := q1
  subst ex
  cases r1 with
  | cons r rr =>
    cases rr
    obtain ⟨o1, G1, B1, g1, t1⟩ := src_begins I1 hq r
    refine md_enum_begins B1 g1 fun h' he hit hsz hk => wpAny_pyIter_enum he ?_
    have I2 : Inv X pins σ H1 { s1 with heap := h' } := I1.kept (t' := s1.toks) hk
    refine ⟨s1.heap.objs.size + 1, [s1.heap.objs.size + 1, s1.heap.objs.size], _, _, H1, rfl, I2, turn_enumA (Nat.succ_ne_self _), ⟨⟨.none, he⟩, t1 _ _ hit⟩, fun b hb => ?_, q⟩
    have e' : b = s1.heap.objs.size + 1 ∨ b = s1.heap.objs.size := by simpa using hb
    have hle : s1.heap.objs.size ≤ b := by
      rcases e' with z | z
      · rw [z]; exact Nat.le_add_right _ _
      · rw [z]; exact Nat.le_refl _
    exact I1.fpOk hle (I1.hok.fresh hle)
end Md
/-! Md, part 8: tuple(text); own instances added. -/
namespace Md
open PySem PySem.Spec PyProof.Rows L2
theorem vals_of_get : ∀ (xs : List V) (us : List Value), xs.length = us.length → (∀ (j : Nat) u, us[j]? = some u → ∃ y, xs[j]? = some y ∧ RelV y u) → Vals xs us
  | [], [], _, _ => .nil
  | [], _ :: _, h, _ => by simp at h
  | _ :: _, [], h, _ => by simp at h
  | x :: xs, u :: us, h, g => by
    obtain ⟨y, e, r⟩ := g 0 u rfl
    have e' : x = y := Option.some.inj e
    subst e'
    exact .cons r (vals_of_get xs us (by simpa using h) fun j v hv => by
      obtain ⟨y, e, r⟩ := g (j + 1) v (by simpa using hv)
      exact ⟨y, by simpa using e, r⟩)
/-- a text's signs -/
def sgl (z : Str) : List V := z.cps.toList.map fun c => V.str ⟨#[c]⟩
theorem sgl_len (z : Str) : (sgl z).length = z.length := by
  unfold sgl
  rw [List.length_map, Array.length_toList]
  rfl
theorem tupS_C {X : Cx} {K : PySem.W.Frag} {mg : Str → Option Value} {Γ : Gm} {n : Nat} (c : Cok X K mg Γ n) (hc : X.calm = true) : CallR X (.type "tuple") (fun xs H Q => ∃ z, xs = [.str z] ∧ z.length ≤ sizeLine ∧ ∀ p, H p = none → Q (.ref p) (upd H p (.tup (sgl z)))) := by
  intro pins s σ H xs us Q I r h
  obtain ⟨z, rfl, hz, q⟩ := h
  obtain ⟨u, rfl, t, rfl⟩ := vals1 r
  refine call_tuple_str (I.ok.hd hc) z t (fun h' tk acc kp hacc => ?_) hz
  have I1 : Inv X pins σ H { s with heap := h', toks := tk } := I.kept (t' := tk) kp
  have rv : Vals (sgl z) acc.toList := by
    refine vals_of_get _ _ ?_ fun j v hv => ?_
    · rw [sgl_len, Array.length_toList, hacc.1]
      rfl
    · obtain ⟨d, t', hd, rfl⟩ := hacc.2 j v (by simpa using hv)
      refine ⟨.str ⟨#[d]⟩, ?_, ⟨t', rfl⟩⟩
      unfold sgl
      rw [List.getElem?_map, Array.getElem?_toList, hd]
      rfl
  have I2 : Inv X pins σ (upd H h'.objs.size (.tup (sgl z))) { s with heap := h'.push { cls := .type "tuple", data := .seq acc }, toks := tk } :=
    I1.laid (t' := tk) (fun b o e => Heap.get?_push_of_some _ e) (Nat.le_refl _) (show ObjOk X.prog X.w _ _ _ (.tup (sgl z)) from ⟨by rw [sgl_len]; exact hz, acc.toList, rv, by
      have := IsTup.new h' acc
      simpa using this⟩)
  exact ⟨.ref h'.objs.size, _, I2, rfl, q _ (I1.hok.fresh (Nat.le_refl _))⟩
end Md
/-! Md, part 10: *a, b = t; try whose body lets nothing out. -/
namespace Md
open PySem PySem.Spec PyProof.Rows L2 PySem.W
theorem star_tuple {prog : Program} {w : World} {A : Around} {E : Value → Shared → Prop} {s : Shared} {l : Addr} {items : Array Value} {n i : Nat} {Q : List Value → Shared → Prop} (hl : IsTup s.heap l items) (hh : A.handled = none) (hi : i < n) (hn : n ≤ items.size + 1) (hz : items.size ≤ 16384)
    (h : ∀ (h' : Heap) (tk : Nat), (∀ b o, s.heap.get? b = some o → h'.get? b = some o) →
      Q (items.toList.take i ++ [.ref h'.objs.size] ++ (items.toList.drop i).drop (items.size + 1 - n)) { s with heap := h'.push { cls := .type "list", data := .seq ((items.toList.drop i).take (items.size + 1 - n)).toArray }, toks := tk }) :
    wpAny (model prog w) A (unpackItems (.ref l) n (some i)) Q E s := by
  have hlt : l ≠ s.heap.objs.size := by obtain ⟨o, ho, _⟩ := hl; exact Nat.ne_of_lt (Heap.lt_size ho)
  have hll : l < s.heap.objs.size := by obtain ⟨o, ho, _⟩ := hl; exact Heap.lt_size ho
  unfold unpackItems
  refine wpAny_bind ?_
  unfold notIterableAtAll
  refine wpAny_bind (wpAny_specialOf hl.typeIs slot_tuple_iter.lookup ?_)
  refine wpAny_pure ?_
  simp only [Bool.false_eq_true, if_false]
  refine wpAny_bind (wpAny_holding (iter_tuple hl ?_))
  refine wpAny_bind (wpAny_holding (draw_tuple hlt i 0 _ _ ⟨_, Heap.get?_push_size _ rfl, rfl, rfl⟩ (hl.push _) (by omega) fun h₁ hit₁ hs₁ => ?_))
  have hl₁ : IsTup h₁ l items := (hl.push _).extBut hs₁.extBut hlt
  rw [Nat.zero_add] at hit₁
  have hit₁' := hit₁
  obtain ⟨oi, hoi, _⟩ := hit₁'
  have hl₁' := hl₁
  obtain ⟨ol, hol, _⟩ := hl₁'
  rw [List.drop_zero]
  have hfl : (items.toList.take i).length = i := by rw [List.length_take, Array.length_toList]; omega
  rw [if_neg (show ¬ ((items.toList.take i).length < i) by rw [hfl]; omega)]
  refine wpAny_bind (wpAny_holding (kun_collect (s := { s with heap := h₁ }) (T := "tuple_iterator") (.inr (.inr (.inr rfl))) (Walks.tuple (A := A.in1) hh s.heap.objs.size l hlt items) (fun j u st => st.1.typeIs) (k := i) (by omega) ⟨hit₁, hl₁⟩ (Heap.lt_size hoi) (Heap.lt_size hol) (fun h₂ tk hk => ?_) (by rw [sizeLine_eq]; omega)))
  have hrl : (items.toList.drop i).length = items.size - i := by rw [List.length_drop, Array.length_toList]
  have hmid : (items.toList.drop i).length - (n - 1 - i) = items.size + 1 - n := by rw [hrl]; omega
  show wpAny _ _ (if (items.toList.drop i).length < n - 1 - i then _ else _) _ _ _
  rw [if_neg (by rw [hrl]; omega)]
  show wpAny _ _ (newList ((items.toList.drop i).take ((items.toList.drop i).length - (n - 1 - i))) >>= fun d => pure (items.toList.take i ++ [d] ++ (items.toList.drop i).drop ((items.toList.drop i).length - (n - 1 - i)))) _ _ _
  rw [hmid]
  have he : ∀ b o, s.heap.get? b = some o → h₂.get? b = some o := fun b o e =>
    have hb : b ≠ s.heap.objs.size := Nat.ne_of_lt (Heap.lt_size e)
    hk b o hb (hs₁.extBut b o hb (Heap.get?_push_of_some _ e))
  refine wpAny_bind (wpAny_newObj_type ?_ (by show ((items.toList.drop i).take (items.size + 1 - n)).toArray.size ≤ sizeLine; rw [List.size_toArray, List.length_take, hrl, sizeLine_eq]; omega))
  exact wpAny_pure (h h₂ tk he)
/-- *a, b = a tuple -/
def gStar0 (K : PySem.W.Frag) (t : TGs) : TG := fun v σ H Q => ∃ a xs y, v = .ref a ∧ SqT K H a (xs ++ [y]) ∧ xs.length ≤ 1000 ∧ ∀ D, H D = none → t [.ref D, y] σ (upd H D (.lst xs)) Q
section
variable {X : Cx} {K : PySem.W.Frag} {mg : Str → Option Value} {Γ : Gm} {n : Nat} {pos p1 : Pos}
theorem pg_star0 (c : Cok X K mg Γ n) {e1 e2 : Expr} {k : Nat} {t : TGs} (hc : X.calm = true) (h : PGs X [e1, e2] t)
    (hlen : (assignEach [.Starred e1 p1, e2] X.env).length = 2 := by rfl) (hst : (assignEach [.Starred e1 p1, e2] X.env).findIdx? (·.1) = some 0 := by rfl)
    (hm : (assignEach [.Starred e1 p1, e2] X.env).map (·.2) = (assignEach [e1, e2] X.env).map (·.2) := by rfl) : PG X (.Tuple [.Starred e1 p1, e2] k pos) (gStar0 K t) := by
  obtain rfl := c.hK
  refine ⟨fun pins s σ H v u Q I r hw => ?_⟩
  obtain ⟨a, xs, y, e1', hq, hl, hw⟩ := hw
  subst e1'
  cases r
  obtain ⟨its, rv, ht, hz⟩ := I.tuple hq
  have hlen2 : its.length = xs.length + 1 := by rw [← rv.length, List.length_append]; rfl
  rw [assign_Tuple]
  refine wpAny_bind (wpAny_standAt ?_)
  unfold unpack
  rw [hlen, hst]
  refine wpAny_bind (wpAny_holding (star_tuple ht (I.ok.hd hc) (by decide) (by rw [List.size_toArray]; omega) (by rw [List.size_toArray]; omega) fun h' tk kp => ?_))
  have e0 : its.toArray.size + 1 - 2 = xs.length := by rw [List.size_toArray]; omega
  have e1 : its.toArray.toList = its := by simp
  rw [e0, e1, List.take_zero, List.drop_zero]
  have rt : Vals xs (its.take xs.length) := by
    have := Vals.take xs.length rv
    rw [List.take_left'  rfl] at this
    exact this
  have rd : Vals [y] (its.drop xs.length) := by
    have := Vals.drop xs.length rv
    rw [List.drop_left' rfl] at this
    exact this
  have I1 : Inv X pins σ H { s with heap := h', toks := tk } := I.kept (t' := tk) kp
  have I2 : Inv X pins σ (upd H h'.objs.size (.lst xs)) { s with heap := h'.push { cls := .type "list", data := .seq (its.take xs.length).toArray }, toks := tk } :=
    I1.laid (t' := tk) (fun b o e => Heap.get?_push_of_some _ e) (Nat.le_refl _) (show ObjOk X.prog X.w _ _ _ (.lst xs) from ⟨zl (by omega), _, _, rt, Heap.get?_push_size _ rfl⟩)
  rw [hm]
  refine h.run pins _ σ _ [.ref h'.objs.size, y] _ Q I2 ?_ (hw _ (I1.hok.fresh (Nat.le_refl _)))
  show Vals _ ([] ++ [Value.ref h'.objs.size] ++ _)
  exact .cons rfl rd
theorem Cok.t (c : Cok X K mg Γ n) {pn : List (Addr × Obj)} {xe : Value → Shared → Prop} : Cok (X.tr pn xe) K mg Γ n := ⟨c.hK, c.hm, c.fn, c.room⟩
theorem ps_tryN {x : Str} {u : Value} {body suite : List Stmt} {b₀ : Stmt} {np pos' : Pos} {tb : TS} (hs : X.stack = X.env :: X.outer) (hf : X.env.frame = some X.env.locals) (hc : L2.Names X x u)
    (hb : ∀ (pn : List (Addr × Obj)) (xe : Value → Shared → Prop), PSs (X.tr pn xe) body tb) :
    PS X (.Try body [.ExceptHandler (some (.Name x np)) none (b₀ :: suite) pos'] [] [] pos) tb :=
  ps_try_only (Wout := fun _ _ _ _ => False) (ts := fun _ _ _ => tNever) (tb := fun _ => tb) hs hf hc takes0 (fun W pn xe _ _ => hb pn xe) fun a oe cls d pn _ _ => pss_never
end
end Md
/-! Md: names and paths, plain. -/
namespace Md
open PySem PySem.Spec PyProof.Rows L2 TL

def lets : List Nat := ("abcdefghijklmnopqrstuvwxyz" : Str).cps.toList
/-- a name -/
def Nm (z : Str) : Prop := 1 ≤ z.length ∧ z.length ≤ 8 ∧ ∀ c ∈ z.cps.toList, c ∈ lets
/-- the text of a path: '' or its names with '/' between -/
def pth (ns : List Str) : Str := Str.join "/" ns
def Nms (ns : List Str) : Prop := ∀ n ∈ ns, Nm n
theorem slash_eq : tl ("/" : Str) = [47] := by decide +kernel
theorem lets_no : 47 ∉ lets := by decide +kernel
theorem Nm.no {z : Str} (h : Nm z) : 47 ∉ tl z := fun m => lets_no (h.2.2 47 m)
theorem pth_nil : pth [] = ("" : Str) := by decide +kernel
theorem pth_one (n : Str) : pth [n] = n := rfl
theorem str_assoc (a b c : Str) : a ++ b ++ c = a ++ (b ++ c) := by
  apply ext_tl
  rw [tl_append, tl_append, tl_append, tl_append, List.append_assoc]
theorem pth_snoc : ∀ {ns : List Str} (n : Str), ns ≠ [] → pth (ns ++ [n]) = pth ns ++ "/" ++ n
  | [], _, h => absurd rfl h
  | [a], n, _ => rfl
  | a :: b :: r, n, _ => by
    have ih := pth_snoc (ns := b :: r) n (by simp)
    show a ++ "/" ++ pth ((b :: r) ++ [n]) = a ++ "/" ++ pth (b :: r) ++ "/" ++ n
    rw [ih]
    simp only [str_assoc]
theorem split_pth {ns : List Str} (hne : ns ≠ []) (h : Nms ns) : Txt.split (pth ns) "/" = ns := by
  have := split_join (y := ("/" : Str)) (s := 47) (S := []) slash_eq (by decide +kernel) hne fun p hp => (h p hp).no
  rw [join_eq] at this
  exact this
theorem slen (z : Str) : z.length = (tl z).length := by
  show z.cps.size = z.cps.toList.length
  exact Array.length_toList.symm
theorem slen_app (a b : Str) : (a ++ b).length = a.length + b.length := by rw [slen, tl_append, List.length_append, ← slen, ← slen]
theorem pth_len {ns : List Str} (h : Nms ns) : (pth ns).length ≤ 9 * ns.length := by
  have h1 := StrLaws.join_length_le "/" ns
  have h2 : (ns.map (·.length)).sum ≤ 8 * ns.length := by
    clear h1
    induction ns with
    | nil => exact Nat.zero_le _
    | cons n r ih =>
      have a := (h n (List.mem_cons_self ..)).2.1
      have b := ih fun m hm => h m (List.mem_cons_of_mem _ hm)
      simp only [List.map_cons, List.sum_cons, List.length_cons]
      omega
  have h3 : ("/" : Str).length = 1 := by decide +kernel
  rw [h3] at h1
  show (Str.join "/" ns).length ≤ _
  omega
theorem pth_pos {ns : List Str} (hne : ns ≠ []) (h : Nms ns) : 1 ≤ (pth ns).length := by
  match ns, hne with
  | [a], _ => exact (h a (List.mem_cons_self ..)).1
  | a :: b :: r, _ =>
    show 1 ≤ (a ++ "/" ++ pth (b :: r)).length
    have := (h a (List.mem_cons_self ..)).1
    rw [slen_app, slen_app]
    omega
theorem pth_ne {ns : List Str} (hne : ns ≠ []) (h : Nms ns) : pth ns ≠ ("" : Str) := fun e => by
  have := pth_pos hne h
  rw [e] at this
  exact absurd this (by decide +kernel)
theorem pth_eq_nil {ns : List Str} (h : Nms ns) : decide (V.str (pth ns) = V.str "") = decide (ns = []) := by
  by_cases e : ns = []
  · subst e
    rw [pth_nil]
    simp
  · rw [decide_eq_false e]
    exact decide_eq_false fun q => pth_ne e h (V.str.inj q)
theorem pth_inj {ns ms : List Str} (h : Nms ns) (h' : Nms ms) (e : pth ns = pth ms) : ns = ms := by
  by_cases a : ns = []
  · subst a
    by_cases b : ms = []
    · exact b.symm
    · rw [pth_nil] at e
      exact absurd e.symm (pth_ne b h')
  · by_cases b : ms = []
    · subst b
      rw [pth_nil] at e
      exact absurd e (pth_ne a h)
    · rw [← split_pth a h, e, split_pth b h']
theorem Nms.snoc {ns : List Str} {n : Str} (h : Nms ns) (hn : Nm n) : Nms (ns ++ [n]) := fun m hm => by
  rcases List.mem_append.mp hm with q | q
  · exact h m q
  · rw [List.mem_singleton.mp q]; exact hn
end Md
/-! Md: bits, plain. -/
namespace Md
open PySem PySem.Spec PyProof.Rows
def pbits (pl p : Int) : Int := ((List.range 3).map fun i : Nat => (Builtin.bitAnd (p / 2 ^ ((i : Int)).toNat) 1) * 2 ^ (3 * (i : Int) + pl).toNat).sum
def pat (m pl : Int) : Int := ((List.range 3).map fun i : Nat => (Builtin.bitAnd (m / 2 ^ (3 * (i : Int) + pl).toNat) 1) * 2 ^ ((i : Int)).toNat).sum
def wpat (m pl p : Int) : Int := Builtin.bitOr (Builtin.bitAnd m (Builtin.bitNot (pbits pl 7))) (pbits pl p)
/-- a letter and its place -/
inductive Ltr : Str → Int → Prop where
  | r : Ltr "r" 2
  | w : Ltr "w" 1
  | x : Ltr "x" 0
theorem Ltr.rng {z : Str} {p : Int} (h : Ltr z p) : 0 ≤ p ∧ p ≤ 2 := by cases h <;> decide
theorem int_fin {n : Nat} {p : Int → Prop} (h : ∀ i : Fin n, p (i : Nat)) : ∀ i : Int, 0 ≤ i → i < n → p i := fun i h0 h1 => by
  have := h ⟨i.toNat, by omega⟩
  have e : ((i.toNat : Nat) : Int) = i := by omega
  rw [← e]
  exact this
theorem pat_rng {m pl : Int} (h0 : 0 ≤ m) (h1 : m ≤ 511) (h2 : 0 ≤ pl) (h3 : pl ≤ 2) : 0 ≤ pat m pl ∧ pat m pl ≤ 7 := by
  have := int_fin (n := 512) (p := fun m => ∀ q : Fin 3, 0 ≤ pat m (q : Nat) ∧ pat m (q : Nat) ≤ 7) (by decide +kernel) m h0 (by omega)
  exact int_fin (n := 3) (p := fun pl => 0 ≤ pat m pl ∧ pat m pl ≤ 7) this pl h2 (by omega)
theorem wpat_rng {m pl p : Int} (h0 : 0 ≤ m) (h1 : m ≤ 511) (h2 : 0 ≤ pl) (h3 : pl ≤ 2) (h4 : 0 ≤ p) (h5 : p ≤ 7) : 0 ≤ wpat m pl p ∧ wpat m pl p ≤ 511 := by
  have := int_fin (n := 512) (p := fun m => ∀ q : Fin 3, ∀ r : Fin 8, 0 ≤ wpat m (q : Nat) (r : Nat) ∧ wpat m (q : Nat) (r : Nat) ≤ 511) (by decide +kernel) m h0 (by omega)
  have := int_fin (n := 3) (p := fun pl => ∀ r : Fin 8, 0 ≤ wpat m pl (r : Nat) ∧ wpat m pl (r : Nat) ≤ 511) this pl h2 (by omega)
  exact int_fin (n := 8) (p := fun p => 0 ≤ wpat m pl p ∧ wpat m pl p ≤ 511) this p h4 (by omega)
theorem bit1_small {x : Int} (h0 : 0 ≤ x) (h1 : x ≤ 511) : (Builtin.bitAnd x 1).natAbs < 2 ^ 64 := int_fin (n := 512) (p := fun x => (Builtin.bitAnd x 1).natAbs < 2 ^ 64) (by decide +kernel) x h0 (by omega)
theorem div_rng {x : Int} {k : Nat} (h0 : 0 ≤ x) (h1 : x ≤ 511) : 0 ≤ x / 2 ^ k ∧ x / 2 ^ k ≤ 511 :=
  ⟨Int.ediv_nonneg h0 (Int.le_of_lt (Int.pow_pos (by decide))), Int.le_trans (Int.ediv_le_self _ h0) h1⟩
end Md
/-! Md, part 15: a list or a tuple, walked. -/
namespace Md
open PySem PySem.Spec PyProof.Rows L2
def iSeq (K : PySem.W.Frag) (tl : TE) : TI := fun σ H R => tl σ H fun x H1 => ∃ a, x = .ref a ∧ ((∃ xs, SqL K H1 a xs) ∧ R (Itl K a) H1 ∨ (∃ xs, SqT K H1 a xs) ∧ R (Itt K a) H1)
theorem pi_seqC {X : Cx} {K : PySem.W.Frag} {mg : Str → Option Value} {Γ : Gm} {n : Nat} {l tg : Expr} {tl : TE} (c : Cok X K mg Γ n) (hl : PE X l tl) : PI X tg l (iSeq K tl) := by
  obtain rfl := c.hK
  refine ⟨fun pins s σ H R I h => ?_⟩
  refine thn (hl.run pins s σ H _ I h) fun v s1 ⟨x, H1, I1, r1, q1⟩ => ?_
  obtain ⟨a, e, q⟩ := q1
  subst e
  cases r1
  rcases q with ⟨⟨xs, hq⟩, q⟩ | ⟨⟨xs, hq⟩, q⟩
  · obtain ⟨its, rv, p, hz⟩ := I1.list hq
    refine wpAny_pyIter_list p.isList ?_
    refine ⟨s1.heap.objs.size, [s1.heap.objs.size], _, _, H1, rfl, I1.kept (t' := s1.toks) fun b o e => Heap.get?_push_of_some _ e, turn_list a _, ⟨_, Heap.get?_push_size _ rfl, rfl, rfl⟩, fun b hb => ?_, q⟩
    have e : b = s1.heap.objs.size := by simpa using hb
    subst e
    exact I1.fpOk (Nat.le_refl _) (I1.hok.fresh (Nat.le_refl _))
  · obtain ⟨its, rv, p, hz⟩ := I1.tuple hq
    refine wpAny_pyIter_tuple (show s1.heap.IsTuple a its.toArray from p) ?_
    refine ⟨s1.heap.objs.size, [s1.heap.objs.size], _, _, H1, rfl, I1.kept (t' := s1.toks) fun b o e => Heap.get?_push_of_some _ e, turn_tuple a _, ⟨_, Heap.get?_push_size _ rfl, rfl, rfl⟩, fun b hb => ?_, q⟩
    have e : b = s1.heap.objs.size := by simpa using hb
    subst e
    exact I1.fpOk (Nat.le_refl _) (I1.hok.fresh (Nat.le_refl _))
/-- a for over either: one invariant -/
theorem for_seq {K : PySem.W.Frag} {a : Addr} {xs : List V} {H0 : Hp} {g : TG} {tb : TS} {D : Ends} {σ : L2.St} (hx : SqL K H0 a xs ∨ SqT K H0 a xs) (Pv : Nat → L2.St → Hp → Prop) (h0 : Pv 0 σ H0) (hE : ∀ i σ H, Pv i σ H → Ex H0 H)
    (hs : ∀ i x σ H, xs[i]? = some x → Pv i σ H → g x σ H fun σ2 H2 => tb { D with nx := Pv (i + 1), ct := Pv (i + 1), bk := D.nx } σ2 H2) (hd : ∀ σ H, Pv xs.length σ H → D.nx σ H) :
    (∃ ys, SqL K H0 a ys) ∧ (∃ W : Nat → Nat → L2.St → Hp → Prop, (∃ m, W 0 m σ H0) ∧ ∀ i m σ H, W i m σ H → ((Itl K a).stop i H ∧ D.nx σ H) ∨ ((Itl K a).go i H ∧ ∃ N : L2.St → Hp → Prop, (∀ σ' H', N σ' H' → ∃ m', m' < m ∧ W (i + 1) m' σ' H') ∧ ∀ x H', (Itl K a).yld i H x H' → g x σ H' fun σ2 H2 => tb { D with nx := N, ct := N, bk := D.nx } σ2 H2)) ∨
    (∃ ys, SqT K H0 a ys) ∧ (∃ W : Nat → Nat → L2.St → Hp → Prop, (∃ m, W 0 m σ H0) ∧ ∀ i m σ H, W i m σ H → ((Itt K a).stop i H ∧ D.nx σ H) ∨ ((Itt K a).go i H ∧ ∃ N : L2.St → Hp → Prop, (∀ σ' H', N σ' H' → ∃ m', m' < m ∧ W (i + 1) m' σ' H') ∧ ∀ x H', (Itt K a).yld i H x H' → g x σ H' fun σ2 H2 => tb { D with nx := N, ct := N, bk := D.nx } σ2 H2)) := by
  rcases hx with hx | hx
  · refine .inl ⟨⟨_, hx⟩, for_it (walk_list (xs := xs)) Pv h0 (fun i σ H _ p => sql (hE _ _ _ p) hx) (fun i x σ H H' hi p y => ?_) hd⟩
    obtain ⟨rfl, y⟩ := y
    exact hs i x σ _ y p
  · refine .inr ⟨⟨_, hx⟩, for_it (walk_tup (xs := xs)) Pv h0 (fun i σ H _ p => sqt (hE _ _ _ p) hx) (fun i x σ H H' hi p y => ?_) hd⟩
    obtain ⟨rfl, y⟩ := y
    exact hs i x σ _ y p
end Md
/-! Md: clauses, plain. -/
namespace Md
open PySem PySem.Spec PyProof.Rows L2
def plc (z l : Str) : List Int := z.cps.toList.map fun c => Txt.find l ⟨#[c]⟩
def someB (z l : Str) : Bool := !inV (.int (-1)) ((plc z l).map V.int) && ((List.range (min (plc z l).length ((plc z l).drop 1).length)).map fun i => decide ((plc z l).getD i 0 < ((plc z l).drop 1).getD i 0)).all id
structure Cl where
  who : Str
  sign : Str
  what : Str
def whoM : List Str := ["u", "g", "o", "ugo", "ug", "go", "uo"]
def signM : List Str := ["+", "-", "="]
def whatM : List Str := ["r", "x", "rx", "rwx", "w", "X", "rX", "rwX", "", "u", "g", "o"]
structure ClOk (c : Cl) : Prop where
  who : c.who ∈ whoM
  sign : c.sign ∈ signM
  what : c.what ∈ whatM
def bitOf (c : Nat) : Int := if c = 117 then 4 else if c = 103 then 2 else 1
def obits (who : Str) : Int := (who.cps.toList.map bitOf).sum
def kb (z : Str) : Option Int := if z = "u" then some 4 else if z = "g" then some 2 else if z = "o" then some 1 else none
def takesB (what l : Str) (p : Int) (form : Str) : Bool :=
  match kb what with
  | some i => decide (0 < Builtin.bitAnd p i)
  | none => decide (l.cps.toList.headD 0 ∈ what.cps.toList) || (decide (l = "x") && (decide (88 ∈ what.cps.toList) && (decide (form = "folder") || decide (0 < p))))
def movedI (c : Cl) (l : Str) (p : Int) (form : Str) : Int :=
  if takesB c.what l p form then (if c.sign = "-" then Builtin.bitAnd p (Builtin.bitNot (obits c.who)) else Builtin.bitOr p (obits c.who))
  else if c.sign = "=" then Builtin.bitAnd p (Builtin.bitNot (obits c.who)) else p
theorem who_ok : ∀ z ∈ whoM, z ≠ "" ∧ z ≠ "a" ∧ z.length ≤ 100 ∧ someB z "ugo" = true ∧ (∀ c ∈ z.cps.toList, c = 117 ∨ c = 103 ∨ c = 111) ∧ 0 ≤ obits z ∧ obits z ≤ 7 := by decide +kernel
theorem sign_ok : ∀ z ∈ signM, inV (.str z) (sgl "+-=") = true := by decide +kernel
theorem what_ok : ∀ z ∈ whatM, z.length ≤ 100 ∧ (someB z "rwxX" = true ∨ inV (.str z) (sgl "ugo") = true) := by decide +kernel
theorem bits_rng {p b : Int} (h0 : 0 ≤ p) (h1 : p ≤ 7) (h2 : 0 ≤ b) (h3 : b ≤ 7) : (0 ≤ Builtin.bitAnd p (Builtin.bitNot b) ∧ Builtin.bitAnd p (Builtin.bitNot b) ≤ 7) ∧ (0 ≤ Builtin.bitOr p b ∧ Builtin.bitOr p b ≤ 7) := by
  have := int_fin (n := 8) (p := fun p => ∀ q : Fin 8, (0 ≤ Builtin.bitAnd p (Builtin.bitNot (q : Nat)) ∧ Builtin.bitAnd p (Builtin.bitNot (q : Nat)) ≤ 7) ∧ (0 ≤ Builtin.bitOr p (q : Nat) ∧ Builtin.bitOr p (q : Nat) ≤ 7)) (by decide +kernel) p h0 (by omega)
  exact int_fin (n := 8) (p := fun b => (0 ≤ Builtin.bitAnd p (Builtin.bitNot b) ∧ Builtin.bitAnd p (Builtin.bitNot b) ≤ 7) ∧ (0 ≤ Builtin.bitOr p b ∧ Builtin.bitOr p b ≤ 7)) this b h2 (by omega)
theorem moved_rng {c : Cl} {l : Str} {p : Int} {form : Str} (h : ClOk c) (h0 : 0 ≤ p) (h1 : p ≤ 7) : 0 ≤ movedI c l p form ∧ movedI c l p form ≤ 7 := by
  obtain ⟨_, _, _, _, _, b0, b1⟩ := who_ok _ h.who
  obtain ⟨a, b⟩ := bits_rng h0 h1 b0 b1
  unfold movedI
  split
  · split
    · exact a
    · exact b
  · split
    · exact a
    · exact ⟨h0, h1⟩
def ctext (c : Cl) : Str := c.who ++ c.sign ++ c.what
def sgs : List Nat := ("+-=" : Str).cps.toList
def rdB (a b d : Str) : Bool :=
  let t := a ++ b ++ d
  (List.range a.length).all (fun i => !decide (t.cps.toList.getD i 0 ∈ sgs)) && decide (t.cps.toList.getD a.length 0 ∈ sgs) && decide (b = ⟨#[t.cps.toList.getD a.length 0]⟩) &&
  decide (cutS t none (some (a.length : Int)) = a) && decide (cutS t (some ((a.length : Int) + 1)) none = d) && !decide (44 ∈ t.cps.toList) && decide (t.length ≤ 20) && decide (a.length < t.length)
theorem rdB_all : ∀ a ∈ whoM, ∀ b ∈ signM, ∀ d ∈ whatM, rdB a b d = true := by decide +kernel
structure RdOk (c : Cl) : Prop where
  before : ∀ i, i < c.who.length → (ctext c).cps.toList.getD i 0 ∉ sgs
  at_ : (ctext c).cps.toList.getD c.who.length 0 ∈ sgs
  sg : c.sign = ⟨#[(ctext c).cps.toList.getD c.who.length 0]⟩
  w1 : cutS (ctext c) none (some (c.who.length : Int)) = c.who
  w2 : cutS (ctext c) (some ((c.who.length : Int) + 1)) none = c.what
  nc : 44 ∉ (ctext c).cps.toList
  len : (ctext c).length ≤ 20
  lt : c.who.length < (ctext c).length
theorem ClOk.rd {c : Cl} (h : ClOk c) : RdOk c := by
  have := rdB_all _ h.who _ h.sign _ h.what
  unfold rdB at this
  simp only [Bool.and_eq_true, List.all_eq_true, List.mem_range, Bool.not_eq_true', decide_eq_true_eq, decide_eq_false_iff_not] at this
  obtain ⟨⟨⟨⟨⟨⟨⟨a, b⟩, d⟩, e⟩, f⟩, g⟩, h⟩, i⟩ := this
  exact ⟨a, b, d, e, f, g, h, i⟩
/-- what a change's clauses make of a pattern -/
def chMoved (cs : List Cl) (l : Str) (p : Int) (form : Str) : Int := cs.foldl (fun q c => movedI c l q form) p
theorem chMoved_rng {cs : List Cl} {l form : Str} (h : ∀ c ∈ cs, ClOk c) : ∀ {p : Int}, 0 ≤ p → p ≤ 7 → 0 ≤ chMoved cs l p form ∧ chMoved cs l p form ≤ 7 := by
  induction cs with
  | nil => exact fun h0 h1 => ⟨h0, h1⟩
  | cons c r ih =>
    intro p h0 h1
    obtain ⟨a, b⟩ := moved_rng (l := l) (form := form) (h c (List.mem_cons_self ..)) h0 h1
    exact ih (fun d hd => h d (List.mem_cons_of_mem _ hd)) a b
/-- a change at a letter -/
def chStep (cs : List Cl) (l : Str) (pl : Int) (form : Str) (m : Int) : Int := wpat m pl (chMoved cs l (pat m pl) form)
def applyCh (cs : List Cl) (form : Str) (m : Int) : Int := chStep cs "x" 0 form (chStep cs "w" 1 "file" (chStep cs "r" 2 "file" m))
theorem chStep_rng {cs : List Cl} {l : Str} {pl : Int} {form : Str} {m : Int} (h : ∀ c ∈ cs, ClOk c) (l0 : 0 ≤ pl) (l1 : pl ≤ 2) (m0 : 0 ≤ m) (m1 : m ≤ 511) : 0 ≤ chStep cs l pl form m ∧ chStep cs l pl form m ≤ 511 := by
  obtain ⟨a, b⟩ := pat_rng m0 m1 l0 l1
  obtain ⟨d, e⟩ := chMoved_rng (l := l) (form := form) h a b
  exact wpat_rng m0 m1 l0 l1 d e
end Md
/-! Md: the defs of names. -/
namespace Md
open PySem PySem.Spec PyProof.Rows L2

def spIsName : Sp := fun vs H Q _ => ∃ z, vs = [.str z] ∧ Nm z ∧ ∀ H', Ex H H' → Q (.bl true) H'
def spIsPath : Sp := fun vs H Q _ => ∃ ns, vs = [.str (pth ns)] ∧ Nms ns ∧ ns.length ≤ 1000 ∧ ∀ H', Ex H H' → Q (.bl true) H'
def spNamesOf : Sp := fun vs H Q _ => ∃ ns, vs = [.str (pth ns)] ∧ Nms ns ∧ ns.length ≤ 1000 ∧ ∀ p H', Ex H H' → H p = none → H' p = some (.tup (ns.map V.str)) → Q (.ref p) H'
def spIsInt : Sp := fun vs H Q _ => ∃ x lo hi : Int, vs = [.int x, .int lo, .int hi] ∧ ∀ H', Ex H H' → Q (.bl (decide (lo ≤ x) && decide (x ≤ hi))) H'

section
variable {P : Program} {w : World} {K : PySem.W.Frag} {mg : Str → Option Value} {base : Heap} {A : Ad}
theorem fn_is_name (T : Tx K mg w A) : ∀ f fd, Fun K "is_name" "is_name" S_is_name f fd → Fn P w K mg base f 1 spIsName := by
  intro f fd F
  refine fnr_of (k := 0) F sc_is_name (fun _ _ _ _ _ _ us hl => match us, hl with | [_], _ => rfl) (fun vs H Q E h => by obtain ⟨z, rfl, _⟩ := h; rfl) fun f cdv Ar outer s H vs Q E c h => ?_
  have hr := c.room
  have nd := sc_is_name.nd
  obtain ⟨z, rfl, ⟨h1, h2, h3⟩, q⟩ := h
  refine ⟨_, (pss_cons (ps_if (PW.pt (pw_or (pt_not (pt_val (pe_callB (isi_C c) (by rfl) T.b_isinstance (by decide +kernel) (pa_cons (pv 0) (pa_cons (pe_bltn (by rfl) T.b_str (by decide +kernel) (v := .ty "str") rfl) pa_nil))))) (pw_or1 (pt_not (pt_chain op_le op_le pe_int (pe_callB call_len_str (by rfl) T.b_len PySem.boot_len (pa_cons (pv 0) pa_nil)) (pe_gc (by rfl) T.k_LONGEST_NAME)))))) (pss_one (ps_ret pe_bl)) pss_nil)
 (pss_one (ps_ret (pe_callB (all_C c rfl) (by rfl) T.b_all (by decide +kernel) (pa_cons (pe_lc (own := [("sign", 1)]) (g := gName 1) rfl nd (pi_str (pv 0)) (blkOk_by (N := N_is_name) (sc := defScope S_is_name) (by decide +kernel)) (fun _ _ _ _ _ => (pg_name (i := 1) nd rfl (Or.inl rfl))) (fun _ _ _ _ _ => pts_nil) (fun _ _ _ _ _ => (pe_cmpR op_in_sign (pv 1) (pe_gc (by rfl) T.k_LETTERS_names) (by rfl)))) pa_nil))))), ?_⟩
  refine ⟨_, rfl, _, _, _, _, true, rfl, .ty _, .base (.str z), kit_ty (by decide +kernel), _, rfl, iteF ?_⟩
  refine ⟨_, rfl, z, rfl, zl (by omega), _, _, rfl, rfl, _, rfl, ?_⟩
  rw [decide_eq_true (by omega : (1 : Int) ≤ (z.length : Int))]
  refine iteT ⟨_, _, rfl, rfl, _, rfl, ?_⟩
  rw [decide_eq_true (by omega : (z.length : Int) ≤ 8)]
  refine iteF ⟨_, rfl, z, rfl, fun D hD => lc_pure walk_str (fun _ => true) (fun _ => .bl true) hD (by show z.cps.size ≤ 50000; have : z.length = z.cps.size := rfl; omega) (fun _ _ => trivial) ?_ fun H1 e1 hl => ?_⟩
  · rintro i x H1 H2 hi e1 ⟨rfl, d, hd, rfl⟩ Kn Ky _ hy
    refine ⟨rfl, _, rfl, d, _, rfl, rfl, ?_⟩
    have hm : d ∈ z.cps.toList := Array.mem_toList_iff.mpr (Array.mem_of_getElem? hd)
    have := h3 d hm
    rw [decide_eq_true (show d ∈ ("abcdefghijklmnopqrstuvwxyz" : Str).cps.toList from this)]
    exact hy rfl _ (exr _)
  · rw [gvn_all] at hl
    refine ⟨_, (List.range z.cps.size).map fun _ => true, rfl, .inl (.inl (by rw [hl, List.map_map]; rfl)), ?_⟩
    have : ((List.range z.cps.size).map fun _ => true).all id = true := by simp
    rw [this]
    exact q _ e1
theorem fn_is_integer (T : Tx K mg w A) : ∀ f fd, Fun K "is_integer" "is_integer" S_is_integer f fd → Fn P w K mg base f 1 spIsInt := by
  intro f fd F
  refine fnr_of (k := 0) F sc_is_integer (fun _ _ _ _ _ _ us hl => match us, hl with | [_, _, _], _ => rfl) (fun vs H Q E h => by obtain ⟨x, lo, hi, rfl, _⟩ := h; rfl) fun f cdv Ar outer s H vs Q E c h => ?_
  have hr := c.room
  have nd := sc_is_integer.nd
  obtain ⟨x, lo, hi, rfl, q⟩ := h
  refine ⟨_, (pss_one (ps_ret (pe_and (pe_callB (isi_C c) (by rfl) T.b_isinstance (by decide +kernel) (pa_cons (pv 0) (pa_cons (pe_bltn (by rfl) T.b_int (by decide +kernel) (v := .ty "int") rfl) pa_nil))) (pe_and (pe_not (pe_callB (isi_C c) (by rfl) T.b_isinstance (by decide +kernel) (pa_cons (pv 0) (pa_cons (pe_bltn (by rfl) T.b_bool (by decide +kernel) (v := .ty "bool") rfl) pa_nil)))) (pe_one (pe_chain op_le op_le (pv 1) (pv 0) (pv 2))))))), ?_⟩
  refine ⟨_, rfl, _, _, _, _, true, rfl, .ty _, .base (.int x), kit_ty (by decide +kernel), _, rfl, ?_⟩
  refine iteT ⟨_, rfl, _, _, _, _, false, rfl, .ty _, .base (.int x), kit_ty (by decide +kernel), _, rfl, _, rfl, ?_⟩
  refine iteT ⟨_, rfl, _, rfl, _, _, rfl, rfl, _, rfl, ?_⟩
  have q' := q H (exr H)
  by_cases a : lo ≤ x
  · rw [decide_eq_true a] at q' ⊢
    refine iteT ⟨_, rfl, _, _, rfl, rfl, ?_⟩
    rw [Bool.true_and] at q'
    exact q'
  · rw [decide_eq_false a] at q' ⊢
    rw [Bool.false_and] at q'
    exact iteF q'
theorem fn_is_path (T : Tx K mg w A) : ∀ f fd, Fun K "is_path" "is_path" S_is_path f fd → Fn P w K mg base f 2 spIsPath := by
  intro f fd F
  refine fnr_of (k := 1) F sc_is_path (fun _ _ _ _ _ _ us hl => match us, hl with | [_], _ => rfl) (fun vs H Q E h => by obtain ⟨x, rfl, _⟩ := h; rfl) fun f cdv Ar outer s H vs Q E c h => ?_
  have hr := c.room
  have nd := sc_is_path.nd
  obtain ⟨ns, rfl, hn, hl, q⟩ := h
  refine ⟨_, (pss_one (ps_ret (pe_and (pe_callB (isi_C c) (by rfl) T.b_isinstance (by decide +kernel) (pa_cons (pv 0) (pa_cons (pe_bltn (by rfl) T.b_str (by decide +kernel) (v := .ty "str") rfl) pa_nil))) (pe_one (pe_or (pe_cmpR op_eq (pv 0) pe_str (nomark _)) (pe_one (pe_callB (all_C c rfl) (by rfl) T.b_all (by decide +kernel) (pa_cons (pe_lc (own := [("part", 1)]) (g := gName 1) rfl nd (pi_listC c (pe_split (pv 0) pe_str)) (blkOk_by (N := N_is_path) (sc := defScope S_is_path) (by decide +kernel)) (fun _ _ _ _ _ => (pg_name (i := 1) nd rfl (Or.inl rfl))) (fun _ _ _ _ _ => pts_nil) (fun _ _ _ _ _ => (pe_fn c.b (by rfl) (pa_cons (pv 1) pa_nil)))) pa_nil)))))))), ?_⟩
  refine ⟨_, rfl, _, _, _, _, true, rfl, .ty _, .base (.str _), kit_ty (by decide +kernel), _, rfl, ?_⟩
  refine iteT ⟨_, rfl, rfl, _, rfl, ?_⟩
  rw [pth_eq_nil hn]
  by_cases e : ns = []
  · rw [decide_eq_true e]
    exact iteT (q H (exr H))
  · rw [decide_eq_false e]
    have hz := pth_len hn
    refine iteF ⟨_, rfl, ⟨_, rfl⟩, _, _, rfl, rfl, by decide +kernel, zl (by omega), fun p hp => ?_⟩
    rw [split_pth e hn]
    have e1 : Ex H (upd H p (.lst (ns.map V.str))) := exn hp
    refine ⟨p, rfl, ⟨_, SqL.of upd_same⟩, fun D hD => lc_pure (walk_list (xs := ns.map V.str)) (fun _ => true) (fun _ => .bl true) hD (by rw [List.length_map]; omega) (fun H2 e2 => sql e2 (SqL.of upd_same)) ?_ fun H2 e2 hl2 => ?_⟩
    · rintro i x H2 H3 hi e2 ⟨rfl, hx⟩ Kn Ky _ hy
      rw [List.getElem?_map] at hx
      obtain ⟨n, hn1, rfl⟩ := Option.map_eq_some_iff.mp hx
      exact ⟨rfl, _, cal_of T.f_is_name (fn_is_name T), _, rfl, n, rfl, hn n (List.mem_of_getElem? hn1), fun H4 e4 => hy rfl H4 e4⟩
    · rw [gvn_all] at hl2
      refine ⟨_, (List.range (ns.map V.str).length).map fun _ => true, rfl, .inl (.inl (by rw [hl2, List.map_map]; rfl)), ?_⟩
      have : ((List.range (ns.map V.str).length).map fun _ => true).all id = true := by simp
      rw [this]
      exact q _ (ext e1 e2)
theorem fn_names_of (T : Tx K mg w A) : ∀ f fd, Fun K "names_of" "names_of" S_names_of f fd → Fn P w K mg base f 1 spNamesOf := by
  intro f fd F
  refine fnr_of (k := 0) F sc_names_of (fun _ _ _ _ _ _ us hl => match us, hl with | [_], _ => rfl) (fun vs H Q E h => by obtain ⟨x, rfl, _⟩ := h; rfl) fun f cdv Ar outer s H vs Q E c h => ?_
  have hr := c.room
  have nd := sc_names_of.nd
  obtain ⟨ns, rfl, hn, hl, q⟩ := h
  refine ⟨_, (pss_one (ps_ret (pe_ifExp (pt_cmpR op_eq (pv 0) pe_str (nomark _)) (pe_tup pa_nil) (pe_callTy (tup_C c) (by rfl) T.b_tuple (by decide +kernel) (pa_cons (pe_split (pv 0) pe_str) pa_nil))))), ?_⟩
  refine ⟨_, rfl, rfl, _, rfl, ?_⟩
  rw [pth_eq_nil hn]
  by_cases e : ns = []
  · rw [decide_eq_true e]
    refine iteT ⟨Nat.zero_le _, fun p hp => q p _ (exn hp) hp ?_⟩
    rw [upd_same, e]
    rfl
  · rw [decide_eq_false e]
    have hz := pth_len hn
    refine iteF ⟨_, rfl, ⟨_, rfl⟩, _, _, rfl, rfl, by decide +kernel, zl (by omega), fun p hp => ?_⟩
    rw [split_pth e hn]
    have e1 : Ex H (upd H p (.lst (ns.map V.str))) := exn hp
    exact ⟨p, _, rfl, .inl ⟨SqL.of upd_same, fun l hl => q l _ (ext e1 (exn hl)) (e1.none hl) upd_same⟩⟩
end
end Md
/-! Md: the defs of modes. -/
namespace Md
open PySem PySem.Spec PyProof.Rows L2

/-- all but x is kept -/
def ExB (x : Addr) (H H' : Hp) : Prop := ∀ a o, a ≠ x → H a = some o → H' a = some o
theorem Ex.b {x : Addr} {H H' : Hp} (e : Ex H H') : ExB x H H' := fun a o _ h => e a o h
theorem ExB.upd {x : Addr} {H H' : Hp} {o : HO} (e : ExB x H H') : ExB x H (L2.upd H' x o) := fun a u n h => by rw [upd_ne n]; exact e a u n h
theorem ExB.trans {x : Addr} {A B C : Hp} (a : ExB x A B) (b : ExB x B C) : ExB x A C := fun p u n h => b p u n (a p u n h)
theorem ExB.made {x dx : Addr} {H H' : Hp} {o u : HO} (hx : H x = none) (hd : H dx = none) (e : ExB x (L2.upd (L2.upd H dx o) x u) H') : Ex H H' := fun a v h => e a v (ne_of_none h hx) (by rw [upd_ne (ne_of_none h hx), upd_ne (ne_of_none h hd)]; exact h)

def ModeAt (A : Ad) (H : Hp) (a : Addr) (m : Int) : Prop := 0 ≤ m ∧ m ≤ 511 ∧ ∃ dx, H a = some (.ins A.Mode dx [("bits", .int m)])
theorem ModeAt.ex {A : Ad} {H H' : Hp} {a : Addr} {m : Int} (e : Ex H H') (h : ModeAt A H a m) : ModeAt A H' a m := ⟨h.1, h.2.1, h.2.2.imp fun _ q => e _ _ q⟩
def spNumberOf (A : Ad) : Sp := fun vs H Q _ => ∃ v m, vs = [v] ∧ (v = .int m ∧ 0 ≤ m ∧ m ≤ 511 ∨ ∃ a, v = .ref a ∧ ModeAt A H a m) ∧ ∀ H', Ex H H' → Q (.int m) H'
def spPlaceOf : Sp := fun vs H Q _ => ∃ z p, vs = [.str z] ∧ Ltr z p ∧ ∀ H', Ex H H' → Q (.int p) H'
def spPbits : Sp := fun vs H Q _ => ∃ pl p, vs = [.int pl, .int p] ∧ (0 ≤ pl ∧ pl ≤ 2) ∧ (0 ≤ p ∧ p ≤ 7) ∧ ∀ H', Ex H H' → Q (.int (pbits pl p)) H'
def spModeInit (A : Ad) : Sp := fun vs H Q _ => ∃ x dx m, vs = [.ref x, .int m] ∧ H x = some (.ins A.Mode dx []) ∧ (0 ≤ m ∧ m ≤ 511) ∧ ∀ H', ExB x H H' → ModeAt A H' x m → Q .non H'
def spModeNumber (A : Ad) : Sp := fun vs H Q _ => ∃ a m, vs = [.ref a] ∧ ModeAt A H a m ∧ ∀ H', Ex H H' → Q (.int m) H'
def spModePat (A : Ad) : Sp := fun vs H Q _ => ∃ a m z p, vs = [.ref a, .str z] ∧ ModeAt A H a m ∧ Ltr z p ∧ ∀ H', Ex H H' → Q (.int (pat m p)) H'
def spModeWith (A : Ad) : Sp := fun vs H Q _ => ∃ a m z pl p, vs = [.ref a, .str z, .int p] ∧ ModeAt A H a m ∧ Ltr z pl ∧ (0 ≤ p ∧ p ≤ 7) ∧ ∀ b H', Ex H H' → H b = none → ModeAt A H' b (wpat m pl p) → Q (.ref b) H'

section
variable {P : Program} {w : World} {K : PySem.W.Frag} {mg : Str → Option Value} {base : Heap} {A : Ad}
theorem fn_place_of (T : Tx K mg w A) : ∀ f fd, Fun K "place_of" "place_of" S_place_of f fd → Fn P w K mg base f 1 spPlaceOf := by
  intro f fd F
  refine fnr_of (k := 0) F sc_place_of (fun _ _ _ _ _ _ us hl => match us, hl with | [_], _ => rfl) (fun vs H Q E h => by obtain ⟨x, p, rfl, _⟩ := h; rfl) fun f cdv Ar outer s H vs Q E c h => ?_
  have hr := c.room
  have nd := sc_place_of.nd
  obtain ⟨z, p, rfl, hl, q⟩ := h
  refine ⟨_, (pss_cons (ps_if (PW.pt (pw_or (pt_not (pt_val (pe_callB (isi_C c) (by rfl) T.b_isinstance (by decide +kernel) (pa_cons (pv 0) (pa_cons (pe_bltn (by rfl) T.b_str (by decide +kernel) (v := .ty "str") rfl) pa_nil))))) (pw_or1 (pt_cmpR (notInKd_C c T.d_PLACES_modes) (pv 0) (pe_gc (by rfl) T.k_PLACES_modes) (by rfl))))) (pss_one ps_never) pss_nil)
 (pss_one (ps_ret (pe_kd c T.d_PLACES_modes (pe_gc (by rfl) T.k_PLACES_modes) (pv 0) (fun _ _ => rfl))))), ?_⟩
  obtain ⟨u, hu, ru⟩ : ∃ u, PySem.W.nsIn K A.d_PLACES_modes z = some (some u) ∧ RelV (.int p) u := by
    cases hl
    · exact T.e_PLACES_modes_r
    · exact T.e_PLACES_modes_w
    · exact T.e_PLACES_modes_x
  refine ⟨_, rfl, _, _, _, _, true, rfl, .ty _, .base (.str _), kit_ty (by decide +kernel), _, rfl, ?_⟩
  refine iteF ⟨_, rfl, z, _, rfl, rfl, hu, _, rfl, ?_⟩
  exact iteF ⟨_, rfl, z, u, _, rfl, rfl, hu, ru, q _ (exr _)⟩
theorem fn_pattern_bits (T : Tx K mg w A) : ∀ f fd, Fun K "pattern_bits" "pattern_bits" S_pattern_bits f fd → Fn P w K mg base f 1 spPbits := by
  intro f fd F
  refine fnr_of (k := 0) F sc_pattern_bits (fun _ _ _ _ _ _ us hl => match us, hl with | [_, _], _ => rfl) (fun vs H Q E h => by obtain ⟨x, p, rfl, _⟩ := h; rfl) fun f cdv Ar outer s H vs Q E c h => ?_
  have hr := c.room
  have nd := sc_pattern_bits.nd
  obtain ⟨pl, p, rfl, ⟨l0, l1⟩, ⟨p0, p1⟩, q⟩ := h
  refine ⟨_, (pss_one (ps_ret (pe_callB (sum_C c rfl) (by rfl) T.b_sum (by decide +kernel) (pa_cons (pe_lc (own := [("at", 2)]) (g := gName 2) rfl nd (pi_range1 (by rfl) T.b_range (pa_cons pe_int pa_nil)) (blkOk_by (N := N_pattern_bits) (sc := defScope S_pattern_bits) (by decide +kernel)) (fun _ _ _ _ _ => (pg_name (i := 2) nd rfl (Or.inl rfl))) (fun _ _ _ _ _ => pts_nil) (fun _ _ _ _ _ => (pe_op op_shl (pe_op op_and (pe_op op_shr (pv 1) (pv 2)) pe_int) (pe_op op_add (pe_op op_mul pe_int (pv 2)) (pv 0))))) pa_nil)))), ?_⟩
  refine ⟨3, rfl, by decide, by decide, fun D hD => lc_pure (walk_rng0 (n := 3)) (fun _ => true) (fun i => .int ((Builtin.bitAnd (p / 2 ^ ((i : Int)).toNat) 1) * 2 ^ (3 * (i : Int) + pl).toNat)) hD (by decide) (fun _ _ => trivial) ?_ fun H2 e2 hl => ?_⟩
  · rintro i x H1 H2 hi e1 ⟨rfl, rfl⟩ Kn Ky _ hy
    have d := div_rng (k := ((i : Int)).toNat) p0 (by omega : p ≤ 511)
    refine ⟨rfl, _, rfl, _, rfl, _, _, rfl, rfl, by omega, _, _, rfl, rfl, _, rfl, _, _, rfl, rfl, .inl ⟨by decide, by decide⟩, _, rfl, _, _, rfl, rfl, _, _, rfl, rfl, ⟨by omega, by omega, bit1_small d.1 d.2⟩, hy rfl _ (exr _)⟩
  · rw [gvn_all] at hl
    exact ⟨_, _, rfl, .inl (.inl (by rw [hl, List.map_map]; rfl)), q _ e2⟩
theorem fn_Mode_init (T : Tx K mg w A) : ∀ f fd, Fun K "__init__" "Mode.__init__" S_Mode_DinitD f fd → Fn P w K mg base f 2 (spModeInit A) := by
  intro f fd F
  refine fnr_of (k := 1) F sc_Mode_DinitD (fun _ _ _ _ _ _ us hl => match us, hl with | [_, _], _ => rfl) (fun vs H Q E h => by obtain ⟨x, p, m, rfl, _⟩ := h; rfl) fun f cdv Ar outer s H vs Q E c h => ?_
  have hr := c.room
  have nd := sc_Mode_DinitD.nd
  obtain ⟨x, dx, m, rfl, hx, ⟨m0, m1⟩, q⟩ := h
  refine ⟨_, (pss_cons (ps_if (pt_not (pt_val (pe_fn c (by rfl) (pa_cons (pv 1) (pa_cons pe_int (pa_cons (pe_gc (by rfl) T.k_GREATEST) pa_nil)))))) (pss_one ps_never) pss_nil)
 (pss_one (ps_fld (pv 0) (pv 1) rfl))), ?_⟩
  refine ⟨_, cal_of T.f_is_integer (fn_is_integer T), _, rfl, _, _, _, rfl, fun H1 e1 => ⟨_, rfl, ?_⟩⟩
  rw [decide_eq_true m0, decide_eq_true m1]
  exact iteF ⟨_, rfl, _, rfl, x, _, dx, _, rfl, e1 _ _ hx, T.o_Mode.cl, T.n_Mode_bits, by decide, q _ (ExB.upd e1.b) ⟨m0, m1, dx, upd_same⟩⟩
theorem fn_Mode_number (T : Tx K mg w A) : ∀ f fd, Fun K "number" "Mode.number" S_Mode_number f fd → Fn P w K mg base f 1 (spModeNumber A) := by
  intro f fd F
  refine fnr_of (k := 0) F sc_Mode_number (fun _ _ _ _ _ _ us hl => match us, hl with | [_], _ => rfl) (fun vs H Q E h => by obtain ⟨x, m, rfl, _⟩ := h; rfl) fun f cdv Ar outer s H vs Q E c h => ?_
  have hr := c.room
  have nd := sc_Mode_number.nd
  obtain ⟨a, m, rfl, ⟨m0, m1, dx, ha⟩, q⟩ := h
  refine ⟨_, (pss_one (ps_ret (pe_at c (pv 0)))), ?_⟩
  exact ⟨_, rfl, a, _, dx, _, rfl, ha, .inl ⟨_, T.o_Mode.cl, T.n_Mode_bits, rfl, q _ (exr _)⟩⟩
theorem fn_number_of (T : Tx K mg w A) : ∀ f fd, Fun K "number_of" "number_of" S_number_of f fd → Fn P w K mg base f 3 (spNumberOf A) := by
  intro f fd F
  refine fnr_of (k := 2) F sc_number_of (fun _ _ _ _ _ _ us hl => match us, hl with | [_], _ => rfl) (fun vs H Q E h => by obtain ⟨x, m, rfl, _⟩ := h; rfl) fun f cdv Ar outer s H vs Q E c h => ?_
  have hr := c.room
  have nd := sc_number_of.nd
  obtain ⟨v, m, rfl, hv, q⟩ := h
  refine ⟨_, (pss_cons (ps_if (pt_val (pe_callB (isi_C c) (by rfl) T.b_isinstance (by decide +kernel) (pa_cons (pv 0) (pa_cons (pe_gc (by rfl) T.k_Mode) pa_nil)))) (pss_one (ps_ret (pe_at c (pv 0)))) pss_nil)
 (pss_cons (ps_if (pt_not (pt_val (pe_fn c (by rfl) (pa_cons (pv 0) (pa_cons pe_int (pa_cons (pe_gc (by rfl) T.k_GREATEST) pa_nil)))))) (pss_one ps_never) pss_nil)
 (pss_one (ps_ret (pv 0))))), ?_⟩
  rcases hv with ⟨rfl, m0, m1⟩ | ⟨a, rfl, ha⟩
  · refine ⟨_, rfl, _, _, _, _, false, rfl, .own _, .base (.int m), T.t_int_Mode, _, rfl, iteF ?_⟩
    refine ⟨_, cal_of T.f_is_integer (fn_is_integer T), _, rfl, _, _, _, rfl, fun H1 e1 => ⟨_, rfl, ?_⟩⟩
    rw [decide_eq_true m0, decide_eq_true m1]
    exact iteF ⟨_, rfl, q _ e1⟩
  · obtain ⟨m0, m1, dx, hm⟩ := id ha
    refine ⟨_, rfl, _, _, _, _, true, rfl, .own _, T.o_Mode.ty T.ob hm, T.t_Mode_Mode, _, rfl, iteT ?_⟩
    exact ⟨_, rfl, a, _, dx, _, rfl, hm, .inr ⟨_, pcal_of T.p_Mode_number T.o_Mode.cl (fn_Mode_number T), a, m, rfl, ha, q⟩⟩
/-- Mode(n), made -/
theorem mk_Mode {H1 : Hp} {x dx : Addr} {m : Int} {Q : VK} {E : XK} (hx : H1 x = none) (hd : H1 dx = none) (m0 : 0 ≤ m) (m1 : m ≤ 511) (q : ∀ H', Ex H1 H' → ModeAt A H' x m → Q (.ref x) H') :
    spModeInit A [.ref x, .int m] (upd (upd H1 dx (.own x)) x (.ins A.Mode dx [])) (fun v H2 => v = .non ∧ Q (.ref x) H2) E :=
  ⟨x, dx, m, rfl, upd_same, ⟨m0, m1⟩, fun H' e hm => ⟨rfl, q H' (ExB.made hx hd e) hm⟩⟩
theorem fn_Mode_pattern (T : Tx K mg w A) : ∀ f fd, Fun K "pattern" "Mode.pattern" S_Mode_pattern f fd → Fn P w K mg base f 2 (spModePat A) := by
  intro f fd F
  refine fnr_of (k := 1) F sc_Mode_pattern (fun _ _ _ _ _ _ us hl => match us, hl with | [_, _], _ => rfl) (fun vs H Q E h => by obtain ⟨x, m, _, _, rfl, _⟩ := h; rfl) fun f cdv Ar outer s H vs Q E c h => ?_
  have hr := c.room
  have nd := sc_Mode_pattern.nd
  obtain ⟨a, m, z, pl, rfl, ⟨m0, m1, dx, hm⟩, hl, q⟩ := h
  obtain ⟨l0, l1⟩ := hl.rng
  refine ⟨_, (pss_cons (ps_set (i := 2) nd rfl (Or.inr rfl) (pe_fn c (by rfl) (pa_cons (pv 1) pa_nil)))
 (pss_one (ps_ret (pe_callB (sum_C c rfl) (by rfl) T.b_sum (by decide +kernel) (pa_cons (pe_lc (own := [("at", 3)]) (g := gName 3) rfl nd (pi_range1 (by rfl) T.b_range (pa_cons pe_int pa_nil)) (blkOk_by (N := N_Mode_pattern) (sc := defScope S_Mode_pattern) (by decide +kernel)) (fun _ _ _ _ _ => (pg_name (i := 3) nd rfl (Or.inl rfl))) (fun _ _ _ _ _ => pts_nil) (fun _ _ _ _ _ => (pe_op op_shl (pe_op op_and (pe_op op_shr (pe_at c.b (pv 0)) (pe_op op_add (pe_op op_mul pe_int (pv 3)) (pv 2))) pe_int) (pv 3)))) pa_nil))))), ?_⟩
  refine ⟨_, cal_of T.f_place_of (fn_place_of T), _, rfl, z, pl, rfl, hl, fun H1 e1 => ?_⟩
  refine ⟨3, rfl, by decide, by decide, fun D hD => lc_pure (walk_rng0 (n := 3)) (fun _ => true) (fun i => .int ((Builtin.bitAnd (m / 2 ^ (3 * (i : Int) + pl).toNat) 1) * 2 ^ ((i : Int)).toNat)) hD (by decide) (fun _ _ => trivial) ?_ fun H2 e2 hl => ?_⟩
  · rintro i x H2 H3 hi e2 ⟨rfl, rfl⟩ Kn Ky _ hy
    have d := div_rng (k := (3 * (i : Int) + pl).toNat) m0 m1
    refine ⟨rfl, _, rfl, a, _, dx, _, rfl, e2 _ _ (e1 _ _ hm), .inl ⟨_, T.o_Mode.cl, T.n_Mode_bits, rfl, ?_⟩⟩
    exact ⟨_, rfl, _, _, rfl, rfl, .inl ⟨by decide, by decide⟩, _, rfl, _, _, rfl, rfl, _, _, rfl, rfl, by omega, _, _, rfl, rfl, _, rfl, _, _, rfl, rfl, ⟨by omega, by omega, bit1_small d.1 d.2⟩, hy rfl _ (exr _)⟩
  · rw [gvn_all] at hl
    exact ⟨_, _, rfl, .inl (.inl (by rw [hl, List.map_map]; rfl)), q _ (ext e1 e2)⟩
theorem fn_Mode_with_pattern (T : Tx K mg w A) : ∀ f fd, Fun K "with_pattern" "Mode.with_pattern" S_Mode_with_pattern f fd → Fn P w K mg base f 4 (spModeWith A) := by
  intro f fd F
  refine fnr_of (k := 3) F sc_Mode_with_pattern (fun _ _ _ _ _ _ us hl => match us, hl with | [_, _, _], _ => rfl) (fun vs H Q E h => by obtain ⟨x, m, _, _, _, rfl, _⟩ := h; rfl) fun f cdv Ar outer s H vs Q E c h => ?_
  have hr := c.room
  have nd := sc_Mode_with_pattern.nd
  obtain ⟨a, m, z, pl, p, rfl, ⟨m0, m1, dx, hm⟩, hl, ⟨p0, p1⟩, q⟩ := h
  obtain ⟨l0, l1⟩ := hl.rng
  obtain ⟨w0, w1⟩ := wpat_rng m0 m1 l0 l1 p0 p1
  refine ⟨_, (pss_cons (ps_set (i := 3) nd rfl (Or.inl rfl) (pe_fn c (by rfl) (pa_cons (pv 1) pa_nil)))
 (pss_cons (ps_if (pt_not (pt_val (pe_fn c (by rfl) (pa_cons (pv 2) (pa_cons pe_int (pa_cons pe_int pa_nil)))))) (pss_one ps_never) pss_nil)
 (pss_cons (ps_set (i := 4) nd rfl (Or.inl rfl) (pe_op op_and (pe_at c (pv 0)) (pe_un un_inv (pe_fn c (by rfl) (pa_cons (pv 3) (pa_cons pe_int pa_nil))))))
 (pss_one (ps_ret (pe_mk c (by rfl) (pa_cons (pe_op op_or (pv 4) (pe_fn c (by rfl) (pa_cons (pv 3) (pa_cons (pv 2) pa_nil)))) pa_nil))))))), ?_⟩
  refine ⟨_, cal_of T.f_place_of (fn_place_of T), _, rfl, z, pl, rfl, hl, fun H1 e1 => ?_⟩
  refine ⟨_, cal_of T.f_is_integer (fn_is_integer T), _, rfl, _, _, _, rfl, fun H2 e2 => ⟨_, rfl, ?_⟩⟩
  rw [decide_eq_true p0, decide_eq_true p1]
  refine iteF ⟨_, rfl, a, _, dx, _, rfl, e2 _ _ (e1 _ _ hm), .inl ⟨_, T.o_Mode.cl, T.n_Mode_bits, rfl, ?_⟩⟩
  refine ⟨_, cal_of T.f_pattern_bits (fn_pattern_bits T), _, rfl, pl, 7, rfl, ⟨l0, l1⟩, ⟨by decide, by decide⟩, fun H3 e3 => ?_⟩
  refine ⟨_, rfl, _, _, rfl, rfl, ?_⟩
  refine ⟨_, _, ccal_of T.i_Mode T.k_Mode (fn_Mode_init T), _, rfl, _, cal_of T.f_pattern_bits (fn_pattern_bits T), _, rfl, _, rfl, pl, p, rfl, ⟨l0, l1⟩, ⟨p0, p1⟩, fun H4 e4 => ⟨_, _, rfl, rfl, fun x dy hx hdy _ => ?_⟩⟩
  exact mk_Mode hx hdy w0 w1 fun H' e hm' => q x H' (ext (ext (ext (ext e1 e2) e3) e4) e) (Ex.none (ext (ext (ext e1 e2) e3) e4) hx) hm'
end
end Md
/-! Md: the defs of changes, 1. -/
namespace Md
open PySem PySem.Spec PyProof.Rows L2

def spIsSome : Sp := fun vs H Q _ => ∃ z l, vs = [.str z, .str l] ∧ z.length ≤ 100 ∧ ∀ H', Ex H H' → Q (.bl (someB z l)) H'
section
variable {P : Program} {w : World} {K : PySem.W.Frag} {mg : Str → Option Value} {base : Heap} {A : Ad}
theorem fn_is_some (T : Tx K mg w A) : ∀ f fd, Fun K "is_some" "is_some" S_is_some f fd → Fn P w K mg base f 1 spIsSome := by
  intro f fd F
  refine fnr_of (k := 0) F sc_is_some (fun _ _ _ _ _ _ us hl => match us, hl with | [_, _], _ => rfl) (fun vs H Q E h => by obtain ⟨x, m, rfl, _⟩ := h; rfl) fun f cdv Ar outer s H vs Q E c h => ?_
  have hr := c.room
  have nd := sc_is_some.nd
  obtain ⟨z, l, rfl, hz, q⟩ := h
  refine ⟨_, (pss_cons (ps_if (pt_not (pt_val (pe_callB (isi_C c) (by rfl) T.b_isinstance (by decide +kernel) (pa_cons (pv 0) (pa_cons (pe_bltn (by rfl) T.b_str (by decide +kernel) (v := .ty "str") rfl) pa_nil))))) (pss_one (ps_ret pe_bl)) pss_nil)
 (pss_cons (ps_setLc (i := 2) (own := [("sign", 3)]) (g := gName 3) rfl nd rfl rfl (sw_true rfl rfl rfl (by decide +kernel)) (pi_str (pv 0)) (blkOk_by (N := N_is_some) (sc := defScope S_is_some) (by decide +kernel)) (fun _ _ _ _ _ => (pg_name (i := 3) nd rfl (Or.inl rfl))) (fun _ _ _ _ _ => pts_nil) (fun _ _ _ _ _ => (pe_m1 PySem.F.slot_str_find PySem.F.type_str_find mt_find (pv 1) (pv 3))))
 (pss_one (ps_ret (pe_and (pe_cmpR (notIn_C c) (pe_un un_neg pe_int) (pv 2) (by rfl)) (pe_one (pe_callB (all_C c rfl) (by rfl) T.b_all (by decide +kernel) (pa_cons (pe_lc (own := [("low", 4), ("high", 5)]) (g := gTup K 2 (gCons (gName 4) (gCons (gName 5) gNil))) rfl nd (pi_zip2 (by rfl) T.b_zip (pa_cons (pv 2) (pa_cons (pe_slice (sl_listC c) (pv 2) (po_some pe_int) po_none) pa_nil))) (blkOk_by (N := N_is_some) (sc := defScope S_is_some) (by decide +kernel)) (fun _ _ _ _ _ => (pg_tupC c.b rfl (pgs_cons (pg_name (i := 4) nd rfl (Or.inl rfl)) (pgs_cons (pg_name (i := 5) nd rfl (Or.inl rfl)) pgs_nil)))) (fun _ _ _ _ _ => pts_nil) (fun _ _ _ _ _ => (pe_cmpR op_lt (pv 4) (pv 5) (nomark _)))) pa_nil)))))))), ?_⟩
  refine ⟨_, rfl, _, _, _, _, true, rfl, .ty _, .base (.str _), kit_ty (by decide +kernel), _, rfl, iteF ?_⟩
  have lz : (plc z l).length = z.cps.size := by rw [plc, List.length_map, Array.length_toList]
  have hz' : z.cps.size ≤ 100 := hz
  refine ⟨_, rfl, z, rfl, fun D hD => lc_pure walk_str (fun _ => true) (fun i => .int ((plc z l).getD i 0)) hD (by omega) (fun _ _ => trivial) ?_ fun H1 e1 hl => ?_⟩
  · rintro i x H1 H2 hi e1 ⟨rfl, d, hd, rfl⟩ Kn Ky _ hy
    have hp : (plc z l)[i]? = some (Txt.find l ⟨#[d]⟩) := by rw [plc, List.getElem?_map, Array.getElem?_toList, hd]; rfl
    have := hy rfl _ (exr _)
    rw [getD_of hp] at this
    exact ⟨rfl, _, rfl, ⟨_, rfl⟩, _, rfl, l, _, rfl, rfl, this⟩
  · rw [gvn_all, rng_getD _ _ _ lz.symm] at hl
    refine ⟨1, rfl, _, rfl, D, _, rfl, .inl (SqL.of hl), rfl, flat_ints _, _, rfl, ?_⟩
    cases hv : inV (.int (-1)) ((plc z l).map V.int) with
    | true =>
      simp only [someB, hv, Bool.not_true, Bool.false_and] at q
      exact iteF (q H1 e1)
    | false =>
      simp only [someB, hv, Bool.not_false, Bool.true_and] at q
      refine iteT ⟨_, rfl, _, rfl, 1, rfl, D, _, rfl, SqL.of hl, fun p hp => ?_⟩
      have hcut : cutV ((plc z l).map V.int) (some 1) none = ((plc z l).drop 1).map V.int := by
        rw [List.map_drop]
        exact cutV_from _ 1
      rw [hcut]
      have e2 : Ex H1 (upd H1 p (.lst (((plc z l).drop 1).map V.int))) := exn hp
      refine ⟨.l, .l, .ref D, .ref p, (plc z l).map V.int, ((plc z l).drop 1).map V.int, rfl, ⟨D, rfl, e2 _ _ hl⟩, ⟨p, rfl, upd_same⟩, fun E hE => ?_⟩
      refine lc_pure walk_P (fun _ => true) (fun i => .bl (decide ((plc z l).getD i 0 < ((plc z l).drop 1).getD i 0))) hE (by rw [List.length_map]; omega) (fun H3 e3 => ⟨⟨D, rfl, e3 _ _ (e2 _ _ hl)⟩, ⟨p, rfl, e3 _ _ upd_same⟩⟩) ?_ fun H3 e3 hl3 => ?_
      · rintro i x H3 H4 hi e3 ⟨T', ys, hT, rfl, rfl, a, b, rfl, ha, hb⟩ Kn Ky _ hy
        rw [List.getElem?_map] at ha hb
        obtain ⟨a', ha', rfl⟩ := Option.map_eq_some_iff.mp ha
        obtain ⟨b', hb', rfl⟩ := Option.map_eq_some_iff.mp hb
        rw [getD_of ha', getD_of hb'] at hy
        exact ⟨T', _, rfl, SqT.of upd_same, rfl, _, _, rfl, _, _, rfl, rfl, rfl, _, rfl, _, rfl, _, _, rfl, rfl, hy rfl _ (exn hT)⟩
      · rw [gvn_all, List.length_map, List.length_map] at hl3
        exact ⟨E, _, rfl, .inl (.inl (by rw [hl3, List.map_map]; rfl)), q _ (ext (ext e1 e2) e3)⟩
end
end Md
/-! Md: clauses. -/
namespace Md
open PySem PySem.Spec PyProof.Rows L2
def spIsWho : Sp := fun vs H Q _ => ∃ z, vs = [.str z] ∧ z ∈ whoM ∧ ∀ H', Ex H H' → Q (.bl true) H'
def spIsWhat : Sp := fun vs H Q _ => ∃ z, vs = [.str z] ∧ z ∈ whatM ∧ ∀ H', Ex H H' → Q (.bl true) H'
def clFs (t : Addr) (c : Cl) : List (Str × V) := [("own_parts", .ref t), ("own_bits", .int (obits c.who))]
def clTup (c : Cl) : HO := .tup [.str c.who, .str c.sign, .str c.what]
def ClauseAt (A : Ad) (H : Hp) (a : Addr) (c : Cl) : Prop := ClOk c ∧ ∃ dx t, H a = some (.ins A.Clause dx (clFs t c)) ∧ H t = some (clTup c)
theorem ClauseAt.ex {A : Ad} {H H' : Hp} {a : Addr} {c : Cl} (e : Ex H H') (h : ClauseAt A H a c) : ClauseAt A H' a c := by
  obtain ⟨o, dx, t, h1, h2⟩ := h
  exact ⟨o, dx, t, e _ _ h1, e _ _ h2⟩
def spClauseInit (A : Ad) : Sp := fun vs H Q _ => ∃ x dx c, vs = [.ref x, .str c.who, .str c.sign, .str c.what] ∧ H x = some (.ins A.Clause dx []) ∧ ClOk c ∧ ∀ H' t, ExB x H H' → H' x = some (.ins A.Clause dx (clFs t c)) → H' t = some (clTup c) → H t = none → Q .non H'
def spClSign (A : Ad) : Sp := fun vs H Q _ => ∃ a c, vs = [.ref a] ∧ ClauseAt A H a c ∧ ∀ H', Ex H H' → Q (.str c.sign) H'
def spClWhat (A : Ad) : Sp := fun vs H Q _ => ∃ a c, vs = [.ref a] ∧ ClauseAt A H a c ∧ ∀ H', Ex H H' → Q (.str c.what) H'
def Frm (z : Str) : Prop := z = "file" ∨ z = "folder"
def spTakes (A : Ad) : Sp := fun vs H Q _ => ∃ a c l pl p f, vs = [.ref a, .str l, .int p, .str f] ∧ ClauseAt A H a c ∧ Ltr l pl ∧ (0 ≤ p ∧ p ≤ 7) ∧ ∀ H', Ex H H' → Q (.bl (takesB c.what l p f)) H'
def spClMoved (A : Ad) : Sp := fun vs H Q _ => ∃ a c l pl p f, vs = [.ref a, .str l, .int p, .str f] ∧ ClauseAt A H a c ∧ Ltr l pl ∧ (0 ≤ p ∧ p ≤ 7) ∧ ∀ H', Ex H H' → Q (.int (movedI c l p f)) H'
theorem kd_bits {K : PySem.W.Frag} {mg : Str → Option Value} {w : World} {A : Ad} (T : Tx K mg w A) {z : Str} (h : z ∈ whatM) : ∃ r, PySem.W.nsIn K A.d_BITS z = some r ∧ (match kb z with | some i => ∃ u, r = some u ∧ RelV (.int i) u | none => r = none) := by
  have n : ∀ z ∈ (["r", "x", "rx", "rwx", "w", "X", "rX", "rwX", ""] : List Str), kb z = none := by decide +kernel
  have e : ∀ z ∈ whatM, z ∈ (["r", "x", "rx", "rwx", "w", "X", "rX", "rwX", ""] : List Str) ∨ z = "u" ∨ z = "g" ∨ z = "o" := by decide +kernel
  rcases e z h with e | e | e | e
  · rw [n z e]
    exact ⟨none, T.z_BITS z e, rfl⟩
  · subst e
    obtain ⟨u, a, b⟩ := T.e_BITS_u
    exact ⟨some u, a, u, rfl, b⟩
  · subst e
    obtain ⟨u, a, b⟩ := T.e_BITS_g
    exact ⟨some u, a, u, rfl, b⟩
  · subst e
    obtain ⟨u, a, b⟩ := T.e_BITS_o
    exact ⟨some u, a, u, rfl, b⟩
section
variable {P : Program} {w : World} {K : PySem.W.Frag} {mg : Str → Option Value} {base : Heap} {A : Ad}
theorem fn_is_who (T : Tx K mg w A) : ∀ f fd, Fun K "is_who" "is_who" S_is_who f fd → Fn P w K mg base f 2 spIsWho := by
  intro f fd F
  refine fnr_of (k := 1) F sc_is_who (fun _ _ _ _ _ _ us hl => match us, hl with | [_], _ => rfl) (fun vs H Q E h => by obtain ⟨x, rfl, _⟩ := h; rfl) fun f cdv Ar outer s H vs Q E c h => ?_
  have hr := c.room
  have nd := sc_is_who.nd
  obtain ⟨z, rfl, hz, q⟩ := h
  obtain ⟨z1, z2, z3, z4, _⟩ := who_ok z hz
  refine ⟨_, (pss_one (ps_ret (pe_and (pe_callB (isi_C c) (by rfl) T.b_isinstance (by decide +kernel) (pa_cons (pv 0) (pa_cons (pe_bltn (by rfl) T.b_str (by decide +kernel) (v := .ty "str") rfl) pa_nil))) (pe_and (pe_cmpR op_ne (pv 0) pe_str (nomark _)) (pe_one (pe_or (pe_cmpR op_eq (pv 0) pe_str (nomark _)) (pe_one (pe_fn c (by rfl) (pa_cons (pv 0) (pa_cons (pe_gc (by rfl) T.k_CLASSES) pa_nil)))))))))), ?_⟩
  refine ⟨_, rfl, _, _, _, _, true, rfl, .ty _, .base (.str _), kit_ty (by decide +kernel), _, rfl, ?_⟩
  refine iteT ⟨_, rfl, rfl, _, rfl, ?_⟩
  rw [decide_eq_false (fun e => z1 (V.str.inj e))]
  refine iteT ⟨_, rfl, rfl, _, rfl, ?_⟩
  rw [decide_eq_false (fun e => z2 (V.str.inj e))]
  refine iteF ⟨_, cal_of T.f_is_some (fn_is_some T), _, rfl, z, "ugo", rfl, z3, fun H1 e1 => ?_⟩
  rw [z4]
  exact q H1 e1
theorem fn_is_what (T : Tx K mg w A) : ∀ f fd, Fun K "is_what" "is_what" S_is_what f fd → Fn P w K mg base f 2 spIsWhat := by
  intro f fd F
  refine fnr_of (k := 1) F sc_is_what (fun _ _ _ _ _ _ us hl => match us, hl with | [_], _ => rfl) (fun vs H Q E h => by obtain ⟨x, rfl, _⟩ := h; rfl) fun f cdv Ar outer s H vs Q E c h => ?_
  have hr := c.room
  have nd := sc_is_what.nd
  obtain ⟨z, rfl, hz, q⟩ := h
  obtain ⟨z3, z4⟩ := what_ok z hz
  refine ⟨_, (pss_one (ps_ret (pe_or (pe_fn c (by rfl) (pa_cons (pv 0) (pa_cons (pe_gc (by rfl) T.k_LETTERS_changes) pa_nil))) (pe_one (pe_and (pe_callB (isi_C c) (by rfl) T.b_isinstance (by decide +kernel) (pa_cons (pv 0) (pa_cons (pe_bltn (by rfl) T.b_str (by decide +kernel) (v := .ty "str") rfl) pa_nil))) (pe_one (pe_cmpR (in_C c) (pv 0) (pe_callTy (tupS_C c rfl) (by rfl) T.b_tuple (by decide +kernel) (pa_cons (pe_gc (by rfl) T.k_CLASSES) pa_nil)) (by rfl)))))))), ?_⟩
  refine ⟨_, cal_of T.f_is_some (fn_is_some T), _, rfl, z, "rwxX", rfl, z3, fun H1 e1 => ⟨_, rfl, ?_⟩⟩
  cases e : someB z "rwxX" with
  | true => exact iteT (q H1 e1)
  | false =>
    rw [e] at z4
    have z5 := z4.resolve_left (by decide)
    refine iteF ⟨_, rfl, _, _, _, _, true, rfl, .ty _, .base (.str _), kit_ty (by decide +kernel), _, rfl, ?_⟩
    refine iteT ⟨_, rfl, "ugo", rfl, by decide +kernel, fun p hp => ⟨p, _, rfl, .inr (SqT.of upd_same), rfl, by decide +kernel, ?_⟩⟩
    show Q (.bl (inV (.str z) (sgl "ugo"))) _
    rw [z5]
    exact q _ (ext e1 (exn hp))
theorem fn_Clause_init (T : Tx K mg w A) : ∀ f fd, Fun K "__init__" "Clause.__init__" S_Clause_DinitD f fd → Fn P w K mg base f 3 (spClauseInit A) := by
  intro f fd F
  refine fnr_of (k := 2) F sc_Clause_DinitD (fun _ _ _ _ _ _ us hl => match us, hl with | [_, _, _, _], _ => rfl) (fun vs H Q E h => by obtain ⟨x, dx, d, rfl, _⟩ := h; rfl) fun f cdv Ar outer s H vs Q E c h => ?_
  have hr := c.room
  have nd := sc_Clause_DinitD.nd
  obtain ⟨x, dx, d, rfl, hx, hd, q⟩ := h
  obtain ⟨w1, w2, w3, _, w5, _⟩ := who_ok _ hd.who
  refine ⟨_, (pss_cons (ps_if (pt_not (pt_val (pe_fn c (by rfl) (pa_cons (pv 1) pa_nil)))) (pss_one ps_never) pss_nil)
 (pss_cons (ps_if (PW.pt (pw_or (pt_not (pt_val (pe_callB (isi_C c) (by rfl) T.b_isinstance (by decide +kernel) (pa_cons (pv 2) (pa_cons (pe_bltn (by rfl) T.b_str (by decide +kernel) (v := .ty "str") rfl) pa_nil))))) (pw_or1 (pt_cmpR (notIn_C c) (pv 2) (pe_callTy (tupS_C c rfl) (by rfl) T.b_tuple (by decide +kernel) (pa_cons (pe_gc (by rfl) T.k_SIGNS_changes) pa_nil)) (by rfl))))) (pss_one ps_never) pss_nil)
 (pss_cons (ps_if (pt_not (pt_val (pe_fn c (by rfl) (pa_cons (pv 3) pa_nil)))) (pss_one ps_never) pss_nil)
 (pss_cons (ps_fld (pv 0) (pe_tup (pa_cons (pe_ifExp (pt_cmpR op_eq (pv 1) pe_str (nomark _)) (pe_gc (by rfl) T.k_CLASSES) (pv 1)) (pa_cons (pv 2) (pa_cons (pv 3) pa_nil)))) rfl)
 (pss_one (ps_fld (pv 0) (pe_callB (sum_C c rfl) (by rfl) T.b_sum (by decide +kernel) (pa_cons (pe_lc (own := [("letter", 4)]) (g := gName 4) rfl nd (pi_str (pe_ix (ix_tupC c) (pe_at c (pv 0)) pe_int (fun _ _ => rfl))) (blkOk_by (N := N_Clause_DinitD) (sc := defScope S_Clause_DinitD) (by decide +kernel)) (fun _ _ _ _ _ => (pg_name (i := 4) nd rfl (Or.inl rfl))) (fun _ _ _ _ _ => pts_nil) (fun _ _ _ _ _ => (pe_kd c.b T.d_BITS (pe_gc (by rfl) T.k_BITS) (pv 4) (fun _ _ => rfl)))) pa_nil)) rfl)))))), ?_⟩
  refine ⟨_, cal_of T.f_is_who (fn_is_who T), _, rfl, _, rfl, hd.who, fun H1 e1 => ⟨_, rfl, iteF ?_⟩⟩
  refine ⟨_, rfl, _, _, _, _, true, rfl, .ty _, .base (.str _), kit_ty (by decide +kernel), _, rfl, iteF ?_⟩
  refine ⟨_, rfl, "+-=", rfl, by decide +kernel, fun p hp => ⟨p, _, rfl, .inr (SqT.of upd_same), rfl, by decide +kernel, _, rfl, ?_⟩⟩
  have e2 : Ex H (upd H1 p (.tup (sgl "+-="))) := ext e1 (exn hp)
  generalize upd H1 p (.tup (sgl "+-=")) = H2 at e2 ⊢
  show (if (!inV (.str d.sign) (sgl "+-=")) = true then _ else _)
  rw [sign_ok _ hd.sign]
  refine iteF ⟨_, cal_of T.f_is_what (fn_is_what T), _, rfl, _, rfl, hd.what, fun H3 e3 => ⟨_, rfl, iteF ?_⟩⟩
  refine ⟨_, rfl, rfl, _, rfl, ?_⟩
  rw [decide_eq_false (fun e => w2 (V.str.inj e))]
  refine iteF ⟨_, rfl, _, rfl, _, rfl, by show 3 ≤ sizeLine; decide, fun t ht => ?_⟩
  have ex3 : Ex H H3 := ext e2 e3
  have htH : H t = none := ex3.none ht
  have hx3 : H3 x = some (.ins A.Clause dx []) := ex3 _ _ hx
  have nxt : x ≠ t := ne_of_none hx3 ht
  refine ⟨_, rfl, x, _, dx, _, rfl, (upd_ne nxt).trans hx3, T.o_Clause.cl, T.n_Clause_own_parts, by decide, ?_⟩
  have hx4 : upd (upd H3 t (clTup d)) x (.ins A.Clause dx [("own_parts", .ref t)]) x = some (.ins A.Clause dx [("own_parts", .ref t)]) := upd_same
  have ht4 : upd (upd H3 t (clTup d)) x (.ins A.Clause dx [("own_parts", .ref t)]) t = some (clTup d) := by rw [upd_ne nxt.symm, upd_same]
  have e4 : ExB x H (upd (upd H3 t (clTup d)) x (.ins A.Clause dx [("own_parts", .ref t)])) := ExB.upd (ext ex3 (exn ht)).b
  refine ⟨_, rfl, x, _, dx, _, rfl, hx4, .inl ⟨_, T.o_Clause.cl, T.n_Clause_own_parts, rfl, t, _, 0, _, rfl, rfl, SqT.of ht4, rfl, d.who, rfl, fun D hD =>
    lc_pure walk_str (fun _ => true) (fun i => .int (bitOf (d.who.cps.toList.getD i 0))) hD (by show d.who.cps.size ≤ 50000; have : d.who.length = d.who.cps.size := rfl; omega) (fun _ _ => trivial) ?_ fun H5 e5 hl => ?_⟩⟩
  · rintro i y H5 H6 hi e5 ⟨rfl, ch, hch, rfl⟩ Kn Ky _ hy
    have hm : d.who.cps.toList[i]? = some ch := by rw [Array.getElem?_toList]; exact hch
    have := hy rfl _ (exr _)
    rw [getD_of hm] at this
    obtain ⟨u, hu, ru⟩ : ∃ u, PySem.W.nsIn K A.d_BITS ⟨#[ch]⟩ = some (some u) ∧ RelV (.int (bitOf ch)) u := by
      rcases w5 ch (List.mem_of_getElem? hm) with e | e | e
      · subst e; exact T.e_BITS_u
      · subst e; exact T.e_BITS_g
      · subst e; exact T.e_BITS_o
    exact ⟨rfl, _, rfl, _, u, _, rfl, rfl, hu, ru, this⟩
  · rw [gvn_all, rng_getD d.who.cps.toList 0 (fun c => V.int (bitOf c)) (by rw [Array.length_toList])] at hl
    have hx5 := e5 _ _ hx4
    have ht5 := e5 _ _ ht4
    have nt : t ≠ x := nxt.symm
    refine ⟨D, d.who.cps.toList.map bitOf, rfl, .inl (.inl (by rw [hl, List.map_map]; rfl)), _, rfl, x, _, dx, _, rfl, hx5, T.o_Clause.cl, T.n_Clause_own_bits, by show 1 < 1000; decide, ?_⟩
    exact q _ t (ExB.upd (ExB.trans e4 e5.b)) upd_same (by rw [upd_ne nt]; exact ht5) htH
theorem fn_Clause_sign (T : Tx K mg w A) : ∀ f fd, Fun K "sign" "Clause.sign" S_Clause_sign f fd → Fn P w K mg base f 1 (spClSign A) := by
  intro f fd F
  refine fnr_of (k := 0) F sc_Clause_sign (fun _ _ _ _ _ _ us hl => match us, hl with | [_], _ => rfl) (fun vs H Q E h => by obtain ⟨x, d, rfl, _⟩ := h; rfl) fun f cdv Ar outer s H vs Q E c h => ?_
  have hr := c.room
  have nd := sc_Clause_sign.nd
  obtain ⟨a, d, rfl, ⟨hd, dx, t, h1, h2⟩, q⟩ := h
  refine ⟨_, (pss_one (ps_ret (pe_ix (ix_tupC c) (pe_at c (pv 0)) pe_int (fun _ _ => rfl)))), ?_⟩
  exact ⟨_, rfl, a, _, dx, _, rfl, h1, .inl ⟨_, T.o_Clause.cl, T.n_Clause_own_parts, rfl, t, _, 1, _, rfl, rfl, SqT.of h2, rfl, q _ (exr _)⟩⟩
theorem fn_Clause_what (T : Tx K mg w A) : ∀ f fd, Fun K "what" "Clause.what" S_Clause_what f fd → Fn P w K mg base f 1 (spClWhat A) := by
  intro f fd F
  refine fnr_of (k := 0) F sc_Clause_what (fun _ _ _ _ _ _ us hl => match us, hl with | [_], _ => rfl) (fun vs H Q E h => by obtain ⟨x, d, rfl, _⟩ := h; rfl) fun f cdv Ar outer s H vs Q E c h => ?_
  have hr := c.room
  have nd := sc_Clause_what.nd
  obtain ⟨a, d, rfl, ⟨hd, dx, t, h1, h2⟩, q⟩ := h
  refine ⟨_, (pss_one (ps_ret (pe_ix (ix_tupC c) (pe_at c (pv 0)) pe_int (fun _ _ => rfl)))), ?_⟩
  exact ⟨_, rfl, a, _, dx, _, rfl, h1, .inl ⟨_, T.o_Clause.cl, T.n_Clause_own_parts, rfl, t, _, 2, _, rfl, rfl, SqT.of h2, rfl, q _ (exr _)⟩⟩
theorem fn_Clause_takes (T : Tx K mg w A) : ∀ f fd, Fun K "takes" "Clause.takes" S_Clause_takes f fd → Fn P w K mg base f 3 (spTakes A) := by
  intro f fd F
  refine fnr_of (k := 2) F sc_Clause_takes (fun _ _ _ _ _ _ us hl => match us, hl with | [_, _, _, _], _ => rfl) (fun vs H Q E h => by obtain ⟨x, d, _, _, _, _, rfl, _⟩ := h; rfl) fun f cdv Ar outer s H vs Q E c h => ?_
  have hr := c.room
  have nd := sc_Clause_takes.nd
  obtain ⟨a, d, l, pl, p, fm, rfl, hc, hl, ⟨p0, p1⟩, q⟩ := h
  obtain ⟨hd, dx, t, h1, h2⟩ := id hc
  refine ⟨_, (pss_cons (ps_if (pt_cmpR (inKd_C c T.d_BITS) (pe_at c (pv 0)) (pe_gc (by rfl) T.k_BITS) (by rfl)) (pss_one (ps_ret (pe_cmpR op_gt (pe_op op_and (pv 2) (pe_kd c T.d_BITS (pe_gc (by rfl) T.k_BITS) (pe_at c (pv 0)) (fun _ _ => rfl))) pe_int (nomark _)))) pss_nil)
 (pss_cons (ps_if (pt_cmpR op_in_sign (pv 1) (pe_at c (pv 0)) (by rfl)) (pss_one (ps_ret pe_bl)) pss_nil)
 (pss_one (ps_ret (pe_and (pe_cmpR op_eq (pv 1) pe_str (nomark _)) (pe_and (pe_cmpR op_in_sign pe_str (pe_at c (pv 0)) (by rfl)) (pe_one (pe_or (pe_cmpR op_eq (pv 3) pe_str (nomark _)) (pe_one (pe_cmpR op_gt (pv 2) pe_int (nomark _))))))))))), ?_⟩
  have cw : ∀ n, 2 ≤ n → PCal K (Fn P w K mg base) n A.Clause "what" (spClWhat A) := fun n hn => pcal_of T.p_Clause_what T.o_Clause.cl (fn_Clause_what T) hn
  obtain ⟨r, hr1, hr2⟩ := kd_bits T hd.what
  refine ⟨_, rfl, a, _, dx, _, rfl, h1, .inr ⟨_, cw 2 (by decide), a, d, rfl, hc, fun H1 e1 => ⟨_, r, rfl, rfl, hr1, _, rfl, ?_⟩⟩⟩
  unfold takesB at q
  cases hk : kb d.what with
  | some i =>
    rw [hk] at hr2
    simp only [hk] at q
    obtain ⟨u, rfl, ru⟩ := hr2
    refine iteT ⟨_, rfl, _, rfl, a, _, dx, _, rfl, e1 _ _ h1, .inr ⟨_, cw 2 (by decide), a, d, rfl, hc.ex e1, fun H2 e2 => ⟨_, u, _, rfl, rfl, hr1, ru, _, _, rfl, rfl, _, _, rfl, rfl, q H2 (ext e1 e2)⟩⟩⟩
  | none =>
    rw [hk] at hr2
    simp only [hk] at q
    subst hr2
    obtain ⟨ch, rfl⟩ : ∃ ch, l = ⟨#[ch]⟩ := by cases hl <;> exact ⟨_, rfl⟩
    refine iteF ⟨_, rfl, _, rfl, a, _, dx, _, rfl, e1 _ _ h1, .inr ⟨_, cw 2 (by decide), a, d, rfl, hc.ex e1, fun H2 e2 => ⟨ch, d.what, rfl, rfl, _, rfl, ?_⟩⟩⟩
    have e12 := ext e1 e2
    by_cases hm : ch ∈ d.what.cps.toList
    · rw [decide_eq_true hm]
      have hm' : (⟨#[ch]⟩ : Str).cps.toList.headD 0 ∈ d.what.cps.toList := hm
      simp only [decide_eq_true hm', Bool.true_or] at q
      exact iteT (q H2 e12)
    · rw [decide_eq_false hm]
      have hm' : ¬ (⟨#[ch]⟩ : Str).cps.toList.headD 0 ∈ d.what.cps.toList := hm
      simp only [decide_eq_false hm', Bool.false_or] at q
      refine iteF ⟨_, rfl, rfl, _, rfl, ?_⟩
      by_cases hx : (⟨#[ch]⟩ : Str) = "x"
      · rw [decide_eq_true (congrArg V.str hx)]
        simp only [decide_eq_true hx, Bool.true_and] at q
        refine iteT ⟨_, rfl, a, _, dx, _, rfl, e12 _ _ h1, .inr ⟨_, cw 2 (by decide), a, d, rfl, hc.ex e12, fun H3 e3 => ⟨88, d.what, rfl, rfl, _, rfl, ?_⟩⟩⟩
        by_cases hX : 88 ∈ d.what.cps.toList
        · rw [decide_eq_true hX]
          simp only [decide_eq_true hX, Bool.true_and] at q
          refine iteT ⟨_, rfl, rfl, _, rfl, ?_⟩
          by_cases hf : fm = "folder"
          · rw [decide_eq_true (congrArg V.str hf)]
            simp only [decide_eq_true hf, Bool.true_or] at q
            exact iteT (q H3 (ext e12 e3))
          · rw [decide_eq_false (fun e => hf (V.str.inj e))]
            simp only [decide_eq_false hf, Bool.false_or] at q
            exact iteF ⟨_, rfl, _, _, rfl, rfl, q H3 (ext e12 e3)⟩
        · rw [decide_eq_false hX]
          simp only [decide_eq_false hX, Bool.false_and] at q
          exact iteF (q H3 (ext e12 e3))
      · rw [decide_eq_false (fun e => hx (V.str.inj e))]
        simp only [decide_eq_false hx, Bool.false_and] at q
        exact iteF (q H2 e12)
theorem fn_Clause_moved (T : Tx K mg w A) : ∀ f fd, Fun K "moved" "Clause.moved" S_Clause_moved f fd → Fn P w K mg base f 4 (spClMoved A) := by
  intro f fd F
  refine fnr_of (k := 3) F sc_Clause_moved (fun _ _ _ _ _ _ us hl => match us, hl with | [_, _, _, _], _ => rfl) (fun vs H Q E h => by obtain ⟨x, d, _, _, _, _, rfl, _⟩ := h; rfl) fun f cdv Ar outer s H vs Q E c h => ?_
  have hr := c.room
  have nd := sc_Clause_moved.nd
  obtain ⟨a, d, l, pl, p, fm, rfl, hc, hl, hp, q⟩ := h
  obtain ⟨hd, dx, t, h1, h2⟩ := id hc
  refine ⟨_, (pss_cons (ps_set (i := 4) nd rfl (Or.inl rfl) (pe_mt c (pv 0) (pa_cons (pv 1) (pa_cons (pv 2) (pa_cons (pv 3) pa_nil)))))
 (pss_cons (ps_if (pt_cmpR op_eq (pe_at c (pv 0)) pe_str (nomark _)) (pss_one (ps_ret (pe_ifExp (pt_val (pv 4)) (pe_op op_or (pv 2) (pe_at c (pv 0))) (pe_op op_and (pv 2) (pe_un un_inv (pe_at c (pv 0))))))) pss_nil)
 (pss_cons (ps_if (pt_not (pt_val (pv 4))) (pss_one (ps_ret (pv 2))) pss_nil)
 (pss_one (ps_ret (pe_ifExp (pt_cmpR op_eq (pe_at c (pv 0)) pe_str (nomark _)) (pe_op op_or (pv 2) (pe_at c (pv 0))) (pe_op op_and (pv 2) (pe_un un_inv (pe_at c (pv 0)))))))))), ?_⟩
  have cs : ∀ n, 2 ≤ n → PCal K (Fn P w K mg base) n A.Clause "sign" (spClSign A) := fun n hn => pcal_of T.p_Clause_sign T.o_Clause.cl (fn_Clause_sign T) hn
  refine ⟨_, rfl, a, _, dx, _, _, rfl, h1, mcal_of T.m_Clause_takes T.o_Clause.cl (fn_Clause_takes T), rfl, _, rfl, _, rfl, _, rfl, a, d, l, pl, p, fm, rfl, hc, hl, hp, fun H1 e1 => ?_⟩
  refine ⟨_, rfl, a, _, dx, _, rfl, e1 _ _ h1, .inr ⟨_, cs 3 (by decide), a, d, rfl, hc.ex e1, fun H2 e2 => ⟨rfl, _, rfl, ?_⟩⟩⟩
  have e12 := ext e1 e2
  have es : ∀ z ∈ signM, (z = "+" ∧ z ≠ "-" ∧ z ≠ "=") ∨ (z = "-" ∧ z ≠ "+" ∧ z ≠ "=") ∨ (z = "=" ∧ z ≠ "+" ∧ z ≠ "-") := by decide +kernel
  have fld : ∀ H', Ex H H' → H' a = some (.ins A.Clause dx (clFs t d)) := fun H' e => e _ _ h1
  unfold movedI at q
  rcases es _ hd.sign with ⟨s1, s2, s3⟩ | ⟨s1, s2, s3⟩ | ⟨s1, s2, s3⟩
  · rw [decide_eq_false (fun e => s3 (V.str.inj e))]
    simp only [if_neg s2, if_neg s3] at q
    refine iteF ⟨_, rfl, _, rfl, ?_⟩
    cases ht : takesB d.what l p fm with
    | false =>
      simp only [ht] at q
      exact iteT ⟨_, rfl, q _ e12⟩
    | true =>
      simp only [ht] at q
      refine iteF ⟨_, rfl, a, _, dx, _, rfl, fld _ e12, .inr ⟨_, cs 3 (by decide), a, d, rfl, hc.ex e12, fun H3 e3 => ⟨rfl, _, rfl, ?_⟩⟩⟩
      rw [decide_eq_true (congrArg V.str s1)]
      exact iteT ⟨_, rfl, _, rfl, a, _, dx, _, rfl, fld _ (ext e12 e3), .inl ⟨_, T.o_Clause.cl, T.n_Clause_own_bits, rfl, _, _, rfl, rfl, q _ (ext e12 e3)⟩⟩
  · rw [decide_eq_false (fun e => s3 (V.str.inj e))]
    simp only [if_pos s1, if_neg s3] at q
    refine iteF ⟨_, rfl, _, rfl, ?_⟩
    cases ht : takesB d.what l p fm with
    | false =>
      simp only [ht] at q
      exact iteT ⟨_, rfl, q _ e12⟩
    | true =>
      simp only [ht] at q
      refine iteF ⟨_, rfl, a, _, dx, _, rfl, fld _ e12, .inr ⟨_, cs 3 (by decide), a, d, rfl, hc.ex e12, fun H3 e3 => ⟨rfl, _, rfl, ?_⟩⟩⟩
      rw [decide_eq_false (fun e => s2 (V.str.inj e))]
      exact iteF ⟨_, rfl, _, rfl, a, _, dx, _, rfl, fld _ (ext e12 e3), .inl ⟨_, T.o_Clause.cl, T.n_Clause_own_bits, rfl, _, rfl, _, _, rfl, rfl, q _ (ext e12 e3)⟩⟩
  · rw [decide_eq_true (congrArg V.str s1)]
    simp only [if_pos s1, if_neg s3] at q
    refine iteT ⟨_, rfl, _, rfl, ?_⟩
    cases ht : takesB d.what l p fm with
    | false =>
      simp only [ht] at q
      exact iteF ⟨_, rfl, _, rfl, a, _, dx, _, rfl, fld _ e12, .inl ⟨_, T.o_Clause.cl, T.n_Clause_own_bits, rfl, _, rfl, _, _, rfl, rfl, q _ e12⟩⟩
    | true =>
      simp only [ht] at q
      exact iteT ⟨_, rfl, _, rfl, a, _, dx, _, rfl, fld _ e12, .inl ⟨_, T.o_Clause.cl, T.n_Clause_own_bits, rfl, _, _, rfl, rfl, q _ e12⟩⟩
end
end Md
/-! Md: clauses read, changes. -/
namespace Md
open PySem PySem.Spec PyProof.Rows L2
def spClRead (A : Ad) : Sp := fun vs H Q _ => ∃ c, vs = [.ref A.Clause, .str (ctext c)] ∧ ClOk c ∧ ∀ b H', Ex H H' → H b = none → ClauseAt A H' b c → Q (.ref b) H'
section
variable {P : Program} {w : World} {K : PySem.W.Frag} {mg : Str → Option Value} {base : Heap} {A : Ad}
theorem mk_Clause {H1 : Hp} {x dx : Addr} {c : Cl} {Q : VK} {E : XK} (hx : H1 x = none) (hd : H1 dx = none) (hc : ClOk c) (q : ∀ H', Ex H1 H' → ClauseAt A H' x c → Q (.ref x) H') :
    spClauseInit A [.ref x, .str c.who, .str c.sign, .str c.what] (upd (upd H1 dx (.own x)) x (.ins A.Clause dx [])) (fun v H2 => v = .non ∧ Q (.ref x) H2) E :=
  ⟨x, dx, c, rfl, upd_same, hc, fun H' t e h1 h2 _ => ⟨rfl, q H' (ExB.made hx hd e) ⟨hc, dx, t, h1, h2⟩⟩⟩
theorem fn_Clause_read (T : Tx K mg w A) : ∀ f fd, Fun K "read" "Clause.read" S_Clause_read f fd → Fn P w K mg base f 5 (spClRead A) := by
  intro f fd F
  refine fnr_of (k := 4) F sc_Clause_read (fun _ _ _ _ _ _ us hl => match us, hl with | [_, _], _ => rfl) (fun vs H Q E h => by obtain ⟨d, rfl, _⟩ := h; rfl) fun f cdv Ar outer s H vs Q E c h => ?_
  have hr := c.room
  have nd := sc_Clause_read.nd
  obtain ⟨d, rfl, hd, q⟩ := h
  have R := hd.rd
  refine ⟨_, (pss_cons (ps_if (pt_val (pe_callB (isi_C c) (by rfl) T.b_isinstance (by decide +kernel) (pa_cons (pv 1) (pa_cons (pe_bltn (by rfl) T.b_str (by decide +kernel) (v := .ty "str") rfl) pa_nil)))) (pss_one (ps_for PassesOwn.never rfl (pi_enumA (by rfl) T.b_enumerate (pa_cons (pv 1) pa_nil)) (pg_tupC c rfl (pgs_cons (pg_name (i := 2) nd rfl (Or.inl rfl)) (pgs_cons (pg_name (i := 3) nd rfl (Or.inl rfl)) pgs_nil)))
 (pss_one (ps_if (pt_cmpR op_in_sign (pv 3) (pe_gc (by rfl) T.k_SIGNS_changes) (by rfl)) (pss_one (ps_ret (pe_mkE c (pv 0) (pa_cons (pe_slice sl_str (pv 1) po_none (po_some (pv 2))) (pa_cons (pv 3) (pa_cons (pe_slice sl_str (pv 1) (po_some (pe_op op_add (pv 2) pe_int)) po_none) pa_nil)))))) pss_nil)))) pss_nil)
 (pss_one ps_never)), ?_⟩
  refine ⟨_, rfl, _, _, _, _, true, rfl, .ty _, .base (.str _), kit_ty (by decide +kernel), _, rfl, iteT ?_⟩
  refine ⟨_, rfl, .s, .str (ctext d), sgl (ctext d), rfl, ⟨ctext d, rfl, rfl⟩, for_it walk_P (fun i σ H' => i ≤ d.who.length ∧ (∃ v1 v2, σ = [some (.ref A.Clause), some (.str (ctext d)), v1, v2]) ∧ Ex H H')
    ⟨Nat.zero_le _, ⟨none, none, rfl⟩, exr _⟩ (fun i σ H' hi p => ⟨ctext d, rfl, rfl⟩) ?_ ?_⟩
  · rintro i x σ H1 H2 hi ⟨hle, ⟨v1, v2, rfl⟩, e1⟩ ⟨Ta, ys, hT, rfl, rfl, a, rfl, ha⟩
    have e2 : Ex H1 (upd H1 Ta (.tup [.int (i : Nat), a])) := exn hT
    refine ⟨Ta, _, rfl, SqT.of upd_same, rfl, _, _, rfl, _, _, rfl, rfl, ?_⟩
    unfold sgl at ha
    rw [List.getElem?_map] at ha
    obtain ⟨ch, hch, rfl⟩ := Option.map_eq_some_iff.mp ha
    refine ⟨_, rfl, ch, "+-=", rfl, rfl, _, rfl, ?_⟩
    have hg : (ctext d).cps.toList.getD i 0 = ch := getD_of hch
    by_cases hlt : i < d.who.length
    · have := R.before i hlt
      rw [hg] at this
      rw [decide_eq_false (show ¬ ch ∈ ("+-=" : Str).cps.toList from this)]
      exact iteF ⟨hlt, ⟨_, _, rfl⟩, ext e1 e2⟩
    · have ei : i = d.who.length := by omega
      subst ei
      have h1 := R.at_
      rw [hg] at h1
      rw [decide_eq_true (show ch ∈ ("+-=" : Str).cps.toList from h1)]
      have sg := R.sg
      rw [hg] at sg
      refine iteT ⟨_, rfl, A.Clause, _, rfl, ccalA_of T.i_Clause (fn_Clause_init T), ?_⟩
      refine ⟨_, rfl, _, rfl, _, rfl, _, rfl, zl (by have := R.len; omega), _, rfl, _, rfl, _, rfl, _, _, rfl, rfl, _, rfl, _, rfl, zl (by have := R.len; omega), fun x dx hx hdx _ => ?_⟩
      have k := mk_Clause (A := A) (Q := Q) (E := E0) hx hdx hd fun H' e h => q x H' (ext (ext e1 e2) e) ((ext e1 e2).none hx) h
      have w1 := R.w1
      have w2 := R.w2
      rw [sg] at k
      rw [w1, w2]
      exact k
  · rintro σ H1 ⟨hle, _⟩
    exfalso
    have := R.lt
    rw [sgl_len] at hle
    omega
end
/-- clauses behind refs -/
def ClausesAt (A : Ad) (H : Hp) (rs : List V) (cs : List Cl) : Prop := rs.length = cs.length ∧ ∀ (i : Nat) (c : Cl), cs[i]? = some c → ∃ a : Addr, rs[i]? = some (V.ref a) ∧ ClauseAt A H a c
theorem ClausesAt.ex {A : Ad} {H H' : Hp} {rs : List V} {cs : List Cl} (e : Ex H H') (h : ClausesAt A H rs cs) : ClausesAt A H' rs cs := ⟨h.1, fun i c hc => (h.2 i c hc).imp fun a q => ⟨q.1, q.2.ex e⟩⟩
theorem ClausesAt.ok {A : Ad} {H : Hp} {rs : List V} {cs : List Cl} (h : ClausesAt A H rs cs) : ∀ c ∈ cs, ClOk c := fun c hc => by
  obtain ⟨i, hi⟩ := List.mem_iff_getElem?.mp hc
  obtain ⟨a, _, q⟩ := h.2 i c hi
  exact q.1
theorem ClausesAt.at {A : Ad} {H : Hp} {rs : List V} {cs : List Cl} (h : ClausesAt A H rs cs) {i : Nat} {x : V} (hx : rs[i]? = some x) : ∃ a c, x = .ref a ∧ cs[i]? = some c ∧ ClauseAt A H a c := by
  have hi : i < cs.length := by rw [← h.1]; exact (List.getElem?_eq_some_iff.mp hx).1
  have e : cs[i]? = some cs[i] := by simp [hi]
  obtain ⟨a, ha, q⟩ := h.2 i _ e
  rw [hx] at ha
  exact ⟨a, _, Option.some.inj ha, e, q⟩
/-- they are told but by what does not stand at x -/
theorem ClausesAt.exb {A : Ad} {H H' : Hp} {x : Addr} {o : HO} {rs : List V} {cs : List Cl} (hx : H x = some o) (hn : ∀ d t c, o ≠ .ins A.Clause d (clFs t c)) (hn2 : ∀ c, o ≠ clTup c) (e : ExB x H H') (h : ClausesAt A H rs cs) : ClausesAt A H' rs cs :=
  ⟨h.1, fun i c hc => (h.2 i c hc).imp fun a ⟨q, k, dx, t, h1, h2⟩ => ⟨q, k, dx, t, e _ _ (fun z => by rw [z, hx] at h1; exact hn _ _ _ (Option.some.inj h1)) h1, e _ _ (fun z => by rw [z, hx] at h2; exact hn2 _ (Option.some.inj h2)) h2⟩⟩
def rowV (cs : List Cl) (l f : Str) : List V := (List.range 8).map fun p : Nat => V.int (chMoved cs l (p : Int) f)
def RowsAt (H : Hp) (tr : Addr) (cs : List Cl) : Prop := ∃ t0 t1 t2 t3, H tr = some (.tup [.ref t0, .ref t1, .ref t2, .ref t3]) ∧ H t0 = some (.tup (rowV cs "r" "file")) ∧ H t1 = some (.tup (rowV cs "w" "file")) ∧ H t2 = some (.tup (rowV cs "x" "file")) ∧ H t3 = some (.tup (rowV cs "x" "folder"))
def ChangeAt (A : Ad) (H : Hp) (a : Addr) (cs : List Cl) : Prop := (∀ c ∈ cs, ClOk c) ∧ ∃ dx tc tr, H a = some (.ins A.Change dx [("own_clauses", .ref tc), ("own_rows", .ref tr)]) ∧ RowsAt H tr cs
theorem ChangeAt.ex {A : Ad} {H H' : Hp} {a : Addr} {cs : List Cl} (e : Ex H H') (h : ChangeAt A H a cs) : ChangeAt A H' a cs := by
  obtain ⟨o, dx, tc, tr, h1, t0, t1, t2, t3, r, r0, r1, r2, r3⟩ := h
  exact ⟨o, dx, tc, tr, e _ _ h1, t0, t1, t2, t3, e _ _ r, e _ _ r0, e _ _ r1, e _ _ r2, e _ _ r3⟩
def spChMoved (A : Ad) : Sp := fun vs H Q _ => ∃ (a : Addr) (l : Str) (pl p : Int) (f : Str) (dx : Addr) (fs : List (Str × V)) (tc : Addr) (rs : List V) (cs : List Cl), vs = [.ref a, .str l, .int p, .str f] ∧ H a = some (.ins A.Change dx fs) ∧ fs.lookup ("own_clauses" : Str) = some (.ref tc) ∧ fs.lookup ("moved" : Str) = none ∧ H tc = some (.tup rs) ∧ ClausesAt A H rs cs ∧ Ltr l pl ∧ (0 ≤ p ∧ p ≤ 7) ∧
  ∀ H', Ex H H' → Q (.int (chMoved cs l p f)) H'
def spChInit0 (A : Ad) : Sp := fun vs H Q _ => ∃ x dx t rs cs, vs = [.ref x, .ref t] ∧ H x = some (.ins A.Change dx []) ∧ H t = some (.tup rs) ∧ ClausesAt A H rs cs ∧ (1 ≤ cs.length ∧ cs.length ≤ 8) ∧
  ∀ H' tc tr, ExB x H H' → H' x = some (.ins A.Change dx [("own_clauses", .ref tc), ("own_rows", .ref tr)]) → RowsAt H' tr cs → Q .non H'
def spChThree (A : Ad) : Sp := fun vs H Q _ => ∃ a f cs, vs = [.ref a, .str f] ∧ ChangeAt A H a cs ∧ Frm f ∧ ∀ H' t r0 r1 r2, Ex H H' → H' t = some (.tup [.ref r0, .ref r1, .ref r2]) → H' r0 = some (.tup (rowV cs "r" "file")) → H' r1 = some (.tup (rowV cs "w" "file")) → H' r2 = some (.tup (rowV cs "x" f)) → Q (.ref t) H'
def spChCall (A : Ad) : Sp := fun vs H Q _ => ∃ a m k f cs, vs = [.ref a, .ref m, .str f] ∧ ChangeAt A H a cs ∧ ModeAt A H m k ∧ Frm f ∧ ∀ b H', Ex H H' → H b = none → ModeAt A H' b (applyCh cs f k) → Q (.ref b) H'
theorem chMoved_take {cs : List Cl} {i : Nat} {c : Cl} (h : cs[i]? = some c) (l : Str) (p : Int) (f : Str) : chMoved (cs.take (i + 1)) l p f = movedI c l (chMoved (cs.take i) l p f) f := by
  unfold chMoved
  rw [List.take_succ, h, List.foldl_append]
  rfl
section
variable {P : Program} {w : World} {K : PySem.W.Frag} {mg : Str → Option Value} {base : Heap} {A : Ad}
theorem fn_Change_moved (T : Tx K mg w A) : ∀ f fd, Fun K "moved" "Change.moved" S_Change_moved f fd → Fn P w K mg base f 5 (spChMoved A) := by
  intro f fd F
  refine fnr_of (k := 4) F sc_Change_moved (fun _ _ _ _ _ _ us hl => match us, hl with | [_, _, _, _], _ => rfl) (fun vs H Q E h => by obtain ⟨a, l, pl, p, f, _, _, _, _, _, rfl, _⟩ := h; rfl) fun f cdv Ar outer s H vs Q E c h => ?_
  have hr := c.room
  have nd := sc_Change_moved.nd
  obtain ⟨a, l, pl, p, fm, dx, fs, tc, rs, cs, rfl, ha, hl1, hl2, htc, hcs, hl, ⟨p0, p1⟩, q⟩ := h
  refine ⟨_, (pss_cons (ps_set (i := 4) nd rfl (Or.inl rfl) (pv 2))
 (pss_cons (ps_for PassesOwn.never rfl (pi_tupC c (pe_at c (pv 0))) (pg_name (i := 5) nd rfl (Or.inl rfl))
 (pss_one (ps_set (i := 4) nd rfl (Or.inl rfl) (pe_mt c (pv 5) (pa_cons (pv 1) (pa_cons (pv 4) (pa_cons (pv 3) pa_nil)))))))
 (pss_one (ps_ret (pv 4))))), ?_⟩
  refine ⟨_, rfl, _, rfl, a, _, dx, _, rfl, ha, .inl ⟨_, T.o_Change.cl, T.n_Change_own_clauses, hl1, tc, rfl, ⟨_, SqT.of htc⟩,
    for_it walk_tup (fun i σ H' => (∃ v, σ = [some (.ref a), some (.str l), some (.int p), some (.str fm), some (.int (chMoved (cs.take i) l p fm)), v]) ∧ Ex H H') ⟨⟨none, rfl⟩, exr _⟩ (fun i σ H' _ p => SqT.of (p.2 _ _ htc)) ?_ ?_⟩⟩
  · rintro i x σ H1 H2 hi ⟨⟨v, rfl⟩, e1⟩ ⟨rfl, hx⟩
    obtain ⟨b, d, rfl, hd, hb⟩ := hcs.at hx
    have ok : ∀ c ∈ cs.take i, ClOk c := fun c hc => hcs.ok c (List.mem_of_mem_take hc)
    have rng := chMoved_rng (l := l) (form := fm) ok p0 p1
    obtain ⟨hdo, dx', t', hb1, hb2⟩ := hb.ex e1
    refine ⟨_, rfl, b, _, dx', _, _, rfl, hb1, mcal_of T.m_Clause_moved T.o_Clause.cl (fn_Clause_moved T), rfl, _, rfl, _, rfl, _, rfl, b, d, l, pl, _, fm, rfl, ⟨hdo, dx', t', hb1, hb2⟩, hl, rng, fun H3 e3 => ?_⟩
    refine ⟨⟨some (.ref b), ?_⟩, ext e1 e3⟩
    rw [chMoved_take hd]
    rfl
  · rintro σ H1 ⟨⟨v, rfl⟩, e1⟩
    rw [List.take_of_length_le (by rw [hcs.1]; exact Nat.le_refl _)]
    exact ⟨_, rfl, q _ e1⟩
theorem fn_Change_three (T : Tx K mg w A) : ∀ f fd, Fun K "three" "Change.three" S_Change_three f fd → Fn P w K mg base f 1 (spChThree A) := by
  intro f fd F
  refine fnr_of (k := 0) F sc_Change_three (fun _ _ _ _ _ _ us hl => match us, hl with | [_, _], _ => rfl) (fun vs H Q E h => by obtain ⟨a, l, cs, rfl, _⟩ := h; rfl) fun f cdv Ar outer s H vs Q E c h => ?_
  have hr := c.room
  have nd := sc_Change_three.nd
  obtain ⟨a, fm, cs, rfl, ⟨ok, dx, tc, tr, ha, t0, t1, t2, t3, hr0, r0, r1, r2, r3⟩, hf, q⟩ := h
  refine ⟨_, (pss_one (ps_ret (pe_tup (pa_cons (pe_ix (ix_tupC c) (pe_at c (pv 0)) pe_int (fun _ _ => rfl)) (pa_cons (pe_ix (ix_tupC c) (pe_at c (pv 0)) pe_int (fun _ _ => rfl)) (pa_cons (pe_ix (ix_tupC c) (pe_at c (pv 0)) (pe_ifExp (pt_cmpR op_eq (pv 1) pe_str (nomark _)) pe_int pe_int) (fun _ _ => rfl)) pa_nil)))))), ?_⟩
  refine ⟨_, rfl, a, _, dx, _, rfl, ha, .inl ⟨_, T.o_Change.cl, T.n_Change_own_rows, rfl, tr, _, 0, _, rfl, rfl, SqT.of hr0, rfl, ?_⟩⟩
  refine ⟨_, rfl, a, _, dx, _, rfl, ha, .inl ⟨_, T.o_Change.cl, T.n_Change_own_rows, rfl, tr, _, 1, _, rfl, rfl, SqT.of hr0, rfl, ?_⟩⟩
  refine ⟨_, rfl, a, _, dx, _, rfl, ha, .inl ⟨_, T.o_Change.cl, T.n_Change_own_rows, rfl, ?_⟩⟩
  refine ⟨_, rfl, rfl, _, rfl, ?_⟩
  rcases hf with rfl | rfl
  · rw [decide_eq_true (rfl : V.str "file" = V.str "file")]
    refine iteT ⟨tr, _, 2, _, rfl, rfl, SqT.of hr0, rfl, by show 3 ≤ sizeLine; decide, fun p hp => ?_⟩
    exact q _ p t0 t1 t2 (exn hp) upd_same (exn hp _ _ r0) (exn hp _ _ r1) (exn hp _ _ r2)
  · rw [decide_eq_false (by decide +kernel : ¬ V.str "folder" = V.str "file")]
    refine iteF ⟨tr, _, 3, _, rfl, rfl, SqT.of hr0, rfl, by show 3 ≤ sizeLine; decide, fun p hp => ?_⟩
    exact q _ p t0 t1 t3 (exn hp) upd_same (exn hp _ _ r0) (exn hp _ _ r1) (exn hp _ _ r3)
end
end Md
/-! Md: a change made, called, read. -/
namespace Md
open PySem PySem.Spec PyProof.Rows L2
abbrev scRows : Scope := { kind := .function, names := [(".0", .local), ("letter", .cell), ("form", .cell), ("tuple", .globalImplicit), ("range", .globalImplicit), ("self", .cell)], isGenerator := false, isCoroutine := false }
def plcM : List (Str × Str) := [("r", "file"), ("w", "file"), ("x", "file"), ("x", "folder")]
theorem plcM_ltr : ∀ {l f : Str}, (l, f) ∈ plcM → ∃ pl, Ltr l pl := fun {l f} h => by
  simp only [plcM, List.mem_cons, List.mem_nil_iff, or_false, Prod.mk.injEq] at h
  rcases h with ⟨rfl, _⟩ | ⟨rfl, _⟩ | ⟨rfl, _⟩ | ⟨rfl, _⟩
  · exact ⟨_, .r⟩
  · exact ⟨_, .w⟩
  · exact ⟨_, .x⟩
  · exact ⟨_, .x⟩
section
variable {P : Program} {w : World} {K : PySem.W.Frag} {mg : Str → Option Value} {base : Heap} {A : Ad}
theorem pc_at (T : Tx K mg w A) : ∃ xs : List V, xs.length = 4 ∧ (∀ H, SqT K H A.t_PC xs) ∧ ∀ (i : Nat) (x : V), xs[i]? = some x → ∃ (p : Addr) (lf : Str × Str), x = .ref p ∧ plcM[i]? = some lf ∧ ∀ H, SqT K H p [.str lf.1, .str lf.2] := by
  obtain ⟨p0, p1, p2, p3, h, h0, h1, h2, h3⟩ := T.z_PC
  refine ⟨_, rfl, h, fun i x hx => ?_⟩
  match i, hx with
  | 0, hx => cases hx; exact ⟨p0, _, rfl, rfl, h0⟩
  | 1, hx => cases hx; exact ⟨p1, _, rfl, rfl, h1⟩
  | 2, hx => cases hx; exact ⟨p2, _, rfl, rfl, h2⟩
  | 3, hx => cases hx; exact ⟨p3, _, rfl, rfl, h3⟩
  | _ + 4, hx => cases hx
theorem fn_Change_init (T : Tx K mg w A) : ∀ f fd, Fun K "__init__" "Change.__init__" S_Change_DinitD f fd → Fn P w K mg base f 6 (fun vs H Q E => ∃ ws rest, vs = ws ++ rest ∧ ws.length = ["self"].length ∧ rest.length ≤ sizeLine ∧ ∀ p, H p = none → spChInit0 A (ws ++ [V.ref p]) (upd H p (.tup rest)) Q E) := by
  intro f fd F
  refine fnr_star (k := 5) (ps := ["self"]) (pv := "clauses") F sc_Change_DinitD (fun _ _ _ _ _ _ us rest hl => match us, rest, hl with | [_], [], _ => rfl | [_], _ :: _, _ => rfl) fun f cdv Ar outer s H vs Q E c h => ?_
  have hr := c.room
  have nd := sc_Change_DinitD.nd
  obtain ⟨x, dx, t, rs, cs, rfl, hx, ht, hcs, ⟨n1, n8⟩, q⟩ := h
  have hl := hcs.1
  refine ⟨_, (pss_cons (ps_if (pt_cmpR op_gt (pe_callB (len_C c) (by rfl) T.b_len PySem.boot_len (pa_cons (pv 1) pa_nil)) (pe_gc (by rfl) T.k_MOST_CLAUSES) (nomark _)) (pss_one ps_never) pss_nil)
 (pss_cons (ps_if (pt_cmpR op_eq (pe_callB (len_C c) (by rfl) T.b_len PySem.boot_len (pa_cons (pv 1) pa_nil)) pe_int (nomark _)) (pss_one ps_never) pss_nil)
 (pss_cons (ps_for PassesOwn.never rfl (pi_enumA (by rfl) T.b_enumerate (pa_cons (pv 1) pa_nil)) (pg_tupC c rfl (pgs_cons (pg_name (i := 2) nd rfl (Or.inl rfl)) (pgs_cons (pg_name (i := 3) nd rfl (Or.inl rfl)) pgs_nil)))
 (pss_one (ps_if (pt_not (pt_val (pe_callB (isi_C c) (by rfl) T.b_isinstance (by decide +kernel) (pa_cons (pv 3) (pa_cons (pe_gc (by rfl) T.k_Clause) pa_nil))))) (pss_one ps_never) pss_nil)))
 (pss_cons (ps_fld (pv 0) (pe_callTy (tup_C c) (by rfl) T.b_tuple (by decide +kernel) (pa_cons (pv 1) pa_nil)) rfl)
 (pss_one (ps_fld (pv 0) (pe_callTy (tup_C c) (by rfl) T.b_tuple (by decide +kernel) (pa_cons (pe_lc (own := [("letter", 5), ("form", 6)]) (g := gTup K 2 (gCons (gName 5) (gCons (gName 6) gNil))) rfl nd (pi_tupC c (pe_gc (by rfl) T.k_PLACES_changes)) (blkOk_by (N := N_Change_DinitD) (sc := defScope S_Change_DinitD) (by decide +kernel)) (fun _ _ _ _ _ => (pg_tupC c.b rfl (pgs_cons (pg_name (i := 5) nd rfl (Or.inr rfl)) (pgs_cons (pg_name (i := 6) nd rfl (Or.inr rfl)) pgs_nil)))) (fun _ _ _ _ _ => pts_nil) (fun _ _ _ _ _ => (pe_callTy (tup_C c.b) (by rfl) T.b_tuple (by decide +kernel) (pa_cons (pe_lc (own := [("p", 4)]) (g := gName 4) rfl nd (pi_range1 (by rfl) T.b_range (pa_cons pe_int pa_nil)) (blkOk_by (N := N_Change_DinitD) (sc := scRows) (by decide +kernel)) (fun _ _ _ _ _ => (pg_name (i := 4) nd rfl (Or.inl rfl))) (fun _ _ _ _ _ => pts_nil) (fun _ _ _ _ _ => (pe_mt c.b.b (pv 0) (pa_cons (pv 5) (pa_cons (pv 4) (pa_cons (pv 6) pa_nil)))))) pa_nil)))) pa_nil)) rfl)))))), ?_⟩
  refine ⟨_, rfl, t, _, rfl, .inr (SqT.of ht), _, _, rfl, rfl, _, rfl, ?_⟩
  rw [decide_eq_false (by omega : ¬ (8 : Int) < (rs.length : Int))]
  refine iteF ⟨_, rfl, t, _, rfl, .inr (SqT.of ht), rfl, _, rfl, ?_⟩
  rw [decide_eq_false (fun e => by have := V.int.inj e; omega)]
  refine iteF ⟨_, rfl, .t, .ref t, rs, rfl, ⟨t, rfl, ht⟩, for_it walk_P (fun i σ H' => (∃ v2 v3 v4 v5 v6, σ = [some (.ref x), some (.ref t), v2, v3, v4, v5, v6]) ∧ Ex H H')
    ⟨⟨_, _, _, _, _, rfl⟩, exr _⟩ (fun i σ H' hi p => ⟨t, rfl, p.2 _ _ ht⟩) ?_ ?_⟩
  · rintro i y σ H1 H2 hi ⟨⟨v2, v3, v4, v5, v6, rfl⟩, e1⟩ ⟨Ta, ys, hT, rfl, rfl, a, rfl, ha⟩
    obtain ⟨b, d, rfl, hd, hb⟩ := hcs.at ha
    have e2 : Ex H1 (upd H1 Ta (.tup [.int (i : Nat), .ref b])) := exn hT
    obtain ⟨_, dx', t', hb1, _⟩ := hb.ex (ext e1 e2)
    refine ⟨Ta, _, rfl, SqT.of upd_same, rfl, _, _, rfl, _, _, rfl, rfl, ?_⟩
    refine ⟨_, rfl, _, _, _, _, true, rfl, .own _, T.o_Clause.ty T.ob hb1, T.t_Clause_Clause, _, rfl, iteF ?_⟩
    exact ⟨⟨_, _, _, _, _, rfl⟩, ext e1 e2⟩
  · rintro σ H1 ⟨⟨v2, v3, v4, v5, v6, rfl⟩, e1⟩
    have ht1 := e1 _ _ ht
    have hx1 := e1 _ _ hx
    refine ⟨_, rfl, t, _, rfl, .inr ⟨SqT.of ht1, _, rfl, x, _, dx, _, rfl, hx1, T.o_Change.cl, T.n_Change_own_clauses, by show 0 < 1000; decide, ?_⟩⟩
    have ntx : t ≠ x := ne_of ht1 hx1 (by intro z; cases z)
    have b2 : ExB x H (upd H1 x (.ins A.Change dx [("own_clauses", .ref t)])) := ExB.upd e1.b
    have hx2 : upd H1 x (.ins A.Change dx [("own_clauses", .ref t)]) x = some (.ins A.Change dx [("own_clauses", .ref t)]) := upd_same
    have hc2 : ClausesAt A (upd H1 x (.ins A.Change dx [("own_clauses", .ref t)])) rs cs := hcs.exb hx (fun d t c z => by injection z with _ _ h; cases h) (fun c z => by cases z) b2
    have ht2 : upd H1 x (.ins A.Change dx [("own_clauses", .ref t)]) t = some (.tup rs) := b2 _ _ ntx ht
    obtain ⟨xs, hxl, hxs, hxi⟩ := pc_at T
    refine ⟨A.t_PC, rfl, ⟨xs, hxs _⟩, fun D hD => ?_⟩
    generalize hH2 : upd H1 x (.ins A.Change dx [("own_clauses", .ref t)]) = H2 at b2 hx2 hc2 ht2
    have hD' : H2 D = none := by rw [← hH2]; exact hD
    refine lc_it (Qd := _) (walk_tup (xs := xs)) (fun i H' => Ex H2 H' ∧ ∃ ts : List Addr, ts.length = i ∧ H' D = some (.lst (ts.map V.ref)) ∧ ∀ (j : Nat) (a : Addr) (lf : Str × Str), ts[j]? = some a → plcM[j]? = some lf → a ≠ D ∧ H' a = some (.tup (rowV cs lf.1 lf.2)))
      ⟨by rw [← hH2]; exact exn hD, [], rfl, upd_same, fun j a lf h => by cases h⟩ (fun i H' hi p => hxs _) ?_ ?_
    · rintro i y H3 H4 hi ⟨e3, ts, hts, hD3, hrow⟩ ⟨rfl, hy⟩
      obtain ⟨pa, lf, rfl, hlf, hpa⟩ := hxi i y hy
      obtain ⟨pl, hltr⟩ := plcM_ltr (l := lf.1) (f := lf.2) (List.mem_of_getElem? hlf)
      refine ⟨pa, _, rfl, hpa _, rfl, _, _, rfl, _, _, rfl, rfl, rfl, ?_⟩
      refine ⟨8, rfl, by decide, by decide, fun D2 hD2 => lc_pure (walk_rng0 (n := 8)) (fun _ => true) (fun p => .int (chMoved cs lf.1 (p : Nat) lf.2)) hD2 (by decide) (fun _ _ => trivial) ?_ fun H7 e7 hl7 => ?_⟩
      · rintro p z H5 H6 hp e5 ⟨rfl, rfl⟩ Kn Ky _ hy2
        have e35 := ext e3 e5
        exact ⟨rfl, _, rfl, x, _, dx, _, _, rfl, e35 _ _ hx2, mcal_of T.m_Change_moved T.o_Change.cl (fn_Change_moved T), rfl, _, rfl, _, rfl, _, rfl, x, lf.1, pl, _, lf.2, dx, _, t, rs, cs, rfl, e35 _ _ hx2, rfl, rfl, e35 _ _ ht2, hc2.ex e35, hltr, ⟨by omega, by omega⟩, fun H8 e8 => hy2 rfl _ e8⟩
      · rw [gvn_all] at hl7
        refine ⟨D2, rowV cs lf.1 lf.2, rfl, .inl ⟨SqL.of hl7, fun l hl => ?_⟩⟩
        have hD7 := e7 _ _ hD3
        have nDl : D ≠ l := ne_of_none hD7 hl
        refine ⟨ts.map V.ref, (upd_ne nDl).trans hD7, zt (by rw [List.length_map, hts]; omega), exm (ext e3 (ext e7 (exn hl))) hD', ts ++ [l], by rw [List.length_append, hts]; rfl, by rw [upd_same, List.map_append]; rfl, fun j a lf' hj hlf' => ?_⟩
        by_cases hji : j < ts.length
        · rw [List.getElem?_append_left hji] at hj
          obtain ⟨h1, h2⟩ := hrow j a lf' hj hlf'
          refine ⟨h1, ?_⟩
          rw [upd_ne h1]
          exact exn hl _ _ (e7 _ _ h2)
        · have hj2 : j < (ts ++ [l]).length := (List.getElem?_eq_some_iff.mp hj).1
          rw [List.length_append] at hj2
          have ej : j = ts.length := by have : [l].length = 1 := rfl; omega
          subst ej
          rw [List.getElem?_append_right (Nat.le_refl _), Nat.sub_self] at hj
          cases hj
          rw [hts, hlf] at hlf'
          cases hlf'
          refine ⟨nDl.symm, ?_⟩
          rw [upd_ne nDl.symm, upd_same]
    · rintro H3 ⟨e3, ts, hts, hD3, hrow⟩
      rw [hxl] at hts
      obtain ⟨t0, t1, t2, t3, rfl⟩ : ∃ a b c d, ts = [a, b, c, d] := by
        match ts, hts with
        | [a, b, c, d], _ => exact ⟨a, b, c, d, rfl⟩
      refine ⟨D, _, rfl, .inl ⟨SqL.of hD3, fun tr htr => ?_⟩⟩
      have hx3 := e3 _ _ hx2
      have nx : x ≠ tr := ne_of_none hx3 htr
      refine ⟨_, rfl, x, _, dx, _, rfl, (upd_ne nx).trans hx3, T.o_Change.cl, T.n_Change_own_rows, by show 1 < 1000; decide, ?_⟩
      have nt : ∀ (a : Addr) (u : List V), H3 a = some (.tup u) → upd (upd H3 tr (.tup ([t0, t1, t2, t3].map V.ref))) x (.ins A.Change dx [("own_clauses", .ref t), ("own_rows", .ref tr)]) a = some (.tup u) := fun a u ha => by
        rw [upd_ne (ne_of ha hx3 (by intro z; cases z))]
        exact exn htr _ _ ha
      refine q _ t tr (ExB.upd ((b2.trans e3.b).trans (exn htr).b)) upd_same ⟨t0, t1, t2, t3, ?_, nt _ _ (hrow 0 t0 _ rfl rfl).2, nt _ _ (hrow 1 t1 _ rfl rfl).2, nt _ _ (hrow 2 t2 _ rfl rfl).2, nt _ _ (hrow 3 t3 _ rfl rfl).2⟩
      rw [upd_ne nx.symm, upd_same]
      rfl
/-- Change(*cs), made -/
theorem mk_Change {H1 : Hp} {x dx : Addr} {rs : List V} {cs : List Cl} {Q : VK} {E : XK} (hx : H1 x = none) (hd : H1 dx = none) (hn : dx ≠ x) (hcs : ClausesAt A H1 rs cs) (n1 : 1 ≤ cs.length) (n8 : cs.length ≤ 8) (q : ∀ H', Ex H1 H' → ChangeAt A H' x cs → Q (.ref x) H') :
    ∃ ws rest, V.ref x :: rs = ws ++ rest ∧ ws.length = ["self"].length ∧ rest.length ≤ sizeLine ∧ ∀ p, upd (upd H1 dx (.own x)) x (.ins A.Change dx []) p = none → spChInit0 A (ws ++ [V.ref p]) (upd (upd (upd H1 dx (.own x)) x (.ins A.Change dx [])) p (.tup rest)) (fun v H2 => v = .non ∧ Q (.ref x) H2) E := by
  have e1 : Ex H1 (upd (upd H1 dx (.own x)) x (.ins A.Change dx [])) := fun a o h => by rw [upd_ne (ne_of_none h hx), upd_ne (ne_of_none h hd)]; exact h
  refine ⟨[.ref x], rs, rfl, rfl, zl (by rw [hcs.1]; omega), fun p hp => ?_⟩
  have nxp : x ≠ p := ne_of_none (H := upd (upd H1 dx (.own x)) x (.ins A.Change dx [])) upd_same hp
  refine ⟨x, dx, p, rs, cs, rfl, (upd_ne nxp).trans upd_same, upd_same, (hcs.ex e1).ex (exn hp), ⟨n1, n8⟩, fun H' tc tr e h1 h2 => ⟨rfl, q H' ?_ ⟨hcs.ok, dx, tc, tr, h1, h2⟩⟩⟩
  exact fun a v h => e a v (ne_of_none h hx) (exn hp _ _ (e1 _ _ h))
end
end Md
/-! Md: a change called, read. -/
namespace Md
open PySem PySem.Spec PyProof.Rows L2 TL
/-- without what stands at F -/
def dele (F : Addr) (H : Hp) : Hp := fun a => if a = F then none else H a
theorem dele_at {F : Addr} {H : Hp} : dele F H F = none := by unfold dele; rw [if_pos rfl]
theorem dele_ne {F a : Addr} {H : Hp} (h : a ≠ F) : dele F H a = H a := by unfold dele; rw [if_neg h]
theorem dele_up {F : Addr} {H : Hp} {o : HO} : Ex (dele F H) (upd H F o) := fun a u e => by
  by_cases h : a = F
  · subst h; rw [dele_at] at e; cases e
  · rw [dele_ne h] at e; rw [upd_ne h]; exact e
theorem dele_of {F : Addr} {hb H : Hp} (e : Ex hb H) (hF : hb F = none) : Ex hb (dele F H) := fun a u h => by
  rw [dele_ne (ne_of_none h hF)]
  exact e a u h
theorem dele_sub {F : Addr} {H : Hp} : Ex (dele F H) H := fun a u e => by
  by_cases h : a = F
  · subst h; rw [dele_at] at e; cases e
  · rw [dele_ne h] at e; exact e
theorem rowV_at {cs : List Cl} {l f : Str} {v : Int} (h0 : 0 ≤ v) (h1 : v ≤ 7) : atI (rowV cs l f) v = some (.int (chMoved cs l v f)) := by
  have e : ((v.toNat : Nat) : Int) = v := by omega
  rw [← e]
  refine atI_nat ?_
  unfold rowV
  rw [List.getElem?_map, List.getElem?_range (by omega)]
  rfl
def accM (cs : List Cl) (f : Str) (k : Int) : Nat → Int
  | 0 => k
  | 1 => chStep cs "r" 2 "file" k
  | 2 => chStep cs "w" 1 "file" (chStep cs "r" 2 "file" k)
  | _ => applyCh cs f k
section
variable {P : Program} {w : World} {K : PySem.W.Frag} {mg : Str → Option Value} {base : Heap} {A : Ad}
theorem fn_Change_call (T : Tx K mg w A) : ∀ f fd, Fun K "__call__" "Change.__call__" S_Change_DcallD f fd → Fn P w K mg base f 5 (spChCall A) := by
  intro f fd F
  refine fnr_of (k := 4) F sc_Change_DcallD (fun _ _ _ _ _ _ us hl => match us, hl with | [_, _, _], _ => rfl) (fun vs H Q E h => by obtain ⟨a, m, k, f, cs, rfl, _⟩ := h; rfl) fun f cdv Ar outer s H vs Q E c h => ?_
  have hr := c.room
  have nd := sc_Change_DcallD.nd
  obtain ⟨a, m, k, fm, cs, rfl, hc, hm, hf, q⟩ := h
  obtain ⟨ok, dxa, tc, tr, ha, _⟩ := id hc
  obtain ⟨k0, k1, _⟩ := id hm
  refine ⟨_, (pss_cons (ps_set (i := 3) nd rfl (Or.inl rfl) (pe_mk c (by rfl) (pa_cons (pe_fn c (by rfl) (pa_cons (pv 1) pa_nil)) pa_nil)))
 (pss_cons (ps_for PassesOwn.never rfl (pi_zip2 (by rfl) T.b_zip (pa_cons pe_str (pa_cons (pe_mt c (pv 0) (pa_cons (pv 2) pa_nil)) pa_nil))) (pg_tupC c rfl (pgs_cons (pg_name (i := 4) nd rfl (Or.inl rfl)) (pgs_cons (pg_name (i := 5) nd rfl (Or.inl rfl)) pgs_nil)))
 (pss_one (ps_set (i := 3) nd rfl (Or.inl rfl) (pe_mt c (pv 3) (pa_cons (pv 4) (pa_cons (pe_ix (ix_tupC c) (pv 5) (pe_mt c (pv 3) (pa_cons (pv 4) pa_nil)) (fun _ _ => rfl)) pa_nil))))))
 (pss_one (ps_ret (pv 3))))), ?_⟩
  refine ⟨_, _, ccal_of T.i_Mode T.k_Mode (fn_Mode_init T), _, cal_of T.f_number_of (fn_number_of T), _, rfl, _, k, rfl, .inr ⟨m, rfl, hm⟩, fun H1 e1 x dx hx hdx _ => ⟨x, dx, k, rfl, upd_same, ⟨k0, k1⟩, fun H2 eb hm2 => ⟨rfl, ?_⟩⟩⟩
  have e2 : Ex H1 H2 := ExB.made hx hdx eb
  have e12 := ext e1 e2
  refine ⟨_, rfl, a, _, dxa, _, _, rfl, e12 _ _ ha, mcal_of T.m_Change_three T.o_Change.cl (fn_Change_three T), rfl, _, rfl, a, fm, cs, rfl, hc.ex e12, hf, fun H3 t r0 r1 r2 e3 ht h0 h1 h2 => ?_⟩
  refine ⟨.s, .t, _, .ref t, sgl "rwx", _, rfl, ⟨"rwx", rfl, rfl⟩, ⟨t, rfl, ht⟩, for_it walk_P (fun i σ H' => (∃ b v1 v2, σ = [some (.ref a), some (.ref m), some (.str fm), some (.ref b), v1, v2] ∧ H b = none ∧ ModeAt A H' b (accM cs fm k i)) ∧ Ex H3 H')
    ⟨⟨x, none, none, rfl, e1.none hx, hm2.ex e3⟩, exr _⟩ (fun i σ H' _ p => ⟨⟨"rwx", rfl, rfl⟩, ⟨t, rfl, p.2 _ _ ht⟩⟩) ?_ ?_⟩
  · rintro i y σ H4 H5 hi ⟨⟨b, v1, v2, rfl, hb, hmb⟩, e4⟩ ⟨Ta, ys, hT, rfl, rfl, l', r', rfl, hl', hr'⟩
    obtain ⟨l, pl, f', r, rfl, rfl, hltr, hrow, hacc⟩ : ∃ l pl f' r, l' = .str l ∧ r' = .ref r ∧ Ltr l pl ∧ H3 r = some (.tup (rowV cs l f')) ∧ accM cs fm k (i + 1) = chStep cs l pl f' (accM cs fm k i) := by
      match i, hl', hr' with
      | 0, hl', hr' => cases hl'; cases hr'; exact ⟨"r", 2, "file", r0, rfl, rfl, .r, h0, rfl⟩
      | 1, hl', hr' => cases hl'; cases hr'; exact ⟨"w", 1, "file", r1, rfl, rfl, .w, h1, rfl⟩
      | 2, hl', hr' => cases hl'; cases hr'; exact ⟨"x", 0, fm, r2, rfl, rfl, .x, h2, rfl⟩
      | _ + 3, hl', hr' => cases hr'
    have e5 : Ex H4 (upd H4 Ta (.tup [.str l, .ref r])) := exn hT
    obtain ⟨m0, m1, dxb, hb1⟩ := id (hmb.ex e5)
    obtain ⟨l0, l1⟩ := hltr.rng
    obtain ⟨p0, p1⟩ := pat_rng m0 m1 l0 l1
    have rng := chMoved_rng (l := l) (form := f') ok p0 p1
    refine ⟨Ta, _, rfl, SqT.of upd_same, rfl, _, _, rfl, _, _, rfl, rfl, ?_⟩
    refine ⟨_, rfl, b, _, dxb, _, _, rfl, hb1, mcal_of T.m_Mode_with_pattern T.o_Mode.cl (fn_Mode_with_pattern T), rfl, _, rfl, _, rfl, ?_⟩
    refine ⟨_, rfl, b, _, dxb, _, _, rfl, hb1, mcal_of T.m_Mode_pattern T.o_Mode.cl (fn_Mode_pattern T), rfl, _, rfl, b, _, l, pl, rfl, hmb.ex e5, hltr, fun H6 e6 => ?_⟩
    refine ⟨r, _, _, _, rfl, rfl, SqT.of (e6 _ _ (e5 _ _ (e4 _ _ hrow))), rowV_at p0 p1, ?_⟩
    refine ⟨b, _, l, pl, _, rfl, (hmb.ex e5).ex e6, hltr, rng, fun b' H7 e7 hb' hm' => ?_⟩
    refine ⟨⟨b', _, _, rfl, (ext e12 (ext e3 (ext e4 (ext e5 e6)))).none hb', ?_⟩, ext e4 (ext e5 (ext e6 e7))⟩
    rw [hacc]
    exact hm'
  · rintro σ H4 ⟨⟨b, v1, v2, rfl, hb, hmb⟩, e4⟩
    exact ⟨_, rfl, q b H4 (ext e12 (ext e3 e4)) hb hmb⟩
end
end Md
/-! Md: a change read. -/
namespace Md
open PySem PySem.Spec PyProof.Rows L2 TL
def chText (cs : List Cl) : Str := Str.join "," (cs.map ctext)
theorem comma_eq : tl ("," : Str) = [44] := by decide +kernel
theorem split_ch {cs : List Cl} (hne : cs ≠ []) (h : ∀ c ∈ cs, ClOk c) : Txt.split (chText cs) "," = cs.map ctext := by
  have := split_join (y := ("," : Str)) (s := 44) (S := []) comma_eq (by decide +kernel) (parts := cs.map ctext) (by simpa using hne) fun p hp => by
    obtain ⟨c, hc, rfl⟩ := List.mem_map.mp hp
    exact (h c hc).rd.nc
  rw [join_eq] at this
  exact this
theorem chText_len {cs : List Cl} (h : ∀ c ∈ cs, ClOk c) : (chText cs).length ≤ 21 * cs.length := by
  have h1 := StrLaws.join_length_le "," (cs.map ctext)
  have h2 : ((cs.map ctext).map (·.length)).sum ≤ 20 * cs.length := by
    clear h1
    induction cs with
    | nil => exact Nat.zero_le _
    | cons n r ih =>
      have a := (h n (List.mem_cons_self ..)).rd.len
      have b := ih fun m hm => h m (List.mem_cons_of_mem _ hm)
      simp only [List.map_cons, List.sum_cons, List.length_cons]
      omega
  have h3 : ("," : Str).length = 1 := by decide +kernel
  rw [h3, List.length_map] at h1
  show (Str.join "," _).length ≤ _
  omega
def spChRead (A : Ad) : Sp := fun vs H Q _ => ∃ cs, vs = [.ref A.Change, .str (chText cs)] ∧ (∀ c ∈ cs, ClOk c) ∧ (1 ≤ cs.length ∧ cs.length ≤ 8) ∧ ∀ b H', Ex H H' → H b = none → ChangeAt A H' b cs → Q (.ref b) H'
section
variable {P : Program} {w : World} {K : PySem.W.Frag} {mg : Str → Option Value} {base : Heap} {A : Ad}
theorem fn_Change_read (T : Tx K mg w A) : ∀ f fd, Fun K "read" "Change.read" S_Change_read f fd → Fn P w K mg base f 8 (spChRead A) := by
  intro f fd F
  obtain ⟨uB, hBadClause⟩ := T.x_BadClause
  refine fnr_of (k := 7) F sc_Change_read (fun _ _ _ _ _ _ us hl => match us, hl with | [_, _], _ => rfl) (fun vs H Q E h => by obtain ⟨d, rfl, _⟩ := h; rfl) fun f cdv Ar outer s H vs Q E c h => ?_
  have hr := c.room
  have nd := sc_Change_read.nd
  obtain ⟨cs, rfl, ok, ⟨n1, n8⟩, q⟩ := h
  have hne : cs ≠ [] := fun e => by rw [e] at n1; exact absurd n1 (by decide)
  have hz := chText_len ok
  refine ⟨_, (pss_cons (ps_if (pt_not (pt_val (pe_callB (isi_C c) (by rfl) T.b_isinstance (by decide +kernel) (pa_cons (pv 1) (pa_cons (pe_bltn (by rfl) T.b_str (by decide +kernel) (v := .ty "str") rfl) pa_nil))))) (pss_one ps_never) pss_nil)
 (pss_cons (ps_set (i := 2) nd rfl (Or.inl rfl) (pe_split (pv 1) pe_str))
 (pss_cons (ps_if (pt_cmpR op_gt (pe_callB (len_C c) (by rfl) T.b_len PySem.boot_len (pa_cons (pv 2) pa_nil)) (pe_gc (by rfl) T.k_MOST_CLAUSES) (nomark _)) (pss_one ps_never) pss_nil)
 (pss_cons (ps_set (i := 3) nd rfl (Or.inl rfl) (pe_lst pa_nil))
 (pss_cons (ps_for PassesOwn.never rfl (pi_enumA (by rfl) T.b_enumerate (pa_cons (pv 2) pa_nil)) (pg_tupC c rfl (pgs_cons (pg_name (i := 4) nd rfl (Or.inl rfl)) (pgs_cons (pg_name (i := 5) nd rfl (Or.inl rfl)) pgs_nil)))
 (pss_one (ps_tryN rfl rfl ⟨rfl, by decide, .inl hBadClause⟩ (fun pn xe => (pss_one (ps_expr (pe_bmC c.t PySem.F.plainAttrs_list PySem.F.slot_list_append PySem.F.type_list_append mt_append (pv 3) (pa_cons (pe_cm c.t (pe_gc (by rfl) T.k_Clause) (pa_cons (pv 5) pa_nil)) pa_nil))))))))
 (pss_one (ps_ret (pe_mkES c (pv 0) (pv 3))))))))), ?_⟩
  refine ⟨_, rfl, _, _, _, _, true, rfl, .ty _, .base (.str _), kit_ty (by decide +kernel), _, rfl, iteF ?_⟩
  refine ⟨_, rfl, ⟨_, rfl⟩, _, _, rfl, rfl, by decide +kernel, zl (by omega), fun L hL => ?_⟩
  rw [split_ch hne ok]
  have e1 : Ex H (upd H L (.lst ((cs.map ctext).map V.str))) := exn hL
  have hL1 : upd H L (.lst ((cs.map ctext).map V.str)) L = some (.lst ((cs.map ctext).map V.str)) := upd_same
  generalize upd H L (.lst ((cs.map ctext).map V.str)) = H1 at e1 hL1 ⊢
  refine ⟨_, rfl, L, _, rfl, .inl (SqL.of hL1), _, _, rfl, rfl, _, rfl, ?_⟩
  rw [decide_eq_false (by rw [List.length_map, List.length_map]; omega)]
  refine iteF ⟨Nat.zero_le _, fun G hG => ?_⟩
  refine ⟨_, rfl, .l, .ref L, _, rfl, ⟨L, rfl, exn hG _ _ hL1⟩, for_it walk_P (fun i σ H' => (∃ v4 v5, σ = [some (.ref A.Change), some (.str (chText cs)), some (.ref L), some (.ref G), v4, v5]) ∧
      ∃ hb rs, Ex H1 hb ∧ hb G = none ∧ Ex hb H' ∧ H' G = some (.lst rs) ∧ ClausesAt A hb rs (cs.take i))
    ⟨⟨none, none, rfl⟩, H1, [], exr _, hG, exn hG, upd_same, rfl, fun i c h => by cases h⟩ (fun i σ H' _ p => ?_) ?_ ?_⟩
  · obtain ⟨_, hb, rs, a, _, b, _⟩ := p
    exact ⟨L, rfl, b _ _ (a _ _ hL1)⟩
  · rintro i y σ H2 H3 hi ⟨⟨v4, v5, rfl⟩, hb, rs, ea, hbG, eb, hG2, hcs⟩ ⟨Ta, ys, hT, rfl, rfl, a, rfl, ha⟩
    have e2 : Ex H2 (upd H2 Ta (.tup [.int (i : Nat), a])) := exn hT
    have hG3 := e2 _ _ hG2
    refine ⟨Ta, _, rfl, SqT.of upd_same, rfl, _, _, rfl, _, _, rfl, rfl, ?_⟩
    rw [List.getElem?_map, List.getElem?_map] at ha
    cases hd : cs[i]? with
    | none => rw [hd] at ha; cases ha
    | some d =>
      rw [hd] at ha
      cases ha
      have hlen : rs.length = i := by
        rw [hcs.1, List.length_take]
        have := (List.getElem?_eq_some_iff.mp hd).1
        omega
      refine ⟨_, rfl, .inl ⟨rfl, _, SqL.of hG3⟩, A.Clause, _, rfl, cmcal_of T.c_Clause_read (fn_Clause_read T), _, rfl, d, rfl, ok d (List.mem_of_getElem? hd), fun b H4 e4 hbn hcl => ?_⟩
      have hG4 := e4 _ _ hG3
      have hi8 : i < cs.length := (List.getElem?_eq_some_iff.mp hd).1
      refine ⟨G, _, _, rfl, rfl, hG4, zt (by omega), ⟨_, _, rfl⟩, dele G H4, _, dele_of (ext ea (ext eb (ext e2 e4))) hG, dele_at, dele_up, upd_same, ?_⟩
      have nb : b ≠ G := (ne_of_none hG3 hbn).symm
      obtain ⟨okd, dxb, tb, hb1, hb2⟩ := hcl
      have nt : tb ≠ G := ne_of hb2 hG4 (by intro z; cases z)
      have hnew : ClauseAt A (dele G H4) b d := ⟨okd, dxb, tb, by rw [dele_ne nb]; exact hb1, by rw [dele_ne nt]; exact hb2⟩
      have hold := hcs.ex (dele_of (ext eb (ext e2 e4)) hbG)
      refine ⟨by rw [List.length_append, hlen, List.length_take]; have : [V.ref b].length = 1 := rfl; omega, fun j c' hj => ?_⟩
      by_cases hji : j < i
      · rw [List.getElem?_append_left (by omega)]
        refine hold.2 j c' ?_
        rw [List.getElem?_take] at hj ⊢
        rw [if_pos (by omega)] at hj
        rw [if_pos hji]
        exact hj
      · rw [List.getElem?_take] at hj
        by_cases hj1 : j < i + 1
        · rw [if_pos hj1] at hj
          have ej : j = i := by omega
          subst ej
          rw [hd] at hj
          cases hj
          refine ⟨b, ?_, hnew⟩
          rw [List.getElem?_append_right (by omega), hlen, Nat.sub_self]
          rfl
        · rw [if_neg hj1] at hj
          cases hj
  · rintro σ H2 ⟨⟨v4, v5, rfl⟩, hb, rs, ea, hbG, eb, hG2, hcs⟩
    rw [List.length_map, List.length_map, List.take_length] at hcs
    refine ⟨_, rfl, A.Change, _, rfl, ccalA_of T.i_Change (fn_Change_init T), _, rfl, G, rs, rfl, .inr (SqL.of hG2), fun x dx hx hdx hn => ?_⟩
    refine mk_Change (A := A) (Q := Q) hx hdx hn (hcs.ex eb) n1 n8 fun H' e h => q x H' (ext (ext e1 (ext ea eb)) e) ((ext e1 (ext ea eb)).none hx) h
end
end Md
/-! Md: users. -/
namespace Md
open PySem PySem.Spec PyProof.Rows L2
structure Us where
  chief : Bool
  name : Str
  groups : List Str
def uC (A : Ad) (u : Us) : Addr := if u.chief then A.Chief else A.User
structure UsOk (u : Us) : Prop where
  nm : Nm u.name
  gs : Nms u.groups
  nd : u.groups.Nodup
  le : u.groups.length ≤ 2
def usFs (u : Us) (t : Addr) : List (Str × V) := [("name", .str u.name), ("own_groups", .ref t)]
def UserAt (A : Ad) (H : Hp) (a : Addr) (u : Us) : Prop := ∃ dx t, H a = some (.ins (uC A u) dx (usFs u t)) ∧ H t = some (.tup (u.groups.map V.str))
theorem UserAt.ex {A : Ad} {H H' : Hp} {a : Addr} {u : Us} (e : Ex H H') (h : UserAt A H a u) : UserAt A H' a u := by
  obtain ⟨dx, t, h1, h2⟩ := h
  exact ⟨dx, t, e _ _ h1, e _ _ h2⟩
def clsAt (u : Us) (o g : Str) : Str := if decide (V.str o = V.str u.name) then "owner" else if inV (.str g) (u.groups.map V.str) then "group" else "others"
def shiftOf (z : Str) : Int := if z = "owner" then 6 else if z = "group" then 3 else 0
def bitsAt (u : Us) (m : Int) (o g : Str) : Int := Builtin.bitAnd (m / 2 ^ (shiftOf (clsAt u o g)).toNat) 7
def passB (u : Us) (m : Int) (o g : Str) : Bool := if u.chief then decide (0 ≤ bitsAt u m o g) else decide (V.int (Builtin.bitAnd (bitsAt u m o g) 1) = V.int 1)
def listB (u : Us) (m : Int) (o g : Str) : Bool := if u.chief then decide (0 ≤ bitsAt u m o g) else decide (V.int (Builtin.bitAnd (bitsAt u m o g) 5) = V.int 5)
def mayB (u : Us) (o : Str) : Bool := if u.chief then true else decide (V.str o = V.str u.name)
def spNeedGroups : Sp := fun vs H Q _ => ∃ t gs, vs = [.ref t] ∧ H t = some (.tup (gs.map V.str)) ∧ Nms gs ∧ gs.Nodup ∧ gs.length ≤ 2 ∧ ∀ H', Ex H H' → Q .non H'
def spUserInit0 (A : Ad) : Sp := fun vs H Q _ => ∃ x dx t u, vs = [.ref x, .str u.name, .ref t] ∧ H x = some (.ins (uC A u) dx []) ∧ H t = some (.tup (u.groups.map V.str)) ∧ UsOk u ∧ ∀ H', ExB x H H' → H' x = some (.ins (uC A u) dx (usFs u t)) → Q .non H'
def spClassAt (A : Ad) : Sp := fun vs H Q _ => ∃ a u o g, vs = [.ref a, .str o, .str g] ∧ UserAt A H a u ∧ ∀ H', Ex H H' → Q (.str (clsAt u o g)) H'
def spBitsAt (A : Ad) : Sp := fun vs H Q _ => ∃ a u m k o g, vs = [.ref a, .ref m, .str o, .str g] ∧ UserAt A H a u ∧ ModeAt A H m k ∧ ∀ H', Ex H H' → Q (.int (bitsAt u k o g)) H'
def spPasses (A : Ad) (b : Bool) : Sp := fun vs H Q _ => ∃ a u m k o g, vs = [.ref a, .ref m, .str o, .str g] ∧ u.chief = b ∧ UserAt A H a u ∧ ModeAt A H m k ∧ ∀ H', Ex H H' → Q (.bl (passB u k o g)) H'
def spLists (A : Ad) (b : Bool) : Sp := fun vs H Q _ => ∃ a u m k o g, vs = [.ref a, .ref m, .str o, .str g] ∧ u.chief = b ∧ UserAt A H a u ∧ ModeAt A H m k ∧ ∀ H', Ex H H' → Q (.bl (listB u k o g)) H'
def spMay (A : Ad) (b : Bool) : Sp := fun vs H Q _ => ∃ a u o, vs = [.ref a, .str o] ∧ u.chief = b ∧ UserAt A H a u ∧ ∀ H', Ex H H' → Q (.bl (mayB u o)) H'
section
variable {P : Program} {w : World} {K : PySem.W.Frag} {mg : Str → Option Value} {base : Heap} {A : Ad}
theorem uCl (T : Tx K mg w A) (u : Us) : Cls K (uC A u) := by
  unfold uC
  split
  · exact T.o_Chief.cl
  · exact T.o_User.cl
theorem uName (T : Tx K mg w A) (u : Us) : NoAttr K (uC A u) "name" := by
  unfold uC
  split
  · exact T.n_Chief_name
  · exact T.n_User_name
theorem uGroups (T : Tx K mg w A) (u : Us) : NoAttr K (uC A u) "own_groups" := by
  unfold uC
  split
  · exact T.n_Chief_own_groups
  · exact T.n_User_own_groups
theorem fn_need_groups (T : Tx K mg w A) : ∀ f fd, Fun K "need_groups" "need_groups" S_need_groups f fd → Fn P w K mg base f 2 spNeedGroups := by
  intro f fd F
  refine fnr_of (k := 1) F sc_need_groups (fun _ _ _ _ _ _ us hl => match us, hl with | [_], _ => rfl) (fun vs H Q E h => by obtain ⟨x, m, rfl, _⟩ := h; rfl) fun f cdv Ar outer s H vs Q E c h => ?_
  have hr := c.room
  have nd := sc_need_groups.nd
  obtain ⟨t, gs, rfl, ht, hg, hn, hl, q⟩ := h
  refine ⟨_, (pss_cons (ps_if (pt_cmpR op_gt (pe_callB (len_C c) (by rfl) T.b_len PySem.boot_len (pa_cons (pv 0) pa_nil)) (pe_gc (by rfl) T.k_MOST_GROUPS) (nomark _)) (pss_one ps_never) pss_nil)
 (pss_one (ps_for PassesOwn.never rfl (pi_enumA (by rfl) T.b_enumerate (pa_cons (pv 0) pa_nil)) (pg_tupC c rfl (pgs_cons (pg_name (i := 1) nd rfl (Or.inl rfl)) (pgs_cons (pg_name (i := 2) nd rfl (Or.inl rfl)) pgs_nil)))
 (pss_one (ps_if (PW.pt (pw_or (pt_not (pt_val (pe_fn c (by rfl) (pa_cons (pv 2) pa_nil)))) (pw_or1 (pt_cmpR (in_C c) (pv 2) (pe_slice (sl_tupC c) (pv 0) po_none (po_some (pv 1))) (by rfl))))) (pss_one ps_never) pss_nil))))), ?_⟩
  refine ⟨_, rfl, t, _, rfl, .inr (SqT.of ht), _, _, rfl, rfl, _, rfl, ?_⟩
  rw [decide_eq_false (by rw [List.length_map]; omega)]
  refine iteF ⟨_, rfl, .t, .ref t, _, rfl, ⟨t, rfl, ht⟩, for_it walk_P (fun i σ H' => (∃ v1 v2, σ = [some (.ref t), v1, v2]) ∧ Ex H H') ⟨⟨none, none, rfl⟩, exr _⟩ (fun i σ H' _ p => ⟨t, rfl, p.2 _ _ ht⟩) ?_ fun σ H' p => q _ p.2⟩
  rintro i y σ H1 H2 hi ⟨⟨v1, v2, rfl⟩, e1⟩ ⟨Ta, ys, hT, rfl, rfl, a, rfl, ha⟩
  rw [List.getElem?_map] at ha
  obtain ⟨g, hgi, rfl⟩ := Option.map_eq_some_iff.mp ha
  have e2 : Ex H1 (upd H1 Ta (.tup [.int (i : Nat), .str g])) := exn hT
  have hig : i < gs.length := (List.getElem?_eq_some_iff.mp hgi).1
  refine ⟨Ta, _, rfl, SqT.of upd_same, rfl, _, _, rfl, _, _, rfl, rfl, ?_⟩
  refine ⟨_, cal_of T.f_is_name (fn_is_name T), _, rfl, g, rfl, hg g (List.mem_of_getElem? hgi), fun H3 e3 => ⟨_, rfl, ?_⟩⟩
  have ht3 := e3 _ _ (e2 _ _ (e1 _ _ ht))
  refine iteF ⟨_, rfl, _, rfl, _, rfl, _, rfl, t, _, rfl, SqT.of ht3, ?_, fun p hp => ?_⟩
  · rintro ⟨_, h2⟩
    rw [List.length_map, HT.sIx_nat] at h2
    omega
  · rw [cutV_to]
    have hin : inV (.str g) ((gs.map V.str).take i) = false := by
      unfold inV
      rw [List.any_eq_false]
      intro y hy
      rw [← List.map_take] at hy
      obtain ⟨z, hz, rfl⟩ := List.mem_map.mp hy
      show ¬ (z == g) = true
      intro e
      have e := eq_of_beq e
      subst e
      obtain ⟨j, hj⟩ := List.mem_iff_getElem?.mp hz
      rw [List.getElem?_take] at hj
      by_cases hji : j < i
      · rw [if_pos hji] at hj
        obtain ⟨h1, h1'⟩ := (List.getElem?_eq_some_iff.mp hj)
        obtain ⟨h2, h2'⟩ := (List.getElem?_eq_some_iff.mp hgi)
        exact (List.pairwise_iff_getElem.mp hn) j i h1 h2 hji (h1'.trans h2'.symm)
      · rw [if_neg hji] at hj
        cases hj
    refine ⟨p, _, rfl, .inr (SqT.of upd_same), rfl, by rw [← List.map_take]; exact flat_strs _, _, rfl, ?_⟩
    show (if (inV (.str g) ((gs.map V.str).take i)) = true then _ else _)
    rw [hin]
    exact iteF ⟨⟨_, _, rfl⟩, ext e1 (ext e2 (ext e3 (exn hp)))⟩
theorem fn_User_init (T : Tx K mg w A) : ∀ f fd, Fun K "__init__" "User.__init__" S_User_DinitD f fd → Fn P w K mg base f 3 (fun vs H Q E => ∃ ws rest, vs = ws ++ rest ∧ ws.length = ["self", "name"].length ∧ rest.length ≤ sizeLine ∧ ∀ p, H p = none → spUserInit0 A (ws ++ [V.ref p]) (upd H p (.tup rest)) Q E) := by
  intro f fd F
  refine fnr_star (k := 2) (ps := ["self", "name"]) (pv := "groups") F sc_User_DinitD (fun _ _ _ _ _ _ us rest hl => match us, rest, hl with | [_, _], [], _ => rfl | [_, _], _ :: _, _ => rfl) fun f cdv Ar outer s H vs Q E c h => ?_
  have hr := c.room
  have nd := sc_User_DinitD.nd
  obtain ⟨x, dx, t, u, rfl, hx, ht, ok, q⟩ := h
  refine ⟨_, (pss_cons (ps_if (pt_not (pt_val (pe_fn c (by rfl) (pa_cons (pv 1) pa_nil)))) (pss_one ps_never) pss_nil)
 (pss_cons (ps_expr (pe_fn c (by rfl) (pa_cons (pv 2) pa_nil)))
 (pss_cons (ps_fld (pv 0) (pv 1) rfl)
 (pss_one (ps_fld (pv 0) (pe_callTy (tup_C c) (by rfl) T.b_tuple (by decide +kernel) (pa_cons (pv 2) pa_nil)) rfl))))), ?_⟩
  refine ⟨_, cal_of T.f_is_name (fn_is_name T), _, rfl, _, rfl, ok.nm, fun H1 e1 => ⟨_, rfl, iteF ?_⟩⟩
  refine ⟨_, cal_of T.f_need_groups (fn_need_groups T), _, rfl, t, _, rfl, e1 _ _ ht, ok.gs, ok.nd, ok.le, fun H2 e2 => ?_⟩
  have e12 := ext e1 e2
  have hx2 := e12 _ _ hx
  have ht2 := e12 _ _ ht
  have ntx : t ≠ x := ne_of ht2 hx2 (by intro z; cases z)
  refine ⟨_, rfl, _, rfl, x, _, dx, _, rfl, hx2, uCl T u, uName T u, by show 0 < 1000; decide, ?_⟩
  refine ⟨_, rfl, t, _, rfl, .inr ⟨SqT.of ((upd_ne ntx).trans ht2), _, rfl, x, _, dx, _, rfl, upd_same, uCl T u, uGroups T u, by show 1 < 1000; decide, ?_⟩⟩
  exact q _ (ExB.upd (ExB.upd e12.b)) upd_same
theorem fn_class_at (T : Tx K mg w A) : ∀ f fd, Fun K "class_at" "User.class_at" S_User_class_at f fd → Fn P w K mg base f 1 (spClassAt A) := by
  intro f fd F
  refine fnr_of (k := 0) F sc_User_class_at (fun _ _ _ _ _ _ us hl => match us, hl with | [_, _, _], _ => rfl) (fun vs H Q E h => by obtain ⟨x, m, _, _, rfl, _⟩ := h; rfl) fun f cdv Ar outer s H vs Q E c h => ?_
  have hr := c.room
  have nd := sc_User_class_at.nd
  obtain ⟨a, u, o, g, rfl, ⟨dx, t, ha, ht⟩, q⟩ := h
  refine ⟨_, (pss_cons (ps_if (pt_cmpR op_eq (pv 1) (pe_at c (pv 0)) (nomark _)) (pss_one (ps_ret pe_str)) pss_nil)
 (pss_one (ps_ret (pe_ifExp (pt_cmpR (in_C c) (pv 2) (pe_at c (pv 0)) (by rfl)) pe_str pe_str)))), ?_⟩
  refine ⟨_, rfl, _, rfl, a, _, dx, _, rfl, ha, .inl ⟨_, uCl T u, uName T u, rfl, rfl, _, rfl, ?_⟩⟩
  unfold clsAt at q
  cases e : decide (V.str o = V.str u.name) with
  | true =>
    simp only [e, if_true] at q
    exact iteT (q _ (exr _))
  | false =>
    simp only [e, Bool.false_eq_true, if_false] at q
    refine iteF ⟨_, rfl, _, rfl, a, _, dx, _, rfl, ha, .inl ⟨_, uCl T u, uGroups T u, rfl, t, _, rfl, .inr (SqT.of ht), rfl, flat_strs _, _, rfl, ?_⟩⟩
    show (if (inV (.str g) (u.groups.map V.str)) = true then _ else _)
    cases e2 : inV (.str g) (u.groups.map V.str) with
    | true =>
      simp only [e2, if_true] at q
      exact iteT (q _ (exr _))
    | false =>
      simp only [e2, Bool.false_eq_true, if_false] at q
      exact iteF (q _ (exr _))
theorem mc_class_at (T : Tx K mg w A) (u : Us) {n : Nat} (h : 1 ≤ n) : MCal K (Fn P w K mg base) n (uC A u) "class_at" (spClassAt A) := by
  unfold uC
  split
  · exact mcal_of T.m_Chief_class_at T.o_Chief.cl (fn_class_at T) h
  · exact mcal_of T.m_User_class_at T.o_User.cl (fn_class_at T) h
theorem sh_at (T : Tx K mg w A) (u : Us) (o g : Str) : ∃ v, PySem.W.nsIn K A.d_SHIFTS (clsAt u o g) = some (some v) ∧ RelV (.int (shiftOf (clsAt u o g))) v := by
  unfold clsAt
  split
  · exact T.e_SHIFTS_owner
  · split
    · exact T.e_SHIFTS_group
    · exact T.e_SHIFTS_others
theorem sh_rng (z : Str) : 0 ≤ shiftOf z := by
  unfold shiftOf
  split
  · decide
  · split <;> decide
theorem fn_bits_at (T : Tx K mg w A) : ∀ f fd, Fun K "bits_at" "User.bits_at" S_User_bits_at f fd → Fn P w K mg base f 4 (spBitsAt A) := by
  intro f fd F
  refine fnr_of (k := 3) F sc_User_bits_at (fun _ _ _ _ _ _ us hl => match us, hl with | [_, _, _, _], _ => rfl) (fun vs H Q E h => by obtain ⟨x, m, _, _, _, _, rfl, _⟩ := h; rfl) fun f cdv Ar outer s H vs Q E c h => ?_
  have hr := c.room
  have nd := sc_User_bits_at.nd
  obtain ⟨a, u, m, k, o, g, rfl, hu, hm, q⟩ := h
  obtain ⟨dx, t, ha, ht⟩ := id hu
  refine ⟨_, (pss_one (ps_ret (pe_op op_and (pe_op op_shr (pe_fn c (by rfl) (pa_cons (pv 1) pa_nil)) (pe_kd c T.d_SHIFTS (pe_gc (by rfl) T.k_SHIFTS) (pe_mt c (pv 0) (pa_cons (pv 2) (pa_cons (pv 3) pa_nil))) (fun _ _ => rfl))) pe_int))), ?_⟩
  refine ⟨_, cal_of T.f_number_of (fn_number_of T), _, rfl, _, k, rfl, .inr ⟨m, rfl, hm⟩, fun H1 e1 => ?_⟩
  refine ⟨_, rfl, a, _, dx, _, _, rfl, e1 _ _ ha, mc_class_at T u (by decide), rfl, _, rfl, _, rfl, a, u, o, g, rfl, hu.ex e1, fun H2 e2 => ?_⟩
  obtain ⟨v, hv1, hv2⟩ := sh_at T u o g
  exact ⟨_, v, _, rfl, rfl, hv1, hv2, _, _, rfl, rfl, sh_rng _, _, _, rfl, rfl, q _ (ext e1 e2)⟩
theorem mc_bits_at (T : Tx K mg w A) (u : Us) {n : Nat} (h : 4 ≤ n) : MCal K (Fn P w K mg base) n (uC A u) "bits_at" (spBitsAt A) := by
  unfold uC
  split
  · exact mcal_of T.m_Chief_bits_at T.o_Chief.cl (fn_bits_at T) h
  · exact mcal_of T.m_User_bits_at T.o_User.cl (fn_bits_at T) h
theorem fn_User_passes (T : Tx K mg w A) : ∀ f fd, Fun K "passes" "User.passes" S_User_passes f fd → Fn P w K mg base f 5 (spPasses A false) := by
  intro f fd F
  refine fnr_of (k := 4) F sc_User_passes (fun _ _ _ _ _ _ us hl => match us, hl with | [_, _, _, _], _ => rfl) (fun vs H Q E h => by obtain ⟨x, m, _, _, _, _, rfl, _⟩ := h; rfl) fun f cdv Ar outer s H vs Q E c h => ?_
  have hr := c.room
  have nd := sc_User_passes.nd
  obtain ⟨a, u, m, k, o, g, rfl, hb, hu, hm, q⟩ := h
  obtain ⟨dx, t, ha, ht⟩ := id hu
  refine ⟨_, (pss_one (ps_ret (pe_cmpR op_eq (pe_op op_and (pe_mt c (pv 0) (pa_cons (pv 1) (pa_cons (pv 2) (pa_cons (pv 3) pa_nil)))) (pe_gc (by rfl) T.k_SEARCH)) (pe_gc (by rfl) T.k_SEARCH) (nomark _)))), ?_⟩
  unfold passB at q
  rw [hb] at q
  refine ⟨_, rfl, a, _, dx, _, _, rfl, ha, mc_bits_at T u (by decide), rfl, _, rfl, _, rfl, _, rfl, a, u, m, k, o, g, rfl, hu, hm, fun H1 e1 => ?_⟩
  exact ⟨_, _, rfl, rfl, rfl, q _ e1⟩
theorem fn_Chief_passes (T : Tx K mg w A) : ∀ f fd, Fun K "passes" "Chief.passes" S_Chief_passes f fd → Fn P w K mg base f 5 (spPasses A true) := by
  intro f fd F
  refine fnr_of (k := 4) F sc_Chief_passes (fun _ _ _ _ _ _ us hl => match us, hl with | [_, _, _, _], _ => rfl) (fun vs H Q E h => by obtain ⟨x, m, _, _, _, _, rfl, _⟩ := h; rfl) fun f cdv Ar outer s H vs Q E c h => ?_
  have hr := c.room
  have nd := sc_Chief_passes.nd
  obtain ⟨a, u, m, k, o, g, rfl, hb, hu, hm, q⟩ := h
  obtain ⟨dx, t, ha, ht⟩ := id hu
  refine ⟨_, (pss_one (ps_ret (pe_cmpR op_ge (pe_mt c (pv 0) (pa_cons (pv 1) (pa_cons (pv 2) (pa_cons (pv 3) pa_nil)))) pe_int (nomark _)))), ?_⟩
  unfold passB at q
  rw [hb] at q
  refine ⟨_, rfl, a, _, dx, _, _, rfl, ha, mc_bits_at T u (by decide), rfl, _, rfl, _, rfl, _, rfl, a, u, m, k, o, g, rfl, hu, hm, fun H1 e1 => ?_⟩
  exact ⟨_, _, rfl, rfl, q _ e1⟩
theorem mc_passes (T : Tx K mg w A) (u : Us) {n : Nat} (h : 5 ≤ n) : MCal K (Fn P w K mg base) n (uC A u) "passes" (spPasses A u.chief) := by
  unfold uC
  cases e : u.chief
  · exact mcal_of T.m_User_passes T.o_User.cl (fn_User_passes T) h
  · exact mcal_of T.m_Chief_passes T.o_Chief.cl (fn_Chief_passes T) h
theorem fn_User_lists (T : Tx K mg w A) : ∀ f fd, Fun K "lists" "User.lists" S_User_lists f fd → Fn P w K mg base f 5 (spLists A false) := by
  intro f fd F
  refine fnr_of (k := 4) F sc_User_lists (fun _ _ _ _ _ _ us hl => match us, hl with | [_, _, _, _], _ => rfl) (fun vs H Q E h => by obtain ⟨x, m, _, _, _, _, rfl, _⟩ := h; rfl) fun f cdv Ar outer s H vs Q E c h => ?_
  have hr := c.room
  have nd := sc_User_lists.nd
  obtain ⟨a, u, m, k, o, g, rfl, hb, hu, hm, q⟩ := h
  obtain ⟨dx, t, ha, ht⟩ := id hu
  refine ⟨_, (pss_one (ps_ret (pe_cmpR op_eq (pe_op op_and (pe_mt c (pv 0) (pa_cons (pv 1) (pa_cons (pv 2) (pa_cons (pv 3) pa_nil)))) (pe_gc (by rfl) T.k_LISTING)) (pe_gc (by rfl) T.k_LISTING) (nomark _)))), ?_⟩
  unfold listB at q
  rw [hb] at q
  refine ⟨_, rfl, a, _, dx, _, _, rfl, ha, mc_bits_at T u (by decide), rfl, _, rfl, _, rfl, _, rfl, a, u, m, k, o, g, rfl, hu, hm, fun H1 e1 => ?_⟩
  exact ⟨_, _, rfl, rfl, rfl, q _ e1⟩
theorem fn_Chief_lists (T : Tx K mg w A) : ∀ f fd, Fun K "lists" "Chief.lists" S_Chief_lists f fd → Fn P w K mg base f 5 (spLists A true) := by
  intro f fd F
  refine fnr_of (k := 4) F sc_Chief_lists (fun _ _ _ _ _ _ us hl => match us, hl with | [_, _, _, _], _ => rfl) (fun vs H Q E h => by obtain ⟨x, m, _, _, _, _, rfl, _⟩ := h; rfl) fun f cdv Ar outer s H vs Q E c h => ?_
  have hr := c.room
  have nd := sc_Chief_lists.nd
  obtain ⟨a, u, m, k, o, g, rfl, hb, hu, hm, q⟩ := h
  obtain ⟨dx, t, ha, ht⟩ := id hu
  refine ⟨_, (pss_one (ps_ret (pe_cmpR op_ge (pe_mt c (pv 0) (pa_cons (pv 1) (pa_cons (pv 2) (pa_cons (pv 3) pa_nil)))) pe_int (nomark _)))), ?_⟩
  unfold listB at q
  rw [hb] at q
  refine ⟨_, rfl, a, _, dx, _, _, rfl, ha, mc_bits_at T u (by decide), rfl, _, rfl, _, rfl, _, rfl, a, u, m, k, o, g, rfl, hu, hm, fun H1 e1 => ?_⟩
  exact ⟨_, _, rfl, rfl, q _ e1⟩
theorem mc_lists (T : Tx K mg w A) (u : Us) {n : Nat} (h : 5 ≤ n) : MCal K (Fn P w K mg base) n (uC A u) "lists" (spLists A u.chief) := by
  unfold uC
  cases e : u.chief
  · exact mcal_of T.m_User_lists T.o_User.cl (fn_User_lists T) h
  · exact mcal_of T.m_Chief_lists T.o_Chief.cl (fn_Chief_lists T) h
theorem fn_User_may (T : Tx K mg w A) : ∀ f fd, Fun K "may_change" "User.may_change" S_User_may_change f fd → Fn P w K mg base f 1 (spMay A false) := by
  intro f fd F
  refine fnr_of (k := 0) F sc_User_may_change (fun _ _ _ _ _ _ us hl => match us, hl with | [_, _], _ => rfl) (fun vs H Q E h => by obtain ⟨x, m, _, rfl, _⟩ := h; rfl) fun f cdv Ar outer s H vs Q E c h => ?_
  have hr := c.room
  have nd := sc_User_may_change.nd
  obtain ⟨a, u, o, rfl, hb, ⟨dx, t, ha, ht⟩, q⟩ := h
  refine ⟨_, (pss_one (ps_ret (pe_cmpR op_eq (pv 1) (pe_at c (pv 0)) (nomark _)))), ?_⟩
  unfold mayB at q
  rw [hb] at q
  exact ⟨_, rfl, _, rfl, a, _, dx, _, rfl, ha, .inl ⟨_, uCl T u, uName T u, rfl, rfl, q _ (exr _)⟩⟩
theorem fn_Chief_may (T : Tx K mg w A) : ∀ f fd, Fun K "may_change" "Chief.may_change" S_Chief_may_change f fd → Fn P w K mg base f 1 (spMay A true) := by
  intro f fd F
  refine fnr_of (k := 0) F sc_Chief_may_change (fun _ _ _ _ _ _ us hl => match us, hl with | [_, _], _ => rfl) (fun vs H Q E h => by obtain ⟨x, m, _, rfl, _⟩ := h; rfl) fun f cdv Ar outer s H vs Q E c h => ?_
  have hr := c.room
  have nd := sc_Chief_may_change.nd
  obtain ⟨a, u, o, rfl, hb, ⟨dx, t, ha, ht⟩, q⟩ := h
  refine ⟨_, (pss_one (ps_ret pe_bl)), ?_⟩
  unfold mayB at q
  rw [hb] at q
  exact q _ (exr _)
theorem mc_may (T : Tx K mg w A) (u : Us) {n : Nat} (h : 1 ≤ n) : MCal K (Fn P w K mg base) n (uC A u) "may_change" (spMay A u.chief) := by
  unfold uC
  cases e : u.chief
  · exact mcal_of T.m_User_may_change T.o_User.cl (fn_User_may T) h
  · exact mcal_of T.m_Chief_may_change T.o_Chief.cl (fn_Chief_may T) h
end
end Md
/-! Md: entries, made. -/
namespace Md
open PySem PySem.Spec PyProof.Rows L2 NdefX
theorem putF_len (f : Str) (v : V) : ∀ fs : List (Str × V), (putF f v fs).length ≤ fs.length + 1
  | [] => Nat.le_refl _
  | (g, x) :: r => by
    have := putF_len f v r
    show (if g = f then (g, v) :: r else (g, x) :: putF f v r).length ≤ _
    split
    · show r.length + 1 ≤ _
      simp
    · show (putF f v r).length + 1 ≤ _
      simp only [List.length_cons]
      omega
def enFs (dir : Bool) (d ma : Addr) (o g : Str) : List (Str × V) := if dir then [("below", .ref d), ("mode_now", .ref ma), ("own_owner", .str o), ("own_group", .str g)] else [("mode_now", .ref ma), ("own_owner", .str o), ("own_group", .str g)]
def eC (A : Ad) (dir : Bool) : Addr := if dir then A.Folder else A.File
def MV (A : Ad) (H : Hp) (v : V) (m : Int) : Prop := v = .int m ∧ 0 ≤ m ∧ m ≤ 511 ∨ ∃ a, v = .ref a ∧ ModeAt A H a m
theorem MV.ex {A : Ad} {H H' : Hp} {v : V} {m : Int} (e : Ex H H') (h : MV A H v m) : MV A H' v m := by
  rcases h with h | ⟨a, e1, h⟩
  · exact .inl h
  · exact .inr ⟨a, e1, h.ex e⟩
theorem MV.exb {A : Ad} {H H' : Hp} {v : V} {m : Int} {x C dx : Addr} (e : ExB x H H') (hx : H x = some (.ins C dx [])) (h : MV A H v m) : MV A H' v m := by
  rcases h with h | ⟨a, e1, h0, h1, d, h2⟩
  · exact .inl h
  · refine .inr ⟨a, e1, h0, h1, d, e _ _ (fun z => ?_) h2⟩
    rw [z, hx] at h2
    injection h2 with h2
    injection h2 with _ _ h2
    cases h2
def spHolderInit (A : Ad) : Sp := fun vs H Q _ => ∃ x dx, vs = [.ref x] ∧ H x = some (.ins A.Folder dx []) ∧ ∀ H' d, ExB x H H' → H d = none → H' x = some (.ins A.Folder dx [("below", .ref d)]) → H' d = some (.dK []) → Q .non H'
def spEntryInit (A : Ad) : Sp := fun vs H Q _ => ∃ dir x dx v m o g, vs = [.ref x, v, .str o, .str g] ∧ H x = some (.ins (eC A dir) dx []) ∧ MV A H v m ∧ Nm o ∧ Nm g ∧
  ∀ H' d ma, ExB x H H' → H' x = some (.ins (eC A dir) dx (enFs dir d ma o g)) → ModeAt A H' ma m → (dir = true → H' d = some (.dK []) ∧ H d = none) → Q .non H'
section
variable {P : Program} {w : World} {K : PySem.W.Frag} {mg : Str → Option Value} {base : Heap} {A : Ad}
theorem eCl (T : Tx K mg w A) (dir : Bool) : OwnC K (eC A dir) := by cases dir; exact T.o_File; exact T.o_Folder
theorem eN1 (T : Tx K mg w A) (dir : Bool) : NoAttr K (eC A dir) "mode_now" := by cases dir; exact T.n_File_mode_now; exact T.n_Folder_mode_now
theorem eN2 (T : Tx K mg w A) (dir : Bool) : NoAttr K (eC A dir) "own_owner" := by cases dir; exact T.n_File_own_owner; exact T.n_Folder_own_owner
theorem eN3 (T : Tx K mg w A) (dir : Bool) : NoAttr K (eC A dir) "own_group" := by cases dir; exact T.n_File_own_group; exact T.n_Folder_own_group
theorem fn_Holder_init (T : Tx K mg w A) : ∀ f fd, Fun K "__init__" "Holder.__init__" S_Holder_DinitD f fd → Fn P w K mg base f 1 (spHolderInit A) := by
  intro f fd F
  refine fnr_of (k := 0) F sc_Holder_DinitD (fun _ _ _ _ _ _ us hl => match us, hl with | [_], _ => rfl) (fun vs H Q E h => by obtain ⟨x, m, rfl, _⟩ := h; rfl) fun f cdv Ar outer s H vs Q E c h => ?_
  have hr := c.room
  have nd := sc_Holder_DinitD.nd
  obtain ⟨x, dx, rfl, hx, q⟩ := h
  refine ⟨_, (pss_one (ps_fld (pv 0) pe_dnewK rfl)), ?_⟩
  intro d hd
  have nx : x ≠ d := ne_of_none hx hd
  refine ⟨_, rfl, x, _, dx, _, rfl, (upd_ne nx).trans hx, T.o_Folder.cl, T.n_Folder_below, by show 0 < 1000; decide, ?_⟩
  exact q _ d (ExB.upd (exn hd).b) hd upd_same (by rw [upd_ne nx.symm, upd_same])
theorem fn_Entry_init (T : Tx K mg w A) (S : Sx P K mg A) {f cc cd : Addr} {kV doc pm ct : Value} {an : Option Addr}
    (S0 : SupF P K mg f cc cd A.Entry "Entry.__init__" (PySem.W.fnX "__init__" "Entry.__init__" (defArgs S_Entry_DinitD) (defBody S_Entry_DinitD) (defScope S_Entry_DinitD) [("__class__", cc)] .none kV doc pm an (.ref cd) ct)) : Fn P w K mg base f 6 (spEntryInit A) := by
  intro Ar outer s H us vs Q E hr e0 r h
  have hl : us.length = 4 := by
    obtain ⟨dir, x, dx, v, m, o, g, rfl, _⟩ := h
    exact r.length.symm
  refine run_sup (k := 5) (Q := Q) (G := fun vs H2 => spEntryInit A vs H2 Q E) S0 nsc_Entry hr e0 (fun A' Ex Q' hq => ?_) fun s2 H2 vs2 h2 c s3 I3 => ?_
  · have hb : ∀ us : List Value, us.length = 4 → bindArgs (PySem.W.fnX "__init__" "Entry.__init__" (defArgs S_Entry_DinitD) (defBody S_Entry_DinitD) (defScope S_Entry_DinitD) [("__class__", cc)] .none kV doc pm an (.ref cd) ct) ⟨us, []⟩ = (pure ((["self", "mode", "owner", "group"] : List Str).zip us) : Sem (List (Str × Value))) :=
      fun us hl => match us, hl with | [_, _, _, _], _ => rfl
    rw [hb us hl]
    exact wpAny_pure (hq s H vs us e0 Un.refl rfl (fun _ _ z => z) r (by rw [r.length, hl]; rfl) h)
  · have hr := c.room
    have nd := nsc_Entry.nd
    obtain ⟨dir, x, dx, v, m, o, g, rfl, hx, hm, ho, hg, q⟩ := h2
    have W : SupE (sX P w K mg base N_Entry_DinitD (sF "__init__" "Entry.__init__" (defArgs S_Entry_DinitD) (defBody S_Entry_DinitD) (defScope S_Entry_DinitD) cc cd) f Ar outer s2 H2 E) f cc cd "self" := ⟨rfl, rfl, rfl, rfl, rfl, rfl, rfl, rfl⟩
    obtain ⟨m0, m1⟩ : 0 ≤ m ∧ m ≤ 511 := by
      rcases hm with ⟨_, a, b⟩ | ⟨_, _, a, b, _⟩
      · exact ⟨a, b⟩
      · exact ⟨a, b⟩
    obtain ⟨t, R, rest⟩ : ∃ t, PSs (sX P w K mg base N_Entry_DinitD (sF "__init__" "Entry.__init__" (defArgs S_Entry_DinitD) (defBody S_Entry_DinitD) (defScope S_Entry_DinitD) cc cd) f Ar outer s2 H2 E) (defBody S_Entry_DinitD).tail t ∧
        ∀ H3 fs0, ExB x H2 H3 → H3 x = some (.ins (eC A dir) dx fs0) → fs0.length ≤ 1 → (∀ H4 ma, ExB x H3 H4 → H4 x = some (.ins (eC A dir) dx (putF "own_group" (.str g) (putF "own_owner" (.str o) (putF "mode_now" (.ref ma) fs0)))) → ModeAt A H4 ma m → Q .non H4) →
          t { nx := fun _ H' => Q .non H', rt := Q } (startF N_Entry_DinitD [.ref x, v, .str o, .str g] [none]) H3 := by
      refine ⟨_, (pss_cons (ps_fld (pv 0) (pe_mk c (by rfl) (pa_cons (pe_fn c (by rfl) (pa_cons (pv 1) pa_nil)) pa_nil)) rfl)
 (pss_cons (ps_for PassesOwn.never rfl (pi_tupC c (pe_tup (pa_cons (pv 2) (pa_cons (pv 3) pa_nil)))) (pg_name (i := 5) nd rfl (Or.inl rfl))
 (pss_one (ps_if (pt_not (pt_val (pe_fn c (by rfl) (pa_cons (pv 5) pa_nil)))) (pss_one ps_never) pss_nil)))
 (pss_cons (ps_fld (pv 0) (pv 2) rfl)
 (pss_one (ps_fld (pv 0) (pv 3) rfl))))), fun H3 fs0 e3 hx3 hl3 k => ?_⟩
      have hm3 := hm.exb e3 hx
      refine ⟨_, _, ccal_of T.i_Mode T.k_Mode (fn_Mode_init T), _, cal_of T.f_number_of (fn_number_of T), _, rfl, v, m, rfl, hm3, fun H4 e4 y dy hy hdy _ => ⟨y, dy, m, rfl, upd_same, ⟨m0, m1⟩, fun H5 eb hm5 => ⟨rfl, ?_⟩⟩⟩
      have e35 : Ex H3 H5 := ext e4 (ExB.made hy hdy eb)
      have hx5 := e35 _ _ hx3
      refine ⟨_, rfl, x, _, dx, _, rfl, hx5, (eCl T dir).cl, eN1 T dir, by omega, ?_⟩
      have nyx : y ≠ x := by
        obtain ⟨_, _, dd, hh⟩ := hm5
        intro z
        rw [z] at hy
        rw [e4 _ _ hx3] at hy
        cases hy
      have b6 : ExB x H3 (upd H5 x (.ins (eC A dir) dx (putF "mode_now" (.ref y) fs0))) := ExB.upd e35.b
      have hx6 : upd H5 x (.ins (eC A dir) dx (putF "mode_now" (.ref y) fs0)) x = some (.ins (eC A dir) dx (putF "mode_now" (.ref y) fs0)) := upd_same
      have hm6 : ModeAt A (upd H5 x (.ins (eC A dir) dx (putF "mode_now" (.ref y) fs0))) y m := by
        obtain ⟨a, b, dd, hh⟩ := hm5
        exact ⟨a, b, dd, by rw [upd_ne nyx]; exact hh⟩
      generalize upd H5 x (.ins (eC A dir) dx (putF "mode_now" (.ref y) fs0)) = H6 at b6 hx6 hm6 ⊢
      refine ⟨_, rfl, _, rfl, by show 2 ≤ sizeLine; decide, fun p hp => ⟨p, rfl, ⟨_, SqT.of upd_same⟩, for_it (walk_tup (xs := [.str o, .str g])) (fun i σ H' => (∃ v5, σ = [some (.ref x), some v, some (.str o), some (.str g), none, v5]) ∧ Ex (upd H6 p (.tup [.str o, .str g])) H')
        ⟨⟨none, rfl⟩, exr _⟩ (fun i σ H' _ q => SqT.of (q.2 _ _ upd_same)) ?_ ?_⟩⟩
      · rintro i z σ H7 H8 hi ⟨⟨v5, rfl⟩, e7⟩ ⟨rfl, hz⟩
        obtain ⟨n, rfl, hn⟩ : ∃ n, z = .str n ∧ Nm n := by
          match i, hz with
          | 0, hz => cases hz; exact ⟨_, rfl, ho⟩
          | 1, hz => cases hz; exact ⟨_, rfl, hg⟩
          | _ + 2, hz => cases hz
        exact ⟨_, cal_of T.f_is_name (fn_is_name T), _, rfl, n, rfl, hn, fun H9 e9 => ⟨_, rfl, iteF ⟨⟨_, rfl⟩, ext e7 e9⟩⟩⟩
      · rintro σ H7 ⟨⟨v5, rfl⟩, e7⟩
        have e67 : Ex H6 H7 := ext (exn hp) e7
        have hx7 := e67 _ _ hx6
        have hl6 : (putF "mode_now" (.ref y) fs0).length ≤ 2 := Nat.le_trans (putF_len _ _ _) (by omega)
        refine ⟨_, rfl, _, rfl, x, _, dx, _, rfl, hx7, (eCl T dir).cl, eN2 T dir, by omega, ?_⟩
        have hl7 : (putF "own_owner" (.str o) (putF "mode_now" (.ref y) fs0)).length ≤ 3 := Nat.le_trans (putF_len _ _ _) (by omega)
        refine ⟨_, rfl, _, rfl, x, _, dx, _, rfl, upd_same, (eCl T dir).cl, eN3 T dir, by omega, ?_⟩
        refine k _ y (ExB.upd (ExB.upd (b6.trans e67.b))) upd_same ?_
        obtain ⟨a, b, dd, hh⟩ := hm6.ex e67
        exact ⟨a, b, dd, by rw [upd_ne nyx, upd_ne nyx]; exact hh⟩
    cases dir with
    | false =>
      refine sup_body0 (rest := (defBody S_Entry_DinitD).tail) c S0 W rfl rfl I3 rfl hx (SupTo.obj S.m1 S.obj T.o_File.hm) R ⟨x, rfl, rest H2 [] (exr H2).b hx (by decide) fun H4 ma b4 hx4 hm4 => ?_⟩
      exact q H4 0 ma b4 hx4 hm4 (fun z => by cases z)
    | true =>
      obtain ⟨fh, fdh, k1, k2, k3, Fh⟩ := S.hol
      refine sup_body0 (rest := (defBody S_Entry_DinitD).tail) c S0 W rfl rfl I3 rfl hx (SupTo.own S.m2 k1 k2 k3 (fn_Holder_init T fh fdh Fh) (by decide)) R ⟨x, dx, rfl, hx, fun H3 d b3 hd hx3 hd3 => rest H3 _ b3 hx3 (by show 1 ≤ 1; decide) fun H4 ma b4 hx4 hm4 => ?_⟩
      have nd' : d ≠ x := (ne_of_none hx hd).symm
      exact q H4 d ma (b3.trans b4) hx4 hm4 (fun _ => ⟨b4 _ _ nd' hd3, hd⟩)
end
end Md
/-! Md: a folder, a file, made. -/
namespace Md
open PySem PySem.Spec PyProof.Rows L2 NdefX
theorem ex_lock {H H' : Hp} {d : Addr} {od : Obj} {u : HO} (h : H d = some u) (e : Ex (upd H d (.frz od u)) H') : Ex H (upd H' d u) := fun a o ha => by
  by_cases z : a = d
  · subst z
    rw [h] at ha
    rw [upd_same]
    exact ha
  · rw [upd_ne z]
    exact e a o (by rw [upd_ne z]; exact ha)
def spFolderInit (A : Ad) : Sp := fun vs H Q _ => ∃ x dx v m o g, vs = [.ref x, v, .str o, .str g] ∧ H x = some (.ins A.Folder dx []) ∧ MV A H v m ∧ Nm o ∧ Nm g ∧
  ∀ H' d ma, ExB x H H' → H' x = some (.ins A.Folder dx (enFs true d ma o g)) → ModeAt A H' ma m → H' d = some (.dK []) → H d = none → Q .non H'
def spFolderIn2 (A : Ad) : Sp := fun vs H Q _ => ∃ x dx v m o g ch, vs = [.ref x, v, .str o, .str g, .ref ch] ∧ H ch = some (.dK []) ∧ H x = some (.ins A.Folder dx []) ∧ MV A H v m ∧ Nm o ∧ Nm g ∧
  ∀ H' d ma, ExB x H H' → H' x = some (.ins A.Folder dx (enFs true d ma o g)) → ModeAt A H' ma m → H' d = some (.dK []) → H d = none → Q .non H'
section
variable {P : Program} {w : World} {K : PySem.W.Frag} {mg : Str → Option Value} {base : Heap} {A : Ad}
theorem fn_Folder_init (T : Tx K mg w A) (S : Sx P K mg A) {f cc cd : Addr} {kV doc pm ct : Value} {an : Option Addr}
    (S0 : SupF P K mg f cc cd A.Folder "Folder.__init__" (PySem.W.fnX "__init__" "Folder.__init__" (defArgs S_Folder_DinitD) (defBody S_Folder_DinitD) (defScope S_Folder_DinitD) [("__class__", cc)] .none kV doc pm an (.ref cd) ct)) : Fn P w K mg base f 7 (spFolderInit A) := by
  intro Ar outer s H us vs Q E hr e0 r h
  have hl : us.length = 4 := by
    obtain ⟨x, dx, v, m, o, g, rfl, _⟩ := h
    exact r.length.symm
  refine run_sup (k := 6) (Q := Q) (G := fun vs H2 => spFolderIn2 A vs H2 Q E) S0 nsc_Folder hr e0 (fun A' Ex Q' hq => ?_) fun s2 H2 vs2 h2 c s3 I3 => ?_
  · have hb : ∀ us : List Value, us.length = 4 → bindArgs (PySem.W.fnX "__init__" "Folder.__init__" (defArgs S_Folder_DinitD) (defBody S_Folder_DinitD) (defScope S_Folder_DinitD) [("__class__", cc)] .none kV doc pm an (.ref cd) ct) ⟨us, []⟩ =
        ((alloc ({ cls := .type "dict", data := .dict #[] } : Obj) : Sem Addr) >>= fun d => (pure ((["self", "mode", "owner", "group", "children"] : List Str).zip (us ++ [Value.ref d])) : Sem (List (Str × Value)))) :=
      fun us hl => match us, hl with | [_, _, _, _], _ => rfl
    rw [hb us hl]
    refine wpAny_bind (wpAny_alloc (wpAny_pure ?_))
    have hn : H s.heap.objs.size = none := e0.hok.fresh (Nat.le_refl _)
    have e1 := StX.env0_laid (u := .dK []) (o := ({ cls := .type "dict", data := .dict #[] } : Obj)) e0 (dk_empty _ (StX.env0_big e0))
    obtain ⟨x, dx, v, m, o, g, rfl, hx, hm, ho, hg, q⟩ := h
    refine hq _ _ ([.ref x, v, .str o, .str g] ++ [V.ref s.heap.objs.size]) (us ++ [Value.ref s.heap.objs.size]) e1 (StX.un_laid hn) rfl (fun _ _ z => z) (r.append (.cons rfl .nil)) rfl ?_
    have ex := exn (o := .dK []) hn
    exact ⟨x, dx, v, m, o, g, _, rfl, upd_same, ex _ _ hx, hm.ex ex, ho, hg, fun H' d ma b hx' hm' hd hdn => q H' d ma (ex.b.trans b) hx' hm' hd (ex.none hdn)⟩
  · have hr := c.room
    have nd := nsc_Folder.nd
    obtain ⟨x, dx, v, m, o, g, ch, rfl, hch, hx, hm, ho, hg, q⟩ := h2
    have W : SupE (sX P w K mg base N_Folder_DinitD (sF "__init__" "Folder.__init__" (defArgs S_Folder_DinitD) (defBody S_Folder_DinitD) (defScope S_Folder_DinitD) cc cd) f Ar outer s2 H2 E) f cc cd "self" := ⟨rfl, rfl, rfl, rfl, rfl, rfl, rfl, rfl⟩
    obtain ⟨fe, cce, cde, kVe, doce, pme, cte, ane, Se, _, k1, k2, k3⟩ := S.ent
    refine sup_bodyN (rest := (defBody S_Folder_DinitD).tail) c S0 W rfl rfl I3 rfl hx S.m3 k1 k2 k3 (fn_Entry_init T S Se) (by decide) (pa_cons (pv 1) (pa_cons (pv 2) (pa_cons (pv 3) pa_nil))) ((pss_cons (ps_set (i := 6) nd rfl (Or.inl rfl) (pe_callB (sortedS_C c) (by rfl) T.b_sorted (by decide +kernel) (pa_cons (pe_lock (pe_lc (own := [("name", 7)]) (g := gName 7) rfl nd (pi_keys (pv 4)) (blkOk_by (N := N_Folder_DinitD) (sc := defScope S_Folder_DinitD) (by decide +kernel)) (fun _ _ _ _ _ => (pg_name (i := 7) nd rfl (Or.inl rfl))) (fun _ _ _ _ _ => pts_nil) (fun _ _ _ _ _ => (pe_callTy SkE.call_str_str (by rfl) T.b_str (by decide +kernel) (pa_cons (pv 7) pa_nil))))) pa_nil)))
 (pss_cons (ps_for PassesOwn.never rfl (pi_listC c (pv 6)) (pg_name (i := 7) nd rfl (Or.inl rfl))
 (pss_one (ps_if (pt_not (pt_val (pe_fn c (by rfl) (pa_cons (pv 7) pa_nil)))) (pss_one ps_never) pss_nil)))
 (pss_one (ps_for PassesOwn.never rfl (pi_listC c (pv 6)) (pg_name (i := 7) nd rfl (Or.inl rfl))
 (pss_one (ps_expr (pe_mt c (pv 0) (pa_cons (pv 7) (pa_cons (pe_dget (hu_of hr) (pv 4) (pv 7) (fun _ _ => rfl)) pa_nil)))))))))) ?_
    refine ⟨_, rfl, _, rfl, _, rfl, true, x, dx, v, m, o, g, rfl, hx, hm, ho, hg, fun H3 d ma b3 hx3 hm3 hd3 => ?_⟩
    obtain ⟨hd3, hdn⟩ := hd3 rfl
    have nch : ch ≠ x := ne_of hch hx (by intro z; cases z)
    have hch3 := b3 _ _ nch hch
    refine ⟨ch, _, hch3, trivial, fun od => ?_⟩
    refine ⟨_, rfl, ch, od, rfl, .inl ⟨[], upd_same, fun D hD => lc_pure (walk_keys (kvs := [])) (fun _ => true) (fun _ => .non) hD (by decide) (fun H4 e4 => e4 _ _ upd_same) (fun i z H4 H5 hi => absurd hi (Nat.not_lt_zero _)) fun H4 e4 hl4 => ⟨e4 _ _ upd_same, ?_⟩⟩⟩
    have e34 : Ex H3 (upd H4 ch (.dK [])) := ex_lock hch3 e4
    have hD4 : upd H4 ch (.dK []) D = some (.lst []) := by
      have nD : D ≠ ch := fun z => by
        subst z
        rw [upd_same] at hD
        cases hD
      rw [upd_ne nD]
      exact hl4
    generalize upd H4 ch (.dK []) = H5 at e34 hD4 ⊢
    refine ⟨D, [], rfl, SqL.of hD4, by decide, fun ys p perm _ hp => ?_⟩
    have ey : ys = [] := List.Perm.eq_nil perm
    subst ey
    have e6 : Ex H3 (upd H5 p (.lst [])) := ext e34 (exn hp)
    have hp6 : upd H5 p (.lst []) p = some (.lst []) := upd_same
    show tSeq _ _ _ _ (upd H5 p (.lst []))
    generalize upd H5 p (.lst []) = H6 at e6 hp6 ⊢
    refine ⟨_, rfl, p, rfl, ⟨_, SqL.of hp6⟩, for_it (walk_list (xs := [])) (fun i σ H' => σ = [some (.ref x), some v, some (.str o), some (.str g), some (.ref ch), none, some (.ref p), none] ∧ H' = H6) ⟨rfl, rfl⟩ (fun i σ H' _ z => by rw [z.2]; exact SqL.of hp6) (fun i z σ H7 H8 hi => absurd hi (Nat.not_lt_zero _)) ?_⟩
    rintro σ H7 ⟨rfl, rfl⟩
    refine ⟨_, rfl, p, rfl, ⟨_, SqL.of hp6⟩, for_it (walk_list (xs := [])) (fun i σ H' => H' = H7) rfl (fun i σ H' _ z => by rw [z]; exact SqL.of hp6) (fun i z σ H7 H8 hi => absurd hi (Nat.not_lt_zero _)) ?_⟩
    rintro σ H8 rfl
    exact q _ d ma (b3.trans e6.b) (e6 _ _ hx3) (hm3.ex e6) (e6 _ _ hd3) hdn
end
end Md
/-! Md: forests, plain. -/
namespace Md
open PySem PySem.Spec PyProof.Rows L2
structure En where
  dir : Bool
  mode : Int
  owner : Str
  group : Str
inductive Fo where
  | nil
  | node (n : Str) (e : En) (k r : Fo)
structure EnOk (e : En) : Prop where
  m0 : 0 ≤ e.mode
  m1 : e.mode ≤ 511
  o : Nm e.owner
  g : Nm e.group
def names : Fo → List Str
  | .nil => []
  | .node n _ _ r => n :: names r
def cnt : Fo → Nat
  | .nil => 0
  | .node _ _ k r => 1 + cnt k + cnt r
def hgt : Fo → Nat
  | .nil => 0
  | .node _ _ k r => max (1 + hgt k) (hgt r)
def WfF : Fo → Prop
  | .nil => True
  | .node n e k r => Nm n ∧ EnOk e ∧ (e.dir = false → k = .nil) ∧ n ∉ names r ∧ WfF k ∧ WfF r
def look : Fo → Str → Option (En × Fo)
  | .nil, _ => none
  | .node n e k r, m => if n = m then some (e, k) else look r m
/-- what stands at a path below -/
def fl : Fo → List Str → Option En
  | _, [] => none
  | F, n :: q => match look F n with
    | none => none
    | some (e, k) => if q = [] then some e else fl k q
/-- the entry at a path, with what is below it -/
def subF : En × Fo → List Str → Option (En × Fo)
  | x, [] => some x
  | x, n :: q => match look x.2 n with
    | none => none
    | some y => subF y q
def snocF : Fo → Str → En → Fo → Fo
  | .nil, n, e, k => .node n e k .nil
  | .node m f l r, n, e, k => .node m f l (snocF r n e k)
def Eqv (F G : Fo) : Prop := ∀ q, fl F q = fl G q
theorem look_none {F : Fo} {n : Str} : look F n = none ↔ n ∉ names F := by
  induction F with
  | nil => simp [look, names]
  | node m e k r _ ih =>
    unfold look names
    by_cases h : m = n
    · rw [if_pos h]
      simp [h]
    · rw [if_neg h, ih]
      simp [Ne.symm h]
theorem look_mem {F : Fo} {n : Str} {x : En × Fo} (h : look F n = some x) : n ∈ names F := by
  by_cases hn : n ∈ names F
  · exact hn
  · rw [look_none.mpr hn] at h
    cases h
theorem look_some {F : Fo} {n : Str} (h : n ∈ names F) : ∃ x, look F n = some x := by
  cases e : look F n with
  | none => exact absurd h (look_none.mp e)
  | some x => exact ⟨x, rfl⟩
theorem look_wf {F : Fo} {n : Str} {e : En} {k : Fo} (w : WfF F) (h : look F n = some (e, k)) : Nm n ∧ EnOk e ∧ (e.dir = false → k = .nil) ∧ WfF k := by
  induction F with
  | nil => cases h
  | node m f l r _ ih =>
    obtain ⟨a, b, c, d, x, y⟩ := w
    unfold look at h
    by_cases q : m = n
    · rw [if_pos q] at h
      cases h
      subst q
      exact ⟨a, b, c, x⟩
    · rw [if_neg q] at h
      exact ih y h
theorem look_hgt {F : Fo} {n : Str} {e : En} {k : Fo} (h : look F n = some (e, k)) : hgt k + 1 ≤ hgt F := by
  induction F with
  | nil => cases h
  | node m f l r _ ih =>
    unfold look at h
    show hgt k + 1 ≤ max (1 + hgt l) (hgt r)
    by_cases q : m = n
    · rw [if_pos q] at h
      cases h
      omega
    · rw [if_neg q] at h
      have := ih h
      omega
theorem look_cnt {F : Fo} {n : Str} {e : En} {k : Fo} (h : look F n = some (e, k)) : cnt k + 1 ≤ cnt F := by
  induction F with
  | nil => cases h
  | node m f l r _ ih =>
    unfold look at h
    show cnt k + 1 ≤ 1 + cnt l + cnt r
    by_cases q : m = n
    · rw [if_pos q] at h
      cases h
      omega
    · rw [if_neg q] at h
      have := ih h
      omega
/-- how many stand at a name -/
def szN (F : Fo) (n : Str) : Nat := match look F n with
  | some (_, k) => 1 + cnt k
  | none => 0
theorem szN_of {F : Fo} {n : Str} {e : En} {k : Fo} (h : look F n = some (e, k)) : szN F n = 1 + cnt k := by
  unfold szN
  rw [h]
theorem map_szN {m : Str} {f : En} {l r : Fo} : ∀ {ns : List Str}, m ∉ ns → ns.map (szN (.node m f l r)) = ns.map (szN r)
  | [], _ => rfl
  | n :: ns, h => by
    have h1 : m ≠ n := fun e => h (by rw [e]; exact List.mem_cons_self ..)
    rw [List.map_cons, List.map_cons, map_szN (fun q => h (List.mem_cons_of_mem _ q))]
    have : szN (.node m f l r) n = szN r n := by
      unfold szN
      show (match (if m = n then some (f, l) else look r n) with | some (_, k) => 1 + cnt k | none => 0) = _
      rw [if_neg h1]
    rw [this]
theorem cnt_sum {F : Fo} (w : WfF F) : ((names F).map (szN F)).sum = cnt F := by
  induction F with
  | nil => rfl
  | node m f l r _ ih =>
    obtain ⟨a, b, c, d, x, y⟩ := w
    show ((m :: names r).map (szN (.node m f l r))).sum = 1 + cnt l + cnt r
    rw [List.map_cons, List.sum_cons, map_szN d, ih y]
    have : szN (.node m f l r) m = 1 + cnt l := by
      unfold szN
      show (match (if m = m then some (f, l) else look r m) with | some (_, k) => 1 + cnt k | none => 0) = _
      rw [if_pos rfl]
    rw [this]
theorem perm_sum : ∀ {l m : List Nat}, l.Perm m → l.sum = m.sum := fun h => by
  induction h with
  | nil => rfl
  | cons x _ ih => simp only [List.sum_cons, ih]
  | swap x y l => simp only [List.sum_cons]; omega
  | trans _ _ a b => exact a.trans b
theorem sum_int : ∀ l : List Nat, (l.map Int.ofNat).sum = ((l.sum : Nat) : Int)
  | [] => rfl
  | n :: l => by
    rw [List.map_cons, List.sum_cons, List.sum_cons, sum_int l]
    show (n : Int) + _ = _
    omega
theorem cnt_names : ∀ F : Fo, (names F).length ≤ cnt F
  | .nil => Nat.le_refl _
  | .node m f l r => by
    have := cnt_names r
    show (names r).length + 1 ≤ 1 + cnt l + cnt r
    omega
/-! ### snoc -/
theorem names_snoc (F : Fo) (n : Str) (e : En) (k : Fo) : names (snocF F n e k) = names F ++ [n] := by
  induction F with
  | nil => rfl
  | node m f l r _ ih => show m :: names (snocF r n e k) = _; rw [ih]; rfl
theorem look_snoc {F : Fo} {n : Str} {e : En} {k : Fo} (h : n ∉ names F) (m : Str) : look (snocF F n e k) m = if n = m then some (e, k) else look F m := by
  induction F with
  | nil => rfl
  | node p f l r _ ih =>
    have hp : p ≠ n := fun q => h (by rw [q]; exact List.mem_cons_self ..)
    have hr : n ∉ names r := fun q => h (List.mem_cons_of_mem _ q)
    show (if p = m then some (f, l) else look (snocF r n e k) m) = if n = m then some (e, k) else (if p = m then some (f, l) else look r m)
    rw [ih hr]
    by_cases a : p = m
    · rw [if_pos a, if_pos a, if_neg (fun q => hp (a.trans q.symm))]
    · rw [if_neg a, if_neg a]
theorem wf_snoc {F : Fo} {n : Str} {e : En} {k : Fo} (w : WfF F) (h : n ∉ names F) (hn : Nm n) (he : EnOk e) (hk : e.dir = false → k = .nil) (wk : WfF k) : WfF (snocF F n e k) := by
  induction F with
  | nil => exact ⟨hn, he, hk, by simp [names], wk, trivial⟩
  | node p f l r _ ih =>
    obtain ⟨a, b, c, d, x, y⟩ := w
    have hp : p ≠ n := fun q => h (by rw [q]; exact List.mem_cons_self ..)
    have hr : n ∉ names r := fun q => h (List.mem_cons_of_mem _ q)
    refine ⟨a, b, c, ?_, x, ih y hr⟩
    rw [names_snoc]
    intro q
    rcases List.mem_append.mp q with q | q
    · exact d q
    · exact hp (List.mem_singleton.mp q)
theorem hgt_snoc (F : Fo) (n : Str) (e : En) (k : Fo) : hgt (snocF F n e k) = max (hgt F) (1 + hgt k) := by
  induction F with
  | nil => show max (1 + hgt k) 0 = max 0 (1 + hgt k); omega
  | node p f l r _ ih =>
    show max (1 + hgt l) (hgt (snocF r n e k)) = max (max (1 + hgt l) (hgt r)) (1 + hgt k)
    rw [ih]
    omega
theorem cnt_snoc (F : Fo) (n : Str) (e : En) (k : Fo) : cnt (snocF F n e k) = cnt F + (1 + cnt k) := by
  induction F with
  | nil => show 1 + cnt k + 0 = 0 + (1 + cnt k); omega
  | node p f l r _ ih =>
    show 1 + cnt l + cnt (snocF r n e k) = 1 + cnt l + cnt r + (1 + cnt k)
    rw [ih]
    omega
/-! ### put -/
/-- a childless entry at a name, in its place or behind -/
def putN : Fo → Str → En → Fo
  | .nil, n, e => .node n e .nil .nil
  | .node m f l r, n, e => if m = n then .node m e .nil r else .node m f l (putN r n e)
/-- .. at a path -/
def putP : Fo → List Str → Str → En → Fo
  | F, [], n, e => putN F n e
  | .nil, _ :: _, _, _ => .nil
  | .node m f l r, p :: q, n, e => if m = p then .node m f (putP l q n e) r else .node m f l (putP r (p :: q) n e)
theorem putP_nil (F : Fo) (n : Str) (e : En) : putP F [] n e = putN F n e := by cases F <;> rfl
theorem putP_node (m : Str) (f : En) (l r : Fo) (p : Str) (q : List Str) (n : Str) (e : En) : putP (.node m f l r) (p :: q) n e = if m = p then .node m f (putP l q n e) r else .node m f l (putP r (p :: q) n e) := rfl
theorem names_putN (F : Fo) (n : Str) (e : En) : ∀ m, m ∈ names (putN F n e) ↔ m = n ∨ m ∈ names F := by
  induction F with
  | nil => intro m; simp [putN, names]
  | node p f l r _ ih =>
    intro m
    unfold putN
    by_cases h : p = n
    · rw [if_pos h]
      subst h
      show m ∈ p :: names r ↔ m = p ∨ m ∈ p :: names r
      simp
    · rw [if_neg h]
      show m ∈ p :: names (putN r n e) ↔ m = n ∨ m ∈ p :: names r
      rw [List.mem_cons, List.mem_cons, ih m]
      constructor
      · rintro (a | a | a)
        · exact .inr (.inl a)
        · exact .inl a
        · exact .inr (.inr a)
      · rintro (a | a | a)
        · exact .inr (.inl a)
        · exact .inl a
        · exact .inr (.inr a)
theorem names_putP (F : Fo) (p : Str) (q : List Str) (n : Str) (e : En) : names (putP F (p :: q) n e) = names F := by
  induction F with
  | nil => rfl
  | node m f l r _ ih =>
    rw [putP_node]
    by_cases h : m = p
    · rw [if_pos h]
      rfl
    · rw [if_neg h]
      show m :: names (putP r (p :: q) n e) = m :: names r
      rw [ih]
theorem look_putN (F : Fo) (n : Str) (e : En) (m : Str) : look (putN F n e) m = if n = m then some (e, .nil) else look F m := by
  induction F with
  | nil => rfl
  | node p f l r _ ih =>
    unfold putN
    by_cases h : p = n
    · rw [if_pos h]
      subst h
      show (if p = m then some (e, Fo.nil) else look r m) = if p = m then some (e, Fo.nil) else (if p = m then some (f, l) else look r m)
      by_cases a : p = m
      · rw [if_pos a, if_pos a]
      · rw [if_neg a, if_neg a, if_neg a]
    · rw [if_neg h]
      show (if p = m then some (f, l) else look (putN r n e) m) = if n = m then some (e, Fo.nil) else (if p = m then some (f, l) else look r m)
      rw [ih]
      by_cases a : p = m
      · rw [if_pos a, if_pos a, if_neg (fun z => h (a.trans z.symm))]
      · rw [if_neg a, if_neg a]
theorem look_putP (F : Fo) (p : Str) (q : List Str) (n : Str) (e : En) (m : Str) : look (putP F (p :: q) n e) m = if p = m then (look F m).map (fun x => (x.1, putP x.2 q n e)) else look F m := by
  induction F with
  | nil =>
    show none = if p = m then none else none
    split <;> rfl
  | node s f l r _ ih =>
    rw [putP_node]
    by_cases h : s = p
    · rw [if_pos h]
      subst h
      show (if s = m then some (f, putP l q n e) else look r m) = if s = m then (if s = m then some (f, l) else look r m).map _ else (if s = m then some (f, l) else look r m)
      by_cases a : s = m
      · rw [if_pos a, if_pos a, if_pos a]
        rfl
      · rw [if_neg a, if_neg a, if_neg a]
    · rw [if_neg h]
      show (if s = m then some (f, l) else look (putP r (p :: q) n e) m) = if p = m then (if s = m then some (f, l) else look r m).map _ else (if s = m then some (f, l) else look r m)
      rw [ih]
      by_cases a : s = m
      · rw [if_pos a, if_neg (fun z => h (a.trans z.symm))]
        rw [if_pos a]
      · rw [if_neg a, if_neg a]
theorem wf_putN {F : Fo} {n : Str} {e : En} (w : WfF F) (hn : Nm n) (he : EnOk e) : WfF (putN F n e) := by
  induction F with
  | nil => exact ⟨hn, he, fun _ => rfl, by simp [names], trivial, trivial⟩
  | node p f l r _ ih =>
    obtain ⟨a, b, c, d, x, y⟩ := w
    unfold putN
    by_cases h : p = n
    · rw [if_pos h]
      exact ⟨a, he, fun _ => rfl, d, trivial, y⟩
    · rw [if_neg h]
      refine ⟨a, b, c, fun q => ?_, x, ih y⟩
      rcases (names_putN r n e p).mp q with q | q
      · exact h q
      · exact d q
theorem wf_putP {n : Str} {e : En} (hn : Nm n) (he : EnOk e) : ∀ {q : List Str} {F : Fo} {x : En × Fo} {e0 : En}, WfF F → subF (e0, F) q = some x → x.1.dir = true → (e0.dir = true) → WfF (putP F q n e)
  | [], F, x, e0, w, _, _, _ => by rw [putP_nil]; exact wf_putN w hn he
  | p :: q, F, x, e0, w, h, hd, h0 => by
    unfold subF at h
    induction F with
    | nil => cases h
    | node m f l r _ ih =>
      obtain ⟨a, b, c, d, x1, y⟩ := w
      rw [putP_node]
      by_cases hp : m = p
      · rw [if_pos hp]
        subst hp
        have h' : subF (f, l) q = some x := by
          have : look (e0, Fo.node m f l r).2 m = some (f, l) := by show (if m = m then _ else _) = _; rw [if_pos rfl]
          rw [this] at h
          exact h
        have fd : f.dir = true := by
          cases q with
          | nil =>
            cases h'
            exact hd
          | cons q1 q2 =>
            cases e1 : f.dir with
            | true => rfl
            | false =>
              have := c e1
              subst this
              cases h'
        refine ⟨a, b, fun z => absurd (fd.symm.trans z) (by decide), d, wf_putP hn he x1 h' hd fd, y⟩
      · rw [if_neg hp]
        have h' : look (e0, Fo.node m f l r).2 p = look r p := by show (if m = p then _ else _) = _; rw [if_neg hp]
        rw [h'] at h
        refine ⟨a, b, c, ?_, x1, ih y h⟩
        rw [names_putP]
        exact d
end Md
/-! Md: forests in the heap. -/
namespace Md
open PySem PySem.Spec PyProof.Rows L2
abbrev KVs := List (Key × V)
/-- an entry: kvs its children by name, d0 the address of its dict (none: a file) -/
def EnAt (A : Ad) (H : Hp) (p : Addr) (e : En) (kvs : KVs) (d0 : List Addr) : Prop :=
  (e.dir = true ∧ ∃ dx d ma, H p = some (.ins A.Folder dx (enFs true d ma e.owner e.group)) ∧ H d = some (.dK kvs) ∧ ModeAt A H ma e.mode ∧ d0 = [d]) ∨
  (e.dir = false ∧ ∃ dx d ma, H p = some (.ins A.File dx (enFs false d ma e.owner e.group)) ∧ ModeAt A H ma e.mode ∧ kvs = [] ∧ d0 = [])
def FoAt (A : Ad) (H : Hp) : Fo → KVs → List Addr → Prop
  | .nil, kvs, ds => kvs = [] ∧ ds = []
  | .node n e k r, kvs, ds => ∃ p kv' kk d0 dk dr, kvs = (.inr n, .ref p) :: kv' ∧ EnAt A H p e kk d0 ∧ FoAt A H k kk dk ∧ FoAt A H r kv' dr ∧ ds = d0 ++ (dk ++ dr)
def NodeAt (A : Ad) (H : Hp) (p : Addr) (e : En) (k : Fo) (ds : List Addr) : Prop := ∃ kk d0 dk, EnAt A H p e kk d0 ∧ FoAt A H k kk dk ∧ ds = d0 ++ dk
section
variable {A : Ad} {H H' : Hp}
theorem EnAt.ex {p : Addr} {e : En} {kvs : KVs} {d0 : List Addr} (x : Ex H H') (h : EnAt A H p e kvs d0) : EnAt A H' p e kvs d0 := by
  rcases h with ⟨a, dx, d, ma, h1, h2, h3, h4⟩ | ⟨a, dx, d, ma, h1, h2, h3, h4⟩
  · exact .inl ⟨a, dx, d, ma, x _ _ h1, x _ _ h2, h3.ex x, h4⟩
  · exact .inr ⟨a, dx, d, ma, x _ _ h1, h2.ex x, h3, h4⟩
theorem FoAt.ex (x : Ex H H') : ∀ {F : Fo} {kvs : KVs} {ds : List Addr}, FoAt A H F kvs ds → FoAt A H' F kvs ds
  | .nil, _, _, h => h
  | .node _ _ _ _, _, _, ⟨p, kv', kk, d0, dk, dr, h1, h2, h3, h4, h5⟩ => ⟨p, kv', kk, d0, dk, dr, h1, h2.ex x, FoAt.ex x h3, FoAt.ex x h4, h5⟩
theorem NodeAt.ex {p : Addr} {e : En} {k : Fo} {ds : List Addr} (x : Ex H H') (h : NodeAt A H p e k ds) : NodeAt A H' p e k ds := by
  obtain ⟨kk, d0, dk, h1, h2, h3⟩ := h
  exact ⟨kk, d0, dk, h1.ex x, h2.ex x, h3⟩
/-- but what stands at d, a dict of none of these, may change -/
theorem EnAt.exb {p : Addr} {e : En} {kvs : KVs} {d0 : List Addr} {d : Addr} {kd : KVs} (hd : H d = some (.dK kd)) (x : ExB d H H') (hn : d ∉ d0) (h : EnAt A H p e kvs d0) : EnAt A H' p e kvs d0 := by
  have ni : ∀ {b C dx : Addr} {fs : List (Str × V)}, H b = some (.ins C dx fs) → b ≠ d := fun {b C dx fs} hb => ne_of hb hd (by intro z; cases z)
  have nm : ∀ {ma : Addr} {m : Int}, ModeAt A H ma m → ModeAt A H' ma m := fun {ma m} ⟨a, b, dx, q⟩ => ⟨a, b, dx, x _ _ (ni q) q⟩
  rcases h with ⟨a, dx, d', ma, h1, h2, h3, h4⟩ | ⟨a, dx, d', ma, h1, h2, h3, h4⟩
  · refine .inl ⟨a, dx, d', ma, x _ _ (ni h1) h1, x _ _ (fun z => hn ?_) h2, nm h3, h4⟩
    rw [h4, z]
    exact List.mem_cons_self ..
  · exact .inr ⟨a, dx, d', ma, x _ _ (ni h1) h1, nm h2, h3, h4⟩
theorem FoAt.exb {d : Addr} {kd : KVs} (hd : H d = some (.dK kd)) (x : ExB d H H') : ∀ {F : Fo} {kvs : KVs} {ds : List Addr}, d ∉ ds → FoAt A H F kvs ds → FoAt A H' F kvs ds
  | .nil, _, _, _, h => h
  | .node _ _ _ _, _, _, hn, ⟨p, kv', kk, d0, dk, dr, h1, h2, h3, h4, h5⟩ => by
    subst h5
    exact ⟨p, kv', kk, d0, dk, dr, h1, h2.exb hd x (fun z => hn (List.mem_append_left _ z)), FoAt.exb hd x (fun z => hn (List.mem_append_right _ (List.mem_append_left _ z))) h3,
      FoAt.exb hd x (fun z => hn (List.mem_append_right _ (List.mem_append_right _ z))) h4, rfl⟩
theorem EnAt.ds {p : Addr} {e : En} {kvs : KVs} {d0 : List Addr} (h : EnAt A H p e kvs d0) : ∀ d ∈ d0, ∃ kd, H d = some (.dK kd) := by
  rcases h with ⟨a, dx, d', ma, h1, h2, h3, h4⟩ | ⟨a, dx, d', ma, h1, h2, h3, h4⟩
  · intro d hd
    rw [h4] at hd
    rw [List.mem_singleton.mp hd]
    exact ⟨_, h2⟩
  · intro d hd
    rw [h4] at hd
    cases hd
theorem FoAt.dsm : ∀ {F : Fo} {kvs : KVs} {ds : List Addr}, FoAt A H F kvs ds → ∀ d ∈ ds, ∃ kd, H d = some (.dK kd)
  | .nil, _, _, h => by
    intro d hd
    rw [h.2] at hd
    cases hd
  | .node _ _ _ _, _, _, ⟨p, kv', kk, d0, dk, dr, h1, h2, h3, h4, h5⟩ => by
    intro d hd
    rw [h5] at hd
    rcases List.mem_append.mp hd with q | q
    · exact h2.ds d q
    · rcases List.mem_append.mp q with q | q
      · exact FoAt.dsm h3 d q
      · exact FoAt.dsm h4 d q
theorem NodeAt.dsm {p : Addr} {e : En} {k : Fo} {ds : List Addr} (h : NodeAt A H p e k ds) : ∀ d ∈ ds, ∃ kd, H d = some (.dK kd) := by
  obtain ⟨kk, d0, dk, h1, h2, rfl⟩ := h
  intro d hd
  rcases List.mem_append.mp hd with q | q
  · exact h1.ds d q
  · exact h2.dsm d q
theorem inr_ne {a b : Str} (h : ¬ a = b) : ¬ (Sum.inr a : Key) = Sum.inr b := fun z => h (Sum.inr.inj z)
theorem look_at : ∀ {F : Fo} {kvs : KVs} {ds : List Addr} {n : Str} {e : En} {k : Fo}, FoAt A H F kvs ds → look F n = some (e, k) → ∃ p dp, valV kvs (.inr n) = some (.ref p) ∧ NodeAt A H p e k dp ∧ ∀ d ∈ dp, d ∈ ds
  | .node m f l r, _, _, n, e, k, ⟨p, kv', kk, d0, dk, dr, h1, h2, h3, h4, h5⟩, h => by
    subst h1 h5
    unfold look at h
    by_cases q : m = n
    · rw [if_pos q] at h
      cases h
      subst q
      refine ⟨p, d0 ++ dk, valV_pos rfl, ⟨kk, d0, dk, h2, h3, rfl⟩, fun d hd => ?_⟩
      rw [← List.append_assoc]
      exact List.mem_append_left _ hd
    · rw [if_neg q] at h
      obtain ⟨p', dp, a, b, c⟩ := look_at h4 h
      refine ⟨p', dp, ?_, b, fun d hd => List.mem_append_right _ (List.mem_append_right _ (c d hd))⟩
      rw [valV_neg (inr_ne q)]
      exact a
theorem look_no : ∀ {F : Fo} {kvs : KVs} {ds : List Addr} {n : Str}, FoAt A H F kvs ds → look F n = none → valV kvs (.inr n) = none
  | .nil, _, _, n, h, _ => by rw [h.1]; rfl
  | .node m f l r, _, _, n, ⟨p, kv', kk, d0, dk, dr, h1, h2, h3, h4, h5⟩, h => by
    subst h1
    unfold look at h
    by_cases q : m = n
    · rw [if_pos q] at h
      cases h
    · rw [if_neg q] at h
      rw [valV_neg (inr_ne q)]
      exact look_no h4 h
theorem look_is {F : Fo} {kvs : KVs} {ds : List Addr} (h : FoAt A H F kvs ds) (n : Str) : (valV kvs (.inr n)).isSome = (look F n).isSome := by
  cases e : look F n with
  | none => rw [look_no h e]; rfl
  | some x =>
    obtain ⟨p, dp, a, _⟩ := look_at (e := x.1) (k := x.2) h e
    rw [a]
    rfl
theorem keys_at : ∀ {F : Fo} {kvs : KVs} {ds : List Addr}, FoAt A H F kvs ds → kvs.map (fun kv => kV kv.1) = (names F).map V.str
  | .nil, _, _, h => by rw [h.1]; rfl
  | .node m f l r, _, _, ⟨p, kv', kk, d0, dk, dr, h1, h2, h3, h4, h5⟩ => by
    subst h1
    show V.str m :: kv'.map _ = V.str m :: (names r).map V.str
    rw [keys_at h4]
theorem snoc_at : ∀ {F : Fo} {kvs : KVs} {ds : List Addr} {n : Str} {e : En} {k : Fo} {p : Addr} {dp : List Addr}, FoAt A H F kvs ds → NodeAt A H p e k dp → FoAt A H (snocF F n e k) (kvs ++ [(.inr n, .ref p)]) (ds ++ dp)
  | .nil, _, _, n, e, k, p, dp, h, ⟨kk, d0, dk, a, b, c⟩ => by
    obtain ⟨rfl, rfl⟩ := h
    exact ⟨p, [], kk, d0, dk, [], rfl, a, b, ⟨rfl, rfl⟩, by rw [c, List.append_nil, List.nil_append]⟩
  | .node m f l r, _, _, n, e, k, p, dp, ⟨p', kv', kk, d0, dk, dr, h1, h2, h3, h4, h5⟩, hp => by
    subst h1 h5
    exact ⟨p', kv' ++ [(.inr n, .ref p)], kk, d0, dk, dr ++ dp, rfl, h2, h3, snoc_at h4 hp, by simp only [List.append_assoc]⟩
/-- a childless entry put at a name: the kvs -/
theorem putN_at : ∀ {F : Fo} {kvs : KVs} {ds : List Addr} {n : Str} {e : En} {p : Addr} {dp : List Addr}, FoAt A H F kvs ds → NodeAt A H p e .nil dp → ds.Nodup → dp.Nodup → (∀ d ∈ dp, d ∉ ds) → WfF F →
    ∃ ds', FoAt A H (putN F n e) (putK kvs (.inr n) (.ref p)) ds' ∧ ds'.Nodup ∧ ∀ d ∈ ds', d ∈ ds ∨ d ∈ dp
  | .nil, _, _, n, e, p, dp, h, ⟨kk, d0, dk, a, b, c⟩, _, n2, _, _ => by
    obtain ⟨rfl, rfl⟩ := h
    refine ⟨dp, ⟨p, [], kk, d0, dk, [], rfl, a, b, ⟨rfl, rfl⟩, by rw [c, List.append_nil]⟩, n2, fun d hd => .inr hd⟩
  | .node m f l r, _, _, n, e, p, dp, ⟨p', kv', kk, d0, dk, dr, h1, h2, h3, h4, h5⟩, hp, n1, n2, nn, w => by
    subst h1 h5
    obtain ⟨_, _, _, wn, _, wr⟩ := w
    have ndr : dr.Nodup := (List.nodup_append.mp (List.nodup_append.mp n1).2.1).2.1
    have mdr : ∀ d ∈ dr, d ∈ d0 ++ (dk ++ dr) := fun d hd => List.mem_append_right _ (List.mem_append_right _ hd)
    unfold putN
    by_cases q : m = n
    · rw [if_pos q]
      subst q
      obtain ⟨kk2, d2, dk2, a2, b2, c2⟩ := hp
      have hno : valV kv' (.inr m) = none := look_no h4 (look_none.mpr wn)
      have hmap : kv'.map (fun kv => if kv.1 = (Sum.inr m : Key) then (kv.1, V.ref p) else kv) = kv' := by
        have : ∀ kv ∈ kv', (if kv.1 = (Sum.inr m : Key) then (kv.1, V.ref p) else kv) = id kv := fun kv hkv => by
          rw [if_neg]
          · rfl
          · intro z
            have : (kv'.any fun kv => decide (kv.1 = (Sum.inr m : Key))) = true := List.any_eq_true.mpr ⟨kv, hkv, decide_eq_true z⟩
            rw [valV_any, hno] at this
            cases this
        rw [List.map_congr_left this, List.map_id]
      have hput : putK ((Sum.inr m, V.ref p') :: kv') (.inr m) (V.ref p) = (Sum.inr m, V.ref p) :: kv' := by
        unfold putK
        rw [if_pos (by simp), List.map_cons, if_pos rfl, hmap]
      rw [hput]
      refine ⟨dp ++ dr, ⟨p, kv', kk2, d2, dk2, dr, rfl, a2, b2, h4, by rw [c2, List.append_assoc]⟩, List.nodup_append.mpr ⟨n2, ndr, fun x hx y hy z => nn x hx (by rw [z]; exact mdr y hy)⟩, fun d hd => ?_⟩
      rcases List.mem_append.mp hd with q | q
      · exact .inr q
      · exact .inl (mdr d q)
    · rw [if_neg q]
      obtain ⟨ds', x1, x2, x3⟩ := putN_at (n := n) h4 hp ndr n2 (fun d hd z => nn d hd (mdr d z)) wr
      have hput : putK ((Sum.inr m, V.ref p') :: kv') (.inr n) (V.ref p) = (Sum.inr m, V.ref p') :: putK kv' (.inr n) (V.ref p) := by
        have hm : decide ((Sum.inr m : Key) = Sum.inr n) = false := decide_eq_false (inr_ne q)
        unfold putK
        rw [List.any_cons, hm, Bool.false_or]
        split
        · rw [List.map_cons, if_neg (inr_ne q)]
        · rfl
      rw [hput]
      refine ⟨d0 ++ (dk ++ ds'), ⟨p', _, kk, d0, dk, ds', rfl, h2, h3, x1, rfl⟩, ?_, fun d hd => ?_⟩
      · rw [← List.append_assoc] at n1 ⊢
        obtain ⟨y1, y2, y3⟩ := List.nodup_append.mp n1
        refine List.nodup_append.mpr ⟨y1, x2, fun a ha b hb z => ?_⟩
        rcases x3 b hb with w' | w'
        · exact y3 a ha b w' z
        · refine nn b w' ?_
          rw [← z, ← List.append_assoc]
          exact List.mem_append_left _ ha
      · rcases List.mem_append.mp hd with w' | w'
        · exact .inl (List.mem_append_left _ w')
        · rcases List.mem_append.mp w' with w' | w'
          · exact .inl (List.mem_append_right _ (List.mem_append_left _ w'))
          · rcases x3 d w' with w' | w'
            · exact .inl (mdr d w')
            · exact .inr w'
end
end Md
/-! Md: entries asked. -/
namespace Md
open PySem PySem.Spec PyProof.Rows L2
def spEnMode (A : Ad) : Sp := fun vs H Q _ => ∃ p e kvs d0, vs = [.ref p] ∧ EnAt A H p e kvs d0 ∧ ∀ H' ma, Ex H H' → ModeAt A H' ma e.mode → Q (.ref ma) H'
def spEnOwner (A : Ad) : Sp := fun vs H Q _ => ∃ p e kvs d0, vs = [.ref p] ∧ EnAt A H p e kvs d0 ∧ ∀ H', Ex H H' → Q (.str e.owner) H'
def spEnGroup (A : Ad) : Sp := fun vs H Q _ => ∃ p e kvs d0, vs = [.ref p] ∧ EnAt A H p e kvs d0 ∧ ∀ H', Ex H H' → Q (.str e.group) H'
def spNames (A : Ad) : Sp := fun vs H Q _ => ∃ p e k ds, vs = [.ref p] ∧ e.dir = true ∧ NodeAt A H p e k ds ∧ cnt k ≤ 60 ∧ ∀ H' l ys, Ex H H' → H l = none → H' l = some (.lst (ys.map V.str)) → ys.Perm (names k) → sortedS ys = true → Q (.ref l) H'
def spContains (A : Ad) : Sp := fun vs H Q _ => ∃ p n e k ds, vs = [.ref p, .str n] ∧ e.dir = true ∧ NodeAt A H p e k ds ∧ ∀ H', Ex H H' → Q (.bl (look k n).isSome) H'
/-- the child of a folder at a name, by addresses -/
def ChildAt (A : Ad) (H : Hp) (p : Addr) (n : Str) (p' : Addr) : Prop := ∃ dx d ma o g kvs, H p = some (.ins A.Folder dx (enFs true d ma o g)) ∧ H d = some (.dK kvs) ∧ valV kvs (.inr n) = some (.ref p')
theorem ChildAt.ex {A : Ad} {H H' : Hp} {p p' : Addr} {n : Str} (x : Ex H H') (h : ChildAt A H p n p') : ChildAt A H' p n p' := by
  obtain ⟨dx, d, ma, o, g, kvs, h1, h2, h3⟩ := h
  exact ⟨dx, d, ma, o, g, kvs, x _ _ h1, x _ _ h2, h3⟩
def PthAt (A : Ad) (H : Hp) : Addr → List Str → Addr → Prop
  | p, [], p' => p = p'
  | p, n :: q, p' => ∃ p1, ChildAt A H p n p1 ∧ PthAt A H p1 q p'
theorem PthAt.ex {A : Ad} {H H' : Hp} (x : Ex H H') : ∀ {ns : List Str} {p p' : Addr}, PthAt A H p ns p' → PthAt A H' p ns p'
  | [], _, _, h => h
  | _ :: _, _, _, ⟨p1, a, b⟩ => ⟨p1, a.ex x, PthAt.ex x b⟩
theorem PthAt.snoc {A : Ad} {H : Hp} : ∀ {ns : List Str} {p p1 p' : Addr} {n : Str}, PthAt A H p ns p1 → ChildAt A H p1 n p' → PthAt A H p (ns ++ [n]) p'
  | [], _, _, _, _, h, c => by
    cases h
    exact ⟨_, c, rfl⟩
  | _ :: _, _, _, _, _, ⟨p2, a, b⟩, c => ⟨p2, a, PthAt.snoc b c⟩
def spGetItem (A : Ad) : Sp := fun vs H Q _ => ∃ p n e k ds e' k', vs = [.ref p, .str n] ∧ e.dir = true ∧ NodeAt A H p e k ds ∧ look k n = some (e', k') ∧ ∀ H' p' dp, Ex H H' → ChildAt A H' p n p' → NodeAt A H' p' e' k' dp → (∀ d ∈ dp, d ∈ ds) → Q (.ref p') H'
theorem EnAt.ins {A : Ad} {H : Hp} {p : Addr} {e : En} {kvs : KVs} {d0 : List Addr} (h : EnAt A H p e kvs d0) : ∃ dx d ma, H p = some (.ins (eC A e.dir) dx (enFs e.dir d ma e.owner e.group)) ∧ ModeAt A H ma e.mode := by
  rcases h with ⟨a, dx, d, ma, h1, h2, h3, h4⟩ | ⟨a, dx, d, ma, h1, h2, h3, h4⟩
  · rw [a]
    exact ⟨dx, d, ma, h1, h3⟩
  · rw [a]
    exact ⟨dx, d, ma, h1, h2⟩
theorem enFs_mode (dir : Bool) (d ma : Addr) (o g : Str) : (enFs dir d ma o g).lookup ("mode_now" : Str) = some (.ref ma) := by cases dir <;> rfl
theorem enFs_owner (dir : Bool) (d ma : Addr) (o g : Str) : (enFs dir d ma o g).lookup ("own_owner" : Str) = some (.str o) := by cases dir <;> rfl
theorem enFs_group (dir : Bool) (d ma : Addr) (o g : Str) : (enFs dir d ma o g).lookup ("own_group" : Str) = some (.str g) := by cases dir <;> rfl
section
variable {P : Program} {w : World} {K : PySem.W.Frag} {mg : Str → Option Value} {base : Heap} {A : Ad}
theorem fn_Entry_mode (T : Tx K mg w A) : ∀ f fd, Fun K "mode" "Entry.mode" S_Entry_mode f fd → Fn P w K mg base f 1 (spEnMode A) := by
  intro f fd F
  refine fnr_of (k := 0) F sc_Entry_mode (fun _ _ _ _ _ _ us hl => match us, hl with | [_], _ => rfl) (fun vs H Q E h => by obtain ⟨x, e, _, _, rfl, _⟩ := h; rfl) fun f cdv Ar outer s H vs Q E c h => ?_
  have hr := c.room
  have nd := sc_Entry_mode.nd
  obtain ⟨p, e, kvs, d0, rfl, h, q⟩ := h
  obtain ⟨dx, d, ma, hp, hm⟩ := h.ins
  exact ⟨_, (pss_one (ps_ret (pe_at c (pv 0)))), _, rfl, p, _, dx, _, rfl, hp, .inl ⟨_, (eCl T _).cl, eN1 T _, enFs_mode .., q _ ma (exr _) hm⟩⟩
theorem fn_Entry_owner (T : Tx K mg w A) : ∀ f fd, Fun K "owner" "Entry.owner" S_Entry_owner f fd → Fn P w K mg base f 1 (spEnOwner A) := by
  intro f fd F
  refine fnr_of (k := 0) F sc_Entry_owner (fun _ _ _ _ _ _ us hl => match us, hl with | [_], _ => rfl) (fun vs H Q E h => by obtain ⟨x, e, _, _, rfl, _⟩ := h; rfl) fun f cdv Ar outer s H vs Q E c h => ?_
  have hr := c.room
  have nd := sc_Entry_owner.nd
  obtain ⟨p, e, kvs, d0, rfl, h, q⟩ := h
  obtain ⟨dx, d, ma, hp, hm⟩ := h.ins
  exact ⟨_, (pss_one (ps_ret (pe_at c (pv 0)))), _, rfl, p, _, dx, _, rfl, hp, .inl ⟨_, (eCl T _).cl, eN2 T _, enFs_owner .., q _ (exr _)⟩⟩
theorem fn_Entry_group (T : Tx K mg w A) : ∀ f fd, Fun K "group" "Entry.group" S_Entry_group f fd → Fn P w K mg base f 1 (spEnGroup A) := by
  intro f fd F
  refine fnr_of (k := 0) F sc_Entry_group (fun _ _ _ _ _ _ us hl => match us, hl with | [_], _ => rfl) (fun vs H Q E h => by obtain ⟨x, e, _, _, rfl, _⟩ := h; rfl) fun f cdv Ar outer s H vs Q E c h => ?_
  have hr := c.room
  have nd := sc_Entry_group.nd
  obtain ⟨p, e, kvs, d0, rfl, h, q⟩ := h
  obtain ⟨dx, d, ma, hp, hm⟩ := h.ins
  exact ⟨_, (pss_one (ps_ret (pe_at c (pv 0)))), _, rfl, p, _, dx, _, rfl, hp, .inl ⟨_, (eCl T _).cl, eN3 T _, enFs_group .., q _ (exr _)⟩⟩
theorem pc_mode (T : Tx K mg w A) (dir : Bool) {n : Nat} (h : 2 ≤ n) : PCal K (Fn P w K mg base) n (eC A dir) "mode" (spEnMode A) := by
  cases dir
  · exact pcal_of T.p_File_mode T.o_File.cl (fn_Entry_mode T) h
  · exact pcal_of T.p_Folder_mode T.o_Folder.cl (fn_Entry_mode T) h
theorem pc_owner (T : Tx K mg w A) (dir : Bool) {n : Nat} (h : 2 ≤ n) : PCal K (Fn P w K mg base) n (eC A dir) "owner" (spEnOwner A) := by
  cases dir
  · exact pcal_of T.p_File_owner T.o_File.cl (fn_Entry_owner T) h
  · exact pcal_of T.p_Folder_owner T.o_Folder.cl (fn_Entry_owner T) h
theorem pc_group (T : Tx K mg w A) (dir : Bool) {n : Nat} (h : 2 ≤ n) : PCal K (Fn P w K mg base) n (eC A dir) "group" (spEnGroup A) := by
  cases dir
  · exact pcal_of T.p_File_group T.o_File.cl (fn_Entry_group T) h
  · exact pcal_of T.p_Folder_group T.o_Folder.cl (fn_Entry_group T) h
/-- a folder's own -/
theorem NodeAt.dirp {A : Ad} {H : Hp} {p : Addr} {e : En} {k : Fo} {ds : List Addr} (hd : e.dir = true) (h : NodeAt A H p e k ds) :
    ∃ dx d ma kvs dk, H p = some (.ins A.Folder dx (enFs true d ma e.owner e.group)) ∧ H d = some (.dK kvs) ∧ FoAt A H k kvs dk ∧ ds = d :: dk ∧ ModeAt A H ma e.mode := by
  obtain ⟨kk, d0, dk, h1, h2, h3⟩ := h
  rcases h1 with ⟨a, dx, d, ma, x1, x2, x3, x4⟩ | ⟨a, _⟩
  · exact ⟨dx, d, ma, kk, dk, x1, x2, h2, by rw [h3, x4]; rfl, x3⟩
  · rw [a] at hd
    cases hd
theorem fn_names (T : Tx K mg w A) : ∀ f fd, Fun K "names" "Holder.names" S_Holder_names f fd → Fn P w K mg base f 1 (spNames A) := by
  intro f fd F
  refine fnr_of (k := 0) F sc_Holder_names (fun _ _ _ _ _ _ us hl => match us, hl with | [_], _ => rfl) (fun vs H Q E h => by obtain ⟨x, e, _, _, rfl, _⟩ := h; rfl) fun f cdv Ar outer s H vs Q E c h => ?_
  have hr := c.room
  have nd := sc_Holder_names.nd
  obtain ⟨p, e, k, ds, rfl, hd, hn, hc, q⟩ := h
  obtain ⟨dx, d, ma, kvs, dk, hp, hdd, hf, _, _⟩ := hn.dirp hd
  have npd : p ≠ d := ne_of hp hdd (by intro z; cases z)
  have hkey := keys_at hf
  have hlen : kvs.length = (names k).length := by
    have := congrArg List.length hkey
    rw [List.length_map, List.length_map] at this
    exact this
  have hcn := cnt_names k
  refine ⟨_, (pss_one (ps_ret (pe_callB (sortedS_C c) (by rfl) T.b_sorted (by decide +kernel) (pa_cons (pe_lock (pe_lc (own := [("name", 1)]) (g := gName 1) rfl nd (pi_keys (pe_at c (pv 0))) (blkOk_by (N := N_Holder_names) (sc := defScope S_Holder_names) (by decide +kernel)) (fun _ _ _ _ _ => (pg_name (i := 1) nd rfl (Or.inl rfl))) (fun _ _ _ _ _ => pts_nil) (fun _ _ _ _ _ => (pe_callTy SkE.call_str_str (by rfl) T.b_str (by decide +kernel) (pa_cons (pv 1) pa_nil))))) pa_nil)))), ?_⟩
  refine ⟨d, _, hdd, trivial, fun od => ?_⟩
  refine ⟨_, rfl, p, _, dx, _, rfl, (upd_ne npd).trans hp, .inl ⟨_, T.o_Folder.cl, T.n_Folder_below, rfl, d, od, rfl, .inl ⟨kvs, upd_same, fun D hD => ?_⟩⟩⟩
  refine lc_pure (walk_keys (kvs := kvs)) (fun _ => true) (fun i => .str ((names k).getD i "")) hD (by omega) (fun H4 e4 => e4 _ _ upd_same) ?_ fun H4 e4 hl4 => ⟨e4 _ _ upd_same, ?_⟩
  · rintro i x H2 H3 hi e2 ⟨rfl, kx, v, hkv, rfl⟩ Kn Ky _ hy
    have h1 : ((names k).map V.str)[i]? = some (kV kx) := by
      rw [← hkey, List.getElem?_map, hkv]
      rfl
    rw [List.getElem?_map] at h1
    obtain ⟨n, hn1, hn2⟩ := Option.map_eq_some_iff.mp h1
    rw [getD_of hn1] at hy
    refine ⟨rfl, _, rfl, n, ?_, hy rfl _ (exr _)⟩
    rw [hn2]
  · rw [gvn_all, rng_getD (names k) "" V.str hlen] at hl4
    have e34 : Ex H (upd H4 d (.dK kvs)) := ex_lock hdd e4
    have nD : D ≠ d := fun z => by
      subst z
      rw [upd_same] at hD
      cases hD
    have hD4 : upd H4 d (.dK kvs) D = some (.lst ((names k).map V.str)) := by
      rw [upd_ne nD]
      exact hl4
    refine ⟨D, names k, rfl, SqL.of hD4, by omega, fun ys l perm srt hl => ?_⟩
    exact q _ l ys (ext e34 (exn hl)) (e34.none hl) upd_same perm srt
theorem fn_contains (T : Tx K mg w A) : ∀ f fd, Fun K "__contains__" "Holder.__contains__" S_Holder_DcontainsD f fd → Fn P w K mg base f 1 (spContains A) := by
  intro f fd F
  refine fnr_of (k := 0) F sc_Holder_DcontainsD (fun _ _ _ _ _ _ us hl => match us, hl with | [_, _], _ => rfl) (fun vs H Q E h => by obtain ⟨x, n, e, _, _, rfl, _⟩ := h; rfl) fun f cdv Ar outer s H vs Q E c h => ?_
  have hr := c.room
  have nd := sc_Holder_DcontainsD.nd
  obtain ⟨p, n, e, k, ds, rfl, hd, hn, q⟩ := h
  obtain ⟨dx, d, ma, kvs, dk, hp, hdd, hf, _, _⟩ := hn.dirp hd
  refine ⟨_, (pss_one (ps_ret (pe_and (pe_callB (isi_C c) (by rfl) T.b_isinstance (by decide +kernel) (pa_cons (pv 1) (pa_cons (pe_bltn (by rfl) T.b_str (by decide +kernel) (v := .ty "str") rfl) pa_nil))) (pe_one (pe_cmp (pc_din (hu_of hr) (pv 1) (pe_at c (pv 0)))))))), ?_⟩
  refine ⟨_, rfl, _, _, _, _, true, rfl, .ty _, .base (.str _), kit_ty (by decide +kernel), _, rfl, ?_⟩
  refine iteT ⟨_, rfl, _, rfl, p, _, dx, _, rfl, hp, .inl ⟨_, T.o_Folder.cl, T.n_Folder_below, rfl, d, _, rfl, DGet.k (k := .inr n) hdd, ?_⟩⟩
  rw [look_is hf n]
  exact q _ (exr _)
theorem fn_getitem (T : Tx K mg w A) : ∀ f fd, Fun K "__getitem__" "Holder.__getitem__" S_Holder_DgetitemD f fd → Fn P w K mg base f 4 (spGetItem A) := by
  intro f fd F
  refine fnr_of (k := 3) F sc_Holder_DgetitemD (fun _ _ _ _ _ _ us hl => match us, hl with | [_, _], _ => rfl) (fun vs H Q E h => by obtain ⟨x, n, e, _, _, _, _, rfl, _⟩ := h; rfl) fun f cdv Ar outer s H vs Q E c h => ?_
  have hr := c.room
  have nd := sc_Holder_DgetitemD.nd
  obtain ⟨p, n, e, k, ds, e', k', rfl, hd, hn, hl, q⟩ := h
  obtain ⟨dx, d, ma, kvs, dk, hp, hdd, hf, hds, _⟩ := id (hn.dirp hd)
  refine ⟨_, (pss_cons (ps_if (pt_cmpR (op_notInO c) (pv 1) (pv 0) (by rfl)) (pss_one ps_never) pss_nil)
 (pss_one (ps_ret (pe_dget (hu_of hr) (pe_at c (pv 0)) (pv 1) (fun _ _ => rfl))))), ?_⟩
  refine ⟨_, rfl, _, rfl, p, _, dx, _, _, rfl, hp, scal_of T.s_Folder_contains (fn_contains T), p, n, e, k, ds, rfl, hd, hn, fun H1 e1 => ⟨_, rfl, _, rfl, ?_⟩⟩
  rw [hl]
  refine iteF ⟨_, rfl, p, _, dx, _, rfl, e1 _ _ hp, .inl ⟨_, T.o_Folder.cl, T.n_Folder_below, rfl, ?_⟩⟩
  obtain ⟨p', dp, hv, hn', hs⟩ := look_at (hf.ex e1) hl
  refine ⟨_, rfl, d, _, rfl, ?_, q H1 p' dp e1 ⟨_, _, _, _, _, _, e1 _ _ hp, e1 _ _ hdd, hv⟩ hn' fun x hx => by rw [hds]; exact List.mem_cons_of_mem _ (hs x hx)⟩
  rw [← hv]
  exact DGet.k (k := .inr n) (e1 _ _ hdd)
end
end Md
/-! Md: sizes, paths. -/
namespace Md
open PySem PySem.Spec PyProof.Rows L2
/-- an entry that is well told -/
structure NdOk (e : En) (k : Fo) : Prop where
  eo : EnOk e
  w : WfF k
  ff : e.dir = false → k = .nil
def spSize (A : Ad) (n : Nat) : Sp := fun vs H Q _ => ∃ p e k ds, vs = [.ref p] ∧ NodeAt A H p e k ds ∧ NdOk e k ∧ hgt k ≤ n ∧ cnt k ≤ 60 ∧ ∀ H', Ex H H' → Q (.int ((1 + cnt k : Nat) : Int)) H'
def spFound (A : Ad) : Sp := fun vs H Q _ => ∃ p t ns e k ds e' k', vs = [.ref p, .ref t] ∧ (H t = some (.tup (ns.map V.str)) ∨ H t = some (.lst (ns.map V.str))) ∧ NodeAt A H p e k ds ∧ NdOk e k ∧ subF (e, k) ns = some (e', k') ∧
  ∀ H' p' dp, Ex H H' → PthAt A H' p ns p' → NodeAt A H' p' e' k' dp → (∀ d ∈ dp, d ∈ ds) → Q (.ref p') H'
theorem subF_snoc : ∀ {ns : List Str} {x y : En × Fo} {n : Str}, subF x ns = some y → subF x (ns ++ [n]) = look y.2 n
  | [], x, y, n, h => by
    cases h
    show (match look x.2 n with | none => none | some y => subF y []) = look x.2 n
    cases look x.2 n <;> rfl
  | m :: ns, x, y, n, h => by
    unfold subF at h
    show (match look x.2 m with | none => none | some y => subF y (ns ++ [n])) = _
    cases e : look x.2 m with
    | none => rw [e] at h; cases h
    | some z =>
      rw [e] at h
      exact subF_snoc h
theorem subF_take : ∀ {ns : List Str} {x y : En × Fo} (i : Nat), subF x ns = some y → ∃ z, subF x (ns.take i) = some z
  | ns, x, y, 0, h => ⟨x, rfl⟩
  | [], x, y, i + 1, h => ⟨x, rfl⟩
  | m :: ns, x, y, i + 1, h => by
    unfold subF at h
    show ∃ z, (match look x.2 m with | none => none | some y => subF y (ns.take i)) = some z
    cases e : look x.2 m with
    | none => rw [e] at h; cases h
    | some z =>
      rw [e] at h
      exact subF_take i h
theorem subF_ok : ∀ {ns : List Str} {e : En} {k : Fo} {y : En × Fo}, NdOk e k → subF (e, k) ns = some y → NdOk y.1 y.2
  | [], e, k, y, o, h => by cases h; exact o
  | m :: ns, e, k, y, o, h => by
    unfold subF at h
    cases q : look k m with
    | none =>
      rw [show look (e, k).2 m = none from q] at h
      cases h
    | some z =>
      rw [show look (e, k).2 m = some z from q] at h
      obtain ⟨_, a, b, c⟩ := look_wf (e := z.1) (k := z.2) o.w q
      exact subF_ok (e := z.1) (k := z.2) ⟨a, c, b⟩ h
section
variable {P : Program} {w : World} {K : PySem.W.Frag} {mg : Str → Option Value} {base : Heap} {A : Ad}
theorem t_holder (T : Tx K mg w A) (dir : Bool) : PySem.W.kitOne K (.ref (eC A dir)) (.ref A.Holder) = some dir := by
  cases dir
  · exact T.t_File_Holder
  · exact T.t_Folder_Holder
theorem NodeAt.en {A : Ad} {H : Hp} {p : Addr} {e : En} {k : Fo} {ds : List Addr} (h : NodeAt A H p e k ds) : ∃ kk d0, EnAt A H p e kk d0 := ⟨_, _, h.choose_spec.choose_spec.choose_spec.1⟩
theorem fn_size_step (T : Tx K mg w A) (n : Nat) (IH : ∀ m, n = m + 1 → ∀ f fd, Fun K "size_of" "size_of" S_size_of f fd → Fn P w K mg base f (m + 7) (spSize A m)) :
    ∀ f fd, Fun K "size_of" "size_of" S_size_of f fd → Fn P w K mg base f (n + 7) (spSize A n) := by
  intro f fd F
  refine fnr_of (k := n + 6) F sc_size_of (fun _ _ _ _ _ _ us hl => match us, hl with | [_], _ => rfl) (fun vs H Q E h => by obtain ⟨x, e, _, _, rfl, _⟩ := h; rfl) fun f cdv Ar outer s H vs Q E c h => ?_
  have hr := c.room
  have nd := sc_size_of.nd
  obtain ⟨p, e, k, ds, rfl, hn, ok, hh, hc, q⟩ := h
  obtain ⟨kk, d0, hen⟩ := hn.en
  obtain ⟨dx0, d', ma', hp0, _⟩ := hen.ins
  refine ⟨_, (pss_cons (ps_if (pt_not (pt_val (pe_callB (isi_C c) (by rfl) T.b_isinstance (by decide +kernel) (pa_cons (pv 0) (pa_cons (pe_gc (by rfl) T.k_Holder) pa_nil))))) (pss_one (ps_ret pe_int)) pss_nil)
 (pss_one (ps_ret (pe_op op_add pe_int (pe_callB (sum_C c rfl) (by rfl) T.b_sum (by decide +kernel) (pa_cons (pe_lc (own := [("name", 1)]) (g := gName 1) rfl nd (pi_listC c (pe_mt0 c (pv 0))) (blkOk_by (N := N_size_of) (sc := defScope S_size_of) (by decide +kernel)) (fun _ _ _ _ _ => (pg_name (i := 1) nd rfl (Or.inl rfl))) (fun _ _ _ _ _ => pts_nil) (fun _ _ _ _ _ => (pe_fn c.b (by rfl) (pa_cons (pe_ixO c.b (pv 0) (pv 1)) pa_nil)))) pa_nil)))))), ?_⟩
  refine ⟨_, rfl, _, _, _, _, e.dir, rfl, .own _, (eCl T e.dir).ty T.ob hp0, t_holder T e.dir, _, rfl, ?_⟩
  cases hd : e.dir with
  | false =>
    rw [ok.ff hd] at q
    exact iteT (q _ (exr _))
  | true =>
    obtain ⟨dx, d, ma, kvs, dk, hp, hdd, hf, hds, _⟩ := id (hn.dirp hd)
    refine iteF ⟨_, rfl, p, _, dx, _, _, rfl, hp, mcal_of T.m_Folder_names T.o_Folder.cl (fn_names T) (by omega), rfl, p, e, k, ds, rfl, hd, hn, hc, fun H1 l ys e1 hl hl1 perm srt => ?_⟩
    have hylen : ys.length = (names k).length := perm.length_eq
    have hcn := cnt_names k
    refine ⟨l, rfl, ⟨_, SqL.of hl1⟩, fun D hD => lc_pure (walk_list (xs := ys.map V.str)) (fun _ => true) (fun i => .int (Int.ofNat (szN k (ys.getD i "")))) hD (by rw [List.length_map]; omega) (fun H2 e2 => SqL.of (e2 _ _ hl1)) ?_ fun H2 e2 hl2 => ?_⟩
    · rintro i x H2 H3 hi e2 ⟨rfl, hx⟩ Kn Ky _ hy
      rw [List.getElem?_map] at hx
      obtain ⟨nm, hnm, rfl⟩ := Option.map_eq_some_iff.mp hx
      rw [getD_of hnm] at hy
      have hmem : nm ∈ names k := perm.mem_iff.mp (List.mem_of_getElem? hnm)
      obtain ⟨⟨e', k'⟩, hlook⟩ := look_some hmem
      have h1 := look_hgt hlook
      have h2 := look_cnt hlook
      obtain ⟨_, w1, w2, w3⟩ := look_wf ok.w hlook
      rw [szN_of hlook] at hy
      obtain ⟨m, rfl⟩ : ∃ m, n = m + 1 := ⟨n - 1, by omega⟩
      have e12 := ext e1 e2
      refine ⟨rfl, _, cal_of T.f_size_of (IH m rfl) (by omega), _, rfl, _, rfl, p, _, dx, _, _, rfl, e12 _ _ hp, scal_of T.s_Folder_getitem (fn_getitem T) (by omega), p, nm, e, k, ds, e', k', rfl, hd, hn.ex e12, hlook, fun H4 p' dp e4 _ hn4 _ => ?_⟩
      exact ⟨p', e', k', dp, rfl, hn4, ⟨w1, w3, w2⟩, by omega, by omega, fun H5 e5 => hy rfl H5 (ext e4 e5)⟩
    · rw [gvn_all, rng_getD ys "" (fun n => V.int (Int.ofNat (szN k n))) (by rw [List.length_map])] at hl2
      refine ⟨D, (ys.map (szN k)).map Int.ofNat, rfl, .inl (.inl (by rw [hl2, List.map_map, List.map_map]; rfl)), _, _, rfl, rfl, ?_⟩
      have hs : ((ys.map (szN k)).map Int.ofNat).sum = ((cnt k : Nat) : Int) := by
        rw [sum_int, perm_sum (perm.map (szN k)), cnt_sum ok.w]
      have he : (1 : Int) + ((ys.map (szN k)).map Int.ofNat).sum = ((1 + cnt k : Nat) : Int) := by rw [hs]; omega
      show Q (.int ((1 : Int) + ((ys.map (szN k)).map Int.ofNat).sum)) H2
      rw [he]
      exact q _ (ext e1 e2)
theorem fn_size_of (T : Tx K mg w A) : ∀ n, ∀ f fd, Fun K "size_of" "size_of" S_size_of f fd → Fn P w K mg base f (n + 7) (spSize A n)
  | 0 => fn_size_step T 0 fun m h => by omega
  | n + 1 => fn_size_step T (n + 1) fun m h => by
    cases h
    exact fn_size_of T n
theorem fn_found_below (T : Tx K mg w A) : ∀ f fd, Fun K "found_below" "found_below" S_found_below f fd → Fn P w K mg base f 7 (spFound A) := by
  intro f fd F
  refine fnr_of (k := 6) F sc_found_below (fun _ _ _ _ _ _ us hl => match us, hl with | [_, _], _ => rfl) (fun vs H Q E h => by obtain ⟨x, e, _, _, _, _, _, _, rfl, _⟩ := h; rfl) fun f cdv Ar outer s H vs Q E c h => ?_
  have hr := c.room
  have nd := sc_found_below.nd
  obtain ⟨p, t, ns, e, k, ds, e', k', rfl, ht, hn, ok, hsub, q⟩ := h
  refine ⟨_, (pss_cons (ps_for PassesOwn.never rfl (pi_seqC c (pv 1)) (pg_name (i := 2) nd rfl (Or.inl rfl))
 (pss_cons (ps_if (PW.pt (pw_or (pt_not (pt_val (pe_callB (isi_C c) (by rfl) T.b_isinstance (by decide +kernel) (pa_cons (pv 0) (pa_cons (pe_gc (by rfl) T.k_Holder) pa_nil))))) (pw_or1 (pt_cmpR (op_notInO c) (pv 2) (pv 0) (by rfl))))) (pss_one (ps_ret pe_non)) pss_nil)
 (pss_one (ps_set (i := 0) nd rfl (Or.inl rfl) (pe_ixO c (pv 0) (pv 2))))))
 (pss_one (ps_ret (pv 0)))), ?_⟩
  refine ⟨_, rfl, t, rfl, for_seq (H0 := H) (xs := ns.map V.str) (ht.elim (fun h => .inr (SqT.of h)) (fun h => .inl (SqL.of h))) (fun i σ H' => ∃ pi ei ki di v, σ = [some (.ref pi), some (.ref t), v] ∧ NodeAt A H' pi ei ki di ∧ (∀ d ∈ di, d ∈ ds) ∧ subF (e, k) (ns.take i) = some (ei, ki) ∧ PthAt A H' p (ns.take i) pi ∧ Ex H H')
    ⟨p, e, k, ds, none, rfl, hn, fun d h => h, rfl, rfl, exr _⟩ (fun i σ H' q => q.choose_spec.choose_spec.choose_spec.choose_spec.choose_spec.2.2.2.2.2) ?_ ?_⟩
  · rintro i x σ H1 hx ⟨pi, ei, ki, di, v, rfl, hni, hdi, hsi, hpi, e1⟩
    rw [List.getElem?_map] at hx
    obtain ⟨nm, hnm, rfl⟩ := Option.map_eq_some_iff.mp hx
    have htk : ns.take (i + 1) = ns.take i ++ [nm] := by
      rw [List.take_succ, hnm]
      rfl
    obtain ⟨⟨e2, k2⟩, hs2⟩ := subF_take (i + 1) hsub
    have hs3 := hs2
    rw [htk, subF_snoc hsi] at hs3
    have hs3 : look ki nm = some (e2, k2) := hs3
    have oki := subF_ok ok hsi
    have hdir : ei.dir = true := by
      cases h : ei.dir with
      | true => rfl
      | false =>
        have := oki.ff h
        have this : ki = .nil := this
        rw [this] at hs3
        cases hs3
    obtain ⟨dx, d, ma, kvs, dk, hp, hdd, hf, hds, _⟩ := id (hni.dirp hdir)
    refine ⟨_, rfl, _, _, _, _, true, rfl, .own _, T.o_Folder.ty T.ob hp, T.t_Folder_Holder, _, rfl, ?_⟩
    refine iteF ⟨_, rfl, _, rfl, pi, _, dx, _, _, rfl, hp, scal_of T.s_Folder_contains (fn_contains T), pi, nm, ei, ki, di, rfl, hdir, hni, fun H2 ex2 => ⟨_, rfl, _, rfl, ?_⟩⟩
    rw [hs3]
    refine iteF ⟨_, rfl, _, rfl, pi, _, dx, _, _, rfl, ex2 _ _ hp, scal_of T.s_Folder_getitem (fn_getitem T), pi, nm, ei, ki, di, e2, k2, rfl, hdir, hni.ex ex2, hs3, fun H3 p' dp ex3 hch hn3 hsub3 => ?_⟩
    refine ⟨p', e2, k2, dp, _, rfl, hn3, fun x hx => hdi x (hsub3 x hx), hs2, ?_, ext e1 (ext ex2 ex3)⟩
    rw [htk]
    exact (hpi.ex (ext ex2 ex3)).snoc hch
  · rintro σ H1 ⟨pi, ei, ki, di, v, rfl, hni, hdi, hsi, hpi, e1⟩
    rw [List.length_map, List.take_length] at hsi hpi
    rw [hsub] at hsi
    cases hsi
    exact ⟨_, rfl, q _ pi di e1 hpi hni hdi⟩
end
end Md
/-! Md: an entry copied. -/
namespace Md
open PySem PySem.Spec PyProof.Rows L2
def spCopied (A : Ad) (n : Nat) : Sp := fun vs H Q _ => ∃ p e k ds, vs = [.ref p] ∧ NodeAt A H p e k ds ∧ NdOk e k ∧ hgt k ≤ n ∧ cnt k ≤ 60 ∧
  ∀ H' p' k' ds', Ex H H' → H p' = none → NodeAt A H' p' e k' ds' → NdOk e k' → Eqv k k' → hgt k' ≤ hgt k → cnt k' = cnt k → ds'.Nodup → (∀ d ∈ ds', H d = none) → Q (.ref p') H'
theorem eqv_nil : Eqv .nil .nil := fun _ => rfl
theorem eqv_of {k F : Fo} {ys : List Str} (hp : ys.Perm (names k)) (hn : names F = ys) (h : ∀ n ∈ ys, ∃ e k1 k2, look k n = some (e, k1) ∧ look F n = some (e, k2) ∧ Eqv k1 k2) : Eqv k F := fun q => by
  cases q with
  | nil => cases k <;> cases F <;> rfl
  | cons n q =>
    have fk : ∀ G : Fo, fl G (n :: q) = match look G n with | none => none | some (e, k) => if q = [] then some e else fl k q := fun G => by cases G <;> rfl
    rw [fk, fk]
    by_cases hm : n ∈ ys
    · obtain ⟨e, k1, k2, a, b, c⟩ := h n hm
      rw [a, b]
      show (if q = [] then some e else fl k1 q) = (if q = [] then some e else fl k2 q)
      rw [c q]
    · rw [look_none.mpr (fun z => hm (hp.mem_iff.mpr z)), look_none.mpr (by rw [hn]; exact hm)]
theorem exb_dele {d : Addr} {H : Hp} : ExB d H (dele d H) := fun a o hn h => by rw [dele_ne hn]; exact h
theorem names_nodup : ∀ {F : Fo}, WfF F → (names F).Nodup
  | .nil, _ => List.nodup_nil
  | .node n e k r, w => List.nodup_cons.mpr ⟨w.2.2.2.1, names_nodup w.2.2.2.2.2⟩
section
variable {P : Program} {w : World} {K : PySem.W.Frag} {mg : Str → Option Value} {base : Heap} {A : Ad}
theorem ccal_Folder (T : Tx K mg w A) (S : Sx P K mg A) {n : Nat} (h : 8 ≤ n) : CCal K mg (Fn P w K mg base) n "Folder" A.Folder (spFolderInit A) := by
  obtain ⟨f, cc, c, kV, doc, pm, ct, an, S0, M⟩ := S.fol
  obtain ⟨u, hm, r⟩ := T.k_Folder
  cases r
  exact ⟨f, 7, hm, M, fn_Folder_init T S S0, h⟩
theorem ccal_File (T : Tx K mg w A) (S : Sx P K mg A) {n : Nat} (h : 7 ≤ n) : CCal K mg (Fn P w K mg base) n "File" A.File (spEntryInit A) := by
  obtain ⟨f, cc, c, kV, doc, pm, ct, an, S0, M, _⟩ := S.ent
  obtain ⟨u, hm, r⟩ := T.k_File
  cases r
  exact ⟨f, 6, hm, M, fn_Entry_init T S S0, h⟩
theorem ex_made {H1 : Hp} {x dx : Addr} {o u : HO} (hx : H1 x = none) (hd : H1 dx = none) : Ex H1 (upd (upd H1 dx o) x u) := fun a v h => by rw [upd_ne (ne_of_none h hx), upd_ne (ne_of_none h hd)]; exact h
/-- Folder(v, o, g), made -/
theorem mk_Folder {H1 : Hp} {x dx : Addr} {v : V} {e : En} {Q' : VK} {E : XK} (hx : H1 x = none) (hd : H1 dx = none) (hdir : e.dir = true) (hm : MV A H1 v e.mode) (ho : Nm e.owner) (hg : Nm e.group)
    (q : ∀ H' d, Ex H1 H' → H1 d = none → EnAt A H' x e [] [d] → Q' .non H') : spFolderInit A [.ref x, v, .str e.owner, .str e.group] (upd (upd H1 dx (.own x)) x (.ins A.Folder dx [])) Q' E :=
  ⟨x, dx, v, e.mode, e.owner, e.group, rfl, upd_same, hm.ex (ex_made hx hd), ho, hg, fun H' d ma b hx' hm' hd' hdn => q H' d (ExB.made hx hd b) ((ex_made hx hd).none hdn) (.inl ⟨hdir, dx, d, ma, hx', hd', hm', rfl⟩)⟩
theorem mk_File {H1 : Hp} {x dx : Addr} {v : V} {e : En} {Q' : VK} {E : XK} (hx : H1 x = none) (hd : H1 dx = none) (hdir : e.dir = false) (hm : MV A H1 v e.mode) (ho : Nm e.owner) (hg : Nm e.group)
    (q : ∀ H', Ex H1 H' → EnAt A H' x e [] [] → Q' .non H') : spEntryInit A [.ref x, v, .str e.owner, .str e.group] (upd (upd H1 dx (.own x)) x (.ins A.File dx [])) Q' E :=
  ⟨false, x, dx, v, e.mode, e.owner, e.group, rfl, upd_same, hm.ex (ex_made hx hd), ho, hg, fun H' d ma b hx' hm' _ => q H' (ExB.made hx hd b) (.inr ⟨hdir, dx, d, ma, hx', hm', rfl, rfl⟩)⟩
theorem fn_copied_step (T : Tx K mg w A) (S : Sx P K mg A) (n : Nat) (IH : ∀ m, n = m + 1 → ∀ f fd, Fun K "copied" "copied" S_copied f fd → Fn P w K mg base f (m + 9) (spCopied A m)) :
    ∀ f fd, Fun K "copied" "copied" S_copied f fd → Fn P w K mg base f (n + 9) (spCopied A n) := by
  intro f fd F
  refine fnr_of (k := n + 8) F sc_copied (fun _ _ _ _ _ _ us hl => match us, hl with | [_], _ => rfl) (fun vs H Q E h => by obtain ⟨x, e, _, _, rfl, _⟩ := h; rfl) fun f cdv Ar outer s H vs Q E c h => ?_
  have hr := c.room
  have nd := sc_copied.nd
  obtain ⟨p, e, k, ds, rfl, hn, ok, hh, hc, q⟩ := h
  obtain ⟨kk, d0, hen⟩ := hn.en
  obtain ⟨dx0, d', ma', hp0, _⟩ := hen.ins
  refine ⟨_, (pss_cons (ps_if (pt_not (pt_val (pe_callB (isi_C c) (by rfl) T.b_isinstance (by decide +kernel) (pa_cons (pv 0) (pa_cons (pe_gc (by rfl) T.k_Holder) pa_nil))))) (pss_one (ps_ret (pe_mk c (by rfl) (pa_cons (pe_at c (pv 0)) (pa_cons (pe_at c (pv 0)) (pa_cons (pe_at c (pv 0)) pa_nil)))))) pss_nil)
 (pss_cons (ps_set (i := 1) nd rfl (Or.inl rfl) (pe_mk c (by rfl) (pa_cons (pe_at c (pv 0)) (pa_cons (pe_at c (pv 0)) (pa_cons (pe_at c (pv 0)) pa_nil)))))
 (pss_cons (ps_for PassesOwn.never rfl (pi_listC c (pe_mt0 c (pv 0))) (pg_name (i := 2) nd rfl (Or.inl rfl))
 (pss_one (ps_dput (hu_of hr) (pe_at c (pv 1)) (pv 2) (pe_fn c (by rfl) (pa_cons (pe_ixO c (pv 0) (pv 2)) pa_nil)) rfl)))
 (pss_one (ps_ret (pv 1)))))), ?_⟩
  refine ⟨_, rfl, _, _, _, _, e.dir, rfl, .own _, (eCl T e.dir).ty T.ob hp0, t_holder T e.dir, _, rfl, ?_⟩
  cases hd : e.dir with
  | false =>
    rw [hd] at hp0
    have hk := ok.ff hd
    subst hk
    refine iteT ⟨_, _, ccal_File T S (by omega), _, rfl, p, _, dx0, _, rfl, hp0, .inr ⟨_, pc_mode T false (by omega), p, e, kk, d0, rfl, hen, fun H1 ma e1 hma => ?_⟩⟩
    refine ⟨_, rfl, p, _, dx0, _, rfl, e1 _ _ hp0, .inr ⟨_, pc_owner T false (by omega), p, e, kk, d0, rfl, hen.ex e1, fun H2 e2 => ?_⟩⟩
    have e12 := ext e1 e2
    refine ⟨_, rfl, p, _, dx0, _, rfl, e12 _ _ hp0, .inr ⟨_, pc_group T false (by omega), p, e, kk, d0, rfl, hen.ex e12, fun H3 e3 x dx hx hdx _ => ?_⟩⟩
    have e13 := ext e12 e3
    refine mk_File (e := e) hx hdx hd (.inr ⟨ma, rfl, hma.ex (ext e2 e3)⟩) ok.eo.o ok.eo.g fun H4 e4 hen4 => ⟨rfl, ?_⟩
    exact q H4 x .nil [] (ext e13 e4) (e13.none hx) ⟨[], [], [], hen4, ⟨rfl, rfl⟩, rfl⟩ ⟨ok.eo, trivial, fun _ => rfl⟩ eqv_nil (Nat.le_refl _) rfl List.nodup_nil (fun d hd => by cases hd)
  | true =>
    rw [hd] at hp0
    refine iteF ⟨_, _, ccal_Folder T S (by omega), _, rfl, p, _, dx0, _, rfl, hp0, .inr ⟨_, pc_mode T true (by omega), p, e, kk, d0, rfl, hen, fun H1 ma e1 hma => ?_⟩⟩
    refine ⟨_, rfl, p, _, dx0, _, rfl, e1 _ _ hp0, .inr ⟨_, pc_owner T true (by omega), p, e, kk, d0, rfl, hen.ex e1, fun H2 e2 => ?_⟩⟩
    have e12 := ext e1 e2
    refine ⟨_, rfl, p, _, dx0, _, rfl, e12 _ _ hp0, .inr ⟨_, pc_group T true (by omega), p, e, kk, d0, rfl, hen.ex e12, fun H3 e3 x dx hx hdx _ => ?_⟩⟩
    have e13 := ext e12 e3
    refine mk_Folder (e := e) hx hdx hd (.inr ⟨ma, rfl, hma.ex (ext e2 e3)⟩) ok.eo.o ok.eo.g fun H4 d e4 hdn hen4 => ⟨rfl, ?_⟩
    have e14 := ext e13 e4
    have hdH : H d = none := e13.none hdn
    have hxH : H x = none := e13.none hx
    obtain ⟨dxx, dd, maa, hx4, hd4, hma4, hdd⟩ : ∃ dxx dd maa, H4 x = some (.ins A.Folder dxx (enFs true dd maa e.owner e.group)) ∧ H4 dd = some (.dK []) ∧ ModeAt A H4 maa e.mode ∧ [d] = [dd] := by
      rcases hen4 with ⟨_, a, b, c, x1, x2, x3, x4⟩ | ⟨a, _⟩
      · exact ⟨a, b, c, x1, x2, x3, x4⟩
      · rw [hd] at a
        cases a
    cases hdd
    refine ⟨_, rfl, p, _, dx0, _, _, rfl, e14 _ _ hp0, mcal_of T.m_Folder_names T.o_Folder.cl (fn_names T) (by omega), rfl, p, e, k, ds, rfl, hd, hn.ex e14, hc, fun H5 l ys e5 hl hl5 perm srt => ?_⟩
    have hcn := cnt_names k
    have hylen : ys.length = (names k).length := perm.length_eq
    have hynd : ys.Nodup := perm.nodup_iff.mpr (names_nodup ok.w)
    have hx5 := e5 _ _ hx4
    have hd5 := e5 _ _ hd4
    have hxd : x ≠ d := ne_of hx4 hd4 (by intro z; cases z)
    have hld : l ≠ d := ne_of hl5 hd5 (by intro z; cases z)
    have eH5 : Ex H (dele d H5) := dele_of (ext e14 e5) hdH
    refine ⟨l, rfl, ⟨_, SqL.of hl5⟩, for_it (walk_list (xs := ys.map V.str)) (fun i σ H' => (∃ v, σ = [some (.ref p), some (.ref x), v]) ∧ ∃ hb kvs F ds', Ex (dele d H5) hb ∧ hb d = none ∧ Ex hb H' ∧ H' d = some (.dK kvs) ∧ FoAt A hb F kvs ds' ∧ ds'.Nodup ∧ (∀ a ∈ ds', H a = none) ∧
        names F = ys.take i ∧ WfF F ∧ hgt F ≤ hgt k ∧ cnt F = ((ys.take i).map (szN k)).sum ∧ ∀ n ∈ ys.take i, ∃ e' k1 k2, look k n = some (e', k1) ∧ look F n = some (e', k2) ∧ Eqv k1 k2)
      ⟨⟨none, rfl⟩, dele d H5, [], .nil, [], exr _, dele_at, dele_sub, hd5, ⟨rfl, rfl⟩, List.nodup_nil, (fun a ha => by cases ha), rfl, trivial, Nat.zero_le _, rfl, fun n hn => by cases hn⟩ (fun i σ H' _ pv => ?_) ?_ ?_⟩
    · obtain ⟨_, hb, kvs, F, ds', a1, _, a3, _⟩ := pv
      refine SqL.of (a3 _ _ (a1 _ _ ?_))
      rw [dele_ne hld]
      exact hl5
    · rintro i y σ H6 H7 hi ⟨⟨v, rfl⟩, hb, kvs, F, ds', b1, b2, b3, b4, b5, b6, b7, b8, b9, b10, b11, b12⟩ ⟨rfl, hy⟩
      rw [List.getElem?_map] at hy
      obtain ⟨nm, hnm, rfl⟩ := Option.map_eq_some_iff.mp hy
      have hmem : nm ∈ names k := perm.mem_iff.mp (List.mem_of_getElem? hnm)
      obtain ⟨⟨e', k'⟩, hlook⟩ := look_some hmem
      have h1 := look_hgt hlook
      have h2 := look_cnt hlook
      obtain ⟨wn, w1, w2, w3⟩ := look_wf ok.w hlook
      obtain ⟨m, rfl⟩ : ∃ m, n = m + 1 := ⟨n - 1, by omega⟩
      have eH7 : Ex H H7 := ext eH5 (ext b1 b3)
      refine ⟨_, cal_of T.f_copied (IH m rfl) (by omega), _, rfl, _, rfl, p, _, dx0, _, _, rfl, eH7 _ _ hp0, scal_of T.s_Folder_getitem (fn_getitem T) (by omega), p, nm, e, k, ds, e', k', rfl, hd, hn.ex eH7, hlook, fun H8 p' dp e8 _ hn8 _ => ?_⟩
      refine ⟨p', e', k', dp, rfl, hn8, ⟨w1, w3, w2⟩, by omega, by omega, fun H9 p9 k9 ds9 e9 hp9 hn9 ok9 eq9 hh9 hc9 nd9 fr9 => ?_⟩
      have e79 := ext e8 e9
      have hd9 := e79 _ _ b4
      have hx9 : H9 x = some (.ins A.Folder dxx (enFs true d maa e.owner e.group)) := e79 _ _ (b3 _ _ (b1 _ _ (by rw [dele_ne hxd]; exact hx5)))
      have hnF : nm ∉ names F := by
        rw [b8]
        intro z
        obtain ⟨j, hj⟩ := List.mem_iff_getElem?.mp z
        rw [List.getElem?_take] at hj
        by_cases hji : j < i
        · rw [if_pos hji] at hj
          obtain ⟨h1, h1'⟩ := (List.getElem?_eq_some_iff.mp hj)
          obtain ⟨h2, h2'⟩ := (List.getElem?_eq_some_iff.mp hnm)
          exact (List.pairwise_iff_getElem.mp hynd) j i h1 h2 hji (h1'.trans h2'.symm)
        · rw [if_neg hji] at hj
          cases hj
      have hval : valV kvs (.inr nm) = none := look_no b5 (look_none.mpr hnF)
      have hkl : kvs.length < 100000 := by
        have h3 := congrArg List.length (keys_at b5)
        rw [List.length_map, List.length_map, b8, List.length_take] at h3
        omega
      have fr : ∀ a ∈ ds9, H7 a = none := fun a ha => e8.none (fr9 a ha)
      have hdn9 : d ∉ ds9 := fun z => by
        have := fr d z
        rw [b4] at this
        cases this
      refine ⟨_, rfl, x, _, dxx, _, rfl, hx9, .inl ⟨_, T.o_Folder.cl, T.n_Folder_below, rfl, _, rfl, d, _, rfl, DPut.k (k := .inr nm) hd9 (zt hkl), ?_⟩⟩
      rw [putK_new _ hval]
      have htk : ys.take (i + 1) = ys.take i ++ [nm] := by
        rw [List.take_succ, hnm]
        rfl
      refine ⟨⟨_, rfl⟩, dele d H9, kvs ++ [(.inr nm, .ref p9)], snocF F nm e' k9, ds' ++ ds9, dele_of (ext b1 (ext b3 e79)) dele_at, dele_at, dele_up, upd_same,
        snoc_at (b5.ex (dele_of (ext b3 e79) b2)) ?_, ?_, ?_, ?_, wf_snoc b9 hnF wn ok9.eo ok9.ff ok9.w, ?_, ?_, ?_⟩
      · obtain ⟨kk9, d9, dk9, z1, z2, z3⟩ := hn9
        rw [z3] at hdn9
        exact ⟨kk9, d9, dk9, z1.exb hd9 exb_dele (fun z => hdn9 (List.mem_append_left _ z)), z2.exb hd9 exb_dele (fun z => hdn9 (List.mem_append_right _ z)), z3⟩
      · refine List.nodup_append.mpr ⟨b6, nd9, fun a ha b hb' z => ?_⟩
        obtain ⟨kd, hkd⟩ := b5.dsm a ha
        have := fr b hb'
        rw [← z, b3 _ _ hkd] at this
        cases this
      · intro a ha
        rcases List.mem_append.mp ha with z | z
        · exact b7 a z
        · exact eH7.none (fr a z)
      · rw [names_snoc, b8, htk]
      · rw [hgt_snoc]
        omega
      · rw [cnt_snoc, b11, htk, List.map_append, List.sum_append, List.map_singleton, List.sum_singleton, szN_of hlook, hc9]
      · intro n' hn'
        rw [htk] at hn'
        rcases List.mem_append.mp hn' with z | z
        · obtain ⟨e2, k1, k2, x1, x2, x3⟩ := b12 n' z
          refine ⟨e2, k1, k2, x1, ?_, x3⟩
          rw [look_snoc hnF, if_neg (fun y => hnF (by rw [b8, y]; exact z))]
          exact x2
        · rw [List.mem_singleton.mp z]
          refine ⟨e', k', k9, hlook, ?_, eq9⟩
          rw [look_snoc hnF, if_pos rfl]
    · rintro σ H6 ⟨⟨v, rfl⟩, hb, kvs, F, ds', b1, b2, b3, b4, b5, b6, b7, b8, b9, b10, b11, b12⟩
      rw [List.length_map, List.take_length] at b8 b11 b12
      have e5b : Ex (dele d H5) H6 := ext b1 b3
      have hx6 : H6 x = some (.ins A.Folder dxx (enFs true d maa e.owner e.group)) := e5b _ _ (by rw [dele_ne hxd]; exact hx5)
      have hma6 : ModeAt A H6 maa e.mode := by
        obtain ⟨z1, z2, z3, z4⟩ := hma4.ex e5
        exact ⟨z1, z2, z3, e5b _ _ (by rw [dele_ne (ne_of z4 hd5 (by intro z; cases z))]; exact z4)⟩
      have hdn : d ∉ ds' := fun z => by
        obtain ⟨kd, hkd⟩ := b5.dsm d z
        rw [b2] at hkd
        cases hkd
      refine ⟨_, rfl, q H6 x F (d :: ds') (ext eH5 e5b) hxH ⟨kvs, [d], ds', .inl ⟨hd, dxx, d, maa, hx6, b4, hma6, rfl⟩, b5.ex b3, rfl⟩ ⟨ok.eo, b9, fun z => absurd (hd.symm.trans z) (by decide)⟩ (eqv_of perm b8 b12) b10 ?_ (List.nodup_cons.mpr ⟨hdn, b6⟩) ?_⟩
      · rw [b11, perm_sum (perm.map (szN k)), cnt_sum ok.w]
      · intro a ha
        rcases List.mem_cons.mp ha with z | z
        · rw [z]
          exact hdH
        · exact b7 a z
theorem fn_copied (T : Tx K mg w A) (S : Sx P K mg A) : ∀ n, ∀ f fd, Fun K "copied" "copied" S_copied f fd → Fn P w K mg base f (n + 9) (spCopied A n)
  | 0 => fn_copied_step T S 0 fun m h => by omega
  | n + 1 => fn_copied_step T S (n + 1) fun m h => by
    cases h
    exact fn_copied T S n
end
end Md
/-! Md: an entry put at a path, in the heap. -/
namespace Md
open PySem PySem.Spec PyProof.Rows L2
section
variable {A : Ad} {H H' : Hp}
theorem enFs_inj {dir dir' : Bool} {d d' ma ma' : Addr} {o o' g g' : Str} (h : enFs dir d ma o g = enFs dir' d' ma' o' g') : dir = dir' ∧ (dir = true → d = d') := by
  cases dir <;> cases dir'
  · exact ⟨rfl, fun z => by cases z⟩
  · have := congrArg List.length h
    cases this
  · have := congrArg List.length h
    cases this
  · have := congrArg (fun l => l.head?) h
    injection this with this
    injection this with _ this
    injection this with this
    exact ⟨rfl, fun _ => this⟩
/-- a node whose object is known to be a folder's -/
theorem NodeAt.at_ins {p : Addr} {e : En} {k : Fo} {ds : List Addr} {dx d ma : Addr} {o g : Str} (h : NodeAt A H p e k ds) (hp : H p = some (.ins A.Folder dx (enFs true d ma o g))) :
    e.dir = true ∧ ∃ dx' ma' kvs dk, H p = some (.ins A.Folder dx' (enFs true d ma' e.owner e.group)) ∧ H d = some (.dK kvs) ∧ FoAt A H k kvs dk ∧ ds = d :: dk ∧ ModeAt A H ma' e.mode := by
  obtain ⟨kk, d0, dk, h1, h2, h3⟩ := h
  rcases h1 with ⟨a, dx', d', ma', x1, x2, x3, x4⟩ | ⟨a, dx', d', ma', x1, _⟩
  · have e1 := hp.symm.trans x1
    injection e1 with e1
    injection e1 with _ _ e1
    obtain ⟨_, e2⟩ := enFs_inj e1
    have e2 := e2 rfl
    subst e2
    exact ⟨a, dx', ma', kk, dk, x1, x2, h2, by rw [h3, x4]; rfl, x3⟩
  · have e1 := hp.symm.trans x1
    injection e1 with e1
    injection e1 with _ _ e1
    obtain ⟨e2, _⟩ := enFs_inj e1
    cases e2
theorem look_val : ∀ {F : Fo} {kvs : KVs} {ds : List Addr} {n : Str} {p1 : Addr}, FoAt A H F kvs ds → valV kvs (.inr n) = some (.ref p1) → ∃ e1 k1 dp, look F n = some (e1, k1) ∧ NodeAt A H p1 e1 k1 dp ∧ ∀ d ∈ dp, d ∈ ds := fun {F kvs ds n p1} h hv => by
  cases e : look F n with
  | none =>
    rw [look_no h e] at hv
    cases hv
  | some x =>
    obtain ⟨p, dp, a, b, c⟩ := look_at (e := x.1) (k := x.2) h e
    rw [hv] at a
    cases a
    exact ⟨x.1, x.2, dp, rfl, b, c⟩
/-- the dict of the node at a path is one of the node's -/
theorem pth_mem : ∀ {ns : List Str} {p p' : Addr} {e : En} {k : Fo} {ds : List Addr} {dx d ma : Addr} {o g : Str}, NodeAt A H p e k ds → PthAt A H p ns p' → H p' = some (.ins A.Folder dx (enFs true d ma o g)) → d ∈ ds
  | [], p, p', e, k, ds, dx, d, ma, o, g, h, hp, hi => by
    cases hp
    obtain ⟨_, _, _, _, _, _, _, _, h5, _⟩ := h.at_ins hi
    rw [h5]
    exact List.mem_cons_self ..
  | n :: q, p, p', e, k, ds, dx, d, ma, o, g, h, ⟨p1, ⟨dx1, d1, ma1, o1, g1, kvs1, c1, c2, c3⟩, hp⟩, hi => by
    obtain ⟨hd, _, _, kvs, dk, _, h2, h3, h5, _⟩ := h.at_ins c1
    rw [c2] at h2
    cases h2
    obtain ⟨e1, k1, dp, _, b, c⟩ := look_val h3 c3
    rw [h5]
    exact List.mem_cons_of_mem _ (c _ (pth_mem b hp hi))
theorem fo_put {d' : Addr} {kd : KVs} {df : List Addr} {n nm : Str} {q : List Str} {e2 : En} {p1 : Addr} (hd : H d' = some (.dK kd)) (x : ExB d' H H')
    (IH : ∀ (e1 : En) (k1 : Fo) (dp : List Addr), WfF k1 → NodeAt A H p1 e1 k1 dp → dp.Nodup → ∃ dp', NodeAt A H' p1 e1 (putP k1 q nm e2) dp' ∧ dp'.Nodup ∧ ∀ y ∈ dp', y ∈ dp ∨ y ∈ df) (hin : ∀ (e1 : En) (k1 : Fo) (dp : List Addr), NodeAt A H p1 e1 k1 dp → d' ∈ dp) :
    ∀ {F : Fo} {kvs : KVs} {ds : List Addr}, FoAt A H F kvs ds → WfF F → ds.Nodup → (∀ y ∈ df, y ∉ ds) → valV kvs (.inr n) = some (.ref p1) → ∃ ds', FoAt A H' (putP F (n :: q) nm e2) kvs ds' ∧ ds'.Nodup ∧ ∀ y ∈ ds', y ∈ ds ∨ y ∈ df
  | .nil, kvs, _, h, _, _, _, hv => by
    rw [h.1] at hv
    cases hv
  | .node m f l r, _, _, ⟨p, kv', kk, d0, dk, dr, h1, h2, h3, h4, h5⟩, wF, nds, nf, hv => by
    subst h1 h5
    rw [putP_node]
    rw [← List.append_assoc] at nds
    obtain ⟨n1, n2, n3⟩ := List.nodup_append.mp nds
    by_cases hm : m = n
    · rw [if_pos hm]
      subst hm
      rw [valV_pos rfl] at hv
      cases hv
      have hnode : NodeAt A H p1 f l (d0 ++ dk) := ⟨kk, d0, dk, h2, h3, rfl⟩
      obtain ⟨dp', ⟨kk', d0', dk', a1, a2, a3⟩, b, c⟩ := IH f l _ wF.2.2.2.2.1 hnode n1
      have hdin := hin f l _ hnode
      have hdr : d' ∉ dr := fun z => n3 _ hdin _ z rfl
      refine ⟨dp' ++ dr, ⟨p1, kv', kk', d0', dk', dr, rfl, a1, a2, h4.exb hd x hdr, by rw [a3, List.append_assoc]⟩, List.nodup_append.mpr ⟨b, n2, fun y hy z hz e => ?_⟩, fun y hy => ?_⟩
      · rcases c y hy with w | w
        · exact n3 _ w _ hz e
        · refine nf y w ?_
          rw [e, ← List.append_assoc]
          exact List.mem_append_right _ hz
      · rw [← List.append_assoc]
        rcases List.mem_append.mp hy with w | w
        · rcases c y w with w | w
          · exact .inl (List.mem_append_left _ w)
          · exact .inr w
        · exact .inl (List.mem_append_right _ w)
    · rw [if_neg hm]
      rw [valV_neg (inr_ne hm)] at hv
      obtain ⟨ds', a, b, c⟩ := fo_put hd x IH hin h4 wF.2.2.2.2.2 n2 (fun y hy z => nf y hy (List.mem_append_right _ (List.mem_append_right _ z))) hv
      obtain ⟨e1, k1, dp, _, hb, hc⟩ := look_val h4 hv
      have hdr : d' ∈ dr := hc _ (hin _ _ _ hb)
      have hnot : d' ∉ d0 ++ dk := fun z => n3 _ z _ hdr rfl
      refine ⟨d0 ++ (dk ++ ds'), ⟨p, kv', kk, d0, dk, ds', rfl, h2.exb hd x (fun z => hnot (List.mem_append_left _ z)), h3.exb hd x (fun z => hnot (List.mem_append_right _ z)), a, rfl⟩, ?_, fun y hy => ?_⟩
      · rw [← List.append_assoc]
        refine List.nodup_append.mpr ⟨n1, b, fun y hy z hz e => ?_⟩
        rcases c z hz with w | w
        · exact n3 _ hy _ w e
        · refine nf z w ?_
          rw [← e, ← List.append_assoc]
          exact List.mem_append_left _ hy
      · rw [← List.append_assoc] at hy ⊢
        rcases List.mem_append.mp hy with w | w
        · exact .inl (List.mem_append_left _ w)
        · rcases c y w with w | w
          · exact .inl (List.mem_append_right _ w)
          · exact .inr w
/-- the whole: p' at ns below p has got a childless e2 at nm -/
theorem put_at {d' dx' ma' pf : Addr} {o' g' : Str} {kd : KVs} {df : List Addr} {nm : Str} {e2 : En} {p' : Addr} (hp' : H p' = some (.ins A.Folder dx' (enFs true d' ma' o' g'))) (hd : H d' = some (.dK kd)) (x : ExB d' H H') (hd2 : H' d' = some (.dK (putK kd (.inr nm) (.ref pf))))
    (hpf : NodeAt A H' pf e2 .nil df) (nf : df.Nodup) (ff : ∀ y ∈ df, H y = none) :
    ∀ {ns : List Str} {p : Addr} {e : En} {k : Fo} {ds : List Addr}, NodeAt A H p e k ds → ds.Nodup → WfF k → PthAt A H p ns p' → ∃ ds', NodeAt A H' p e (putP k ns nm e2) ds' ∧ ds'.Nodup ∧ ∀ y ∈ ds', y ∈ ds ∨ y ∈ df
  | [], p, e, k, ds, h, nds, w, hp => by
    cases hp
    obtain ⟨hdir, dx, ma, kvs, dk, h1, h2, h3, h5, h6⟩ := h.at_ins hp'
    rw [hd] at h2
    cases h2
    subst h5
    obtain ⟨n1, n2⟩ := List.nodup_cons.mp nds
    have ndf : ∀ y ∈ df, y ∉ dk := fun y hy z => by
      obtain ⟨kd', hk⟩ := h3.dsm y z
      rw [ff y hy] at hk
      cases hk
    obtain ⟨ds', a, b, c⟩ := putN_at (n := nm) (h3.exb hd x n1) hpf n2 nf ndf w
    have np : p' ≠ d' := ne_of hp' hd (by intro z; cases z)
    have hm : ModeAt A H' ma e.mode := by
      obtain ⟨z1, z2, z3, z4⟩ := h6
      exact ⟨z1, z2, z3, x _ _ (ne_of z4 hd (by intro z; cases z)) z4⟩
    rw [putP_nil]
    refine ⟨d' :: ds', ⟨_, [d'], ds', .inl ⟨hdir, dx, d', ma, x _ _ np h1, hd2, hm, rfl⟩, a, rfl⟩, List.nodup_cons.mpr ⟨fun z => ?_, b⟩, fun y hy => ?_⟩
    · rcases c _ z with z | z
      · exact n1 z
      · rw [ff _ z] at hd
        cases hd
    · rcases List.mem_cons.mp hy with z | z
      · exact .inl (by rw [z]; exact List.mem_cons_self ..)
      · rcases c y z with z | z
        · exact .inl (List.mem_cons_of_mem _ z)
        · exact .inr z
  | n :: q, p, e, k, ds, h, nds, w, ⟨p1, ⟨dx1, d1, ma1, o1, g1, kvs1, c1, c2, c3⟩, hp⟩ => by
    obtain ⟨hdir, dx, ma, kvs, dk, h1, h2, h3, h5, h6⟩ := h.at_ins c1
    rw [c2] at h2
    cases h2
    subst h5
    obtain ⟨n1, n2⟩ := List.nodup_cons.mp nds
    have ndf : ∀ y ∈ df, y ∉ dk := fun y hy z => by
      obtain ⟨kd', hk⟩ := h3.dsm y z
      rw [ff y hy] at hk
      cases hk
    obtain ⟨e1, k1, dp, hl, hb, hc⟩ := look_val h3 c3
    have hdin : d' ∈ dk := hc _ (pth_mem hb hp hp')
    have nd1 : d1 ≠ d' := fun z => n1 (by rw [z]; exact hdin)
    obtain ⟨ds', a, b, c⟩ := fo_put (n := n) (nm := nm) (q := q) (e2 := e2) (p1 := p1) (df := df) hd x (fun e1' k1' dp' wk hb' hn' => put_at hp' hd x hd2 hpf nf ff hb' hn' wk hp) (fun e1' k1' dp' hb' => pth_mem hb' hp hp') h3 w n2 ndf c3
    have np : p ≠ d' := ne_of c1 hd (by intro z; cases z)
    have hm : ModeAt A H' ma e.mode := by
      obtain ⟨z1, z2, z3, z4⟩ := h6
      exact ⟨z1, z2, z3, x _ _ (ne_of z4 hd (by intro z; cases z)) z4⟩
    refine ⟨d1 :: ds', ⟨_, [d1], ds', .inl ⟨hdir, dx, d1, ma, x _ _ np h1, x _ _ nd1 c2, hm, rfl⟩, a, rfl⟩, List.nodup_cons.mpr ⟨fun z => ?_, b⟩, fun y hy => ?_⟩
    · rcases c _ z with z | z
      · exact n1 z
      · rw [ff _ z] at c2
        cases c2
    · rcases List.mem_cons.mp hy with z | z
      · exact .inl (by rw [z]; exact List.mem_cons_self ..)
      · rcases c y z with z | z
        · exact .inl (List.mem_cons_of_mem _ z)
        · exact .inr z
end
end Md
/-! Md: put, trees. -/
namespace Md
open PySem PySem.Spec PyProof.Rows L2
/-- all but what is in D is kept -/
def ExD (D : List Addr) (H H' : Hp) : Prop := ∀ a o, a ∉ D → H a = some o → H' a = some o
def spJoined : Sp := fun vs H Q _ => ∃ ns n, vs = [.str (pth ns), .str n] ∧ Nms ns ∧ Nm n ∧ ns.length ≤ 1000 ∧ ∀ H', Ex H H' → Q (.str (pth (ns ++ [n]))) H'
def spPut (A : Ad) : Sp := fun vs H Q _ => ∃ p n pe e k ds e2 d2 dx d ma o g kd, vs = [.ref p, .str n, .ref pe] ∧ Nm n ∧ NodeAt A H p e k ds ∧ NdOk e k ∧ e.dir = true ∧ hgt k ≤ 14 ∧ cnt k ≤ 50 ∧ NodeAt A H pe e2 .nil d2 ∧ NdOk e2 .nil ∧
  H p = some (.ins A.Folder dx (enFs true d ma o g)) ∧ H d = some (.dK kd) ∧
  ∀ H' pf df, ExB d H H' → H' d = some (.dK (putK kd (.inr n) (.ref pf))) → NodeAt A H' pf e2 .nil df → df.Nodup → (∀ y ∈ df, H y = none) → Q .non H'
section
variable {P : Program} {w : World} {K : PySem.W.Frag} {mg : Str → Option Value} {base : Heap} {A : Ad}
theorem str_empty_app (a : Str) : Str.empty ++ a = a := by
  apply TL.ext_tl
  rw [TL.tl_append]
  rfl
theorem fn_joined (T : Tx K mg w A) : ∀ f fd, Fun K "joined" "joined" S_joined f fd → Fn P w K mg base f 1 spJoined := by
  intro f fd F
  refine fnr_of (k := 0) F sc_joined (fun _ _ _ _ _ _ us hl => match us, hl with | [_, _], _ => rfl) (fun vs H Q E h => by obtain ⟨x, e, rfl, _⟩ := h; rfl) fun f cdv Ar outer s H vs Q E c h => ?_
  have hr := c.room
  have nd := sc_joined.nd
  obtain ⟨ns, n, rfl, hns, hn, hl, q⟩ := h
  refine ⟨_, (pss_one (ps_ret (pe_ifExp (pt_cmpR op_eq (pv 0) pe_str (nomark _)) (pv 1) (pe_joined (PJ.cons (pe_fmt (pv 0)) (PJ.cons pe_str (PJ.cons (pe_fmt (pv 1)) PJ.nil))))))), ?_⟩
  refine ⟨_, rfl, rfl, _, rfl, ?_⟩
  rw [pth_eq_nil hns]
  by_cases e : ns = []
  · subst e
    exact iteT ⟨_, rfl, q _ (exr _)⟩
  · rw [decide_eq_false e]
    have h1 := pth_len hns
    have h2 := hn.2.1
    have h3 : ("/" : Str).length = 1 := by decide +kernel
    have h0 : Str.empty.length = 0 := rfl
    refine iteF ⟨_, rfl, .inl ⟨_, rfl, zl (by omega), _, rfl, zl (by rw [str_empty_app]; omega), _, rfl, zl (by rw [str_empty_app, slen_app]; omega), _, rfl, .inl ⟨_, rfl, zl (by omega), _, rfl, zl (by rw [str_empty_app, slen_app, slen_app]; omega), ?_⟩⟩⟩
    have q' := q _ (exr _)
    rw [pth_snoc n e] at q'
    show Q (.str (Str.empty ++ pth ns ++ "/" ++ n)) H
    rw [str_empty_app]
    exact q'
theorem fn_put (T : Tx K mg w A) (S : Sx P K mg A) : ∀ f fd, Fun K "put" "Holder.put" S_Holder_put f fd → Fn P w K mg base f 22 (spPut A) := by
  intro f fd F
  refine fnr_of (k := 21) F sc_Holder_put (fun _ _ _ _ _ _ us hl => match us, hl with | [_, _, _], _ => rfl) (fun vs H Q E h => by obtain ⟨x, n, pe, _, _, _, _, _, _, _, _, _, _, _, rfl, _⟩ := h; rfl) fun f cdv Ar outer s H vs Q E c h => ?_
  have hr := c.room
  have nd := sc_Holder_put.nd
  obtain ⟨p, n, pe, e, k, ds, e2, d2, dx, d, ma, o, g, kd, rfl, hn, hnode, ok, hdir, hh, hc, hpe, ok2, hp, hd, q⟩ := h
  obtain ⟨_, dx', ma', kvs, dk, x1, x2, x3, x4, x5⟩ := hnode.at_ins hp
  rw [hd] at x2
  cases x2
  refine ⟨_, (pss_cons (ps_if (pt_not (pt_val (pe_fn c (by rfl) (pa_cons (pv 1) pa_nil)))) (pss_one ps_never) pss_nil)
 (pss_cons (ps_set (i := 3) nd rfl (Or.inl rfl) (pe_fn c (by rfl) (pa_cons (pv 2) pa_nil)))
 (pss_cons (ps_set (i := 4) nd rfl (Or.inl rfl) (pe_op op_sub (pe_fn c (by rfl) (pa_cons (pv 0) pa_nil)) (pe_ifExp (pt_cmp (pc_din (hu_of hr) (pv 1) (pe_at c (pv 0)))) (pe_fn c (by rfl) (pa_cons (pe_dget (hu_of hr) (pe_at c (pv 0)) (pv 1) (fun _ _ => rfl)) pa_nil)) pe_int)))
 (pss_cons (ps_if (pt_cmpR op_gt (pe_op op_add (pv 4) (pe_fn c (by rfl) (pa_cons (pv 3) pa_nil))) (pe_gc (by rfl) T.k_MOST_ENTRIES) (nomark _)) (pss_one ps_never) pss_nil)
 (pss_one (ps_dput (hu_of hr) (pe_at c (pv 0)) (pv 1) (pv 3) rfl)))))), ?_⟩
  refine ⟨_, cal_of T.f_is_name (fn_is_name T), _, rfl, n, rfl, hn, fun H1 e1 => ⟨_, rfl, iteF ?_⟩⟩
  refine ⟨_, cal_of T.f_copied (fn_copied T S 0), _, rfl, pe, e2, .nil, d2, rfl, hpe.ex e1, ok2, Nat.le_refl _, by decide, fun H2 pf k2 df ex2 hpf hnf okf eqf hhf hcf ndf frf => ?_⟩
  have hk2 : k2 = .nil := by
    cases k2 with
    | nil => rfl
    | node a b c' d' =>
      have : cnt (.node a b c' d') = 0 := hcf
      have h1 : 1 + cnt c' + cnt d' = 0 := this
      omega
  subst hk2
  have e12 := ext e1 ex2
  refine ⟨_, cal_of T.f_size_of (fn_size_of T 14), _, rfl, p, e, k, ds, rfl, hnode.ex e12, ok, hh, by omega, fun H3 e3 => ?_⟩
  have e13 := ext e12 e3
  -- the rest, once the old one's size is told
  have rest : ∀ (H4 : Hp) (z : Nat), Ex H3 H4 → z ≤ cnt k →
      (fun (t : TS) (v : Int) => t { nx := fun _ H' => Q .non H', rt := Q } [some (.ref p), some (.str n), some (.ref pe), some (.ref pf), some (.int v)] H4) (tSeq (tIfS (tTest (tOp (rI0 fun i j => .bl (decide (j < i))) (tOp (rI0 fun i j => .int (i + j)) (tVar 4) (tFn K mg (Fn P w K mg base) 21 "size_of" (tCons (tVar 3) tNil))) (tC (.int 60)))) tNever tNext) (sDPut (tAt K (Fn P w K mg base) 21 "below" (tVar 0)) (tVar 1) (tVar 3))) (((1 + cnt k : Nat) : Int) - (z : Int)) := by
    intro H4 z e4 hz
    have e14 := ext e13 e4
    refine ⟨_, rfl, _, cal_of T.f_size_of (fn_size_of T 14), _, rfl, pf, e2, .nil, df, rfl, (hnf.ex (ext e3 e4)), ok2, Nat.zero_le _, by decide, fun H5 e5 => ⟨_, _, rfl, rfl, _, _, rfl, rfl, _, rfl, ?_⟩⟩
    have hc0 : cnt Fo.nil = 0 := rfl
    rw [decide_eq_false (by rw [hc0]; omega)]
    have e15 := ext e14 e5
    have hkl : kd.length ≤ 60 := by
      have h3 := congrArg List.length (keys_at x3)
      rw [List.length_map, List.length_map] at h3
      have := cnt_names k
      omega
    refine iteF ⟨_, rfl, _, rfl, p, _, dx', _, rfl, e15 _ _ x1, .inl ⟨_, T.o_Folder.cl, T.n_Folder_below, rfl, _, rfl, d, _, rfl, DPut.k (k := .inr n) (e15 _ _ hd) (zt (by omega)), ?_⟩⟩
    have hdn : d ∉ df := fun w => by
      have := e1.none (frf d w)
      rw [hd] at this
      cases this
    have hb : ExB d H5 (upd H5 d (.dK (putK kd (.inr n) (.ref pf)))) := ExB.upd (exr H5).b
    refine q _ pf df (e15.b.trans hb) upd_same ?_ ndf (fun y hy => e1.none (frf y hy))
    obtain ⟨kk, d0, dk', z1, z2, z3⟩ := hnf.ex (ext e3 (ext e4 e5))
    rw [z3] at hdn
    exact ⟨kk, d0, dk', z1.exb (e15 _ _ hd) hb (fun w => hdn (List.mem_append_left _ w)), z2.exb (e15 _ _ hd) hb (fun w => hdn (List.mem_append_right _ w)), z3⟩
  refine ⟨_, rfl, _, rfl, p, _, dx', _, rfl, e13 _ _ x1, .inl ⟨_, T.o_Folder.cl, T.n_Folder_below, rfl, d, _, rfl, DGet.k (k := .inr n) (e13 _ _ hd), _, rfl, ?_⟩⟩
  rw [look_is x3 n]
  cases hlk : look k n with
  | none =>
    refine iteF ⟨_, _, rfl, rfl, ?_⟩
    exact rest H3 0 (exr _) (Nat.zero_le _)
  | some y =>
    obtain ⟨e', k'⟩ := y
    have h1 := look_hgt hlk
    have h2 := look_cnt hlk
    obtain ⟨_, w1, w2, w3⟩ := look_wf ok.w hlk
    obtain ⟨pc, dc, hv, hcn, _⟩ := look_at (x3.ex e13) hlk
    refine iteT ⟨_, cal_of T.f_size_of (fn_size_of T 14), _, rfl, p, _, dx', _, rfl, e13 _ _ x1, .inl ⟨_, T.o_Folder.cl, T.n_Folder_below, rfl, _, rfl, d, _, rfl, hv ▸ DGet.k (k := .inr n) (e13 _ _ hd), pc, e', k', dc, rfl, hcn, ⟨w1, w3, w2⟩, by omega, by omega, fun H4 e4 => ⟨_, _, rfl, rfl, ?_⟩⟩⟩
    exact rest H4 (1 + cnt k') e4 (by omega)
end
end Md
/-! Md: trees. -/
namespace Md
open PySem PySem.Spec PyProof.Rows L2
section
variable {A : Ad} {H H' : Hp}
theorem enFs_ne {dir : Bool} {d ma : Addr} {o g : Str} : enFs dir d ma o g ≠ [] := by cases dir <;> intro z <;> cases z
theorem ins_ne {x b C C' dx dx' : Addr} {fs : List (Str × V)} (hx : H x = some (.ins C dx [])) (hb : H b = some (.ins C' dx' fs)) (h : fs ≠ []) : b ≠ x := fun z => by
  rw [z, hx] at hb
  injection hb with hb
  injection hb with _ _ hb
  exact h hb.symm
/-- a node is told but by what does not stand at a bare instance -/
theorem EnAt.exi {x C dx : Addr} (hx : H x = some (.ins C dx [])) (b : ExB x H H') {p : Addr} {e : En} {kvs : KVs} {d0 : List Addr} (h : EnAt A H p e kvs d0) : EnAt A H' p e kvs d0 := by
  have nm : ∀ {ma : Addr} {m : Int}, ModeAt A H ma m → ModeAt A H' ma m := fun {ma m} ⟨a, c, dx, q⟩ => ⟨a, c, dx, b _ _ (ins_ne hx q (by simp)) q⟩
  rcases h with ⟨a, dx, d', ma, h1, h2, h3, h4⟩ | ⟨a, dx, d', ma, h1, h2, h3, h4⟩
  · exact .inl ⟨a, dx, d', ma, b _ _ (ins_ne hx h1 enFs_ne) h1, b _ _ (ne_of h2 hx (by intro z; cases z)) h2, nm h3, h4⟩
  · exact .inr ⟨a, dx, d', ma, b _ _ (ins_ne hx h1 enFs_ne) h1, nm h2, h3, h4⟩
theorem FoAt.exi {x C dx : Addr} (hx : H x = some (.ins C dx [])) (b : ExB x H H') : ∀ {F : Fo} {kvs : KVs} {ds : List Addr}, FoAt A H F kvs ds → FoAt A H' F kvs ds
  | .nil, _, _, h => h
  | .node _ _ _ _, _, _, ⟨p, kv', kk, d0, dk, dr, h1, h2, h3, h4, h5⟩ => ⟨p, kv', kk, d0, dk, dr, h1, h2.exi hx b, FoAt.exi hx b h3, FoAt.exi hx b h4, h5⟩
theorem NodeAt.exi {x C dx : Addr} (hx : H x = some (.ins C dx [])) (b : ExB x H H') {p : Addr} {e : En} {k : Fo} {ds : List Addr} (h : NodeAt A H p e k ds) : NodeAt A H' p e k ds := by
  obtain ⟨kk, d0, dk, h1, h2, h3⟩ := h
  exact ⟨kk, d0, dk, h1.exi hx b, h2.exi hx b, h3⟩
end
structure TrOk (e : En) (k : Fo) (ds : List Addr) : Prop where
  ok : NdOk e k
  dir : e.dir = true
  nd : ds.Nodup
  hg : hgt k ≤ 14
  ct : cnt k ≤ 50
def TreeAt (A : Ad) (H : Hp) (t p : Addr) (e : En) (k : Fo) (ds : List Addr) : Prop := (∃ dx, H t = some (.ins A.Tree dx [("top", .ref p)])) ∧ NodeAt A H p e k ds ∧ TrOk e k ds
theorem TreeAt.ex {A : Ad} {H H' : Hp} {t p : Addr} {e : En} {k : Fo} {ds : List Addr} (x : Ex H H') (h : TreeAt A H t p e k ds) : TreeAt A H' t p e k ds := ⟨h.1.imp fun dx q => x _ _ q, h.2.1.ex x, h.2.2⟩
def spTreeInit (A : Ad) : Sp := fun vs H Q _ => ∃ x dx p e k ds, vs = [.ref x, .ref p] ∧ H x = some (.ins A.Tree dx []) ∧ NodeAt A H p e k ds ∧ NdOk e k ∧ e.dir = true ∧ hgt k ≤ 14 ∧ cnt k ≤ 50 ∧
  ∀ H' p' k' ds', ExB x H H' → H' x = some (.ins A.Tree dx [("top", .ref p')]) → NodeAt A H' p' e k' ds' → TrOk e k' ds' → Eqv k k' → cnt k' = cnt k → hgt k' ≤ hgt k → (∀ d ∈ ds', H d = none) → Q .non H'
def spTreeEntry (A : Ad) : Sp := fun vs H Q _ => ∃ t ns p e k ds e' k', vs = [.ref t, .str (pth ns)] ∧ Nms ns ∧ ns.length ≤ 1000 ∧ TreeAt A H t p e k ds ∧ subF (e, k) ns = some (e', k') ∧ ∀ H' p' dp, Ex H H' → NodeAt A H' p' e' k' dp → (∀ d ∈ dp, d ∈ ds) → Q (.ref p') H'
def spTreePut (A : Ad) : Sp := fun vs H Q _ => ∃ t ns n pe p e k ds e' k' e2 d2, vs = [.ref t, .str (pth (ns ++ [n])), .ref pe] ∧ Nms ns ∧ Nm n ∧ ns.length ≤ 900 ∧ TreeAt A H t p e k ds ∧ subF (e, k) ns = some (e', k') ∧ e'.dir = true ∧ NodeAt A H pe e2 .nil d2 ∧ NdOk e2 .nil ∧
  ∀ H' ds', ExD ds H H' → NodeAt A H' p e (putP k ns n e2) ds' → ds'.Nodup → (∀ y ∈ ds', y ∈ ds ∨ H y = none) → Q .non H'
def spTreeCopy (A : Ad) : Sp := fun vs H Q _ => ∃ t p e k ds, vs = [.ref t] ∧ TreeAt A H t p e k ds ∧ ∀ H' t' p' k' ds', Ex H H' → TreeAt A H' t' p' e k' ds' → Eqv k k' → cnt k' = cnt k → hgt k' ≤ hgt k → (∀ d ∈ ds', H d = none) → Q (.ref t') H'
section
variable {P : Program} {w : World} {K : PySem.W.Frag} {mg : Str → Option Value} {base : Heap} {A : Ad}
theorem fn_Tree_init (T : Tx K mg w A) (S : Sx P K mg A) : ∀ f fd, Fun K "__init__" "Tree.__init__" S_Tree_DinitD f fd → Fn P w K mg base f 24 (spTreeInit A) := by
  intro f fd F
  refine fnr_of (k := 23) F sc_Tree_DinitD (fun _ _ _ _ _ _ us hl => match us, hl with | [_, _], _ => rfl) (fun vs H Q E h => by obtain ⟨x, n, pe, _, _, _, rfl, _⟩ := h; rfl) fun f cdv Ar outer s H vs Q E c h => ?_
  have hr := c.room
  have nd := sc_Tree_DinitD.nd
  obtain ⟨x, dx, p, e, k, ds, rfl, hx, hn, ok, hdir, hh, hc, q⟩ := h
  refine ⟨_, (pss_cons (ps_if (pt_cmpR op_gt (pe_fn c (by rfl) (pa_cons (pv 1) pa_nil)) (pe_gc (by rfl) T.k_MOST_ENTRIES) (nomark _)) (pss_one ps_never) pss_nil)
 (pss_one (ps_fld (pv 0) (pe_fn c (by rfl) (pa_cons (pv 1) pa_nil)) rfl))), ?_⟩
  refine ⟨_, cal_of T.f_size_of (fn_size_of T 14), _, rfl, p, e, k, ds, rfl, hn, ok, hh, by omega, fun H1 e1 => ⟨_, _, rfl, rfl, _, rfl, ?_⟩⟩
  rw [decide_eq_false (by omega)]
  refine iteF ⟨_, cal_of T.f_copied (fn_copied T S 14), _, rfl, p, e, k, ds, rfl, hn.ex e1, ok, hh, by omega, fun H2 p' k' ds' e2 hp' hn' ok' eq' hh' hc' nd' fr' => ?_⟩
  have e12 := ext e1 e2
  have hx2 := e12 _ _ hx
  have b : ExB x H2 (upd H2 x (.ins A.Tree dx [("top", .ref p')])) := ExB.upd (exr H2).b
  refine ⟨_, rfl, x, _, dx, _, rfl, hx2, T.o_Tree.cl, T.n_Tree_top, by show 0 < 1000; decide, ?_⟩
  exact q _ p' k' ds' (e12.b.trans b) upd_same (hn'.exi hx2 b) ⟨ok', hdir, nd', by omega, by omega⟩ eq' hc' hh' (fun d hd => e1.none (fr' d hd))
theorem fn_Tree_entry (T : Tx K mg w A) : ∀ f fd, Fun K "entry" "Tree.entry" S_Tree_entry f fd → Fn P w K mg base f 8 (spTreeEntry A) := by
  intro f fd F
  refine fnr_of (k := 7) F sc_Tree_entry (fun _ _ _ _ _ _ us hl => match us, hl with | [_, _], _ => rfl) (fun vs H Q E h => by obtain ⟨x, n, pe, _, _, _, _, _, rfl, _⟩ := h; rfl) fun f cdv Ar outer s H vs Q E c h => ?_
  have hr := c.room
  have nd := sc_Tree_entry.nd
  obtain ⟨t, ns, p, e, k, ds, e', k', rfl, hns, hl, ⟨⟨dx, ht⟩, hn, ok⟩, hsub, q⟩ := h
  refine ⟨_, (pss_cons (ps_if (pt_not (pt_val (pe_fn c (by rfl) (pa_cons (pv 1) pa_nil)))) (pss_one ps_never) pss_nil)
 (pss_cons (ps_set (i := 2) nd rfl (Or.inl rfl) (pe_fn c (by rfl) (pa_cons (pe_at c (pv 0)) (pa_cons (pe_fn c (by rfl) (pa_cons (pv 1) pa_nil)) pa_nil))))
 (pss_cons (ps_if (pt_cmpR op_isN (pv 2) pe_non (nomark _)) (pss_one ps_never) pss_nil)
 (pss_one (ps_ret (pv 2)))))), ?_⟩
  refine ⟨_, cal_of T.f_is_path (fn_is_path T), _, rfl, ns, rfl, hns, hl, fun H1 e1 => ⟨_, rfl, iteF ?_⟩⟩
  refine ⟨_, cal_of T.f_found_below (fn_found_below T), _, rfl, t, _, dx, _, rfl, e1 _ _ ht, .inl ⟨_, T.o_Tree.cl, T.n_Tree_top, rfl, _, cal_of T.f_names_of (fn_names_of T), _, rfl, ns, rfl, hns, hl, fun u H2 e2 hu hu2 => ?_⟩⟩
  have e12 := ext e1 e2
  refine ⟨p, u, ns, e, k, ds, e', k', rfl, .inl hu2, hn.ex e12, ok.ok, hsub, fun H3 p' dp e3 _ hn' hsd => ?_⟩
  refine ⟨_, rfl, rfl, _, rfl, ?_⟩
  exact iteF ⟨_, rfl, q H3 p' dp (ext e12 e3) hn' hsd⟩
theorem fn_Tree_put (T : Tx K mg w A) (S : Sx P K mg A) : ∀ f fd, Fun K "put" "Tree.put" S_Tree_put f fd → Fn P w K mg base f 23 (spTreePut A) := by
  intro f fd F
  refine fnr_of (k := 22) F sc_Tree_put (fun _ _ _ _ _ _ us hl => match us, hl with | [_, _, _], _ => rfl) (fun vs H Q E h => by obtain ⟨x, n, _, pe, _, _, _, _, _, _, _, _, rfl, _⟩ := h; rfl) fun f cdv Ar outer s H vs Q E c h => ?_
  have hr := c.room
  have nd := sc_Tree_put.nd
  obtain ⟨t, ns, n, pe, p, e, k, ds, e', k', e2, d2, rfl, hns, hn, hl, ⟨⟨dx, ht⟩, hnode, ok⟩, hsub, hdir', hpe, ok2, q⟩ := h
  have hns' : Nms (ns ++ [n]) := hns.snoc hn
  have hl' : (ns ++ [n]).length ≤ 1000 := by rw [List.length_append]; have : [n].length = 1 := rfl; omega
  refine ⟨_, (pss_cons (ps_if (PW.pt (pw_or (pt_not (pt_val (pe_fn c (by rfl) (pa_cons (pv 1) pa_nil)))) (pw_or1 (pt_cmpR op_eq (pv 1) pe_str (nomark _))))) (pss_one ps_never) pss_nil)
 (pss_cons (ps_asg (pe_fn c (by rfl) (pa_cons (pv 1) pa_nil)) (pg_star0 c rfl (pgs_cons (pg_name (i := 3) nd rfl (Or.inl rfl)) (pgs_cons (pg_name (i := 4) nd rfl (Or.inl rfl)) pgs_nil))))
 (pss_cons (ps_set (i := 5) nd rfl (Or.inl rfl) (pe_fn c (by rfl) (pa_cons (pe_at c (pv 0)) (pa_cons (pv 3) pa_nil))))
 (pss_cons (ps_if (pt_not (pt_val (pe_callB (isi_C c) (by rfl) T.b_isinstance (by decide +kernel) (pa_cons (pv 5) (pa_cons (pe_gc (by rfl) T.k_Holder) pa_nil))))) (pss_one ps_never) pss_nil)
 (pss_cons (ps_set (i := 6) nd rfl (Or.inl rfl) (pe_op op_sub (pe_fn c (by rfl) (pa_cons (pe_at c (pv 0)) pa_nil)) (pe_ifExp (pt_cmpR (op_inO c) (pv 4) (pv 5) (by rfl)) (pe_fn c (by rfl) (pa_cons (pe_ixO c (pv 5) (pv 4)) pa_nil)) pe_int)))
 (pss_cons (ps_if (pt_cmpR op_gt (pe_op op_add (pv 6) (pe_fn c (by rfl) (pa_cons (pv 2) pa_nil))) (pe_gc (by rfl) T.k_MOST_ENTRIES) (nomark _)) (pss_one ps_never) pss_nil)
 (pss_one (ps_expr (pe_mt c (pv 5) (pa_cons (pv 4) (pa_cons (pv 2) pa_nil))))))))))), ?_⟩
  refine ⟨_, cal_of T.f_is_path (fn_is_path T), _, rfl, ns ++ [n], rfl, hns', hl', fun H1 e1 => ⟨_, rfl, ?_⟩⟩
  refine iteF ⟨_, rfl, rfl, _, rfl, ?_⟩
  rw [pth_eq_nil hns', decide_eq_false (by simp)]
  refine iteF ⟨_, cal_of T.f_names_of (fn_names_of T), _, rfl, ns ++ [n], rfl, hns', hl', fun u H2 ex2 hu hu2 => ?_⟩
  refine ⟨u, ns.map V.str, .str n, rfl, SqT.of (by rw [hu2, List.map_append]; rfl), by rw [List.length_map]; omega, fun D hD => ⟨_, _, rfl, _, _, rfl, rfl, ?_⟩⟩
  have e13 : Ex H (upd H2 D (.lst (ns.map V.str))) := ext (ext e1 ex2) (exn hD)
  have hD3 : upd H2 D (.lst (ns.map V.str)) D = some (.lst (ns.map V.str)) := upd_same
  show tSeq _ _ _ _ (upd H2 D (.lst (ns.map V.str)))
  generalize upd H2 D (.lst (ns.map V.str)) = H3 at e13 hD3 ⊢
  refine ⟨_, cal_of T.f_found_below (fn_found_below T), _, rfl, t, _, dx, _, rfl, e13 _ _ ht, .inl ⟨_, T.o_Tree.cl, T.n_Tree_top, rfl, _, rfl, p, D, ns, e, k, ds, e', k', rfl, .inr hD3, hnode.ex e13, ok.ok, hsub, fun H4 p' dp e4 hpth hn' hsd => ?_⟩⟩
  have e14 := ext e13 e4
  have ok' : NdOk e' k' := subF_ok ok.ok hsub
  obtain ⟨dx', d', ma', kd, dk, y1, y2, y3, y4, y5⟩ := id (hn'.dirp hdir')
  have hbd : ∀ {ns : List Str} {e e' : En} {k k' : Fo}, subF (e, k) ns = some (e', k') → hgt k' ≤ hgt k ∧ cnt k' ≤ cnt k := by
    intro ns
    induction ns with
    | nil => intro e e' k k' h; cases h; exact ⟨Nat.le_refl _, Nat.le_refl _⟩
    | cons m r ih =>
      intro e e' k k' h
      unfold subF at h
      cases z : look k m with
      | none => rw [show look (e, k).2 m = none from z] at h; cases h
      | some y =>
        rw [show look (e, k).2 m = some y from z] at h
        have h1 := look_hgt (e := y.1) (k := y.2) z
        have h2 := look_cnt (e := y.1) (k := y.2) z
        obtain ⟨h3, h4⟩ := ih (e := y.1) (k := y.2) h
        omega
  obtain ⟨hb1, hb2⟩ := hbd hsub
  have okh := ok.hg
  have okc := ok.ct
  refine ⟨_, rfl, _, _, _, _, true, rfl, .own _, T.o_Folder.ty T.ob y1, T.t_Folder_Holder, _, rfl, iteF ?_⟩
  refine ⟨_, cal_of T.f_size_of (fn_size_of T 14), _, rfl, t, _, dx, _, rfl, e14 _ _ ht, .inl ⟨_, T.o_Tree.cl, T.n_Tree_top, rfl, p, e, k, ds, rfl, hnode.ex e14, ok.ok, okh, by omega, fun H5 e5 => ?_⟩⟩
  have e15 := ext e14 e5
  refine ⟨_, rfl, _, rfl, p', _, dx', _, _, rfl, e5 _ _ y1, scal_of T.s_Folder_contains (fn_contains T), p', n, e', k', dp, rfl, hdir', hn'.ex e5, fun H6 e6 => ⟨_, rfl, _, rfl, ?_⟩⟩
  have e56 := ext e5 e6
  have rest : ∀ (H7 : Hp) (z : Nat), Ex H6 H7 → z ≤ cnt k →
      (fun (t' : TS) (v : Int) => t' { nx := fun _ H' => Q .non H', rt := Q } [some (.ref t), some (.str (pth (ns ++ [n]))), some (.ref pe), some (.ref D), some (.str n), some (.ref p'), some (.int v)] H7) (tSeq (tIfS (tTest (tOp (rI0 fun i j => .bl (decide (j < i))) (tOp (rI0 fun i j => .int (i + j)) (tVar 6) (tFn K mg (Fn P w K mg base) 22 "size_of" (tCons (tVar 2) tNil))) (tC (.int 60)))) tNever tNext) (tDrop (tMt K (Fn P w K mg base) 22 "put" (tVar 5) (tCons (tVar 4) (tCons (tVar 2) tNil))))) (((1 + cnt k : Nat) : Int) - (z : Int)) := by
    intro H7 z e7 hz
    have e17 := ext e14 (ext e56 e7)
    refine ⟨_, rfl, _, cal_of T.f_size_of (fn_size_of T 14), _, rfl, pe, e2, .nil, d2, rfl, (hpe.ex e17), ok2, Nat.zero_le _, by decide, fun H8 e8 => ⟨_, _, rfl, rfl, _, _, rfl, rfl, _, rfl, ?_⟩⟩
    have hc0 : cnt Fo.nil = 0 := rfl
    rw [decide_eq_false (by rw [hc0]; omega)]
    have e18 := ext e17 e8
    have e48 := ext e56 (ext e7 e8)
    refine iteF ⟨_, rfl, p', _, dx', _, _, rfl, e48 _ _ y1, mcal_of T.m_Folder_put T.o_Folder.cl (fn_put T S), rfl, _, rfl, _, rfl, p', n, pe, e', k', dp, e2, d2, dx', d', ma', e'.owner, e'.group, kd, rfl, hn, hn'.ex e48, ok', hdir', by omega, by omega, hpe.ex e18, ok2, e48 _ _ y1, e48 _ _ y2, fun H9 pf df b9 hd9 hnf ndf frf => ?_⟩
    obtain ⟨ds', z1, z2, z3⟩ := put_at (nm := n) (e48 _ _ y1) (e48 _ _ y2) b9 hd9 hnf ndf frf (hnode.ex e18) ok.nd ok.ok.w (hpth.ex e48)
    have hdin : d' ∈ ds := hsd _ (by rw [y4]; exact List.mem_cons_self ..)
    exact q H9 ds' (fun a o ha hao => b9 _ _ (fun z => ha (by rw [z]; exact hdin)) (e18 _ _ hao)) z1 z2 (fun y hy => (z3 y hy).imp id fun w' => e18.none (frf y w'))
  cases hlk : look k' n with
  | none =>
    refine iteF ⟨_, _, rfl, rfl, ?_⟩
    exact rest H6 0 (exr _) (Nat.zero_le _)
  | some y =>
    obtain ⟨e3, k3⟩ := y
    have h1 := look_hgt hlk
    have h2 := look_cnt hlk
    obtain ⟨_, w1, w2, w3⟩ := look_wf ok'.w hlk
    refine iteT ⟨_, cal_of T.f_size_of (fn_size_of T 14), _, rfl, _, rfl, p', _, dx', _, _, rfl, e56 _ _ y1, scal_of T.s_Folder_getitem (fn_getitem T), p', n, e', k', dp, e3, k3, rfl, hdir', hn'.ex e56, hlk, fun H7 pc dc e7 _ hnc _ => ?_⟩
    refine ⟨pc, e3, k3, dc, rfl, hnc, ⟨w1, w3, w2⟩, by omega, by omega, fun H8 e8 => ⟨_, _, rfl, rfl, ?_⟩⟩
    exact rest H8 (1 + cnt k3) (ext e7 e8) (by omega)
theorem fn_Tree_copy (T : Tx K mg w A) (S : Sx P K mg A) : ∀ f fd, Fun K "copy" "Tree.copy" S_Tree_copy f fd → Fn P w K mg base f 26 (spTreeCopy A) := by
  intro f fd F
  refine fnr_of (k := 25) F sc_Tree_copy (fun _ _ _ _ _ _ us hl => match us, hl with | [_], _ => rfl) (fun vs H Q E h => by obtain ⟨x, n, pe, _, _, rfl, _⟩ := h; rfl) fun f cdv Ar outer s H vs Q E c h => ?_
  have hr := c.room
  have nd := sc_Tree_copy.nd
  obtain ⟨t, p, e, k, ds, rfl, ⟨⟨dx, ht⟩, hn, ok⟩, q⟩ := h
  refine ⟨_, (pss_one (ps_ret (pe_mk c (by rfl) (pa_cons (pe_at c (pv 0)) pa_nil)))), ?_⟩
  refine ⟨_, _, ccal_of T.i_Tree T.k_Tree (fn_Tree_init T S), _, rfl, t, _, dx, _, rfl, ht, .inl ⟨_, T.o_Tree.cl, T.n_Tree_top, rfl, fun x dy hx hdy _ => ?_⟩⟩
  refine ⟨x, dy, p, e, k, ds, rfl, upd_same, hn.ex (ex_made hx hdy), ok.ok, ok.dir, ok.hg, ok.ct, fun H' p' k' ds' b hx' hn' ok' eq' hc' hh' fr' => ⟨rfl, ?_⟩⟩
  exact q H' x p' k' ds' (ExB.made hx hdy b) ⟨⟨dy, hx'⟩, hn', ok'⟩ eq' hc' hh' (fun d hd => (ex_made hx hdy).none (fr' d hd))
end
end Md
/-! Md: commands. -/
namespace Md
open PySem PySem.Spec PyProof.Rows L2
structure Cmd where
  user : Us
  ch : List Cl
  first : Bool
  kinds : Str
  start : List Str
def ordS (c : Cmd) : Str := if c.first then "first" else "last"
def kindM : List Str := ["all", "folders", "files"]
structure CmdOk (c : Cmd) : Prop where
  kn : c.kinds ∈ kindM
  st : Nms c.start
  le : c.start.length ≤ 3
def cmdTup (c : Cmd) (ua ca : Addr) : List V := [.ref ua, .ref ca, .str (ordS c), .str c.kinds, .str (pth c.start)]
def CmdAt (A : Ad) (H : Hp) (a : Addr) (c : Cmd) : Prop := CmdOk c ∧ ∃ dx t ua ca, H a = some (.ins A.Command dx [("facts", .ref t)]) ∧ H t = some (.tup (cmdTup c ua ca)) ∧ UserAt A H ua c.user ∧ ChangeAt A H ca c.ch
theorem CmdAt.ex {A : Ad} {H H' : Hp} {a : Addr} {c : Cmd} (e : Ex H H') (h : CmdAt A H a c) : CmdAt A H' a c := by
  obtain ⟨ok, dx, t, ua, ca, h1, h2, h3, h4⟩ := h
  exact ⟨ok, dx, t, ua, ca, e _ _ h1, e _ _ h2, h3.ex e, h4.ex e⟩
def CmdsAt (A : Ad) (H : Hp) (rs : List V) (cs : List Cmd) : Prop := rs.length = cs.length ∧ ∀ (j : Nat) (c : Cmd), cs[j]? = some c → ∃ b, rs[j]? = some (V.ref b) ∧ CmdAt A H b c
theorem CmdsAt.ex {A : Ad} {H H' : Hp} {rs : List V} {cs : List Cmd} (e : Ex H H') (h : CmdsAt A H rs cs) : CmdsAt A H' rs cs :=
  ⟨h.1, fun j c hj => let ⟨b, h1, h2⟩ := h.2 j c hj; ⟨b, h1, h2.ex e⟩⟩
def RowAt (A : Ad) (H : Hp) (a : Addr) (cs : List Cmd) : Prop := cs.length ≤ 10 ∧ ∃ dx t rs, H a = some (.ins A.Row dx [("parts_told", .ref t)]) ∧ H t = some (.tup rs) ∧ CmdsAt A H rs cs
theorem RowAt.ex {A : Ad} {H H' : Hp} {a : Addr} {cs : List Cmd} (e : Ex H H') (h : RowAt A H a cs) : RowAt A H' a cs := by
  obtain ⟨ok, dx, t, rs, h1, h2, h3⟩ := h
  exact ⟨ok, dx, t, rs, e _ _ h1, e _ _ h2, h3.ex e⟩
def spCmdInit (A : Ad) : Sp := fun vs H Q _ => ∃ x dx ua ca c, vs = [.ref x, .ref ua, .ref ca, .str (ordS c), .str c.kinds, .str (pth c.start)] ∧ H x = some (.ins A.Command dx []) ∧ CmdOk c ∧ UserAt A H ua c.user ∧ ChangeAt A H ca c.ch ∧
  ∀ H' t, ExB x H H' → H' x = some (.ins A.Command dx [("facts", .ref t)]) → H' t = some (.tup (cmdTup c ua ca)) → H t = none → Q .non H'
/-- a list of told rights, as it grows -/
def Told (H : Hp) (L : Addr) (H1 : Hp) (ps : List Addr) : Prop := ∃ hb, Ex H hb ∧ hb L = none ∧ Ex hb H1 ∧ H1 L = some (.lst (ps.map V.ref)) ∧ ∀ p ∈ ps, ∃ s, hb p = some (.tup [.str s, .bl true])
theorem Told.app {H H1 H2 : Hp} {L p : Addr} {ps : List Addr} {s : Str} (h : Told H L H1 ps) (e : Ex H1 H2) (hp : H2 p = none) : Told H L (upd (upd H2 p (.tup [.str s, .bl true])) L (.lst (ps.map V.ref ++ [.ref p]))) (ps ++ [p]) := by
  obtain ⟨hb, a, b, d, f, g⟩ := h
  have hL2 := e _ _ f
  have np : p ≠ L := (ne_of_none hL2 hp).symm
  refine ⟨dele L (upd H2 p (.tup [.str s, .bl true])), ext a (dele_of (ext d (ext e (exn hp))) b), dele_at, dele_up, by rw [upd_same, List.map_append]; rfl, fun r hr => ?_⟩
  rcases List.mem_append.mp hr with hr | hr
  · obtain ⟨z, hz⟩ := g r hr
    exact ⟨z, dele_of (ext d (ext e (exn hp))) b _ _ hz⟩
  · cases List.mem_singleton.mp hr
    exact ⟨s, by rw [dele_ne np]; exact upd_same⟩
theorem Told.ex {H H1 H2 : Hp} {L : Addr} {ps : List Addr} (h : Told H L H1 ps) (e : Ex H1 H2) : Told H L H2 ps := by
  obtain ⟨hb, a, b, d, f, g⟩ := h
  exact ⟨hb, a, b, ext d e, e _ _ f, g⟩
theorem Told.at {H H1 : Hp} {L : Addr} {ps : List Addr} (h : Told H L H1 ps) : Ex H H1 := by
  obtain ⟨hb, a, b, d, f, g⟩ := h
  exact ext a d
theorem Told.lst {H H1 : Hp} {L : Addr} {ps : List Addr} (h : Told H L H1 ps) : H1 L = some (.lst (ps.map V.ref)) := by
  obtain ⟨hb, a, b, d, f, g⟩ := h
  exact f
section
variable {P : Program} {w : World} {K : PySem.W.Frag} {mg : Str → Option Value} {base : Heap} {A : Ad}
theorem uOwn (T : Tx K mg w A) (u : Us) : OwnC K (uC A u) := by
  unfold uC
  split
  · exact T.o_Chief
  · exact T.o_User
theorem uKit (T : Tx K mg w A) (u : Us) : PySem.W.kitOne K (.ref (uC A u)) (.ref A.User) = some true := by
  unfold uC
  split
  · exact T.t_Chief_User
  · exact T.t_User_User
theorem fn_Command_init (T : Tx K mg w A) (U : Ty K A) : ∀ f fd, FunD K "__init__" "Command.__init__" (defArgs S_Command_DinitD) (defBody S_Command_DinitD) (defScope S_Command_DinitD) [.str "first", .str "all", .str ""] [] f fd →
    FnOk P w K mg base CX0 4 f fd ["self", "user", "change", "order", "kinds", "start"] (spCmdInit A) := by
  intro f fd F
  refine kwok_of (k := 3) F sc_Command_DinitD (fun vs H Q E h => by obtain ⟨x, dx, ua, ca, c, rfl, _⟩ := h; rfl) fun f cdv Ar outer s H vs Q E c h => ?_
  have hr := c.room
  have nd := sc_Command_DinitD.nd
  obtain ⟨x, dx, ua, ca, m, rfl, hx, ok, ⟨dxu, tu, hu, hu2⟩, ⟨okc, dxc, tc, tr, hc, hc2⟩, q⟩ := h
  refine ⟨_, (pss_cons (ps_set (i := 6) nd rfl (Or.inl rfl) (pe_lst (pa_cons (pe_tup (pa_cons pe_str (pa_cons (pe_callB (isi_C c) (by rfl) T.b_isinstance (by decide +kernel) (pa_cons (pv 1) (pa_cons (pe_gc (by rfl) T.k_User) pa_nil))) pa_nil))) (pa_cons (pe_tup (pa_cons pe_str (pa_cons (pe_callB (isi_C c) (by rfl) T.b_isinstance (by decide +kernel) (pa_cons (pv 2) (pa_cons (pe_gc (by rfl) T.k_Change) pa_nil))) pa_nil))) pa_nil))))
 (pss_cons (ps_expr (pe_bmC c PySem.F.plainAttrs_list PySem.F.slot_list_append PySem.F.type_list_append mt_append (pv 6) (pa_cons (pe_tup (pa_cons pe_str (pa_cons (pe_and (pe_callB (isi_C c) (by rfl) T.b_isinstance (by decide +kernel) (pa_cons (pv 3) (pa_cons (pe_bltn (by rfl) T.b_str (by decide +kernel) (v := .ty "str") rfl) pa_nil))) (pe_one (pe_cmpR (in_C c) (pv 3) (ClX.pe_cval (pe_gc (by rfl) T.k_Command)) (by rfl)))) pa_nil))) pa_nil)))
 (pss_cons (ps_expr (pe_bmC c PySem.F.plainAttrs_list PySem.F.slot_list_append PySem.F.type_list_append mt_append (pv 6) (pa_cons (pe_tup (pa_cons pe_str (pa_cons (pe_and (pe_callB (isi_C c) (by rfl) T.b_isinstance (by decide +kernel) (pa_cons (pv 4) (pa_cons (pe_bltn (by rfl) T.b_str (by decide +kernel) (v := .ty "str") rfl) pa_nil))) (pe_one (pe_cmpR (in_C c) (pv 4) (ClX.pe_cval (pe_gc (by rfl) T.k_Command)) (by rfl)))) pa_nil))) pa_nil)))
 (pss_cons (ps_expr (pe_bmC c PySem.F.plainAttrs_list PySem.F.slot_list_append PySem.F.type_list_append mt_append (pv 6) (pa_cons (pe_tup (pa_cons pe_str (pa_cons (pe_and (pe_fn c (by rfl) (pa_cons (pv 5) pa_nil)) (pe_one (pe_cmpR op_le (pe_callB (len_C c) (by rfl) T.b_len PySem.boot_len (pa_cons (pe_fn c (by rfl) (pa_cons (pv 5) pa_nil)) pa_nil)) (pe_gc (by rfl) T.k_LONGEST_START) (nomark _)))) pa_nil))) pa_nil)))
 (pss_cons (ps_for PassesOwn.never rfl (pi_listC c (pv 6)) (pg_tupC c rfl (pgs_cons (pg_name (i := 7) nd rfl (Or.inl rfl)) (pgs_cons (pg_name (i := 8) nd rfl (Or.inl rfl)) pgs_nil)))
 (pss_one (ps_if (pt_not (pt_val (pv 8))) (pss_one ps_never) pss_nil)))
 (pss_one (ps_fld (pv 0) (pe_tup (pa_cons (pv 1) (pa_cons (pv 2) (pa_cons (pv 3) (pa_cons (pv 4) (pa_cons (pv 5) pa_nil)))))) rfl))))))), ?_⟩
  have hx0 := hx
  refine ⟨_, rfl, _, _, _, _, true, rfl, .own _, (uOwn T m.user).ty T.ob hu, uKit T m.user, by show 2 ≤ sizeLine; decide, fun p1 hp1 => ?_⟩
  refine ⟨_, rfl, _, _, _, _, true, rfl, .own _, T.o_Change.ty T.ob (exn hp1 _ _ hc), T.t_Change_Change, by show 2 ≤ sizeLine; decide, fun p2 hp2 => ?_⟩
  refine ⟨by show 2 ≤ sizeLine; decide, fun L hL => ?_⟩
  have t0 : Told H L (upd (upd (upd H p1 (.tup [.str "user", .bl true])) p2 (.tup [.str "change", .bl true])) L (.lst [.ref p1, .ref p2])) [p1, p2] := by
    refine ⟨upd (upd H p1 (.tup [.str "user", .bl true])) p2 (.tup [.str "change", .bl true]), ext (exn hp1) (exn hp2), hL, exn hL, upd_same, fun r hr => ?_⟩
    rcases List.mem_cons.mp hr with rfl | hr
    · exact ⟨"user", exn hp2 _ _ upd_same⟩
    · cases List.mem_singleton.mp hr
      exact ⟨"change", upd_same⟩
  generalize (upd (upd (upd H p1 (.tup [.str "user", .bl true])) p2 (.tup [.str "change", .bl true])) L (.lst [.ref p1, .ref p2])) = H1 at t0 ⊢
  obtain ⟨to, mc, uo, cr, cvo, hto⟩ := U.ord
  obtain ⟨tk, mc2, uk, cr2, cvk, htk⟩ := U.kin
  have io : inV (.str (ordS m)) [.str "first", .str "last"] = true := by
    unfold ordS
    cases m.first <;> decide +kernel
  have ik : inV (.str m.kinds) [.str "all", .str "folders", .str "files"] = true := by
    have := ok.kn
    revert this
    generalize m.kinds = z
    intro hz
    unfold inV
    rcases List.mem_cons.mp hz with rfl | hz
    · decide +kernel
    rcases List.mem_cons.mp hz with rfl | hz
    · decide +kernel
    cases List.mem_singleton.mp hz
    decide +kernel
  refine ⟨_, rfl, .inl ⟨rfl, _, SqL.of t0.lst⟩, _, rfl, _, _, _, _, true, rfl, .ty _, .base (.str _), kit_ty (by decide +kernel), _, rfl, iteT ⟨_, rfl, _, _, _, _, rfl, cr, cvo, to, _, rfl, .inr (hto _), rfl, rfl, ?_⟩⟩
  rw [if_neg Bool.false_ne_true, io]
  refine ⟨by show 2 ≤ sizeLine; decide, fun p3 hp3 => ⟨L, _, _, rfl, rfl, (exn hp3) _ _ t0.lst, by show 2 < sizeLine; decide, ?_⟩⟩
  have t1 := t0.app (s := "order") (exr _) hp3
  dsimp only [List.map_cons, List.map_nil, List.cons_append, List.nil_append] at t1
  generalize (upd (upd H1 p3 (.tup [.str "order", .bl true])) L _) = H2 at t1 ⊢
  refine ⟨_, rfl, .inl ⟨rfl, _, SqL.of t1.lst⟩, _, rfl, _, _, _, _, true, rfl, .ty _, .base (.str _), kit_ty (by decide +kernel), _, rfl, iteT ⟨_, rfl, _, _, _, _, rfl, cr2, cvk, tk, _, rfl, .inr (htk _), rfl, rfl, ?_⟩⟩
  rw [if_neg Bool.false_ne_true, ik]
  refine ⟨by show 2 ≤ sizeLine; decide, fun p4 hp4 => ⟨L, _, _, rfl, rfl, (exn hp4) _ _ t1.lst, by show 3 < sizeLine; decide, ?_⟩⟩
  have t2 := t1.app (s := "kinds") (exr _) hp4
  dsimp only [List.map_cons, List.map_nil, List.cons_append, List.nil_append] at t2
  generalize (upd (upd H2 p4 (.tup [.str "kinds", .bl true])) L _) = H3 at t2 ⊢
  have hs := ok.le
  refine ⟨_, rfl, .inl ⟨rfl, _, SqL.of t2.lst⟩, _, cal_of T.f_is_path (fn_is_path T), _, rfl, _, rfl, ok.st, by omega, fun H4 e4 => ⟨_, rfl, iteT ⟨_, cal_of T.f_names_of (fn_names_of T), _, rfl, _, rfl, ok.st, by omega, fun pn H5 e5 hpn hpn5 => ?_⟩⟩⟩
  refine ⟨pn, _, rfl, .inr (SqT.of hpn5), _, _, rfl, rfl, ?_⟩
  dsimp only [tNil]
  rw [decide_eq_true (by rw [List.length_map]; omega)]
  refine ⟨by show 2 ≤ sizeLine; decide, fun p5 hp5 => ⟨L, _, _, rfl, rfl, (exn hp5) _ _ (ext e4 e5 _ _ t2.lst), by show 4 < sizeLine; decide, ?_⟩⟩
  have t3 := t2.app (s := "start") (ext e4 e5) hp5
  dsimp only [List.map_cons, List.map_nil, List.cons_append, List.nil_append] at t3
  generalize (upd (upd H5 p5 (.tup [.str "start", .bl true])) L _) = H6 at t3 ⊢
  refine ⟨_, rfl, L, rfl, ⟨_, SqL.of t3.lst⟩, for_it (walk_list (xs := [V.ref p1, V.ref p2, V.ref p3, V.ref p4, V.ref p5])) (fun i σ H' => (∃ v7 v8, σ = [some (.ref x), some (.ref ua), some (.ref ca), some (.str (ordS m)), some (.str m.kinds), some (.str (pth m.start)), some (.ref L), v7, v8]) ∧ Ex H6 H')
    ⟨⟨none, none, rfl⟩, exr _⟩ (fun i σ H' _ q => SqL.of (q.2 _ _ t3.lst)) ?_ ?_⟩
  · rintro i z σ H7 H8 hi ⟨⟨v7, v8, rfl⟩, e7⟩ ⟨rfl, hz⟩
    have h3 := t3
    obtain ⟨hb, a, b, d, f, g⟩ := h3
    obtain ⟨p, hp, rfl⟩ : ∃ p, p ∈ [p1, p2, p3, p4, p5] ∧ z = .ref p := by
      match i, hz with
      | 0, hz => cases hz; exact ⟨p1, by simp, rfl⟩
      | 1, hz => cases hz; exact ⟨p2, by simp, rfl⟩
      | 2, hz => cases hz; exact ⟨p3, by simp, rfl⟩
      | 3, hz => cases hz; exact ⟨p4, by simp, rfl⟩
      | 4, hz => cases hz; exact ⟨p5, by simp, rfl⟩
    obtain ⟨sn, hsn⟩ := g p hp
    refine ⟨p, _, rfl, SqT.of (e7 _ _ (d _ _ hsn)), rfl, _, _, rfl, _, _, rfl, rfl, ?_⟩
    exact ⟨_, rfl, _, rfl, iteF ⟨⟨_, _, rfl⟩, e7⟩⟩
  · rintro σ H7 ⟨⟨v7, v8, rfl⟩, e7⟩
    have e17 : Ex H H7 := ext t3.at e7
    refine ⟨_, rfl, _, rfl, _, rfl, _, rfl, _, rfl, by show 5 ≤ sizeLine; decide, fun t ht => ⟨_, rfl, x, _, dx, _, rfl, exn ht _ _ (e17 _ _ hx), T.o_Command.cl, T.n_Command_facts, by show 0 < 1000; decide, ?_⟩⟩
    have ntx : t ≠ x := (ne_of_none (e17 _ _ hx) ht).symm
    exact q _ t (ExB.upd (ext e17 (exn ht)).b) upd_same ((upd_ne ntx).trans upd_same) (e17.none ht)
theorem mk_Command {H1 : Hp} {x dx ua ca : Addr} {m : Cmd} {Q : VK} {E : XK} (hx : H1 x = none) (hd : H1 dx = none) (ok : CmdOk m) (hu : UserAt A H1 ua m.user) (hc : ChangeAt A H1 ca m.ch) (q : ∀ H', Ex H1 H' → CmdAt A H' x m → Q (.ref x) H') :
    spCmdInit A [.ref x, .ref ua, .ref ca, .str (ordS m), .str m.kinds, .str (pth m.start)] (upd (upd H1 dx (.own x)) x (.ins A.Command dx [])) (fun v H3 => v = .non ∧ Q (.ref x) H3) E := by
  refine ⟨x, dx, ua, ca, m, rfl, upd_same, ok, hu.ex (ex_made hx hd), hc.ex (ex_made hx hd), fun H' t b h1 h2 h3 => ⟨rfl, ?_⟩⟩
  have e := ExB.made hx hd b
  exact q H' e ⟨ok, dx, t, ua, ca, h1, h2, hu.ex e, hc.ex e⟩
end
end Md
/-! Md: a command's facts; rows. -/
namespace Md
open PySem PySem.Spec PyProof.Rows L2
def meansB (c : Cmd) : Bool := inV (.str c.kinds) [.str "all", .str "folders"]
def spCmdUser (A : Ad) : Sp := fun vs H Q _ => ∃ a c, vs = [.ref a] ∧ CmdAt A H a c ∧ ∀ H' u, Ex H H' → UserAt A H' u c.user → Q (.ref u) H'
def spCmdChange (A : Ad) : Sp := fun vs H Q _ => ∃ a c, vs = [.ref a] ∧ CmdAt A H a c ∧ ∀ H' u, Ex H H' → ChangeAt A H' u c.ch → Q (.ref u) H'
def spCmdOrder (A : Ad) : Sp := fun vs H Q _ => ∃ a c, vs = [.ref a] ∧ CmdAt A H a c ∧ ∀ H', Ex H H' → Q (.str (ordS c)) H'
def spCmdKinds (A : Ad) : Sp := fun vs H Q _ => ∃ a c, vs = [.ref a] ∧ CmdAt A H a c ∧ ∀ H', Ex H H' → Q (.str c.kinds) H'
def spCmdStart (A : Ad) : Sp := fun vs H Q _ => ∃ a c, vs = [.ref a] ∧ CmdAt A H a c ∧ ∀ H', Ex H H' → Q (.str (pth c.start)) H'
def spCmdMeans (A : Ad) : Sp := fun vs H Q _ => ∃ a c, vs = [.ref a, .str "folder"] ∧ CmdAt A H a c ∧ ∀ H', Ex H H' → Q (.bl (meansB c)) H'
def spCmdsIn (A : Ad) : Sp := fun vs H Q _ => ∃ a cs, vs = [.ref a] ∧ (RowAt A H a cs ∨ ∃ c, CmdAt A H a c ∧ cs = [c]) ∧ ∀ H' t rs, Ex H H' → H' t = some (.tup rs) → CmdsAt A H' rs cs → Q (.ref t) H'
def spRowInit0 (A : Ad) : Sp := fun vs H Q _ => ∃ x dx t rs cs, vs = [.ref x, .ref t] ∧ H x = some (.ins A.Row dx []) ∧ H t = some (.tup rs) ∧ CmdsAt A H rs cs ∧ cs.length ≤ 10 ∧ ∀ H', ExB x H H' → H' x = some (.ins A.Row dx [("parts_told", .ref t)]) → Q .non H'
def spRowLen (A : Ad) : Sp := fun vs H Q _ => ∃ a cs, vs = [.ref a] ∧ RowAt A H a cs ∧ ∀ H', Ex H H' → Q (.int cs.length) H'
def spNeedIndex (A : Ad) : Sp := fun vs H Q _ => ∃ (a : Addr) (i : Nat) (cs : List Cmd), vs = [.ref a, .int (i : Nat)] ∧ RowAt A H a cs ∧ i < cs.length ∧ ∀ H', Ex H H' → Q .non H'
def RowIs (A : Ad) (H : Hp) (a : Addr) (rs : List V) (cs : List Cmd) : Prop := cs.length ≤ 10 ∧ ∃ dx t, H a = some (.ins A.Row dx [("parts_told", .ref t)]) ∧ H t = some (.tup rs) ∧ CmdsAt A H rs cs
theorem RowIs.ex {A : Ad} {H H' : Hp} {a : Addr} {rs : List V} {cs : List Cmd} (e : Ex H H') (h : RowIs A H a rs cs) : RowIs A H' a rs cs := by
  obtain ⟨ok, dx, t, h1, h2, h3⟩ := h
  exact ⟨ok, dx, t, e _ _ h1, e _ _ h2, h3.ex e⟩
theorem RowIs.row {A : Ad} {H : Hp} {a : Addr} {rs : List V} {cs : List Cmd} (h : RowIs A H a rs cs) : RowAt A H a cs := by
  obtain ⟨ok, dx, t, h1, h2, h3⟩ := h
  exact ⟨ok, dx, t, rs, h1, h2, h3⟩
theorem RowAt.is {A : Ad} {H : Hp} {a : Addr} {cs : List Cmd} (h : RowAt A H a cs) : ∃ rs, RowIs A H a rs cs := by
  obtain ⟨ok, dx, t, rs, h1, h2, h3⟩ := h
  exact ⟨rs, ok, dx, t, h1, h2, h3⟩
def spRowItem (A : Ad) : Sp := fun vs H Q _ => ∃ (a : Addr) (i : Nat) (rs : List V) (cs : List Cmd) (v : V), vs = [.ref a, .int (i : Nat)] ∧ RowIs A H a rs cs ∧ rs[i]? = some v ∧ ∀ H', Ex H H' → Q v H'
def spRowAdd (A : Ad) : Sp := fun vs H Q _ => ∃ (a b : Addr) (cs : List Cmd) (c : Cmd), vs = [.ref a, .ref b] ∧ RowAt A H a cs ∧ CmdAt A H b c ∧ cs.length + 1 ≤ 10 ∧ ∀ H' x, Ex H H' → H x = none → RowAt A H' x (cs ++ [c]) → Q (.ref x) H'
section
variable {P : Program} {w : World} {K : PySem.W.Frag} {mg : Str → Option Value} {base : Heap} {A : Ad}
theorem fn_Command_user (T : Tx K mg w A) : ∀ f fd, Fun K "user" "Command.user" S_Command_user f fd → Fn P w K mg base f 1 (spCmdUser A) := by
  intro f fd F
  refine fnr_of (k := 0) F sc_Command_user (fun _ _ _ _ _ _ us hl => match us, hl with | [_], _ => rfl) (fun vs H Q E h => by obtain ⟨x, m, rfl, _⟩ := h; rfl) fun f cdv Ar outer s H vs Q E c h => ?_
  have hr := c.room
  have nd := sc_Command_user.nd
  obtain ⟨a, m, rfl, ⟨ok, dx, t, ua, ca, ha, ht, hu, hc⟩, q⟩ := h
  refine ⟨_, (pss_one (ps_ret (pe_ix (ix_tupC c) (pe_at c (pv 0)) pe_int (fun _ _ => rfl)))), ?_⟩
  exact ⟨_, rfl, a, _, dx, _, rfl, ha, .inl ⟨_, T.o_Command.cl, T.n_Command_facts, rfl, t, _, 0, _, rfl, rfl, SqT.of ht, rfl, q _ ua (exr _) hu⟩⟩
theorem fn_Command_change (T : Tx K mg w A) : ∀ f fd, Fun K "change" "Command.change" S_Command_change f fd → Fn P w K mg base f 1 (spCmdChange A) := by
  intro f fd F
  refine fnr_of (k := 0) F sc_Command_change (fun _ _ _ _ _ _ us hl => match us, hl with | [_], _ => rfl) (fun vs H Q E h => by obtain ⟨x, m, rfl, _⟩ := h; rfl) fun f cdv Ar outer s H vs Q E c h => ?_
  have hr := c.room
  have nd := sc_Command_change.nd
  obtain ⟨a, m, rfl, ⟨ok, dx, t, ua, ca, ha, ht, hu, hc⟩, q⟩ := h
  refine ⟨_, (pss_one (ps_ret (pe_ix (ix_tupC c) (pe_at c (pv 0)) pe_int (fun _ _ => rfl)))), ?_⟩
  exact ⟨_, rfl, a, _, dx, _, rfl, ha, .inl ⟨_, T.o_Command.cl, T.n_Command_facts, rfl, t, _, 1, _, rfl, rfl, SqT.of ht, rfl, q _ ca (exr _) hc⟩⟩
theorem fn_Command_order (T : Tx K mg w A) : ∀ f fd, Fun K "order" "Command.order" S_Command_order f fd → Fn P w K mg base f 1 (spCmdOrder A) := by
  intro f fd F
  refine fnr_of (k := 0) F sc_Command_order (fun _ _ _ _ _ _ us hl => match us, hl with | [_], _ => rfl) (fun vs H Q E h => by obtain ⟨x, m, rfl, _⟩ := h; rfl) fun f cdv Ar outer s H vs Q E c h => ?_
  have hr := c.room
  have nd := sc_Command_order.nd
  obtain ⟨a, m, rfl, ⟨ok, dx, t, ua, ca, ha, ht, hu, hc⟩, q⟩ := h
  refine ⟨_, (pss_one (ps_ret (pe_ix (ix_tupC c) (pe_at c (pv 0)) pe_int (fun _ _ => rfl)))), ?_⟩
  exact ⟨_, rfl, a, _, dx, _, rfl, ha, .inl ⟨_, T.o_Command.cl, T.n_Command_facts, rfl, t, _, 2, _, rfl, rfl, SqT.of ht, rfl, q _ (exr _)⟩⟩
theorem fn_Command_kinds (T : Tx K mg w A) : ∀ f fd, Fun K "kinds" "Command.kinds" S_Command_kinds f fd → Fn P w K mg base f 1 (spCmdKinds A) := by
  intro f fd F
  refine fnr_of (k := 0) F sc_Command_kinds (fun _ _ _ _ _ _ us hl => match us, hl with | [_], _ => rfl) (fun vs H Q E h => by obtain ⟨x, m, rfl, _⟩ := h; rfl) fun f cdv Ar outer s H vs Q E c h => ?_
  have hr := c.room
  have nd := sc_Command_kinds.nd
  obtain ⟨a, m, rfl, ⟨ok, dx, t, ua, ca, ha, ht, hu, hc⟩, q⟩ := h
  refine ⟨_, (pss_one (ps_ret (pe_ix (ix_tupC c) (pe_at c (pv 0)) pe_int (fun _ _ => rfl)))), ?_⟩
  exact ⟨_, rfl, a, _, dx, _, rfl, ha, .inl ⟨_, T.o_Command.cl, T.n_Command_facts, rfl, t, _, 3, _, rfl, rfl, SqT.of ht, rfl, q _ (exr _)⟩⟩
theorem fn_Command_start (T : Tx K mg w A) : ∀ f fd, Fun K "start" "Command.start" S_Command_start f fd → Fn P w K mg base f 1 (spCmdStart A) := by
  intro f fd F
  refine fnr_of (k := 0) F sc_Command_start (fun _ _ _ _ _ _ us hl => match us, hl with | [_], _ => rfl) (fun vs H Q E h => by obtain ⟨x, m, rfl, _⟩ := h; rfl) fun f cdv Ar outer s H vs Q E c h => ?_
  have hr := c.room
  have nd := sc_Command_start.nd
  obtain ⟨a, m, rfl, ⟨ok, dx, t, ua, ca, ha, ht, hu, hc⟩, q⟩ := h
  refine ⟨_, (pss_one (ps_ret (pe_ix (ix_tupC c) (pe_at c (pv 0)) pe_int (fun _ _ => rfl)))), ?_⟩
  exact ⟨_, rfl, a, _, dx, _, rfl, ha, .inl ⟨_, T.o_Command.cl, T.n_Command_facts, rfl, t, _, 4, _, rfl, rfl, SqT.of ht, rfl, q _ (exr _)⟩⟩
theorem fn_Command_means (T : Tx K mg w A) : ∀ f fd, Fun K "means" "Command.means" S_Command_means f fd → Fn P w K mg base f 3 (spCmdMeans A) := by
  intro f fd F
  refine fnr_of (k := 2) F sc_Command_means (fun _ _ _ _ _ _ us hl => match us, hl with | [_, _], _ => rfl) (fun vs H Q E h => by obtain ⟨x, m, rfl, _⟩ := h; rfl) fun f cdv Ar outer s H vs Q E c h => ?_
  have hr := c.room
  have nd := sc_Command_means.nd
  obtain ⟨a, m, rfl, hm, q⟩ := h
  have hm0 := hm
  obtain ⟨ok, dx, t, ua, ca, ha, ht, hu, hc⟩ := hm
  refine ⟨_, (pss_one (ps_ret (pe_cmpR (in_C c) (pe_at c (pv 0)) (pe_tup (pa_cons pe_str (pa_cons (pe_joined (PJ.cons (pe_fmt (pv 1)) (PJ.cons pe_str PJ.nil))) pa_nil))) (by rfl)))), ?_⟩
  refine ⟨_, rfl, a, _, dx, _, rfl, ha, .inr ⟨_, pcal_of T.p_Command_kinds T.o_Command.cl (fn_Command_kinds T), a, m, rfl, hm0, fun H1 e1 => ?_⟩⟩
  have es : Str.empty ++ ("folder" : Str) ++ ("s" : Str) = ("folders" : Str) := by decide +kernel
  refine ⟨_, rfl, .inl ⟨_, rfl, by decide +kernel, _, rfl, by decide +kernel, _, rfl, by rw [es]; decide +kernel, ?_⟩⟩
  refine ⟨by show 2 ≤ sizeLine; decide, fun p hp => ⟨p, _, rfl, .inr (SqT.of upd_same), rfl, by rfl, ?_⟩⟩
  rw [if_neg Bool.false_ne_true, es]
  exact q _ (ext e1 (exn hp))
theorem fn_commands_in (T : Tx K mg w A) : ∀ f fd, Fun K "commands_in" "commands_in" S_commands_in f fd → Fn P w K mg base f 1 (spCmdsIn A) := by
  intro f fd F
  refine fnr_of (k := 0) F sc_commands_in (fun _ _ _ _ _ _ us hl => match us, hl with | [_], _ => rfl) (fun vs H Q E h => by obtain ⟨x, m, rfl, _⟩ := h; rfl) fun f cdv Ar outer s H vs Q E c h => ?_
  have hr := c.room
  have nd := sc_commands_in.nd
  obtain ⟨a, cs, rfl, h, q⟩ := h
  refine ⟨_, (pss_one (ps_ret (pe_ifExp (pt_val (pe_callB (isi_C c) (by rfl) T.b_isinstance (by decide +kernel) (pa_cons (pv 0) (pa_cons (pe_gc (by rfl) T.k_Row) pa_nil)))) (pe_at c (pv 0)) (pe_tup (pa_cons (pv 0) pa_nil))))), ?_⟩
  rcases h with ⟨hl, dx, t, rs, ha, ht, hc⟩ | ⟨m, hm, rfl⟩
  · exact ⟨_, rfl, _, _, _, _, true, rfl, .own _, T.o_Row.ty T.ob ha, T.t_Row_Row, _, rfl, iteT ⟨_, rfl, a, _, dx, _, rfl, ha, .inl ⟨_, T.o_Row.cl, T.n_Row_parts_told, rfl, q _ t rs (exr _) ht hc⟩⟩⟩
  · have hm0 := hm
    obtain ⟨ok, dx, t, ua, ca, ha, ht, hu, hc⟩ := hm
    refine ⟨_, rfl, _, _, _, _, false, rfl, .own _, T.o_Command.ty T.ob ha, T.t_Command_Row, _, rfl, iteF ⟨_, rfl, by show 1 ≤ sizeLine; decide, fun p hp => q _ p [.ref a] (exn hp) upd_same ⟨rfl, fun j c' hj => ?_⟩⟩⟩
    match j, hj with
    | 0, hj =>
      cases hj
      exact ⟨a, rfl, hm0.ex (exn hp)⟩
theorem fn_Row_init (T : Tx K mg w A) : ∀ f fd, Fun K "__init__" "Row.__init__" S_Row_DinitD f fd → Fn P w K mg base f 1 (fun vs H Q E => ∃ ws rest, vs = ws ++ rest ∧ ws.length = ["self"].length ∧ rest.length ≤ sizeLine ∧ ∀ p, H p = none → spRowInit0 A (ws ++ [V.ref p]) (upd H p (.tup rest)) Q E) := by
  intro f fd F
  refine fnr_star (k := 0) (ps := ["self"]) (pv := "commands") F sc_Row_DinitD (fun _ _ _ _ _ _ us rest hl => match us, rest, hl with | [_], [], _ => rfl | [_], _ :: _, _ => rfl) fun f cdv Ar outer s H vs Q E c h => ?_
  have hr := c.room
  have nd := sc_Row_DinitD.nd
  obtain ⟨x, dx, t, rs, cs, rfl, hx, ht, hc, hl, q⟩ := h
  refine ⟨_, (pss_cons (ps_if (pt_cmpR op_gt (pe_callB (len_C c) (by rfl) T.b_len PySem.boot_len (pa_cons (pv 1) pa_nil)) (pe_gc (by rfl) T.k_MOST_COMMANDS) (nomark _)) (pss_one ps_never) pss_nil)
 (pss_one (ps_fld (pv 0) (pe_callTy (tup_C c) (by rfl) T.b_tuple (by decide +kernel) (pa_cons (pv 1) pa_nil)) rfl))), ?_⟩
  refine ⟨_, rfl, t, _, rfl, .inr (SqT.of ht), _, _, rfl, rfl, _, rfl, ?_⟩
  rw [decide_eq_false (by rw [hc.1]; omega)]
  refine iteF ⟨_, rfl, t, _, rfl, .inr ⟨SqT.of ht, _, rfl, x, _, dx, _, rfl, hx, T.o_Row.cl, T.n_Row_parts_told, by show 0 < 1000; decide, ?_⟩⟩
  exact q _ (ExB.upd (exr _).b) upd_same
theorem mk_Row {H1 : Hp} {x dx : Addr} {rs : List V} {cs : List Cmd} {Q : VK} {E : XK} (hx : H1 x = none) (hd : H1 dx = none) (hn : dx ≠ x) (hc : CmdsAt A H1 rs cs) (hl : cs.length ≤ 10) (q : ∀ H', Ex H1 H' → RowAt A H' x cs → Q (.ref x) H') :
    ∃ ws rest, (V.ref x :: rs) = ws ++ rest ∧ ws.length = ["self"].length ∧ rest.length ≤ sizeLine ∧ ∀ p, upd (upd H1 dx (.own x)) x (.ins A.Row dx []) p = none → spRowInit0 A (ws ++ [V.ref p]) (upd (upd (upd H1 dx (.own x)) x (.ins A.Row dx [])) p (.tup rest)) (fun v H3 => v = .non ∧ Q (.ref x) H3) E := by
  refine ⟨[.ref x], rs, rfl, rfl, zl (by rw [hc.1]; omega), fun p hp => ?_⟩
  have npx : p ≠ x := fun z => by rw [z, upd_same] at hp; cases hp
  have e0 := ex_made (o := .own x) (u := .ins A.Row dx []) hx hd
  refine ⟨x, dx, p, rs, cs, rfl, exn hp _ _ upd_same, upd_same, hc.ex (ext e0 (exn hp)), hl, fun H' b hx' => ⟨rfl, ?_⟩⟩
  have e : Ex H1 H' := ExB.made hx hd (ExB.trans (exn hp).b b)
  exact q H' e ⟨hl, dx, p, rs, hx', b _ _ npx upd_same, hc.ex e⟩
theorem fn_joined_row (T : Tx K mg w A) : ∀ f fd, Fun K "joined_row" "joined_row" S_joined_row f fd → Fn P w K mg base f 3 (spRowAdd A) := by
  intro f fd F
  refine fnr_of (k := 2) F sc_joined_row (fun _ _ _ _ _ _ us hl => match us, hl with | [_, _], _ => rfl) (fun vs H Q E h => by obtain ⟨x, m, _, _, rfl, _⟩ := h; rfl) fun f cdv Ar outer s H vs Q E c h => ?_
  have hr := c.room
  have nd := sc_joined_row.nd
  obtain ⟨a, b, cs, m, rfl, ha, hb, hl, q⟩ := h
  refine ⟨_, (pss_cons (ps_par (i := 2) (j := 3) rfl nd rfl rfl (by decide) rfl rfl (pa_cons (pe_fn c (by rfl) (pa_cons (pv 0) pa_nil)) (pa_cons (pe_fn c (by rfl) (pa_cons (pv 1) pa_nil)) pa_nil)) (by with_unfolding_all rfl))
 (pss_one (ps_ret (pe_mkSS c (by rfl) (pa_starC c (pv 2) (pa_starC c (pv 3) pa_nil)))))), ?_⟩
  refine ⟨_, cal_of T.f_commands_in (fn_commands_in T), _, rfl, a, cs, rfl, .inl ha, fun H1 t1 rs1 e1 ht1 hc1 => ?_⟩
  refine ⟨_, cal_of T.f_commands_in (fn_commands_in T), _, rfl, b, [m], rfl, .inr ⟨m, hb.ex e1, rfl⟩, fun H2 t2 rs2 e2 ht2 hc2 => ?_⟩
  have hcs : CmdsAt A H2 (rs1 ++ rs2) (cs ++ [m]) := by
    have h1 := hc1.ex e2
    refine ⟨by rw [List.length_append, List.length_append, h1.1, hc2.1], fun j c' hj => ?_⟩
    by_cases hji : j < cs.length
    · rw [List.getElem?_append_left hji] at hj
      rw [List.getElem?_append_left (by rw [h1.1]; exact hji)]
      exact h1.2 j c' hj
    · rw [List.getElem?_append_right (by omega)] at hj
      rw [List.getElem?_append_right (by rw [h1.1]; omega), h1.1]
      exact hc2.2 _ c' hj
  refine ⟨_, _, rfl, _, _, ccal_of T.i_Row T.k_Row (fn_Row_init T), _, rfl, t1, rs1, rfl, .inl (SqT.of (e2 _ _ ht1)), _, rfl, t2, rs2, rfl, .inl (SqT.of ht2), fun x dx hx hdx hn => ?_⟩
  rw [List.append_nil]
  exact mk_Row hx hdx hn hcs (by rw [List.length_append]; exact hl) fun H' e h => q H' x (ext e1 (ext e2 e)) ((ext e1 e2).none hx) h
theorem fn_Row_add (T : Tx K mg w A) : ∀ f fd, Fun K "__add__" "Row.__add__" S_Row_DaddD f fd → Fn P w K mg base f 4 (spRowAdd A) := by
  intro f fd F
  refine fnr_of (k := 3) F sc_Row_DaddD (fun _ _ _ _ _ _ us hl => match us, hl with | [_, _], _ => rfl) (fun vs H Q E h => by obtain ⟨x, m, _, _, rfl, _⟩ := h; rfl) fun f cdv Ar outer s H vs Q E c h => ?_
  have hr := c.room
  have nd := sc_Row_DaddD.nd
  obtain ⟨a, b, cs, m, rfl, ha, hb, hl, q⟩ := h
  refine ⟨_, (pss_one (ps_ret (pe_fn c (by rfl) (pa_cons (pv 0) (pa_cons (pv 1) pa_nil))))), ?_⟩
  exact ⟨_, cal_of T.f_joined_row (fn_joined_row T), _, rfl, _, rfl, a, b, cs, m, rfl, ha, hb, hl, q⟩
theorem fn_Row_len (T : Tx K mg w A) : ∀ f fd, Fun K "__len__" "Row.__len__" S_Row_DlenD f fd → Fn P w K mg base f 1 (spRowLen A) := by
  intro f fd F
  refine fnr_of (k := 0) F sc_Row_DlenD (fun _ _ _ _ _ _ us hl => match us, hl with | [_], _ => rfl) (fun vs H Q E h => by obtain ⟨x, m, rfl, _⟩ := h; rfl) fun f cdv Ar outer s H vs Q E c h => ?_
  have hr := c.room
  have nd := sc_Row_DlenD.nd
  obtain ⟨a, cs, rfl, ⟨hl, dx, t, rs, ha, ht, hc⟩, q⟩ := h
  refine ⟨_, (pss_one (ps_ret (pe_callB (len_C c) (by rfl) T.b_len PySem.boot_len (pa_cons (pe_at c (pv 0)) pa_nil)))), ?_⟩
  refine ⟨_, rfl, a, _, dx, _, rfl, ha, .inl ⟨_, T.o_Row.cl, T.n_Row_parts_told, rfl, t, _, rfl, .inr (SqT.of ht), ?_⟩⟩
  rw [hc.1]
  exact q _ (exr _)
theorem fn_need_index (T : Tx K mg w A) : ∀ f fd, Fun K "need_index" "Row.need_index" S_Row_need_index f fd → Fn P w K mg base f 2 (spNeedIndex A) := by
  intro f fd F
  refine fnr_of (k := 1) F sc_Row_need_index (fun _ _ _ _ _ _ us hl => match us, hl with | [_, _], _ => rfl) (fun vs H Q E h => by obtain ⟨x, m, _, rfl, _⟩ := h; rfl) fun f cdv Ar outer s H vs Q E c h => ?_
  have hr := c.room
  have nd := sc_Row_need_index.nd
  obtain ⟨a, i, cs, rfl, ⟨hl, dx, t, rs, ha, ht, hc⟩, hi, q⟩ := h
  refine ⟨_, (pss_one (ps_if (pt_not (pt_val (pe_fn c (by rfl) (pa_cons (pv 1) (pa_cons pe_int (pa_cons (pe_op op_sub (pe_callB (len_C c) (by rfl) T.b_len PySem.boot_len (pa_cons (pe_at c (pv 0)) pa_nil)) pe_int) pa_nil)))))) (pss_one ps_never) pss_nil)), ?_⟩
  refine ⟨_, cal_of T.f_is_integer (fn_is_integer T), _, rfl, _, rfl, a, _, dx, _, rfl, ha, .inl ⟨_, T.o_Row.cl, T.n_Row_parts_told, rfl, t, _, rfl, .inr (SqT.of ht), _, _, rfl, rfl, _, _, _, rfl, fun H1 e1 => ⟨_, rfl, ?_⟩⟩⟩
  rw [decide_eq_true (by omega), decide_eq_true (by rw [hc.1]; omega)]
  exact iteF (q _ e1)
theorem fn_Row_item (T : Tx K mg w A) : ∀ f fd, Fun K "__getitem__" "Row.__getitem__" S_Row_DgetitemD f fd → Fn P w K mg base f 3 (spRowItem A) := by
  intro f fd F
  refine fnr_of (k := 2) F sc_Row_DgetitemD (fun _ _ _ _ _ _ us hl => match us, hl with | [_, _], _ => rfl) (fun vs H Q E h => by obtain ⟨x, m, _, _, _, rfl, _⟩ := h; rfl) fun f cdv Ar outer s H vs Q E c h => ?_
  have hr := c.room
  have nd := sc_Row_DgetitemD.nd
  obtain ⟨a, i, rs, cs, v, rfl, hra, hi, q⟩ := h
  have h0 := hra
  obtain ⟨hl, dx, t, ha, ht, hc⟩ := h0
  refine ⟨_, (pss_cons (ps_expr (pe_mt c (pv 0) (pa_cons (pv 1) pa_nil)))
 (pss_one (ps_ret (pe_ix (ix_tupC c) (pe_at c (pv 0)) (pv 1) (fun _ _ => rfl))))), ?_⟩
  have hi2 : i < cs.length := by rw [← hc.1]; exact (List.getElem?_eq_some_iff.mp hi).1
  refine ⟨_, rfl, a, _, dx, _, _, rfl, ha, mcal_of T.m_Row_need_index T.o_Row.cl (fn_need_index T), rfl, _, rfl, a, i, cs, rfl, hra.row, hi2, fun H1 e1 => ?_⟩
  exact ⟨_, rfl, a, _, dx, _, rfl, e1 _ _ ha, .inl ⟨_, T.o_Row.cl, T.n_Row_parts_told, rfl, _, rfl, t, _, _, _, rfl, rfl, SqT.of (e1 _ _ ht), atI_nat hi, q _ e1⟩⟩
end
end Md
/-! Md, part 18: enumerate(zip(v1, v2)): the zip's last tuple may still be held. -/
namespace Md
open PySem PySem.Spec PyProof.Rows L2
def ZRec (h : Heap) (z TI TO : Addr) (a0 : Value) (f : Bool) : Prop := h.get? z = some { cls := .type "zip", dict := none, data := .fields #[a0, .bool f, .bool false, .ref TI, .ref TO], slots := #[] }
def Out0 (a0 : Value) : Prop := a0 = .none ∨ ∃ T : Addr, a0 = rawInt T
def ZAny (h : Heap) (z TI TO : Addr) : Prop := ∃ a0 f, Out0 a0 ∧ ZRec h z TI TO a0 f
section
variable {prog : Program} {w : World} {A : Around} {E : Value → Shared → Prop} {s : Shared} {z TI TO i1 i2 : Addr} {fp1 fp2 : List Addr} {n1 n2 i : Nat} {P1 P2 : Nat → Value → Prop} {St1 St2 : Nat → Heap → Prop} {a1 a2 a0 : Value} {f : Bool}
theorem zfree {Q : Bool → Shared → Prop} (hz : ZRec s.heap z TI TO a0 f) (ha : Out0 a0) (h1 : Q true s) (h2 : ∀ h', ZAny h' z TI TO → Heap.SameBut z s.heap h' → Q false { s with heap := h' }) :
    wpAny (model prog w) A (Builtin.SmallTypes.ownedTupleIsFree (.ref z)) Q E s := by
  unfold Builtin.SmallTypes.ownedTupleIsFree
  refine wpAny_bind (wpAny_field hz rfl (x := a0) rfl ?_)
  rcases ha with rfl | ⟨T, rfl⟩
  · exact wpAny_pure h1
  · show wpAny _ _ (loadIfAlive ((T : Int).toNat) >>= _) _ _ _
    rw [Int.toNat_natCast]
    have aux : ∀ {Q' : Option Obj → Shared → Prop}, Q' (s.heap.get? T) s → wpAny (model prog w) A (loadIfAlive T) Q' E s := fun h => fun _ _ _ => h
    refine wpAny_bind (aux ?_)
    cases hT : s.heap.get? T with
    | none => exact wpAny_pure h1
    | some o =>
      simp only [Option.isNone_some, Bool.false_eq_true, if_false]
      refine wpAny_bind (wpAny_field hz rfl (x := .bool f) rfl ?_)
      cases f with
      | true =>
        rw [if_neg (show ¬ ((Value.bool true != Value.bool true) = true) from Bool.false_ne_true)]
        exact wpAny_pure (h2 s.heap ⟨_, _, .inr ⟨T, rfl⟩, hz⟩ (Heap.SameBut.refl _ _))
      | false =>
        rw [if_pos (show (Value.bool false != Value.bool true) = true from rfl)]
        exact wpAny_bind (wpAny_setField_rec hz (by simp) fun h₁ hz₁ hs₁ => wpAny_pure (h2 h₁ ⟨_, _, .inr ⟨T, rfl⟩, hz₁⟩ hs₁))
theorem zip_next {Q : Value → Shared → Prop} (S : ZipSep2 z TI TO i1 i2 fp1 fp2) (D1 : Draws prog w A i1 fp1 n1 P1 St1) (D2 : Draws prog w A i2 fp2 n2 P2 St2)
    (hz : ZAny s.heap z TI TO) (hTI : IsTupOf2 s.heap TI (.ref i1) (.ref i2)) (hTO : IsTupOf2 s.heap TO a1 a2) (st1 : St1 i s.heap) (st2 : St2 i s.heap) (hlt1 : i < n1) (hlt2 : i < n2)
    (hQ : ∀ x1 x2 h' tk, P1 i x1 → P2 i x2 → ZAny h' z TI TO → (∃ b1 b2, IsTupOf2 h' TO b1 b2) → St1 (i + 1) h' → St2 (i + 1) h' → IsTupOf2 h' s.heap.objs.size x1 x2 → h'.objs.size = s.heap.objs.size + 1 →
      (∀ c o, c ≠ z → c ≠ TO → c ≠ i1 → c ≠ i2 → s.heap.get? c = some o → h'.get? c = some o) → Q (.ref s.heap.objs.size) { s with heap := h', toks := tk }) :
    wpAny (model prog w) A (Builtin.«zip.__next__» ⟨[.ref z], []⟩) (fun fin s' => ∃ v, fin = .done (.ret v) ∧ Q v s') E s := by
  obtain ⟨hp, g, d, tk0, os⟩ := s
  obtain ⟨a0, f, ha, hz⟩ := hz
  show wpAny _ _ (field (.ref z) 2 >>= _) _ _ _
  refine wpAny_bind (wpAny_field hz rfl (x := .bool false) rfl ?_)
  show wpAny _ _ (field (.ref z) 3 >>= _) _ _ _
  refine wpAny_bind (wpAny_field hz rfl (x := .ref TI) rfl ?_)
  refine wpAny_bind (wpAny_seqItems hTI rfl ?_)
  show wpAny _ _ (Builtin.SmallTypes.ownedTupleIsFree (.ref z) >>= _) _ _ _
  refine wpAny_bind (zfree hz ha ?_ fun h0 hz0 hs0 => ?_)
  · simp only [if_true]
    refine wpAny_bind (wpAny_rule ?_)
    refine wpAny_bind (wpAny_field hz rfl (x := .ref TO) rfl ?_)
    refine wpAny_bind (wpAny_setField_rec hz (by simp) fun g0 hz0 hs0 => ?_)
    replace hz0 : ZRec g0 z TI TO .ellipsis f := hz0
    replace hs0 : Heap.SameBut z hp g0 := hs0
    refine wpAny_bind ?_
    simp only [List.zipIdx_cons, List.zipIdx_nil, List.forIn_cons, List.forIn_nil]
    refine wpAny_bind (wpAny_bind (wpAny_onRaise ?_))
    show wpAny _ _ (Builtin.SmallTypes.nextOf (.ref i1) >>= _) _ _ ⟨g0, g, d, tk0, os⟩
    refine wpAny_bind (D1.item i _ _ _ hlt1 (D1.over st1 hs0 S.zf1) fun x1 p1 tk1 hx1 sn1 hp1 => wpAny_pure ?_)
    replace hp1 : Heap.SameBut i1 g0 p1 := hp1
    have hU1 : IsTupOf2 p1 TO a1 a2 := hp1.extBut _ _ S.Ti1 (hs0.extBut _ _ S.TOz hTO)
    refine wpAny_bind (wpAny_seqItems (s := ⟨p1, g, d, tk1, os⟩) hU1 rfl ?_)
    refine wpAny_bind (updateSeq_IsTupOf2 (s := ⟨p1, g, d, tk1, os⟩) hU1 fun g1 hT1 hs1 => ?_)
    replace hT1 : IsTupOf2 g1 TO x1 a2 := hT1
    replace hs1 : Heap.SameBut TO p1 g1 := hs1
    refine wpAny_bind (wpAny_letGo (wpAny_pure ?_))
    refine wpAny_bind (wpAny_bind (wpAny_onRaise ?_))
    show wpAny _ _ (Builtin.SmallTypes.nextOf (.ref i2) >>= _) _ _ ⟨g1, g, d, tk1, os⟩
    refine wpAny_bind (D2.item i _ _ _ hlt2 (D2.over (D2.over (D2.over st2 hs0 S.zf2) hp1 S.sep1_2) hs1 S.Tf2) fun x2 p2 tk2 hx2 sn2 hp2 => wpAny_pure ?_)
    replace hp2 : Heap.SameBut i2 g1 p2 := hp2
    have hU2 : IsTupOf2 p2 TO x1 a2 := hp2.extBut _ _ S.Ti2 hT1
    refine wpAny_bind (wpAny_seqItems (s := ⟨p2, g, d, tk2, os⟩) hU2 rfl ?_)
    refine wpAny_bind (updateSeq_IsTupOf2 (s := ⟨p2, g, d, tk2, os⟩) hU2 fun g2 hT2 hs2 => ?_)
    replace hT2 : IsTupOf2 g2 TO x1 x2 := hT2
    replace hs2 : Heap.SameBut TO p2 g2 := hs2
    refine wpAny_bind (wpAny_letGo (wpAny_pure (wpAny_pure ?_)))
    refine wpAny_bind (wpAny_seqItems (s := ⟨g2, g, d, tk2, os⟩) hT2 rfl ?_)
    refine wpAny_bind (wpAny_newTuple ?_)
    have hsz : g2.objs.size = hp.objs.size := by rw [hs2.1, hp2.1, hs1.1, hp1.1, hs0.1]
    have hzz : ZRec g2 z TI TO .ellipsis f := (hs2.extBut _ _ S.TOz.symm (hp2.extBut _ _ S.zi2 (hs1.extBut _ _ S.TOz.symm (hp1.extBut _ _ S.zi1 hz0))))
    have hkk : ∀ c o, c ≠ z → c ≠ TO → c ≠ i1 → c ≠ i2 → hp.get? c = some o → g2.get? c = some o := fun c o cz cT c1 c2 e =>
      (hs2.extBut _ _ cT (hp2.extBut _ _ c2 (hs1.extBut _ _ cT (hp1.extBut _ _ c1 (hs0.extBut _ _ cz e)))))
    have hj1 : St1 (i + 1) g2 := (D1.over (D1.over (D1.over sn1 hs1 S.Tf1) hp2 S.sep2_1) hs2 S.Tf1)
    have hj2 : St2 (i + 1) g2 := (D2.over sn2 hs2 S.Tf2)
    have hzlt : z < g2.objs.size := Heap.lt_size hzz
    show wpAny _ _ (Builtin.SmallTypes.ownedTupleHandOut (.ref z) (.ref g2.objs.size) >>= _) _ _ ⟨g2.push { cls := .type "tuple", data := .seq #[x1, x2] }, g, d, tk2, os⟩
    refine wpAny_bind ?_
    unfold Builtin.SmallTypes.ownedTupleHandOut
    have hz₆ : ZRec (g2.push { cls := .type "tuple", data := .seq #[x1, x2] }) z TI TO .ellipsis f := Heap.get?_push_of_some _ hzz
    refine wpAny_bind (wpAny_setField_rec hz₆ (by simp) fun h₇ hz₇ hs₇ => ?_)
    replace hz₇ : ZRec h₇ z TI TO (rawInt g2.objs.size) f := hz₇
    refine wpAny_setField_rec hz₇ (by simp) fun h₈ hz₈ hs₈ => ?_
    replace hz₈ : ZRec h₈ z TI TO (rawInt g2.objs.size) false := hz₈
    replace hs₇ : Heap.SameBut z (g2.push { cls := .type "tuple", data := .seq #[x1, x2] }) h₇ := hs₇
    replace hs₈ : Heap.SameBut z h₇ h₈ := hs₈
    have up : ∀ c o, c ≠ z → g2.get? c = some o → h₈.get? c = some o := fun c o c1 e => hs₈.extBut _ _ c1 (hs₇.extBut _ _ c1 (Heap.get?_push_of_some _ e))
    have hT₈ : IsTupOf2 h₈ g2.objs.size x1 x2 := hs₈.extBut _ _ (Nat.ne_of_gt hzlt) (hs₇.extBut _ _ (Nat.ne_of_gt hzlt) (Heap.get?_push_size _ rfl))
    have hz8 : h₈.objs.size = g2.objs.size + 1 := by rw [hs₈.1, hs₇.1, Heap.size_push]
    rw [hsz] at hz₈ hT₈ hz8
    refine wpAny_pure ⟨_, rfl, ?_⟩
    show Q (.ref g2.objs.size) ⟨h₈, g, d, tk2, os⟩
    rw [hsz]
    exact hQ x1 x2 h₈ tk2 hx1 hx2 ⟨_, _, .inr ⟨_, rfl⟩, hz₈⟩ ⟨_, _, up _ _ S.TOz hT2⟩ (D1.frame _ _ _ hj1 fun b hb o e => up b o (fun q => S.zf1 (q ▸ hb)) e) (D2.frame _ _ _ hj2 fun b hb o e => up b o (fun q => S.zf2 (q ▸ hb)) e) hT₈ hz8 fun c o cz cT c1 c2 e => up c o cz (hkk c o cz cT c1 c2 e)
  · replace hs0 : Heap.SameBut z hp h0 := hs0
    simp only [Bool.false_eq_true, if_false]
    refine wpAny_bind ?_
    rw [← Array.forIn_toList]
    simp only [List.forIn_cons, List.forIn_nil]
    refine wpAny_bind (wpAny_bind (wpAny_holding ?_))
    show wpAny _ _ (Builtin.SmallTypes.nextOf (.ref i1) >>= _) _ _ ⟨h0, g, d, tk0, os⟩
    refine wpAny_bind (D1.item i _ _ _ hlt1 (D1.over st1 hs0 S.zf1) fun x1 p1 tk1 hx1 sn1 hp1 => wpAny_pure ?_)
    replace hp1 : Heap.SameBut i1 h0 p1 := hp1
    refine wpAny_pure ?_
    refine wpAny_bind (wpAny_bind (wpAny_holding ?_))
    show wpAny _ _ (Builtin.SmallTypes.nextOf (.ref i2) >>= _) _ _ ⟨p1, g, d, tk1, os⟩
    refine wpAny_bind (D2.item i _ _ _ hlt2 (D2.over (D2.over st2 hs0 S.zf2) hp1 S.sep1_2) fun x2 p2 tk2 hx2 sn2 hp2 => wpAny_pure ?_)
    replace hp2 : Heap.SameBut i2 p1 p2 := hp2
    refine wpAny_pure (wpAny_pure ?_)
    show wpAny _ _ (newTuple [x1, x2] >>= _) _ _ ⟨p2, g, d, tk2, os⟩
    refine wpAny_bind (wpAny_newTuple ?_)
    have hsz : p2.objs.size = hp.objs.size := by rw [hp2.1, hp1.1, hs0.1]
    obtain ⟨b0, f0, hb0, hz0⟩ := hz0
    have hz2 : ZRec p2 z TI TO b0 f0 := hp2.extBut _ _ S.zi2 (hp1.extBut _ _ S.zi1 hz0)
    have hk : ∀ c o, c ≠ z → c ≠ i1 → c ≠ i2 → hp.get? c = some o → p2.get? c = some o := fun c o c1 c2 c3 e => hp2.extBut _ _ c3 (hp1.extBut _ _ c2 (hs0.extBut _ _ c1 e))
    have up : ∀ c o, p2.get? c = some o → (p2.push { cls := .type "tuple", data := .seq #[x1, x2] }).get? c = some o := fun c o e => Heap.get?_push_of_some _ e
    have hT : IsTupOf2 (p2.push { cls := .type "tuple", data := .seq #[x1, x2] }) p2.objs.size x1 x2 := Heap.get?_push_size _ rfl
    have hz4 : (p2.push { cls := .type "tuple", data := .seq #[x1, x2] }).objs.size = p2.objs.size + 1 := Heap.size_push ..
    refine wpAny_pure ⟨_, rfl, ?_⟩
    show Q (.ref p2.objs.size) _
    rw [hsz] at hT hz4 ⊢
    exact hQ x1 x2 _ tk2 hx1 hx2 ⟨_, _, hb0, up _ _ hz2⟩ ⟨_, _, up _ _ (hk _ _ S.TOz S.Ti1 S.Ti2 hTO)⟩ (D1.frame _ _ _ (D1.over sn1 hp2 S.sep2_1) fun b hb o e => up b o e) (D2.frame _ _ _ sn2 fun b hb o e => up b o e) hT hz4 fun c o c1 _ c2 c3 e => up c o (hk c o c1 c2 c3 e)
theorem zip_stop {Q : Fin → Shared → Prop} (S : ZipSep2 z TI TO i1 i2 fp1 fp2) (D1 : Draws prog w A i1 fp1 n1 P1 St1) (D2 : Draws prog w A i2 fp2 n2 P2 St2)
    (hz : ZAny s.heap z TI TO) (hTI : IsTupOf2 s.heap TI (.ref i1) (.ref i2)) (hTO : IsTupOf2 s.heap TO a1 a2) (st1 : St1 i s.heap) (st2 : St2 i s.heap) (hle1 : i ≤ n1) (hle2 : i ≤ n2) (hend : i = n1 ∨ i = n2)
    (hE : ∀ h' tk e, (∀ c o, c ≠ z → c ≠ TO → c ≠ i1 → c ≠ i2 → s.heap.get? c = some o → h'.get? c = some o) → (∃ o, h'.get? e = some o ∧ o.cls = .type "StopIteration") → E (.ref e) { s with heap := h', toks := tk }) :
    wpAny (model prog w) A (Builtin.«zip.__next__» ⟨[.ref z], []⟩) Q E s := by
  obtain ⟨hp, g, d, tk0, os⟩ := s
  obtain ⟨a0, f, ha, hz⟩ := hz
  show wpAny _ _ (field (.ref z) 2 >>= _) _ _ _
  refine wpAny_bind (wpAny_field hz rfl (x := .bool false) rfl ?_)
  show wpAny _ _ (field (.ref z) 3 >>= _) _ _ _
  refine wpAny_bind (wpAny_field hz rfl (x := .ref TI) rfl ?_)
  refine wpAny_bind (wpAny_seqItems hTI rfl ?_)
  show wpAny _ _ (Builtin.SmallTypes.ownedTupleIsFree (.ref z) >>= _) _ _ _
  refine wpAny_bind (zfree hz ha ?_ fun h0 hz0 hs0 => ?_)
  · simp only [if_true]
    refine wpAny_bind (wpAny_rule ?_)
    refine wpAny_bind (wpAny_field hz rfl (x := .ref TO) rfl ?_)
    refine wpAny_bind (wpAny_setField_rec hz (by simp) fun g0 hz0 hs0 => ?_)
    replace hz0 : ZRec g0 z TI TO .ellipsis f := hz0
    replace hs0 : Heap.SameBut z hp g0 := hs0
    refine wpAny_bind ?_
    simp only [List.zipIdx_cons, List.zipIdx_nil, List.forIn_cons, List.forIn_nil]
    refine wpAny_bind (wpAny_bind (wpAny_onRaise ?_))
    show wpAny _ _ (Builtin.SmallTypes.nextOf (.ref i1) >>= _) _ _ ⟨g0, g, d, tk0, os⟩
    by_cases hlt1 : i < n1
    · refine wpAny_bind (D1.item i _ _ _ hlt1 (D1.over st1 hs0 S.zf1) fun x1 p1 tk1 hx1 sn1 hp1 => wpAny_pure ?_)
      replace hp1 : Heap.SameBut i1 g0 p1 := hp1
      have hU1 : IsTupOf2 p1 TO a1 a2 := hp1.extBut _ _ S.Ti1 (hs0.extBut _ _ S.TOz hTO)
      refine wpAny_bind (wpAny_seqItems (s := ⟨p1, g, d, tk1, os⟩) hU1 rfl ?_)
      refine wpAny_bind (updateSeq_IsTupOf2 (s := ⟨p1, g, d, tk1, os⟩) hU1 fun g1 hT1 hs1 => ?_)
      replace hT1 : IsTupOf2 g1 TO x1 a2 := hT1
      replace hs1 : Heap.SameBut TO p1 g1 := hs1
      refine wpAny_bind (wpAny_letGo (wpAny_pure ?_))
      have hi2 : i = n2 := by omega
      refine wpAny_bind (wpAny_bind (wpAny_onRaise ?_))
      show wpAny _ _ (Builtin.SmallTypes.nextOf (.ref i2) >>= _) _ _ ⟨g1, g, d, tk1, os⟩
      refine wpAny_bind (D2.done ⟨g1, g, d, tk1, os⟩ _ _ (by rw [← hi2]; exact (D2.over (D2.over (D2.over st2 hs0 S.zf2) hp1 S.sep1_2) hs1 S.Tf2)) fun q e hq he => ?_)
      replace hq : Heap.ExtBut i2 g1 q := hq
      obtain ⟨oe, hoe, hce⟩ := he
      replace hoe : q.get? e = some oe := hoe
      have hzq : ZRec q z TI TO .ellipsis f := hq _ _ S.zi2 (hs1.extBut _ _ S.TOz.symm (hp1.extBut _ _ S.zi1 hz0))
      have hez : e ≠ z := fun x => by subst x; rw [hzq] at hoe; cases hoe; simp at hce
      refine wpAny_setField_rec (s := ⟨q, g, d, tk1, os⟩) hzq (by simp) fun q' _ hq' => ?_
      replace hq' : Heap.SameBut z q q' := hq'
      exact hE q' tk1 e (fun c o cz cT c1 c2 x => hq'.extBut _ _ cz (hq _ _ c2 (hs1.extBut _ _ cT (hp1.extBut _ _ c1 (hs0.extBut _ _ cz x))))) ⟨oe, hq'.extBut _ _ hez hoe, hce⟩
    · have hi1 : i = n1 := by omega
      refine wpAny_bind (D1.done ⟨g0, g, d, tk0, os⟩ _ _ (by rw [← hi1]; exact (D1.over st1 hs0 S.zf1)) fun q e hq he => ?_)
      replace hq : Heap.ExtBut i1 g0 q := hq
      obtain ⟨oe, hoe, hce⟩ := he
      replace hoe : q.get? e = some oe := hoe
      have hzq : ZRec q z TI TO .ellipsis f := hq _ _ S.zi1 hz0
      have hez : e ≠ z := fun x => by subst x; rw [hzq] at hoe; cases hoe; simp at hce
      refine wpAny_setField_rec (s := ⟨q, g, d, tk0, os⟩) hzq (by simp) fun q' _ hq' => ?_
      replace hq' : Heap.SameBut z q q' := hq'
      exact hE q' tk0 e (fun c o cz cT c1 c2 x => hq'.extBut _ _ cz (hq _ _ c1 (hs0.extBut _ _ cz x))) ⟨oe, hq'.extBut _ _ hez hoe, hce⟩
  · replace hs0 : Heap.SameBut z hp h0 := hs0
    simp only [Bool.false_eq_true, if_false]
    refine wpAny_bind ?_
    rw [← Array.forIn_toList]
    simp only [List.forIn_cons, List.forIn_nil]
    refine wpAny_bind (wpAny_bind (wpAny_holding ?_))
    show wpAny _ _ (Builtin.SmallTypes.nextOf (.ref i1) >>= _) _ _ ⟨h0, g, d, tk0, os⟩
    by_cases hlt1 : i < n1
    · refine wpAny_bind (D1.item i _ _ _ hlt1 (D1.over st1 hs0 S.zf1) fun x1 p1 tk1 hx1 sn1 hp1 => wpAny_pure ?_)
      replace hp1 : Heap.SameBut i1 h0 p1 := hp1
      have hi2 : i = n2 := by omega
      refine wpAny_pure ?_
      refine wpAny_bind (wpAny_bind (wpAny_holding ?_))
      show wpAny _ _ (Builtin.SmallTypes.nextOf (.ref i2) >>= _) _ _ ⟨p1, g, d, tk1, os⟩
      refine wpAny_bind (D2.done ⟨p1, g, d, tk1, os⟩ _ _ (by rw [← hi2]; exact (D2.over (D2.over st2 hs0 S.zf2) hp1 S.sep1_2)) fun q e hq he => ?_)
      replace hq : Heap.ExtBut i2 p1 q := hq
      exact hE q tk1 e (fun c o cz cT c1 c2 x => hq _ _ c2 (hp1.extBut _ _ c1 (hs0.extBut _ _ cz x))) he
    · have hi1 : i = n1 := by omega
      refine wpAny_bind (D1.done ⟨h0, g, d, tk0, os⟩ _ _ (by rw [← hi1]; exact (D1.over st1 hs0 S.zf1)) fun q e hq he => ?_)
      replace hq : Heap.ExtBut i1 h0 q := hq
      exact hE q tk0 e (fun c o cz cT c1 c2 x => hq _ _ c1 (hs0.extBut _ _ cz x)) he
theorem znext_item {Q : Value → Shared → Prop} (S : ZipSep2 z TI TO i1 i2 fp1 fp2) (D1 : Draws prog w A.in1 i1 fp1 n1 P1 St1) (D2 : Draws prog w A.in1 i2 fp2 n2 P2 St2)
    (hz : ZAny s.heap z TI TO) (hTI : IsTupOf2 s.heap TI (.ref i1) (.ref i2)) (hTO : IsTupOf2 s.heap TO a1 a2) (st1 : St1 i s.heap) (st2 : St2 i s.heap) (hlt1 : i < n1) (hlt2 : i < n2)
    (hQ : ∀ x1 x2 h' tk, P1 i x1 → P2 i x2 → ZAny h' z TI TO → (∃ b1 b2, IsTupOf2 h' TO b1 b2) → St1 (i + 1) h' → St2 (i + 1) h' → IsTupOf2 h' s.heap.objs.size x1 x2 → h'.objs.size = s.heap.objs.size + 1 →
      (∀ c o, c ≠ z → c ≠ TO → c ≠ i1 → c ≠ i2 → s.heap.get? c = some o → h'.get? c = some o) → Q (.ref s.heap.objs.size) { s with heap := h', toks := tk }) :
    wpAny (model prog w) A (Builtin.SmallTypes.nextOf (.ref z)) Q E s := by
  have hT : s.TypeIs (.ref z) "zip" := by obtain ⟨_, _, _, h⟩ := hz; exact ⟨_, h, rfl⟩
  unfold Builtin.SmallTypes.nextOf
  exact wpAny_bind (wpAny_callSpecial?_slot (name := Str.ofString "__next__") hT F.slot_zip_next
    (wpAny_call_entry F.slot_zip_next hT F.entry_zip_next
      (wpAny_mono (zip_next (Q := Q) S D1 D2 hz hTI hTO st1 st2 hlt1 hlt2 hQ) (fun fin s' ⟨v, e, q⟩ => ⟨v, e, wpAny_pure q⟩) fun _ _ e => e) (F.args_zip_next_1 _)))
theorem znext_stop {Q : Value → Shared → Prop} (S : ZipSep2 z TI TO i1 i2 fp1 fp2) (D1 : Draws prog w A.in1 i1 fp1 n1 P1 St1) (D2 : Draws prog w A.in1 i2 fp2 n2 P2 St2)
    (hz : ZAny s.heap z TI TO) (hTI : IsTupOf2 s.heap TI (.ref i1) (.ref i2)) (hTO : IsTupOf2 s.heap TO a1 a2) (st1 : St1 i s.heap) (st2 : St2 i s.heap) (hle1 : i ≤ n1) (hle2 : i ≤ n2) (hend : i = n1 ∨ i = n2)
    (hE : ∀ h' tk e, (∀ c o, c ≠ z → c ≠ TO → c ≠ i1 → c ≠ i2 → s.heap.get? c = some o → h'.get? c = some o) → (∃ o, h'.get? e = some o ∧ o.cls = .type "StopIteration") → E (.ref e) { s with heap := h', toks := tk }) :
    wpAny (model prog w) A (Builtin.SmallTypes.nextOf (.ref z)) Q E s := by
  have hT : s.TypeIs (.ref z) "zip" := by obtain ⟨_, _, _, h⟩ := hz; exact ⟨_, h, rfl⟩
  unfold Builtin.SmallTypes.nextOf
  exact wpAny_bind (wpAny_callSpecial?_slot (name := Str.ofString "__next__") hT F.slot_zip_next
    (wpAny_call_entry F.slot_zip_next hT F.entry_zip_next
      (zip_stop S D1 D2 hz hTI hTO st1 st2 hle1 hle2 hend hE) (F.args_zip_next_1 _)))
variable {e : Addr} {c : Int} {old : Value}
structure EzSep (e z TI TO : Addr) (fp1 fp2 : List Addr) : Prop where
  z : e ≠ z
  TI : e ≠ TI
  TO : e ≠ TO
  f1 : e ∉ fp1
  f2 : e ∉ fp2
theorem ez_next {Q : Value → Shared → Prop} (S : ZipSep2 z TI TO i1 i2 fp1 fp2) (Z : EzSep e z TI TO fp1 fp2) (D1 : Draws prog w A.in1 i1 fp1 n1 P1 St1) (D2 : Draws prog w A.in1 i2 fp2 n2 P2 St2)
    (he : IsEnum s.heap e z c old) (hz : ZAny s.heap z TI TO) (hTI : IsTupOf2 s.heap TI (.ref i1) (.ref i2)) (hTO : IsTupOf2 s.heap TO a1 a2) (st1 : St1 i s.heap) (st2 : St2 i s.heap) (hlt1 : i < n1) (hlt2 : i < n2)
    (hQ : ∀ x1 x2 h1 h' tk, P1 i x1 → P2 i x2 → IsTupOf2 h1 s.heap.objs.size x1 x2 → h1.objs.size = s.heap.objs.size + 1 → (∀ c o, c ≠ z → c ≠ TO → c ≠ i1 → c ≠ i2 → s.heap.get? c = some o → h1.get? c = some o) →
      (∃ x, IsEnumOut h' e z (c + 1) x (s.heap.objs.size + 1)) → ZAny h' z TI TO → (∃ b1 b2, IsTupOf2 h' TO b1 b2) → St1 (i + 1) h' → St2 (i + 1) h' →
      IsTupOf2 h' (s.heap.objs.size + 1) (.int c tk) (.ref s.heap.objs.size) → (∀ b o, b ≠ e → h1.get? b = some o → h'.get? b = some o) → Q (.ref (s.heap.objs.size + 1)) { s with heap := h', toks := tk + 1 }) :
    wpAny (model prog w) A (Builtin.«enumerate.__next__» ⟨[.ref e], []⟩) (fun fin s' => ∃ v, fin = .done (.ret v) ∧ Q v s') E s := by
  obtain ⟨hp, g, d, tk₀, os⟩ := s
  show wpAny _ _ (field (.ref e) 2 >>= _) _ _ _
  refine wpAny_bind (wpAny_field he rfl (x := .ref z) rfl ?_)
  refine wpAny_bind (znext_item S D1 D2 hz hTI hTO st1 st2 hlt1 hlt2 fun x1 x2 h₁ tk hx1 hx2 hz1 hTO1 sn1 sn2 hT1 hsz1 hk1 => ?_)
  replace hsz1 : h₁.objs.size = hp.objs.size + 1 := hsz1
  have ei1 : e ≠ i1 := fun q => Z.f1 (q ▸ S.mem1)
  have ei2 : e ≠ i2 := fun q => Z.f2 (q ▸ S.mem2)
  have he₁ : IsEnum h₁ e z c old := hk1 _ _ Z.z Z.TO ei1 ei2 he
  generalize hx : Value.ref (Shared.heap ⟨hp, g, d, tk₀, os⟩).objs.size = x
  replace hx : x = .ref hp.objs.size := hx.symm
  show wpAny _ _ (field (.ref e) 3 >>= _) _ _ ⟨h₁, g, d, tk, os⟩
  refine wpAny_bind (wpAny_field he₁ rfl (x := rawInt c) rfl ?_)
  show wpAny _ _ (field (.ref e) 4 >>= _) _ _ ⟨h₁, g, d, tk, os⟩
  refine wpAny_bind (wpAny_field he₁ rfl (x := .none) rfl ?_)
  show wpAny _ _ (mkInt c >>= _) _ _ ⟨h₁, g, d, tk, os⟩
  refine wpAny_bind (wpAny_mkInt ?_)
  show wpAny _ _ (setField (.ref e) 3 (rawInt (c + 1)) >>= _) _ _ ⟨h₁, g, d, tk + 1, os⟩
  refine wpAny_bind (wpAny_setField_rec he₁ (by simp) fun h₂ he₂ hs₂ => ?_)
  replace hs₂ : Heap.SameBut e h₁ h₂ := hs₂
  replace he₂ : IsEnum h₂ e z (c + 1) old := he₂
  show wpAny _ _ (setField (.ref e) 4 .none >>= _) _ _ ⟨h₂, g, d, tk + 1, os⟩
  refine wpAny_bind (wpAny_setField_rec he₂ (by simp) fun h₃ he₃ hs₃ => ?_)
  replace hs₃ : Heap.SameBut e h₂ h₃ := hs₃
  replace he₃ : IsEnum h₃ e z (c + 1) old := he₃
  show wpAny _ _ (newTuple [.int c tk, x] >>= _) _ _ ⟨h₃, g, d, tk + 1, os⟩
  refine wpAny_bind (wpAny_newTuple ?_)
  have he₄ : IsEnum (h₃.push { cls := .type "tuple", data := .seq #[.int c tk, x] }) e z (c + 1) old := Heap.get?_push_of_some _ he₃
  generalize hh₄ : h₃.push { cls := .type "tuple", data := .seq #[.int c tk, x] } = h₄ at he₄
  have hsz : h₃.objs.size = hp.objs.size + 1 := by rw [hs₃.1, hs₂.1, hsz1]
  have hel : e < hp.objs.size := Heap.lt_size he
  have ht₄ : h₄.get? (hp.objs.size + 1) = some { cls := .type "tuple", data := .seq #[.int c tk, x] } := by rw [← hh₄, ← hsz]; exact Heap.get?_push_size _ rfl
  have hk₄ : ∀ b o, b ≠ e → h₁.get? b = some o → h₄.get? b = some o := fun b o hbe hb => by
    rw [← hh₄]; exact Heap.get?_push_of_some _ (hs₃.extBut b o hbe (hs₂.extBut b o hbe hb))
  show wpAny _ _ (Builtin.SmallTypes.ownedTupleIsFree (.ref e) >>= _) _ _ ⟨h₄, g, d, tk + 1, os⟩
  rw [hsz]
  clear hh₄ he₃ hs₃ he₂ hs₂ hsz h₃ h₂
  refine wpAny_bind ?_
  · unfold Builtin.SmallTypes.ownedTupleIsFree
    refine wpAny_bind (wpAny_field he₄ rfl (x := .none) rfl (wpAny_pure ?_))
    simp only [if_true]
    refine wpAny_bind (wpAny_rule ?_)
    refine wpAny_bind (wpAny_field he₄ rfl (x := old) rfl ?_)
    refine wpAny_bind (wpAny_setField_rec he₄ (by simp) fun h₅ he₅ hs₅ => ?_)
    replace hs₅ : Heap.SameBut e h₄ h₅ := hs₅
    replace he₅ : IsEnum h₅ e z (c + 1) x := he₅
    show wpAny _ _ (Builtin.SmallTypes.ownedTupleHandOut (.ref e) (.ref (hp.objs.size + 1)) >>= _) _ _ ⟨h₅, g, d, tk + 1, os⟩
    refine wpAny_bind ?_
    · unfold Builtin.SmallTypes.ownedTupleHandOut
      refine wpAny_bind (wpAny_setField_rec he₅ (by simp) fun h₆ he₆ hs₆ => ?_)
      replace hs₆ : Heap.SameBut e h₅ h₆ := hs₆
      replace he₆ : IsEnumOut h₆ e z (c + 1) x (hp.objs.size + 1) := he₆
      refine wpAny_setField_rec he₆ (by simp) fun h₇ he₇ hs₇ => ?_
      replace hs₇ : Heap.SameBut e h₆ h₇ := hs₇
      replace he₇ : IsEnumOut h₇ e z (c + 1) x (hp.objs.size + 1) := he₇
      have up : ∀ b o, b ≠ e → h₄.get? b = some o → h₇.get? b = some o := fun b o hbe hb => hs₇.extBut b o hbe (hs₆.extBut b o hbe (hs₅.extBut b o hbe hb))
      have all : ∀ b o, b ≠ e → h₁.get? b = some o → h₇.get? b = some o := fun b o hbe hb => up b o hbe (hk₄ b o hbe hb)
      obtain ⟨b0, f0, hb0, hz1⟩ := hz1
      obtain ⟨b1, b2, hTO1⟩ := hTO1
      subst hx
      refine wpAny_bind (wpAny_letGo (wpAny_pure ⟨_, rfl, hQ x1 x2 h₁ h₇ tk hx1 hx2 hT1 hsz1 hk1 ⟨_, he₇⟩ ⟨b0, f0, hb0, all _ _ Z.z.symm hz1⟩ ⟨b1, b2, all _ _ Z.TO.symm hTO1⟩ ?_ ?_ (up _ _ ?_ ht₄) all⟩))
      · exact D1.frame _ _ _ sn1 fun b hb o y => all b o (fun q => Z.f1 (q ▸ hb)) y
      · exact D2.frame _ _ _ sn2 fun b hb o y => all b o (fun q => Z.f2 (q ▸ hb)) y
      · exact Nat.ne_of_gt (Nat.lt_succ_of_lt hel)
theorem ez_pyNext {Q : Option Value → Shared → Prop} (S : ZipSep2 z TI TO i1 i2 fp1 fp2) (Z : EzSep e z TI TO fp1 fp2) (D1 : Draws prog w A.in1.in1 i1 fp1 n1 P1 St1) (D2 : Draws prog w A.in1.in1 i2 fp2 n2 P2 St2)
    (he : IsEnum s.heap e z c old) (hz : ZAny s.heap z TI TO) (hTI : IsTupOf2 s.heap TI (.ref i1) (.ref i2)) (hTO : IsTupOf2 s.heap TO a1 a2) (st1 : St1 i s.heap) (st2 : St2 i s.heap) (hlt1 : i < n1) (hlt2 : i < n2)
    (hQ : ∀ x1 x2 h1 h' tk, P1 i x1 → P2 i x2 → IsTupOf2 h1 s.heap.objs.size x1 x2 → h1.objs.size = s.heap.objs.size + 1 → (∀ c o, c ≠ z → c ≠ TO → c ≠ i1 → c ≠ i2 → s.heap.get? c = some o → h1.get? c = some o) →
      (∃ x, IsEnumOut h' e z (c + 1) x (s.heap.objs.size + 1)) → ZAny h' z TI TO → (∃ b1 b2, IsTupOf2 h' TO b1 b2) → St1 (i + 1) h' → St2 (i + 1) h' →
      IsTupOf2 h' (s.heap.objs.size + 1) (.int c tk) (.ref s.heap.objs.size) → (∀ b o, b ≠ e → h1.get? b = some o → h'.get? b = some o) → Q (some (.ref (s.heap.objs.size + 1))) { s with heap := h', toks := tk + 1 }) :
    wpAny (model prog w) A (pyNext (.ref e)) Q E s := by
  have hT : s.TypeIs (.ref e) "enumerate" := ⟨_, he, rfl⟩
  unfold pyNext
  exact wpAny_bind (wpAny_attempt (wpAny_callSpecial?_slot (name := Str.ofString "__next__") hT F.slot_enumerate_next
    (wpAny_call_entry F.slot_enumerate_next hT F.entry_enumerate_next
      (ez_next S Z D1 D2 he hz hTI hTO st1 st2 hlt1 hlt2 fun x1 x2 h1 h' tk a b c d k l m n o p q r => wpAny_pure (hQ x1 x2 h1 h' tk a b c d k l m n o p q r)) (F.args_enumerate_next_1 _))))
theorem ez_pyNext_end {Q : Option Value → Shared → Prop} (S : ZipSep2 z TI TO i1 i2 fp1 fp2) (D1 : Draws prog w A.in1.in1 i1 fp1 n1 P1 St1) (D2 : Draws prog w A.in1.in1 i2 fp2 n2 P2 St2)
    (he : IsEnum s.heap e z c old) (hz : ZAny s.heap z TI TO) (hTI : IsTupOf2 s.heap TI (.ref i1) (.ref i2)) (hTO : IsTupOf2 s.heap TO a1 a2) (st1 : St1 i s.heap) (st2 : St2 i s.heap) (hle1 : i ≤ n1) (hle2 : i ≤ n2) (hend : i = n1 ∨ i = n2)
    (hQ : ∀ h' tk, (∀ c o, c ≠ z → c ≠ TO → c ≠ i1 → c ≠ i2 → s.heap.get? c = some o → h'.get? c = some o) → Q none { s with heap := h', toks := tk }) :
    wpAny (model prog w) A (pyNext (.ref e)) Q E s := by
  have hT : s.TypeIs (.ref e) "enumerate" := ⟨_, he, rfl⟩
  unfold pyNext
  refine wpAny_bind (wpAny_attempt (wpAny_callSpecial?_slot (name := Str.ofString "__next__") hT F.slot_enumerate_next
    (wpAny_call_entry F.slot_enumerate_next hT F.entry_enumerate_next ?_ (F.args_enumerate_next_1 _))))
  show wpAny _ _ (field (.ref e) 2 >>= _) _ _ _
  refine wpAny_bind (wpAny_field he rfl (x := .ref z) rfl ?_)
  refine wpAny_bind (znext_stop S D1 D2 hz hTI hTO st1 st2 hle1 hle2 hend fun h' tk x hk hx => ?_)
  obtain ⟨o, ho, hc⟩ := hx
  refine wpAny_bind (wpAny_isInstance (T := "StopIteration") (b := true) ⟨o, ho, hc⟩ isSubtype_stop ?_)
  exact wpAny_pure (hQ _ _ hk)
end
end Md
namespace PySem
open Sem (wp)
set_option maxHeartbeats 1000000 in
theorem md_enumerate_newZ {z TI TO : Addr} :
    Meets (Builtin.«enumerate.__new__» ⟨[.type "enumerate", .ref z], []⟩) (fun _ R s => IsZip s.heap z TI TO .none ∧
      R (.ok (.ret (.ref s.heap.objs.size))) { s with heap := s.heap.push { cls := .type "enumerate", data := .fields #[.none, .bool false, .ref z, rawInt 0, .none, .none] } }) :=
  .of_wp fun prog w A R s h => by
    obtain ⟨hp, g, d, tk, os⟩ := s; obtain ⟨h1, h⟩ := h
    have hsub := sub_enumerate
    have q1 : ∀ {A' : Around} {E : Value → Shared → Prop} {Q : Value → Shared → Prop}, Q (.ref z) ⟨hp, g, d, tk, os⟩ → wpAny (model prog w) A' (pyIter (.ref z)) Q E ⟨hp, g, d, tk, os⟩ :=
      fun q => wpAny_pyIter_zip h1 q
    wp_walk using q1
    refine wpAny_stack_any fun st => wpAny_pure ?_
    split
    · rename_i c _ _ _ _ _
      cases (c == Value.type "enumerate")
      · wp_walk using q1
        exact ⟨_, rfl, h⟩
      · wp_walk using q1
        exact ⟨_, rfl, h⟩
    · wp_walk using q1
      exact ⟨_, rfl, h⟩
section
variable {prog : Program} {w : World} {A : Around} {E : Value → Shared → Prop} {s : Shared}
theorem md_enum_beginsZ {z TI TO : Addr} {Q : Value → Shared → Prop} (h1 : IsZip s.heap z TI TO .none)
    (h : ∀ h', IsEnum h' s.heap.objs.size z 0 .none → (∀ b o, s.heap.get? b = some o → h'.get? b = some o) → Q (.ref s.heap.objs.size) { s with heap := h' }) :
    wpAny (model prog w) A (call (.type "enumerate") [.ref z]) Q E s := by
  refine callType_new F.called_enumerate (by decide) (F.typeCall_enumerate_1 _) (F.newCall_enumerate_1 _) (fun obj => F.args_object_init_2 obj _) F.entry_enumerate_new
    md_enumerate_newZ ⟨h1, ?_⟩
  have he : IsEnum (s.heap.push { cls := .type "enumerate", data := .fields #[.none, .bool false, .ref z, rawInt 0, .none, .none] }) s.heap.objs.size z 0 .none := Heap.get?_push_size _ rfl
  exact ⟨⟨_, he, rfl⟩, h _ he fun b o x => Heap.get?_push_of_some _ x⟩
end
end PySem
namespace Md
open PySem PySem.Spec PyProof.Rows L2
def YEz (xs ys : List V) : Nat → Hp → V → Hp → Prop := fun i H x H' => ∃ T U a b, H T = none ∧ H U = none ∧ U ≠ T ∧ x = .ref U ∧ H' = upd (upd H T (.tup [a, b])) U (.tup [.int (i : Nat), .ref T]) ∧ xs[i]? = some a ∧ ys[i]? = some b
def ItEz (xs ys : List V) (G : Hp → Prop) : It :=
  ⟨fun i H => i < min xs.length ys.length ∧ G H, YEz xs ys, fun i H => i = min xs.length ys.length ∧ G H⟩
theorem walk_Ez {xs ys : List V} {G : Hp → Prop} : Walk (ItEz xs ys G) (min xs.length ys.length) G (YEz xs ys) :=
  ⟨fun _ _ hi q => ⟨hi, q⟩, fun _ q => ⟨rfl, q⟩, fun _ _ _ _ _ _ y => y⟩
def ezTn (k1 k2 : Kd) (x y : V) (e z TI TO i1 i2 : Addr) (i : Nat) (h : Heap) : Prop :=
  (∃ old, IsEnum h e z (i : Nat) old) ∧ ZAny h z TI TO ∧ IsTupOf2 h TI (.ref i1) (.ref i2) ∧ (∃ a1 a2, IsTupOf2 h TO a1 a2) ∧ ItAt k1 x i1 i h ∧ ItAt k2 y i2 i h
structure SepE (e z TI TO i1 i2 : Addr) : Prop where
  s : Sep2 z TI TO i1 i2
  z : e ≠ z
  TI : e ≠ TI
  TO : e ≠ TO
  i1 : e ≠ i1
  i2 : e ≠ i2
theorem SepE.new (N : Addr) : SepE (N + 5) (N + 4) (N + 2) (N + 3) N (N + 1) := by
  have e := naddr N
  exact ⟨Sep2.new N, e 5 4 (by decide), e 5 2 (by decide), e 5 3 (by decide), e 5 0 (by decide), e 5 1 (by decide)⟩
theorem turn_ez {P : Program} {w : World} {K : PySem.W.Frag} {elts : List Expr} {kk : Nat} {tpos : Pos} {k1 k2 : Kd} {x y : V} {xs ys : List V} {e z TI TO i1 i2 : Addr} (S : SepE e z TI TO i1 i2) :
    Turn P w K (.Tuple elts kk tpos) (ItEz xs ys (fun H => SrcAt k1 x xs H ∧ SrcAt k2 y ys H)) [e, z, TI, TO, i1, i2] e (ezTn k1 k2 x y e z TI TO i1 i2) where
  mem := by simp
  obj := fun i h st c hc => by
    obtain ⟨⟨old, he⟩, ⟨a0, f, _, hz⟩, hTI, ⟨a1, a2, hTO⟩, h1, h2⟩ := st
    have e' : c = e ∨ c = z ∨ c = TI ∨ c = TO ∨ c = i1 ∨ c = i2 := by simpa using hc
    rcases e' with q | q | q | q | q | q
    · rw [q]; exact ⟨_, he, fun v q => nomatch q⟩
    · rw [q]; exact ⟨_, hz, fun v q => nomatch q⟩
    · rw [q]; exact ⟨_, hTI, fun v q => nomatch q⟩
    · rw [q]; exact ⟨_, hTO, fun v q => nomatch q⟩
    · rw [q]; exact h1.obj
    · rw [q]; exact h2.obj
  keep := fun i h h' st k => by
    obtain ⟨⟨old, he⟩, ⟨a0, f, ha, hz⟩, hTI, ⟨a1, a2, hTO⟩, h1, h2⟩ := st
    exact ⟨⟨old, k e (by simp) _ he⟩, ⟨a0, f, ha, k z (by simp) _ hz⟩, k TI (by simp) _ hTI, ⟨a1, a2, k TO (by simp) _ hTO⟩, h1.keeps (k i1 (by simp)), h2.keeps (k i2 (by simp))⟩
  item := by
    intro X hP hw hK hc i pins s σ H E I hf st hg
    subst hP hw hK
    obtain ⟨hi, hG⟩ := hg
    obtain ⟨⟨old, he⟩, hz, hTI, ⟨a1, a2, hTO⟩, h1, h2⟩ := st
    have hn : ∀ b ∈ [e, z, TI, TO, i1, i2], H b = none := fun b hb => (hf b hb).1
    have hh : X.A.in1.in1.handled = none := I.ok.hd hc
    obtain ⟨fp1, P1, St1, D1, m1, f1, s1, b1, y1⟩ := src_draws (A := X.A.in1.in1) I hG.1 h1 (hn i1 (by simp)) hh
    obtain ⟨fp2, P2, St2, D2, m2, f2, s2, b2, y2⟩ := src_draws (A := X.A.in1.in1) I hG.2 h2 (hn i2 (by simp)) hh
    have Z := S.s.zip (hn z (by simp)) (hn TO (by simp)) (hn i1 (by simp)) (hn i2 (by simp)) m1 m2 f1 f2
    have Y : EzSep e z TI TO fp1 fp2 := ⟨S.z, S.TI, S.TO, notIn_src (hn e (by simp)) S.i1 f1, notIn_src (hn e (by simp)) S.i2 f2⟩
    have hlt1 : i < xs.length := by omega
    have hlt2 : i < ys.length := by omega
    have ltE : e < s.heap.objs.size := Heap.lt_size he
    have ltI : TI < s.heap.objs.size := Heap.lt_size hTI
    have ltO : TO < s.heap.objs.size := Heap.lt_size hTO
    have ltZ : z < s.heap.objs.size := by obtain ⟨_, _, _, q⟩ := hz; exact Heap.lt_size q
    have lt1 : i1 < s.heap.objs.size := by obtain ⟨_, q, _⟩ := h1.obj; exact Heap.lt_size q
    have lt2 : i2 < s.heap.objs.size := by obtain ⟨_, q, _⟩ := h2.obj; exact Heap.lt_size q
    refine ez_pyNext Z Y D1 D2 he hz hTI hTO s1 s2 hlt1 hlt2 fun u1 u2 g1 g2 tk p1 p2 hT hsz k1' heo hz2 hTO2 t1 t2 hU k2' => ?_
    obtain ⟨xo, heo⟩ := heo
    refine ⟨_, rfl, wpAny_letOwnedTupleGo_enum heo fun g3 he3 sb => ?_⟩
    obtain ⟨c, hc1, r1⟩ := y1 _ _ p1
    obtain ⟨d, hd1, r2⟩ := y2 _ _ p2
    replace sb : Heap.SameBut e g2 g3 := sb
    have I1 : Inv X pins σ (upd H s.heap.objs.size (.tup [c, d])) { s with heap := g1, toks := s.toks } := by
      refine I.turnedNew (ch := [z, TO, i1, i2]) (fun b o hb q => k1' b o (fun e => hb (by simp [e])) (fun e => hb (by simp [e])) (fun e => hb (by simp [e])) (fun e => hb (by simp [e])) q)
        (fun b hb => hf b ?_) (Nat.le_refl _) ⟨by show 2 ≤ sizeLine; decide, [u1, u2], .cons r1 (.cons r2 .nil), ⟨_, hT, rfl, _, rfl⟩⟩
      have hb' : b = z ∨ b = TO ∨ b = i1 ∨ b = i2 := by simpa using hb
      rcases hb' with e | e | e | e <;> rw [e] <;> simp
    have hfe : FpOk X pins (upd H s.heap.objs.size (.tup [c, d])) e := by
      obtain ⟨q0, q⟩ := hf e (by simp)
      exact ⟨by rw [upd_ne (Nat.ne_of_lt ltE)]; exact q0, q⟩
    have I2 : Inv X pins σ (upd (upd H s.heap.objs.size (.tup [c, d])) (s.heap.objs.size + 1) (.tup [.int (i : Nat), .ref s.heap.objs.size])) { s with heap := g3, toks := tk + 1 } := by
      refine I1.turnedNew (h' := g3) (t' := tk + 1) (ch := [e]) (fun b o hb q => ?_) (fun b hb => by rw [List.mem_singleton.mp hb]; exact hfe) (by show g1.objs.size ≤ _; rw [hsz]; exact Nat.le_refl _) ⟨by show 2 ≤ sizeLine; decide, [.int (i : Nat) tk, .ref s.heap.objs.size], .cons ⟨tk, rfl⟩ (.cons rfl .nil), ⟨{ cls := .type "tuple", data := .seq #[.int (i : Nat) tk, .ref s.heap.objs.size] }, ?_, rfl, _, rfl⟩⟩
      · have hbe : b ≠ e := fun q => hb (by simp [q])
        exact sb.extBut _ _ hbe (k2' _ _ hbe q)
      · exact sb.extBut _ _ (Nat.ne_of_gt (Nat.lt_succ_of_lt ltE)) hU
    refine ⟨.ref (s.heap.objs.size + 1), _, I2, rfl, ⟨s.heap.objs.size, s.heap.objs.size + 1, c, d, I.hok.fresh (Nat.le_refl _), I.hok.fresh (Nat.le_succ _), Nat.succ_ne_self _, rfl, rfl, hc1, hd1⟩, ?_, fun b hb => ?_⟩
    · obtain ⟨a0, f, ha, hz2⟩ := hz2
      obtain ⟨o1, o2, hTO2⟩ := hTO2
      have hTI2 : IsTupOf2 g2 TI (.ref i1) (.ref i2) := k2' _ _ S.TI.symm (k1' _ _ S.s.a S.s.c S.s.d S.s.e hTI)
      refine ⟨⟨xo, ?_⟩, ⟨a0, f, ha, sb.extBut _ _ S.z.symm hz2⟩, sb.extBut _ _ S.TI.symm hTI2, ⟨o1, o2, sb.extBut _ _ S.TO.symm hTO2⟩, (b1 _ _ t1).keeps fun o q => sb.extBut _ _ S.i1.symm q, (b2 _ _ t2).keeps fun o q => sb.extBut _ _ S.i2.symm q⟩
      have e1 : ((i + 1 : Nat) : Int) = (i : Int) + 1 := by omega
      rw [e1]
      exact he3
    · have hlt : b < s.heap.objs.size := by
        have e' : b = e ∨ b = z ∨ b = TI ∨ b = TO ∨ b = i1 ∨ b = i2 := by simpa using hb
        rcases e' with q | q | q | q | q | q <;> rw [q] <;> assumption
      rw [upd_ne (Nat.ne_of_lt (Nat.lt_succ_of_lt hlt)), upd_ne (Nat.ne_of_lt hlt)]
      exact hn b hb
  done := by
    intro X hP hw hK hc i pins s σ H E I hf st hg
    subst hP hw hK
    obtain ⟨rfl, hG⟩ := hg
    obtain ⟨⟨old, he⟩, hz, hTI, ⟨a1, a2, hTO⟩, h1, h2⟩ := st
    have hn : ∀ b ∈ [e, z, TI, TO, i1, i2], H b = none := fun b hb => (hf b hb).1
    have hh : X.A.in1.in1.handled = none := I.ok.hd hc
    obtain ⟨fp1, P1, St1, D1, m1, f1, s1, b1, y1⟩ := src_draws (A := X.A.in1.in1) I hG.1 h1 (hn i1 (by simp)) hh
    obtain ⟨fp2, P2, St2, D2, m2, f2, s2, b2, y2⟩ := src_draws (A := X.A.in1.in1) I hG.2 h2 (hn i2 (by simp)) hh
    have Z := S.s.zip (hn z (by simp)) (hn TO (by simp)) (hn i1 (by simp)) (hn i2 (by simp)) m1 m2 f1 f2
    refine ez_pyNext_end Z D1 D2 he hz hTI hTO s1 s2 (Nat.min_le_left ..) (Nat.min_le_right ..) (by omega) fun h' tk hk => ⟨rfl, ?_⟩
    refine I.turnedL (t' := tk) (ch := [z, TO, i1, i2]) (fun b o hb q => hk b o (fun e => hb (by simp [e])) (fun e => hb (by simp [e])) (fun e => hb (by simp [e])) (fun e => hb (by simp [e])) q) (fun b hb => hf b ?_)
    have hb' : b = z ∨ b = TO ∨ b = i1 ∨ b = i2 := by simpa using hb
    rcases hb' with e | e | e | e <;> rw [e] <;> simp
  self := fun A i s Q E st h => wpAny_pyIter_enum st.1.choose_spec h
def iEz (ta : TA) : TI := fun σ H R => ta σ H fun vs H1 => ∃ k1 k2 x y xs ys, vs = [x, y] ∧ SrcAt k1 x xs H1 ∧ SrcAt k2 y ys H1 ∧ R (ItEz xs ys (fun H => SrcAt k1 x xs H ∧ SrcAt k2 y ys H)) H1
theorem pi_enumZip {X : Cx} {e e2 : Expr} {ta : TA} {p pos p2 pos2 tpos : Pos} {elts : List Expr} {kk : Nat} (hg : Gl X "enumerate") (hg2 : Gl X "zip") (hm : X.mg "enumerate" = none) (hm2 : X.mg "zip" = none) (ha : PA X [e, e2] ta)
    (hs0 : starEach [.Call (.Name "zip" p2) [e, e2] [] pos2] X.env = [(false, eval (.Call (.Name "zip" p2) [e, e2] [] pos2) X.env)] := by rfl)
    (hs : starEach [e, e2] X.env = (false, eval e X.env) :: starEach [e2] X.env := by rfl) (hpl : (backTo pos2 (starEach [e2] X.env)).any (·.1) = false := by rfl) :
    PI X (.Tuple elts kk tpos) (.Call (.Name "enumerate" p) [.Call (.Name "zip" p2) [e, e2] [] pos2] [] pos) (iEz ta) := by
  refine ⟨fun pins s σ H R I h => ?_⟩
  refine Call_ (ld_blt I hg hm boot_enumerate (PyProof.Rows.callWith_type1 ?_ hs0 rfl))
  rw [hs0]
  show wpAny _ _ (spliced ((false, eval (.Call (.Name "zip" p2) [e, e2] [] pos2) X.env) :: [])) _ _ _
  refine Calls.spliced_cons ?_
  refine Call_ (ld_blt I hg2 hm2 PyProof.Rows.boot_zip (PyProof.Rows.callWith_type1 (thn (ha.run pos2 pins s σ H _ I h) fun us s1 ⟨vs, H1, I1, r1, q1⟩ => ?_) hs hpl))
  obtain ⟨k1, k2, x, y, xs, ys, ex, hqx, hqy, q⟩ := q1
  subst ex
  obtain ⟨u, u2, rfl, r, r'⟩ := vals2 r1
  obtain ⟨o1, G1, B1, g1, t1⟩ := src_begins I1 hqx r
  obtain ⟨o2, G2, B2, g2, t2⟩ := src_begins I1 hqy r'
  refine zip_begins2 B1 B2 g1 g2 fun h' hz hTI hTO e1 e2' hsz hk => Calls.spliced_nil ?_
  refine md_enum_beginsZ (s := { s1 with heap := h' }) hz fun h2 he hk2 => wpAny_pyIter_enum he ?_
  have hsz' : h'.objs.size = s1.heap.objs.size + 5 := hsz
  have he' : IsEnum h2 (s1.heap.objs.size + 5) (s1.heap.objs.size + 4) 0 .none := by rw [← hsz']; exact he
  have I2 : Inv X pins σ H1 { s1 with heap := h2 } := I1.kept (t' := s1.toks) fun b o q => hk2 b o (hk b o q)
  show PIE X pins σ _ R (.ref h'.objs.size) _
  rw [hsz']
  refine ⟨s1.heap.objs.size + 5, [s1.heap.objs.size + 5, s1.heap.objs.size + 4, s1.heap.objs.size + 2, s1.heap.objs.size + 3, s1.heap.objs.size, s1.heap.objs.size + 1], _, _, H1, rfl, I2, turn_ez (SepE.new _), ⟨⟨.none, he'⟩, ⟨_, _, .inl rfl, hk2 _ _ hz⟩, hk2 _ _ hTI, ⟨_, _, hk2 _ _ hTO⟩, t1 _ _ (hk2 _ _ e1), t2 _ _ (hk2 _ _ e2')⟩, fun c hcm => ?_, q⟩
  have e' : c = s1.heap.objs.size + 5 ∨ c = s1.heap.objs.size + 4 ∨ c = s1.heap.objs.size + 2 ∨ c = s1.heap.objs.size + 3 ∨ c = s1.heap.objs.size ∨ c = s1.heap.objs.size + 1 := by simpa using hcm
  have hle : s1.heap.objs.size ≤ c := by
    rcases e' with z | z | z | z | z | z <;> rw [z] <;> first | exact Nat.le_add_right _ _ | exact Nat.le_refl _
  exact I1.fpOk hle (I1.hok.fresh hle)
end Md
/-! Md: stands, steps. -/
namespace Md
open PySem PySem.Spec PyProof.Rows L2
theorem pe_noE {X : Cx} {e : Expr} : PE X e (fun _ _ _ => False) := ⟨fun _ _ _ _ _ _ h => h.elim⟩
def StOk (st : List Int) (cs : List Cmd) : Prop := st.length = cs.length ∧ ∀ (i : Nat) (z : Int) (c : Cmd), st[i]? = some z → cs[i]? = some c → -1 ≤ z ∧ z ≤ c.start.length
def spCommandsOf (A : Ad) : Sp := fun vs H Q _ => ∃ a rs cs, vs = [.ref a] ∧ RowIs A H a rs cs ∧ ∀ H' l, Ex H H' → H l = none → H' l = some (.lst rs) → Q (.ref l) H'
def spWrong (A : Ad) : Sp := fun vs H Q _ => ∃ (a t : Addr) (st : List Int) (cs : List Cmd), vs = [.ref a, .ref t] ∧ RowAt A H a cs ∧ H t = some (.tup (st.map V.int)) ∧ StOk st cs ∧ ∀ H', Ex H H' → Q .non H'
def spWordIn : Sp := fun vs H Q _ => ∃ (t : Addr) (st : List Int), vs = [.ref t] ∧ H t = some (.tup (st.map V.int)) ∧ st.length ≤ 10 ∧ ∀ H' l xs, Ex H H' → H' l = some (.tup xs) → Q (.ref l) H'
def cmd0 : Cmd := ⟨⟨false, "", []⟩, [], true, "all", []⟩
def belowI (c : Cmd) (z : Int) (p : Bool) (n : Str) : Int := if z < 0 then -1 else if p = false then -1 else if z < c.start.length then (if c.start[z.toNat]? = some n then z + 1 else -1) else z
def belowL (cs : List Cmd) (st : List Int) (ps : List Bool) (n : Str) : List Int := (List.range cs.length).map fun j => belowI (cs.getD j cmd0) (st.getD j 0) (ps.getD j false) n
def spBelow (A : Ad) : Sp := fun vs H Q _ => ∃ (a t tp : Addr) (n : Str) (st : List Int) (cs : List Cmd) (ps : List Bool), vs = [.ref a, .ref t, .ref tp, .str n] ∧ RowAt A H a cs ∧ H t = some (.tup (st.map V.int)) ∧ H tp = some (.lst (ps.map V.bl)) ∧ StOk st cs ∧ ps.length = cs.length ∧
  ∀ H' r, Ex H H' → H' r = some (.tup ((belowL cs st ps n).map V.int)) → Q (.ref r) H'
section
variable {P : Program} {w : World} {K : PySem.W.Frag} {mg : Str → Option Value} {base : Heap} {A : Ad}
theorem fn_commands_of (T : Tx K mg w A) : ∀ f fd, Fun K "commands_of" "commands_of" S_commands_of f fd → Fn P w K mg base f 6 (spCommandsOf A) := by
  intro f fd F
  refine fnr_of (k := 5) F sc_commands_of (fun _ _ _ _ _ _ us hl => match us, hl with | [_], _ => rfl) (fun vs H Q E h => by obtain ⟨x, m, _, rfl, _⟩ := h; rfl) fun f cdv Ar outer s H vs Q E c h => ?_
  have hr := c.room
  have nd := sc_commands_of.nd
  obtain ⟨a, rs, cs, rfl, hra, q⟩ := h
  have h0 := hra
  obtain ⟨hl, dx, t, ha, ht, hc⟩ := h0
  refine ⟨_, (pss_one (ps_ret (pe_lc (own := [("at", 1)]) (g := gName 1) rfl nd (pi_range1 (by rfl) T.b_range (pa_cons (pe_callB (call_lenO c) (by rfl) T.b_len PySem.boot_len (pa_cons (pv 0) pa_nil)) pa_nil)) (blkOk_by (N := N_commands_of) (sc := defScope S_commands_of) (by decide +kernel)) (fun _ _ _ _ _ => (pg_name (i := 1) nd rfl (Or.inl rfl))) (fun _ _ _ _ _ => pts_nil) (fun _ _ _ _ _ => (pe_ixO c.b (pv 0) (pv 1)))))), ?_⟩
  refine ⟨_, rfl, a, _, dx, _, _, rfl, ha, scal_of T.s_Row_len (fn_Row_len T), a, cs, rfl, hra.row, fun H1 e1 => ?_⟩
  refine ⟨_, rfl, by omega, by omega, _, rfl, by omega, by omega, fun D hD => lc_pure (walk_rng0 (n := cs.length)) (fun _ => true) (fun i => rs.getD i .non) hD (by omega) (fun _ _ => trivial) ?_ fun H2 e2 hl2 => ?_⟩
  · rintro i x H2 H3 hi e2 ⟨rfl, rfl⟩ Kn Ky _ hy
    have hv : rs[i]? = some (rs.getD i .non) := by
      have : i < rs.length := by rw [hc.1]; exact hi
      rw [List.getElem?_eq_getElem this]
      simp [List.getD, List.getElem?_eq_getElem this]
    exact ⟨rfl, _, rfl, _, rfl, a, _, dx, _, _, rfl, e2 _ _ (e1 _ _ ha), scal_of T.s_Row_getitem (fn_Row_item T), a, i, rs, cs, _, rfl, hra.ex (ext e1 e2), hv, fun H4 e4 => hy rfl H4 e4⟩
  · rw [gvn_all] at hl2
    exact q H2 D (ext e1 e2) (e1.none hD) (by rw [hl2]; have := rng_getD rs V.non (fun v => v) hc.1.symm; rw [this]; simp)
theorem fn_word_in (T : Tx K mg w A) : ∀ f fd, Fun K "word_in" "word_in" S_word_in f fd → Fn P w K mg base f 1 spWordIn := by
  intro f fd F
  refine fnr_of (k := 0) F sc_word_in (fun _ _ _ _ _ _ us hl => match us, hl with | [_], _ => rfl) (fun vs H Q E h => by obtain ⟨x, m, rfl, _⟩ := h; rfl) fun f cdv Ar outer s H vs Q E c h => ?_
  have hr := c.room
  have nd := sc_word_in.nd
  obtain ⟨t, st, rfl, ht, hl, q⟩ := h
  refine ⟨_, (pss_one (ps_ret (pe_callTy (tup_C c) (by rfl) T.b_tuple (by decide +kernel) (pa_cons (pe_lc (own := [("at", 1), ("place", 2)]) (g := gTup K 2 (gCons (gName 1) (gCons (gName 2) gNil))) rfl nd (pi_enumA (by rfl) T.b_enumerate (pa_cons (pv 0) pa_nil)) (blkOk_by (N := N_word_in) (sc := defScope S_word_in) (by decide +kernel)) (fun _ _ _ _ _ => (pg_tupC c.b rfl (pgs_cons (pg_name (i := 1) nd rfl (Or.inl rfl)) (pgs_cons (pg_name (i := 2) nd rfl (Or.inl rfl)) pgs_nil)))) (fun _ _ _ _ _ => (pts_one (pt_cmpR op_ge (pv 2) pe_int (nomark _)))) (fun _ _ _ _ _ => (pv 1))) pa_nil)))), ?_⟩
  refine ⟨_, rfl, .t, .ref t, _, rfl, ⟨t, rfl, ht⟩, fun D hD => lc_pure walk_P (fun i => decide (0 ≤ st.getD i 0)) (fun i => .int (i : Nat)) hD (by rw [List.length_map]; omega) (fun H1 e1 => ⟨t, rfl, e1 _ _ ht⟩) ?_ fun H2 e2 hl2 => ?_⟩
  · rintro i x H2 H3 hi e2 ⟨Ta, ys, hT, rfl, rfl, a, rfl, ha⟩ Kn Ky hn hy
    rw [List.getElem?_map] at ha
    obtain ⟨z, hz, rfl⟩ := Option.map_eq_some_iff.mp ha
    have hg : st.getD i 0 = z := by simp [List.getD, hz]
    rw [hg] at hn hy
    refine ⟨Ta, _, rfl, SqT.of upd_same, rfl, _, _, rfl, _, _, rfl, rfl, rfl, _, rfl, _, _, rfl, rfl, _, rfl, ?_⟩
    cases hc : decide (0 ≤ z) with
    | true => exact iteT ⟨_, rfl, hy hc _ (exn hT)⟩
    | false => exact iteF (hn hc _ (exn hT))
  · exact ⟨D, _, rfl, .inl ⟨SqL.of hl2, fun l hln => q _ l _ (ext e2 (exn hln)) upd_same⟩⟩
theorem ez_at {A : Ad} {H : Hp} {st : List Int} {cs : List Cmd} {rs : List V} {i : Nat} {y1 y2 : V} (hc : CmdsAt A H rs cs) (h1 : (st.map V.int)[i]? = some y1) (h2 : rs[i]? = some y2) :
    ∃ z c b, y1 = .int z ∧ y2 = .ref b ∧ st[i]? = some z ∧ cs[i]? = some c ∧ CmdAt A H b c := by
  rw [List.getElem?_map] at h1
  obtain ⟨z, hz, rfl⟩ := Option.map_eq_some_iff.mp h1
  have hi : i < cs.length := by rw [← hc.1]; exact (List.getElem?_eq_some_iff.mp h2).1
  obtain ⟨b, hb, hcb⟩ := hc.2 i cs[i] (List.getElem?_eq_getElem hi)
  rw [h2] at hb
  cases hb
  exact ⟨z, cs[i], b, rfl, rfl, hz, List.getElem?_eq_getElem hi, hcb⟩
theorem fn_wrong_index (T : Tx K mg w A) : ∀ f fd, Fun K "wrong_index" "wrong_index" S_wrong_index f fd → Fn P w K mg base f 7 (spWrong A) := by
  intro f fd F
  refine fnr_of (k := 6) F sc_wrong_index (fun _ _ _ _ _ _ us hl => match us, hl with | [_, _], _ => rfl) (fun vs H Q E h => by obtain ⟨x, m, _, _, rfl, _⟩ := h; rfl) fun f cdv Ar outer s H vs Q E c h => ?_
  have hr := c.room
  have nd := sc_wrong_index.nd
  obtain ⟨a, t, st, cs, rfl, hrow, ht, hok, q⟩ := h
  have h10 := hrow.1
  obtain ⟨rs, hri⟩ := hrow.is
  have hcs := hri
  obtain ⟨_, dx, tt, ha, htt, hc⟩ := hcs
  refine ⟨_, (pss_cons (ps_if (pt_not (pt_val (pe_callB (isi_C c) (by rfl) T.b_isinstance (by decide +kernel) (pa_cons (pv 1) (pa_cons (pe_bltn (by rfl) T.b_tuple (by decide +kernel) (v := .ty "tuple") rfl) pa_nil))))) (pss_one (ps_ret pe_int)) pss_nil)
 (pss_cons (ps_for PassesOwn.never rfl (pi_enumZip (by rfl) (by rfl) T.b_enumerate T.b_zip (pa_cons (pv 1) (pa_cons (pe_fn c (by rfl) (pa_cons (pv 0) pa_nil)) pa_nil))) (pg_tupC c rfl (pgs_cons (pg_name (i := 2) nd rfl (Or.inl rfl)) (pgs_cons (pg_tupC c rfl (pgs_cons (pg_name (i := 3) nd rfl (Or.inl rfl)) (pgs_cons (pg_name (i := 4) nd rfl (Or.inl rfl)) pgs_nil))) pgs_nil)))
 (pss_one (ps_if (pt_not (pt_val (pe_fn c (by rfl) (pa_cons (pv 3) (pa_cons (pe_un un_neg pe_int) (pa_cons (pe_callB (len_C c) (by rfl) T.b_len PySem.boot_len (pa_cons (pe_fn c (by rfl) (pa_cons (pe_at c (pv 4)) pa_nil)) pa_nil)) pa_nil)))))) (pss_one (ps_ret (pv 2))) pss_nil)))
 (pss_one (ps_ret (pe_ifExp (pt_cmpR op_eq (pe_callB (len_C c) (by rfl) T.b_len PySem.boot_len (pa_cons (pv 1) pa_nil)) (pe_callB (call_lenO c) (by rfl) T.b_len PySem.boot_len (pa_cons (pv 0) pa_nil)) (nomark _)) pe_non pe_noE))))), ?_⟩
  refine ⟨_, rfl, _, _, _, _, true, rfl, .ty _, .base (.tup ht), kit_ty (by decide +kernel), _, rfl, iteF ?_⟩
  refine ⟨_, rfl, _, cal_of T.f_commands_of (fn_commands_of T), _, rfl, a, rs, cs, rfl, hri, fun H1 L e1 hL0 hL => ?_⟩
  refine ⟨.t, .l, .ref t, .ref L, _, _, rfl, ⟨t, rfl, e1 _ _ ht⟩, ⟨L, rfl, hL⟩, for_it walk_Ez (fun i σ H' => (∃ v2 v3 v4, σ = [some (.ref a), some (.ref t), v2, v3, v4]) ∧ Ex H1 H') ⟨⟨none, none, none, rfl⟩, exr _⟩ (fun i σ H' _ p => ⟨⟨t, rfl, p.2 _ _ (e1 _ _ ht)⟩, ⟨L, rfl, p.2 _ _ hL⟩⟩) ?_ ?_⟩
  · rintro i x σ H2 H3 hi ⟨⟨v2, v3, v4, rfl⟩, e2⟩ ⟨Ta, U, y1, y2, hT, hU, hUT, rfl, rfl, hy1, hy2⟩
    obtain ⟨z, m, b, rfl, rfl, hz, hm, hcm⟩ := ez_at hc hy1 hy2
    have e3 : Ex H2 (upd (upd H2 Ta (.tup [.int z, .ref b])) U (.tup [.int (i : Nat), .ref Ta])) := exm (exn hT) hU
    have hT3 : upd (upd H2 Ta (.tup [.int z, .ref b])) U (.tup [.int (i : Nat), .ref Ta]) Ta = some (.tup [.int z, .ref b]) := by rw [upd_ne hUT.symm]; exact upd_same
    have hU3 : upd (upd H2 Ta (.tup [.int z, .ref b])) U (.tup [.int (i : Nat), .ref Ta]) U = some (.tup [.int (i : Nat), .ref Ta]) := upd_same
    generalize upd (upd H2 Ta (.tup [.int z, .ref b])) U (.tup [.int (i : Nat), .ref Ta]) = H3 at e3 hT3 hU3 ⊢
    have e03 : Ex H H3 := ext e1 (ext e2 e3)
    have hcm3 := hcm.ex e03
    obtain ⟨okc, dxc, tc, ua, ca, hb3, _⟩ := hcm3
    refine ⟨U, _, rfl, SqT.of hU3, rfl, _, _, rfl, _, _, rfl, ⟨Ta, _, rfl, SqT.of hT3, rfl, _, _, rfl, _, _, rfl, rfl, ?_⟩⟩
    have hst := hok.2 i z m hz hm
    have hs3 := okc.le
    refine ⟨rfl, _, cal_of T.f_is_integer (fn_is_integer T), _, rfl, _, rfl, _, cal_of T.f_names_of (fn_names_of T), _, rfl, b, _, dxc, _, rfl, hb3, .inr ⟨_, pcal_of T.p_Command_start T.o_Command.cl (fn_Command_start T), b, m, rfl, hcm.ex e03, fun H4 e4 => ?_⟩⟩
    refine ⟨_, rfl, okc.st, by omega, fun pn H5 e5 hpn hpn5 => ⟨pn, _, rfl, .inr (SqT.of hpn5), _, _, _, rfl, fun H6 e6 => ⟨_, rfl, ?_⟩⟩⟩
    rw [decide_eq_true (by omega), decide_eq_true (by rw [List.length_map]; omega)]
    exact iteF ⟨⟨_, _, _, rfl⟩, ext e2 (ext e3 (ext e4 (ext e5 e6)))⟩
  · rintro σ H2 ⟨⟨v2, v3, v4, rfl⟩, e2⟩
    have e12 := ext e1 e2
    refine ⟨_, rfl, t, _, rfl, .inr (SqT.of (e12 _ _ ht)), _, rfl, a, _, dx, _, _, rfl, e12 _ _ ha, scal_of T.s_Row_len (fn_Row_len T), a, cs, rfl, hrow.ex e12, fun H3 e3 => ⟨_, rfl, by omega, by omega, rfl, _, rfl, ?_⟩⟩
    dsimp only
    rw [decide_eq_true (by rw [List.length_map, hok.1])]
    exact q _ (ext e12 e3)
theorem fn_need_stand (T : Tx K mg w A) : ∀ f fd, Fun K "need_stand" "need_stand" S_need_stand f fd → Fn P w K mg base f 8 (spWrong A) := by
  intro f fd F
  refine fnr_of (k := 7) F sc_need_stand (fun _ _ _ _ _ _ us hl => match us, hl with | [_, _], _ => rfl) (fun vs H Q E h => by obtain ⟨x, m, _, _, rfl, _⟩ := h; rfl) fun f cdv Ar outer s H vs Q E c h => ?_
  have hr := c.room
  have nd := sc_need_stand.nd
  obtain ⟨a, t, st, cs, rfl, hrow, ht, hok, q⟩ := h
  refine ⟨_, (pss_cons (ps_set (i := 2) nd rfl (Or.inl rfl) (pe_fn c (by rfl) (pa_cons (pv 0) (pa_cons (pv 1) pa_nil))))
 (pss_one (ps_if (pt_cmpR op_notN (pv 2) pe_non (nomark _)) (pss_one ps_never) pss_nil))), ?_⟩
  refine ⟨_, cal_of T.f_wrong_index (fn_wrong_index T), _, rfl, _, rfl, a, t, st, cs, rfl, hrow, ht, hok, fun H1 e1 => ?_⟩
  exact ⟨_, rfl, rfl, _, rfl, iteF (q _ e1)⟩
theorem fn_stand_below (T : Tx K mg w A) : ∀ f fd, Fun K "stand_below" "stand_below" S_stand_below f fd → Fn P w K mg base f 7 (spBelow A) := by
  intro f fd F
  refine fnr_of (k := 6) F sc_stand_below (fun _ _ _ _ _ _ us hl => match us, hl with | [_, _, _, _], _ => rfl) (fun vs H Q E h => by obtain ⟨x, m, _, _, _, _, _, rfl, _⟩ := h; rfl) fun f cdv Ar outer s H vs Q E c h => ?_
  have hr := c.room
  have nd := sc_stand_below.nd
  obtain ⟨a, t, tp, n, st, cs, ps, rfl, hrow, ht, htp, hok, hps, q⟩ := h
  have h10 := hrow.1
  obtain ⟨rs, hri⟩ := hrow.is
  have hcs := hri
  obtain ⟨_, dx, tt, ha, htt, hc⟩ := hcs
  refine ⟨_, (pss_cons (ps_set (i := 4) nd rfl (Or.inl rfl) (pe_lst pa_nil))
 (pss_cons (ps_for PassesOwn.never rfl (pi_zip3 (by rfl) T.b_zip (pa_cons (pv 1) (pa_cons (pe_fn c (by rfl) (pa_cons (pv 0) pa_nil)) (pa_cons (pv 2) pa_nil)))) (pg_tupC c rfl (pgs_cons (pg_name (i := 5) nd rfl (Or.inl rfl)) (pgs_cons (pg_name (i := 6) nd rfl (Or.inl rfl)) (pgs_cons (pg_name (i := 7) nd rfl (Or.inl rfl)) pgs_nil))))
 (pss_cons (ps_set (i := 8) nd rfl (Or.inl rfl) (pe_fn c (by rfl) (pa_cons (pe_at c (pv 6)) pa_nil)))
 (pss_one (ps_if (PW.pt (pw_or (pt_cmpR op_lt (pv 5) pe_int (nomark _)) (pw_or (pt_not (pt_val (pv 7))) (pw_or1 (PW.pt (pw_and (pt_cmpR op_lt (pv 5) (pe_callB (len_C c) (by rfl) T.b_len PySem.boot_len (pa_cons (pv 8) pa_nil)) (nomark _)) (pw_and1 (pt_cmpR op_ne (pe_ix (ix_tupC c) (pv 8) (pv 5) (fun _ _ => rfl)) (pv 3) (nomark _))))))))) (pss_one (ps_expr (pe_bmC c PySem.F.plainAttrs_list PySem.F.slot_list_append PySem.F.type_list_append mt_append (pv 4) (pa_cons (pe_un un_neg pe_int) pa_nil)))) (pss_one (ps_expr (pe_bmC c PySem.F.plainAttrs_list PySem.F.slot_list_append PySem.F.type_list_append mt_append (pv 4) (pa_cons (pe_op op_add (pv 5) (pe_callTy call_int1 (by rfl) T.b_int (by decide +kernel) (pa_cons (pe_cmpR op_lt (pv 5) (pe_callB (len_C c) (by rfl) T.b_len PySem.boot_len (pa_cons (pv 8) pa_nil)) (nomark _)) pa_nil))) pa_nil))))))))
 (pss_one (ps_ret (pe_callTy (tup_C c) (by rfl) T.b_tuple (by decide +kernel) (pa_cons (pv 4) pa_nil)))))), ?_⟩
  refine ⟨by show 0 ≤ sizeLine; decide, fun F hF => ?_⟩
  have eF : Ex H (upd H F (.lst [])) := exn hF
  have hF0 : upd H F (.lst []) F = some (.lst []) := upd_same
  refine ⟨_, rfl, _, cal_of T.f_commands_of (fn_commands_of T), _, rfl, a, rs, cs, rfl, hri.ex eF, fun H1 L e1 hL0 hL => ⟨_, rfl, ?_⟩⟩
  have eb : Ex H (dele F H1) := dele_of (ext eF e1) hF
  have hLF : L ≠ F := (ne_of_none hF0 hL0).symm
  refine ⟨.t, .l, .l, .ref t, .ref L, .ref tp, _, _, _, rfl, ⟨t, rfl, (ext eF e1) _ _ ht⟩, ⟨L, rfl, hL⟩, ⟨tp, rfl, (ext eF e1) _ _ htp⟩, for_it walk_P (fun i σ H' => (∃ v5 v6 v7 v8, σ = [some (.ref a), some (.ref t), some (.ref tp), some (.str n), some (.ref F), v5, v6, v7, v8]) ∧
    ∃ hb, Ex (dele F H1) hb ∧ hb F = none ∧ Ex hb H' ∧ H' F = some (.lst (((List.range i).map fun j => belowI (cs.getD j cmd0) (st.getD j 0) (ps.getD j false) n).map V.int)))
    ⟨⟨none, none, none, none, rfl⟩, dele F H1, exr _, dele_at, dele_sub, e1 _ _ hF0⟩ (fun i σ H' _ p => ?_) ?_ ?_⟩
  · obtain ⟨_, hb, e2, _, e3, _⟩ := p
    have e := ext e2 e3
    exact ⟨⟨t, rfl, e _ _ (eb _ _ ht)⟩, ⟨L, rfl, e _ _ (by rw [dele_ne hLF]; exact hL)⟩, ⟨tp, rfl, e _ _ (eb _ _ htp)⟩⟩
  · rintro i x σ H2 H3 hi ⟨⟨v5, v6, v7, v8, rfl⟩, hb, e2, hbF, e3, hF2⟩ ⟨Ta, ys, hT, rfl, rfl, y1, y2, y3, rfl, hy1, hy2, hy3⟩
    obtain ⟨z, m, b, rfl, rfl, hz, hm, hcm⟩ := ez_at hc hy1 hy2
    rw [List.getElem?_map] at hy3
    obtain ⟨pb, hpb, rfl⟩ := Option.map_eq_some_iff.mp hy3
    have e4 : Ex H2 (upd H2 Ta (.tup [.int z, .ref b, .bl pb])) := exn hT
    have hT3 : upd H2 Ta (.tup [.int z, .ref b, .bl pb]) Ta = some (.tup [.int z, .ref b, .bl pb]) := upd_same
    generalize upd H2 Ta (.tup [.int z, .ref b, .bl pb]) = H3 at e4 hT3 ⊢
    have e03 : Ex H H3 := ext eb (ext e2 (ext e3 e4))
    have hcm3 := hcm.ex e03
    obtain ⟨okc, dxc, tc, ua, ca, hb3, _⟩ := hcm3
    refine ⟨Ta, _, rfl, SqT.of hT3, rfl, _, _, rfl, _, _, rfl, _, _, rfl, rfl, ?_⟩
    have hst := hok.2 i z m hz hm
    have hs3 := okc.le
    refine ⟨_, cal_of T.f_names_of (fn_names_of T), _, rfl, b, _, dxc, _, rfl, hb3, .inr ⟨_, pcal_of T.p_Command_start T.o_Command.cl (fn_Command_start T), b, m, rfl, hcm.ex e03, fun H4 e5 => ?_⟩⟩
    refine ⟨_, rfl, okc.st, by omega, fun pn H5 e6 hpn hpn5 => ?_⟩
    have e35 : Ex H3 H5 := ext e5 e6
    have hF3 := e4 _ _ hF2
    have hF5 := e35 _ _ hF3
    have g1 : cs.getD i cmd0 = m := by simp [List.getD, hm]
    have g2 : st.getD i 0 = z := by simp [List.getD, hz]
    have g3 : ps.getD i false = pb := by simp [List.getD, hpb]
    have fin : ∀ (v : Int), belowI m z pb n = v → ∃ hb, Ex (dele F H1) hb ∧ hb F = none ∧ Ex hb (upd H5 F (.lst (((List.range i).map fun j => belowI (cs.getD j cmd0) (st.getD j 0) (ps.getD j false) n).map V.int ++ [.int v]))) ∧
        upd H5 F (.lst (((List.range i).map fun j => belowI (cs.getD j cmd0) (st.getD j 0) (ps.getD j false) n).map V.int ++ [.int v])) F = some (.lst (((List.range (i + 1)).map fun j => belowI (cs.getD j cmd0) (st.getD j 0) (ps.getD j false) n).map V.int)) := by
      intro v hv
      refine ⟨dele F H5, ext e2 (dele_of (ext e3 (ext e4 e35)) hbF), dele_at, dele_up, ?_⟩
      rw [upd_same, List.range_succ, List.map_append, List.map_append]
      simp only [List.map_cons, List.map_nil, g1, g2, g3, hv]
    have hlen : (((List.range i).map fun j => belowI (cs.getD j cmd0) (st.getD j 0) (ps.getD j false) n).map V.int).length < sizeLine := by
      rw [List.length_map, List.length_map, List.length_range]
      refine zt ?_
      have := (List.getElem?_eq_some_iff.mp hm).1
      omega
    have lenI : ((m.start.map V.str).length : Int) = (m.start.length : Int) := by rw [List.length_map]
    have bad : ∀ D : Ends, (∀ v, belowI m z pb n = v → D.nx [some (.ref a), some (.ref t), some (.ref tp), some (.str n), some (.ref F), some (.int z), some (.ref b), some (.bl pb), some (.ref pn)] (upd H5 F (.lst (((List.range i).map fun j => belowI (cs.getD j cmd0) (st.getD j 0) (ps.getD j false) n).map V.int ++ [.int v])))) →
        belowI m z pb n = -1 → (tDrop (tBM K "list" rAppend (tVar 4) (tCons (tUn (rU fun i => V.int (-i)) (tC (V.int 1))) tNil))) D [some (.ref a), some (.ref t), some (.ref tp), some (.str n), some (.ref F), some (.int z), some (.ref b), some (.bl pb), some (.ref pn)] H5 :=
      fun D hD hv => ⟨_, rfl, .inl ⟨rfl, _, SqL.of hF5⟩, _, rfl, F, _, _, rfl, rfl, hF5, hlen, hD (-1) hv⟩
    have good : ∀ D : Ends, (∀ v, belowI m z pb n = v → D.nx [some (.ref a), some (.ref t), some (.ref tp), some (.str n), some (.ref F), some (.int z), some (.ref b), some (.bl pb), some (.ref pn)] (upd H5 F (.lst (((List.range i).map fun j => belowI (cs.getD j cmd0) (st.getD j 0) (ps.getD j false) n).map V.int ++ [.int v])))) →
        belowI m z pb n = z + (if (decide (z < (m.start.map V.str).length)) = true then 1 else 0) → (tDrop (tBM K "list" rAppend (tVar 4) (tCons (tOp (rI0 fun i j => V.int (i + j)) (tVar 5) (tCB (fun xs H Q => (∃ i, xs = [V.int i] ∧ Q (V.int i) H) ∨ ∃ k, xs = [V.bl k] ∧ Q (V.int (if k = true then 1 else 0)) H)
        (tCons (tOp (rI0 fun i j => V.bl (decide (i < j))) (tVar 5) (tCB (rLenS K) (tCons (tVar 8) tNil))) tNil))) tNil))) D [some (.ref a), some (.ref t), some (.ref tp), some (.str n), some (.ref F), some (.int z), some (.ref b), some (.bl pb), some (.ref pn)] H5 :=
      fun D hD hv => ⟨_, rfl, .inl ⟨rfl, _, SqL.of hF5⟩, _, rfl, _, rfl, _, rfl, pn, _, rfl, .inr (SqT.of hpn5), _, _, rfl, rfl, .inr ⟨_, rfl, _, _, rfl, rfl, F, _, _, rfl, rfl, hF5, hlen, hD _ hv⟩⟩
    have hD : ∀ v, belowI m z pb n = v → _ := fun v hv => (⟨⟨some (.int z), some (.ref b), some (.bl pb), some (.ref pn), rfl⟩, fin v hv⟩ : (∃ v5 v6 v7 v8, [some (V.ref a), some (.ref t), some (.ref tp), some (.str n), some (.ref F), some (.int z), some (.ref b), some (.bl pb), some (.ref pn)] = [some (V.ref a), some (.ref t), some (.ref tp), some (.str n), some (.ref F), v5, v6, v7, v8]) ∧ _)
    refine ⟨_, rfl, _, _, rfl, rfl, _, rfl, ?_⟩
    by_cases z0 : z < 0
    · rw [decide_eq_true z0]
      exact iteT (iteT (bad _ hD (by unfold belowI; rw [if_pos z0])))
    rw [decide_eq_false z0]
    refine iteF ⟨_, rfl, _, rfl, ?_⟩
    cases pb with
    | false => exact iteT (iteT (bad _ hD (by unfold belowI; rw [if_neg z0, if_pos rfl])))
    | true =>
      refine iteF ⟨_, rfl, _, rfl, pn, _, rfl, .inr (SqT.of hpn5), _, _, rfl, rfl, _, rfl, ?_⟩
      dsimp only
      by_cases zl : z < (m.start.length : Int)
      · have zl2 : z < ((m.start.map V.str).length : Int) := by rw [lenI]; exact zl
        have zn : z.toNat < m.start.length := by omega
        have hat : atI (m.start.map V.str) z = some (.str m.start[z.toNat]) := by
          have h1 : (m.start.map V.str)[z.toNat]? = some (.str m.start[z.toNat]) := by rw [List.getElem?_map, List.getElem?_eq_getElem zn]; rfl
          have h2 := atI_nat h1
          have h3 : ((z.toNat : Nat) : Int) = z := by omega
          rwa [h3] at h2
        rw [decide_eq_true zl2]
        refine iteT ⟨_, rfl, _, rfl, pn, _, z, _, rfl, rfl, SqT.of hpn5, hat, _, rfl, rfl, _, rfl, ?_⟩
        by_cases hn : m.start[z.toNat] = n
        · rw [decide_eq_true (by rw [hn])]
          exact iteF (good _ hD (by unfold belowI; rw [if_neg z0, if_neg (by decide), if_pos zl, if_pos (by rw [List.getElem?_eq_getElem zn, hn]), decide_eq_true zl2, if_pos rfl]))
        · rw [decide_eq_false (fun e => hn (V.str.inj e))]
          exact iteT (bad _ hD (by unfold belowI; rw [if_neg z0, if_neg (by decide), if_pos zl, if_neg (by rw [List.getElem?_eq_getElem zn]; exact fun e => hn (Option.some.inj e))]))
      · have zl2 : ¬ z < ((m.start.map V.str).length : Int) := by rw [lenI]; exact zl
        rw [decide_eq_false zl2]
        exact iteF (iteF (good _ hD (by unfold belowI; rw [if_neg z0, if_neg (by decide), if_neg zl, decide_eq_false zl2, if_neg Bool.false_ne_true, Int.add_zero])))
  · rintro σ H2 ⟨⟨v5, v6, v7, v8, rfl⟩, hb, e2, hbF, e3, hF2⟩
    have hn : min (min (st.map V.int).length rs.length) (ps.map V.bl).length = cs.length := by
      rw [List.length_map, List.length_map, hok.1, hps, hc.1]
      omega
    rw [hn] at hF2
    refine ⟨_, rfl, F, _, rfl, .inl ⟨SqL.of hF2, fun l hl => q _ l (ext eb (ext e2 (ext e3 (exn hl)))) upd_same⟩⟩
end
end Md
/-! Md: one command's step at a folder. -/
namespace Md
open PySem PySem.Spec PyProof.Rows L2
def laterM (c : Cmd) (k : Int) (o : Str) : Int := if (meansB c && mayB c.user o) = true then applyCh c.ch "folder" k else k
def stepB (c : Cmd) (z : Int) (k : Int) (o g : Str) : Bool × Int :=
  if z < c.start.length then (passB c.user k o g, k) else (listB c.user (if c.first = true then laterM c k o else k) o g, laterM c k o)
def spMade (A : Ad) : Sp := fun vs H Q _ => ∃ (a ma : Addr) (c : Cmd) (z k : Int) (o g : Str), vs = [.ref a, .int z, .ref ma, .str o, .str g] ∧ CmdAt A H a c ∧ ModeAt A H ma k ∧
  ∀ H' r mb, Ex H H' → H' r = some (.tup [.bl (stepB c z k o g).1, .ref mb]) → ModeAt A H' mb (stepB c z k o g).2 → Q (.ref r) H'
section
variable {P : Program} {w : World} {K : PySem.W.Frag} {mg : Str → Option Value} {base : Heap} {A : Ad}
theorem fn_made_step (T : Tx K mg w A) : ∀ f fd, Fun K "made_step" "made_step" S_made_step f fd → Fn P w K mg base f 8 (spMade A) := by
  intro f fd F
  refine fnr_of (k := 7) F sc_made_step (fun _ _ _ _ _ _ us hl => match us, hl with | [_, _, _, _, _], _ => rfl) (fun vs H Q E h => by obtain ⟨x, m, _, _, _, _, _, rfl, _⟩ := h; rfl) fun f cdv Ar outer s H vs Q E c h => ?_
  have hr := c.room
  have nd := sc_made_step.nd
  obtain ⟨a, ma, m, z, k, o, g, rfl, hcm, hma, q⟩ := h
  have hcm0 := hcm
  obtain ⟨okc, dxc, tc, ua0, ca0, hb, htc, hu0, hc0⟩ := hcm0
  refine ⟨_, (pss_cons (ps_set (i := 5) nd rfl (Or.inl rfl) (pe_at c (pv 0)))
 (pss_cons (ps_if (pt_cmpR op_lt (pv 1) (pe_callB (len_C c) (by rfl) T.b_len PySem.boot_len (pa_cons (pe_fn c (by rfl) (pa_cons (pe_at c (pv 0)) pa_nil)) pa_nil)) (nomark _)) (pss_one (ps_ret (pe_tup (pa_cons (pe_mt c (pv 5) (pa_cons (pv 2) (pa_cons (pv 3) (pa_cons (pv 4) pa_nil)))) (pa_cons (pv 2) pa_nil))))) pss_nil)
 (pss_cons (ps_set (i := 6) nd rfl (Or.inl rfl) (pv 2))
 (pss_cons (ps_if (PW.pt (pw_and (pt_val (pe_mt c (pv 0) (pa_cons pe_str pa_nil))) (pw_and1 (pt_val (pe_mt c (pv 5) (pa_cons (pv 3) pa_nil)))))) (pss_cons (ps_set (i := 7) nd rfl (Or.inl rfl) (pe_at c (pv 0)))
 (pss_one (ps_set (i := 6) nd rfl (Or.inl rfl) (pe_co c (pv 7) (pa_cons (pv 2) (pa_cons pe_str pa_nil)))))) pss_nil)
 (pss_cons (ps_set (i := 8) nd rfl (Or.inl rfl) (pe_ifExp (pt_cmpR op_eq (pe_at c (pv 0)) pe_str (nomark _)) (pv 6) (pv 2)))
 (pss_one (ps_ret (pe_tup (pa_cons (pe_mt c (pv 5) (pa_cons (pv 8) (pa_cons (pv 3) (pa_cons (pv 4) pa_nil)))) (pa_cons (pv 6) pa_nil)))))))))), ?_⟩
  refine ⟨_, rfl, a, _, dxc, _, rfl, hb, .inr ⟨_, pcal_of T.p_Command_user T.o_Command.cl (fn_Command_user T), a, m, rfl, hcm, fun H1 ua e1 hu => ?_⟩⟩
  obtain ⟨b1, t1, b2, b3⟩ := id hu
  have hs3 := okc.le
  refine ⟨_, rfl, _, cal_of T.f_names_of (fn_names_of T), _, rfl, a, _, dxc, _, rfl, e1 _ _ hb, .inr ⟨_, pcal_of T.p_Command_start T.o_Command.cl (fn_Command_start T), a, m, rfl, hcm.ex e1, fun H2 e2 => ?_⟩⟩
  refine ⟨_, rfl, okc.st, by omega, fun pn H3 e3 hpn hpn3 => ⟨pn, _, rfl, .inr (SqT.of hpn3), _, _, rfl, rfl, _, rfl, ?_⟩⟩
  have lenI : ((m.start.map V.str).length : Int) = (m.start.length : Int) := by rw [List.length_map]
  have e13 : Ex H H3 := ext e1 (ext e2 e3)
  unfold stepB at q
  by_cases zl : z < (m.start.length : Int)
  · rw [decide_eq_true (by rw [lenI]; exact zl)]
    rw [if_pos zl] at q
    refine iteT ⟨_, rfl, ua, _, b1, _, _, rfl, ext e2 e3 _ _ b2, mc_passes T m.user (by decide), rfl, _, rfl, _, rfl, _, rfl, ua, m.user, ma, k, o, g, rfl, rfl, hu.ex (ext e2 e3), hma.ex e13, fun H4 e4 => ?_⟩
    exact ⟨_, rfl, by show 2 ≤ sizeLine; decide, fun p hp => q _ p ma (ext e13 (ext e4 (exn hp))) upd_same (hma.ex (ext e13 (ext e4 (exn hp))))⟩
  · rw [decide_eq_false (by rw [lenI]; exact zl)]
    rw [if_neg zl] at q
    refine iteF ⟨_, rfl, _, rfl, a, _, dxc, _, _, rfl, e13 _ _ hb, mcal_of T.m_Command_means T.o_Command.cl (fn_Command_means T), rfl, a, m, rfl, hcm.ex e13, fun H4 e4 => ?_⟩
    have e14 : Ex H H4 := ext e13 e4
    have tail : ∀ (H5 : Hp) (lb : Addr) (v7 : Option V), Ex H4 H5 → ModeAt A H5 lb (laterM m k o) →
        (tSeq (tAsg (tIf (tTest (tOp rEq (tAt K (Fn P w K mg base) 7 "order" (tVar 0)) (tC (.str "first")))) (tVar 6) (tVar 2)) (gName 8)) (tRet (tTup (tCons (tMt K (Fn P w K mg base) 7 "lists" (tVar 5) (tCons (tVar 8) (tCons (tVar 3) (tCons (tVar 4) tNil)))) (tCons (tVar 6) tNil)))))
          { nx := fun _ H' => Q .non H', rt := Q } [some (.ref a), some (.int z), some (.ref ma), some (.str o), some (.str g), some (.ref ua), some (.ref lb), v7, none] H5 := by
      intro H5 lb v7 e5 hlb
      have e15 := ext e14 e5
      refine ⟨_, rfl, a, _, dxc, _, rfl, e15 _ _ hb, .inr ⟨_, pcal_of T.p_Command_order T.o_Command.cl (fn_Command_order T), a, m, rfl, hcm.ex e15, fun H6 e6 => ⟨rfl, _, rfl, ?_⟩⟩⟩
      have e16 := ext e15 e6
      have ends : ∀ (sb : Addr) (sk : Int), ModeAt A H6 sb sk → sk = (if m.first = true then laterM m k o else k) →
          (tRet (tTup (tCons (tMt K (Fn P w K mg base) 7 "lists" (tVar 5) (tCons (tVar 8) (tCons (tVar 3) (tCons (tVar 4) tNil)))) (tCons (tVar 6) tNil)))) { nx := fun _ H' => Q .non H', rt := Q }
            [some (.ref a), some (.int z), some (.ref ma), some (.str o), some (.str g), some (.ref ua), some (.ref lb), v7, some (.ref sb)] H6 := by
        intro sb sk hsb hk
        rw [← hk] at q
        refine ⟨_, rfl, ua, _, b1, _, _, rfl, (ext e2 (ext e3 (ext e4 (ext e5 e6)))) _ _ b2, mc_lists T m.user (by decide), rfl, _, rfl, _, rfl, _, rfl, ua, m.user, sb, sk, o, g, rfl, rfl, hu.ex (ext e2 (ext e3 (ext e4 (ext e5 e6)))), hsb, fun H7 e7 => ?_⟩
        exact ⟨_, rfl, by show 2 ≤ sizeLine; decide, fun p hp => q _ p lb (ext e16 (ext e7 (exn hp))) upd_same (hlb.ex (ext e6 (ext e7 (exn hp))))⟩
      cases hf : m.first with
      | true =>
        rw [show ordS m = "first" by unfold ordS; rw [hf]; rfl, decide_eq_true rfl]
        exact iteT ⟨_, rfl, ends lb (laterM m k o) (hlb.ex e6) (by rw [hf, if_pos rfl])⟩
      | false =>
        rw [show ordS m = "last" by unfold ordS; rw [hf]; rfl, decide_eq_false (by decide +kernel)]
        exact iteF ⟨_, rfl, ends ma k (hma.ex e16) (by rw [hf, if_neg Bool.false_ne_true])⟩
    refine ⟨_, rfl, ?_⟩
    cases hme : meansB m with
    | false => exact iteF (iteF (tail H4 ma none (exr _) (by unfold laterM; rw [hme, if_neg (by simp)]; exact hma.ex e14)))
    | true =>
      refine iteT ⟨_, rfl, ua, _, b1, _, _, rfl, (ext e2 (ext e3 e4)) _ _ b2, mc_may T m.user (by decide), rfl, _, rfl, ua, m.user, o, rfl, rfl, hu.ex (ext e2 (ext e3 e4)), fun H5 e5 => ⟨_, rfl, ?_⟩⟩
      cases hmy : mayB m.user o with
      | false => exact iteF (tail H5 ma none e5 (by unfold laterM; rw [hme, hmy, if_neg (by simp)]; exact hma.ex (ext e14 e5)))
      | true =>
        have e15 := ext e14 e5
        refine iteT ⟨_, rfl, a, _, dxc, _, rfl, e15 _ _ hb, .inr ⟨_, pcal_of T.p_Command_change T.o_Command.cl (fn_Command_change T), a, m, rfl, hcm.ex e15, fun H6 ca e6 hca => ?_⟩⟩
        obtain ⟨_, dxh, tch, trh, hch, _⟩ := id hca
        refine ⟨_, rfl, ca, _, _, rfl, scal_of T.s_Change_call (fn_Change_call T), _, rfl, dxh, _, hch, ca, ma, k, "folder", m.ch, rfl, hca, hma.ex (ext e15 e6), .inr rfl, fun b H7 e7 hbn hmb => ?_⟩
        exact tail H7 b (some (.ref ca)) (ext e5 (ext e6 e7)) (by unfold laterM; rw [hme, hmy, if_pos (by simp)]; exact hmb)
end
end Md
/-! Md: a passage. -/
namespace Md
open PySem PySem.Spec PyProof.Rows L2
/-- what a passage has made behind the first i commands, and the mode then -/
def madeN (cs : List Cmd) (st : List Int) (k : Int) (o g : Str) : Nat → List (Nat × Bool × Int) × Int
  | 0 => ([], k)
  | i + 1 => if 0 ≤ st.getD i 0 then
      ((madeN cs st k o g i).1 ++ [(i, (stepB (cs.getD i cmd0) (st.getD i 0) (madeN cs st k o g i).2 o g).1, (stepB (cs.getD i cmd0) (st.getD i 0) (madeN cs st k o g i).2 o g).2)], (stepB (cs.getD i cmd0) (st.getD i 0) (madeN cs st k o g i).2 o g).2)
    else madeN cs st k o g i
def MadeAt (H : Hp) (xs : List V) (md : List (Nat × Bool × Int)) : Prop := xs.length = md.length ∧ ∀ (j : Nat) (e : Nat × Bool × Int), md[j]? = some e → ∃ p, xs[j]? = some (V.ref p) ∧ H p = some (.tup [.int (e.1 : Nat), .bl e.2.1, .int e.2.2])
theorem MadeAt.ex {H H' : Hp} {xs : List V} {md : List (Nat × Bool × Int)} (e : Ex H H') (h : MadeAt H xs md) : MadeAt H' xs md := ⟨h.1, fun j y hj => let ⟨p, a, b⟩ := h.2 j y hj; ⟨p, a, e _ _ b⟩⟩
theorem MadeAt.app {H : Hp} {xs : List V} {md : List (Nat × Bool × Int)} {p : Addr} {y : Nat × Bool × Int} (h : MadeAt H xs md) (hp : H p = some (.tup [.int (y.1 : Nat), .bl y.2.1, .int y.2.2])) : MadeAt H (xs ++ [.ref p]) (md ++ [y]) := by
  refine ⟨by rw [List.length_append, List.length_append, h.1]; rfl, fun j e hj => ?_⟩
  by_cases hji : j < md.length
  · rw [List.getElem?_append_left hji] at hj
    rw [List.getElem?_append_left (by rw [h.1]; exact hji)]
    exact h.2 j e hj
  · rw [List.getElem?_append_right (by omega)] at hj
    have h0 : j - md.length = 0 := by
      have := (List.getElem?_eq_some_iff.mp hj).1
      simp only [List.length_cons, List.length_nil] at this
      omega
    rw [h0] at hj
    cases hj
    rw [List.getElem?_append_right (by rw [h.1]; omega), h.1, h0]
    exact ⟨p, rfl, hp⟩
theorem madeN_len (cs : List Cmd) (st : List Int) (k : Int) (o g : Str) : ∀ i, (madeN cs st k o g i).1.length ≤ i
  | 0 => Nat.le_refl _
  | i + 1 => by
    have := madeN_len cs st k o g i
    unfold madeN
    split
    · rw [List.length_append]; show _ + 1 ≤ _; omega
    · omega
theorem stepB_rng {A : Ad} {H : Hp} {a mb : Addr} : True := trivial
def PassFs (wd r s L : Addr) (z : Int) : List (Str × V) := [("word", .ref wd), ("row_here", .ref r), ("stand_here", .ref s), ("made", .ref L), ("last_number", .int z)]
def PassAt (A : Ad) (H : Hp) (a : Addr) (cs : List Cmd) (st : List Int) (md : List (Nat × Bool × Int)) : Prop := StOk st cs ∧ ∃ dx wd r s L z xs, H a = some (.ins A.Passage dx (PassFs wd r s L z)) ∧ RowAt A H r cs ∧ H s = some (.tup (st.map V.int)) ∧ H L = some (.lst xs) ∧ MadeAt H xs md ∧ md.length ≤ 10
def spPassInit (A : Ad) : Sp := fun vs H Q _ => ∃ (x dx r s : Addr) (v : V) (k : Int) (o g : Str) (cs : List Cmd) (st : List Int) (H0 : Hp), vs = [.ref x, .ref r, .ref s, v, .str o, .str g] ∧ H0 x = none ∧ Ex H0 H ∧ H x = some (.ins A.Passage dx []) ∧ RowAt A H0 r cs ∧ H0 s = some (.tup (st.map V.int)) ∧ StOk st cs ∧
  MV A H0 v k ∧ Nm o ∧ Nm g ∧ ∀ H', Ex H0 H' → PassAt A H' x cs st (madeN cs st k o g cs.length).1 → Q .non H'
section
variable {P : Program} {w : World} {K : PySem.W.Frag} {mg : Str → Option Value} {base : Heap} {A : Ad}
theorem fn_Passage_init (T : Tx K mg w A) (S : Sx P K mg A) : ∀ f fd, Fun K "__init__" "Passage.__init__" S_Passage_DinitD f fd → Fn P w K mg base f 10 (spPassInit A) := by
  intro f fd F
  refine fnr_of (k := 9) F sc_Passage_DinitD (fun _ _ _ _ _ _ us hl => match us, hl with | [_, _, _, _, _, _], _ => rfl) (fun vs H Q E h => by obtain ⟨x, m, _, _, _, _, _, _, _, _, _, rfl, _⟩ := h; rfl) fun f cdv Ar outer s H vs Q E c h => ?_
  have hr := c.room
  have nd := sc_Passage_DinitD.nd
  obtain ⟨x, dx, r, t, v, k, o, g, cs, st, H0, rfl, hx0, e0, hx, hrow, ht, hok, hmv, ho, hg, q⟩ := h
  have h10 := hrow.1
  obtain ⟨rs, hri⟩ := hrow.is
  have hcs := hri
  obtain ⟨_, dxr, tt, ha, htt, hc⟩ := hcs
  refine ⟨_, (pss_cons (ps_expr (pe_fn c (by rfl) (pa_cons (pv 1) (pa_cons (pv 2) pa_nil))))
 (pss_cons (ps_set (i := 6) nd rfl (Or.inl rfl) (pe_mk c (by rfl) (pa_cons (pv 3) (pa_cons (pv 4) (pa_cons (pv 5) pa_nil)))))
 (pss_cons (ps_fld (pv 0) (pe_fn c (by rfl) (pa_cons (pv 2) pa_nil)) rfl)
 (pss_cons (ps_fld (pv 0) (pv 1) rfl)
 (pss_cons (ps_fld (pv 0) (pv 2) rfl)
 (pss_cons (ps_fld (pv 0) (pe_lst pa_nil) rfl)
 (pss_cons (ps_set (i := 7) nd rfl (Or.inl rfl) (pe_at c (pv 6)))
 (pss_cons (ps_for PassesOwn.never rfl (pi_enumZip (by rfl) (by rfl) T.b_enumerate T.b_zip (pa_cons (pv 2) (pa_cons (pe_fn c (by rfl) (pa_cons (pv 1) pa_nil)) pa_nil))) (pg_tupC c rfl (pgs_cons (pg_name (i := 8) nd rfl (Or.inl rfl)) (pgs_cons (pg_tupC c rfl (pgs_cons (pg_name (i := 9) nd rfl (Or.inl rfl)) (pgs_cons (pg_name (i := 10) nd rfl (Or.inl rfl)) pgs_nil))) pgs_nil)))
 (pss_one (ps_if (pt_cmpR op_ge (pv 9) pe_int (nomark _)) (pss_cons (ps_asg (pe_fn c (by rfl) (pa_cons (pv 10) (pa_cons (pv 9) (pa_cons (pv 7) (pa_cons (pv 4) (pa_cons (pv 5) pa_nil)))))) (pg_tupC c rfl (pgs_cons (pg_name (i := 11) nd rfl (Or.inl rfl)) (pgs_cons (pg_name (i := 7) nd rfl (Or.inl rfl)) pgs_nil))))
 (pss_one (ps_expr (pe_bmC c PySem.F.plainAttrs_list PySem.F.slot_list_append PySem.F.type_list_append mt_append (pe_at c (pv 0)) (pa_cons (pe_tup (pa_cons (pv 8) (pa_cons (pv 11) (pa_cons (pe_at c (pv 7)) pa_nil)))) pa_nil))))) pss_nil)))
 (pss_one (ps_fld (pv 0) (pe_at c (pv 7)) rfl)))))))))), ?_⟩
  refine ⟨_, cal_of T.f_need_stand (fn_need_stand T), _, rfl, _, rfl, r, t, st, cs, rfl, hrow.ex e0, e0 _ _ ht, hok, fun H1 e1 => ?_⟩
  have e01 := ext e0 e1
  refine ⟨_, _, ccal_Folder T S (by decide), _, rfl, _, rfl, _, rfl, fun fo fdx hfo hfdx _ => ?_⟩
  refine mk_Folder (e := ⟨true, k, o, g⟩) hfo hfdx rfl (hmv.ex e01) ho hg fun H2 fd0 e2 hfd0 hen => ⟨rfl, ?_⟩
  have e02 := ext e01 e2
  have st10 : st.length ≤ 10 := by rw [hok.1]; exact h10
  refine ⟨_, cal_of T.f_word_in (fn_word_in T), _, rfl, t, st, rfl, e02 _ _ ht, st10, fun H3 wd wx e3 hwd => ?_⟩
  have e13 := ext e1 (ext e2 e3)
  have hx3 := e13 _ _ hx
  have nxf : fo ≠ x := (ne_of_none (e1 _ _ hx) hfo).symm
  refine ⟨_, rfl, x, _, dx, _, rfl, hx3, T.o_Passage.cl, T.n_Passage_word, by show 0 < 1000; decide, ?_⟩
  refine ⟨_, rfl, _, rfl, x, _, dx, _, rfl, upd_same, T.o_Passage.cl, T.n_Passage_row_here, by show 1 < 1000; decide, ?_⟩
  refine ⟨_, rfl, _, rfl, x, _, dx, _, rfl, upd_same, T.o_Passage.cl, T.n_Passage_stand_here, by show 2 < 1000; decide, ?_⟩
  refine ⟨by show 0 ≤ sizeLine; decide, fun L hL => ?_⟩
  refine ⟨_, rfl, x, _, dx, _, rfl, exn hL _ _ upd_same, T.o_Passage.cl, T.n_Passage_made, by show 3 < 1000; decide, ?_⟩
  have e03 : Ex H0 H3 := ext e0 e13
  have hLx : L ≠ x := fun z => by rw [z, upd_same] at hL; cases hL
  have hL0 : H0 L = none := by
    rw [upd_ne hLx, upd_ne hLx, upd_ne hLx] at hL
    exact e03.none hL
  have hen4 : ∃ dxx d ma, upd H3 x (.ins A.Passage dx []) fo = some (.ins A.Folder dxx (enFs true d ma o g)) ∧ H3 d = some (.dK []) ∧ d ≠ x ∧ ModeAt A H3 ma k ∧ ma ≠ x := by
    rcases hen with ⟨_, dxx, d, ma, z1, z2, z3, _⟩ | ⟨z, _⟩
    · have w1 := e3 _ _ z1
      have w2 := e3 _ _ z2
      have w3 := z3.ex e3
      obtain ⟨_, _, dm, w4⟩ := id w3
      exact ⟨dxx, d, ma, by rw [upd_ne nxf]; exact w1, w2, ne_of w2 hx3 (by intro z; cases z), w3, ne_of w4 hx3 (by intro z; injection z with z1 z2 z3; cases z3)⟩
    · cases z
  obtain ⟨dxx, d, ma, z1, z2, z3, z4, z5⟩ := hen4
  rw [upd_ne nxf] at z1
  have e04 : Ex H0 (upd (upd (upd (upd (upd H3 x (.ins A.Passage dx (putF "word" (.ref wd) []))) x (.ins A.Passage dx (putF "row_here" (.ref r) (putF "word" (.ref wd) [])))) x (.ins A.Passage dx (putF "stand_here" (.ref t) (putF "row_here" (.ref r) (putF "word" (.ref wd) []))))) L (.lst [])) x (.ins A.Passage dx (putF "made" (.ref L) (putF "stand_here" (.ref t) (putF "row_here" (.ref r) (putF "word" (.ref wd) [])))))) :=
    exm (exm (exm (exm (exm e03 hx0) hx0) hx0) hL0) hx0
  have hen5 : EnAt A (upd (upd (upd (upd (upd H3 x (.ins A.Passage dx (putF "word" (.ref wd) []))) x (.ins A.Passage dx (putF "row_here" (.ref r) (putF "word" (.ref wd) [])))) x (.ins A.Passage dx (putF "stand_here" (.ref t) (putF "row_here" (.ref r) (putF "word" (.ref wd) []))))) L (.lst [])) x (.ins A.Passage dx (putF "made" (.ref L) (putF "stand_here" (.ref t) (putF "row_here" (.ref r) (putF "word" (.ref wd) [])))))) fo ⟨true, k, o, g⟩ [] [d] := by
    have hL3 : H3 L = none := by rw [upd_ne hLx, upd_ne hLx, upd_ne hLx] at hL; exact hL
    have up : ∀ a u, a ≠ x → H3 a = some u → (upd (upd (upd (upd (upd H3 x (.ins A.Passage dx (putF "word" (.ref wd) []))) x (.ins A.Passage dx (putF "row_here" (.ref r) (putF "word" (.ref wd) [])))) x (.ins A.Passage dx (putF "stand_here" (.ref t) (putF "row_here" (.ref r) (putF "word" (.ref wd) []))))) L (.lst [])) x (.ins A.Passage dx (putF "made" (.ref L) (putF "stand_here" (.ref t) (putF "row_here" (.ref r) (putF "word" (.ref wd) [])))))) a = some u := fun a u n h => by
      rw [upd_ne n, upd_ne (ne_of_none h hL3), upd_ne n, upd_ne n, upd_ne n]; exact h
    obtain ⟨m0, m1, dm, hm⟩ := z4
    exact .inl ⟨rfl, dxx, d, ma, up _ _ nxf z1, up _ _ z3 z2, ⟨m0, m1, dm, up _ _ z5 hm⟩, rfl⟩
  have hx4 : (upd (upd (upd (upd (upd H3 x (.ins A.Passage dx (putF "word" (.ref wd) []))) x (.ins A.Passage dx (putF "row_here" (.ref r) (putF "word" (.ref wd) [])))) x (.ins A.Passage dx (putF "stand_here" (.ref t) (putF "row_here" (.ref r) (putF "word" (.ref wd) []))))) L (.lst [])) x (.ins A.Passage dx (putF "made" (.ref L) (putF "stand_here" (.ref t) (putF "row_here" (.ref r) (putF "word" (.ref wd) [])))))) x = some (.ins A.Passage dx [("word", .ref wd), ("row_here", .ref r), ("stand_here", .ref t), ("made", .ref L)]) := upd_same
  have hL4 : (upd (upd (upd (upd (upd H3 x (.ins A.Passage dx (putF "word" (.ref wd) []))) x (.ins A.Passage dx (putF "row_here" (.ref r) (putF "word" (.ref wd) [])))) x (.ins A.Passage dx (putF "stand_here" (.ref t) (putF "row_here" (.ref r) (putF "word" (.ref wd) []))))) L (.lst [])) x (.ins A.Passage dx (putF "made" (.ref L) (putF "stand_here" (.ref t) (putF "row_here" (.ref r) (putF "word" (.ref wd) [])))))) L = some (.lst []) := by rw [upd_ne hLx]; exact upd_same
  generalize (upd (upd (upd (upd (upd H3 x (.ins A.Passage dx (putF "word" (.ref wd) []))) x (.ins A.Passage dx (putF "row_here" (.ref r) (putF "word" (.ref wd) [])))) x (.ins A.Passage dx (putF "stand_here" (.ref t) (putF "row_here" (.ref r) (putF "word" (.ref wd) []))))) L (.lst [])) x (.ins A.Passage dx (putF "made" (.ref L) (putF "stand_here" (.ref t) (putF "row_here" (.ref r) (putF "word" (.ref wd) [])))))) = H4 at e04 hen5 hx4 hL4 ⊢
  obtain ⟨dxx2, hfo4⟩ : ∃ dq fq, H4 fo = some (.ins A.Folder dq fq) := by
    rcases hen5 with ⟨_, a1, a2, a3, a4, _⟩ | ⟨a, _⟩
    · exact ⟨_, _, a4⟩
    · cases a
  obtain ⟨fq, hfo4⟩ := hfo4
  refine ⟨_, rfl, fo, _, dxx2, _, rfl, hfo4, .inr ⟨_, pc_mode T true (by decide), fo, ⟨true, k, o, g⟩, [], [d], rfl, hen5, fun H5 mb e5 hmb => ?_⟩⟩
  refine ⟨_, rfl, _, cal_of T.f_commands_of (fn_commands_of T), _, rfl, r, rs, cs, rfl, hri.ex (ext e04 e5), fun H6 LC e6 hLC5 hLC => ?_⟩
  have e46 := ext e5 e6
  have e06 := ext e04 e46
  have hb0 : Ex H0 (dele x (dele L H6)) := dele_of (dele_of e06 hL0) hx0
  have hLCx : LC ≠ x := (ne_of_none (e5 _ _ hx4) hLC5).symm
  have hLCL : LC ≠ L := (ne_of_none (e5 _ _ hL4) hLC5).symm
  have hLCb : dele x (dele L H6) LC = some (.lst rs) := by rw [dele_ne hLCx, dele_ne hLCL]; exact hLC
  have hsub : ∀ {H' : Hp}, Ex (dele x (dele L H')) H' := fun {H'} => ext dele_sub dele_sub
  have hmb6 : ModeAt A (dele x (dele L H6)) mb k := by
    obtain ⟨m0, m1, dm, hm⟩ := hmb.ex e6
    have n1 : mb ≠ x := ne_of hm (e46 _ _ hx4) (by intro z; injection z with z1 z2 z3; cases z3)
    have n2 : mb ≠ L := ne_of hm (e46 _ _ hL4) (by intro z; cases z)
    exact ⟨m0, m1, dm, by rw [dele_ne n1, dele_ne n2]; exact hm⟩
  have hmin : min (st.map V.int).length rs.length = cs.length := by rw [List.length_map, hok.1, hc.1, Nat.min_self]
  refine ⟨.t, .l, .ref t, .ref LC, _, _, rfl, ⟨t, rfl, e06 _ _ ht⟩, ⟨LC, rfl, hLC⟩, for_it walk_Ez (fun i σ H' => ∃ v8 v9 v10 v11 nb, σ = [some (.ref x), some (.ref r), some (.ref t), some v, some (.str o), some (.str g), some (.ref fo), some (.ref nb), v8, v9, v10, v11] ∧
      ∃ hb xs, Ex (dele x (dele L H6)) hb ∧ hb L = none ∧ hb x = none ∧ Ex hb H' ∧ H' L = some (.lst xs) ∧ H' x = some (.ins A.Passage dx [("word", .ref wd), ("row_here", .ref r), ("stand_here", .ref t), ("made", .ref L)]) ∧ MadeAt hb xs (madeN cs st k o g i).1 ∧ ModeAt A hb nb (madeN cs st k o g i).2)
    ⟨none, none, none, none, mb, rfl, dele x (dele L H6), [], exr _, by rw [dele_ne hLx]; exact dele_at, dele_at, hsub, e46 _ _ hL4, e46 _ _ hx4, ⟨rfl, fun j e h => by cases h⟩, hmb6⟩ (fun i σ H' _ p => ?_) ?_ ?_⟩
  · obtain ⟨_, _, _, _, _, _, hb, xs, a1, _, _, a4, _⟩ := p
    exact ⟨⟨t, rfl, a4 _ _ (a1 _ _ (hb0 _ _ ht))⟩, ⟨LC, rfl, a4 _ _ (a1 _ _ hLCb)⟩⟩
  · rintro i y σ H7 H8 hi ⟨v8, v9, v10, v11, nb, rfl, hb, xs, a1, a2, a3, a4, a5, a6, a7, a8⟩ ⟨Ta, Ua, y1, y2, hT, hU, hUT, rfl, rfl, hy1, hy2⟩
    obtain ⟨z, m, b, rfl, rfl, hz, hm, hcm⟩ := ez_at hc hy1 hy2
    have e8 : Ex H7 (upd (upd H7 Ta (.tup [.int z, .ref b])) Ua (.tup [.int (i : Nat), .ref Ta])) := exm (exn hT) hU
    have hT3 : upd (upd H7 Ta (.tup [.int z, .ref b])) Ua (.tup [.int (i : Nat), .ref Ta]) Ta = some (.tup [.int z, .ref b]) := by rw [upd_ne hUT.symm]; exact upd_same
    have hU3 : upd (upd H7 Ta (.tup [.int z, .ref b])) Ua (.tup [.int (i : Nat), .ref Ta]) Ua = some (.tup [.int (i : Nat), .ref Ta]) := upd_same
    generalize upd (upd H7 Ta (.tup [.int z, .ref b])) Ua (.tup [.int (i : Nat), .ref Ta]) = H8 at e8 hT3 hU3 ⊢
    have e08 : Ex H0 H8 := ext hb0 (ext a1 (ext a4 e8))
    refine ⟨Ua, _, rfl, SqT.of hU3, rfl, _, _, rfl, _, _, rfl, ⟨Ta, _, rfl, SqT.of hT3, rfl, _, _, rfl, _, _, rfl, rfl, rfl, ?_⟩⟩
    have g1 : cs.getD i cmd0 = m := by simp [List.getD, hm]
    have g2 : st.getD i 0 = z := by simp [List.getD, hz]
    refine ⟨_, rfl, _, _, rfl, rfl, _, rfl, ?_⟩
    have hmd : madeN cs st k o g (i + 1) = if 0 ≤ z then ((madeN cs st k o g i).1 ++ [(i, (stepB m z (madeN cs st k o g i).2 o g).1, (stepB m z (madeN cs st k o g i).2 o g).2)], (stepB m z (madeN cs st k o g i).2 o g).2) else madeN cs st k o g i := by
      show (if 0 ≤ st.getD i 0 then _ else _) = _
      rw [g1, g2]
    by_cases hz0 : 0 ≤ z
    · rw [if_pos hz0] at hmd
      rw [decide_eq_true hz0]
      refine iteT ⟨_, cal_of T.f_made_step (fn_made_step T), _, rfl, _, rfl, _, rfl, _, rfl, _, rfl, b, nb, m, z, (madeN cs st k o g i).2, o, g, rfl, hcm.ex e08, a8.ex (ext a4 e8), fun H9 rr mb2 e9 hrr hmb2 => ?_⟩
      refine ⟨rr, _, rfl, SqT.of hrr, rfl, _, _, rfl, _, _, rfl, rfl, ?_⟩
      have e79 := ext e8 e9
      have hx9 := e79 _ _ a6
      have hL9 := e79 _ _ a5
      obtain ⟨m0, m1, dm, hm9⟩ := id hmb2
      refine ⟨_, rfl, x, _, dx, _, rfl, hx9, .inl ⟨_, T.o_Passage.cl, T.n_Passage_made, rfl, .inl ⟨rfl, _, SqL.of hL9⟩, _, rfl, _, rfl, _, rfl, mb2, _, dm, _, rfl, hm9, .inr ⟨_, pcal_of T.p_Mode_number T.o_Mode.cl (fn_Mode_number T), mb2, _, rfl, hmb2, fun H10 e10 => ?_⟩⟩⟩
      refine ⟨by show 3 ≤ sizeLine; decide, fun p hp => ⟨L, _, _, rfl, rfl, exn hp _ _ (e10 _ _ hL9), ?_, ?_⟩⟩
      · rw [a7.1]
        have l1 := madeN_len cs st k o g i
        have l2 := (List.getElem?_eq_some_iff.mp hm).1
        exact zt (by omega)
      · have hL10 := e10 _ _ hL9
        have hx10 := e10 _ _ hx9
        have npL : p ≠ L := (ne_of_none hL10 hp).symm
        have npx : p ≠ x := (ne_of_none hx10 hp).symm
        have nmL : mb2 ≠ L := ne_of hm9 hL9 (by intro z; cases z)
        have nmx : mb2 ≠ x := ne_of hm9 hx9 (by intro z; injection z with z1 z2 z3; cases z3)
        have eb : Ex hb (dele x (dele L (upd H10 p (.tup [.int (i : Nat), .bl (stepB m z (madeN cs st k o g i).2 o g).1, .int (stepB m z (madeN cs st k o g i).2 o g).2])))) :=
          dele_of (dele_of (ext a4 (ext e79 (ext e10 (exn hp)))) a2) a3
        refine ⟨_, _, _, _, mb2, rfl, dele x (dele L (upd H10 p (.tup [.int (i : Nat), .bl (stepB m z (madeN cs st k o g i).2 o g).1, .int (stepB m z (madeN cs st k o g i).2 o g).2]))), xs ++ [.ref p], ext a1 eb, by rw [dele_ne hLx]; exact dele_at, dele_at, ext dele_sub dele_up, upd_same, by rw [upd_ne hLx.symm]; exact exn hp _ _ hx10, ?_, ?_⟩
        · rw [hmd]
          exact (a7.ex eb).app (by rw [dele_ne npx, dele_ne npL]; exact upd_same)
        · rw [hmd]
          exact ⟨m0, m1, dm, by rw [dele_ne nmx, dele_ne nmL]; exact exn hp _ _ (e10 _ _ hm9)⟩
    · rw [if_neg hz0] at hmd
      rw [decide_eq_false hz0]
      refine iteF ⟨_, _, _, _, nb, rfl, hb, xs, a1, a2, a3, ext a4 e8, e8 _ _ a5, e8 _ _ a6, by rw [hmd]; exact a7, by rw [hmd]; exact a8⟩
  · rintro σ H7 ⟨v8, v9, v10, v11, nb, rfl, hb, xs, a1, a2, a3, a4, a5, a6, a7, a8⟩
    rw [hmin] at a7 a8
    obtain ⟨m0, m1, dm, hm9⟩ := id a8
    refine ⟨_, rfl, nb, _, dm, _, rfl, a4 _ _ hm9, .inr ⟨_, pcal_of T.p_Mode_number T.o_Mode.cl (fn_Mode_number T), nb, _, rfl, a8.ex a4, fun H8 e8 => ⟨_, rfl, x, _, dx, _, rfl, e8 _ _ a6, T.o_Passage.cl, T.n_Passage_last_number, by show 4 < 1000; decide, ?_⟩⟩⟩
    have e0b : Ex H0 hb := ext hb0 a1
    have ebx : Ex hb (upd H8 x (.ins A.Passage dx (PassFs wd r t L (madeN cs st k o g cs.length).2))) := fun a u h => by
      rw [upd_ne (ne_of_none h a3)]
      exact e8 _ _ (a4 _ _ h)
    refine q _ (ext e0b ebx) ⟨hok, dx, wd, r, t, L, _, xs, upd_same, hrow.ex (ext e0b ebx), ebx _ _ (e0b _ _ ht), ?_, a7.ex ebx, ?_⟩
    · rw [upd_ne hLx]
      exact e8 _ _ a5
    · exact Nat.le_trans (madeN_len cs st k o g _) h10
end
end Md
/-! Md: a passage called. -/
namespace Md
open PySem PySem.Spec PyProof.Rows L2
def passI (md : List (Nat × Bool × Int)) (i : Nat) : Bool := md.any fun e => e.2.1 && (e.1 == i)
def passL (cs : List Cmd) (st : List Int) (md : List (Nat × Bool × Int)) (n : Str) : List Int := belowL cs st ((List.range st.length).map (passI md)) n
def goL (md : List (Nat × Bool × Int)) : List V := gvn (fun j => (md.getD j (0, false, 0)).2.1) (fun j => .int ((md.getD j (0, false, 0)).1 : Nat)) md.length
theorem gvn_succ (t : Nat → Bool) (f : Nat → V) (n : Nat) : gvn t f (n + 1) = gvn t f n ++ (if t n = true then [f n] else []) := rfl
theorem gvn_in {t : Nat → Bool} {f : Nat → Nat} {a : Nat} : ∀ n, inV (.int (a : Nat)) (gvn t (fun j => .int (f j : Nat)) n) = (List.range n).any fun j => t j && (f j == a)
  | 0 => rfl
  | n + 1 => by
    have ih := gvn_in (t := t) (f := f) (a := a) n
    rw [List.range_succ, List.any_append, ← ih, gvn_succ]
    cases ht : t n with
    | false =>
      rw [if_neg Bool.false_ne_true]
      simp [ht]
    | true =>
      rw [if_pos rfl]
      unfold inV
      rw [List.any_append]
      simp only [List.any_cons, List.any_nil, Bool.or_false, ht, Bool.true_and]
      congr 1
      show ((f n : Int) == (a : Int)) = _
      by_cases h : f n = a
      · rw [h]; simp
      · rw [beq_eq_false_iff_ne.mpr h]
        exact beq_eq_false_iff_ne.mpr (fun e => h (Int.ofNat.inj e))
theorem gvn_flat {t : Nat → Bool} {f : Nat → Nat} : ∀ n, (gvn t (fun j => .int (f j : Nat)) n).all flatV = true
  | 0 => rfl
  | n + 1 => by
    have ih := gvn_flat (t := t) (f := f) n
    rw [gvn_succ, List.all_append, ih]
    split <;> rfl
theorem goL_in (md : List (Nat × Bool × Int)) (a : Nat) : inV (.int (a : Nat)) (goL md) = passI md a := by
  unfold goL passI
  rw [gvn_in]
  have h : md = (List.range md.length).map fun j => md.getD j (0, false, 0) := (rng_getD md (0, false, 0) id rfl ▸ (List.map_id md).symm)
  conv => rhs; rw [h]
  rw [List.any_map]
  rfl
def spPassCall (A : Ad) : Sp := fun vs H Q _ => ∃ (a : Addr) (n : Str) (cs : List Cmd) (st : List Int) (md : List (Nat × Bool × Int)), vs = [.ref a, .str n] ∧ PassAt A H a cs st md ∧ Nm n ∧ ∀ H' r, Ex H H' → H' r = some (.tup ((passL cs st md n).map V.int)) → Q (.ref r) H'
section
variable {P : Program} {w : World} {K : PySem.W.Frag} {mg : Str → Option Value} {base : Heap} {A : Ad}
theorem mk_Passage {H1 : Hp} {x dx r s : Addr} {v : V} {k : Int} {o g : Str} {cs : List Cmd} {st : List Int} {Q : VK} {E : XK} (hx : H1 x = none) (hd : H1 dx = none) (hrow : RowAt A H1 r cs) (ht : H1 s = some (.tup (st.map V.int))) (hok : StOk st cs) (hmv : MV A H1 v k) (ho : Nm o) (hg : Nm g)
    (q : ∀ H', Ex H1 H' → PassAt A H' x cs st (madeN cs st k o g cs.length).1 → Q (.ref x) H') : spPassInit A [.ref x, .ref r, .ref s, v, .str o, .str g] (upd (upd H1 dx (.own x)) x (.ins A.Passage dx [])) (fun v H3 => v = .non ∧ Q (.ref x) H3) E :=
  ⟨x, dx, r, s, v, k, o, g, cs, st, H1, rfl, hx, ex_made hx hd, upd_same, hrow, ht, hok, hmv, ho, hg, fun H' e h => ⟨rfl, q H' e h⟩⟩
theorem fn_Passage_call (T : Tx K mg w A) : ∀ f fd, Fun K "__call__" "Passage.__call__" S_Passage_DcallD f fd → Fn P w K mg base f 8 (spPassCall A) := by
  intro f fd F
  refine fnr_of (k := 7) F sc_Passage_DcallD (fun _ _ _ _ _ _ us hl => match us, hl with | [_, _], _ => rfl) (fun vs H Q E h => by obtain ⟨x, m, _, _, _, rfl, _⟩ := h; rfl) fun f cdv Ar outer s H vs Q E c h => ?_
  have hr := c.room
  have nd := sc_Passage_DcallD.nd
  obtain ⟨a, n, cs, st, md, rfl, ⟨hok, dx, wd, r, t, L, z, xs, ha, hrow, ht, hL, hmd, hml⟩, hn, q⟩ := h
  refine ⟨_, (pss_cons (ps_if (pt_not (pt_val (pe_fn c (by rfl) (pa_cons (pv 1) pa_nil)))) (pss_one ps_never) pss_nil)
 (pss_cons (ps_set (i := 2) nd rfl (Or.inr rfl) (pe_lc (own := [("at", 4), ("goes_on", 5), ("number", 6)]) (g := gTup K 3 (gCons (gName 4) (gCons (gName 5) (gCons (gName 6) gNil)))) rfl nd (pi_listC c (pe_at c (pv 0))) (blkOk_by (N := N_Passage_DcallD) (sc := defScope S_Passage_DcallD) (by decide +kernel)) (fun _ _ _ _ _ => (pg_tupC c.b rfl (pgs_cons (pg_name (i := 4) nd rfl (Or.inl rfl)) (pgs_cons (pg_name (i := 5) nd rfl (Or.inl rfl)) (pgs_cons (pg_name (i := 6) nd rfl (Or.inl rfl)) pgs_nil))))) (fun _ _ _ _ _ => (pts_one (pt_val (pv 5)))) (fun _ _ _ _ _ => (pv 4))))
 (pss_cons (ps_setLc (i := 3) (own := [("at", 4)]) (g := gName 4) rfl nd rfl rfl (sw_true rfl rfl rfl (by decide +kernel)) (pi_range1 (by rfl) T.b_range (pa_cons (pe_callB (len_C c) (by rfl) T.b_len PySem.boot_len (pa_cons (pe_at c (pv 0)) pa_nil)) pa_nil)) (blkOk_by (N := N_Passage_DcallD) (sc := defScope S_Passage_DcallD) (by decide +kernel)) (fun _ _ _ _ _ => (pg_name (i := 4) nd rfl (Or.inl rfl))) (fun _ _ _ _ _ => pts_nil) (fun _ _ _ _ _ => (pe_cmpR (in_C c.b) (pv 4) (pv 2) (by rfl))))
 (pss_one (ps_ret (pe_fn c (by rfl) (pa_cons (pe_at c (pv 0)) (pa_cons (pe_at c (pv 0)) (pa_cons (pv 3) (pa_cons (pv 1) pa_nil)))))))))), ?_⟩
  refine ⟨_, cal_of T.f_is_name (fn_is_name T), _, rfl, _, rfl, hn, fun H1 e1 => ⟨_, rfl, iteF ?_⟩⟩
  have h10 := hrow.1
  refine ⟨_, rfl, a, _, dx, _, rfl, e1 _ _ ha, .inl ⟨_, T.o_Passage.cl, T.n_Passage_made, rfl, L, rfl, ⟨_, SqL.of (e1 _ _ hL)⟩, fun D hD => lc_pure (walk_list (xs := xs)) (fun j => (md.getD j (0, false, 0)).2.1) (fun j => .int ((md.getD j (0, false, 0)).1 : Nat)) hD (by rw [hmd.1]; omega) (fun H2 e2 => SqL.of ((ext e1 e2) _ _ hL)) ?_ fun H2 e2 hl2 => ?_⟩⟩
  · rintro i y H2 H3 hi e2 ⟨rfl, hx⟩ Kn Ky hn hy
    have hi2 : i < md.length := by rw [← hmd.1]; exact hi
    obtain ⟨p, hp1, hp2⟩ := hmd.2 i md[i] (List.getElem?_eq_getElem hi2)
    rw [hp1] at hx
    cases hx
    have hg : md.getD i (0, false, 0) = md[i] := by simp [List.getD, List.getElem?_eq_getElem hi2]
    rw [hg] at hn hy
    refine ⟨p, _, rfl, SqT.of (e2 _ _ (e1 _ _ hp2)), rfl, _, _, rfl, _, _, rfl, _, _, rfl, rfl, rfl, _, rfl, _, rfl, ?_⟩
    cases ht : md[i].2.1 with
    | true => exact iteT ⟨_, rfl, hy ht _ (exr _)⟩
    | false => exact iteF (hn ht _ (exr _))
  · have hl2' : H2 D = some (.lst (goL md)) := by unfold goL; rw [← hmd.1]; exact hl2
    have e12 := ext e1 e2
    have h10b : st.length ≤ 10 := by rw [hok.1]; exact h10
    refine ⟨_, rfl, a, _, dx, _, rfl, e12 _ _ ha, .inl ⟨_, T.o_Passage.cl, T.n_Passage_stand_here, rfl, t, _, rfl, .inr (SqT.of (e12 _ _ ht)), ?_⟩⟩
    refine ⟨_, rfl, by omega, by rw [List.length_map]; omega, fun D2 hD2 => lc_pure (walk_rng0 (n := (st.map V.int).length)) (fun _ => true) (fun i => .bl (passI md i)) hD2 (by rw [List.length_map]; omega) (fun _ _ => trivial) ?_ fun H3 e3 hl3 => ?_⟩
    · rintro i y H3 H4 hi e3 ⟨rfl, rfl⟩ Kn Ky _ hy
      refine ⟨rfl, _, rfl, _, rfl, D, _, rfl, .inl (SqL.of (e3 _ _ hl2')), rfl, gvn_flat _, ?_⟩
      rw [if_neg Bool.false_ne_true, goL_in]
      exact hy rfl _ (exr _)
    · rw [gvn_all, List.length_map] at hl3
      have e13 := ext e12 e3
      refine ⟨_, cal_of T.f_stand_below (fn_stand_below T), _, rfl, a, _, dx, _, rfl, e13 _ _ ha, .inl ⟨_, T.o_Passage.cl, T.n_Passage_row_here, rfl, _, rfl, a, _, dx, _, rfl, e13 _ _ ha, .inl ⟨_, T.o_Passage.cl, T.n_Passage_stand_here, rfl, _, rfl, _, rfl, ?_⟩⟩⟩
      exact ⟨r, t, D2, n, st, cs, (List.range st.length).map (passI md), rfl, hrow.ex e13, e13 _ _ ht, by rw [List.map_map]; exact hl3, hok, by rw [List.length_map, List.length_range, hok.1], fun H4 rr e4 hrr => q _ rr (ext e13 e4) hrr⟩
end
end Md
/-! Md: where a row stands at a path. -/
namespace Md
open PySem PySem.Spec PyProof.Rows L2
def stepF (cs : List Cmd) (rt : En × Fo) (ab : List Str) (st : List Int) (n : Str) : List Int := match subF rt ab with
  | some x => passL cs st (madeN cs st x.1.mode x.1.owner x.1.group cs.length).1 n
  | none => st
/-- the stand behind the first i names -/
def standI (cs : List Cmd) (rt : En × Fo) (ns : List Str) : Nat → List Int
  | 0 => List.replicate cs.length 0
  | i + 1 => stepF cs rt (ns.take i) (standI cs rt ns i) (ns.getD i "")
def standM (cs : List Cmd) (rt : En × Fo) (ns : List Str) : List Int := standI cs rt ns ns.length
theorem belowL_ok {cs : List Cmd} {st : List Int} {ps : List Bool} {n : Str} (h : StOk st cs) : StOk (belowL cs st ps n) cs := by
  unfold belowL
  refine ⟨by rw [List.length_map, List.length_range], fun i z c hz hc => ?_⟩
  rw [List.getElem?_map] at hz
  obtain ⟨j, hj, rfl⟩ := Option.map_eq_some_iff.mp hz
  have hi : i < cs.length := (List.getElem?_eq_some_iff.mp hc).1
  rw [List.getElem?_range hi] at hj
  cases hj
  have hs : i < st.length := by rw [h.1]; exact hi
  have := h.2 i st[i] c (List.getElem?_eq_getElem hs) hc
  have g1 : cs.getD i cmd0 = c := by simp [List.getD, hc]
  have g2 : st.getD i 0 = st[i] := by simp [List.getD, List.getElem?_eq_getElem hs]
  rw [g1, g2]
  unfold belowI
  split
  · omega
  · split
    · omega
    · split
      · split <;> omega
      · omega
theorem stepF_ok {cs : List Cmd} {rt : En × Fo} {ab : List Str} {st : List Int} {n : Str} (h : StOk st cs) : StOk (stepF cs rt ab st n) cs := by
  unfold stepF
  split
  · exact belowL_ok h
  · exact h
theorem standI_ok (cs : List Cmd) (rt : En × Fo) (ns : List Str) : ∀ i, StOk (standI cs rt ns i) cs
  | 0 => by
    refine ⟨List.length_replicate, fun i z c hz hc => ?_⟩
    have hz2 := List.eq_of_mem_replicate (List.mem_of_getElem? hz)
    omega
  | i + 1 => stepF_ok (standI_ok cs rt ns i)
def spStandOf (A : Ad) : Sp := fun vs H Q _ => ∃ (a t p : Addr) (ns : List Str) (cs : List Cmd) (e : En) (k : Fo) (ds : List Addr) (y : En × Fo), vs = [.ref a, .ref t, .str (pth ns)] ∧ RowAt A H a cs ∧ TreeAt A H t p e k ds ∧ Nms ns ∧ ns.length ≤ 900 ∧ subF (e, k) ns = some y ∧
  ∀ H' r, Ex H H' → H' r = some (.tup ((standM cs (e, k) ns).map V.int)) → Q (.ref r) H'
section
variable {P : Program} {w : World} {K : PySem.W.Frag} {mg : Str → Option Value} {base : Heap} {A : Ad}
theorem fn_stand_of (T : Tx K mg w A) (S : Sx P K mg A) : ∀ f fd, Fun K "stand_of" "stand_of" S_stand_of f fd → Fn P w K mg base f 12 (spStandOf A) := by
  intro f fd F
  refine fnr_of (k := 11) F sc_stand_of (fun _ _ _ _ _ _ us hl => match us, hl with | [_, _, _], _ => rfl) (fun vs H Q E h => by obtain ⟨x, m, _, _, _, _, _, _, _, rfl, _⟩ := h; rfl) fun f cdv Ar outer s H vs Q E c h => ?_
  have hr := c.room
  have nd := sc_stand_of.nd
  obtain ⟨a, t, p, ns, cs, e, k, ds, y, rfl, hrow, htree, hns, hnl, hsub, q⟩ := h
  refine ⟨_, (pss_cons (ps_expr (pe_mt c (pv 1) (pa_cons (pv 2) pa_nil)))
 (pss_cons (ps_set (i := 3) nd rfl (Or.inl rfl) (pe_callTy (tup_C c) (by rfl) T.b_tuple (by decide +kernel) (pa_cons (pe_lc (own := [("at", 7)]) (g := gName 7) rfl nd (pi_range1 (by rfl) T.b_range (pa_cons (pe_callB (call_lenO c) (by rfl) T.b_len PySem.boot_len (pa_cons (pv 0) pa_nil)) pa_nil)) (blkOk_by (N := N_stand_of) (sc := defScope S_stand_of) (by decide +kernel)) (fun _ _ _ _ _ => (pg_name (i := 7) nd rfl (Or.inl rfl))) (fun _ _ _ _ _ => pts_nil) (fun _ _ _ _ _ => pe_int)) pa_nil)))
 (pss_cons (ps_set (i := 4) nd rfl (Or.inl rfl) pe_str)
 (pss_cons (ps_for PassesOwn.never rfl (pi_tupC c (pe_fn c (by rfl) (pa_cons (pv 2) pa_nil))) (pg_name (i := 5) nd rfl (Or.inl rfl))
 (pss_cons (ps_set (i := 6) nd rfl (Or.inl rfl) (pe_mt c (pv 1) (pa_cons (pv 4) pa_nil)))
 (pss_cons (ps_set (i := 3) nd rfl (Or.inl rfl) (pe_co c (pe_mk c (by rfl) (pa_cons (pv 0) (pa_cons (pv 3) (pa_cons (pe_at c (pv 6)) (pa_cons (pe_at c (pv 6)) (pa_cons (pe_at c (pv 6)) pa_nil)))))) (pa_cons (pv 5) pa_nil)))
 (pss_one (ps_set (i := 4) nd rfl (Or.inl rfl) (pe_fn c (by rfl) (pa_cons (pv 4) (pa_cons (pv 5) pa_nil))))))))
 (pss_one (ps_ret (pv 3))))))), ?_⟩
  have h10 := hrow.1
  obtain ⟨_, dxr, tr, rs, hra, _⟩ := id hrow
  obtain ⟨⟨dxt, ht⟩, _, ok⟩ := id htree
  refine ⟨_, rfl, t, _, dxt, _, _, rfl, ht, mcal_of T.m_Tree_entry T.o_Tree.cl (fn_Tree_entry T), rfl, _, rfl, t, ns, p, e, k, ds, y.1, y.2, rfl, hns, by omega, htree, hsub, fun H1 p1 dp e1 _ _ => ?_⟩
  refine ⟨_, rfl, a, _, dxr, _, _, rfl, e1 _ _ hra, scal_of T.s_Row_len (fn_Row_len T), a, cs, rfl, hrow.ex e1, fun H2 e2 => ⟨_, rfl, by omega, by omega, _, rfl, by omega, by omega, fun D hD => lc_pure (walk_rng0 (n := cs.length)) (fun _ => true) (fun _ => .int 0) hD (by omega) (fun _ _ => trivial) ?_ fun H3 e3 hl3 => ?_⟩⟩
  · rintro i z H3 H4 hi e3 ⟨rfl, rfl⟩ Kn Ky _ hy
    exact ⟨rfl, hy rfl _ (exr _)⟩
  · rw [gvn_all] at hl3
    have hl3' : H3 D = some (.lst ((standI cs (e, k) ns 0).map V.int)) := by
      rw [hl3]
      congr 2
      show _ = (List.replicate cs.length 0).map V.int
      rw [List.map_replicate]
      apply List.ext_getElem?
      intro j
      rw [List.getElem?_map, List.getElem?_replicate]
      by_cases hj : j < cs.length
      · rw [List.getElem?_range hj, if_pos hj]; rfl
      · rw [if_neg hj, List.getElem?_eq_none (by simpa using hj)]; rfl
    have e13 := ext e1 (ext e2 e3)
    refine ⟨D, _, rfl, .inl ⟨SqL.of hl3', fun l hl => ?_⟩⟩
    have hl4 : upd H3 l (.tup ((standI cs (e, k) ns 0).map V.int)) l = some (.tup ((standI cs (e, k) ns 0).map V.int)) := upd_same
    have e14 : Ex H (upd H3 l (.tup ((standI cs (e, k) ns 0).map V.int))) := ext e13 (exn hl)
    generalize upd H3 l (.tup ((standI cs (e, k) ns 0).map V.int)) = H4 at hl4 e14 ⊢
    refine ⟨_, cal_of T.f_names_of (fn_names_of T), _, rfl, ns, rfl, hns, by omega, fun tn H5 e5 htn0 htn => ⟨tn, rfl, ⟨_, SqT.of htn⟩, for_it (walk_tup (xs := ns.map V.str)) (fun i σ H' => (∃ l v5 v6, σ = [some (.ref a), some (.ref t), some (.str (pth ns)), some (.ref l), some (.str (pth (ns.take i))), v5, v6, none] ∧ H' l = some (.tup ((standI cs (e, k) ns i).map V.int))) ∧ Ex H5 H')
      ⟨⟨l, none, none, by rw [List.take_zero, show pth [] = ("" : Str) from rfl]; rfl, e5 _ _ hl4⟩, exr _⟩ (fun i σ H' _ p => SqT.of (p.2 _ _ htn)) ?_ ?_⟩⟩
    · rintro i z σ H7 H6 hi ⟨⟨l, v5, v6, rfl, hl6⟩, e6⟩ ⟨rfl, hz⟩
      rw [List.getElem?_map] at hz
      obtain ⟨n, hn, rfl⟩ := Option.map_eq_some_iff.mp hz
      have hi2 : i < ns.length := (List.getElem?_eq_some_iff.mp hn).1
      obtain ⟨x, hx⟩ := subF_take i hsub
      have okx := subF_ok ok.ok hx
      have e06 : Ex H H6 := ext e14 (ext e5 e6)
      have hnn : Nm n := hns n (List.mem_of_getElem? hn)
      have htk : Nms (ns.take i) := fun m hm => hns m (List.mem_of_mem_take hm)
      have hlt : (ns.take i).length ≤ 900 := by rw [List.length_take]; omega
      refine ⟨_, rfl, t, _, dxt, _, _, rfl, e06 _ _ ht, mcal_of T.m_Tree_entry T.o_Tree.cl (fn_Tree_entry T), rfl, _, rfl, t, ns.take i, p, e, k, ds, x.1, x.2, rfl, htk, by omega, htree.ex e06, hx, fun H8 p' dp e8 hnode _ => ?_⟩
      obtain ⟨kk, d0, dk, hen, _, _⟩ := hnode
      obtain ⟨dxp, dp1, ma, hp', hma⟩ := hen.ins
      have e08 := ext e06 e8
      refine ⟨_, _, ccal_of T.i_Passage T.k_Passage (fn_Passage_init T S), _, rfl, _, rfl, _, rfl, p', _, dxp, _, rfl, hp', .inr ⟨_, pc_mode T x.1.dir (by decide), p', x.1, kk, d0, rfl, hen, fun H9 mb e9 hmb => ?_⟩⟩
      refine ⟨_, rfl, p', _, dxp, _, rfl, e9 _ _ hp', .inr ⟨_, pc_owner T x.1.dir (by decide), p', x.1, kk, d0, rfl, hen.ex e9, fun H10 e10 => ?_⟩⟩
      refine ⟨_, rfl, p', _, dxp, _, rfl, e10 _ _ (e9 _ _ hp'), .inr ⟨_, pc_group T x.1.dir (by decide), p', x.1, kk, d0, rfl, hen.ex (ext e9 e10), fun H11 e11 xx dxx hxx hdxx _ => ?_⟩⟩
      have e8b := ext e9 (ext e10 e11)
      have e0b := ext e08 e8b
      refine ⟨xx, dxx, a, l, .ref mb, x.1.mode, x.1.owner, x.1.group, cs, standI cs (e, k) ns i, H11, rfl, hxx, ex_made hxx hdxx, upd_same, hrow.ex e0b, e8b _ _ (e8 _ _ hl6), standI_ok cs (e, k) ns i, .inr ⟨mb, rfl, hmb.ex (ext e10 e11)⟩, okx.eo.o, okx.eo.g, fun H12 e12 hpass => ⟨rfl, ?_⟩⟩
      obtain ⟨_, dq, wq, rq, sq, Lq, zq, xq, hq, _⟩ := id hpass
      refine ⟨xx, _, _, rfl, scal_of T.s_Passage_call (fn_Passage_call T), _, rfl, dq, _, hq, xx, n, cs, _, _, rfl, hpass, hnn, fun H13 r e13' hr13 => ?_⟩
      refine ⟨_, cal_of T.f_joined (fn_joined T), _, rfl, _, rfl, ns.take i, n, rfl, htk, hnn, by omega, fun H14 e14' => ?_⟩
      have htake : ns.take (i + 1) = ns.take i ++ [n] := by rw [List.take_add_one, hn]; rfl
      refine ⟨⟨r, _, _, by rw [htake]; rfl, ?_⟩, ext e6 (ext e8 (ext e8b (ext e12 (ext e13' e14'))))⟩
      have hst : standI cs (e, k) ns (i + 1) = passL cs (standI cs (e, k) ns i) (madeN cs (standI cs (e, k) ns i) x.1.mode x.1.owner x.1.group cs.length).1 n := by
        show stepF cs (e, k) (ns.take i) _ (ns.getD i "") = _
        unfold stepF
        rw [hx]
        simp [List.getD, hn]
      rw [hst]
      exact e14' _ _ hr13
    · rintro σ H6 ⟨⟨l, v5, v6, rfl, hl6⟩, e6⟩
      rw [List.length_map] at hl6
      exact ⟨_, rfl, q _ l (ext e14 (ext e5 e6)) hl6⟩
end
end Md
/-! Md: the law's hall and joined. -/
namespace Md
open PySem PySem.Spec PyProof.Rows L2
/-- the hall at a path: a passage of the folder there, by the stand there -/
def hallMd (cs : List Cmd) (rt x : En × Fo) (ns : List Str) : List (Nat × Bool × Int) := (madeN cs (standM cs rt ns) x.1.mode x.1.owner x.1.group cs.length).1
def spHall (A : Ad) : Sp := fun vs H Q _ => ∃ (a t p : Addr) (ns : List Str) (cs : List Cmd) (e : En) (k : Fo) (ds : List Addr) (y : En × Fo), vs = [.ref a, .ref t, .str (pth ns)] ∧ RowAt A H a cs ∧ TreeAt A H t p e k ds ∧ Nms ns ∧ ns.length ≤ 900 ∧ subF (e, k) ns = some y ∧
  ∀ H' x, Ex H H' → PassAt A H' x cs (standM cs (e, k) ns) (hallMd cs (e, k) y ns) → Q (.ref x) H'
section
variable {P : Program} {w : World} {K : PySem.W.Frag} {mg : Str → Option Value} {base : Heap} {A : Ad}
theorem fn_law_joined (T : Tx K mg w A) : ∀ f fd, Fun K "_law_joined" "_law_joined" S__law_joined f fd → Fn P w K mg base f 1 spJoined := by
  intro f fd F
  refine fnr_of (k := 0) F sc__law_joined (fun _ _ _ _ _ _ us hl => match us, hl with | [_, _], _ => rfl) (fun vs H Q E h => by obtain ⟨x, m, rfl, _⟩ := h; rfl) fun f cdv Ar outer s H vs Q E c h => ?_
  have hr := c.room
  have nd := sc__law_joined.nd
  obtain ⟨ns, n, rfl, hns, hn, hl, q⟩ := h
  refine ⟨_, (pss_one (ps_ret (pe_ifExp (pt_cmpR op_eq (pv 0) pe_str (nomark _)) (pv 1) (pe_op op_add_str (pe_op op_add_str (pv 0) pe_str) (pv 1))))), ?_⟩
  have hp := pth_len hns
  by_cases h0 : ns = []
  · subst h0
    refine ⟨_, rfl, rfl, _, rfl, ?_⟩
    rw [pth_nil, decide_eq_true rfl]
    refine iteT ⟨_, rfl, ?_⟩
    have := q _ (exr _)
    rwa [List.nil_append, pth_one] at this
  · refine ⟨_, rfl, rfl, _, rfl, ?_⟩
    rw [decide_eq_false (fun e => pth_ne h0 hns (V.str.inj e))]
    have h8 := hn.2.1
    refine iteF ⟨_, rfl, _, _, rfl, rfl, ?_, _, rfl, _, _, rfl, rfl, ?_, ?_⟩
    · exact zl (by rw [show ("/" : Str).length = 1 by decide +kernel]; omega)
    · refine zl ?_
      rw [Str.length_append, show ("/" : Str).length = 1 by decide +kernel]
      omega
    · have := q _ (exr _)
      rwa [pth_snoc n h0] at this
theorem fn_law_hall (T : Tx K mg w A) (S : Sx P K mg A) : ∀ f fd, Fun K "_law_hall" "_law_hall" S__law_hall f fd → Fn P w K mg base f 13 (spHall A) := by
  intro f fd F
  refine fnr_of (k := 12) F sc__law_hall (fun _ _ _ _ _ _ us hl => match us, hl with | [_, _, _], _ => rfl) (fun vs H Q E h => by obtain ⟨x, m, _, _, _, _, _, _, _, rfl, _⟩ := h; rfl) fun f cdv Ar outer s H vs Q E c h => ?_
  have hr := c.room
  have nd := sc__law_hall.nd
  obtain ⟨a, t, p, ns, cs, e, k, ds, y, rfl, hrow, htree, hns, hnl, hsub, q⟩ := h
  refine ⟨_, (pss_cons (ps_par (i := 3) (j := 4) rfl nd rfl rfl (by decide) rfl rfl (pa_cons (pe_mt c (pv 1) (pa_cons (pv 2) pa_nil)) (pa_cons (pe_fn c (by rfl) (pa_cons (pv 0) (pa_cons (pv 1) (pa_cons (pv 2) pa_nil)))) pa_nil)) (by with_unfolding_all rfl))
 (pss_one (ps_ret (pe_mk c (by rfl) (pa_cons (pv 0) (pa_cons (pv 4) (pa_cons (pe_at c (pv 3)) (pa_cons (pe_at c (pv 3)) (pa_cons (pe_at c (pv 3)) pa_nil))))))))), ?_⟩
  obtain ⟨⟨dxt, ht⟩, _, ok⟩ := id htree
  have okx := subF_ok ok.ok hsub
  refine ⟨_, rfl, t, _, dxt, _, _, rfl, ht, mcal_of T.m_Tree_entry T.o_Tree.cl (fn_Tree_entry T), rfl, _, rfl, t, ns, p, e, k, ds, y.1, y.2, rfl, hns, by omega, htree, hsub, fun H1 p1 dp e1 hnode _ => ?_⟩
  refine ⟨_, cal_of T.f_stand_of (fn_stand_of T S), _, rfl, _, rfl, _, rfl, a, t, p, ns, cs, e, k, ds, y, rfl, hrow.ex e1, htree.ex e1, hns, hnl, hsub, fun H2 r e2 hr2 => ?_⟩
  obtain ⟨kk, d0, dk, hen, _, _⟩ := hnode
  obtain ⟨dxp, dp1, ma, hp', hma⟩ := hen.ins
  have e12 := ext e1 e2
  refine ⟨_, _, rfl, _, _, ccal_of T.i_Passage T.k_Passage (fn_Passage_init T S), _, rfl, _, rfl, _, rfl, p1, _, dxp, _, rfl, e2 _ _ hp', .inr ⟨_, pc_mode T y.1.dir (by decide), p1, y.1, kk, d0, rfl, hen.ex e2, fun H3 mb e3 hmb => ?_⟩⟩
  have e23 := ext e2 e3
  refine ⟨_, rfl, p1, _, dxp, _, rfl, e23 _ _ hp', .inr ⟨_, pc_owner T y.1.dir (by decide), p1, y.1, kk, d0, rfl, hen.ex e23, fun H4 e4 => ?_⟩⟩
  have e24 := ext e23 e4
  refine ⟨_, rfl, p1, _, dxp, _, rfl, e24 _ _ hp', .inr ⟨_, pc_group T y.1.dir (by decide), p1, y.1, kk, d0, rfl, hen.ex e24, fun H5 e5 xx dxx hxx hdxx _ => ?_⟩⟩
  have e25 := ext e3 (ext e4 e5)
  have e05 := ext e12 e25
  exact ⟨xx, dxx, a, r, .ref mb, y.1.mode, y.1.owner, y.1.group, cs, standM cs (e, k) ns, H5, rfl, hxx, ex_made hxx hdxx, upd_same, hrow.ex e05, e25 _ _ hr2, standI_ok cs (e, k) ns _, .inr ⟨mb, rfl, hmb.ex (ext e4 e5)⟩, okx.eo.o, okx.eo.g, fun H6 e6 hpass => ⟨rfl, q H6 xx (ext e05 e6) hpass⟩⟩
end
end Md
/-! Md: the law's users. -/
namespace Md
open PySem PySem.Spec PyProof.Rows L2
/-- a drawn user: a tuple of a name, a list of groups, a yes -/
def DUser (H : Hp) (a : Addr) (u : Us) : Prop := UsOk u ∧ ∃ l, H a = some (.tup [.str u.name, .ref l, .bl u.chief]) ∧ H l = some (.lst (u.groups.map V.str))
theorem DUser.ex {H H' : Hp} {a : Addr} {u : Us} (e : Ex H H') (h : DUser H a u) : DUser H' a u := ⟨h.1, h.2.imp fun l q => ⟨e _ _ q.1, e _ _ q.2⟩⟩
def spUserSo (A : Ad) : Sp := fun vs H Q _ => ∃ a u, vs = [.ref a] ∧ DUser H a u ∧ ∀ H' b, Ex H H' → UserAt A H' b u → Q (.ref b) H'
section
variable {P : Program} {w : World} {K : PySem.W.Frag} {mg : Str → Option Value} {base : Heap} {A : Ad}
theorem mk_UserSp {H1 : Hp} {x dx : Addr} {u : Us} {gs : List Str} (hgs : u.groups = gs) (hx : H1 x = none) (hd : H1 dx = none) (ok : UsOk u) {Q' : VK} {E : XK} (q : ∀ H', Ex H1 H' → UserAt A H' x u → Q' .non H') :
    ∃ ws rest, (V.ref x :: .str u.name :: gs.map V.str) = ws ++ rest ∧ ws.length = ["self", "name"].length ∧ rest.length ≤ sizeLine ∧ ∀ p, (upd (upd H1 dx (.own x)) x (.ins (uC A u) dx [])) p = none → spUserInit0 A (ws ++ [V.ref p]) (upd (upd (upd H1 dx (.own x)) x (.ins (uC A u) dx [])) p (.tup rest)) Q' E := by
  subst hgs
  refine ⟨[.ref x, .str u.name], u.groups.map V.str, rfl, rfl, zl (by rw [List.length_map]; have := ok.le; omega), fun p hp => ?_⟩
  have npx : p ≠ x := fun z => by rw [z, upd_same] at hp; cases hp
  have e0 := ex_made (o := .own x) (u := .ins (uC A u) dx []) hx hd
  refine ⟨x, dx, p, u, rfl, exn hp _ _ upd_same, upd_same, ok, fun H' b hx' => ?_⟩
  have e : Ex H1 H' := ExB.made hx hd (ExB.trans (exn hp).b b)
  exact q H' e ⟨dx, p, hx', b _ _ npx upd_same⟩
theorem fn_law_user_so (T : Tx K mg w A) : ∀ f fd, Fun K "_law_user_so" "_law_user_so" S__law_user_so f fd → Fn P w K mg base f 5 (spUserSo A) := by
  intro f fd F
  refine fnr_of (k := 4) F sc__law_user_so (fun _ _ _ _ _ _ us hl => match us, hl with | [_], _ => rfl) (fun vs H Q E h => by obtain ⟨x, m, rfl, _⟩ := h; rfl) fun f cdv Ar outer s H vs Q E c h => ?_
  have hr := c.room
  have nd := sc__law_user_so.nd
  obtain ⟨a, u, rfl, ⟨ok, l, ha, hl⟩, q⟩ := h
  refine ⟨_, (pss_cons (ps_asg (pv 0) (pg_tupC c rfl (pgs_cons (pg_name (i := 1) nd rfl (Or.inl rfl)) (pgs_cons (pg_name (i := 2) nd rfl (Or.inl rfl)) (pgs_cons (pg_name (i := 3) nd rfl (Or.inl rfl)) pgs_nil)))))
 (pss_cons (ps_if (pt_cmpR op_eq (pe_callB (len_C c) (by rfl) T.b_len PySem.boot_len (pa_cons (pv 2) pa_nil)) pe_int (nomark _)) (pss_one (ps_ret (pe_ifExp (pt_val (pv 3)) (pe_mk c (by rfl) (pa_cons (pv 1) pa_nil)) (pe_mk c (by rfl) (pa_cons (pv 1) pa_nil))))) pss_nil)
 (pss_cons (ps_if (pt_cmpR op_eq (pe_callB (len_C c) (by rfl) T.b_len PySem.boot_len (pa_cons (pv 2) pa_nil)) pe_int (nomark _)) (pss_one (ps_ret (pe_ifExp (pt_val (pv 3)) (pe_mk c (by rfl) (pa_cons (pv 1) (pa_cons (pe_ix (ix_listC c) (pv 2) pe_int (fun _ _ => rfl)) pa_nil))) (pe_mk c (by rfl) (pa_cons (pv 1) (pa_cons (pe_ix (ix_listC c) (pv 2) pe_int (fun _ _ => rfl)) pa_nil)))))) pss_nil)
 (pss_one (ps_ret (pe_ifExp (pt_val (pv 3)) (pe_mk c (by rfl) (pa_cons (pv 1) (pa_cons (pe_ix (ix_listC c) (pv 2) pe_int (fun _ _ => rfl)) (pa_cons (pe_ix (ix_listC c) (pv 2) pe_int (fun _ _ => rfl)) pa_nil)))) (pe_mk c (by rfl) (pa_cons (pv 1) (pa_cons (pe_ix (ix_listC c) (pv 2) pe_int (fun _ _ => rfl)) (pa_cons (pe_ix (ix_listC c) (pv 2) pe_int (fun _ _ => rfl)) pa_nil)))))))))), ?_⟩
  refine ⟨_, rfl, a, _, rfl, SqT.of ha, rfl, _, _, rfl, _, _, rfl, _, _, rfl, rfl, ?_⟩
  have hle := ok.le
  match hg : u.groups with
  | [] =>
    rw [hg] at hl
    refine ⟨_, rfl, l, _, rfl, .inl (SqL.of hl), rfl, _, rfl, ?_⟩
    rw [decide_eq_true (by rfl)]
    refine iteT ?_
    cases hch : u.chief with
    | true =>
      have hC : A.Chief = uC A u := by unfold uC; rw [hch]; rfl
      refine ⟨_, rfl, _, rfl, iteT ⟨_, uC A u, hC ▸ ccal_of T.i_Chief T.k_Chief (fn_User_init T), _, rfl, fun x dx hx hdx _ => mk_UserSp (gs := []) hg hx hdx ok fun H' e h => ⟨rfl, q H' x e h⟩⟩⟩
    | false =>
      have hC : A.User = uC A u := by unfold uC; rw [hch]; rfl
      refine ⟨_, rfl, _, rfl, iteF ⟨_, uC A u, hC ▸ ccal_of T.i_User T.k_User (fn_User_init T), _, rfl, fun x dx hx hdx _ => mk_UserSp (gs := []) hg hx hdx ok fun H' e h => ⟨rfl, q H' x e h⟩⟩⟩
  | [g1] =>
    rw [hg] at hl
    refine ⟨_, rfl, l, _, rfl, .inl (SqL.of hl), rfl, _, rfl, ?_⟩
    rw [decide_eq_false (by simp)]
    refine iteF ⟨_, rfl, l, _, rfl, .inl (SqL.of hl), rfl, _, rfl, ?_⟩
    rw [decide_eq_true (by rfl)]
    refine iteT ?_
    cases hch : u.chief with
    | true =>
      have hC : A.Chief = uC A u := by unfold uC; rw [hch]; rfl
      refine ⟨_, rfl, _, rfl, iteT ⟨_, uC A u, hC ▸ ccal_of T.i_Chief T.k_Chief (fn_User_init T), _, rfl, _, rfl, l, _, 0, _, rfl, rfl, SqL.of hl, rfl, fun x dx hx hdx _ => mk_UserSp (gs := [g1]) hg hx hdx ok fun H' e h => ⟨rfl, q H' x e h⟩⟩⟩
    | false =>
      have hC : A.User = uC A u := by unfold uC; rw [hch]; rfl
      refine ⟨_, rfl, _, rfl, iteF ⟨_, uC A u, hC ▸ ccal_of T.i_User T.k_User (fn_User_init T), _, rfl, _, rfl, l, _, 0, _, rfl, rfl, SqL.of hl, rfl, fun x dx hx hdx _ => mk_UserSp (gs := [g1]) hg hx hdx ok fun H' e h => ⟨rfl, q H' x e h⟩⟩⟩
  | [g1, g2] =>
    rw [hg] at hl
    refine ⟨_, rfl, l, _, rfl, .inl (SqL.of hl), rfl, _, rfl, ?_⟩
    rw [decide_eq_false (by simp)]
    refine iteF ⟨_, rfl, l, _, rfl, .inl (SqL.of hl), rfl, _, rfl, ?_⟩
    rw [decide_eq_false (by simp)]
    refine iteF ?_
    cases hch : u.chief with
    | true =>
      have hC : A.Chief = uC A u := by unfold uC; rw [hch]; rfl
      refine ⟨_, rfl, _, rfl, iteT ⟨_, uC A u, hC ▸ ccal_of T.i_Chief T.k_Chief (fn_User_init T), _, rfl, _, rfl, l, _, 0, _, rfl, rfl, SqL.of hl, rfl, _, rfl, l, _, 1, _, rfl, rfl, SqL.of hl, rfl, fun x dx hx hdx _ => mk_UserSp (gs := [g1, g2]) hg hx hdx ok fun H' e h => ⟨rfl, q H' x e h⟩⟩⟩
    | false =>
      have hC : A.User = uC A u := by unfold uC; rw [hch]; rfl
      refine ⟨_, rfl, _, rfl, iteF ⟨_, uC A u, hC ▸ ccal_of T.i_User T.k_User (fn_User_init T), _, rfl, _, rfl, l, _, 0, _, rfl, rfl, SqL.of hl, rfl, _, rfl, l, _, 1, _, rfl, rfl, SqL.of hl, rfl, fun x dx hx hdx _ => mk_UserSp (gs := [g1, g2]) hg hx hdx ok fun H' e h => ⟨rfl, q H' x e h⟩⟩⟩
  | g1 :: g2 :: g3 :: r =>
    rw [hg] at hle
    simp only [List.length_cons] at hle
    omega
end
end Md
/-! Md: the law's rows. -/
namespace Md
open PySem PySem.Spec PyProof.Rows L2
/-- drawn clauses: a list of tuples of three texts -/
def DCls (H : Hp) (l : Addr) (ch : List Cl) : Prop := ∃ xs, H l = some (.lst xs) ∧ xs.length = ch.length ∧ ∀ (j : Nat) (c : Cl), ch[j]? = some c → ∃ p, xs[j]? = some (V.ref p) ∧ H p = some (.tup [.str c.who, .str c.sign, .str c.what])
theorem DCls.ex {H H' : Hp} {l : Addr} {ch : List Cl} (e : Ex H H') (h : DCls H l ch) : DCls H' l ch := by
  obtain ⟨xs, h1, h2, h3⟩ := h
  exact ⟨xs, e _ _ h1, h2, fun j c hj => let ⟨p, a, b⟩ := h3 j c hj; ⟨p, a, e _ _ b⟩⟩
/-- a drawn deed -/
def DDeed (H : Hp) (a : Addr) (c : Cmd) : Prop := CmdOk c ∧ (∀ d ∈ c.ch, ClOk d) ∧ (1 ≤ c.ch.length ∧ c.ch.length ≤ 8) ∧ ∃ u lc lt, H a = some (.tup [.ref u, .ref lc, .str (ordS c), .str c.kinds, .ref lt]) ∧ DUser H u c.user ∧ DCls H lc c.ch ∧ H lt = some (.lst (c.start.map V.str))
theorem DDeed.ex {H H' : Hp} {a : Addr} {c : Cmd} (e : Ex H H') (h : DDeed H a c) : DDeed H' a c := by
  obtain ⟨h1, h2, h3, u, lc, lt, h4, h5, h6, h7⟩ := h
  exact ⟨h1, h2, h3, u, lc, lt, e _ _ h4, h5.ex e, h6.ex e, e _ _ h7⟩
def DDeeds (H : Hp) (xs : List V) (cs : List Cmd) : Prop := xs.length = cs.length ∧ ∀ (j : Nat) (c : Cmd), cs[j]? = some c → ∃ p, xs[j]? = some (V.ref p) ∧ DDeed H p c
theorem DDeeds.ex {H H' : Hp} {xs : List V} {cs : List Cmd} (e : Ex H H') (h : DDeeds H xs cs) : DDeeds H' xs cs := ⟨h.1, fun j c hj => let ⟨p, a, b⟩ := h.2 j c hj; ⟨p, a, b.ex e⟩⟩
def spRowSo (A : Ad) : Sp := fun vs H Q _ => ∃ (l : Addr) (xs : List V) (cs : List Cmd), vs = [.ref l] ∧ H l = some (.lst xs) ∧ DDeeds H xs cs ∧ cs.length ≤ 9 ∧ ∀ H' b, Ex H H' → RowAt A H' b cs → Q (.ref b) H'
section
variable {P : Program} {w : World} {K : PySem.W.Frag} {mg : Str → Option Value} {base : Heap} {A : Ad}
theorem mk_RowSp {H1 : Hp} {x dx : Addr} {rs : List V} {cs : List Cmd} {Q' : VK} {E : XK} (hx : H1 x = none) (hd : H1 dx = none) (hc : CmdsAt A H1 rs cs) (hl : cs.length ≤ 10) (q : ∀ H', Ex H1 H' → RowAt A H' x cs → Q' .non H') :
    ∃ ws rest, (V.ref x :: rs) = ws ++ rest ∧ ws.length = ["self"].length ∧ rest.length ≤ sizeLine ∧ ∀ p, upd (upd H1 dx (.own x)) x (.ins A.Row dx []) p = none → spRowInit0 A (ws ++ [V.ref p]) (upd (upd (upd H1 dx (.own x)) x (.ins A.Row dx [])) p (.tup rest)) Q' E := by
  refine ⟨[.ref x], rs, rfl, rfl, zl (by rw [hc.1]; omega), fun p hp => ?_⟩
  have npx : p ≠ x := fun z => by rw [z, upd_same] at hp; cases hp
  have e0 := ex_made (o := .own x) (u := .ins A.Row dx []) hx hd
  refine ⟨x, dx, p, rs, cs, rfl, exn hp _ _ upd_same, upd_same, hc.ex (ext e0 (exn hp)), hl, fun H' b hx' => ?_⟩
  have e : Ex H1 H' := ExB.made hx hd (ExB.trans (exn hp).b b)
  exact q H' e ⟨hl, dx, p, rs, hx', b _ _ npx upd_same, hc.ex e⟩
theorem fn_law_row_so (T : Tx K mg w A) (U : Ty K A) : ∀ f fd, Fun K "_law_row_so" "_law_row_so" S__law_row_so f fd → Fn P w K mg base f 10 (spRowSo A) := by
  intro f fd F
  obtain ⟨ci, cfd, hMk, FD⟩ := U.cmd
  have hFn : FnOk P w K mg base CX0 4 ci cfd _ _ := fn_Command_init T U ci cfd FD
  obtain ⟨cg, hBn⟩ := cmd_bn FD
  obtain ⟨uCm, hCm, rCm⟩ := T.k_Command
  cases rCm
  refine fnr_of (k := 9) F sc__law_row_so (fun _ _ _ _ _ _ us hl => match us, hl with | [_], _ => rfl) (fun vs H Q E h => by obtain ⟨x, m, _, rfl, _⟩ := h; rfl) fun f cdv Ar outer s H vs Q E c h => ?_
  have hr := c.room
  have nd := sc__law_row_so.nd
  obtain ⟨l, xs, cs, rfl, hl, hd, h9, q⟩ := h
  have hPas : Passes CX0 (bX P w K mg base N__law_row_so "_law_row_so" S__law_row_so f cdv Ar outer s H E) E0 := fun _ _ _ _ _ _ _ z => z.elim
  refine ⟨_, (pss_cons (ps_set (i := 1) nd rfl (Or.inl rfl) (pe_mk0 c (by rfl)))
 (pss_cons (ps_for PassesOwn.never rfl (pi_listC c (pv 0)) (pg_tupC c rfl (pgs_cons (pg_name (i := 2) nd rfl (Or.inl rfl)) (pgs_cons (pg_name (i := 3) nd rfl (Or.inl rfl)) (pgs_cons (pg_name (i := 4) nd rfl (Or.inl rfl)) (pgs_cons (pg_name (i := 5) nd rfl (Or.inl rfl)) (pgs_cons (pg_name (i := 6) nd rfl (Or.inl rfl)) pgs_nil))))))
 (pss_cons (ps_set (i := 7) nd rfl (Or.inl rfl) (pe_cm c (pe_gc (by rfl) T.k_Change) (pa_cons (pe_joinC c pe_str (pe_lc (own := [("_law_who", 8), ("_law_sign", 9), ("_law_what", 10)]) (g := gTup K 3 (gCons (gName 8) (gCons (gName 9) (gCons (gName 10) gNil)))) rfl nd (pi_listC c (pv 3)) (blkOk_by (N := N__law_row_so) (sc := defScope S__law_row_so) (by decide +kernel)) (fun _ _ _ _ _ => (pg_tupC c.b rfl (pgs_cons (pg_name (i := 8) nd rfl (Or.inl rfl)) (pgs_cons (pg_name (i := 9) nd rfl (Or.inl rfl)) (pgs_cons (pg_name (i := 10) nd rfl (Or.inl rfl)) pgs_nil))))) (fun _ _ _ _ _ => pts_nil) (fun _ _ _ _ _ => (pe_op op_add_str (pe_op op_add_str (pv 8) (pv 9)) (pv 10))))) pa_nil)))
 (pss_one (ps_set (i := 1) nd rfl (Or.inl rfl) (pe_op (op_addO c) (pv 1) (pe_makeN hMk hFn (c.room.mono (by decide)) (by rfl) hCm hBn hPas (pa_cons (pe_fn c (by rfl) (pa_cons (pv 2) pa_nil)) (pa_cons (pv 7) pa_nil)) (pk_cons (pv 4) (pk_cons (pv 5) (pk_cons (pe_joinC c pe_str (pv 6)) pk_nil)))))))))
 (pss_one (ps_ret (pv 1))))), ?_⟩
  refine ⟨_, _, ccal_of T.i_Row T.k_Row (fn_Row_init T), fun x dx hx hdx hn => ?_⟩
  refine mk_RowSp (rs := []) (cs := []) hx hdx ⟨rfl, fun j c h => by cases h⟩ (Nat.zero_le _) fun H1 e1 hrow0 => ⟨rfl, ?_⟩
  refine ⟨_, rfl, l, rfl, ⟨_, SqL.of (e1 _ _ hl)⟩, for_it (walk_list (xs := xs)) (fun i σ H' => (∃ rb v2 v3 v4 v5 v6 v7, σ = [some (.ref l), some (.ref rb), v2, v3, v4, v5, v6, v7, none, none, none] ∧ RowAt A H' rb (cs.take i)) ∧ Ex H1 H')
    ⟨⟨x, none, none, none, none, none, none, rfl, hrow0⟩, exr _⟩ (fun i σ H' _ p => SqL.of (p.2 _ _ (e1 _ _ hl))) ?_ ?_⟩
  · rintro i z σ H3 H2 hi ⟨⟨rb, v2, v3, v4, v5, v6, v7, rfl, hrb⟩, e2⟩ ⟨rfl, hz⟩
    have hi2 : i < cs.length := by rw [← hd.1]; exact hi
    obtain ⟨p, hp1, hdd⟩ := hd.2 i cs[i] (List.getElem?_eq_getElem hi2)
    rw [hp1] at hz
    cases hz
    have e02 : Ex H H2 := ext e1 e2
    obtain ⟨okc, okl, hch, u, lc, lt, hp, hu, ⟨ys, hys, hyl, hyc⟩, hlt⟩ := hdd.ex e02
    refine ⟨p, _, rfl, SqT.of hp, rfl, _, _, rfl, _, _, rfl, _, _, rfl, _, _, rfl, _, _, rfl, rfl, ?_⟩
    refine ⟨A.Change, _, rfl, cmcal_of T.c_Change_read (fn_Change_read T), ⟨_, rfl⟩, _, rfl, lc, rfl, ⟨_, SqL.of hys⟩, fun D hD => lc_pure (walk_list (xs := ys)) (fun _ => true) (fun j => .str (ctext (cs[i].ch.getD j ⟨"", "", ""⟩))) hD (by omega) (fun H3 e3 => SqL.of (e3 _ _ hys)) ?_ fun H3 e3 hl3 => ?_⟩
    · rintro j y H4 H3 hj e3 ⟨rfl, hy0⟩ Kn Ky _ hy
      have hj2 : j < cs[i].ch.length := by rw [← hyl]; exact hj
      obtain ⟨pc, hpc1, hpc2⟩ := hyc j cs[i].ch[j] (List.getElem?_eq_getElem hj2)
      rw [hpc1] at hy0
      cases hy0
      have hg : cs[i].ch.getD j ⟨"", "", ""⟩ = cs[i].ch[j] := by simp [List.getD, List.getElem?_eq_getElem hj2]
      rw [hg] at hy
      have hcl := okl _ (List.getElem_mem hj2)
      have hlen := hcl.rd.len
      refine ⟨pc, _, rfl, SqT.of (e3 _ _ hpc2), rfl, _, _, rfl, _, _, rfl, _, _, rfl, rfl, rfl, _, rfl, _, rfl, _, _, rfl, rfl, ?_, _, rfl, _, _, rfl, rfl, ?_, hy rfl _ (exr _)⟩
      · rw [show ctext cs[i].ch[j] = cs[i].ch[j].who ++ cs[i].ch[j].sign ++ cs[i].ch[j].what from rfl, Str.length_append, Str.length_append] at hlen
        exact zl (by omega)
      · rw [show ctext cs[i].ch[j] = cs[i].ch[j].who ++ cs[i].ch[j].sign ++ cs[i].ch[j].what from rfl, Str.length_append] at hlen
        exact zl (by omega)
    · rw [gvn_all] at hl3
      have hl3' : H3 D = some (.lst ((cs[i].ch.map ctext).map V.str)) := by
        rw [hl3, hyl, List.map_map]
        exact congrArg (fun q => some (HO.lst q)) (rng_getD cs[i].ch ⟨"", "", ""⟩ (fun d => V.str (ctext d)) rfl)
      have hjl := chText_len okl
      have hsum : ((cs[i].ch.map ctext).map (·.length)).sum + (cs[i].ch.map ctext).length * ("," : Str).length ≤ 16777216 := by
        rw [show ("," : Str).length = 1 by decide +kernel, List.length_map]
        have : ((cs[i].ch.map ctext).map (·.length)).sum ≤ 20 * cs[i].ch.length := by
          generalize cs[i].ch = ch at okl ⊢
          induction ch with
          | nil => exact Nat.zero_le _
          | cons n r ih =>
            have a := (okl n (List.mem_cons_self ..)).rd.len
            have b := ih fun m hm => okl m (List.mem_cons_of_mem _ hm)
            simp only [List.map_cons, List.sum_cons, List.length_cons]
            omega
        omega
      refine ⟨_, D, _, rfl, rfl, .inl (SqL.of hl3'), hsum, ?_⟩
      have e23 : Ex H2 H3 := e3
      refine ⟨cs[i].ch, by show _ = [V.ref A.Change, V.str (Str.join "," _)]; rw [← TL.join_eq], okl, hch, fun b H4 e4 hbn hcb => ?_⟩
      have e24 := ext e23 e4
      refine ⟨_, rfl, _, cal_of T.f__law_user_so (fn_law_user_so T), _, rfl, u, cs[i].user, rfl, hu.ex e24, fun H5 ub e5 hub => ⟨_, rfl, _, rfl, _, rfl, ⟨_, rfl⟩, _, rfl, ?_⟩⟩
      have e25 := ext e24 e5
      have hsum2 : (cs[i].start.map (·.length)).sum + cs[i].start.length * ("/" : Str).length ≤ 16777216 := by
        rw [show ("/" : Str).length = 1 by decide +kernel]
        have h3 := okc.le
        have : (cs[i].start.map (·.length)).sum ≤ 8 * cs[i].start.length := by
          have hst := okc.st
          clear h3
          generalize cs[i].start = ch at hst ⊢
          induction ch with
          | nil => exact Nat.zero_le _
          | cons n r ih =>
            have a := (hst n (List.mem_cons_self ..)).2.1
            have b := ih fun m hm => hst m (List.mem_cons_of_mem _ hm)
            simp only [List.map_cons, List.sum_cons, List.length_cons]
            omega
        omega
      refine ⟨_, lt, _, rfl, rfl, .inl (SqL.of (e25 _ _ hlt)), hsum2, rfl, rfl, fun x dx hx hdx hn => ?_⟩
      have e35 := ext (ext e4 e5) (ex_made (o := .own x) (u := .ins A.Command dx []) hx hdx)
      refine ⟨x, dx, ub, b, cs[i], by show _ = [V.ref x, .ref ub, .ref b, .str (ordS cs[i]), .str cs[i].kinds, .str (Str.join "/" _)]; rw [← TL.join_eq]; rfl, upd_same, okc, hub.ex (ex_made hx hdx), (hcb.ex e5).ex (ex_made hx hdx), fun H6 tc b6 g1 g2 g3 => ⟨rfl, ?_⟩⟩
      have e6 : Ex H5 H6 := ExB.made hx hdx b6
      have hcmd : CmdAt A H6 x cs[i] := ⟨okc, dx, tc, ub, b, g1, g2, hub.ex e6, (hcb.ex e5).ex e6⟩
      have e26 := ext e25 e6
      obtain ⟨hl10, dxr, tr, rsr, hrb1, hrb2, hrb3⟩ := hrb.ex e26
      refine ⟨rb, x, A.Row, dxr, _, A.Command, dx, _, _, rfl, rfl, hrb1, g1, U.add, T.o_Command.cl, scal_of T.s_Row_add (fn_Row_add T), rb, x, cs.take i, cs[i], rfl, hrb.ex e26, hcmd, by rw [List.length_take]; omega, fun H7 rb2 e7 hrn hrow2 => ⟨⟨rb2, rfl⟩, ?_⟩⟩
      have htake : cs.take (i + 1) = cs.take i ++ [cs[i]] := by rw [List.take_add_one, List.getElem?_eq_getElem hi2]; rfl
      exact ⟨⟨rb2, _, _, _, _, _, _, rfl, by rw [htake]; exact hrow2⟩, ext e2 (ext e26 e7)⟩
  · rintro σ H2 ⟨⟨rb, v2, v3, v4, v5, v6, v7, rfl, hrb⟩, e2⟩
    rw [hd.1, List.take_length] at hrb
    exact ⟨_, rfl, q _ rb (ext e1 e2) hrb⟩
end
end Md
/-! Md: lists and tuples that are compared. -/
namespace Md
open PySem PySem.Spec PyProof.Rows L2
theorem mix_bound {a i : Int} (h0 : 0 ≤ a) (h1 : a < 2147483629) (i0 : 0 ≤ i) (i1 : i ≤ 1048576) : (a * (2 * i + 89) + 57077 * i * i + 23).natAbs < 2 ^ 64 := by
  have e1 : a * (2 * i + 89) ≤ 2147483629 * 2097241 := Int.mul_le_mul (by omega) (by omega) (by omega) (by decide)
  have e2 : 57077 * i * i ≤ 57077 * 1048576 * 1048576 := Int.mul_le_mul (by omega) i1 i0 (by decide)
  have e3 : 0 ≤ a * (2 * i + 89) := Int.mul_nonneg h0 (by omega)
  have e4 : 0 ≤ 57077 * i * i := Int.mul_nonneg (by omega) i0
  generalize a * (2 * i + 89) = x at e1 e3 ⊢
  generalize 57077 * i * i = y at e2 e4 ⊢
  omega
def numsD (ns : List Int) : List PyData := ns.map PyData.int
theorem layD_nums : ∀ ns : List Int, PyData.canLayAll0 (numsD ns) = true ∧ PyData.depthAll (numsD ns) = 0
  | [] => ⟨by simp [numsD, PyData.canLayAll0], by simp [numsD, PyData.depthAll]⟩
  | n :: r => by
    obtain ⟨h1, h2⟩ := layD_nums r
    have e : numsD (n :: r) = .int n :: numsD r := rfl
    rw [e]
    exact ⟨by simp [PyData.canLayAll0, PyData.canLay0, h1], by simp [PyData.depthAll, PyData.depth, h2]⟩
theorem shaped_nums (ns : List Int) : SeqAt.shaped (.list (numsD ns)) = true ∧ SeqAt.shaped (.tuple (numsD ns)) = true := by
  obtain ⟨h1, h2⟩ := layD_nums ns
  refine ⟨?_, ?_⟩ <;> simp [SeqAt.shaped, PyData.canLay0, PyData.depth, h1, h2]
theorem eqv_nums : ∀ a b : List Int, PyData.eqvAll (numsD a) (numsD b) = decide (a = b)
  | [], [] => by simp [numsD, PyData.eqvAll]
  | [], _ :: _ => by simp [numsD, PyData.eqvAll]
  | _ :: _, [] => by simp [numsD, PyData.eqvAll]
  | x :: a, y :: b => by
    have h := eqv_nums a b
    have e : PyData.eqvAll (numsD (x :: a)) (numsD (y :: b)) = (PyData.eqv (.int x) (.int y) && PyData.eqvAll (numsD a) (numsD b)) := by simp [numsD, PyData.eqvAll]
    rw [e, h]
    by_cases h1 : x = y
    · subst h1
      simp [PyData.eqv]
    · simp [PyData.eqv, h1]
theorem eqv_tup (a b : List Int) : PyData.eqv (.tuple (numsD a)) (.tuple (numsD b)) = decide (a = b) := by
  rw [← eqv_nums]
  simp [PyData.eqv]
theorem eqvL_nil (ds : List PyData) : PyData.eqv (.list ds) (.list []) = ds.isEmpty := by
  cases ds <;> simp [PyData.eqv, PyData.eqvAll]
theorem dp_nums {K : PySem.W.Frag} {H : Hp} : ∀ ns : List Int, DpAll K H (ns.map V.int) (numsD ns)
  | [] => .nil
  | n :: r => .cons (.int n) (dp_nums r)
theorem shaped_nil : SeqAt.shaped (.list []) = true := by simp [SeqAt.shaped, PyData.canLay0, PyData.canLayAll0, PyData.depth, PyData.depthAll]
/-- lists of two texts, a number, two texts -/
def rowD (p : Str × Str × Int × Str × Str) : PyData := .list [.str p.1, .str p.2.1, .int p.2.2.1, .str p.2.2.2.1, .str p.2.2.2.2]
def OkRow (p : Str × Str × Int × Str × Str) : Prop := PyData.strOk p.1 = true ∧ PyData.strOk p.2.1 = true ∧ PyData.strOk p.2.2.2.1 = true ∧ PyData.strOk p.2.2.2.2 = true
theorem lay_rows : ∀ ps : List (Str × Str × Int × Str × Str), (∀ p ∈ ps, OkRow p) → PyData.canLayAll0 (ps.map rowD) = true ∧ PyData.depthAll (ps.map rowD) ≤ 1
  | [], _ => ⟨by simp [PyData.canLayAll0], by simp [PyData.depthAll]⟩
  | n :: r, h => by
    obtain ⟨h1, h2⟩ := lay_rows r fun p hp => h p (List.mem_cons_of_mem _ hp)
    obtain ⟨a, b, c, d⟩ := h n (List.mem_cons_self ..)
    rw [List.map_cons]
    refine ⟨?_, ?_⟩
    · rw [PyData.canLayAll0, h1]
      simp [rowD, PyData.canLayAll0, PyData.canLay0, a, b, c, d]
    · rw [PyData.depthAll]
      have : PyData.depth (rowD n) = 1 := by simp [rowD, PyData.depthAll, PyData.depth]
      omega
theorem shaped_rows (ps : List (Str × Str × Int × Str × Str)) (h : ∀ p ∈ ps, OkRow p) : SeqAt.shaped (.list (ps.map rowD)) = true := by
  obtain ⟨h1, h2⟩ := lay_rows ps h
  have h3 : PyData.depthAll (ps.map rowD) + 1 ≤ 64 := by omega
  simp [SeqAt.shaped, PyData.canLay0, PyData.depth, h1, h3]
end Md
/-! Md: the pen in the heap. -/
namespace Md
open PySem PySem.Spec PyProof.Rows L2
/-- the pen: n more numbers may be drawn; G: what stays -/
def PenAt (G H : Hp) (pn : Addr) (n : Nat) : Prop := ∃ (cl : Addr) (cells : List Int) (i : Nat) (g : Int), H pn = some (.lst [.ref cl, .int (i : Nat), .int g]) ∧ G cl = some (.lst (cells.map V.int)) ∧ cells.length ≤ 63 ∧ i + n ≤ 1048576 ∧ G pn = none ∧ Ex G H
/-- from (G, H) to (G', H'): more stays; all but the pen is kept; what was left out is left out -/
structure Gr (pn : Addr) (G H G' H' : Hp) : Prop where
  ex : Ex G G'
  b : ExB pn H H'
  nw : ∀ p, p ≠ pn → H p ≠ none → G p = none → G' p = none
section
variable {G H G' H' G0 H0 : Hp} {pn l D : Addr} {n m : Nat} {o : HO}
theorem PenAt.mono (h : PenAt G H pn n) (hm : m ≤ n) : PenAt G H pn m := by
  obtain ⟨cl, cells, i, g, h1, h2, h3, h4, h5, h6⟩ := h
  exact ⟨cl, cells, i, g, h1, h2, h3, by omega, h5, h6⟩
theorem PenAt.exg (h : PenAt G H pn n) : Ex G H := h.choose_spec.choose_spec.choose_spec.choose_spec.2.2.2.2.2
theorem PenAt.gn (h : PenAt G H pn n) : G pn = none := h.choose_spec.choose_spec.choose_spec.choose_spec.2.2.2.2.1
theorem PenAt.at (h : PenAt G H pn n) : ∃ o, H pn = some o := ⟨_, h.choose_spec.choose_spec.choose_spec.choose_spec.1⟩
theorem PenAt.ne (h : PenAt G H pn n) (hl : H l = none) : l ≠ pn := fun z => by
  obtain ⟨o, ho⟩ := h.at
  rw [z, ho] at hl
  cases hl
theorem PenAt.ex (h : PenAt G H pn n) (e : Ex H H') : PenAt G H' pn n := by
  obtain ⟨cl, cells, i, g, h1, h2, h3, h4, h5, h6⟩ := h
  exact ⟨cl, cells, i, g, e _ _ h1, h2, h3, h4, h5, ext h6 e⟩
theorem PenAt.newU (h : PenAt G H pn n) (hl : H l = none) : PenAt G (upd H l o) pn n := h.ex (exn hl)
theorem Ex.upd2 (e : Ex G H) : Ex (upd G l o) (upd H l o) := fun a u ha => by
  by_cases q : a = l
  · subst q
    rw [upd_same] at ha ⊢
    exact ha
  · rw [upd_ne q] at ha ⊢
    exact e a u ha
theorem PenAt.new (h : PenAt G H pn n) (hl : H l = none) : PenAt (upd G l o) (upd H l o) pn n := by
  have hne := h.ne hl
  obtain ⟨cl, cells, i, g, h1, h2, h3, h4, h5, h6⟩ := h
  refine ⟨cl, cells, i, g, by rw [upd_ne hne.symm]; exact h1, ?_, h3, h4, by rw [upd_ne hne.symm]; exact h5, h6.upd2⟩
  rw [upd_ne (ne_of_none h2 (Ex.none h6 hl))]
  exact h2
theorem PenAt.mut (h : PenAt G H pn n) (hD : G D = none) (hn : D ≠ pn) : PenAt G (upd H D o) pn n := by
  obtain ⟨cl, cells, i, g, h1, h2, h3, h4, h5, h6⟩ := h
  exact ⟨cl, cells, i, g, by rw [upd_ne hn.symm]; exact h1, h2, h3, h4, h5, exm h6 hD⟩
theorem PenAt.frz (h : PenAt G H pn n) (hD : G D = none) (hn : D ≠ pn) (ho : H D = some o) : PenAt (upd G D o) H pn n := by
  obtain ⟨cl, cells, i, g, h1, h2, h3, h4, h5, h6⟩ := h
  refine ⟨cl, cells, i, g, h1, by rw [upd_ne (ne_of_none h2 hD)]; exact h2, h3, h4, by rw [upd_ne hn.symm]; exact h5, fun a u ha => ?_⟩
  by_cases q : a = D
  · subst q
    rw [upd_same] at ha
    rw [ho]
    exact ha
  · rw [upd_ne q] at ha
    exact h6 a u ha
theorem Gr.refl : Gr pn G H G H := ⟨exr _, (exr _).b, fun _ _ _ h => h⟩
theorem Gr.trans {G2 H2 : Hp} (a : Gr pn G H G' H') (b : Gr pn G' H' G2 H2) : Gr pn G H G2 H2 := by
  refine ⟨ext a.ex b.ex, a.b.trans b.b, fun p hp h1 h2 => b.nw p hp ?_ (a.nw p hp h1 h2)⟩
  cases e : H p with
  | none => exact absurd e h1
  | some o => rw [a.b p o hp e]; simp
theorem Gr.drawn (b : ExB pn H H') : Gr pn G H G H' := ⟨exr _, b, fun _ _ _ h => h⟩
theorem Gr.pure (e : Ex H H') : Gr pn G H G H' := .drawn e.b
theorem Gr.new (he : Ex G H) (hl : H l = none) : Gr pn G H (upd G l o) (upd H l o) :=
  ⟨exn (Ex.none he hl), (exn hl).b, fun p _ h1 h2 => by rw [upd_ne (fun z => h1 (by rw [z]; exact hl))]; exact h2⟩
theorem Gr.newU (hl : H l = none) : Gr pn G H G (upd H l o) := .pure (exn hl)
theorem Gr.mut (a : Gr pn G0 H0 G H) (hD : H0 D = none) : Gr pn G0 H0 G (upd H D o) :=
  ⟨a.ex, fun p u hp hu => by rw [upd_ne (ne_of_none hu hD)]; exact a.b p u hp hu, a.nw⟩
theorem Gr.frz (a : Gr pn G0 H0 G H) (hD : H0 D = none) (hG : G D = none) : Gr pn G0 H0 (upd G D o) H :=
  ⟨ext a.ex (exn hG), a.b, fun p hp h1 h2 => by rw [upd_ne (fun z => h1 (by rw [z]; exact hD))]; exact a.nw p hp h1 h2⟩
/-- what was left out and is no pen stands as it was -/
theorem Gr.keep (a : Gr pn G H G' H') (hD : H D = some o) (hn : D ≠ pn) : H' D = some o := a.b D o hn hD
theorem Gr.out (a : Gr pn G H G' H') (hD : H D = some o) (hn : D ≠ pn) (hG : G D = none) : G' D = none := a.nw D hn (by rw [hD]; simp) hG
end
/-- letters of a name, one by one -/
def sg (c : Nat) : Str := ⟨#[c]⟩
end Md
/-! Md: the pen, a drawn number, a drawn thing. -/
namespace Md
open PySem PySem.Spec PyProof.Rows L2
def spPen (K : PySem.W.Frag) : Sp := fun vs H Q _ => ∃ (a : Addr) (ns : List Int), vs = [.ref a] ∧ SqL K H a (ns.map V.int) ∧ ns.length ≤ 63 ∧ ∀ H' G pn, Ex H H' → H pn = none → (∀ p, H p ≠ none → G p = none) → PenAt G H' pn 1048576 → Q (.ref pn) H'
def spDraw : Sp := fun vs H Q _ => ∃ (pn : Addr) (m : Int) (n : Nat) (G : Hp), vs = [.ref pn, .int m] ∧ PenAt G H pn (n + 1) ∧ 0 < m ∧ m < 100000 ∧ ∀ H' r, PenAt G H' pn n → ExB pn H H' → 0 ≤ r → r < m → Q (.int r) H'
def spPickL : Sp := fun vs H Q _ => ∃ (pn l : Addr) (xs : List V) (n : Nat) (G : Hp), vs = [.ref pn, .ref l] ∧ H l = some (.lst xs) ∧ l ≠ pn ∧ PenAt G H pn (n + 1) ∧ 1 ≤ xs.length ∧ xs.length ≤ 1000 ∧ ∀ H' x, x ∈ xs → PenAt G H' pn n → ExB pn H H' → Q x H'
def spPickS : Sp := fun vs H Q _ => ∃ (pn : Addr) (z : Str) (n : Nat) (G : Hp), vs = [.ref pn, .str z] ∧ PenAt G H pn (n + 1) ∧ 1 ≤ z.length ∧ z.length ≤ 1000 ∧ ∀ H' c, c ∈ z.cps.toList → PenAt G H' pn n → ExB pn H H' → Q (.str ⟨#[c]⟩) H'
section
variable {P : Program} {w : World} {K : PySem.W.Frag} {mg : Str → Option Value} {base : Heap} {A : Ad}
theorem fn_law_pen (T : Tx K mg w A) : ∀ f fd, Fun K "_law_pen" "_law_pen" S__law_pen f fd → Fn P w K mg base f 1 (spPen K) := by
  intro f fd F
  refine fnr_of (k := 0) F sc__law_pen (fun _ _ _ _ _ _ us hl => match us, hl with | [_], _ => rfl) (fun vs H Q E h => by obtain ⟨x, m, rfl, _⟩ := h; rfl) fun f cdv Ar outer s H vs Q E c h => ?_
  have hr := c.room
  have nd := sc__law_pen.nd
  obtain ⟨a, ns, rfl, hsq, hl, q⟩ := h
  refine ⟨_, (pss_one (ps_ret (pe_lst (pa_cons (pe_callTy (list_C c) (by rfl) T.b_list (by decide +kernel) (pa_cons (pe_slice (sl_listC c) (pv 0) po_none (po_some pe_int)) pa_nil)) (pa_cons pe_int (pa_cons pe_int pa_nil)))))), ?_⟩
  refine ⟨_, rfl, _, rfl, a, ns.map V.int, rfl, hsq, fun L hL => ⟨L, _, rfl, .inl (SqL.of upd_same), fun l hll => ⟨by show 3 ≤ sizeLine; decide, fun pn hpn => ?_⟩⟩⟩
  have hcut : cutV (ns.map V.int) none (some 63) = (ns.take 63).map V.int := by
    rw [show (some (63 : Int)) = some ((63 : Nat) : Int) from rfl, cutV_to, List.map_take]
  rw [hcut] at hll hpn ⊢
  have hll2 : H l = none := Ex.none (exn hL) hll
  have e2 : Ex H (upd (upd (upd H L (.lst ((ns.take 63).map V.int))) l (.lst ((ns.take 63).map V.int))) pn (.lst [.ref l, .int 0, .int 0])) := ext (exn hL) (ext (exn hll) (exn hpn))
  have hpn2 : H pn = none := Ex.none (ext (exn hL) (exn hll)) hpn
  have nlp : l ≠ pn := fun z => by rw [← z, upd_same] at hpn; cases hpn
  refine q _ (upd (fun _ => none) l (.lst ((ns.take 63).map V.int))) pn e2 hpn2 (fun p hp => ?_) ⟨l, ns.take 63, 0, 0, upd_same, upd_same, by rw [List.length_take]; omega, by omega, ?_, ?_⟩
  · rw [upd_ne (fun z => hp (by rw [z]; exact hll2))]
  · rw [upd_ne nlp.symm]
  · intro b o hb
    by_cases hbl : b = l
    · subst hbl
      rw [upd_same] at hb
      rw [upd_ne nlp, upd_same]
      exact hb
    · rw [upd_ne hbl] at hb
      cases hb
theorem fn_law_draw (T : Tx K mg w A) : ∀ f fd, Fun K "_law_draw" "_law_draw" S__law_draw f fd → Fn P w K mg base f 1 spDraw := by
  intro f fd F
  refine fnr_of (k := 0) F sc__law_draw (fun _ _ _ _ _ _ us hl => match us, hl with | [_, _], _ => rfl) (fun vs H Q E h => by obtain ⟨x, m, _, _, rfl, _⟩ := h; rfl) fun f cdv Ar outer s H vs Q E c h => ?_
  have hr := c.room
  have nd := sc__law_draw.nd
  obtain ⟨pn, m, n, G, rfl, ⟨cl, cells, i, g, hp, hcl, hlen, hi, hgn, hex⟩, hm0, hm1, q⟩ := h
  refine ⟨_, (pss_cons (ps_if (pt_cmpR op_gt (pe_ix (ix_listC c) (pv 0) pe_int (fun _ _ => rfl)) pe_int (nomark _)) (pss_cons (ps_set (i := 2) nd rfl (Or.inl rfl) (pe_op op_mod (pe_callTy call_int1 (by rfl) T.b_int (by decide +kernel) (pa_cons (pe_ix (ix_listC c) (pv 0) pe_int (fun _ _ => rfl)) pa_nil)) (pv 1)))
 (pss_cons (ps_asg (pe_op op_fdiv (pe_callTy call_int1 (by rfl) T.b_int (by decide +kernel) (pa_cons (pe_ix (ix_listC c) (pv 0) pe_int (fun _ _ => rfl)) pa_nil)) (pv 1)) (pg_sub (pv 0) pe_int set_list))
 (pss_one (ps_ret (pv 2))))) pss_nil)
 (pss_cons (ps_set (i := 3) nd rfl (Or.inl rfl) (pe_ix (ix_listC c) (pv 0) pe_int (fun _ _ => rfl)))
 (pss_cons (ps_asg (pe_op op_add (pv 3) pe_int) (pg_sub (pv 0) pe_int set_list))
 (pss_cons (ps_set (i := 4) nd rfl (Or.inl rfl) (pe_op op_add (pe_op op_mul pe_int (pv 3)) pe_int))
 (pss_cons (ps_if (pt_cmpR (op_neD hr.units) (pe_ix (ix_listC c) (pv 0) pe_int (fun _ _ => rfl)) (pe_lst pa_nil) (nomark _)) (pss_one (ps_set (i := 4) nd rfl (Or.inl rfl) (pe_ix (ix_listC c) (pe_ix (ix_listC c) (pv 0) pe_int (fun _ _ => rfl)) (pe_op op_mod (pe_callTy call_int1 (by rfl) T.b_int (by decide +kernel) (pa_cons (pv 3) pa_nil)) (pe_callB (len_C c) (by rfl) T.b_len PySem.boot_len (pa_cons (pe_ix (ix_listC c) (pv 0) pe_int (fun _ _ => rfl)) pa_nil))) (fun _ _ => rfl)))) pss_nil)
 (pss_cons (ps_if (PW.pt (pw_and (pt_cmpR op_lt (pv 3) (pe_callB (len_C c) (by rfl) T.b_len PySem.boot_len (pa_cons (pe_ix (ix_listC c) (pv 0) pe_int (fun _ _ => rfl)) pa_nil)) (nomark _)) (pw_and1 (pt_cmpR op_ge (pe_callB call_abs (by rfl) T.b_abs (by decide +kernel) (pa_cons (pv 4) pa_nil)) (pe_op op_pow pe_int pe_int) (nomark _))))) (pss_cons (ps_set (i := 5) nd rfl (Or.inl rfl) (pe_op op_add (pe_op op_mul pe_int (pe_op op_sub (pe_callB call_abs (by rfl) T.b_abs (by decide +kernel) (pa_cons (pv 4) pa_nil)) (pe_op op_pow pe_int pe_int))) (pe_callTy call_int1 (by rfl) T.b_int (by decide +kernel) (pa_cons (pe_cmpR op_lt (pv 4) pe_int (nomark _)) pa_nil))))
 (pss_cons (ps_asg (pe_op op_fdiv (pe_callTy call_int1 (by rfl) T.b_int (by decide +kernel) (pa_cons (pv 5) pa_nil)) (pv 1)) (pg_sub (pv 0) pe_int set_list))
 (pss_one (ps_ret (pe_op op_mod (pe_callTy call_int1 (by rfl) T.b_int (by decide +kernel) (pa_cons (pv 5) pa_nil)) (pv 1)))))) pss_nil)
 (pss_cons (ps_set (i := 6) nd rfl (Or.inl rfl) (pe_op op_add (pe_op op_add (pe_op op_mod (pe_callTy call_int1 (by rfl) T.b_int (by decide +kernel) (pa_cons (pv 4) pa_nil)) pe_int) (pe_op op_mul pe_int (pv 3))) pe_int))
 (pss_cons (ps_set (i := 6) nd rfl (Or.inl rfl) (pe_op op_add (pe_op op_add (pe_op op_mul (pe_op op_mod (pe_callTy call_int1 (by rfl) T.b_int (by decide +kernel) (pa_cons (pe_op op_pow (pv 6) pe_int) pa_nil)) pe_int) (pe_op op_add (pe_op op_mul pe_int (pv 3)) pe_int)) (pe_op op_mul (pe_op op_mul pe_int (pv 3)) (pv 3))) pe_int))
 (pss_cons (ps_set (i := 6) nd rfl (Or.inl rfl) (pe_op op_mod (pe_callTy call_int1 (by rfl) T.b_int (by decide +kernel) (pa_cons (pe_op op_pow (pv 6) pe_int) pa_nil)) pe_int))
 (pss_one (ps_ret (pe_op op_mod (pe_callTy call_int1 (by rfl) T.b_int (by decide +kernel) (pa_cons (pe_op op_fdiv (pv 6) pe_int) pa_nil)) (pv 1))))))))))))), ?_⟩
  refine ⟨_, rfl, pn, _, 2, _, rfl, rfl, SqL.of hp, rfl, _, _, rfl, rfl, _, rfl, ?_⟩
  have hz : ∀ (x : V) (y : List V), True := fun _ _ => trivial
  by_cases hg : 0 < g
  · rw [decide_eq_true hg]
    refine iteT ⟨_, rfl, pn, _, 2, _, rfl, rfl, SqL.of hp, rfl, .inl ⟨_, rfl, _, rfl, _, _, rfl, rfl, hm0, ?_⟩⟩
    refine ⟨_, rfl, pn, _, 2, _, rfl, rfl, SqL.of hp, rfl, .inl ⟨_, rfl, _, rfl, _, _, rfl, rfl, ⟨hm0, by omega⟩, ?_⟩⟩
    refine ⟨_, rfl, pn, _, 2, 2, rfl, rfl, hp, rfl, ⟨_, rfl, ?_⟩⟩
    exact q _ _ ⟨cl, cells, i, _, upd_same, hcl, hlen, by omega, hgn, exm hex hgn⟩ (ExB.upd (exr _).b) (Int.emod_nonneg _ (by omega)) (Int.emod_lt_of_pos _ hm0)
  · rw [decide_eq_false hg]
    refine iteF ⟨_, rfl, pn, _, 1, _, rfl, rfl, SqL.of hp, rfl, ?_⟩
    refine ⟨_, rfl, _, _, rfl, rfl, _, rfl, pn, _, 1, 1, rfl, rfl, hp, rfl, ?_⟩
    refine ⟨_, rfl, _, _, rfl, rfl, .inl ⟨by decide, by decide⟩, _, _, rfl, rfl, ?_⟩
    have hncl : cl ≠ pn := fun z => by rw [z, hgn] at hcl; cases hcl
    have e1 : ExB pn H (upd H pn (.lst [.ref cl, .int ((i + 1 : Nat) : Int), .int g])) := ExB.upd (exr _).b
    have hp1 : upd H pn (.lst [.ref cl, .int ((i + 1 : Nat) : Int), .int g]) pn = some (.lst [.ref cl, .int ((i + 1 : Nat) : Int), .int g]) := upd_same
    have hx1 : Ex G (upd H pn (.lst [.ref cl, .int ((i + 1 : Nat) : Int), .int g])) := exm hex hgn
    show gName 4 _ _ (upd H pn (.lst [.ref cl, .int ((i + 1 : Nat) : Int), .int g])) _
    generalize upd H pn (.lst [.ref cl, .int ((i + 1 : Nat) : Int), .int g]) = H1 at e1 hp1 hx1 ⊢
    have hcl1 := hx1 _ _ hcl
    refine ⟨_, rfl, pn, _, 0, _, rfl, rfl, SqL.of hp1, rfl, ⟨by decide, fun L hL => ⟨.list (numsD cells), .list [], .lst (SqL.of (exn hL _ _ hcl1)) (dp_nums cells), .lst (SqL.of upd_same) .nil, (shaped_nums cells).1, shaped_nil, _, rfl, ?_⟩⟩⟩
    rw [eqvL_nil]
    have hH2 : ∃ H2, H2 = upd H1 L (.lst []) := ⟨_, rfl⟩
    obtain ⟨H2, hH2⟩ := hH2
    have e2 : Ex H1 H2 := by rw [hH2]; exact exn hL
    rw [← hH2]
    have hp2 := e2 _ _ hp1
    have hcl2 := e2 _ _ hcl1
    have hx2 : Ex G H2 := ext hx1 e2
    have eb : ExB pn H H2 := e1.trans e2.b
    clear hH2
    by_cases hc0 : (numsD cells).isEmpty = true
    case' pos =>
      rw [hc0]
      refine iteF ?_
      have hce : ∃ ce : Int, ce = 71069 * (i : Int) + 1321 := ⟨_, rfl⟩
      obtain ⟨ce, hce⟩ := hce
      show tSeq _ _ _ ((L2.start N__law_draw [V.ref pn, V.int m]).set 3 (some (V.int i)) |>.set 4 (some (V.int (71069 * (i : Int) + 1321)))) H2
      rw [← hce]
    case' neg =>
      have hc1 : (numsD cells).isEmpty = false := by simpa using hc0
      have hcl0 : 0 < cells.length := by
        cases cells with
        | nil => exact absurd rfl hc0
        | cons a r => simp
      have hk : (i : Int) % (cells.length : Int) = ((i % cells.length : Nat) : Int) := by omega
      have hki : i % cells.length < cells.length := Nat.mod_lt _ hcl0
      rw [hc1]
      refine iteT ⟨_, rfl, pn, _, 0, _, rfl, rfl, SqL.of hp2, rfl, _, rfl, .inl ⟨_, rfl, _, rfl, pn, _, 0, _, rfl, rfl, SqL.of hp2, rfl, cl, _, rfl, .inl (SqL.of hcl2), _, _, rfl, rfl, by rw [List.length_map]; omega, cl, _, _, V.int cells[i % cells.length], rfl, rfl, SqL.of hcl2, by rw [List.length_map, hk]; exact atI_nat (by rw [List.getElem?_map, List.getElem?_eq_getElem hki]; rfl), ?_⟩⟩
      have hce : ∃ ce : Int, ce = cells[i % cells.length] := ⟨_, rfl⟩
      obtain ⟨ce, hce⟩ := hce
      rw [← hce]
    all_goals
      refine ⟨_, rfl, _, rfl, pn, _, 0, _, rfl, rfl, SqL.of hp2, rfl, cl, _, rfl, .inl (SqL.of hcl2), _, _, rfl, rfl, _, rfl, ?_⟩
      have i0 : (0 : Int) ≤ (i : Int) := Int.natCast_nonneg i
      have i1 : (i : Int) ≤ 1048576 := by omega
      by_cases hA : (i : Int) < ((cells.map V.int).length : Nat)
      case' pos =>
        rw [decide_eq_true hA]
        refine iteT ⟨_, rfl, _, rfl, _, _, rfl, rfl, ⟨by decide, by decide, by decide⟩, _, _, rfl, rfl, _, rfl, ?_⟩
        by_cases hB : (10 : Int) ^ (18 : Int).toNat ≤ (if ce < 0 then -ce else ce)
        case' pos =>
          rw [decide_eq_true hB]
          refine iteT ⟨_, rfl, _, rfl, _, _, rfl, rfl, ⟨by decide, by decide, by decide⟩, _, _, rfl, rfl, _, _, rfl, rfl, .inl ⟨by decide, by decide⟩, _, rfl, _, _, rfl, rfl, .inr ⟨_, rfl, _, _, rfl, rfl, ?_⟩⟩
          refine ⟨_, rfl, .inl ⟨_, rfl, _, rfl, _, _, rfl, rfl, ⟨hm0, by omega⟩, _, rfl, pn, _, 2, 2, rfl, rfl, hp2, rfl, ?_⟩⟩
          refine ⟨_, rfl, .inl ⟨_, rfl, _, rfl, _, _, rfl, rfl, hm0, ?_⟩⟩
          exact q _ _ ⟨cl, cells, i + 1, _, upd_same, hcl, hlen, by omega, hgn, exm hx2 hgn⟩ (ExB.upd eb) (Int.emod_nonneg _ (by omega)) (Int.emod_lt_of_pos _ hm0)
        case' neg =>
          rw [decide_eq_false hB]
          refine iteF ?_
      case' neg =>
        rw [decide_eq_false hA]
        refine iteF ?_
      all_goals
        have c1 : (0 : Int) < 2147483563 := by decide
        have c2 : (0 : Int) < 2147483629 := by decide
        have c3 : (0 : Int) < 2147483587 := by decide
        have b0 : 0 ≤ ce % 2147483563 := Int.emod_nonneg _ (by decide)
        have b1 : ce % 2147483563 < 2147483563 := Int.emod_lt_of_pos _ (by decide)
        refine ⟨_, rfl, .inl ⟨_, rfl, _, _, rfl, rfl, c1, _, rfl, _, _, rfl, rfl, .inl ⟨by decide, by decide⟩, _, _, rfl, rfl, _, _, rfl, rfl, ?_⟩⟩
        refine ⟨_, rfl, _, _, rfl, rfl, ⟨by decide, by decide, by omega⟩, .inl ⟨_, rfl, _, _, rfl, rfl, c2, _, rfl, _, _, rfl, rfl, .inl ⟨by decide, by decide⟩, _, _, rfl, rfl, _, _, rfl, rfl, ?_⟩⟩
        have b2 : 0 ≤ (ce % 2147483563 + 43051 * (i : Int) + 337) ^ (5 : Int).toNat % 2147483629 := Int.emod_nonneg _ (by decide)
        have b3 : (ce % 2147483563 + 43051 * (i : Int) + 337) ^ (5 : Int).toNat % 2147483629 < 2147483629 := Int.emod_lt_of_pos _ (by decide)
        refine ⟨.inl ⟨by omega, by omega⟩, _, rfl, _, _, rfl, rfl, .inl ⟨by decide, by decide⟩, _, rfl, _, _, rfl, rfl, .inl ⟨by omega, by omega⟩, _, _, rfl, rfl, _, _, rfl, rfl, ?_⟩
        have b4 := mix_bound b2 b3 i0 i1
        refine ⟨_, rfl, _, _, rfl, rfl, ⟨by decide, by decide, b4⟩, .inl ⟨_, rfl, _, _, rfl, rfl, c3, ?_⟩⟩
        refine ⟨_, rfl, _, _, rfl, rfl, ⟨by decide, by decide⟩, .inl ⟨_, rfl, _, rfl, _, _, rfl, rfl, hm0, ?_⟩⟩
        exact q _ _ ⟨cl, cells, i + 1, _, hp2, hcl, hlen, by omega, hgn, hx2⟩ eb (Int.emod_nonneg _ (by omega)) (Int.emod_lt_of_pos _ hm0)
theorem fn_law_pick (T : Tx K mg w A) : ∀ f fd, Fun K "_law_pick" "_law_pick" S__law_pick f fd → Fn P w K mg base f 2 spPickL := by
  intro f fd F
  refine fnr_of (k := 1) F sc__law_pick (fun _ _ _ _ _ _ us hl => match us, hl with | [_, _], _ => rfl) (fun vs H Q E h => by obtain ⟨x, m, _, _, _, rfl, _⟩ := h; rfl) fun f cdv Ar outer s H vs Q E c h => ?_
  have hr := c.room
  have nd := sc__law_pick.nd
  obtain ⟨pn, l, xs, n, G, rfl, hl, hne, hpen, h1, h2, q⟩ := h
  refine ⟨_, (pss_one (ps_ret (pe_ix (ix_listC c) (pv 1) (pe_fn c (by rfl) (pa_cons (pv 0) (pa_cons (pe_callB (len_C c) (by rfl) T.b_len PySem.boot_len (pa_cons (pv 1) pa_nil)) pa_nil))) (fun _ _ => rfl)))), ?_⟩
  refine ⟨_, rfl, _, cal_of T.f__law_draw (fn_law_draw T), _, rfl, _, rfl, l, xs, rfl, .inl (SqL.of hl), pn, xs.length, n, G, rfl, hpen, by omega, by omega, fun H' r hp' e r0 r1 => ?_⟩
  have hl' := e _ _ hne hl
  obtain ⟨k, rfl⟩ : ∃ k : Nat, r = (k : Int) := ⟨r.toNat, by omega⟩
  have hr2 : k < xs.length := by omega
  exact ⟨l, xs, _, xs[k], rfl, rfl, SqL.of hl', atI_nat (List.getElem?_eq_getElem hr2), q H' _ (List.getElem_mem hr2) hp' e⟩
theorem fn_law_pickS (T : Tx K mg w A) : ∀ f fd, Fun K "_law_pick" "_law_pick" S__law_pick f fd → Fn P w K mg base f 2 spPickS := by
  intro f fd F
  refine fnr_of (k := 1) F sc__law_pick (fun _ _ _ _ _ _ us hl => match us, hl with | [_, _], _ => rfl) (fun vs H Q E h => by obtain ⟨x, m, _, _, rfl, _⟩ := h; rfl) fun f cdv Ar outer s H vs Q E c h => ?_
  have hr := c.room
  have nd := sc__law_pick.nd
  obtain ⟨pn, z, n, G, rfl, hpen, h1, h2, q⟩ := h
  refine ⟨_, (pss_one (ps_ret (pe_ix ix_str (pv 1) (pe_fn c (by rfl) (pa_cons (pv 0) (pa_cons (pe_callB call_len_str (by rfl) T.b_len PySem.boot_len (pa_cons (pv 1) pa_nil)) pa_nil))) (fun _ _ => rfl)))), ?_⟩
  refine ⟨_, rfl, _, cal_of T.f__law_draw (fn_law_draw T), _, rfl, _, rfl, z, rfl, zl (by omega), pn, z.length, n, G, rfl, hpen, by omega, by omega, fun H' r hp' e r0 r1 => ?_⟩
  obtain ⟨k, rfl⟩ : ∃ k : Nat, r = (k : Int) := ⟨r.toNat, by omega⟩
  have hr2 : k < z.cps.toList.length := by
    have : z.length = z.cps.toList.length := slen z
    omega
  exact ⟨z, _, z.cps.toList[k], rfl, rfl, zl (by omega), atI_nat (List.getElem?_eq_getElem hr2), q H' _ (List.getElem_mem hr2) hp' e⟩
end
end Md
/-! Md: picks; lists that go along. -/
namespace Md
open PySem PySem.Spec PyProof.Rows L2
section
variable {G H : Hp} {pn l : Addr} {xs : List V} {n : Nat} {Q : VK} {E : XK}
theorem pick_lit (hl : H l = none) (hp : PenAt G H pn (n + 1)) (h1 : 1 ≤ xs.length) (h2 : xs.length ≤ 1000) (q : ∀ H' x, x ∈ xs → PenAt G H' pn n → ExB pn H H' → Q x H') : spPickL [.ref pn, .ref l] (upd H l (.lst xs)) Q E :=
  ⟨pn, l, xs, n, G, rfl, upd_same, hp.ne hl, hp.newU hl, h1, h2, fun H' x hx hp' e => q H' x hx hp' ((exn hl).b.trans e)⟩
theorem pick_at (hl : G l = some (.lst xs)) (hp : PenAt G H pn (n + 1)) (h1 : 1 ≤ xs.length) (h2 : xs.length ≤ 1000) (q : ∀ H' x, x ∈ xs → PenAt G H' pn n → ExB pn H H' → Q x H') : spPickL [.ref pn, .ref l] H Q E :=
  ⟨pn, l, xs, n, G, rfl, hp.exg _ _ hl, ne_of_none hl hp.gn, hp, h1, h2, q⟩
theorem pick_st {z : Str} (hp : PenAt G H pn (n + 1)) (h1 : 1 ≤ z.length) (h2 : z.length ≤ 1000) (q : ∀ H' c, c ∈ z.cps.toList → PenAt G H' pn n → ExB pn H H' → Q (.str ⟨#[c]⟩) H') : spPickS [.ref pn, .str z] H Q E := ⟨pn, z, n, G, rfl, hp, h1, h2, q⟩
theorem draw_of {m : Int} (hp : PenAt G H pn (n + 1)) (h1 : 0 < m) (h2 : m < 100000) (q : ∀ H' r, PenAt G H' pn n → ExB pn H H' → 0 ≤ r → r < m → Q (.int r) H') : spDraw [.ref pn, .int m] H Q E := ⟨pn, m, n, G, rfl, hp, h1, h2, q⟩
end
theorem str_mem (L : List Str) {M : List Str} (h : ∀ z ∈ L, z ∈ M) {x : V} (hx : x ∈ L.map V.str) : ∃ z ∈ M, x = .str z := by
  obtain ⟨z, hz, rfl⟩ := List.mem_map.mp hx
  exact ⟨z, h z hz, rfl⟩
theorem int_mem (L : List Int) {lo hi : Int} (h : ∀ z ∈ L, lo ≤ z ∧ z ≤ hi) {x : V} (hx : x ∈ L.map V.int) : ∃ z, lo ≤ z ∧ z ≤ hi ∧ x = .int z := by
  obtain ⟨z, hz, rfl⟩ := List.mem_map.mp hx
  exact ⟨z, (h z hz).1, (h z hz).2, rfl⟩
/-- addresses that go along with data -/
def Al {α : Type} (R : Addr → α → Prop) (xs : List V) (cs : List α) : Prop := xs.length = cs.length ∧ ∀ (j : Nat) (c : α), cs[j]? = some c → ∃ p, xs[j]? = some (V.ref p) ∧ R p c
section
variable {α : Type} {R R' : Addr → α → Prop} {xs : List V} {cs : List α}
theorem Al.nil : Al R [] [] := ⟨rfl, fun j c h => by cases h⟩
theorem Al.mono (h : Al R xs cs) (m : ∀ p c, R p c → R' p c) : Al R' xs cs := ⟨h.1, fun j c hj => let ⟨p, a, b⟩ := h.2 j c hj; ⟨p, a, m _ _ b⟩⟩
theorem Al.snoc {p : Addr} {c : α} (h : Al R xs cs) (hp : R p c) : Al R (xs ++ [.ref p]) (cs ++ [c]) := by
  refine ⟨by rw [List.length_append, List.length_append, h.1]; rfl, fun j y hj => ?_⟩
  by_cases hl : j < cs.length
  · rw [List.getElem?_append_left hl] at hj
    obtain ⟨p', a, b⟩ := h.2 j y hj
    exact ⟨p', by rw [List.getElem?_append_left (by rw [h.1]; exact hl)]; exact a, b⟩
  · rw [List.getElem?_append_right (by omega)] at hj
    have hj0 : j - cs.length = 0 := by
      have := (List.getElem?_eq_some_iff.mp hj).1
      simp at this
      omega
    rw [hj0] at hj
    cases hj
    refine ⟨p, ?_, hp⟩
    rw [List.getElem?_append_right (by rw [h.1]; omega), h.1, hj0]
    rfl
theorem Al.mem {x : V} (h : Al R xs cs) (hx : x ∈ xs) : ∃ p c, x = .ref p ∧ c ∈ cs ∧ R p c := by
  obtain ⟨j, hj⟩ := List.mem_iff_getElem?.mp hx
  have hl : j < cs.length := by rw [← h.1]; exact (List.getElem?_eq_some_iff.mp hj).1
  obtain ⟨p, a, b⟩ := h.2 j cs[j] (List.getElem?_eq_getElem hl)
  rw [hj] at a
  cases a
  exact ⟨p, cs[j], rfl, List.getElem_mem hl, b⟩
theorem Al.memR {c : α} (h : Al R xs cs) (hc : c ∈ cs) : ∃ p, V.ref p ∈ xs ∧ R p c := by
  obtain ⟨j, hj⟩ := List.mem_iff_getElem?.mp hc
  obtain ⟨p, a, b⟩ := h.2 j c hj
  exact ⟨p, List.mem_of_getElem? a, b⟩
end
end Md
/-! Md: drawn modes, drawn clauses. -/
namespace Md
open PySem PySem.Spec PyProof.Rows L2
def spDMode : Sp := fun vs H Q _ => ∃ (pn : Addr) (n : Nat) (G : Hp), vs = [.ref pn] ∧ PenAt G H pn (n + 3) ∧ ∀ H' m, PenAt G H' pn n → ExB pn H H' → 0 ≤ m → m ≤ 511 → Q (.int m) H'
def ClR (H : Hp) (p : Addr) (c : Cl) : Prop := H p = some (.tup [.str c.who, .str c.sign, .str c.what])
def spDCls : Sp := fun vs H Q _ => ∃ (pn : Addr) (n : Nat) (G : Hp), vs = [.ref pn] ∧ PenAt G H pn (n + 10) ∧ ∀ H' G' l ch, PenAt G' H' pn n → Gr pn G H G' H' → DCls G' l ch → (∀ c ∈ ch, ClOk c) → 1 ≤ ch.length → ch.length ≤ 3 → Q (.ref l) H'
section
variable {P : Program} {w : World} {K : PySem.W.Frag} {mg : Str → Option Value} {base : Heap} {A : Ad}
theorem fn_law_drawn_mode (T : Tx K mg w A) : ∀ f fd, Fun K "_law_drawn_mode" "_law_drawn_mode" S__law_drawn_mode f fd → Fn P w K mg base f 3 spDMode := by
  intro f fd F
  refine fnr_of (k := 2) F sc__law_drawn_mode (fun _ _ _ _ _ _ us hl => match us, hl with | [_], _ => rfl) (fun vs H Q E h => by obtain ⟨x, m, _, rfl, _⟩ := h; rfl) fun f cdv Ar outer s H vs Q E c h => ?_
  have hr := c.room
  have nd := sc__law_drawn_mode.nd
  obtain ⟨pn, n, G, rfl, hp, q⟩ := h
  refine ⟨_, (pss_one (ps_ret (pe_fn c (by rfl) (pa_cons (pv 0) (pa_cons (pe_lst (pa_cons pe_int (pa_cons pe_int (pa_cons pe_int (pa_cons pe_int (pa_cons pe_int (pa_cons pe_int (pa_cons pe_int (pa_cons pe_int (pa_cons (pe_fn c (by rfl) (pa_cons (pv 0) (pa_cons pe_int pa_nil))) (pa_cons (pe_fn c (by rfl) (pa_cons (pv 0) (pa_cons pe_int pa_nil))) pa_nil))))))))))) pa_nil))))), ?_⟩
  refine ⟨_, cal_of T.f__law_pick (fn_law_pick T), _, rfl, _, cal_of T.f__law_draw (fn_law_draw T), _, rfl, pn, _, _, G, rfl, hp, by decide, by decide, fun H1 r1 hp1 e1 a1 b1 => ?_⟩
  refine ⟨_, cal_of T.f__law_draw (fn_law_draw T), _, rfl, pn, _, _, G, rfl, hp1, by decide, by decide, fun H2 r2 hp2 e2 a2 b2 => ⟨by show 10 ≤ sizeLine; decide, fun l hl => ⟨pn, _, _, _, _, rfl, upd_same, hp2.ne hl, hp2.newU hl, by show 1 ≤ 10; decide, by show 10 ≤ 1000; decide, fun H3 x hx hp3 e3 => ?_⟩⟩⟩
  have e3 := (exn hl).b.trans e3
  obtain ⟨m, m0, m1, rfl⟩ := int_mem [0, 511, 493, 448, 320, 64, 256, 488, r1, r2] (lo := 0) (hi := 511) (by
    intro z hz
    simp only [List.mem_cons, List.not_mem_nil, or_false] at hz
    omega) hx
  exact q H3 m hp3 (e1.trans (e2.trans e3)) m0 m1
theorem fn_law_clauses (T : Tx K mg w A) : ∀ f fd, Fun K "_law_clauses" "_law_clauses" S__law_clauses f fd → Fn P w K mg base f 3 spDCls := by
  intro f fd F
  refine fnr_of (k := 2) F sc__law_clauses (fun _ _ _ _ _ _ us hl => match us, hl with | [_], _ => rfl) (fun vs H Q E h => by obtain ⟨x, m, _, rfl, _⟩ := h; rfl) fun f cdv Ar outer s H vs Q E c h => ?_
  have hr := c.room
  have nd := sc__law_clauses.nd
  obtain ⟨pn, n, G, rfl, hp, q⟩ := h
  refine ⟨_, (pss_cons (ps_set (i := 1) nd rfl (Or.inl rfl) (pe_lst pa_nil))
 (pss_cons (ps_for PassesOwn.never rfl (pi_range1 (by rfl) T.b_range (pa_cons (pe_fn c (by rfl) (pa_cons (pv 0) (pa_cons (pe_lst (pa_cons pe_int (pa_cons pe_int (pa_cons pe_int (pa_cons pe_int pa_nil))))) pa_nil))) pa_nil)) (pg_name (i := 2) nd rfl (Or.inl rfl))
 (pss_cons (ps_set (i := 3) nd rfl (Or.inl rfl) (pe_fn c (by rfl) (pa_cons (pv 0) (pa_cons (pe_lst (pa_cons pe_str (pa_cons pe_str (pa_cons pe_str (pa_cons pe_str (pa_cons pe_str (pa_cons pe_str (pa_cons pe_str (pa_cons pe_str pa_nil))))))))) pa_nil))))
 (pss_cons (ps_set (i := 4) nd rfl (Or.inl rfl) (pe_fn c (by rfl) (pa_cons (pv 0) (pa_cons (pe_lst (pa_cons pe_str (pa_cons pe_str (pa_cons pe_str (pa_cons pe_str (pa_cons pe_str (pa_cons pe_str (pa_cons pe_str (pa_cons pe_str (pa_cons pe_str (pa_cons pe_str (pa_cons pe_str (pa_cons pe_str (pa_cons pe_str pa_nil)))))))))))))) pa_nil))))
 (pss_one (ps_expr (pe_bmC c PySem.F.plainAttrs_list PySem.F.slot_list_append PySem.F.type_list_append mt_append (pv 1) (pa_cons (pe_tup (pa_cons (pv 3) (pa_cons (pe_fn c (by rfl) (pa_cons (pv 0) (pa_cons (pe_lst (pa_cons pe_str (pa_cons pe_str (pa_cons pe_str pa_nil)))) pa_nil))) (pa_cons (pv 4) pa_nil)))) pa_nil)))))))
 (pss_one (ps_ret (pv 1))))), ?_⟩
  refine ⟨by decide, fun D hD => ?_⟩
  have nDp := hp.ne hD
  have gD := Ex.none hp.exg hD
  have hp0 := hp.newU (o := .lst []) hD
  have g0 : Gr pn G H G (upd H D (.lst [])) := .newU hD
  have hD0 : upd H D (.lst []) D = some (.lst []) := upd_same
  generalize upd H D (.lst []) = H0 at hp0 g0 hD0 ⊢
  refine ⟨_, cal_of T.f__law_pick (fn_law_pick T), _, rfl, by show 4 ≤ sizeLine; decide, fun l hl => ⟨pn, _, _, _, _, rfl, upd_same, hp0.ne hl, hp0.newU hl, by show 1 ≤ 4; decide, by show 4 ≤ 1000; decide, fun H1 x hx hp1 e1 => ?_⟩⟩
  have e1 := (exn hl).b.trans e1
  obtain ⟨k, k0, k1, rfl⟩ := int_mem [1, 1, 2, 3] (lo := 1) (hi := 3) (by decide) hx
  refine ⟨k, rfl, by omega, by omega, for_it (walk_rng0 (n := k.toNat)) (fun i σ H' => (∃ v2 v3 v4, σ = [some (.ref pn), some (.ref D), v2, v3, v4]) ∧ ∃ G' ch xs, PenAt G' H' pn (n + 3 * (3 - i)) ∧ Gr pn G H G' H' ∧ G' D = none ∧ H' D = some (.lst xs) ∧ Al (ClR G') xs ch ∧ (∀ c ∈ ch, ClOk c) ∧ ch.length = i)
    ⟨⟨none, none, none, rfl⟩, G, [], [], hp1.mono (by omega), g0.trans (.drawn e1), gD, e1 _ _ nDp hD0, Al.nil, (fun c hc => by cases hc), rfl⟩ (fun _ _ _ _ _ => trivial) ?_ ?_⟩
  · rintro i z σ H2 H3 hi ⟨⟨v2, v3, v4, rfl⟩, G2, ch, xs, hp2, g2, gD2, hD2, hal, hok, hlen⟩ ⟨rfl, rfl⟩
    have hn : n + 3 * (3 - i) = n + 3 * (3 - (i + 1)) + 1 + 1 + 1 := by omega
    rw [hn] at hp2
    refine ⟨_, cal_of T.f__law_pick (fn_law_pick T), _, rfl, by show 8 ≤ sizeLine; decide, fun l1 hl1 => ⟨pn, _, _, _, _, rfl, upd_same, hp2.ne hl1, hp2.newU hl1, by show 1 ≤ 8; decide, by show 8 ≤ 1000; decide, fun H4 x4 hx4 hp4 e4 => ?_⟩⟩
    have e4 := (exn hl1).b.trans e4
    obtain ⟨z4, hz4, rfl⟩ := str_mem ["u", "u", "g", "o", "ugo", "ug", "go", "uo"] (M := whoM) (by decide +kernel) hx4
    refine ⟨_, cal_of T.f__law_pick (fn_law_pick T), _, rfl, by show 13 ≤ sizeLine; decide, fun l1 hl1 => ⟨pn, _, _, _, _, rfl, upd_same, hp4.ne hl1, hp4.newU hl1, by show 1 ≤ 13; decide, by show 13 ≤ 1000; decide, fun H5 x5 hx5 hp5 e5 => ?_⟩⟩
    have e5 := (exn hl1).b.trans e5
    obtain ⟨z5, hz5, rfl⟩ := str_mem ["r", "x", "rx", "rwx", "w", "X", "rX", "rwX", "", "u", "g", "o", "rx"] (M := whatM) (by decide +kernel) hx5
    have e25 := e4.trans e5
    have hD5 := e25 _ _ nDp hD2
    refine ⟨_, rfl, .inl ⟨rfl, _, SqL.of hD5⟩, _, rfl, _, cal_of T.f__law_pick (fn_law_pick T), _, rfl, by show 3 ≤ sizeLine; decide, fun l1 hl1 => ⟨pn, _, _, _, _, rfl, upd_same, hp5.ne hl1, hp5.newU hl1, by show 1 ≤ 3; decide, by show 3 ≤ 1000; decide, fun H6 x6 hx6 hp6 e6 => ?_⟩⟩
    have e6 := (exn hl1).b.trans e6
    obtain ⟨z6, hz6, rfl⟩ := str_mem ["+", "-", "="] (M := signM) (by decide +kernel) hx6
    have e26 := e25.trans e6
    have hD6 := e26 _ _ nDp hD2
    have g6 := g2.trans (.drawn e26)
    refine ⟨_, rfl, by show 3 ≤ sizeLine; decide, fun p hpn => ⟨D, xs, _, rfl, rfl, by rw [upd_ne (ne_of_none hD6 hpn)]; exact hD6, zt (by have := hal.1; omega), ?_⟩⟩
    have nDq : D ≠ p := ne_of_none hD6 hpn
    have gp := Ex.none hp6.exg hpn
    refine ⟨⟨_, _, _, rfl⟩, upd G2 p (.tup [.str z4, .str z6, .str z5]), ch ++ [⟨z4, z6, z5⟩], _, (hp6.new hpn).mut (by rw [upd_ne nDq]; exact gD2) nDp, (g6.trans (.new hp6.exg hpn)).mut hD, by rw [upd_ne nDq]; exact gD2, upd_same, (hal.mono fun p' c h => exn gp _ _ h).snoc upd_same, fun c hc => ?_, by rw [List.length_append, hlen]; rfl⟩
    rcases List.mem_append.mp hc with h | h
    · exact hok c h
    · rw [List.mem_singleton.mp h]
      exact ⟨hz4, hz6, hz5⟩
  · rintro σ H2 ⟨⟨v2, v3, v4, rfl⟩, G2, ch, xs, hp2, g2, gD2, hD2, hal, hok, hlen⟩
    have gp := hp2.frz gD2 nDp hD2
    exact ⟨_, rfl, q H2 (upd G2 D (.lst xs)) D ch (gp.mono (by omega)) (g2.frz hD gD2) ⟨xs, upd_same, (hal.mono fun p' c h => exn gD2 _ _ h)⟩ hok (by omega) (by omega)⟩
end
end Md
/-! Md: drawn names, plain. -/
namespace Md
open PySem PySem.Spec PyProof.Rows L2 TL
theorem tl_cut0 (z : Str) (k : Nat) : tl (cutS z none (some (k : Int))) = (tl z).take k := by
  unfold cutS
  rw [tl_mk, HT.sIx_nat, HT.sIx_none, List.drop_zero, Nat.sub_zero]
  show (tl z).take (min k z.length) = _
  rw [slen]
  by_cases h : k ≤ (tl z).length
  · rw [Nat.min_eq_left h]
  · rw [Nat.min_eq_right (by omega), List.take_of_length_le (Nat.le_refl _), List.take_of_length_le (by omega)]
theorem tl_cut1 (z : Str) (k : Nat) : tl (cutS z (some (k : Int)) none) = (tl z).drop k := by
  unfold cutS
  rw [tl_mk, HT.sIx_nat, HT.sIx_none]
  show ((tl z).drop (min k z.length)).take (z.length - min k z.length) = _
  rw [slen]
  by_cases h : k ≤ (tl z).length
  · rw [Nat.min_eq_left h]
    exact List.take_of_length_le (by rw [List.length_drop]; omega)
  · rw [Nat.min_eq_right (by omega), List.drop_length, List.drop_eq_nil_of_le (by omega), List.take_nil]
theorem tl_glue (ls : List Nat) : tl (Str.join "" (ls.map fun c => (⟨#[c]⟩ : Str))) = ls := by
  rw [tl_join]
  have h : ∀ ls : List Nat, joinL (tl ("" : Str)) ((ls.map fun c => (⟨#[c]⟩ : Str)).map tl) = ls := by
    intro ls
    induction ls with
    | nil => rfl
    | cons a r ih =>
      cases r with
      | nil => rfl
      | cons b r =>
        have e0 : tl ("" : Str) = [] := by decide +kernel
        rw [e0] at ih ⊢
        show [a] ++ ([] ++ joinL [] (((b :: r).map fun c => (⟨#[c]⟩ : Str)).map tl)) = _
        rw [ih]
        rfl
  exact h ls
/-- the k-th of the names -/
def ltr (front k : Nat) : Nat := lets.getD ((front + 7 * k) % 26) 97
def nameS (st : Str) (spot front k : Nat) : Str := cutS st none (some (spot : Int)) ++ ⟨#[ltr front k]⟩ ++ cutS st (some (spot : Int)) none
theorem tl_nameS (st : Str) (spot front k : Nat) : tl (nameS st spot front k) = (tl st).take spot ++ [ltr front k] ++ (tl st).drop spot := by
  unfold nameS
  rw [tl_append, tl_append, tl_cut0, tl_cut1]
theorem lets_len : lets.length = 26 := by decide +kernel
theorem lets_nodup : lets.Nodup := by decide +kernel
theorem ltr_mem (front k : Nat) : ltr front k ∈ lets := by
  unfold ltr
  have h : (front + 7 * k) % 26 < lets.length := by rw [lets_len]; exact Nat.mod_lt _ (by decide)
  rw [List.getD_eq_getElem?_getD, List.getElem?_eq_getElem h]
  exact List.getElem_mem h
theorem ltr_inj {front j k : Nat} (hj : j < 26) (hk : k < 26) (h : ltr front j = ltr front k) : j = k := by
  unfold ltr at h
  have h1 : (front + 7 * j) % 26 < lets.length := by rw [lets_len]; exact Nat.mod_lt _ (by decide)
  have h2 : (front + 7 * k) % 26 < lets.length := by rw [lets_len]; exact Nat.mod_lt _ (by decide)
  rw [List.getD_eq_getElem?_getD, List.getElem?_eq_getElem h1, List.getD_eq_getElem?_getD, List.getElem?_eq_getElem h2] at h
  have := (List.getElem_inj lets_nodup).mp (show lets[(front + 7 * j) % 26] = lets[(front + 7 * k) % 26] from h)
  omega
theorem nameS_len {st : Str} {spot front k : Nat} : (nameS st spot front k).length = st.length + 1 := by
  rw [slen, tl_nameS, slen]
  simp only [List.length_append, List.length_take, List.length_drop, List.length_singleton]
  omega
theorem nameS_nm {st : Str} {spot front k : Nat} (h7 : st.length ≤ 7) (hl : ∀ c ∈ st.cps.toList, c ∈ lets) : Nm (nameS st spot front k) := by
  refine ⟨by rw [nameS_len]; omega, by rw [nameS_len]; omega, fun c hc => ?_⟩
  have e : (nameS st spot front k).cps.toList = tl (nameS st spot front k) := rfl
  rw [e, tl_nameS] at hc
  rcases List.mem_append.mp hc with q | q
  · rcases List.mem_append.mp q with q | q
    · exact hl c (List.mem_of_mem_take q)
    · rw [List.mem_singleton.mp q]
      exact ltr_mem front k
  · exact hl c (List.mem_of_mem_drop q)
theorem nameS_inj {st : Str} {spot front j k : Nat} (hs : spot ≤ st.length) (hj : j < 26) (hk : k < 26) (h : nameS st spot front j = nameS st spot front k) : j = k := by
  have e := congrArg tl h
  rw [tl_nameS, tl_nameS, List.append_assoc, List.append_assoc] at e
  have e2 := List.append_cancel_left e
  exact ltr_inj hj hk (List.cons.inj e2).1
def namesL (st : Str) (spot front : Nat) (n : Nat) : List Str := (List.range n).map (nameS st spot front)
theorem namesL_nodup {st : Str} {spot front n : Nat} (hs : spot ≤ st.length) (hn : n ≤ 26) : (namesL st spot front n).Nodup := by
  unfold namesL
  rw [List.nodup_iff_pairwise_ne, List.pairwise_map]
  refine List.Pairwise.imp_of_mem ?_ (List.nodup_iff_pairwise_ne.mp List.nodup_range)
  intro a b ha hb hne e
  exact hne (nameS_inj hs (Nat.lt_of_lt_of_le (List.mem_range.mp ha) hn) (Nat.lt_of_lt_of_le (List.mem_range.mp hb) hn) e)
end Md
/-! Md: drawn names. -/
namespace Md
open PySem PySem.Spec PyProof.Rows L2
def spWords : Sp := fun vs H Q _ => ∃ (pn : Addr) (n : Nat) (G : Hp), vs = [.ref pn, .int 12] ∧ PenAt G H pn (n + 10) ∧ ∀ H' G' l ns, PenAt G' H' pn n → Gr pn G H G' H' → G' l = some (.lst (ns.map V.str)) → ns.length = 12 → ns.Nodup → Nms ns → Q (.ref l) H'
section
variable {P : Program} {w : World} {K : PySem.W.Frag} {mg : Str → Option Value} {base : Heap} {A : Ad}
theorem fn_law_words (T : Tx K mg w A) : ∀ f fd, Fun K "_law_words" "_law_words" S__law_words f fd → Fn P w K mg base f 3 spWords := by
  intro f fd F
  refine fnr_of (k := 2) F sc__law_words (fun _ _ _ _ _ _ us hl => match us, hl with | [_, _], _ => rfl) (fun vs H Q E h => by obtain ⟨x, m, _, rfl, _⟩ := h; rfl) fun f cdv Ar outer s H vs Q E c h => ?_
  have hr := c.room
  have nd := sc__law_words.nd
  obtain ⟨pn, n, G, rfl, hp, q⟩ := h
  refine ⟨_, (pss_cons (ps_set (i := 2) nd rfl (Or.inr rfl) pe_str)
 (pss_cons (ps_set (i := 3) nd rfl (Or.inr rfl) (pe_joinC c pe_str (pe_lc (own := [("_law_k", 6)]) (g := gName 6) rfl nd (pi_range1 (by rfl) T.b_range (pa_cons (pe_fn c (by rfl) (pa_cons (pv 0) (pa_cons (pe_lst (pa_cons pe_int (pa_cons pe_int (pa_cons pe_int (pa_cons pe_int (pa_cons pe_int pa_nil)))))) pa_nil))) pa_nil)) (blkOk_by (N := N__law_words) (sc := defScope S__law_words) (by decide +kernel)) (fun _ _ _ _ _ => (pg_name (i := 6) nd rfl (Or.inl rfl))) (fun _ _ _ _ _ => pts_nil) (fun _ _ _ _ _ => (pe_fn c.b (by rfl) (pa_cons (pv 0) (pa_cons (pv 2) pa_nil)))))))
 (pss_cons (ps_asg (pe_tup (pa_cons (pe_fn c (by rfl) (pa_cons (pv 0) (pa_cons (pe_op op_add (pe_callB call_len_str (by rfl) T.b_len PySem.boot_len (pa_cons (pv 3) pa_nil)) pe_int) pa_nil))) (pa_cons (pe_fn c (by rfl) (pa_cons (pv 0) (pa_cons pe_int pa_nil))) pa_nil))) (pg_tupC c rfl (pgs_cons (pg_name (i := 4) nd rfl (Or.inr rfl)) (pgs_cons (pg_name (i := 5) nd rfl (Or.inr rfl)) pgs_nil))))
 (pss_one (ps_ret (pe_lc (own := [("_law_k", 6)]) (g := gName 6) rfl nd (pi_range1 (by rfl) T.b_range (pa_cons (pv 1) pa_nil)) (blkOk_by (N := N__law_words) (sc := defScope S__law_words) (by decide +kernel)) (fun _ _ _ _ _ => (pg_name (i := 6) nd rfl (Or.inl rfl))) (fun _ _ _ _ _ => pts_nil) (fun _ _ _ _ _ => (pe_op op_add_str (pe_op op_add_str (pe_slice sl_str (pv 3) po_none (po_some (pv 4))) (pe_ix ix_str (pv 2) (pe_op op_mod (pe_callTy call_int1 (by rfl) T.b_int (by decide +kernel) (pa_cons (pe_op op_add (pv 5) (pe_op op_mul pe_int (pv 6))) pa_nil)) pe_int) (fun _ _ => rfl))) (pe_slice sl_str (pv 3) (po_some (pv 4)) po_none))))))))), ?_⟩
  refine ⟨⟨_, rfl⟩, _, cal_of T.f__law_pick (fn_law_pick T), _, rfl, by show 5 ≤ sizeLine; decide, fun l hl => ⟨pn, _, _, _, _, rfl, upd_same, hp.ne hl, hp.newU hl, by show 1 ≤ 5; decide, by show 5 ≤ 1000; decide, fun H1 x hx hp1 e1 => ?_⟩⟩
  have e1 := (exn hl).b.trans e1
  obtain ⟨k, k0, k1, rfl⟩ := int_mem [0, 0, 1, 3, 7] (lo := 0) (hi := 7) (by decide) hx
  have hzl : ("abcdefghijklmnopqrstuvwxyz" : Str).length = 26 := by decide +kernel
  refine ⟨k, rfl, by omega, by omega, fun D hD => lc_it (walk_rng0 (n := k.toNat)) (fun i H' => ∃ ls : List Nat, PenAt G H' pn (n + 2 + (7 - i)) ∧ ExB pn H1 H' ∧ H' D = some (.lst ((ls.map fun c => (⟨#[c]⟩ : Str)).map V.str)) ∧ ls.length = i ∧ ∀ c ∈ ls, c ∈ lets) ⟨[], (hp1.newU hD).mono (by omega), (exn hD).b, upd_same, rfl, fun c hc => by cases hc⟩ (fun _ _ _ _ => trivial) ?_ ?_⟩
  · rintro i x H2 H3 hi ⟨ls, hp2, e2, hD2, hll, hlc⟩ ⟨rfl, rfl⟩
    have gD : G D = none := Ex.none hp1.exg hD
    have nDp := hp1.ne hD
    rw [show n + 2 + (7 - i) = n + 2 + (7 - (i + 1)) + 1 by omega] at hp2
    refine ⟨rfl, _, cal_of T.f__law_pick (fn_law_pickS T), _, rfl, _, rfl, pn, _, _, G, rfl, hp2, by omega, by omega, fun H4 ch hch hp4 e4 => ⟨_, e4 _ _ nDp hD2, zt (by rw [List.length_map, List.length_map]; omega), ls ++ [ch], hp4.mut gD nDp, fun a o ha hn => ?_, ?_, by rw [List.length_append, hll]; rfl, fun c hc => ?_⟩⟩
    · rw [upd_ne (ne_of_none hn hD)]
      exact (e2.trans e4) _ _ ha hn
    · rw [upd_same, List.map_append, List.map_append]
      rfl
    · rcases List.mem_append.mp hc with h | h
      · exact hlc c h
      · rw [List.mem_singleton.mp h]
        exact hch
  · rintro H2 ⟨ls, hp2, e2, hD2, hll, hlc⟩
    have hk7 : k.toNat ≤ 7 := by omega
    refine ⟨_, D, _, rfl, rfl, .inl (SqL.of hD2), ?_, ?_⟩
    · have : ∀ ls : List Nat, ((ls.map fun c => (⟨#[c]⟩ : Str)).map (·.length)).sum = ls.length := by
        intro ls
        induction ls with
        | nil => rfl
        | cons a r ih => rw [List.map_cons, List.map_cons, List.sum_cons, ih, List.length_cons]; show 1 + r.length = _; omega
      rw [this, List.length_map, show ("" : Str).length = 0 by decide +kernel]
      omega
    have hst : TL.tl (Txt.join "" (ls.map fun c => (⟨#[c]⟩ : Str))) = ls := by rw [TL.join_eq]; exact tl_glue ls
    have hsl : (Txt.join "" (ls.map fun c => (⟨#[c]⟩ : Str))).length = ls.length := by rw [slen, hst]
    have hsc : ∀ c ∈ (Txt.join "" (ls.map fun c => (⟨#[c]⟩ : Str))).cps.toList, c ∈ lets := fun c hc => hlc c (by rw [← hst]; exact hc)
    have hnx : ∃ st, st = Txt.join "" (ls.map fun c => (⟨#[c]⟩ : Str)) := ⟨_, rfl⟩
    obtain ⟨st, hnx⟩ := hnx
    rw [← hnx] at hsl hsc ⊢
    have hp2 : PenAt G H2 pn (n + 1 + 1) := hp2.mono (by omega)
    have e02 := e1.trans e2
    refine ⟨_, cal_of T.f__law_draw (fn_law_draw T), _, rfl, _, rfl, st, rfl, zl (by omega), _, _, rfl, rfl, pn, _, _, G, rfl, hp2, by omega, by omega, fun H3 r1 hp3 e3 a1 b1 => ?_⟩
    refine ⟨_, cal_of T.f__law_draw (fn_law_draw T), _, rfl, pn, _, _, G, rfl, hp3, by decide, by decide, fun H4 r2 hp4 e4 a2 b2 => ⟨by show 2 ≤ sizeLine; decide, fun t ht => ⟨t, _, rfl, SqT.of upd_same, rfl, _, _, rfl, _, _, rfl, rfl, ?_⟩⟩⟩
    have e24 : ExB pn H (upd H4 t (.tup [.int r1, .int r2])) := (e02.trans (e3.trans e4)).trans (exn ht).b
    have hp5 := hp4.newU (o := .tup [.int r1, .int r2]) ht
    generalize upd H4 t (.tup [.int r1, .int r2]) = H5 at e24 hp5 ⊢
    obtain ⟨spot, rfl⟩ : ∃ j : Nat, r1 = (j : Int) := ⟨r1.toNat, by omega⟩
    obtain ⟨front, rfl⟩ : ∃ j : Nat, r2 = (j : Int) := ⟨r2.toNat, by omega⟩
    have c26 : (0 : Int) < 26 := by decide
    refine ⟨_, rfl, 12, rfl, by decide, by decide, fun D2 hD2 => lc_pure (walk_rng0 (n := 12)) (fun _ => true) (fun j => .str (nameS st spot front j)) hD2 (by decide) (fun _ _ => trivial) ?_ ?_⟩
    · rintro j x H6 H7 hj e6 ⟨rfl, rfl⟩ Kn Ky _ hy
      have hidx : ((front : Int) + 7 * (j : Int)) % 26 = (((front + 7 * j) % 26 : Nat) : Int) := by omega
      have hlt : (front + 7 * j) % 26 < lets.length := by rw [lets_len]; exact Nat.mod_lt _ (by decide)
      refine ⟨rfl, _, rfl, _, rfl, _, rfl, st, rfl, zl (by omega), _, rfl, _, rfl, _, rfl, _, _, rfl, rfl, .inl ⟨by decide, by decide⟩, _, _, rfl, rfl, .inl ⟨_, rfl, _, _, rfl, rfl, c26, _, _, ltr front j, rfl, rfl, zl (by omega), ?_, _, _, rfl, rfl, ?_⟩⟩
      · rw [hidx]
        have hl2 : (front + 7 * j) % 26 < ("abcdefghijklmnopqrstuvwxyz" : Str).cps.toList.length := hlt
        refine (atI_nat (List.getElem?_eq_getElem hl2)).trans ?_
        unfold ltr
        rw [List.getD_eq_getElem?_getD, List.getElem?_eq_getElem hlt]
        rfl
      · have c0 := cutS_length st none (some (spot : Int))
        have c1 := cutS_length st (some (spot : Int)) none
        have l1 : (⟨#[ltr front j]⟩ : Str).length = 1 := rfl
        refine ⟨zl (by omega), _, rfl, _, rfl, _, rfl, st, rfl, zl (by omega), _, _, rfl, rfl, zl (by rw [Str.length_append]; omega), hy rfl _ (exr _)⟩
    · intro H6 e6 hl6
      rw [gvn_all] at hl6
      have hl6' : H6 D2 = some (.lst ((namesL st spot front 12).map V.str)) := by
        rw [hl6]
        unfold namesL
        rw [List.map_map]
        rfl
      have gD2 : G D2 = none := Ex.none hp5.exg hD2
      have nD2 := hp5.ne hD2
      have hp6 := (hp5.ex e6).frz gD2 nD2 hl6'
      have hD20 : H D2 = none := by
        cases ho : H D2 with
        | none => rfl
        | some o => rw [e24 D2 o nD2 ho] at hD2; cases hD2
      have g6 : Gr pn G H (upd G D2 (.lst ((namesL st spot front 12).map V.str))) H6 := (Gr.drawn (e24.trans e6.b)).frz hD20 gD2
      exact q H6 _ D2 (namesL st spot front 12) hp6 g6 upd_same (by unfold namesL; rw [List.length_map, List.length_range]) (namesL_nodup (by omega) (by decide)) (fun z hz => by
        unfold namesL at hz
        obtain ⟨k', _, rfl⟩ := List.mem_map.mp hz
        exact nameS_nm (by omega) hsc)
end
end Md
/-! Md: the drawn world. -/
namespace Md
open PySem PySem.Spec PyProof.Rows L2
/-- users, owners, groups, names of entries -/
def WorldAt (H : Hp) (a : Addr) (us : List Us) (os gs ns : List Str) : Prop := ∃ (lu lo lg ln : Addr) (xs : List V), H a = some (.dK [(.inr "users", .ref lu), (.inr "owners", .ref lo), (.inr "groups", .ref lg), (.inr "names", .ref ln)]) ∧ H lu = some (.lst xs) ∧ Al (DUser H) xs us ∧
  H lo = some (.lst (os.map V.str)) ∧ H lg = some (.lst (gs.map V.str)) ∧ H ln = some (.lst (ns.map V.str))
structure WorldOk (us : List Us) (os gs ns : List Str) : Prop where
  u0 : 1 ≤ us.length
  u1 : us.length ≤ 3
  o : os.length = 4
  g : gs.length = 3
  n : ns.length = 3
  os : Nms os
  gs : Nms gs
  ns : Nms ns
def spWorld : Sp := fun vs H Q _ => ∃ (pn : Addr) (n : Nat) (G : Hp), vs = [.ref pn] ∧ PenAt G H pn (n + 20) ∧ ∀ H' G' a us os gs ns, PenAt G' H' pn n → Gr pn G H G' H' → WorldAt G' a us os gs ns → WorldOk us os gs ns → Q (.ref a) H'
theorem Nms.sub {l m : List Str} (h : Nms l) (s : ∀ z ∈ m, z ∈ l) : Nms m := fun z hz => h z (s z hz)
section
variable {P : Program} {w : World} {K : PySem.W.Frag} {mg : Str → Option Value} {base : Heap} {A : Ad}
theorem fn_law_world (T : Tx K mg w A) : ∀ f fd, Fun K "_law_world" "_law_world" S__law_world f fd → Fn P w K mg base f 4 spWorld := by
  intro f fd F
  refine fnr_of (k := 3) F sc__law_world (fun _ _ _ _ _ _ us hl => match us, hl with | [_], _ => rfl) (fun vs H Q E h => by obtain ⟨x, m, _, rfl, _⟩ := h; rfl) fun f cdv Ar outer s H vs Q E c h => ?_
  have hr := c.room
  have nd := sc__law_world.nd
  obtain ⟨pn, n, G, rfl, hp, q⟩ := h
  refine ⟨_, (pss_cons (ps_set (i := 1) nd rfl (Or.inl rfl) (pe_fn c (by rfl) (pa_cons (pv 0) (pa_cons pe_int pa_nil))))
 (pss_cons (ps_set (i := 2) nd rfl (Or.inl rfl) (pe_lst pa_nil))
 (pss_cons (ps_for PassesOwn.never rfl (pi_range1 (by rfl) T.b_range (pa_cons (pe_op op_add pe_int (pe_fn c (by rfl) (pa_cons (pv 0) (pa_cons pe_int pa_nil)))) pa_nil)) (pg_name (i := 3) nd rfl (Or.inl rfl))
 (pss_cons (ps_set (i := 4) nd rfl (Or.inl rfl) (pe_slice (sl_listC c) (pv 1) (po_some pe_int) (po_some (pe_op op_add pe_int (pe_fn c (by rfl) (pa_cons (pv 0) (pa_cons pe_int pa_nil)))))))
 (pss_one (ps_expr (pe_bmC c PySem.F.plainAttrs_list PySem.F.slot_list_append PySem.F.type_list_append mt_append (pv 2) (pa_cons (pe_tup (pa_cons (pe_ix (ix_listC c) (pv 1) (pv 3) (fun _ _ => rfl)) (pa_cons (pe_ifExp (pt_cmpR op_eq (pe_fn c (by rfl) (pa_cons (pv 0) (pa_cons pe_int pa_nil))) pe_int (nomark _)) (pe_revL (pv 4)) (pv 4)) (pa_cons (pe_cmpR op_eq (pe_fn c (by rfl) (pa_cons (pv 0) (pa_cons pe_int pa_nil))) pe_int (nomark _)) pa_nil)))) pa_nil))))))
 (pss_one (ps_ret (pe_disp (pps_cons pe_str (pv 2) (pps_cons pe_str (pe_slice (sl_listC c) (pv 1) po_none (po_some pe_int)) (pps_cons pe_str (pe_slice (sl_listC c) (pv 1) (po_some pe_int) (po_some pe_int)) (pps_cons pe_str (pe_slice (sl_listC c) (pv 1) (po_some pe_int) (po_some pe_int)) pps_nil)))) (by rfl) (by rfl) (fun z => by cases z) (by decide))))))), ?_⟩
  refine ⟨_, cal_of T.f__law_words (fn_law_words T), _, rfl, pn, n + 10, G, rfl, hp, fun H1 G1 S ws hp1 g1 hS hw12 hwn hwm => ?_⟩
  refine ⟨by decide, fun D hD => ?_⟩
  have nDp := hp1.ne hD
  have gD := Ex.none hp1.exg hD
  have hD0 : H D = none := by
    cases ho : H D with
    | none => rfl
    | some o => rw [g1.b D o nDp ho] at hD; cases hD
  have hp2 := hp1.newU (o := .lst []) hD
  have g2 : Gr pn G H G1 (upd H1 D (.lst [])) := g1.trans (.newU hD)
  have hD2 : upd H1 D (.lst []) D = some (.lst []) := upd_same
  generalize upd H1 D (.lst []) = H2 at hp2 g2 hD2 ⊢
  refine ⟨_, cal_of T.f__law_draw (fn_law_draw T), _, rfl, pn, _, _, G1, rfl, hp2, by decide, by decide, fun H3 r1 hp3 e3 a1 b1 => ⟨_, _, rfl, rfl, 1 + r1, rfl, by omega, by omega, ?_⟩⟩
  refine for_it (walk_rng0 (n := (1 + r1).toNat)) (fun i σ H' => (∃ v3 v4, σ = [some (.ref pn), some (.ref S), some (.ref D), v3, v4]) ∧ ∃ G' us xs, PenAt G' H' pn (n + 3 * (3 - i)) ∧ Gr pn G H G' H' ∧ G' S = some (.lst (ws.map V.str)) ∧ G' D = none ∧ H' D = some (.lst xs) ∧ Al (DUser G') xs us ∧ us.length = i)
    ⟨⟨none, none, rfl⟩, G1, [], [], hp3.mono (by omega), g2.trans (.drawn e3), hS, gD, e3 _ _ nDp hD2, Al.nil, rfl⟩ (fun _ _ _ _ _ => trivial) ?_ ?_
  · rintro i z σ H4 H5 hi ⟨⟨v3, v4, rfl⟩, G4, us, xs, hp4, g4, hS4, gD4, hD4, hal, hlen⟩ ⟨rfl, rfl⟩
    have hi3 : i < 3 := by omega
    rw [show n + 3 * (3 - i) = n + 3 * (3 - (i + 1)) + 1 + 1 + 1 by omega] at hp4
    refine ⟨_, rfl, _, rfl, _, cal_of T.f__law_draw (fn_law_draw T), _, rfl, pn, _, _, G4, rfl, hp4, by decide, by decide, fun H5 r2 hp5 e5 a2 b2 => ⟨_, _, rfl, rfl, _, rfl, S, _, rfl, SqL.of (hp5.exg _ _ hS4), fun m hm => ?_⟩⟩
    obtain ⟨k, rfl⟩ : ∃ j : Nat, r2 = (j : Int) := ⟨r2.toNat, by omega⟩
    have hcut : cutV (ws.map V.str) (some 3) (some (3 + (k : Int))) = ((ws.drop 3).take k).map V.str := by
      rw [show (3 + (k : Int)) = ((3 + k : Nat) : Int) by omega, show (some (3 : Int)) = some ((3 : Nat) : Int) from rfl, cutV_mid _ _ _ (by rw [List.length_map]; omega), ← List.map_drop, ← List.map_take]
      congr 2
      omega
    rw [hcut]
    have hnd : ((ws.drop 3).take k).Nodup := (hwn.sublist (List.drop_sublist _ _)).sublist (List.take_sublist _ _)
    have hnm : Nms ((ws.drop 3).take k) := hwm.sub fun z hz => List.mem_of_mem_drop (List.mem_of_mem_take hz)
    have hln : ((ws.drop 3).take k).length ≤ 2 := by rw [List.length_take]; omega
    generalize (ws.drop 3).take k = gl at hnd hnm hln ⊢
    have g5 := g4.trans (.drawn e5)
    have hD5 := e5 _ _ nDp hD4
    have nDm : D ≠ m := ne_of_none hD5 hm
    have hp6 := hp5.new (o := .lst (gl.map V.str)) hm
    have g6 := g5.trans (Gr.new (pn := pn) (o := .lst (gl.map V.str)) hp5.exg hm)
    have hm6 : upd G4 m (.lst (gl.map V.str)) m = some (.lst (gl.map V.str)) := upd_same
    have x6 : Ex G4 (upd G4 m (.lst (gl.map V.str))) := exn (Ex.none hp5.exg hm)
    have gD6 : upd G4 m (.lst (gl.map V.str)) D = none := by rw [upd_ne nDm]; exact gD4
    have hD6 : upd H5 m (.lst (gl.map V.str)) D = some (.lst xs) := by rw [upd_ne nDm]; exact hD5
    generalize upd G4 m (.lst (gl.map V.str)) = G6 at hp6 g6 hm6 x6 gD6
    generalize upd H5 m (.lst (gl.map V.str)) = H6 at hp6 g6 hD6 ⊢
    have hS6 := x6 _ _ hS4
    have hi12 : i < ws.length := by omega
    have hat : atI (ws.map V.str) (i : Int) = some (.str ws[i]) := atI_nat (by rw [List.getElem?_map, List.getElem?_eq_getElem hi12]; rfl)
    refine ⟨_, rfl, .inl ⟨rfl, _, SqL.of hD6⟩, _, rfl, _, rfl, S, _, _, _, rfl, rfl, SqL.of (hp6.exg _ _ hS6), hat, _, cal_of T.f__law_draw (fn_law_draw T), _, rfl, pn, _, _, G6, rfl, hp6, by decide, by decide, fun H7 r3 hp7 e7 a3 b3 => ⟨rfl, _, rfl, ?_⟩⟩
    have hal6 := hal.mono fun p c h => DUser.ex x6 h
    have g7 := g6.trans (.drawn e7)
    have hD7 := e7 _ _ nDp hD6
    by_cases h0 : V.int r3 = V.int 0
    case' pos =>
      rw [decide_eq_true h0]
      refine iteT ⟨_, rfl, m, _, rfl, SqL.of (hp7.exg _ _ hm6), fun m2 hm2 => ?_⟩
      rw [← List.map_reverse]
      have hnd2 : gl.reverse.Nodup := List.nodup_iff_pairwise_ne.mpr (List.pairwise_reverse.mpr ((List.nodup_iff_pairwise_ne.mp hnd).imp fun h => h.symm))
      have hnm2 : Nms gl.reverse := hnm.sub fun z hz => List.mem_reverse.mp hz
      have hln2 : gl.reverse.length ≤ 2 := by rw [List.length_reverse]; exact hln
      generalize gl.reverse = gl2 at hnd2 hnm2 hln2 ⊢
      have nDm2 : D ≠ m2 := ne_of_none hD7 hm2
      have hp8 := hp7.new (o := .lst (gl2.map V.str)) hm2
      have g8 := g7.trans (Gr.new (pn := pn) (o := .lst (gl2.map V.str)) hp7.exg hm2)
      have hm8 : upd G6 m2 (.lst (gl2.map V.str)) m2 = some (.lst (gl2.map V.str)) := upd_same
      have x8 : Ex G6 (upd G6 m2 (.lst (gl2.map V.str))) := exn (Ex.none hp7.exg hm2)
      have gD8 : upd G6 m2 (.lst (gl2.map V.str)) D = none := by rw [upd_ne nDm2]; exact gD6
      have hD8 : upd H7 m2 (.lst (gl2.map V.str)) D = some (.lst xs) := by rw [upd_ne nDm2]; exact hD7
      generalize upd G6 m2 (.lst (gl2.map V.str)) = G8 at hp8 g8 hm8 x8 gD8
      generalize upd H7 m2 (.lst (gl2.map V.str)) = H8 at hp8 g8 hD8 ⊢
      have hal8 := hal6.mono fun p c h => DUser.ex x8 h
      have hS8 := x8 _ _ hS6
    case' neg =>
      rw [decide_eq_false h0]
      refine iteF ⟨_, rfl, ?_⟩
      have hp8 := hp7
      have g8 := g7
      have hD8 := hD7
      have gD8 := gD6
      have hm8 := hm6
      have hal8 := hal6
      have hS8 := hS6
      have hnd2 := hnd
      have hnm2 := hnm
      have hln2 := hln
    all_goals
      refine ⟨_, cal_of T.f__law_draw (fn_law_draw T), _, rfl, pn, _, _, _, rfl, hp8, by decide, by decide, fun H9 r4 hp9 e9 a4 b4 => ⟨rfl, by show 3 ≤ sizeLine; decide, fun p hpn => ?_⟩⟩
      have hD9 := e9 _ _ nDp hD8
      have nDq : D ≠ p := ne_of_none hD9 hpn
      have gp := Ex.none hp9.exg hpn
      have g9 := g8.trans (.drawn e9)
      refine ⟨D, xs, _, rfl, rfl, by rw [upd_ne nDq]; exact hD9, zt (by have := hal.1; omega), ?_⟩
      refine ⟨⟨_, _, rfl⟩, _, us ++ [⟨decide (V.int r4 = V.int 0), ws[i], _⟩], _, (hp9.new hpn).mut (by rw [upd_ne nDq]; exact gD8) nDp, (g9.trans (.new hp9.exg hpn)).mut hD0, exn gp _ _ hS8, by rw [upd_ne nDq]; exact gD8, upd_same, (hal8.mono fun p' c h => DUser.ex (exn gp) h).snoc ⟨⟨hwm _ (List.getElem_mem hi12), hnm2, hnd2, hln2⟩, _, upd_same, exn gp _ _ hm8⟩, by rw [List.length_append, hlen]; rfl⟩
  · rintro σ H4 ⟨⟨v3, v4, rfl⟩, G4, us, xs, hp4, g4, hS4, gD4, hD4, hal, hlen⟩
    have hp5 := hp4.frz gD4 nDp hD4
    have g5 := g4.frz hD0 gD4 (o := .lst xs)
    have x5 : Ex G4 (upd G4 D (.lst xs)) := exn gD4
    have hS5 := x5 _ _ hS4
    have hal5 := hal.mono fun p c h => DUser.ex x5 h
    have hDg : upd G4 D (.lst xs) D = some (.lst xs) := upd_same
    generalize upd G4 D (.lst xs) = G5 at hp5 g5 x5 hS5 hal5 hDg
    have cut4 : cutV (ws.map V.str) none (some 4) = (ws.take 4).map V.str := by rw [show (some (4 : Int)) = some ((4 : Nat) : Int) from rfl, cutV_to, List.map_take]
    have cut6 : cutV (ws.map V.str) (some 3) (some 6) = ((ws.drop 3).take 3).map V.str := by
      rw [show (some (6 : Int)) = some ((6 : Nat) : Int) from rfl, show (some (3 : Int)) = some ((3 : Nat) : Int) from rfl, cutV_mid _ _ _ (by rw [List.length_map]; omega), ← List.map_drop, ← List.map_take]
    have cut9 : cutV (ws.map V.str) (some 6) (some 9) = ((ws.drop 6).take 3).map V.str := by
      rw [show (some (9 : Int)) = some ((9 : Nat) : Int) from rfl, show (some (6 : Int)) = some ((6 : Nat) : Int) from rfl, cutV_mid _ _ _ (by rw [List.length_map]; omega), ← List.map_drop, ← List.map_take]
    have ok : WorldOk us (ws.take 4) ((ws.drop 3).take 3) ((ws.drop 6).take 3) := ⟨by omega, by omega, by rw [List.length_take]; omega, by rw [List.length_take, List.length_drop]; omega, by rw [List.length_take, List.length_drop]; omega,
      hwm.sub fun z hz => List.mem_of_mem_take hz, hwm.sub fun z hz => List.mem_of_mem_drop (List.mem_of_mem_take hz), hwm.sub fun z hz => List.mem_of_mem_drop (List.mem_of_mem_take hz)⟩
    refine fun a ha => ⟨_, rfl, _, rfl, _, rfl, S, _, rfl, SqL.of (exn ha _ _ (hp5.exg _ _ hS5)), ?_⟩
    rw [cut4]
    refine fun lo hlo => ⟨_, rfl, _, rfl, _, rfl, S, _, rfl, SqL.of (exn hlo _ _ (exn ha _ _ (hp5.exg _ _ hS5))), ?_⟩
    rw [cut6]
    refine fun lg hlg => ⟨_, rfl, _, rfl, _, rfl, S, _, rfl, SqL.of (exn hlg _ _ (exn hlo _ _ (exn ha _ _ (hp5.exg _ _ hS5)))), ?_⟩
    rw [cut9]
    refine fun ln hln => ?_
    have nap := hp5.ne ha
    have ga := Ex.none hp5.exg ha
    have ha0 : H a = none := by
      cases ho : H a with
      | none => rfl
      | some o => rw [g5.b a o nap ho] at ha; cases ha
    have pa := hp5.newU (o := .dK []) ha
    have g6 := g5.trans (Gr.newU (o := .dK []) ha)
    have hA6 : upd H4 a (.dK []) a = some (.dK []) := upd_same
    generalize upd H4 a (.dK []) = H6 at hlo hlg hln pa g6 hA6 ⊢
    have p7 := pa.new (o := .lst ((ws.take 4).map V.str)) hlo
    have g7 := g6.trans (Gr.new (pn := pn) (o := .lst ((ws.take 4).map V.str)) pa.exg hlo)
    have x7 : Ex G5 (upd G5 lo (.lst ((ws.take 4).map V.str))) := exn (Ex.none pa.exg hlo)
    have hlo7 : upd G5 lo (.lst ((ws.take 4).map V.str)) lo = _ := upd_same
    have nal : a ≠ lo := ne_of_none hA6 hlo
    have hA7 : upd H6 lo (.lst ((ws.take 4).map V.str)) a = some (.dK []) := by rw [upd_ne nal]; exact hA6
    have gA7 : upd G5 lo (.lst ((ws.take 4).map V.str)) a = none := by rw [upd_ne nal]; exact ga
    generalize upd G5 lo (.lst ((ws.take 4).map V.str)) = G7 at p7 g7 x7 hlo7 gA7
    generalize upd H6 lo (.lst ((ws.take 4).map V.str)) = H7 at hlg hln p7 g7 hA7 ⊢
    have p8 := p7.new (o := .lst (((ws.drop 3).take 3).map V.str)) hlg
    have g8 := g7.trans (Gr.new (pn := pn) (o := .lst (((ws.drop 3).take 3).map V.str)) p7.exg hlg)
    have x8 : Ex G7 (upd G7 lg (.lst (((ws.drop 3).take 3).map V.str))) := exn (Ex.none p7.exg hlg)
    have hlg8 : upd G7 lg (.lst (((ws.drop 3).take 3).map V.str)) lg = _ := upd_same
    have nal8 : a ≠ lg := ne_of_none hA7 hlg
    have hA8 : upd H7 lg (.lst (((ws.drop 3).take 3).map V.str)) a = some (.dK []) := by rw [upd_ne nal8]; exact hA7
    have gA8 : upd G7 lg (.lst (((ws.drop 3).take 3).map V.str)) a = none := by rw [upd_ne nal8]; exact gA7
    generalize upd G7 lg (.lst (((ws.drop 3).take 3).map V.str)) = G8 at p8 g8 x8 hlg8 gA8
    generalize upd H7 lg (.lst (((ws.drop 3).take 3).map V.str)) = H8 at hln p8 g8 hA8 ⊢
    have p9 := p8.new (o := .lst (((ws.drop 6).take 3).map V.str)) hln
    have g9 := g8.trans (Gr.new (pn := pn) (o := .lst (((ws.drop 6).take 3).map V.str)) p8.exg hln)
    have x9 : Ex G8 (upd G8 ln (.lst (((ws.drop 6).take 3).map V.str))) := exn (Ex.none p8.exg hln)
    have hln9 : upd G8 ln (.lst (((ws.drop 6).take 3).map V.str)) ln = _ := upd_same
    have nal9 : a ≠ ln := ne_of_none hA8 hln
    have hA9 : upd H8 ln (.lst (((ws.drop 6).take 3).map V.str)) a = some (.dK []) := by rw [upd_ne nal9]; exact hA8
    have gA9 : upd G8 ln (.lst (((ws.drop 6).take 3).map V.str)) a = none := by rw [upd_ne nal9]; exact gA8
    generalize upd G8 ln (.lst (((ws.drop 6).take 3).map V.str)) = G9 at p9 g9 x9 hln9 gA9
    generalize upd H8 ln (.lst (((ws.drop 6).take 3).map V.str)) = H9 at p9 g9 hA9 ⊢
    refine ⟨hA9, [(.inr "users", .ref D), (.inr "owners", .ref lo), (.inr "groups", .ref lg), (.inr "names", .ref ln)], rfl, by show 4 ≤ 15; decide, ?_⟩
    have hmk : mergeK [] [((.inr "users" : Key), V.ref D), (.inr "owners", .ref lo), (.inr "groups", .ref lg), (.inr "names", .ref ln)] = [(.inr "users", .ref D), (.inr "owners", .ref lo), (.inr "groups", .ref lg), (.inr "names", .ref ln)] := by
      have n1 : ¬ ("users" : Str) = "owners" := by decide
      have n2 : ¬ ("users" : Str) = "groups" := by decide
      have n3 : ¬ ("users" : Str) = "names" := by decide
      have n4 : ¬ ("owners" : Str) = "groups" := by decide
      have n5 : ¬ ("owners" : Str) = "names" := by decide
      have n6 : ¬ ("groups" : Str) = "names" := by decide
      simp [mergeK, putK, n1, n2, n3, n4, n5, n6]
    rw [hmk]
    have p10 := (p9.mut (o := .dK [(.inr "users", .ref D), (.inr "owners", .ref lo), (.inr "groups", .ref lg), (.inr "names", .ref ln)]) gA9 nap).frz gA9 nap upd_same
    have g10 := (g9.mut (o := .dK [(.inr "users", .ref D), (.inr "owners", .ref lo), (.inr "groups", .ref lg), (.inr "names", .ref ln)]) ha0).frz (o := .dK [(.inr "users", .ref D), (.inr "owners", .ref lo), (.inr "groups", .ref lg), (.inr "names", .ref ln)]) ha0 gA9
    have x10 : Ex G9 (upd G9 a (.dK [(.inr "users", .ref D), (.inr "owners", .ref lo), (.inr "groups", .ref lg), (.inr "names", .ref ln)])) := exn gA9
    have x510 := ext x7 (ext x8 (ext x9 x10))
    exact q _ _ a us _ _ _ (p10.mono (by omega)) g10 ⟨D, lo, lg, ln, xs, upd_same, x510 _ _ hDg, hal5.mono fun p c h => DUser.ex x510 h, (ext x8 (ext x9 x10)) _ _ hlo7, (ext x9 x10) _ _ hlg8, x10 _ _ hln9⟩ ok
end
end Md
/-! Md: drawn commands. -/
namespace Md
open PySem PySem.Spec PyProof.Rows L2
def spDeed : Sp := fun vs H Q _ => ∃ (pn a : Addr) (n : Nat) (G : Hp) (us : List Us) (os gs ns : List Str), vs = [.ref pn, .ref a] ∧ PenAt G H pn (n + 18) ∧ WorldAt G a us os gs ns ∧ WorldOk us os gs ns ∧ ∀ H' G' p c, PenAt G' H' pn n → Gr pn G H G' H' → DDeed G' p c → Q (.ref p) H'
theorem WorldAt.get {H : Hp} {a : Addr} {us : List Us} {os gs ns : List Str} (h : WorldAt H a us os gs ns) : ∃ (lu lo lg ln : Addr) (xs : List V), DGet H a (.str "users") (some (.ref lu)) ∧ DGet H a (.str "owners") (some (.ref lo)) ∧ DGet H a (.str "groups") (some (.ref lg)) ∧ DGet H a (.str "names") (some (.ref ln)) ∧
    H lu = some (.lst xs) ∧ Al (DUser H) xs us ∧ H lo = some (.lst (os.map V.str)) ∧ H lg = some (.lst (gs.map V.str)) ∧ H ln = some (.lst (ns.map V.str)) := by
  obtain ⟨lu, lo, lg, ln, xs, h1, h2, h3, h4, h5, h6⟩ := h
  have n1 : ¬ ("users" : Str) = "owners" := by decide
  have n2 : ¬ ("users" : Str) = "groups" := by decide
  have n3 : ¬ ("users" : Str) = "names" := by decide
  have n4 : ¬ ("owners" : Str) = "groups" := by decide
  have n5 : ¬ ("owners" : Str) = "names" := by decide
  have n6 : ¬ ("groups" : Str) = "names" := by decide
  refine ⟨lu, lo, lg, ln, xs, ?_, ?_, ?_, ?_, h2, h3, h4, h5, h6⟩
  · have := DGet.k (k := .inr "users") h1
    rwa [valV_pos rfl] at this
  · have := DGet.k (k := .inr "owners") h1
    rwa [valV_neg (inr_ne n1), valV_pos rfl] at this
  · have := DGet.k (k := .inr "groups") h1
    rwa [valV_neg (inr_ne n2), valV_neg (inr_ne n4), valV_pos rfl] at this
  · have := DGet.k (k := .inr "names") h1
    rwa [valV_neg (inr_ne n3), valV_neg (inr_ne n5), valV_neg (inr_ne n6), valV_pos rfl] at this
theorem WorldAt.ex {H H' : Hp} {a : Addr} {us : List Us} {os gs ns : List Str} (e : Ex H H') (h : WorldAt H a us os gs ns) : WorldAt H' a us os gs ns := by
  obtain ⟨lu, lo, lg, ln, xs, h1, h2, h3, h4, h5, h6⟩ := h
  exact ⟨lu, lo, lg, ln, xs, e _ _ h1, e _ _ h2, h3.mono fun p c h => DUser.ex e h, e _ _ h4, e _ _ h5, e _ _ h6⟩
theorem dget_ex {H H' : Hp} {a : Addr} {z : Str} {v : V} (e : Ex H H') (h : DGet H a (.str z) (some v)) : DGet H' a (.str z) (some v) := by
  rcases h with ⟨kvs, k, h1, h2, h3⟩ | ⟨kvs, k, b, h1, h2, h3, h4⟩
  · rcases h1 with h1 | ⟨o, h1⟩
    · exact .inl ⟨kvs, k, .inl (e _ _ h1), h2, h3⟩
    · exact .inl ⟨kvs, k, .inr ⟨o, e _ _ h1⟩, h2, h3⟩
  · cases h2
section
variable {P : Program} {w : World} {K : PySem.W.Frag} {mg : Str → Option Value} {base : Heap} {A : Ad}
theorem fn_law_deed (T : Tx K mg w A) : ∀ f fd, Fun K "_law_deed" "_law_deed" S__law_deed f fd → Fn P w K mg base f 4 spDeed := by
  intro f fd F
  refine fnr_of (k := 3) F sc__law_deed (fun _ _ _ _ _ _ us hl => match us, hl with | [_, _], _ => rfl) (fun vs H Q E h => by obtain ⟨x, m, _, _, _, _, _, _, rfl, _⟩ := h; rfl) fun f cdv Ar outer s H vs Q E c h => ?_
  have hr := c.room
  have nd := sc__law_deed.nd
  obtain ⟨pn, a, n, G, us, os, gs, ns, rfl, hp, hw, wok, q⟩ := h
  refine ⟨_, (pss_cons (ps_par (i := 2) (j := 3) rfl nd rfl rfl (by decide) rfl rfl (pa_cons (pe_fn c (by rfl) (pa_cons (pv 0) (pa_cons (pe_dget (hu_of hr) (pv 1) pe_str (fun _ _ => rfl)) pa_nil))) (pa_cons (pe_fn c (by rfl) (pa_cons (pv 0) pa_nil)) pa_nil)) (by with_unfolding_all rfl))
 (pss_cons (ps_if (pt_cmpR op_eq (pe_fn c (by rfl) (pa_cons (pv 0) (pa_cons pe_int pa_nil))) pe_int (nomark _)) (pss_one (ps_set (i := 3) nd rfl (Or.inl rfl) (pe_lst (pa_cons (pe_tup (pa_cons pe_str (pa_cons pe_str (pa_cons pe_str pa_nil)))) pa_nil)))) pss_nil)
 (pss_cons (ps_setLc (i := 4) (own := [("_law_at_here", 7)]) (g := gName 7) rfl nd rfl rfl (sw_true rfl rfl rfl (by decide +kernel)) (pi_range1 (by rfl) T.b_range (pa_cons (pe_fn c (by rfl) (pa_cons (pv 0) (pa_cons (pe_lst (pa_cons pe_int (pa_cons pe_int (pa_cons pe_int (pa_cons pe_int (pa_cons pe_int (pa_cons pe_int pa_nil))))))) pa_nil))) pa_nil)) (blkOk_by (N := N__law_deed) (sc := defScope S__law_deed) (by decide +kernel)) (fun _ _ _ _ _ => (pg_name (i := 7) nd rfl (Or.inl rfl))) (fun _ _ _ _ _ => pts_nil) (fun _ _ _ _ _ => (pe_fn c.b (by rfl) (pa_cons (pv 0) (pa_cons (pe_dget (hu_of hr) (pv 1) pe_str (fun _ _ => rfl)) pa_nil)))))
 (pss_cons (ps_par (i := 5) (j := 6) rfl nd rfl rfl (by decide) rfl rfl (pa_cons (pe_fn c (by rfl) (pa_cons (pv 0) (pa_cons (pe_lst (pa_cons pe_str (pa_cons pe_str (pa_cons pe_str pa_nil)))) pa_nil))) (pa_cons (pe_fn c (by rfl) (pa_cons (pv 0) (pa_cons (pe_lst (pa_cons pe_str (pa_cons pe_str (pa_cons pe_str (pa_cons pe_str pa_nil))))) pa_nil))) pa_nil)) (by with_unfolding_all rfl))
 (pss_one (ps_ret (pe_tup (pa_cons (pv 2) (pa_cons (pv 3) (pa_cons (pv 5) (pa_cons (pv 6) (pa_cons (pv 4) pa_nil)))))))))))), ?_⟩
  obtain ⟨lu, lo, lg, ln, xs, dU, dO, dG, dN, hlu, hus, hlo, hlg, hln⟩ := hw.get
  have hxl := hus.1
  have hu0 := wok.u0
  have hu1 := wok.u1
  refine ⟨_, cal_of T.f__law_pick (fn_law_pick T), _, rfl, _, rfl, a, _, rfl, dget_ex hp.exg dU, pn, lu, xs, _, G, rfl, hp.exg _ _ hlu, ne_of_none hlu hp.gn, hp, by omega, by omega, fun H1 x hx hp1 e1 => ?_⟩
  obtain ⟨pu, u, rfl, hum, hpu⟩ := hus.mem hx
  refine ⟨_, cal_of T.f__law_clauses (fn_law_clauses T), _, rfl, pn, n + 7, G, rfl, hp1, fun H2 G2 lc ch hp2 g2 hcls hok hc1 hc3 => ⟨_, _, rfl, ?_⟩⟩
  have g02 := (Gr.drawn (G := G) e1).trans g2
  refine ⟨_, cal_of T.f__law_draw (fn_law_draw T), _, rfl, pn, _, _, G2, rfl, hp2, by decide, by decide, fun H3 r hp3 e3 a3 b3 => ⟨rfl, _, rfl, ?_⟩⟩
  have g03 := g02.trans (.drawn e3)
  by_cases h0 : V.int r = V.int 0
  case' pos =>
    rw [decide_eq_true h0]
    refine iteT ⟨by show 3 ≤ sizeLine; decide, fun p hpn => ⟨by show 1 ≤ sizeLine; decide, fun l hl => ?_⟩⟩
    have g4 := (g03.trans (Gr.new (pn := pn) (o := .tup [.str "u", .str "+", .str "rx"]) hp3.exg hpn)).trans (Gr.new (pn := pn) (o := .lst [.ref p]) (hp3.new hpn).exg hl)
    have hp4 := (hp3.new (o := .tup [.str "u", .str "+", .str "rx"]) hpn).new (o := .lst [.ref p]) hl
    have npl : p ≠ l := ne_of_none upd_same hl
    have hcls4 : DCls (upd (upd G2 p (.tup [.str "u", .str "+", .str "rx"])) l (.lst [.ref p])) l [⟨"u", "+", "rx"⟩] := ⟨[.ref p], upd_same, Al.nil.snoc (R := ClR _) (by show _ = _; rw [upd_ne npl]; exact upd_same)⟩
    have hok4 : ∀ c ∈ ([⟨"u", "+", "rx"⟩] : List Cl), ClOk c := fun c hc => by
      rw [List.mem_singleton.mp hc]
      exact ⟨by decide +kernel, by decide +kernel, by decide +kernel⟩
    have hc14 : 1 ≤ ([⟨"u", "+", "rx"⟩] : List Cl).length := by decide
    have hc34 : ([⟨"u", "+", "rx"⟩] : List Cl).length ≤ 3 := by decide
    generalize upd (upd G2 p (.tup [.str "u", .str "+", .str "rx"])) l (.lst [.ref p]) = G4 at g4 hp4 hcls4
    generalize upd (upd H3 p (.tup [.str "u", .str "+", .str "rx"])) l (.lst [.ref p]) = H4 at g4 hp4 ⊢
    generalize ([⟨"u", "+", "rx"⟩] : List Cl) = ch4 at hcls4 hok4 hc14 hc34
  case' neg =>
    rw [decide_eq_false h0]
    refine iteF ?_
    have g4 := g03
    have hp4 := hp3
    have hcls4 := hcls
    have hok4 := hok
    have hc14 := hc1
    have hc34 := hc3
  all_goals
    have dN4 := dget_ex g4.ex dN
    have hln4 := g4.ex _ _ hln
    refine ⟨_, cal_of T.f__law_pick (fn_law_pick T), _, rfl, by show 6 ≤ sizeLine; decide, fun l hl => ⟨pn, _, _, _, _, rfl, upd_same, hp4.ne hl, hp4.newU hl, by show 1 ≤ 6; decide, by show 6 ≤ 1000; decide, fun H5 x hx hp5 e5 => ?_⟩⟩
    have e5 := (exn hl).b.trans e5
    obtain ⟨k, k0, k1, rfl⟩ := int_mem [0, 0, 0, 1, 2, 3] (lo := 0) (hi := 3) (by decide) hx
    have g5 := g4.trans (.drawn e5)
    refine ⟨k, rfl, by omega, by omega, fun D hD => lc_it (walk_rng0 (n := k.toNat)) (fun i H' => ∃ ls : List Str, PenAt _ H' pn (n + 2 + (3 - i)) ∧ ExB pn H5 H' ∧ H' D = some (.lst (ls.map V.str)) ∧ ls.length = i ∧ Nms ls) ⟨[], (hp5.newU hD).mono (by omega), (exn hD).b, upd_same, rfl, fun c hc => by cases hc⟩ (fun _ _ _ _ => trivial) ?_ ?_⟩
    · rintro i x H6 H7 hi ⟨ls, hp6, e6, hD6, hll, hls⟩ ⟨rfl, rfl⟩
      have gD := Ex.none hp5.exg hD
      have nDp := hp5.ne hD
      rw [show n + 2 + (3 - i) = n + 2 + (3 - (i + 1)) + 1 by omega] at hp6
      refine ⟨rfl, _, cal_of T.f__law_pick (fn_law_pick T), _, rfl, _, rfl, a, _, rfl, dget_ex hp6.exg dN4, pn, ln, _, _, _, rfl, hp6.exg _ _ hln4, ne_of_none hln4 hp6.gn, hp6, by rw [List.length_map, wok.n]; decide, by rw [List.length_map, wok.n]; decide, fun H8 x8 hx8 hp8 e8 => ?_⟩
      obtain ⟨z, hz, rfl⟩ := str_mem ns (M := ns) (fun _ h => h) hx8
      refine ⟨_, e8 _ _ nDp hD6, zt (by rw [List.length_map]; omega), ls ++ [z], hp8.mut gD nDp, fun b o hb hn => ?_, by rw [upd_same, List.map_append]; rfl, by rw [List.length_append, hll]; rfl, fun y hy => ?_⟩
      · rw [upd_ne (ne_of_none hn hD)]
        exact (e6.trans e8) _ _ hb hn
      · rcases List.mem_append.mp hy with h | h
        · exact hls y h
        · rw [List.mem_singleton.mp h]
          exact wok.ns z hz
    · rintro H6 ⟨ls, hp6, e6, hD6, hll, hls⟩
      have gD := Ex.none hp5.exg hD
      have nDp := hp5.ne hD
      have hp7 := (hp6.frz gD nDp hD6).mono (show n + 1 + 1 ≤ _ by omega)
      have hD0 : H D = none := by
        cases ho : H D with
        | none => rfl
        | some o => rw [g5.b D o nDp ho] at hD; cases hD
      have g7 := (g5.trans (.drawn e6)).frz hD0 gD (o := .lst (ls.map V.str))
      have x7 := exn gD (o := .lst (ls.map V.str))
      refine ⟨_, cal_of T.f__law_pick (fn_law_pick T), _, rfl, by show 3 ≤ sizeLine; decide, fun l hl => ⟨pn, _, _, _, _, rfl, upd_same, hp7.ne hl, hp7.newU hl, by show 1 ≤ 3; decide, by show 3 ≤ 1000; decide, fun H8 x8 hx8 hp8 e8 => ?_⟩⟩
      have e8 := (exn hl).b.trans e8
      obtain ⟨z8, hz8, rfl⟩ := str_mem ["first", "first", "last"] (M := ["first", "last"]) (by decide +kernel) hx8
      refine ⟨_, cal_of T.f__law_pick (fn_law_pick T), _, rfl, by show 4 ≤ sizeLine; decide, fun l hl => ⟨pn, _, _, _, _, rfl, upd_same, hp8.ne hl, hp8.newU hl, by show 1 ≤ 4; decide, by show 4 ≤ 1000; decide, fun H9 x9 hx9 hp9 e9 => ⟨_, _, rfl, ?_⟩⟩⟩
      have e9 := (exn hl).b.trans e9
      obtain ⟨z9, hz9, rfl⟩ := str_mem ["all", "all", "folders", "files"] (M := kindM) (by decide +kernel) hx9
      refine ⟨_, rfl, _, rfl, _, rfl, _, rfl, _, rfl, by show 5 ≤ sizeLine; decide, fun p hpn => ?_⟩
      have g9 := g7.trans (.drawn (e8.trans e9))
      have gp := Ex.none hp9.exg hpn
      have hord : ∃ b : Bool, z8 = (if b then ("first" : Str) else ("last" : Str)) := by
        simp only [List.mem_cons, List.not_mem_nil, or_false] at hz8
        rcases hz8 with rfl | rfl
        · exact ⟨true, rfl⟩
        · exact ⟨false, rfl⟩
      obtain ⟨b, rfl⟩ := hord
      exact q _ _ p ⟨u, _, b, z9, ls⟩ (hp9.new hpn) (g9.trans (Gr.new (pn := pn) hp9.exg hpn)) ⟨⟨hz9, hls, by show ls.length ≤ 3; omega⟩, hok4, ⟨hc14, Nat.le_trans hc34 (by decide)⟩, pu, _, D, upd_same, DUser.ex (ext g9.ex (exn gp)) hpu, DCls.ex (ext x7 (exn gp)) hcls4, exn gp _ _ upd_same⟩
end
end Md
/-! Md: a forest from rows, one put behind another. -/
namespace Md
open PySem
theorem cnt_putN (F : Fo) (n : Str) (e : En) : cnt (putN F n e) ≤ cnt F + 1 := by
  induction F with
  | nil => exact Nat.le_refl _
  | node m f l r il ir =>
    unfold putN
    split
    · show 1 + cnt .nil + cnt r ≤ 1 + cnt l + cnt r + 1
      have : cnt Fo.nil = 0 := rfl
      omega
    · show 1 + cnt l + cnt (putN r n e) ≤ 1 + cnt l + cnt r + 1
      omega
theorem cnt_putP (n : Str) (e : En) : ∀ (q : List Str) (F : Fo), cnt (putP F q n e) ≤ cnt F + 1
  | [], F => by rw [putP_nil]; exact cnt_putN F n e
  | p :: q, .nil => Nat.le_succ _
  | p :: q, .node m f l r => by
    have h1 := cnt_putP n e q l
    have h2 := cnt_putP n e (p :: q) r
    rw [putP_node]
    split
    · show 1 + cnt (putP l q n e) + cnt r ≤ 1 + cnt l + cnt r + 1
      omega
    · show 1 + cnt l + cnt (putP r (p :: q) n e) ≤ 1 + cnt l + cnt r + 1
      omega
theorem hgt_cnt : ∀ F : Fo, hgt F ≤ cnt F
  | .nil => Nat.le_refl _
  | .node m f l r => by
    have h1 := hgt_cnt l
    have h2 := hgt_cnt r
    show max (1 + hgt l) (hgt r) ≤ 1 + cnt l + cnt r
    omega
theorem cnt_nil {F : Fo} (h : cnt F = 0) : F = .nil := by
  cases F with
  | nil => rfl
  | node m f l r => exact absurd h (by show 1 + cnt l + cnt r ≠ 0; omega)
/-- a row: the names above, the name, the entry -/
structure Rw where
  ab : List Str
  nm : Str
  en : En
def rwP (r : Rw) : List Str × En := (r.ab ++ [r.nm], r.en)
def putR (F : Fo) (r : Rw) : Fo := putP F r.ab r.nm r.en
def treeF (F : Fo) (rs : List Rw) : Fo := rs.foldl putR F
/-- each row finds its folder -/
def CanPut (e0 : En) : Fo → List Rw → Prop
  | _, [] => True
  | F, r :: rs => (Nms r.ab ∧ Nm r.nm ∧ r.ab.length ≤ 900 ∧ EnOk r.en ∧ ∃ x, subF (e0, F) r.ab = some x ∧ x.1.dir = true) ∧ CanPut e0 (putR F r) rs
theorem treeF_snoc (F : Fo) (rs : List Rw) (r : Rw) : treeF F (rs ++ [r]) = putR (treeF F rs) r := by unfold treeF; rw [List.foldl_append]; rfl
theorem CanPut.at {e0 : En} : ∀ {rs : List Rw} {F : Fo} (i : Nat) (r : Rw), CanPut e0 F rs → rs[i]? = some r → Nms r.ab ∧ Nm r.nm ∧ r.ab.length ≤ 900 ∧ EnOk r.en ∧ ∃ x, subF (e0, treeF F (rs.take i)) r.ab = some x ∧ x.1.dir = true
  | [], _, i, r, _, h => by cases h
  | s :: rs, F, 0, r, c, h => by cases h; exact c.1
  | s :: rs, F, i + 1, r, c, h => CanPut.at (rs := rs) (F := putR F s) i r c.2 h
theorem CanPut.take {e0 : En} : ∀ {rs : List Rw} {F : Fo} (i : Nat), CanPut e0 F rs → CanPut e0 F (rs.take i)
  | [], F, i, c => by rw [List.take_nil]; trivial
  | s :: rs, F, 0, c => trivial
  | s :: rs, F, i + 1, c => ⟨c.1, CanPut.take (rs := rs) (F := putR F s) i c.2⟩
theorem treeF_cnt : ∀ (rs : List Rw) (F : Fo), cnt (treeF F rs) ≤ cnt F + rs.length
  | [], F => Nat.le_refl _
  | r :: rs, F => by
    have h1 := treeF_cnt rs (putR F r)
    have h2 : cnt (putR F r) ≤ cnt F + 1 := cnt_putP _ _ _ _
    show cnt (treeF (putR F r) rs) ≤ cnt F + (rs.length + 1)
    omega
theorem treeF_wf {e0 : En} (h0 : e0.dir = true) : ∀ {rs : List Rw} {F : Fo}, WfF F → CanPut e0 F rs → WfF (treeF F rs)
  | [], F, w, _ => w
  | r :: rs, F, w, c => by
    obtain ⟨⟨_, hn, _, he, x, hx, hd⟩, c2⟩ := c
    exact treeF_wf h0 (rs := rs) (wf_putP hn he w hx hd h0) c2
end Md
/-! Md: the law's trees. -/
namespace Md
open PySem PySem.Spec PyProof.Rows L2
def formS (d : Bool) : Str := if d then "folder" else "file"
/-- a drawn row: a list of a path, a form, a number, an owner, a group -/
def DRowL (ns : List Str) (e : En) : List V := [.str (pth ns), .str (formS e.dir), .int e.mode, .str e.owner, .str e.group]
def DRows (H : Hp) (xs : List V) (rs : List (List Str × En)) : Prop := xs.length = rs.length ∧ ∀ (j : Nat) (r : List Str × En), rs[j]? = some r → ∃ p, xs[j]? = some (V.ref p) ∧ H p = some (.lst (DRowL r.1 r.2))
theorem DRows.ex {H H' : Hp} {xs : List V} {rs : List (List Str × En)} (e : Ex H H') (h : DRows H xs rs) : DRows H' xs rs := ⟨h.1, fun j c hj => let ⟨p, a, b⟩ := h.2 j c hj; ⟨p, a, e _ _ b⟩⟩
def spTreeSo (A : Ad) : Sp := fun vs H Q _ => ∃ (l : Addr) (xs : List V) (e0 : En) (rs : List Rw), vs = [.ref l] ∧ H l = some (.lst xs) ∧ DRows H xs (([], e0) :: rs.map rwP) ∧ e0.dir = true ∧ EnOk e0 ∧ CanPut e0 .nil rs ∧ rs.length ≤ 13 ∧
  ∀ H' t p ds, Ex H H' → TreeAt A H' t p e0 (treeF .nil rs) ds → (∀ d ∈ ds, H d = none) → Q (.ref t) H'
section
variable {P : Program} {w : World} {K : PySem.W.Frag} {mg : Str → Option Value} {base : Heap} {A : Ad}
theorem fn_law_tree_so (T : Tx K mg w A) (S : Sx P K mg A) : ∀ f fd, Fun K "_law_tree_so" "_law_tree_so" S__law_tree_so f fd → Fn P w K mg base f 26 (spTreeSo A) := by
  intro f fd F
  refine fnr_of (k := 25) F sc__law_tree_so (fun _ _ _ _ _ _ us hl => match us, hl with | [_], _ => rfl) (fun vs H Q E h => by obtain ⟨x, m, _, _, rfl, _⟩ := h; rfl) fun f cdv Ar outer s H vs Q E c h => ?_
  have hr := c.room
  have nd := sc__law_tree_so.nd
  obtain ⟨l, xs, e0, rs, rfl, hl, hd, hdir, he0, hcan, h13, q⟩ := h
  refine ⟨_, (pss_cons (ps_set (i := 1) nd rfl (Or.inl rfl) (pe_mk c (by rfl) (pa_cons (pe_mk c (by rfl) (pa_cons (pe_ix (ix_listC c) (pe_ix (ix_listC c) (pv 0) pe_int (fun _ _ => rfl)) pe_int (fun _ _ => rfl)) (pa_cons (pe_ix (ix_listC c) (pe_ix (ix_listC c) (pv 0) pe_int (fun _ _ => rfl)) pe_int (fun _ _ => rfl)) (pa_cons (pe_ix (ix_listC c) (pe_ix (ix_listC c) (pv 0) pe_int (fun _ _ => rfl)) pe_int (fun _ _ => rfl)) pa_nil)))) pa_nil)))
 (pss_cons (ps_for PassesOwn.never rfl (pi_listC c (pe_slice (sl_listC c) (pv 0) (po_some pe_int) po_none)) (pg_unl rfl (pgs_cons (pg_name (i := 2) nd rfl (Or.inl rfl)) (pgs_cons (pg_name (i := 3) nd rfl (Or.inl rfl)) (pgs_cons (pg_name (i := 4) nd rfl (Or.inl rfl)) (pgs_cons (pg_name (i := 5) nd rfl (Or.inl rfl)) (pgs_cons (pg_name (i := 6) nd rfl (Or.inl rfl)) pgs_nil))))))
 (pss_cons (ps_set (i := 7) nd rfl (Or.inl rfl) (pe_ifExp (pt_cmpR op_eq (pv 3) pe_str (nomark _)) (pe_mk c (by rfl) (pa_cons (pv 4) (pa_cons (pv 5) (pa_cons (pv 6) pa_nil)))) (pe_mk c (by rfl) (pa_cons (pv 4) (pa_cons (pv 5) (pa_cons (pv 6) pa_nil))))))
 (pss_one (ps_expr (pe_mt c (pv 1) (pa_cons (pv 2) (pa_cons (pv 7) pa_nil)))))))
 (pss_one (ps_ret (pv 1))))), ?_⟩
  obtain ⟨p0, hp0, hr0⟩ := hd.2 0 ([], e0) rfl
  have at0 : atI xs ((0 : Nat) : Int) = some (V.ref p0) := atI_nat hp0
  refine ⟨_, _, ccal_of T.i_Tree T.k_Tree (fn_Tree_init T S), _, _, ccal_Folder T S (by decide), _, rfl, l, _, 0, _, rfl, rfl, SqL.of hl, at0, p0, _, 2, _, rfl, rfl, SqL.of hr0, rfl, _, rfl, l, _, 0, _, rfl, rfl, SqL.of hl, at0, p0, _, 3, _, rfl, rfl, SqL.of hr0, rfl, _, rfl, l, _, 0, _, rfl, rfl, SqL.of hl, at0, p0, _, 4, _, rfl, rfl, SqL.of hr0, rfl, fun fo fdx hfo hfdx _ => ?_⟩
  refine mk_Folder (e := e0) hfo hfdx hdir (.inl ⟨rfl, he0.m0, he0.m1⟩) he0.o he0.g fun H1 d e1 hdn hen => ⟨rfl, fun x dx hx hdx _ => ?_⟩
  have nodeat : NodeAt A H1 fo e0 .nil [d] := ⟨[], [d], [], hen, ⟨rfl, rfl⟩, rfl⟩
  refine ⟨x, dx, fo, e0, .nil, [d], rfl, upd_same, nodeat.ex (ex_made hx hdx), ⟨he0, trivial, fun _ => rfl⟩, hdir, Nat.zero_le _, Nat.zero_le _, fun H2 p' k' ds' b hx' hn' ok' eq' hc' hh' fr' => ⟨rfl, ?_⟩⟩
  have hk' : k' = .nil := cnt_nil hc'
  subst hk'
  have e2 : Ex H1 H2 := ExB.made hx hdx b
  have e02 : Ex H H2 := ext e1 e2
  have hfr : ∀ d ∈ ds', H d = none := fun d hd => e1.none ((ex_made hx hdx).none (fr' d hd))
  have hxl : xs.length = rs.length + 1 := by rw [hd.1, List.length_cons, List.length_map]
  have hcut : cutV xs (some 1) none = xs.drop 1 := by
    have h1 : HT.sIx xs.length 0 (some ((1 : Nat) : Int)) = 1 := by rw [HT.sIx_nat]; omega
    have h2 : HT.sIx xs.length xs.length none = xs.length := rfl
    unfold cutV
    rw [show (some (1 : Int)) = some ((1 : Nat) : Int) from rfl, h1, h2, List.take_of_length_le (by rw [List.length_drop]; omega)]
  refine ⟨_, rfl, _, rfl, l, xs, rfl, SqL.of (e02 _ _ hl), fun L hL => ?_⟩
  rw [hcut]
  have e3 : Ex H2 (upd H2 L (.lst (xs.drop 1))) := exn hL
  have hL3 : upd H2 L (.lst (xs.drop 1)) L = some (.lst (xs.drop 1)) := upd_same
  have hn3 := hn'.ex e3
  have hx3 := e3 _ _ hx'
  generalize upd H2 L (.lst (xs.drop 1)) = H3 at e3 hL3 hn3 hx3 ⊢
  refine ⟨L, rfl, ⟨_, SqL.of hL3⟩, for_it (walk_list (xs := xs.drop 1)) (fun i σ H' => (∃ v2 v3 v4 v5 v6 v7 ds1, σ = [some (.ref l), some (.ref x), v2, v3, v4, v5, v6, v7] ∧ NodeAt A H' p' e0 (treeF .nil (rs.take i)) ds1 ∧ ds1.Nodup ∧ ∀ d ∈ ds1, H d = none) ∧ Ex H H' ∧ H' L = some (.lst (xs.drop 1)) ∧ H' x = some (.ins A.Tree dx [("top", .ref p')]))
    ⟨⟨none, none, none, none, none, none, ds', rfl, hn3, ok'.nd, hfr⟩, ext e02 e3, hL3, hx3⟩ (fun i σ H' _ p => SqL.of p.2.2.1) ?_ ?_⟩
  · rintro i z σ H5 H4 hi ⟨⟨v2, v3, v4, v5, v6, v7, ds1, rfl, hn4, nd4, fr4⟩, e4, hL4, hx4⟩ ⟨rfl, hz⟩
    have hi2 : i < rs.length := by rw [List.length_drop] at hi; omega
    have hri : rs[i]? = some rs[i] := List.getElem?_eq_getElem hi2
    obtain ⟨p, hp1, hdd⟩ := hd.2 (i + 1) (rwP rs[i]) (by rw [List.getElem?_cons_succ, List.getElem?_map, hri]; rfl)
    rw [List.getElem?_drop, Nat.add_comm 1 i, hp1] at hz
    cases hz
    obtain ⟨hnab, hnm, hab, hen, xf, hxf, hxd⟩ := CanPut.at i rs[i] hcan hri
    have htr : TrOk e0 (treeF .nil (rs.take i)) ds1 := by
      have h1 := treeF_cnt (rs.take i) .nil
      have h2 := hgt_cnt (treeF .nil (rs.take i))
      have h3 : (rs.take i).length ≤ 13 := by rw [List.length_take]; omega
      have h4 : cnt Fo.nil = 0 := rfl
      exact ⟨⟨he0, treeF_wf hdir trivial (CanPut.take i hcan), fun h => by rw [hdir] at h; cases h⟩, hdir, nd4, by omega, by omega⟩
    have hp4 := e4 _ _ hdd
    have nL : L ∉ ds1 := fun hm => by
      obtain ⟨kd, hkd⟩ := hn4.dsm L hm
      rw [hL4] at hkd
      cases hkd
    have nx : x ∉ ds1 := fun hm => by
      obtain ⟨kd, hkd⟩ := hn4.dsm x hm
      rw [hx4] at hkd
      cases hkd
    refine ⟨p, _, rfl, SqL.of hp4, rfl, _, _, rfl, _, _, rfl, _, _, rfl, _, _, rfl, _, _, rfl, rfl, ?_⟩
    have fin : ∀ (H7 : Hp) (fo : Addr) (d2 : List Addr), Ex H4 H7 → NodeAt A H7 fo rs[i].en .nil d2 → spTreePut A [.ref x, .str (pth (rs[i].ab ++ [rs[i].nm])), .ref fo] H7 (fun v H8 => (∃ v2 v3 v4 v5 v6 v7 ds1, [some (V.ref l), some (.ref x), some (.str (pth (rs[i].ab ++ [rs[i].nm]))), some (.str (formS rs[i].en.dir)), some (.int rs[i].en.mode), some (.str rs[i].en.owner), some (.str rs[i].en.group), some (.ref fo)] = [some (.ref l), some (.ref x), v2, v3, v4, v5, v6, v7] ∧ NodeAt A H8 p' e0 (treeF .nil (rs.take (i + 1))) ds1 ∧ ds1.Nodup ∧ ∀ d ∈ ds1, H d = none) ∧ Ex H H8 ∧ H8 L = some (.lst (xs.drop 1)) ∧ H8 x = some (.ins A.Tree dx [("top", .ref p')])) E0 := by
      intro H7 fo d2 e7 hfo
      refine ⟨x, rs[i].ab, rs[i].nm, fo, p', e0, treeF .nil (rs.take i), ds1, xf.1, xf.2, rs[i].en, d2, rfl, hnab, hnm, hab, ⟨⟨dx, e7 _ _ hx4⟩, hn4.ex e7, htr⟩, hxf, hxd, hfo, ⟨hen, trivial, fun _ => rfl⟩, fun H8 ds8 e8 hn8 nd8 fr8 => ?_⟩
      have htake : rs.take (i + 1) = rs.take i ++ [rs[i]] := by rw [List.take_add_one, hri]; rfl
      refine ⟨⟨_, _, _, _, _, _, ds8, rfl, by rw [htake, treeF_snoc]; exact hn8, nd8, fun d hd8 => ?_⟩, fun a o ha => ?_, e8 _ _ nL (e7 _ _ hL4), e8 _ _ nx (e7 _ _ hx4)⟩
      · rcases fr8 d hd8 with q | q
        · exact fr4 d q
        · exact e4.none (e7.none q)
      · exact e8 _ _ (fun hm => by rw [fr4 a hm] at ha; cases ha) (e7 _ _ (e4 _ _ ha))
    cases hdr : rs[i].en.dir with
    | true =>
      have hf : V.str (formS (rwP rs[i]).2.dir) = V.str "folder" := by show V.str (formS rs[i].en.dir) = _; rw [hdr]; rfl
      refine ⟨_, rfl, rfl, _, rfl, ?_⟩
      rw [decide_eq_true hf]
      refine iteT ⟨_, _, ccal_Folder T S (by decide), _, rfl, _, rfl, _, rfl, fun fo fdx hfo hfdx _ => mk_Folder (e := rs[i].en) hfo hfdx hdr (.inl ⟨rfl, hen.m0, hen.m1⟩) hen.o hen.g fun H6 d e6 hdn hena => ⟨rfl, ?_⟩⟩
      exact ⟨_, rfl, x, _, dx, _, _, rfl, e6 _ _ hx4, mcal_of T.m_Tree_put T.o_Tree.cl (fn_Tree_put T S), rfl, _, rfl, _, rfl, fin H6 fo [d] e6 ⟨[], [d], [], hena, ⟨rfl, rfl⟩, rfl⟩⟩
    | false =>
      have hf : ¬ V.str (formS (rwP rs[i]).2.dir) = V.str "folder" := by show ¬ V.str (formS rs[i].en.dir) = _; rw [hdr]; decide
      refine ⟨_, rfl, rfl, _, rfl, ?_⟩
      rw [decide_eq_false hf]
      refine iteF ⟨_, _, ccal_File T S (by decide), _, rfl, _, rfl, _, rfl, fun fo fdx hfo hfdx _ => mk_File (e := rs[i].en) hfo hfdx hdr (.inl ⟨rfl, hen.m0, hen.m1⟩) hen.o hen.g fun H6 e6 hena => ⟨rfl, ?_⟩⟩
      exact ⟨_, rfl, x, _, dx, _, _, rfl, e6 _ _ hx4, mcal_of T.m_Tree_put T.o_Tree.cl (fn_Tree_put T S), rfl, _, rfl, _, rfl, fin H6 fo [] e6 ⟨[], [], [], hena, ⟨rfl, rfl⟩, rfl⟩⟩
  · rintro σ H4 ⟨⟨v2, v3, v4, v5, v6, v7, ds1, rfl, hn4, nd4, fr4⟩, e4, hL4, hx4⟩
    have hlen : (xs.drop 1).length = rs.length := by rw [List.length_drop]; omega
    rw [hlen, List.take_length] at hn4
    have h1 := treeF_cnt rs .nil
    have h2 := hgt_cnt (treeF .nil rs)
    have h4 : cnt Fo.nil = 0 := rfl
    exact ⟨_, rfl, q H4 x p' ds1 e4 ⟨⟨dx, hx4⟩, hn4, ⟨⟨he0, treeF_wf hdir trivial hcan, fun h => by rw [hdir] at h; cases h⟩, hdir, nd4, by omega, by omega⟩⟩ fr4⟩
end
end Md
/-! Md: paths as texts: what begins what, what comes ahead. -/
namespace Md
open PySem PySem.Spec PyProof.Rows L2 TL
def enc (p : List Str) : List Nat := p.flatMap fun n => tl n ++ [47]
theorem enc_cons (n : Str) (p : List Str) : enc (n :: p) = tl n ++ 47 :: enc p := by
  unfold enc
  rw [List.flatMap_cons, List.append_assoc]
  rfl
theorem tl_pth : ∀ {p : List Str}, p ≠ [] → tl (pth p) ++ [47] = enc p
  | [], h => absurd rfl h
  | [a], _ => by
    rw [pth_one, enc_cons]
    rfl
  | a :: b :: r, _ => by
    have ih := tl_pth (p := b :: r) (by simp)
    rw [enc_cons, ← ih]
    show tl (a ++ "/" ++ pth (b :: r)) ++ [47] = _
    rw [tl_append, tl_append, slash_eq]
    simp [List.append_assoc]
theorem cut_pre : ∀ {a b x y : List Nat}, 47 ∉ a → 47 ∉ b → (a ++ 47 :: x) <+: (b ++ 47 :: y) → a = b ∧ x <+: y
  | [], [], x, y, _, _, h => ⟨rfl, (List.cons_prefix_cons.mp h).2⟩
  | [], d :: b, x, y, _, hb, h => by
    have := (List.cons_prefix_cons.mp h).1
    exact absurd (List.mem_cons.mpr (.inl this)) hb
  | c :: a, [], x, y, ha, _, h => by
    have := (List.cons_prefix_cons.mp h).1
    exact absurd (List.mem_cons.mpr (.inl this.symm)) ha
  | c :: a, d :: b, x, y, ha, hb, h => by
    obtain ⟨h1, h2⟩ := List.cons_prefix_cons.mp h
    obtain ⟨h3, h4⟩ := cut_pre (fun q => ha (List.mem_cons_of_mem _ q)) (fun q => hb (List.mem_cons_of_mem _ q)) h2
    exact ⟨by rw [h1, h3], h4⟩
theorem enc_pre : ∀ {p q : List Str}, Nms p → Nms q → (enc p <+: enc q ↔ p <+: q)
  | [], q, _, _ => ⟨fun _ => List.nil_prefix, fun _ => List.nil_prefix⟩
  | n :: p, [], hp, _ => by
    constructor
    · intro h
      have := List.prefix_nil.mp h
      rw [enc_cons] at this
      simp at this
    · intro h
      cases List.prefix_nil.mp h
  | n :: p, m :: q, hp, hq => by
    have ih := enc_pre (p := p) (q := q) (fun z hz => hp z (List.mem_cons_of_mem _ hz)) (fun z hz => hq z (List.mem_cons_of_mem _ hz))
    rw [enc_cons, enc_cons, List.cons_prefix_cons]
    constructor
    · intro h
      obtain ⟨h1, h2⟩ := cut_pre (hp n (List.mem_cons_self ..)).no (hq m (List.mem_cons_self ..)).no h
      exact ⟨ext_tl h1, ih.mp h2⟩
    · rintro ⟨rfl, h⟩
      obtain ⟨t, ht⟩ := ih.mpr h
      exact ⟨t, by rw [← ht]; simp⟩
/-- (q + "/").startswith(p + "/") -/
theorem starts_pre {p q : List Str} (hp : Nms p) (hq : Nms q) (hne : p ≠ []) (hne2 : q ≠ []) : (tl (pth p ++ "/") <+: tl (pth q ++ "/")) ↔ p <+: q := by
  rw [tl_append, tl_append, slash_eq, tl_pth hne, tl_pth hne2]
  exact enc_pre hp hq
theorem starts_iff {x y : Str} : Txt.startswith x y = true ↔ tl y <+: tl x := by
  unfold Txt.startswith
  rw [Bool.and_eq_true, decide_eq_true_eq, Nat.zero_add, PySem.StrLaws.subAt_eq, List.drop_zero, beq_iff_eq, slen, slen]
  show _ ∧ (tl x).take (tl y).length = tl y ↔ _
  constructor
  · rintro ⟨_, h⟩
    rw [← h]
    exact List.take_prefix ..
  · intro h
    exact ⟨h.length_le, (List.prefix_iff_eq_take.mp h).symm⟩
theorem tl_pre {p q : List Str} (h : p <+: q) : tl (pth p) <+: tl (pth q) := by
  by_cases hp : p = []
  · subst hp
    rw [pth_nil, show tl ("" : Str) = [] by decide +kernel]
    exact List.nil_prefix
  · have hq : q ≠ [] := fun z => hp (List.prefix_nil.mp (by rw [← z]; exact h))
    obtain ⟨t, rfl⟩ := h
    have e1 := tl_pth hp
    have e2 := tl_pth hq
    have e3 : enc (p ++ t) = enc p ++ enc t := by unfold enc; rw [List.flatMap_append]
    rw [e3, ← e1] at e2
    refine List.prefix_of_prefix_length_le (l₃ := tl (pth (p ++ t)) ++ [47]) ⟨[47] ++ enc t, by rw [e2]; simp [List.append_assoc]⟩ (List.prefix_append _ _) ?_
    have := congrArg List.length e2
    simp only [List.length_append, List.length_singleton] at this
    omega
theorem lex_pre : ∀ {a b : List Nat}, a <+: b → ¬ b < a
  | [], b, _ => fun h => by cases h
  | c :: a, [], h => by cases List.prefix_nil.mp h
  | c :: a, d :: b, h => by
    obtain ⟨rfl, h2⟩ := List.cons_prefix_cons.mp h
    intro z
    have ih := lex_pre h2
    rw [List.cons_lt_cons_iff] at z
    rcases z with z | ⟨_, z⟩
    · exact Nat.lt_irrefl _ z
    · exact ih z
theorem lex_pre_lt : ∀ {a b : List Nat}, a <+: b → a ≠ b → a < b
  | [], [], _, h => absurd rfl h
  | [], d :: b, _, _ => List.nil_lt_cons d b
  | c :: a, [], h, _ => by cases List.prefix_nil.mp h
  | c :: a, d :: b, h, hn => by
    obtain ⟨rfl, h2⟩ := List.cons_prefix_cons.mp h
    have ih := lex_pre_lt h2 (fun z => hn (by rw [z]))
    exact List.cons_lt_cons_iff.mpr (.inr ⟨rfl, ih⟩)
theorem strOk_nm {z : Str} (h : ∀ c ∈ z.cps.toList, c ∈ lets ∨ c = 47) : PyData.strOk z = true := by
  unfold PyData.strOk
  rw [← Array.all_toList, List.all_eq_true]
  intro c hc
  have hb : ∀ c ∈ lets, c < 0x110000 := by decide +kernel
  rcases h c hc with q | q
  · exact decide_eq_true (hb c q)
  · rw [q]
    decide
theorem pth_cps {p : List Str} (h : Nms p) : ∀ c ∈ (pth p).cps.toList, c ∈ lets ∨ c = 47 := by
  intro c hc
  by_cases hp : p = []
  · subst hp
    rw [pth_nil] at hc
    exact absurd hc (by have : (("" : Str).cps.toList) = [] := by decide +kernel
                        rw [this]; simp)
  · have hc' : c ∈ enc p := by
      rw [← tl_pth hp]
      exact List.mem_append_left _ hc
    unfold enc at hc'
    obtain ⟨n, hn, hm⟩ := List.mem_flatMap.mp hc'
    rcases List.mem_append.mp hm with q | q
    · exact .inl ((h n hn).2.2 c q)
    · exact .inr (List.mem_singleton.mp q)
end Md
/-! Md: what stands at a path, put by put. -/
namespace Md
open PySem
def ent (rt : En × Fo) (p : List Str) : Option En := (subF rt p).map Prod.fst
theorem ent_cons (rt : En × Fo) (m : Str) (p : List Str) : ent rt (m :: p) = (look rt.2 m).bind fun x => ent x p := by
  unfold ent
  show (match look rt.2 m with | none => none | some y => subF y p).map _ = _
  cases look rt.2 m <;> rfl
theorem ent_nil (rt : En × Fo) : ent rt [] = some rt.1 := rfl
theorem pre_cons {a m : Str} {q p : List Str} : (a :: q) <+: (m :: p) ↔ a = m ∧ q <+: p := List.cons_prefix_cons
theorem ent_put (n : Str) (e : En) : ∀ (q : List Str) (F : Fo) (e0 : En) (p : List Str), ent (e0, F) q ≠ none →
    ent (e0, putP F q n e) p = if p = q ++ [n] then some e else if (q ++ [n]) <+: p then none else ent (e0, F) p
  | [], F, e0, [], _ => by
    rw [ent_nil, ent_nil, if_neg (by simp), if_neg (by simp)]
  | [], F, e0, m :: p, _ => by
    rw [putP_nil, ent_cons, ent_cons, List.nil_append]
    show (look (putN F n e) m).bind _ = _
    rw [look_putN]
    by_cases h : n = m
    · subst h
      rw [if_pos rfl]
      cases p with
      | nil => rw [if_pos rfl]; rfl
      | cons b r =>
        rw [if_neg (by simp), if_pos (by simp)]
        show ent (e, .nil) (b :: r) = none
        rw [ent_cons]
        rfl
    · rw [if_neg h, if_neg (fun z => h (List.cons.inj z).1.symm), if_neg (fun z => h (pre_cons.mp z).1)]
  | a :: q, F, e0, [], _ => by
    rw [ent_nil, ent_nil, if_neg (by simp), if_neg (by simp)]
  | a :: q, F, e0, m :: p, hq => by
    rw [ent_cons] at hq
    rw [ent_cons, ent_cons]
    show (look (putP F (a :: q) n e) m).bind _ = _
    rw [look_putP]
    by_cases h : a = m
    · subst h
      rw [if_pos rfl]
      have hq' : ((look F a).bind fun x => ent x q) ≠ none := hq
      show ((look F a).map _).bind _ = if a :: p = a :: (q ++ [n]) then some e else if (a :: (q ++ [n])) <+: (a :: p) then none else (look F a).bind _
      cases hl : look F a with
      | none => rw [hl] at hq'; exact absurd rfl hq'
      | some x =>
        rw [hl] at hq'
        have ih := ent_put n e q x.2 x.1 p hq'
        show ent (x.1, putP x.2 q n e) p = _
        rw [ih]
        by_cases h1 : p = q ++ [n]
        · rw [if_pos h1, if_pos (by rw [h1])]
        · rw [if_neg h1, if_neg (fun z => h1 (List.cons.inj z).2)]
          by_cases h2 : (q ++ [n]) <+: p
          · rw [if_pos h2, if_pos (pre_cons.mpr ⟨rfl, h2⟩)]
          · rw [if_neg h2, if_neg (fun z => h2 (pre_cons.mp z).2)]
            rfl
    · rw [if_neg h]
      have h1 : ¬ m :: p = a :: q ++ [n] := fun z => h (List.cons.inj z).1.symm
      have h2 : ¬ (a :: q ++ [n]) <+: (m :: p) := fun z => h (pre_cons.mp z).1
      rw [if_neg h1, if_neg h2]
theorem ent_fl (F : Fo) (e0 : En) : ∀ (q : List Str), q ≠ [] → fl F q = ent (e0, F) q
  | [], h => absurd rfl h
  | m :: q, _ => by
    rw [ent_cons]
    unfold fl
    show (match look F m with | none => none | some (e, k) => if q = [] then some e else fl k q) = (look F m).bind _
    cases look F m with
    | none => rfl
    | some x =>
      show (if q = [] then some x.1 else fl x.2 q) = ent x q
      by_cases h : q = []
      · rw [if_pos h, h]
        rfl
      · rw [if_neg h]
        exact ent_fl x.2 x.1 q h
theorem ent_eqv {F G : Fo} (e0 : En) (h : Eqv F G) (q : List Str) : ent (e0, F) q = ent (e0, G) q := by
  by_cases hq : q = []
  · rw [hq]
    rfl
  · rw [← ent_fl F e0 q hq, ← ent_fl G e0 q hq]
    exact h q
def rpath (r : Rw) : List Str := r.ab ++ [r.nm]
/-- the forest is these rows -/
def TreeIs (e0 : En) (F : Fo) (rs : List Rw) : Prop := ∀ p e, ent (e0, F) p = some e ↔ (p = [] ∧ e = e0) ∨ ∃ r ∈ rs, rpath r = p ∧ r.en = e
theorem treeIs_nil (e0 : En) : TreeIs e0 .nil [] := fun p e => by
  cases p with
  | nil =>
    rw [ent_nil]
    constructor
    · intro h
      exact .inl ⟨rfl, (Option.some.inj h).symm⟩
    · rintro (⟨_, h⟩ | ⟨r, hr, _⟩)
      · rw [h]
      · cases hr
  | cons m p =>
    rw [ent_cons]
    constructor
    · intro h
      cases h
    · rintro (⟨h, _⟩ | ⟨r, hr, _⟩)
      · cases h
      · cases hr
theorem treeIs_put {e0 : En} {F : Fo} {rs : List Rw} {r : Rw} (h : TreeIs e0 F rs) (hp : ent (e0, F) r.ab ≠ none) (hn : ∀ d ∈ rs, ¬ rpath r <+: rpath d) : TreeIs e0 (putR F r) (rs ++ [r]) := fun p e => by
  unfold putR
  rw [ent_put r.nm r.en r.ab F e0 p hp]
  show (if p = rpath r then some r.en else if rpath r <+: p then none else ent (e0, F) p) = some e ↔ _
  by_cases h1 : p = rpath r
  · rw [if_pos h1]
    constructor
    · intro q
      exact .inr ⟨r, List.mem_append_right _ (List.mem_singleton.mpr rfl), h1.symm, Option.some.inj q⟩
    · rintro (⟨q, _⟩ | ⟨d, hd, q1, q2⟩)
      · rw [q] at h1
        exact absurd h1.symm (by simp [rpath])
      · rcases List.mem_append.mp hd with hd | hd
        · exact absurd (by rw [q1, h1]; exact List.prefix_refl _) (hn d hd)
        · rw [← List.mem_singleton.mp hd, q2]
  · rw [if_neg h1]
    by_cases h2 : rpath r <+: p
    · rw [if_pos h2]
      constructor
      · intro q
        cases q
      · rintro (⟨q, _⟩ | ⟨d, hd, q1, q2⟩)
        · rw [q] at h2
          exact absurd (List.prefix_nil.mp h2) (by simp [rpath])
        · rcases List.mem_append.mp hd with hd | hd
          · exact absurd (by rw [q1]; exact h2) (hn d hd)
          · rw [List.mem_singleton.mp hd] at q1
            exact absurd q1.symm h1
    · rw [if_neg h2, h p e]
      constructor
      · rintro (q | ⟨d, hd, q⟩)
        · exact .inl q
        · exact .inr ⟨d, List.mem_append_left _ hd, q⟩
      · rintro (q | ⟨d, hd, q1, q2⟩)
        · exact .inl q
        · rcases List.mem_append.mp hd with hd | hd
          · exact .inr ⟨d, hd, q1, q2⟩
          · rw [List.mem_singleton.mp hd] at q1
            exact absurd q1.symm h1
/-- rows that can be put one behind another, behind those that are done -/
def GoodS (done : List Rw) : List Rw → Prop
  | [] => True
  | r :: rs => (Nms r.ab ∧ Nm r.nm ∧ r.ab.length ≤ 900 ∧ EnOk r.en ∧ (r.ab = [] ∨ ∃ d ∈ done, rpath d = r.ab ∧ d.en.dir = true) ∧ ∀ d ∈ done, ¬ rpath r <+: rpath d) ∧ GoodS (done ++ [r]) rs
theorem good_build {e0 : En} (h0 : e0.dir = true) : ∀ {rs done : List Rw} {F : Fo}, TreeIs e0 F done → GoodS done rs → CanPut e0 F rs ∧ TreeIs e0 (treeF F rs) (done ++ rs)
  | [], done, F, h, _ => ⟨trivial, by rw [List.append_nil]; exact h⟩
  | r :: rs, done, F, h, ⟨⟨a, b, c, d, hpar, hn⟩, g⟩ => by
    have hx : ∃ x, subF (e0, F) r.ab = some x ∧ x.1.dir = true := by
      rcases hpar with q | ⟨d', hd', q1, q2⟩
      · exact ⟨(e0, F), by rw [q]; rfl, h0⟩
      · have := (h r.ab d'.en).mpr (.inr ⟨d', hd', q1, rfl⟩)
        unfold ent at this
        cases hs : subF (e0, F) r.ab with
        | none => rw [hs] at this; cases this
        | some x =>
          rw [hs] at this
          exact ⟨x, rfl, by rw [show x.1 = d'.en from Option.some.inj this]; exact q2⟩
    have hne : ent (e0, F) r.ab ≠ none := by
      obtain ⟨x, hx1, _⟩ := hx
      unfold ent
      rw [hx1]
      intro z
      cases z
    obtain ⟨i1, i2⟩ := good_build h0 (treeIs_put h hne hn) g
    refine ⟨⟨⟨a, b, c, d, hx⟩, i1⟩, ?_⟩
    rw [show done ++ r :: rs = done ++ [r] ++ rs by simp]
    exact i2
end Md
/-! Md: rows of a tree: grown, sorted, one way alone. -/
namespace Md
open PySem
abbrev Rws := List (List Str × En)
structure RowsPre (ss : Rws) : Prop where
  nd : (ss.map Prod.fst).Nodup
  ok : ∀ r ∈ ss, Nms r.1 ∧ EnOk r.2 ∧ r.1.length ≤ 14
  top : ∃ e, ([], e) ∈ ss ∧ e.dir = true
  cl : ∀ r ∈ ss, ∀ ab nm, r.1 = ab ++ [nm] → ∃ e, (ab, e) ∈ ss ∧ e.dir = true
  len : ss.length ≤ 13
structure RowsOk (ss : Rws) : Prop where
  pre : RowsPre ss
  ord : ss.Pairwise fun a b => ¬ b.1 <+: a.1
theorem RowsPre.perm {ss ts : Rws} (h : RowsPre ss) (p : ts.Perm ss) : RowsPre ts :=
  ⟨(p.map Prod.fst).nodup_iff.mpr h.nd, fun r hr => h.ok r (p.mem_iff.mp hr), h.top.imp fun e q => ⟨p.mem_iff.mpr q.1, q.2⟩, fun r hr ab nm e => (h.cl r (p.mem_iff.mp hr) ab nm e).imp fun e q => ⟨p.mem_iff.mpr q.1, q.2⟩, by rw [p.length_eq]; exact h.len⟩
theorem RowsPre.one {e : En} (he : EnOk e) (hd : e.dir = true) : RowsPre [([], e)] :=
  ⟨by simp, fun r hr => by rw [List.mem_singleton.mp hr]; exact ⟨(fun z hz => by cases hz), he, Nat.zero_le _⟩, ⟨e, List.mem_singleton.mpr rfl, hd⟩, fun r hr ab nm q => by
    rw [List.mem_singleton.mp hr] at q
    exact absurd q.symm (by simp), by show 1 ≤ 13; decide⟩
theorem RowsPre.uniq {ss : Rws} (h : RowsPre ss) {p : List Str} {e e' : En} (a : (p, e) ∈ ss) (b : (p, e') ∈ ss) : e = e' := by
  have nd := h.nd
  clear h
  induction ss with
  | nil => cases a
  | cons x t ih =>
    rw [List.map_cons, List.nodup_cons] at nd
    rcases List.mem_cons.mp a with a | a
    · rcases List.mem_cons.mp b with b | b
      · rw [← a] at b
        exact (congrArg Prod.snd b).symm
      · exact absurd (List.mem_map.mpr ⟨_, b, by rw [← a]⟩) nd.1
    · rcases List.mem_cons.mp b with b | b
      · exact absurd (List.mem_map.mpr ⟨_, a, by rw [← b]⟩) nd.1
      · exact ih a b nd.2
/-- the length of a path is below the number of rows -/
theorem RowsPre.add {ss : Rws} (h : RowsPre ss) {ab : List Str} {nm : Str} {e0 e : En} (hp : (ab, e0) ∈ ss) (hd : e0.dir = true) (hn : Nm nm) (he : EnOk e) (hnew : ∀ r ∈ ss, r.1 ≠ ab ++ [nm]) (hl : ss.length ≤ 12) (hb : ab.length ≤ 13) : RowsPre (ss ++ [(ab ++ [nm], e)]) := by
  refine ⟨?_, fun r hr => ?_, h.top.imp fun e q => ⟨List.mem_append_left _ q.1, q.2⟩, fun r hr a m q => ?_, by rw [List.length_append]; have : [(ab ++ [nm], e)].length = 1 := rfl; omega⟩
  · rw [List.map_append, List.nodup_append]
    refine ⟨h.nd, by simp, fun x hx y hy q => ?_⟩
    obtain ⟨r, hr, rfl⟩ := List.mem_map.mp hx
    rw [List.mem_singleton.mp hy] at q
    exact hnew r hr q
  · rcases List.mem_append.mp hr with hr | hr
    · exact h.ok r hr
    · rw [List.mem_singleton.mp hr]
      exact ⟨(h.ok _ hp).1.snoc hn, he, by rw [List.length_append]; have : [nm].length = 1 := rfl; omega⟩
  · rcases List.mem_append.mp hr with hr | hr
    · exact (h.cl r hr a m q).imp fun e z => ⟨List.mem_append_left _ z.1, z.2⟩
    · rw [List.mem_singleton.mp hr] at q
      have e1 := List.append_inj' q rfl
      exact ⟨e0, by rw [← e1.1]; exact List.mem_append_left _ hp, hd⟩
/-- in order by their texts -/
theorem RowsPre.sorted {ss : Rws} (h : RowsPre ss) (ho : ss.Pairwise fun a b => ¬ TL.tl (pth b.1) < TL.tl (pth a.1)) : RowsOk ss := by
  refine ⟨h, ?_⟩
  have nd : ss.Pairwise fun a b => a.1 ≠ b.1 := List.pairwise_map.mp (List.nodup_iff_pairwise_ne.mp h.nd)
  have both := ho.and nd
  refine both.imp_of_mem ?_
  rintro a b ha hb ⟨h1, h2⟩ hpre
  refine h1 (lex_pre_lt (tl_pre hpre) fun z => h2 ?_)
  exact (pth_inj (h.ok b hb).1 (h.ok a ha).1 (TL.ext_tl z)).symm
def toRw (r : List Str × En) : Rw := ⟨r.1.dropLast, r.1.getLastD "", r.2⟩
theorem toRw_path {r : List Str × En} (h : r.1 ≠ []) : rwP (toRw r) = r := by
  obtain ⟨p, e⟩ := r
  show (p.dropLast ++ [p.getLastD ""], e) = (p, e)
  have : p.dropLast ++ [p.getLastD ""] = p := by
    have h2 : p.getLastD "" = p.getLast h := by
      cases p with
      | nil => exact absurd rfl h
      | cons a t => simp [List.getLastD_eq_getLast?, List.getLast?_eq_getLast]
    rw [h2]
    exact List.dropLast_concat_getLast h
  rw [this]
theorem rpath_toRw {r : List Str × En} (h : r.1 ≠ []) : rpath (toRw r) = r.1 := congrArg Prod.fst (toRw_path h)
theorem RowsOk.head {ss : Rws} (h : RowsOk ss) : ∃ e0 t, ss = ([], e0) :: t ∧ e0.dir = true ∧ EnOk e0 ∧ ∀ r ∈ t, r.1 ≠ [] := by
  obtain ⟨e, he, hd⟩ := h.pre.top
  cases ss with
  | nil => cases he
  | cons a t =>
    have ho := List.pairwise_cons.mp h.ord
    have nd := h.pre.nd
    rw [List.map_cons, List.nodup_cons] at nd
    rcases List.mem_cons.mp he with q | q
    · refine ⟨e, t, by rw [q], hd, ?_, fun r hr z => nd.1 ?_⟩
      · have := (h.pre.ok ([], e) (by rw [q]; exact List.mem_cons_self ..)).2.1
        exact this
      · rw [← q]
        exact List.mem_map.mpr ⟨r, hr, z⟩
    · exact absurd List.nil_prefix (ho.1 _ q)
theorem RowsOk.good {e0 : En} {t : Rws} (h : RowsOk (([], e0) :: t)) (hne : ∀ r ∈ t, r.1 ≠ []) : ∀ (todo done : Rws), t = done ++ todo → GoodS (done.map toRw) (todo.map toRw)
  | [], done, _ => trivial
  | r :: rs, done, e => by
    have hr : r ∈ t := by rw [e]; simp
    have hr2 : r ∈ (([], e0) :: t : Rws) := List.mem_cons_of_mem _ hr
    have hrne := hne r hr
    obtain ⟨ok1, ok2, ok3⟩ := h.pre.ok r hr2
    have hpath := rpath_toRw hrne
    have hdec : r.1 = (toRw r).ab ++ [(toRw r).nm] := hpath.symm
    have hpw := (List.pairwise_cons.mp h.ord).2
    rw [e, List.pairwise_append] at hpw
    obtain ⟨_, w2, w3⟩ := hpw
    have w4 := (List.pairwise_cons.mp w2).1
    refine ⟨⟨fun z hz => ok1 z (by rw [hdec]; exact List.mem_append_left _ hz), ok1 _ (by rw [hdec]; simp), ?_, ok2, ?_, ?_⟩, ?_⟩
    · have := congrArg List.length hdec
      rw [List.length_append] at this
      omega
    · by_cases hab : (toRw r).ab = []
      · exact .inl hab
      · right
        obtain ⟨e', he', hd'⟩ := h.pre.cl r hr2 _ _ hdec
        have hin : ((toRw r).ab, e') ∈ t := by
          rcases List.mem_cons.mp he' with q | q
          · exact absurd (congrArg Prod.fst q) hab
          · exact q
        rw [e] at hin
        rcases List.mem_append.mp hin with q | q
        · exact ⟨toRw ((toRw r).ab, e'), List.mem_map.mpr ⟨_, q, rfl⟩, rpath_toRw hab, hd'⟩
        · rcases List.mem_cons.mp q with q | q
          · have := congrArg (fun x => x.1.length) q
            have h2 := congrArg List.length hdec
            rw [List.length_append] at h2
            have h3 : [(toRw r).nm].length = 1 := rfl
            have h4 : (toRw r).ab.length = r.1.length := this
            omega
          · exact absurd ⟨[(toRw r).nm], hdec.symm⟩ (w4 _ q)
    · intro d hd
      obtain ⟨d', hd', rfl⟩ := List.mem_map.mp hd
      rw [hpath, rpath_toRw (hne d' (by rw [e]; exact List.mem_append_left _ hd'))]
      exact w3 d' hd' r (List.mem_cons_self ..)
    · have := RowsOk.good h hne rs (done ++ [r]) (by rw [e]; simp)
      rw [List.map_append] at this
      exact this
/-- the tree that rows make -/
theorem RowsOk.tree {ss : Rws} (h : RowsOk ss) : ∃ e0 rs, ss = ([], e0) :: rs.map rwP ∧ e0.dir = true ∧ EnOk e0 ∧ rs.length ≤ 12 ∧ CanPut e0 .nil rs ∧ ∀ p e, ent (e0, treeF .nil rs) p = some e ↔ (p, e) ∈ ss := by
  obtain ⟨e0, t, rfl, hd, he, hne⟩ := h.head
  have hg := RowsOk.good h hne t [] rfl
  obtain ⟨c1, c2⟩ := good_build hd (treeIs_nil e0) hg
  have hm : (t.map toRw).map rwP = t := by
    rw [List.map_map]
    have : ∀ r ∈ t, (rwP ∘ toRw) r = id r := fun r hr => toRw_path (hne r hr)
    rw [List.map_congr_left this, List.map_id]
  refine ⟨e0, t.map toRw, by rw [hm], hd, he, ?_, c1, fun p e => ?_⟩
  · have := h.pre.len
    rw [List.length_cons] at this
    rw [List.length_map]
    omega
  · rw [c2 p e, List.nil_append]
    constructor
    · rintro (⟨rfl, rfl⟩ | ⟨r, hr, q1, q2⟩)
      · exact List.mem_cons_self ..
      · obtain ⟨r', hr', rfl⟩ := List.mem_map.mp hr
        rw [rpath_toRw (hne r' hr')] at q1
        have q2' : r'.2 = e := q2
        rw [← q1, ← q2']
        exact List.mem_cons_of_mem _ hr'
    · intro hm
      rcases List.mem_cons.mp hm with q | q
      · cases q
        exact .inl ⟨rfl, rfl⟩
      · exact .inr ⟨toRw (p, e), List.mem_map.mpr ⟨_, q, rfl⟩, rpath_toRw (hne _ q), rfl⟩
/-! the way to one of them alone -/
def wayF (ss : Rws) (q : List Str) : Rws := ss.filter fun r => decide (r.1 <+: q)
theorem mem_way {ss : Rws} {q : List Str} {r : List Str × En} : r ∈ wayF ss q ↔ r ∈ ss ∧ r.1 <+: q := by
  unfold wayF
  rw [List.mem_filter, decide_eq_true_eq]
theorem RowsOk.way {ss : Rws} (h : RowsOk ss) (q : List Str) : RowsOk (wayF ss q) := by
  have sub : (wayF ss q).Sublist ss := List.filter_sublist ..
  refine ⟨⟨h.pre.nd.sublist (sub.map _), fun r hr => h.pre.ok r (mem_way.mp hr).1, ?_, fun r hr ab nm e => ?_, Nat.le_trans sub.length_le h.pre.len⟩, h.ord.sublist sub⟩
  · obtain ⟨e, he, hd⟩ := h.pre.top
    exact ⟨e, mem_way.mpr ⟨he, List.nil_prefix⟩, hd⟩
  · obtain ⟨hr1, hr2⟩ := mem_way.mp hr
    obtain ⟨e', he', hd'⟩ := h.pre.cl r hr1 ab nm e
    exact ⟨e', mem_way.mpr ⟨he', (List.prefix_append ab [nm]).trans (by rw [← e]; exact hr2)⟩, hd'⟩
theorem way_last {ss : Rws} (h : RowsOk ss) {q : List Str} {e : En} (hq : (q, e) ∈ ss) : ∃ hs, wayF ss q = hs ++ [(q, e)] := by
  have hw := h.way q
  have hm : (q, e) ∈ wayF ss q := mem_way.mpr ⟨hq, List.prefix_refl _⟩
  obtain ⟨hs, ts, hst⟩ := List.append_of_mem hm
  refine ⟨hs, ?_⟩
  cases ts with
  | nil => exact hst
  | cons b ts =>
    have ho := hw.ord
    rw [hst, List.pairwise_append] at ho
    have h1 := (List.pairwise_cons.mp ho.2.1).1 b (List.mem_cons_self ..)
    have h2 : b ∈ wayF ss q := by rw [hst]; simp
    exact absurd (mem_way.mp h2).2 h1
theorem RowsOk.swap {hs : Rws} {q : List Str} {e e' : En} (h : RowsOk (hs ++ [(q, e)])) (hne : q ≠ []) (hpre : ∀ r ∈ hs, r.1 <+: q) (he : EnOk e') : RowsOk (hs ++ [(q, e')]) := by
  have hq := h.pre.ok (q, e) (by simp)
  refine ⟨⟨?_, fun r hr => ?_, ?_, fun r hr ab nm x => ?_, ?_⟩, ?_⟩
  · have := h.pre.nd
    rw [List.map_append] at this ⊢
    exact this
  · rcases List.mem_append.mp hr with hr | hr
    · exact h.pre.ok r (List.mem_append_left _ hr)
    · rw [List.mem_singleton.mp hr]
      exact ⟨hq.1, he, hq.2.2⟩
  · obtain ⟨e0, h0, hd⟩ := h.pre.top
    rcases List.mem_append.mp h0 with q1 | q1
    · exact ⟨e0, List.mem_append_left _ q1, hd⟩
    · exact absurd (congrArg Prod.fst (List.mem_singleton.mp q1)).symm hne
  · have key : ∀ r0 : List Str × En, r0 ∈ hs ++ [(q, e)] → r0.1 = ab ++ [nm] → (r0.1.length ≤ q.length) → ∃ e, (ab, e) ∈ hs ++ [(q, e')] ∧ e.dir = true := by
      intro r0 h0 hx hle
      obtain ⟨e1, h1, d1⟩ := h.pre.cl r0 h0 ab nm hx
      rcases List.mem_append.mp h1 with q1 | q1
      · exact ⟨e1, List.mem_append_left _ q1, d1⟩
      · have e2 : ab = q := congrArg Prod.fst (List.mem_singleton.mp q1)
        rw [hx, e2, List.length_append] at hle
        have : [nm].length = 1 := rfl
        omega
    rcases List.mem_append.mp hr with hr | hr
    · exact key r (List.mem_append_left _ hr) x (hpre r hr).length_le
    · rw [List.mem_singleton.mp hr] at x
      exact key (q, e) (by simp) x (Nat.le_refl _)
  · have := h.pre.len
    rw [List.length_append] at this ⊢
    exact this
  · have := h.ord
    rw [List.pairwise_append] at this ⊢
    refine ⟨this.1, List.pairwise_singleton .., fun a ha b hb => ?_⟩
    rw [List.mem_singleton.mp hb]
    exact this.2.2 a ha (q, e) (List.mem_singleton.mpr rfl)
end Md
/-! Md: a row by its path. -/
namespace Md
open PySem PySem.Spec PyProof.Rows L2
def RowR (H : Hp) (p : Addr) (r : List Str × En) : Prop := H p = some (.lst (DRowL r.1 r.2))
def spAt : Sp := fun vs H Q _ => ∃ (l : Addr) (xs : List V) (rs : Rws) (q : List Str), vs = [.ref l, .str (pth q)] ∧ H l = some (.lst xs) ∧ Al (RowR H) xs rs ∧ (∀ r ∈ rs, Nms r.1 ∧ EnOk r.2) ∧ Nms q ∧ rs.length ≤ 1000 ∧ ∀ H' v, Ex H H' → (v = .non ↔ ∀ r ∈ rs, r.1 ≠ q) → Q v H'
def gvg {β : Type} (t : Nat → Bool) (f : Nat → β) : Nat → List β
  | 0 => []
  | n + 1 => gvg t f n ++ (if t n = true then [f n] else [])
theorem dpAll_app {K : PySem.W.Frag} {H : Hp} : ∀ {vs ws : List V} {ds es : List PyData}, DpAll K H vs ds → DpAll K H ws es → DpAll K H (vs ++ ws) (ds ++ es)
  | _, _, _, _, .nil, h => h
  | _, _, _, _, .cons a b, h => .cons a (dpAll_app b h)
theorem dp_gvn {K : PySem.W.Frag} {H : Hp} {β : Type} {g : β → PyData} (t : Nat → Bool) (f : Nat → V) (d : Nat → β) : ∀ n, (∀ i, i < n → Dp K H (f i) (g (d i))) → DpAll K H (gvn t f n) ((gvg t d n).map g)
  | 0, _ => .nil
  | n + 1, h => by
    show DpAll K H (gvn t f n ++ _) ((gvg t d n ++ _).map g)
    rw [List.map_append]
    refine dpAll_app (dp_gvn t f d n fun i hi => h i (by omega)) ?_
    by_cases ht : t n = true
    · rw [if_pos ht, if_pos ht]
      exact .cons (h n (Nat.lt_succ_self n)) .nil
    · rw [if_neg ht, if_neg ht]
      exact .nil
theorem gvg_mem {β : Type} {t : Nat → Bool} {f : Nat → β} {y : β} : ∀ {n}, y ∈ gvg t f n → ∃ i, i < n ∧ y = f i
  | 0, h => by cases h
  | n + 1, h => by
    rcases List.mem_append.mp h with q | q
    · obtain ⟨i, a, b⟩ := gvg_mem q
      exact ⟨i, by omega, b⟩
    · by_cases ht : t n = true
      · rw [if_pos ht] at q
        exact ⟨n, Nat.lt_succ_self n, List.mem_singleton.mp q⟩
      · rw [if_neg ht] at q
        cases q
theorem gvg_len {β : Type} (t : Nat → Bool) (f : Nat → β) (g : Nat → V) : ∀ n, (gvg t f n).length = (gvn t g n).length
  | 0 => rfl
  | n + 1 => by
    show (gvg t f n ++ _).length = (gvn t g n ++ _).length
    rw [List.length_append, List.length_append, gvg_len t f g n]
    by_cases ht : t n = true
    · rw [if_pos ht, if_pos ht]; rfl
    · rw [if_neg ht, if_neg ht]; rfl
theorem gvn_head (t : Nat → Bool) (f : Nat → V) : ∀ n, ((∀ i, i < n → t i = false) ∧ gvn t f n = []) ∨ ((∃ i, i < n ∧ t i = true) ∧ ∃ j r, j < n ∧ gvn t f n = f j :: r)
  | 0 => .inl ⟨fun i h => absurd h (Nat.not_lt_zero i), rfl⟩
  | n + 1 => by
    rcases gvn_head t f n with ⟨h1, h2⟩ | ⟨⟨i, hi, ht⟩, j, r, hj, h2⟩
    · cases ht : t n with
      | false =>
        refine .inl ⟨fun i hi => ?_, ?_⟩
        · by_cases q : i = n
          · rw [q]; exact ht
          · exact h1 i (by omega)
        · show gvn t f n ++ (if t n = true then [f n] else []) = []
          rw [h2, ht]
          rfl
      | true =>
        refine .inr ⟨⟨n, Nat.lt_succ_self n, ht⟩, n, [], Nat.lt_succ_self n, ?_⟩
        show gvn t f n ++ (if t n = true then [f n] else []) = _
        rw [h2, ht]
        rfl
    · refine .inr ⟨⟨i, by omega, ht⟩, j, r ++ (if t n = true then [f n] else []), by omega, ?_⟩
      show gvn t f n ++ (if t n = true then [f n] else []) = _
      rw [h2]
      rfl
def rowP (r : List Str × En) : Str × Str × Int × Str × Str := (pth r.1, formS r.2.dir, r.2.mode, r.2.owner, r.2.group)
theorem rowP_ok {r : List Str × En} (h : Nms r.1 ∧ EnOk r.2) : OkRow (rowP r) := by
  refine ⟨strOk_nm (pth_cps h.1), ?_, strOk_nm fun c hc => .inl (h.2.o.2.2 c hc), strOk_nm fun c hc => .inl (h.2.g.2.2 c hc)⟩
  show PyData.strOk (formS r.2.dir) = true
  cases r.2.dir <;> decide +kernel
theorem dp_row {K : PySem.W.Frag} {H : Hp} {p : Addr} {r : List Str × En} (h : RowR H p r) : Dp K H (.ref p) (rowD (rowP r)) := .lst (SqL.of h) (.cons (.str _) (.cons (.str _) (.cons (.int _) (.cons (.str _) (.cons (.str _) .nil)))))
section
variable {P : Program} {w : World} {K : PySem.W.Frag} {mg : Str → Option Value} {base : Heap} {A : Ad}
theorem fn_law_at (T : Tx K mg w A) : ∀ f fd, Fun K "_law_at" "_law_at" S__law_at f fd → Fn P w K mg base f 1 spAt := by
  intro f fd F
  refine fnr_of (k := 0) F sc__law_at (fun _ _ _ _ _ _ us hl => match us, hl with | [_, _], _ => rfl) (fun vs H Q E h => by obtain ⟨x, m, _, _, rfl, _⟩ := h; rfl) fun f cdv Ar outer s H vs Q E c h => ?_
  have hr := c.room
  have nd := sc__law_at.nd
  obtain ⟨l, xs, rs, q, rfl, hl, hal, hok, hq, h1000, Qq⟩ := h
  refine ⟨_, (pss_cons (ps_setLc (i := 2) (own := [("_law_one", 3)]) (g := gName 3) rfl nd rfl rfl (sw_true rfl rfl rfl (by decide +kernel)) (pi_listC c (pv 0)) (blkOk_by (N := N__law_at) (sc := defScope S__law_at) (by decide +kernel)) (fun _ _ _ _ _ => (pg_name (i := 3) nd rfl (Or.inl rfl))) (fun _ _ _ _ _ => (pts_one (pt_cmpR op_eq (pe_ix (ix_listC c.b) (pv 3) pe_int (fun _ _ => rfl)) (pv 1) (nomark _)))) (fun _ _ _ _ _ => (pv 3)))
 (pss_one (ps_ret (pe_ifExp (pt_cmpR (op_neD hr.units) (pv 2) (pe_lst pa_nil) (nomark _)) (pe_ix (ix_listC c) (pv 2) pe_int (fun _ _ => rfl)) pe_non)))), ?_⟩
  have r0 : List Str × En := ([], ⟨false, 0, "", ""⟩)
  have hlen := hal.1
  have tdef : ∃ t : Nat → Bool, t = fun i => decide (V.str (pth (rs.getD i r0).1) = V.str (pth q)) := ⟨_, rfl⟩
  obtain ⟨t, ht0⟩ := tdef
  have hgd : ∀ (i : Nat) (h : i < rs.length), rs.getD i r0 = rs[i] := fun i h => by simp [List.getD, List.getElem?_eq_getElem h]
  refine ⟨_, rfl, l, rfl, ⟨_, SqL.of hl⟩, fun D hD => lc_pure (walk_list (xs := xs)) t (fun i => xs.getD i .non) hD (by omega) (fun H3 e3 => SqL.of (e3 _ _ hl)) ?_ fun H3 e3 hl3 => ?_⟩
  · rintro i z H4 H3 hi e3 ⟨rfl, hz⟩ Kn Ky hn hy
    have hi2 : i < rs.length := by omega
    obtain ⟨p, hp1, hp2⟩ := hal.2 i rs[i] (List.getElem?_eq_getElem hi2)
    rw [hp1] at hz
    cases hz
    have hx : xs.getD i .non = .ref p := by simp [List.getD, hp1]
    refine ⟨rfl, _, rfl, p, _, 0, _, rfl, rfl, SqL.of (e3 _ _ hp2), rfl, _, rfl, rfl, _, rfl, ?_⟩
    have hti : t i = decide (V.str (pth rs[i].1) = V.str (pth q)) := by rw [ht0]; show decide (V.str (pth (rs.getD i r0).1) = _) = _; rw [hgd i hi2]
    rw [← hti]
    cases hb : t i with
    | true =>
      have := hy hb _ (exr _)
      rw [hx] at this
      exact ⟨_, rfl, this⟩
    | false => exact hn hb _ (exr _)
  · have hd3 : ∀ i, i < xs.length → Dp K H3 (xs.getD i .non) (rowD (rowP (rs.getD i r0))) := fun i hi => by
      have hi2 : i < rs.length := by omega
      obtain ⟨p, hp1, hp2⟩ := hal.2 i rs[i] (List.getElem?_eq_getElem hi2)
      have hx : xs.getD i .non = .ref p := by simp [List.getD, hp1]
      rw [hx, hgd i hi2]
      exact dp_row (e3 _ _ hp2)
    have hok2 : ∀ y ∈ gvg t (fun i => rowP (rs.getD i r0)) xs.length, OkRow y := fun y hy => by
      obtain ⟨i, hi, rfl⟩ := gvg_mem hy
      have hi2 : i < rs.length := by omega
      rw [hgd i hi2]
      exact rowP_ok (hok _ (List.getElem_mem hi2))
    refine ⟨_, rfl, by decide, fun L hL => ⟨.list ((gvg t (fun i => rowP (rs.getD i r0)) xs.length).map rowD), .list [], ?_, .lst (SqL.of upd_same) .nil, shaped_rows _ hok2, shaped_nil, _, rfl, ?_⟩⟩
    · exact .lst (SqL.of (exn hL _ _ hl3)) (dp_gvn t _ _ _ fun i hi => by
        have := hd3 i hi
        have hi2 : i < rs.length := by omega
        obtain ⟨p, hp1, hp2⟩ := hal.2 i rs[i] (List.getElem?_eq_getElem hi2)
        have hx : xs.getD i .non = .ref p := by simp [List.getD, hp1]
        rw [hx, hgd i hi2]
        exact dp_row (exn hL _ _ (e3 _ _ hp2)))
    · rw [eqvL_nil]
      have hiff : (∀ i, i < xs.length → t i = false) ↔ ∀ r ∈ rs, r.1 ≠ q := by
        constructor
        · intro h r hr z
          obtain ⟨i, hi⟩ := List.mem_iff_getElem?.mp hr
          have hi2 : i < rs.length := (List.getElem?_eq_some_iff.mp hi).1
          have := h i (by omega)
          rw [ht0] at this
          have h3 : rs.getD i r0 = r := by simp [List.getD, hi]
          have h4 : decide (V.str (pth (rs.getD i r0).1) = V.str (pth q)) = false := this
          rw [h3, z] at h4
          simp at h4
        · intro h i hi
          have hi2 : i < rs.length := by omega
          rw [ht0]
          show decide (V.str (pth (rs.getD i r0).1) = V.str (pth q)) = false
          rw [hgd i hi2]
          exact decide_eq_false fun z => h _ (List.getElem_mem hi2) (pth_inj (hok _ (List.getElem_mem hi2)).1 hq (V.str.inj z))
      rcases gvn_head t (fun i => xs.getD i .non) xs.length with ⟨h1, h2⟩ | ⟨⟨i, hi, hti⟩, j, r, hj, h2⟩
      · have hemp : ((gvg t (fun i => rowP (rs.getD i r0)) xs.length).map rowD).isEmpty = true := by
          rw [List.isEmpty_map, List.isEmpty_iff_length_eq_zero, gvg_len t _ (fun i => xs.getD i .non), h2]
          rfl
        rw [hemp]
        exact iteF (Qq _ _ (ext e3 (exn hL)) ⟨fun _ => hiff.mp h1, fun _ => rfl⟩)
      · have hemp : ((gvg t (fun i => rowP (rs.getD i r0)) xs.length).map rowD).isEmpty = false := by
          rw [List.isEmpty_map]
          cases he : (gvg t (fun i => rowP (rs.getD i r0)) xs.length).isEmpty with
          | false => rfl
          | true =>
            rw [List.isEmpty_iff_length_eq_zero, gvg_len t _ (fun i => xs.getD i .non), h2] at he
            cases he
        rw [hemp]
        have hj2 : j < rs.length := by omega
        obtain ⟨p, hp1, hp2⟩ := hal.2 j rs[j] (List.getElem?_eq_getElem hj2)
        have hx : xs.getD j .non = .ref p := by simp [List.getD, hp1]
        rw [hx] at h2
        rw [h2] at hl3
        exact iteT ⟨_, rfl, D, _, 0, .ref p, rfl, rfl, SqL.of (exn hL _ _ hl3), atI_nat (j := 0) rfl, Qq _ _ (ext e3 (exn hL)) ⟨fun z => (by cases z), fun z => absurd (hiff.mpr z i hi) (by rw [hti]; decide)⟩⟩
end
end Md
/-! Md: drawn rows of a tree. -/
namespace Md
open PySem PySem.Spec PyProof.Rows L2
/-- no tables -/
def NT (G : Hp) : Prop := ∀ a ps, G a ≠ some (.tbl ps)
theorem NT.upd {G : Hp} {a : Addr} {o : HO} (h : NT G) (ho : ∀ ps, o ≠ .tbl ps) : NT (L2.upd G a o) := fun b ps z => by
  by_cases q : b = a
  · subst q
    rw [upd_same] at z
    exact ho ps (Option.some.inj z)
  · rw [upd_ne q] at z
    exact h b ps z
theorem tabS_b {H H' : Hp} {P pn : Addr} {q : Str} {xs : List V} (t : LamX.TabS H P q) (hp : H pn = some (.lst xs)) (b : ExB pn H H') : LamX.TabS H' P q := by
  obtain ⟨ps, h1, h2, h3⟩ := t
  refine ⟨ps, b _ _ (fun z => by rw [z, hp] at h1; cases h1) h1, h2, fun pos cv hc => ?_⟩
  obtain ⟨c, e1, e2⟩ := h3 pos cv hc
  refine ⟨c, e1, b _ _ (fun z => ?_) e2⟩
  rw [z, hp] at e2
  have := Option.some.inj e2
  unfold LamX.CodeO at this
  cases this
def grownQ : Str := ("_law_grown" ++ ".<locals>.") ++ "<lambda>"
/-- all but the pen and the tables is kept -/
def ExP (pn : Addr) (H H' : Hp) : Prop := ∀ a o, a ≠ pn → (∀ ps, o ≠ .tbl ps) → H a = some o → H' a = some o
def spGrown (P : Addr) (qn : Str) : Sp := fun vs H Q _ => ∃ (pn a : Addr) (n : Nat) (G : Hp) (us : List Us) (os gs ns : List Str), vs = [.ref pn, .ref a, .int 12] ∧ PenAt G H pn (n + 100) ∧ WorldAt G a us os gs ns ∧ WorldOk us os gs ns ∧ LamX.TabS H P qn ∧ NT G ∧
  ∀ H' G' l xs ss, PenAt G' H' pn n → Ex G G' → ExP pn H H' → LamX.TabS H' P qn → G' l = some (.lst xs) → Al (RowR G') xs ss → RowsOk ss → Q (.ref l) H'
theorem Al.zip {α : Type} {R : Addr → α → Prop} : ∀ {cs : List α} {xs : List V}, Al R xs cs → ∃ zs : List (Addr × α), xs = zs.map (fun z => V.ref z.1) ∧ cs = zs.map Prod.snd ∧ ∀ z ∈ zs, R z.1 z.2
  | [], xs, h => ⟨[], by rw [List.eq_nil_of_length_eq_zero h.1]; rfl, rfl, fun z hz => by cases hz⟩
  | c :: cs, xs, h => by
    obtain ⟨p, h1, h2⟩ := h.2 0 c rfl
    cases xs with
    | nil => cases h1
    | cons x xs =>
      cases h1
      obtain ⟨zs, e1, e2, e3⟩ := Al.zip (R := R) (cs := cs) (xs := xs) ⟨Nat.succ.inj h.1, fun j y hj => h.2 (j + 1) y hj⟩
      refine ⟨(p, c) :: zs, by rw [e1]; rfl, by rw [e2]; rfl, fun z hz => ?_⟩
      rcases List.mem_cons.mp hz with q | q
      · rw [q]; exact h2
      · exact e3 z q
theorem Al.of {α : Type} {R : Addr → α → Prop} (zs : List (Addr × α)) (h : ∀ z ∈ zs, R z.1 z.2) : Al R (zs.map fun z => V.ref z.1) (zs.map Prod.snd) :=
  ⟨by rw [List.length_map, List.length_map], fun j c hj => by
    rw [List.getElem?_map] at hj
    obtain ⟨z, hz, rfl⟩ := Option.map_eq_some_iff.mp hj
    exact ⟨z.1, by rw [List.getElem?_map, hz]; rfl, h z (List.mem_of_getElem? hz)⟩⟩
theorem srt_rows (zs : List (Addr × (List Str × En))) : ∃ zs' : List (Addr × (List Str × En)), zs'.Perm zs ∧ srtF (zs.map fun z => (z.1, pth z.2.1)) = zs'.map (fun z => (z.1, pth z.2.1)) ∧ zs'.Pairwise fun a b => ¬ TL.tl (pth b.2.1) < TL.tl (pth a.2.1) := by
  refine ⟨zs.mergeSort (PySem.W.dataLe false fun z => PyData.str (pth z.2.1)), List.mergeSort_perm _ _, ?_, ?_⟩
  · unfold srtF
    rw [List.map_mergeSort]
    intro a _ b _
    rfl
  · refine (PySem.W.sort_pairwise (PySem.W.sortLe_total _ false _) zs).imp ?_
    intro a b h hlt
    have h2 : (!(PyProof.Rows.lexLt PyProof.Rows.itemOrd [.inr (TL.tl (pth b.2.1))] [.inr (TL.tl (pth a.2.1))])) = true := h
    rw [PyProof.Rows.lex_cons] at h2
    have h3 : PyProof.Rows.itemOrd.blt (.inr (TL.tl (pth b.2.1))) (.inr (TL.tl (pth a.2.1))) = true := decide_eq_true hlt
    rw [h3] at h2
    cases h2
theorem gvn_mem {t : Nat → Bool} {f : Nat → V} {y : V} : ∀ {n}, y ∈ gvn t f n → ∃ i, i < n ∧ t i = true ∧ y = f i
  | 0, h => by cases h
  | n + 1, h => by
    rcases List.mem_append.mp h with q | q
    · obtain ⟨i, a, b⟩ := gvn_mem q
      exact ⟨i, by omega, b⟩
    · by_cases ht : t n = true
      · rw [if_pos ht] at q
        exact ⟨n, Nat.lt_succ_self n, ht, List.mem_singleton.mp q⟩
      · rw [if_neg ht] at q
        cases q
section
variable {P : Program} {w : World} {K : PySem.W.Frag} {mg : Str → Option Value} {base : Heap} {A : Ad}
theorem fn_law_grown (T : Tx K mg w A) {cg Pt : Addr} (TB : LamX.TabB base mg cg Pt) : ∀ f, FunC K "_law_grown" "_law_grown" S__law_grown f cg → Fn P w K mg base f 4 (spGrown Pt grownQ) := by
  intro f F
  refine fnr_ofC (k := 3) F sc__law_grown (fun _ _ _ _ _ _ us hl => match us, hl with | [_, _, _], _ => rfl) (fun vs H Q E h => by obtain ⟨x, m, _, _, _, _, _, _, rfl, _⟩ := h; rfl) fun Ar outer s H vs Q E c h => ?_
  have hr := c.room
  have nd := sc__law_grown.nd
  obtain ⟨pn, a, n, G, us, os, gs, ns, rfl, hp, hw, wok, hT, hNT, q⟩ := h
  refine ⟨_, (pss_cons (ps_par (i := 3) (j := 4) rfl nd rfl rfl (by decide) rfl rfl (pa_cons (pe_dget (hu_of hr) (pv 1) pe_str (fun _ _ => rfl)) (pa_cons (pe_dget (hu_of hr) (pv 1) pe_str (fun _ _ => rfl)) pa_nil)) (by with_unfolding_all rfl))
 (pss_cons (ps_set (i := 5) nd rfl (Or.inl rfl) (pe_lst (pa_cons (pe_lst (pa_cons pe_str (pa_cons pe_str (pa_cons (pe_fn c (by rfl) (pa_cons (pv 0) pa_nil)) (pa_cons (pe_fn c (by rfl) (pa_cons (pv 0) (pa_cons (pe_slice (sl_listC c) (pv 3) po_none (po_some pe_int)) pa_nil))) (pa_cons (pe_fn c (by rfl) (pa_cons (pv 0) (pa_cons (pv 4) pa_nil))) pa_nil)))))) pa_nil)))
 (pss_cons (ps_for PassesOwn.never rfl (pi_range1 (by rfl) T.b_range (pa_cons (pe_fn c (by rfl) (pa_cons (pv 0) (pa_cons (pv 2) pa_nil))) pa_nil)) (pg_name (i := 6) nd rfl (Or.inl rfl))
 (pss_cons (ps_set (i := 7) nd rfl (Or.inl rfl) (pe_fn c (by rfl) (pa_cons (pv 0) (pa_cons (pe_lc (own := [("_law_one", 10)]) (g := gName 10) rfl nd (pi_listC c (pv 5)) (blkOk_by (N := N__law_grown) (sc := defScope S__law_grown) (by decide +kernel)) (fun _ _ _ _ _ => (pg_name (i := 10) nd rfl (Or.inl rfl))) (fun _ _ _ _ _ => (pts_one (pt_cmpR op_eq (pe_ix (ix_listC c.b) (pv 10) pe_int (fun _ _ => rfl)) pe_str (nomark _)))) (fun _ _ _ _ _ => (pe_ix (ix_listC c.b) (pv 10) pe_int (fun _ _ => rfl)))) pa_nil))))
 (pss_cons (ps_par (i := 8) (j := 9) rfl nd rfl rfl (by decide) rfl rfl (pa_cons (pe_fn c (by rfl) (pa_cons (pv 7) (pa_cons (pe_fn c (by rfl) (pa_cons (pv 0) (pa_cons (pe_dget (hu_of hr) (pv 1) pe_str (fun _ _ => rfl)) pa_nil))) pa_nil))) (pa_cons (pe_fn c (by rfl) (pa_cons (pv 0) (pa_cons (pe_lst (pa_cons pe_str (pa_cons pe_str (pa_cons pe_str pa_nil)))) pa_nil))) pa_nil)) (by with_unfolding_all rfl))
 (pss_one (ps_if (pt_cmpR op_isN (pe_fn c (by rfl) (pa_cons (pv 5) (pa_cons (pv 8) pa_nil))) pe_non (nomark _)) (pss_one (ps_expr (pe_bmC c PySem.F.plainAttrs_list PySem.F.slot_list_append PySem.F.type_list_append mt_append (pv 5) (pa_cons (pe_lst (pa_cons (pv 8) (pa_cons (pv 9) (pa_cons (pe_fn c (by rfl) (pa_cons (pv 0) pa_nil)) (pa_cons (pe_fn c (by rfl) (pa_cons (pv 0) (pa_cons (pv 3) pa_nil))) (pa_cons (pe_fn c (by rfl) (pa_cons (pv 0) (pa_cons (pv 4) pa_nil))) pa_nil)))))) pa_nil)))) pss_nil)))))
 (pss_one (ps_ret (pe_sortL c TB rfl (by rfl) T.b_sorted (pv 5) ⟨_, rfl⟩ ⟨_, _, rfl⟩ rfl (by decide) (by decide) (fun _ _ _ _ _ => rfl) rfl rfl rfl rfl rfl (by decide) (fun _ _ => rfl))))))), ?_⟩
  obtain ⟨lu, lo, lg, ln, xsu, dU, dO, dG, dN, hlu, hus, hlo, hlg, hln⟩ := hw.get
  refine ⟨_, rfl, a, _, rfl, dget_ex hp.exg dO, _, rfl, a, _, rfl, dget_ex hp.exg dG, _, _, rfl, ?_⟩
  refine ⟨_, cal_of T.f__law_drawn_mode (fn_law_drawn_mode T), _, rfl, pn, n + 97, G, rfl, hp, fun H1 m hp1 e1 m0 m1 => ?_⟩
  refine ⟨_, cal_of T.f__law_pick (fn_law_pick T), _, rfl, _, rfl, _, rfl, lo, _, rfl, SqL.of (hp1.exg _ _ hlo), ?_⟩
  have cut2 : cutV (os.map V.str) none (some 2) = (os.take 2).map V.str := by rw [show (some (2 : Int)) = some ((2 : Nat) : Int) from rfl, cutV_to, List.map_take]
  rw [cut2]
  have ho2 : (os.take 2).length = 2 := by rw [List.length_take, wok.o]; rfl
  refine fun l2 hl2 => ⟨pn, l2, _, _, G, rfl, upd_same, hp1.ne hl2, hp1.newU hl2, by rw [List.length_map]; omega, by rw [List.length_map]; omega, fun H2 x2 hx2 hp2 e2 => ?_⟩
  have e2 := (exn hl2).b.trans e2
  obtain ⟨z2, hz2, rfl⟩ := str_mem (os.take 2) (M := os) (fun z h => List.mem_of_mem_take h) hx2
  refine ⟨_, cal_of T.f__law_pick (fn_law_pick T), _, rfl, _, rfl, pn, lg, _, _, G, rfl, hp2.exg _ _ hlg, ne_of_none hlg hp2.gn, hp2, by rw [List.length_map, wok.g]; decide, by rw [List.length_map, wok.g]; decide, fun H3 x3 hx3 hp3 e3 => ?_⟩
  obtain ⟨z3, hz3, rfl⟩ := str_mem gs (M := gs) (fun z h => h) hx3
  refine ⟨by show 5 ≤ sizeLine; decide, fun p hpn => ⟨by show 1 ≤ sizeLine; decide, fun D hD => ?_⟩⟩
  have e03 := e1.trans (e2.trans e3)
  have hD3 : H3 D = none := Ex.none (exn hpn) hD
  have nDp := hp3.ne hD3
  have hD0 : H D = none := by
    cases ho : H D with
    | none => rfl
    | some o => rw [e03 D o nDp ho] at hD3; cases hD3
  have npD : p ≠ D := ne_of_none upd_same hD
  have en0 : EnOk ⟨true, m, z2, z3⟩ := ⟨m0, m1, wok.os _ hz2, wok.gs _ hz3⟩
  have hp4 := (hp3.new (o := .lst [.str "", .str "folder", .int m, .str z2, .str z3]) hpn).newU (o := .lst [.ref p]) hD
  have g4 : Gr pn G H (upd G p (.lst [.str "", .str "folder", .int m, .str z2, .str z3])) (upd (upd H3 p (.lst [.str "", .str "folder", .int m, .str z2, .str z3])) D (.lst [.ref p])) := ((Gr.drawn e03).trans (Gr.new hp3.exg hpn)).trans (Gr.newU hD)
  have hD4 : upd (upd H3 p (.lst [.str "", .str "folder", .int m, .str z2, .str z3])) D (.lst [.ref p]) D = some (.lst [.ref p]) := upd_same
  have gD4 : upd G p (.lst [.str "", .str "folder", .int m, .str z2, .str z3]) D = none := by rw [upd_ne npD.symm]; exact Ex.none hp3.exg hD3
  have al4 : Al (RowR (upd G p (.lst [.str "", .str "folder", .int m, .str z2, .str z3]))) [.ref p] [([], (⟨true, m, z2, z3⟩ : En))] := Al.nil.snoc (R := RowR _) (by show _ = _; rw [upd_same]; rfl)
  have nt4 : NT (upd G p (.lst [.str "", .str "folder", .int m, .str z2, .str z3])) := hNT.upd (fun ps z => by cases z)
  have pre4 : RowsPre [([], (⟨true, m, z2, z3⟩ : En))] := RowsPre.one en0 rfl
  generalize upd G p (.lst [.str "", .str "folder", .int m, .str z2, .str z3]) = G4 at hp4 g4 gD4 al4 nt4
  generalize upd (upd H3 p (.lst [.str "", .str "folder", .int m, .str z2, .str z3])) D (.lst [.ref p]) = H4 at hp4 g4 hD4 ⊢
  refine ⟨_, cal_of T.f__law_draw (fn_law_draw T), _, rfl, _, rfl, pn, _, _, G4, rfl, hp4.mono (show n + 91 + 1 ≤ _ by omega), by decide, by decide, fun H5 r5 hp5 e5 a5 b5 => ?_⟩
  refine ⟨r5, rfl, by omega, by omega, for_it (walk_rng0 (n := r5.toNat)) (fun i σ H' => (∃ v6 v7 v8 v9, σ = [some (.ref pn), some (.ref a), some (.int 12), some (.ref lo), some (.ref lg), some (.ref D), v6, v7, v8, v9, none]) ∧ ∃ G' rs xs, PenAt G' H' pn (n + 8 * (11 - i)) ∧ Gr pn G H G' H' ∧ G' D = none ∧ H' D = some (.lst xs) ∧ Al (RowR G') xs rs ∧ RowsPre rs ∧ rs.length ≤ i + 1 ∧ (∀ r ∈ rs, r.1.length ≤ i) ∧ NT G')
    ⟨⟨none, none, none, none, rfl⟩, G4, _, _, hp5.mono (by omega), g4.trans (.drawn e5), gD4, e5 _ _ nDp hD4, al4, pre4, by show 1 ≤ 1; decide, (fun r hr => by rw [List.mem_singleton.mp hr]; exact Nat.zero_le _), nt4⟩ (fun _ _ _ _ _ => trivial) ?_ ?_⟩
  · rintro i x σ H6 H7 hi ⟨⟨v6, v7, v8, v9, rfl⟩, G6, rs, xs, hp6, g6, gD6, hD6, al6, pre6, hlen6, hdep6, nt6⟩ ⟨rfl, rfl⟩
    have hi11 : i < 11 := by omega
    have hxl := al6.1
    have r0 : List Str × En := ([], ⟨false, 0, "", ""⟩)
    have hgd : ∀ (i : Nat) (h : i < rs.length), rs.getD i r0 = rs[i] := fun i h => by simp [List.getD, List.getElem?_eq_getElem h]
    have tdef : ∃ t : Nat → Bool, t = fun i => decide (V.str (formS (rs.getD i r0).2.dir) = V.str "folder") := ⟨_, rfl⟩
    obtain ⟨t, ht0⟩ := tdef
    have ht : ∀ (i : Nat) (h : i < rs.length), t i = rs[i].2.dir := fun i h => by
      rw [ht0]
      show decide (V.str (formS (rs.getD i r0).2.dir) = V.str "folder") = _
      rw [hgd i h]
      cases rs[i].2.dir <;> decide
    refine ⟨_, cal_of T.f__law_pick (fn_law_pick T), _, rfl, _, rfl, D, rfl, ⟨_, SqL.of hD6⟩, fun D2 hD2 => lc_pure (walk_list (xs := xs)) t (fun i => .str (pth (rs.getD i r0).1)) hD2 (by omega) (fun H3 e3 => SqL.of (e3 _ _ hD6)) ?_ fun H8 e8 hl8 => ?_⟩
    · rintro j z Ha Hb hj ea ⟨rfl, hz⟩ Kn Ky hn hy
      have hj2 : j < rs.length := by omega
      obtain ⟨p', hp1, hp2⟩ := al6.2 j rs[j] (List.getElem?_eq_getElem hj2)
      rw [hp1] at hz
      cases hz
      have hp3 := ea _ _ (hp6.exg _ _ hp2)
      refine ⟨rfl, _, rfl, p', _, 1, _, rfl, rfl, SqL.of hp3, rfl, rfl, _, rfl, ?_⟩
      have hti : t j = decide (V.str (formS rs[j].2.dir) = V.str "folder") := by rw [ht0]; show decide (V.str (formS (rs.getD j r0).2.dir) = _) = _; rw [hgd j hj2]
      rw [← hti]
      cases hb : t j with
      | true =>
        have := hy hb _ (exr _)
        rw [hgd j hj2] at this
        exact ⟨_, rfl, p', _, 0, _, rfl, rfl, SqL.of hp3, rfl, this⟩
      | false => exact hn hb _ (exr _)
    have hp8 := hp6.ex e8
    have nDp2 := hp6.ne hD2
    have hD8 := e8 _ _ hD6
    have hg1 : 1 ≤ (gvn t (fun i => V.str (pth (rs.getD i r0).1)) xs.length).length := by
      rcases gvn_head t (fun i => V.str (pth (rs.getD i r0).1)) xs.length with ⟨h1, _⟩ | ⟨_, j, r, _, h2⟩
      · obtain ⟨e, he, hd⟩ := pre6.top
        obtain ⟨j, hj⟩ := List.mem_iff_getElem?.mp he
        have hj2 : j < rs.length := (List.getElem?_eq_some_iff.mp hj).1
        have := h1 j (by omega)
        rw [ht j hj2, (List.getElem?_eq_some_iff.mp hj).2, hd] at this
        cases this
      · rw [h2, List.length_cons]
        omega
    have hg2 := gvn_len t (fun i => V.str (pth (rs.getD i r0).1)) xs.length
    refine ⟨pn, D2, _, n + 8 * (11 - (i + 1)) + 7, G6, rfl, hl8, nDp2, hp8.mono (by omega), hg1, by omega, fun H9 x9 hx9 hp9 e9 => ?_⟩
    obtain ⟨j, hj, htj, rfl⟩ := gvn_mem hx9
    have hj2 : j < rs.length := by omega
    rw [hgd j hj2]
    rw [ht j hj2] at htj
    have hjm : (rs[j].1, rs[j].2) ∈ rs := List.getElem_mem hj2
    have okj := pre6.ok _ hjm
    have hdj : rs[j].1.length ≤ i := hdep6 _ hjm
    have hD9 := e9 _ _ nDp hD8
    have g9 := g6.trans (.drawn (e8.b.trans e9))
    have dN9 := dget_ex (ext g9.ex hp9.exg) dN
    have hln9 := g9.ex _ _ hln
    -- the name, the path
    refine ⟨_, cal_of T.f__law_joined (fn_law_joined T), _, rfl, _, cal_of T.f__law_pick (fn_law_pick T), _, rfl, _, rfl, a, _, rfl, dN9, pn, ln, _, _, G6, rfl, hp9.exg _ _ hln9, ne_of_none hln9 hp9.gn, hp9, by rw [List.length_map, wok.n]; decide, by rw [List.length_map, wok.n]; decide, fun H10 x10 hx10 hp10 e10 => ?_⟩
    obtain ⟨nm, hnm, rfl⟩ := str_mem ns (M := ns) (fun z h => h) hx10
    have hnmN := wok.ns nm hnm
    refine ⟨rs[j].1, nm, rfl, okj.1, hnmN, by omega, fun H11 e11 => ?_⟩
    have hp11 := hp10.ex e11
    refine ⟨_, cal_of T.f__law_pick (fn_law_pick T), _, rfl, by show 3 ≤ sizeLine; decide, fun l3 hl3 => ⟨pn, _, _, _, _, rfl, upd_same, hp11.ne hl3, hp11.newU hl3, by show 1 ≤ 3; decide, by show 3 ≤ 1000; decide, fun H12 x12 hx12 hp12 e12 => ⟨_, _, rfl, ?_⟩⟩⟩
    have e12 := (exn hl3).b.trans e12
    obtain ⟨fm, hfm, rfl⟩ := str_mem ["folder", "folder", "file"] (M := ["folder", "file"]) (by decide +kernel) hx12
    have hfb : ∃ b : Bool, fm = formS b := by
      simp only [List.mem_cons, List.not_mem_nil, or_false] at hfm
      rcases hfm with rfl | rfl
      · exact ⟨true, rfl⟩
      · exact ⟨false, rfl⟩
    obtain ⟨fb, rfl⟩ := hfb
    have e912 := e10.trans (e11.b.trans e12)
    have g12 := g9.trans (.drawn e912)
    have hD12 := e912 _ _ nDp hD9
    have hsn : Nms (rs[j].1 ++ [nm]) := okj.1.snoc hnmN
    refine ⟨_, cal_of T.f__law_at (fn_law_at T), _, rfl, _, rfl, D, xs, rs, rs[j].1 ++ [nm], rfl, hD12, al6.mono (fun p c h => hp12.exg _ _ h), fun r hr => ⟨(pre6.ok r hr).1, (pre6.ok r hr).2.1⟩, hsn, by omega, fun H13 v e13 hv => ⟨rfl, _, rfl, ?_⟩⟩
    have hp13 := hp12.ex e13
    have g13 := g12.trans (.pure e13)
    have hD13 := e13 _ _ hD12
    by_cases hvn : v = .non
    · rw [decide_eq_true hvn]
      have hnew := hv.mp hvn
      refine iteT ⟨_, rfl, .inl ⟨rfl, _, SqL.of hD13⟩, _, rfl, _, rfl, _, cal_of T.f__law_drawn_mode (fn_law_drawn_mode T), _, rfl, pn, n + 8 * (11 - (i + 1)) + 2, G6, rfl, hp13.mono (by omega), fun H14 m' hp14 e14 m0' m1' => ?_⟩
      have hlo14 := g13.ex _ _ hlo
      have hlg14 := g13.ex _ _ hlg
      refine ⟨_, cal_of T.f__law_pick (fn_law_pick T), _, rfl, _, rfl, pn, lo, _, _, G6, rfl, hp14.exg _ _ hlo14, ne_of_none hlo14 hp14.gn, hp14, by rw [List.length_map, wok.o]; decide, by rw [List.length_map, wok.o]; decide, fun H15 x15 hx15 hp15 e15 => ?_⟩
      obtain ⟨zo, hzo, rfl⟩ := str_mem os (M := os) (fun z h => h) hx15
      refine ⟨_, cal_of T.f__law_pick (fn_law_pick T), _, rfl, _, rfl, pn, lg, _, _, G6, rfl, hp15.exg _ _ hlg14, ne_of_none hlg14 hp15.gn, hp15, by rw [List.length_map, wok.g]; decide, by rw [List.length_map, wok.g]; decide, fun H16 x16 hx16 hp16 e16 => ?_⟩
      obtain ⟨zg, hzg, rfl⟩ := str_mem gs (M := gs) (fun z h => h) hx16
      have e1316 := e14.trans (e15.trans e16)
      have g16 := g13.trans (.drawn e1316)
      have hD16 := e1316 _ _ nDp hD13
      refine ⟨by show 5 ≤ sizeLine; decide, fun p2 hpn2 => ⟨D, xs, _, rfl, rfl, by rw [upd_ne (ne_of_none hD16 hpn2)]; exact hD16, zt (by omega), ?_⟩⟩
      have nDq : D ≠ p2 := ne_of_none hD16 hpn2
      have gp := Ex.none hp16.exg hpn2
      have enN : EnOk ⟨fb, m', zo, zg⟩ := ⟨m0', m1', wok.os _ hzo, wok.gs _ hzg⟩
      refine ⟨⟨_, _, _, _, rfl⟩, _, rs ++ [(rs[j].1 ++ [nm], (⟨fb, m', zo, zg⟩ : En))], _, ((hp16.new hpn2).mut (by rw [upd_ne nDq]; exact gD6) nDp).mono (by omega), (g16.trans (.new hp16.exg hpn2)).mut hD0, by rw [upd_ne nDq]; exact gD6, upd_same, (al6.mono fun p' c h => exn gp _ _ h).snoc (R := RowR _) (by show _ = _; rw [upd_same]; rfl),
        pre6.add hjm htj hnmN enN hnew (by omega) (by omega), by rw [List.length_append]; show _ + 1 ≤ _; omega, fun r hr => ?_, nt6.upd (fun ps z => by cases z)⟩
      rcases List.mem_append.mp hr with hr | hr
      · exact Nat.le_succ_of_le (hdep6 r hr)
      · rw [List.mem_singleton.mp hr]
        show (rs[j].1 ++ [nm]).length ≤ i + 1
        rw [List.length_append]
        exact Nat.succ_le_succ hdj
    · rw [decide_eq_false hvn]
      exact iteF ⟨⟨_, _, _, _, rfl⟩, G6, rs, xs, hp13.mono (by omega), g13, gD6, hD13, al6, pre6, by omega, fun r hr => Nat.le_succ_of_le (hdep6 r hr), nt6⟩
  · rintro σ H6 ⟨⟨v6, v7, v8, v9, rfl⟩, G6, rs, xs, hp6, g6, gD6, hD6, al6, pre6, hlen6, hdep6, nt6⟩
    obtain ⟨zs, rfl, rfl, hz⟩ := al6.zip
    obtain ⟨zs', hperm, hsrt, hpw⟩ := srt_rows zs
    obtain ⟨cl, cells, ix, gr, hpen, _⟩ := id hp
    have hT6 := tabS_b hT hpen g6.b
    refine ⟨_, rfl, D, zs.map (fun z => (z.1, pth z.2.1)), rfl, by rw [List.map_map]; exact hD6, fun p' hp' => ?_, hT6, fun H7 l7 hE hT7 hfree hl7 => ?_⟩
    · obtain ⟨z, hz1, rfl⟩ := List.mem_map.mp hp'
      exact ⟨_, hp6.exg _ _ (hz z hz1)⟩
    · rw [hsrt, List.map_map] at hl7
      have xg : Ex G6 H7 := fun b o hb => hE b o (hp6.exg b o hb) (fun ps z => nt6 b ps (by rw [hb, z]))
      have gl7 : G6 l7 = none := by
        cases ho : G6 l7 with
        | none => rfl
        | some o =>
          obtain ⟨ps, rfl⟩ := hfree o (hp6.exg _ _ ho)
          exact absurd ho (nt6 l7 ps)
      obtain ⟨cl6, cells6, ix6, gr6, hpen6, hcl6, hc63, hix6, hgn6, hex6⟩ := hp6
      have hpen7 := hE _ _ hpen6 (fun ps z => by cases z)
      have nl7 : l7 ≠ pn := fun z => by
        obtain ⟨ps, hps⟩ := hfree _ (by rw [z]; exact hpen6)
        cases hps
      have hp7 : PenAt G6 H7 pn n := ⟨cl6, cells6, ix6, gr6, hpen7, hcl6, hc63, by omega, hgn6, xg⟩
      have hp8 := hp7.frz gl7 nl7 hl7
      have x8 : Ex G6 (upd G6 l7 (.lst (zs'.map fun z => V.ref z.1))) := exn gl7
      have hal : Al (RowR (upd G6 l7 (.lst (zs'.map fun z => V.ref z.1)))) (zs'.map fun z => V.ref z.1) (zs'.map Prod.snd) := Al.of zs' fun z hz1 => x8 _ _ (hz z (hperm.mem_iff.mp hz1))
      have hok : RowsOk (zs'.map Prod.snd) := (pre6.perm (hperm.map Prod.snd)).sorted (List.pairwise_map.mpr hpw)
      refine q H7 _ l7 _ _ hp8 (ext g6.ex x8) (fun b o hb hnt hbo => ?_) hT7 upd_same hal hok
      exact hE b o (g6.b b o hb hbo) hnt
end
end Md
/-! Md: all but tables and the pen is kept; stands, plain. -/
namespace Md
open PySem PySem.Spec PyProof.Rows L2
/-- tables, and what looks like a pen -/
def Thin (o : HO) : Prop := (∃ ps, o = .tbl ps) ∨ ∃ (c : Addr) (a g : Int), o = .lst [.ref c, .int a, .int g]
def ExT (H H' : Hp) : Prop := ∀ a o, ¬ Thin o → H a = some o → H' a = some o
section
variable {H H' H2 : Hp} {pn : Addr} {A : Ad}
theorem ExT.refl : ExT H H := fun _ _ _ h => h
theorem ExT.trans (a : ExT H H') (b : ExT H' H2) : ExT H H2 := fun p o n h => b p o n (a p o n h)
theorem Ex.t (e : Ex H H') : ExT H H' := fun a o _ h => e a o h
theorem ExP.t {cl : Addr} {i g : Int} (hp : H pn = some (.lst [.ref cl, .int i, .int g])) (e : ExP pn H H') : ExT H H' := fun a o n h => e a o (fun z => n (.inr ⟨cl, i, g, by rw [z, hp] at h; exact (Option.some.inj h).symm⟩)) (fun ps z => n (.inl ⟨ps, z⟩)) h
theorem ExB.t {cl : Addr} {i g : Int} (hp : H pn = some (.lst [.ref cl, .int i, .int g])) (e : ExB pn H H') : ExT H H' := ExP.t hp fun a o n _ h => e a o n h
theorem nt_ins {C dx : Addr} {fs : List (Str × V)} : ¬ Thin (.ins C dx fs) := fun h => by
  rcases h with ⟨_, z⟩ | ⟨_, _, _, z⟩ <;> cases z
theorem nt_tup {xs : List V} : ¬ Thin (.tup xs) := fun h => by
  rcases h with ⟨_, z⟩ | ⟨_, _, _, z⟩ <;> cases z
theorem nt_dk {kvs : KVs} : ¬ Thin (.dK kvs) := fun h => by
  rcases h with ⟨_, z⟩ | ⟨_, _, _, z⟩ <;> cases z
theorem nt_str {ns : List Str} : ¬ Thin (.lst (ns.map V.str)) := fun h => by
  rcases h with ⟨_, z⟩ | ⟨_, _, _, z⟩
  · cases z
  · cases ns <;> cases z
theorem nt_ints {ns : List Int} : ¬ Thin (.lst (ns.map V.int)) := fun h => by
  rcases h with ⟨_, z⟩ | ⟨_, _, _, z⟩
  · cases z
  · cases ns <;> cases z
theorem nt_row {q : List Str} {e : En} : ¬ Thin (.lst (DRowL q e)) := fun h => by
  rcases h with ⟨_, z⟩ | ⟨_, _, _, z⟩ <;> cases z
theorem nt_al {α : Type} {R : Addr → α → Prop} {xs : List V} {cs : List α} (h : Al R xs cs) : ¬ Thin (.lst xs) := fun t => by
  rcases t with ⟨_, z⟩ | ⟨c, a, g, z⟩
  · cases z
  · cases z
    have hl : 1 < cs.length := by
      have h1 : 3 = cs.length := h.1
      omega
    obtain ⟨p, h1, _⟩ := h.2 1 cs[1] (List.getElem?_eq_getElem hl)
    cases h1
theorem ModeAt.ext {a : Addr} {m : Int} (e : ExT H H') (h : ModeAt A H a m) : ModeAt A H' a m := ⟨h.1, h.2.1, h.2.2.imp fun _ q => e _ _ nt_ins q⟩
theorem EnAt.ext {p : Addr} {e : En} {kvs : KVs} {d0 : List Addr} (x : ExT H H') (h : EnAt A H p e kvs d0) : EnAt A H' p e kvs d0 := by
  rcases h with ⟨a, dx, d, ma, h1, h2, h3, h4⟩ | ⟨a, dx, d, ma, h1, h2, h3, h4⟩
  · exact .inl ⟨a, dx, d, ma, x _ _ nt_ins h1, x _ _ nt_dk h2, h3.ext x, h4⟩
  · exact .inr ⟨a, dx, d, ma, x _ _ nt_ins h1, h2.ext x, h3, h4⟩
theorem FoAt.ext (x : ExT H H') : ∀ {F : Fo} {kvs : KVs} {ds : List Addr}, FoAt A H F kvs ds → FoAt A H' F kvs ds
  | .nil, _, _, h => h
  | .node _ _ _ _, _, _, ⟨p, kv', kk, d0, dk, dr, h1, h2, h3, h4, h5⟩ => ⟨p, kv', kk, d0, dk, dr, h1, h2.ext x, FoAt.ext x h3, FoAt.ext x h4, h5⟩
theorem NodeAt.ext {p : Addr} {e : En} {k : Fo} {ds : List Addr} (x : ExT H H') (h : NodeAt A H p e k ds) : NodeAt A H' p e k ds := by
  obtain ⟨kk, d0, dk, h1, h2, h3⟩ := h
  exact ⟨kk, d0, dk, h1.ext x, h2.ext x, h3⟩
theorem TreeAt.ext {t p : Addr} {e : En} {k : Fo} {ds : List Addr} (x : ExT H H') (h : TreeAt A H t p e k ds) : TreeAt A H' t p e k ds := ⟨h.1.imp fun dx q => x _ _ nt_ins q, h.2.1.ext x, h.2.2⟩
theorem UserAt.ext {a : Addr} {u : Us} (e : ExT H H') (h : UserAt A H a u) : UserAt A H' a u := by
  obtain ⟨dx, t, h1, h2⟩ := h
  exact ⟨dx, t, e _ _ nt_ins h1, e _ _ nt_tup h2⟩
theorem ChangeAt.ext {a : Addr} {cs : List Cl} (e : ExT H H') (h : ChangeAt A H a cs) : ChangeAt A H' a cs := by
  obtain ⟨o, dx, tc, tr, h1, t0, t1, t2, t3, r, r0, r1, r2, r3⟩ := h
  exact ⟨o, dx, tc, tr, e _ _ nt_ins h1, t0, t1, t2, t3, e _ _ nt_tup r, e _ _ nt_tup r0, e _ _ nt_tup r1, e _ _ nt_tup r2, e _ _ nt_tup r3⟩
theorem CmdAt.ext {a : Addr} {c : Cmd} (e : ExT H H') (h : CmdAt A H a c) : CmdAt A H' a c := by
  obtain ⟨ok, dx, t, ua, ca, h1, h2, h3, h4⟩ := h
  exact ⟨ok, dx, t, ua, ca, e _ _ nt_ins h1, e _ _ nt_tup h2, h3.ext e, h4.ext e⟩
theorem RowAt.ext {a : Addr} {cs : List Cmd} (e : ExT H H') (h : RowAt A H a cs) : RowAt A H' a cs := by
  obtain ⟨ok, dx, t, rs, h1, h2, h3⟩ := h
  exact ⟨ok, dx, t, rs, e _ _ nt_ins h1, e _ _ nt_tup h2, h3.1, fun j c hj => let ⟨b, q1, q2⟩ := h3.2 j c hj; ⟨b, q1, q2.ext e⟩⟩
theorem MadeAt.ext {xs : List V} {md : List (Nat × Bool × Int)} (e : ExT H H') (h : MadeAt H xs md) : MadeAt H' xs md := ⟨h.1, fun j y hj => let ⟨p, a, b⟩ := h.2 j y hj; ⟨p, a, e _ _ nt_tup b⟩⟩
theorem PassAt.ext {a : Addr} {cs : List Cmd} {st : List Int} {md : List (Nat × Bool × Int)} (e : ExT H H') (h : PassAt A H a cs st md) : PassAt A H' a cs st md := by
  obtain ⟨ok, dx, wd, r, s, L, z, xs, h1, h2, h3, h4, h5, h6⟩ := h
  exact ⟨ok, dx, wd, r, s, L, z, xs, e _ _ nt_ins h1, h2.ext e, e _ _ nt_tup h3, e _ _ (nt_al (R := fun p (y : Nat × Bool × Int) => H p = some (.tup [.int (y.1 : Nat), .bl y.2.1, .int y.2.2])) h5) h4, h5.ext e, h6⟩
theorem DUser.ext {a : Addr} {u : Us} (e : ExT H H') (h : DUser H a u) : DUser H' a u := ⟨h.1, h.2.imp fun l q => ⟨e _ _ nt_tup q.1, e _ _ nt_str q.2⟩⟩
theorem DCls.ext {l : Addr} {ch : List Cl} (e : ExT H H') (h : DCls H l ch) : DCls H' l ch := by
  obtain ⟨xs, h1, h2, h3⟩ := h
  exact ⟨xs, e _ _ (nt_al (R := ClR H) ⟨h2, h3⟩) h1, h2, fun j c hj => let ⟨p, a, b⟩ := h3 j c hj; ⟨p, a, e _ _ nt_tup b⟩⟩
theorem DDeed.ext {a : Addr} {c : Cmd} (e : ExT H H') (h : DDeed H a c) : DDeed H' a c := by
  obtain ⟨h1, h2, h3, u, lc, lt, h4, h5, h6, h7⟩ := h
  exact ⟨h1, h2, h3, u, lc, lt, e _ _ nt_tup h4, h5.ext e, h6.ext e, e _ _ nt_str h7⟩
theorem WorldAt.ext {a : Addr} {us : List Us} {os gs ns : List Str} (e : ExT H H') (h : WorldAt H a us os gs ns) : WorldAt H' a us os gs ns := by
  obtain ⟨lu, lo, lg, ln, xs, h1, h2, h3, h4, h5, h6⟩ := h
  exact ⟨lu, lo, lg, ln, xs, e _ _ nt_dk h1, e _ _ (nt_al h3) h2, h3.mono fun p c h => DUser.ext e h, e _ _ nt_str h4, e _ _ nt_str h5, e _ _ nt_str h6⟩
theorem RowR.ext {p : Addr} {r : List Str × En} (e : ExT H H') (h : RowR H p r) : RowR H' p r := e _ _ nt_row h
/-- what is no table and no pen -/
noncomputable def ntH (H : Hp) : Hp := fun a => match H a with
  | none => none
  | some o => open Classical in if Thin o then none else some o
theorem ntH_at {a : Addr} {o : HO} (h : H a = some o) (n : ¬ Thin o) : ntH H a = some o := by
  unfold ntH
  rw [h]
  show (open Classical in if Thin o then none else some o) = some o
  rw [if_neg n]
theorem ntH_sub : Ex (ntH H) H := fun a o h => by
  unfold ntH at h
  cases e : H a with
  | none => rw [e] at h; cases h
  | some u =>
    rw [e] at h
    have h2 : (open Classical in if Thin u then none else some u) = some o := h
    by_cases q : Thin u
    · rw [if_pos q] at h2; cases h2
    · rw [if_neg q] at h2; exact h2
theorem ntH_thin {a : Addr} {o : HO} (h : ntH H a = some o) : ¬ Thin o := fun t => by
  have h1 := ntH_sub a o h
  unfold ntH at h
  rw [h1] at h
  have h2 : (open Classical in if Thin o then none else some o) = some o := h
  rw [if_pos t] at h2
  cases h2
theorem ntH_t : ExT H (ntH H) := fun a o n h => ntH_at h n
theorem ntH_NT : NT (ntH H) := fun a ps h => ntH_thin h (.inl ⟨ps, rfl⟩)
/-- the pen, by itself -/
def Pen (H : Hp) (pn : Addr) (n : Nat) : Prop := PenAt (ntH H) H pn n
theorem PenAt.pen {G : Hp} {n : Nat} (h : PenAt G H pn n) : Pen H pn n := by
  obtain ⟨cl, cells, i, g, h1, h2, h3, h4, h5, h6⟩ := h
  refine ⟨cl, cells, i, g, h1, ntH_at (h6 _ _ h2) nt_ints, h3, h4, ?_, ntH_sub⟩
  cases e : ntH H pn with
  | none => rfl
  | some o =>
    have := ntH_sub _ _ e
    rw [h1] at this
    exact absurd (Or.inr ⟨cl, _, g, (Option.some.inj this).symm⟩) (ntH_thin e)
theorem Pen.ex {n : Nat} (h : Pen H pn n) (e : Ex H H') : Pen H' pn n := (PenAt.ex h e).pen
theorem Pen.mono {n m : Nat} (h : Pen H pn n) (hm : m ≤ n) : Pen H pn m := PenAt.mono h hm
theorem Pen.at {n : Nat} (h : Pen H pn n) : ∃ (cl : Addr) (i g : Int), H pn = some (.lst [.ref cl, .int i, .int g]) := by
  obtain ⟨cl, cells, i, g, h1, _⟩ := h
  exact ⟨cl, i, g, h1⟩
theorem Pen.tb {n : Nat} (h : Pen H pn n) (e : ExB pn H H') : ExT H H' := by
  obtain ⟨cl, i, g, h1⟩ := h.at
  exact ExB.t h1 e
theorem Pen.tp {n : Nat} (h : Pen H pn n) (e : ExP pn H H') : ExT H H' := by
  obtain ⟨cl, i, g, h1⟩ := h.at
  exact ExP.t h1 e
theorem Pen.tab {n : Nat} {P : Addr} {q : Str} (h : Pen H pn n) (t : LamX.TabS H P q) (e : ExB pn H H') : LamX.TabS H' P q := by
  obtain ⟨cl, i, g, h1⟩ := h.at
  exact tabS_b t h1 e
end
/-! stands -/
theorem stepF_ent (cs : List Cmd) (rt : En × Fo) (ab : List Str) (st : List Int) (n : Str) : stepF cs rt ab st n = match ent rt ab with
    | some e => passL cs st (madeN cs st e.mode e.owner e.group cs.length).1 n
    | none => st := by
  unfold stepF ent
  cases subF rt ab <;> rfl
theorem standI_congr {cs : List Cmd} {rt rt' : En × Fo} {ns : List Str} (h : ∀ j, j < ns.length → ent rt (ns.take j) = ent rt' (ns.take j)) : ∀ i, i ≤ ns.length → standI cs rt ns i = standI cs rt' ns i
  | 0, _ => rfl
  | i + 1, hi => by
    show stepF cs rt (ns.take i) (standI cs rt ns i) (ns.getD i "") = stepF cs rt' (ns.take i) (standI cs rt' ns i) (ns.getD i "")
    rw [stepF_ent, stepF_ent, h i (by omega), standI_congr h i (by omega)]
theorem standM_congr {cs : List Cmd} {rt rt' : En × Fo} {ns : List Str} (h : ∀ p, p <+: ns → p ≠ ns → ent rt p = ent rt' p) : standM cs rt ns = standM cs rt' ns :=
  standI_congr (fun j hj => h _ (List.take_prefix ..) fun z => by
    have := congrArg List.length z
    rw [List.length_take] at this
    omega) _ (Nat.le_refl _)
theorem standI_app (cs : List Cmd) (rt : En × Fo) (ns : List Str) (n : Str) : ∀ i, i ≤ ns.length → standI cs rt (ns ++ [n]) i = standI cs rt ns i
  | 0, _ => rfl
  | i + 1, hi => by
    show stepF cs rt ((ns ++ [n]).take i) (standI cs rt (ns ++ [n]) i) ((ns ++ [n]).getD i "") = stepF cs rt (ns.take i) (standI cs rt ns i) (ns.getD i "")
    rw [standI_app cs rt ns n i (by omega), List.take_append_of_le_length (by omega)]
    congr 1
    rw [List.getD_eq_getElem?_getD, List.getD_eq_getElem?_getD, List.getElem?_append_left (by omega)]
theorem standM_snoc {cs : List Cmd} {rt x : En × Fo} {ns : List Str} {n : Str} (h : subF rt ns = some x) : standM cs rt (ns ++ [n]) = passL cs (standM cs rt ns) (hallMd cs rt x ns) n := by
  unfold standM
  rw [List.length_append]
  show stepF cs rt ((ns ++ [n]).take ns.length) (standI cs rt (ns ++ [n]) ns.length) ((ns ++ [n]).getD ns.length "") = _
  rw [standI_app cs rt ns n _ (Nat.le_refl _), List.take_left' rfl]
  unfold stepF
  rw [h]
  have e : (ns ++ [n]).getD ns.length "" = n := by
    rw [List.getD_eq_getElem?_getD, List.getElem?_append_right (Nat.le_refl _), Nat.sub_self]
    rfl
  rw [e]
  rfl
theorem standM_nil (cs : List Cmd) (rt : En × Fo) : standM cs rt [] = List.replicate cs.length 0 := rfl
end Md
/-! Md: an entry alone on its way. -/
namespace Md
open PySem PySem.Spec PyProof.Rows L2
def spAlone (A : Ad) : Sp := fun vs H Q _ => ∃ (pn lr ra t p1 pt : Addr) (n : Nat) (xs : List V) (ss : Rws) (cs : List Cmd) (e0 : En) (k : Fo) (ds : List Addr) (q : List Str) (e : En), vs = [.ref pn, .ref lr, .ref ra, .ref t, .ref p1] ∧ Pen H pn (n + 6) ∧ H lr = some (.lst xs) ∧ Al (RowR H) xs ss ∧ RowsOk ss ∧
  RowAt A H ra cs ∧ TreeAt A H t pt e0 k ds ∧ (∀ p e, ent (e0, k) p = some e ↔ (p, e) ∈ ss) ∧ H p1 = some (.lst (DRowL q e)) ∧ (q, e) ∈ ss ∧ q ≠ [] ∧ ∀ H', Pen H' pn n → ExB pn H H' → Q (.bl true) H'
theorem ent_sub {rt : En × Fo} {p : List Str} {e : En} (h : ent rt p = some e) : ∃ k, subF rt p = some (e, k) := by
  unfold ent at h
  cases hs : subF rt p with
  | none => rw [hs] at h; cases h
  | some x =>
    rw [hs] at h
    exact ⟨x.2, by rw [← Option.some.inj h]⟩
theorem ent_eq {rt rt' : En × Fo} {ss ss' : Rws} (h : ∀ p e, ent rt p = some e ↔ (p, e) ∈ ss) (h' : ∀ p e, ent rt' p = some e ↔ (p, e) ∈ ss') {p : List Str} (hp : ∀ e, (p, e) ∈ ss ↔ (p, e) ∈ ss') : ent rt p = ent rt' p := by
  cases e : ent rt p with
  | none =>
    cases e' : ent rt' p with
    | none => rfl
    | some x =>
      rw [(h p x).mpr ((hp x).mpr ((h' p x).mp e'))] at e
      cases e
  | some x => exact ((h' p x).mpr ((hp x).mp ((h p x).mp e))).symm
theorem xs_last {R : Addr → (List Str × En) → Prop} {xs : List V} {hs : Rws} {r r' : List Str × En} {p : Addr} (h : Al R xs (hs ++ [r])) (hp : R p r') : xs ≠ [] ∧ ixN xs.length (-1) = some hs.length ∧ Al R (xs.set hs.length (.ref p)) (hs ++ [r']) := by
  have hl : xs.length = hs.length + 1 := by rw [h.1, List.length_append]; rfl
  refine ⟨(fun z => by rw [z] at hl; cases hl), ?_, by rw [List.length_set, hl, List.length_append]; rfl, fun j c hj => ?_⟩
  · unfold ixN
    rw [if_neg (by decide), if_pos (by omega), hl]
    congr 1
    omega
  · by_cases hjl : j < hs.length
    · rw [List.getElem?_append_left hjl] at hj
      obtain ⟨p', a, b⟩ := h.2 j c (by rw [List.getElem?_append_left hjl]; exact hj)
      exact ⟨p', by rw [List.getElem?_set_ne (by omega)]; exact a, b⟩
    · rw [List.getElem?_append_right (by omega)] at hj
      have hj0 : j - hs.length = 0 := by
        have := (List.getElem?_eq_some_iff.mp hj).1
        simp at this
        omega
      rw [hj0] at hj
      cases hj
      have hje : j = hs.length := by omega
      subst hje
      exact ⟨p, by rw [List.getElem?_set_self (by omega)], hp⟩
theorem nm_q : Nm "q" := by
  refine ⟨by decide +kernel, by decide +kernel, ?_⟩
  decide +kernel
section
variable {P : Program} {w : World} {K : PySem.W.Frag} {mg : Str → Option Value} {base : Heap} {A : Ad}
theorem fn_law_alone_right (T : Tx K mg w A) (S : Sx P K mg A) : ∀ f fd, Fun K "_law_alone_right" "_law_alone_right" S__law_alone_right f fd → Fn P w K mg base f 27 (spAlone A) := by
  intro f fd F
  refine fnr_of (k := 26) F sc__law_alone_right (fun _ _ _ _ _ _ us hl => match us, hl with | [_, _, _, _, _], _ => rfl) (fun vs H Q E h => by obtain ⟨x, m, _, _, _, _, _, _, _, _, _, _, _, _, _, rfl, _⟩ := h; rfl) fun f cdv Ar outer s H vs Q E c h => ?_
  have hr := c.room
  have nd := sc__law_alone_right.nd
  obtain ⟨pn, lr, ra, t, p1, pt, n, xs, ss, cs, e0, k, ds, q, e, rfl, hp, hlr, hal, hok, hrow, htree, htr, hp1, hmem, hne, Qq⟩ := h
  refine ⟨_, (pss_cons (ps_set (i := 5) nd rfl (Or.inr rfl) (pe_ix (ix_listC c) (pv 4) pe_int (fun _ _ => rfl)))
 (pss_cons (ps_setLc (i := 6) (own := [("_law_each", 9)]) (g := gName 9) rfl nd rfl rfl (sw_true rfl rfl rfl (by decide +kernel)) (pi_listC c (pv 1)) (blkOk_by (N := N__law_alone_right) (sc := defScope S__law_alone_right) (by decide +kernel)) (fun _ _ _ _ _ => (pg_name (i := 9) nd rfl (Or.inl rfl))) (fun _ _ _ _ _ => (pts_one (PW.pt (pw_or (pt_cmpR op_eq (pe_ix (ix_listC c.b) (pv 9) pe_int (fun _ _ => rfl)) pe_str (nomark _)) (pw_or1 (pt_val (pe_m1 PySem.F.slot_str_startswith PySem.F.type_str_startswith mt_startswith (pe_op op_add_str (pv 5) pe_str) (pe_op op_add_str (pe_ix (ix_listC c.b) (pv 9) pe_int (fun _ _ => rfl)) pe_str)))))))) (fun _ _ _ _ _ => (pe_callTy (list_C c.b) (by rfl) T.b_list (by decide +kernel) (pa_cons (pv 9) pa_nil))))
 (pss_cons (ps_set (i := 7) nd rfl (Or.inl rfl) (pe_fn c (by rfl) (pa_cons (pv 2) (pa_cons (pv 3) (pa_cons (pv 5) pa_nil)))))
 (pss_cons (ps_if (pt_cmpR (op_neD hr.units) (pe_fn c (by rfl) (pa_cons (pv 2) (pa_cons (pe_fn c (by rfl) (pa_cons (pv 6) pa_nil)) (pa_cons (pv 5) pa_nil)))) (pv 7) (nomark _)) (pss_one (ps_ret pe_bl)) pss_nil)
 (pss_cons (ps_set (i := 8) nd rfl (Or.inl rfl) (pe_fn c (by rfl) (pa_cons (pv 0) (pa_cons (pe_lst (pa_cons pe_str (pa_cons pe_str pa_nil))) pa_nil))))
 (pss_cons (ps_asg (pe_lst (pa_cons (pv 5) (pa_cons (pv 8) (pa_cons (pe_fn c (by rfl) (pa_cons (pv 0) pa_nil)) (pa_cons (pe_fn c (by rfl) (pa_cons (pv 0) (pa_cons (pe_lst (pa_cons pe_str (pa_cons (pe_ix (ix_listC c) (pv 4) pe_int (fun _ _ => rfl)) pa_nil))) pa_nil))) (pa_cons (pe_fn c (by rfl) (pa_cons (pv 0) (pa_cons (pe_lst (pa_cons pe_str (pa_cons (pe_ix (ix_listC c) (pv 4) pe_int (fun _ _ => rfl)) pa_nil))) pa_nil))) pa_nil)))))) (pg_sub (pv 6) (pe_un un_neg pe_int) set_list))
 (pss_one (ps_ret (pe_cmpR (op_eqD hr.units) (pe_fn c (by rfl) (pa_cons (pv 2) (pa_cons (pe_fn c (by rfl) (pa_cons (pv 6) pa_nil)) (pa_cons (pv 5) pa_nil)))) (pv 7) (nomark _)))))))))), ?_⟩
  have okq : Nms q ∧ EnOk e ∧ q.length ≤ 14 := hok.pre.ok _ hmem
  have hlen := hok.pre.len
  have hxl := hal.1
  refine ⟨_, rfl, p1, _, 0, _, rfl, rfl, SqL.of hp1, rfl, ?_⟩
  refine ⟨_, rfl, lr, rfl, ⟨_, SqL.of hlr⟩, fun D hD => lc_it (walk_list (xs := xs)) (fun i H' => ∃ hb acc, hb D = none ∧ Ex H hb ∧ Ex hb H' ∧ H' D = some (.lst acc) ∧ Al (RowR hb) acc (wayF (ss.take i) q))
    ⟨H, [], hD, exr _, exn hD, upd_same, Al.nil⟩ (fun i H' _ ⟨hb, acc, h1, h2, h3, h4, h5⟩ => SqL.of (h3 _ _ (h2 _ _ hlr))) ?_ ?_⟩
  · rintro i z H3 H4 hi ⟨hb, acc, h1, h2, h3, h4, h5⟩ ⟨rfl, hz⟩
    have hi2 : i < ss.length := by omega
    obtain ⟨p, hpx, hpr⟩ := hal.2 i ss[i] (List.getElem?_eq_getElem hi2)
    rw [hpx] at hz
    cases hz
    have okr := hok.pre.ok _ (List.getElem_mem hi2)
    have hp4 : H4 p = some (.lst (DRowL ss[i].1 ss[i].2)) := h3 _ _ (h2 _ _ hpr)
    have hso : RowR hb p ss[i] := h2 _ _ hpr
    have htake : ss.take (i + 1) = ss.take i ++ [ss[i]] := by rw [List.take_add_one, List.getElem?_eq_getElem hi2]; rfl
    have hway : wayF (ss.take (i + 1)) q = wayF (ss.take i) q ++ (if ss[i].1 <+: q then [ss[i]] else []) := by
      unfold wayF
      rw [htake, List.filter_append]
      congr 1
      by_cases hpre : ss[i].1 <+: q
      · rw [if_pos hpre]
        exact List.filter_cons_of_pos (decide_eq_true hpre)
      · rw [if_neg hpre]
        exact List.filter_cons_of_neg (by simp [hpre])
    refine ⟨rfl, _, rfl, p, _, 0, _, rfl, rfl, SqL.of hp4, rfl, rfl, _, rfl, ?_⟩
    show (if decide (V.str (pth ss[i].1) = V.str "") = true then _ else _)
    rw [pth_eq_nil okr.1]
    have hql := pth_len okq.1
    have hrl := pth_len okr.1
    have hq14 := okq.2.2
    have hr14 := okr.2.2
    have hsl : ("/" : Str).length = 1 := by decide +kernel
    by_cases hr0 : ss[i].1 = []
    case' pos =>
      have hpre : ss[i].1 <+: q := by rw [hr0]; exact List.nil_prefix
      rw [decide_eq_true hr0]
      refine iteT ?_
      show tCB (rListOf K) (tCons (tVar 9) tNil) _ H4 _
    case' neg =>
      rw [decide_eq_false hr0]
      refine iteF ⟨_, rfl, _, _, rfl, rfl, zl (by omega), ⟨_, rfl⟩, _, rfl, p, _, 0, _, rfl, rfl, SqL.of hp4, rfl, _, _, rfl, rfl, zl (by omega), _, _, rfl, rfl, _, rfl, ?_⟩
      have hst : Txt.startswith (pth q ++ "/") (pth ss[i].1 ++ "/") = decide (ss[i].1 <+: q) := by
        rw [Bool.eq_iff_iff, starts_iff, starts_pre okr.1 okq.1 hr0 hne, decide_eq_true_eq]
      rw [hst]
      by_cases hpre : ss[i].1 <+: q
      case' neg =>
        rw [decide_eq_false hpre]
        refine iteF ?_
        rw [hway, if_neg hpre, List.append_nil]
        exact ⟨hb, acc, h1, h2, h3, h4, h5⟩
      rw [decide_eq_true hpre]
      refine iteT ?_
      show tCB (rListOf K) (tCons (tVar 9) tNil) _ H4 _
    all_goals
      rw [hway, if_pos hpre]
      refine ⟨_, rfl, p, _, rfl, .inl (SqL.of hp4), fun l hl => ?_⟩
      have nlD : l ≠ D := fun z => by rw [z, h4] at hl; cases hl
      have hbl : hb l = none := Ex.none h3 hl
      refine ⟨acc, by rw [upd_ne nlD.symm]; exact h4, zt (by have := h5.1; have h9 : (wayF (ss.take i) q).length ≤ (ss.take i).length := List.length_filter_le ..; rw [List.length_take] at h9; omega), upd hb l (.lst (DRowL ss[i].1 ss[i].2)), _, by rw [upd_ne nlD.symm]; exact h1, ext h2 (exn hbl), exm h3.upd2 (by rw [upd_ne nlD.symm]; exact h1), upd_same, (h5.mono fun p' c h => exn hbl _ _ h).snoc (R := RowR _) upd_same⟩
  · rintro H2 ⟨hb, acc, h1, h2, h3, h4, h5⟩
    rw [hxl, List.take_length] at h5
    have e02 : Ex H H2 := ext h2 h3
    have al2 : Al (RowR H2) acc (wayF ss q) := h5.mono fun p' c h => h3 _ _ h
    have hway := hok.way q
    obtain ⟨hs, hhs⟩ := way_last hok hmem
    -- where the entry stands
    obtain ⟨k1, hsub1⟩ := ent_sub ((htr q e).mpr hmem)
    have hq900 : q.length ≤ 900 := by have := okq.2.2; omega
    refine ⟨_, cal_of T.f_stand_of (fn_stand_of T S), _, rfl, _, rfl, _, rfl, ra, t, pt, q, cs, e0, k, ds, (e, k1), rfl, hrow.ex e02, htree.ex e02, okq.1, hq900, hsub1, fun H3 r3 e3 hr3 => ?_⟩
    -- its way alone
    have alone : ∀ (acc' : List V) (ss' : Rws) (e' : En) (H5 : Hp), RowsOk ss' → (q, e') ∈ ss' → (∀ p, p <+: q → p ≠ q → ∀ x, (p, x) ∈ ss ↔ (p, x) ∈ ss') → Al (RowR H5) acc' ss' →
        ∃ (e0' : En) (rs' : List Rw) (k1' : Fo), DRows H5 acc' (([], e0') :: rs'.map rwP) ∧ e0'.dir = true ∧ EnOk e0' ∧ CanPut e0' .nil rs' ∧ rs'.length ≤ 13 ∧ subF (e0', treeF .nil rs') q = some (e', k1') ∧ standM cs (e0', treeF .nil rs') q = standM cs (e0, k) q := by
      intro acc' ss' e' H5 hok' hm' hag al5
      obtain ⟨e0', rs', hss', hd', he', hl', hcan', htr'⟩ := hok'.tree
      obtain ⟨k1', hsub1'⟩ := ent_sub ((htr' q e').mpr hm')
      refine ⟨e0', rs', k1', ?_, hd', he', hcan', by omega, hsub1', ?_⟩
      · rw [← hss']
        exact al5
      · exact standM_congr fun p hp hpn => (ent_eq htr htr' (hag p hp hpn)).symm
    have e03 : Ex H H3 := ext e02 e3
    obtain ⟨e1', rs1, k11, dr1, hd1, he1, hcan1, hl1, hsub11, hst1⟩ := alone acc (wayF ss q) e H3 hway (mem_way.mpr ⟨hmem, List.prefix_refl _⟩) (fun p hp _ x => ⟨fun hx => mem_way.mpr ⟨hx, hp⟩, fun hx => (mem_way.mp hx).1⟩) (al2.mono fun p' c h => e3 _ _ h)
    have hD3 := e3 _ _ h4
    refine ⟨_, cal_of T.f_stand_of (fn_stand_of T S), _, rfl, _, cal_of T.f__law_tree_so (fn_law_tree_so T S), _, rfl, D, acc, e1', rs1, rfl, hD3, dr1, hd1, he1, hcan1, hl1, fun H6 t6 p6 ds6 e6 htree6 _ => ⟨_, rfl, ra, t6, p6, q, cs, e1', _, ds6, (e, k11), rfl, hrow.ex (ext e03 e6), htree6, okq.1, hq900, hsub11, fun H8 r8 e8 hr8 => ⟨_, rfl, .tuple (numsD (standM cs (e0, k) q)), .tuple (numsD (standM cs (e0, k) q)), ?_, ?_, (shaped_nums _).2, (shaped_nums _).2, _, rfl, ?_⟩⟩⟩
    · rw [hst1] at hr8
      exact .tup (SqT.of hr8) (dp_nums _)
    · exact .tup (SqT.of (e8 _ _ (e6 _ _ hr3))) (dp_nums _)
    rw [eqv_tup, decide_eq_true rfl]
    have e38 := ext e6 e8
    have e08 := ext e03 e38
    refine iteF ?_
    have hp8 := hp.ex e08
    have nDp : D ≠ pn := PenAt.ne hp hD
    have hD8 := e38 _ _ hD3
    have hp18 : H8 p1 = some (.lst (DRowL q e)) := e08 _ _ hp1
    refine ⟨_, cal_of T.f__law_pick (fn_law_pick T), _, rfl, by show 2 ≤ sizeLine; decide, fun l hl => ⟨pn, _, _, n + 5, _, rfl, upd_same, PenAt.ne hp8 hl, PenAt.newU hp8 hl, by show 1 ≤ 2; decide, by show 2 ≤ 1000; decide, fun H9 x9 hx9 hp9 e9 => ?_⟩⟩
    have e9 := (exn hl).b.trans e9
    obtain ⟨fm, hfm, rfl⟩ := str_mem ["file", "folder"] (M := ["folder", "file"]) (by decide +kernel) hx9
    have hfb : ∃ b : Bool, fm = formS b := by
      simp only [List.mem_cons, List.not_mem_nil, or_false] at hfm
      rcases hfm with rfl | rfl
      · exact ⟨true, rfl⟩
      · exact ⟨false, rfl⟩
    obtain ⟨fb, rfl⟩ := hfb
    refine ⟨_, rfl, _, rfl, _, cal_of T.f__law_drawn_mode (fn_law_drawn_mode T), _, rfl, pn, n + 2, _, rfl, hp9, fun H10 m hp10 e10 m0 m1 => ?_⟩
    have x10 : ExB pn H8 H10 := e9.trans e10
    have hp110 := Pen.tb hp8 x10 _ _ nt_row hp18
    refine ⟨_, cal_of T.f__law_pick (fn_law_pick T), _, rfl, _, rfl, p1, _, 3, _, rfl, rfl, SqL.of hp110, rfl, by show 2 ≤ sizeLine; decide, fun l hl => ⟨pn, _, _, n + 1, _, rfl, upd_same, PenAt.ne hp10 hl, PenAt.newU hp10 hl, by show 1 ≤ 2; decide, by show 2 ≤ 1000; decide, fun H11 x11 hx11 hp11 e11 => ?_⟩⟩
    have e11 := (exn hl).b.trans e11
    obtain ⟨zo, hzo, rfl⟩ := str_mem ["q", e.owner] (M := ["q", e.owner]) (fun z h => h) hx11
    have x11 : ExB pn H8 H11 := x10.trans e11
    have hp111 := Pen.tb hp8 x11 _ _ nt_row hp18
    refine ⟨_, cal_of T.f__law_pick (fn_law_pick T), _, rfl, _, rfl, p1, _, 4, _, rfl, rfl, SqL.of hp111, rfl, by show 2 ≤ sizeLine; decide, fun l hl => ⟨pn, _, _, n, _, rfl, upd_same, PenAt.ne hp11 hl, PenAt.newU hp11 hl, by show 1 ≤ 2; decide, by show 2 ≤ 1000; decide, fun H12 x12 hx12 hp12 e12 => ?_⟩⟩
    have e12 := (exn hl).b.trans e12
    obtain ⟨zg, hzg, rfl⟩ := str_mem ["q", e.group] (M := ["q", e.group]) (fun z h => h) hx12
    have x12 : ExB pn H8 H12 := x11.trans e12
    have hD12 := x12 _ _ nDp hD8
    refine ⟨by show 5 ≤ sizeLine; decide, fun p2 hpn2 => ?_⟩
    have nDq : D ≠ p2 := ne_of_none hD12 hpn2
    have en2 : EnOk ⟨fb, m, zo, zg⟩ := by
      refine ⟨m0, m1, ?_, ?_⟩
      · show Nm zo
        simp only [List.mem_cons, List.not_mem_nil, or_false] at hzo
        rcases hzo with rfl | rfl
        · exact nm_q
        · exact okq.2.1.o
      · show Nm zg
        simp only [List.mem_cons, List.not_mem_nil, or_false] at hzg
        rcases hzg with rfl | rfl
        · exact nm_q
        · exact okq.2.1.g
    have x8t : ExT H8 (upd H12 p2 (.lst [.str (pth q), .str (formS fb), .int m, .str zo, .str zg])) := (Pen.tb hp8 x12).trans (exn hpn2).t
    have al13 : Al (RowR (upd H12 p2 (.lst [.str (pth q), .str (formS fb), .int m, .str zo, .str zg]))) acc (hs ++ [(q, e)]) := by
      rw [← hhs]
      exact al2.mono fun p' c h => x8t _ _ nt_row (e38 _ _ (e3 _ _ h))
    have hR2 : RowR (upd H12 p2 (.lst [.str (pth q), .str (formS fb), .int m, .str zo, .str zg])) p2 (q, ⟨fb, m, zo, zg⟩) := upd_same
    obtain ⟨_, hix, al14⟩ := xs_last al13 hR2
    have hD13 : upd H12 p2 (.lst [.str (pth q), .str (formS fb), .int m, .str zo, .str zg]) D = some (.lst acc) := by rw [upd_ne nDq]; exact hD12
    have eb13 : ExB pn H8 (upd H12 p2 (.lst [.str (pth q), .str (formS fb), .int m, .str zo, .str zg])) := x12.trans (exn hpn2).b
    have hp13 : Pen (upd H12 p2 (.lst [.str (pth q), .str (formS fb), .int m, .str zo, .str zg])) pn n := (PenAt.newU hp12 hpn2).pen
    refine ⟨_, rfl, _, rfl, D, acc, -1, _, rfl, rfl, hD13, hix, ?_⟩
    generalize upd H12 p2 (.lst [.str (pth q), .str (formS fb), .int m, .str zo, .str zg]) = H13 at x8t al13 hR2 al14 hD13 eb13 hp13 ⊢
    -- the list changed: all else is kept
    have hDnone : H D = none := hD
    have hgD : ∀ (R : Addr → (List Str × En) → Prop) ys, Al R ys (hs ++ [(q, (⟨fb, m, zo, zg⟩ : En))]) → True := fun _ _ _ => trivial
    have ne_row : ∀ {a : Addr} {r : List Str × En}, RowR H13 a r → a ≠ D := fun {a r} hr z => by
      have h1 : H13 D = some (.lst (DRowL r.1 r.2)) := by rw [← z]; exact hr
      rw [hD13] at h1
      have h2 := Option.some.inj h1
      exact nt_row (by rw [← h2]; exact absurd h2 (by intro z2; exact (show False from by
        cases acc with
        | nil => cases z2
        | cons y ys =>
          obtain ⟨pp, hpp, _⟩ := al13.2 0 ((hs ++ [(q, e)])[0]'(by simp)) (List.getElem?_eq_getElem _)
          cases hpp
          cases z2)))
    have e14 : ∀ a o, a ≠ D → H13 a = some o → upd H13 D (.lst (acc.set hs.length (.ref p2))) a = some o := fun a o hn h => by rw [upd_ne hn]; exact h
    have al15 : Al (RowR (upd H13 D (.lst (acc.set hs.length (.ref p2))))) (acc.set hs.length (.ref p2)) (hs ++ [(q, (⟨fb, m, zo, zg⟩ : En))]) := al14.mono fun p' c h => e14 _ _ (ne_row h) h
    have hD15 : upd H13 D (.lst (acc.set hs.length (.ref p2))) D = some (.lst (acc.set hs.length (.ref p2))) := upd_same
    have eH15 : ExB pn H (upd H13 D (.lst (acc.set hs.length (.ref p2)))) := fun a o hn ha => by rw [upd_ne (ne_of_none ha hD)]; exact eb13 a o hn (e08 a o ha)
    have hp15 : Pen (upd H13 D (.lst (acc.set hs.length (.ref p2)))) pn n := by
      obtain ⟨cl, cells, ix, gr, g1, g2, g3, g4, g5, g6⟩ := hp
      obtain ⟨cl', cells', ix', gr', f1, f2, f3, f4, f5, f6⟩ := hp13
      have ncl : cl' ≠ D := fun z => by
        have h1 := f6 _ _ f2
        rw [z, hD13] at h1
        have h2 := Option.some.inj h1
        cases acc with
        | nil => exact absurd al13.1 (by simp)
        | cons y ys =>
          obtain ⟨pp, hpp, _⟩ := al13.2 0 ((hs ++ [(q, e)])[0]'(by simp)) (List.getElem?_eq_getElem _)
          cases hpp
          cases cells' with
          | nil => cases h2
          | cons c1 c2 => cases h2
      have hbase : PenAt (fun a => if a = cl' then some (.lst (cells'.map V.int)) else none) (upd H13 D (.lst (acc.set hs.length (.ref p2)))) pn n := by
        refine ⟨cl', cells', ix', gr', by rw [upd_ne nDp.symm]; exact f1, if_pos rfl, f3, f4, ?_, fun a o ha => ?_⟩
        · refine if_neg fun z => ?_
          have h1 := f6 _ _ f2
          rw [← z, f1] at h1
          have h2 := Option.some.inj h1
          cases cells' with
          | nil => cases h2
          | cons c1 c2 => cases h2
        · have ha2 : (if a = cl' then some (HO.lst (cells'.map V.int)) else none) = some o := ha
          by_cases hac : a = cl'
          · rw [if_pos hac] at ha2
            rw [hac, upd_ne ncl, ← ha2]
            exact f6 _ _ f2
          · rw [if_neg hac] at ha2
            cases ha2
      exact hbase.pen
    have r3_15 : upd H13 D (.lst (acc.set hs.length (.ref p2))) r3 = some (.tup ((standM cs (e0, k) q).map V.int)) := by
      have h1 := e38 _ _ hr3
      have h2 := Pen.tb hp8 eb13 _ _ nt_tup h1
      refine e14 _ _ (fun z => ?_) h2
      rw [z, hD13] at h2
      cases h2
    have hrow15 : RowAt A (upd H13 D (.lst (acc.set hs.length (.ref p2)))) ra cs := hrow.ext (Pen.tb hp eH15)
    generalize upd H13 D (.lst (acc.set hs.length (.ref p2))) = H15 at al15 hD15 eH15 hp15 r3_15 hrow15 ⊢
    have hswap : RowsOk (hs ++ [(q, (⟨fb, m, zo, zg⟩ : En))]) := (show RowsOk (hs ++ [(q, e)]) by rw [← hhs]; exact hway).swap hne (fun r hr => (mem_way.mp (by rw [hhs]; exact List.mem_append_left _ hr)).2) en2
    obtain ⟨e2', rs2, k12, dr2, hd2, he2, hcan2, hl2, hsub12, hst2⟩ := alone (acc.set hs.length (.ref p2)) _ ⟨fb, m, zo, zg⟩ H15 hswap (by simp) (fun p hp hpn x => by
      constructor
      · intro hx
        have h1 : (p, x) ∈ wayF ss q := mem_way.mpr ⟨hx, hp⟩
        rw [hhs] at h1
        rcases List.mem_append.mp h1 with h1 | h1
        · exact List.mem_append_left _ h1
        · exact absurd (congrArg Prod.fst (List.mem_singleton.mp h1)) hpn
      · intro hx
        rcases List.mem_append.mp hx with h1 | h1
        · exact (mem_way.mp (by rw [hhs]; exact List.mem_append_left _ h1)).1
        · exact absurd (congrArg Prod.fst (List.mem_singleton.mp h1)) hpn) al15
    refine ⟨_, cal_of T.f_stand_of (fn_stand_of T S), _, rfl, _, cal_of T.f__law_tree_so (fn_law_tree_so T S), _, rfl, D, _, e2', rs2, rfl, hD15, dr2, hd2, he2, hcan2, hl2, fun H16 t6 p6 ds6 e16 htree6 _ => ⟨_, rfl, ra, t6, p6, q, cs, e2', _, ds6, (_, k12), rfl, hrow15.ex e16, htree6, okq.1, hq900, hsub12, fun H18 r8 e18 hr8 => ⟨_, rfl, .tuple (numsD (standM cs (e0, k) q)), .tuple (numsD (standM cs (e0, k) q)), ?_, ?_, (shaped_nums _).2, (shaped_nums _).2, ?_⟩⟩⟩
    · rw [hst2] at hr8
      exact .tup (SqT.of hr8) (dp_nums _)
    · exact .tup (SqT.of (e18 _ _ (e16 _ _ r3_15))) (dp_nums _)
    rw [eqv_tup, decide_eq_true rfl]
    have e1518 := ext e16 e18
    exact Qq _ (hp15.ex e1518) (eH15.trans e1518.b)
end
end Md
/-! Md: an entry more. -/
namespace Md
open PySem PySem.Spec PyProof.Rows L2
/-- all but dicts is kept -/
def ExK (H H' : Hp) : Prop := ∀ a o, (∀ kvs, o ≠ .dK kvs) → H a = some o → H' a = some o
section
variable {H H' : Hp} {pn : Addr} {A : Ad}
theorem nk_ins {C dx : Addr} {fs : List (Str × V)} : ∀ kvs, HO.ins C dx fs ≠ .dK kvs := fun _ z => by cases z
theorem nk_tup {xs : List V} : ∀ kvs, HO.tup xs ≠ .dK kvs := fun _ z => by cases z
theorem nk_lst {xs : List V} : ∀ kvs, HO.lst xs ≠ .dK kvs := fun _ z => by cases z
theorem UserAt.exk {a : Addr} {u : Us} (e : ExK H H') (h : UserAt A H a u) : UserAt A H' a u := by
  obtain ⟨dx, t, h1, h2⟩ := h
  exact ⟨dx, t, e _ _ nk_ins h1, e _ _ nk_tup h2⟩
theorem ChangeAt.exk {a : Addr} {cs : List Cl} (e : ExK H H') (h : ChangeAt A H a cs) : ChangeAt A H' a cs := by
  obtain ⟨o, dx, tc, tr, h1, t0, t1, t2, t3, r, r0, r1, r2, r3⟩ := h
  exact ⟨o, dx, tc, tr, e _ _ nk_ins h1, t0, t1, t2, t3, e _ _ nk_tup r, e _ _ nk_tup r0, e _ _ nk_tup r1, e _ _ nk_tup r2, e _ _ nk_tup r3⟩
theorem CmdAt.exk {a : Addr} {c : Cmd} (e : ExK H H') (h : CmdAt A H a c) : CmdAt A H' a c := by
  obtain ⟨ok, dx, t, ua, ca, h1, h2, h3, h4⟩ := h
  exact ⟨ok, dx, t, ua, ca, e _ _ nk_ins h1, e _ _ nk_tup h2, h3.exk e, h4.exk e⟩
theorem RowAt.exk {a : Addr} {cs : List Cmd} (e : ExK H H') (h : RowAt A H a cs) : RowAt A H' a cs := by
  obtain ⟨ok, dx, t, rs, h1, h2, h3⟩ := h
  exact ⟨ok, dx, t, rs, e _ _ nk_ins h1, e _ _ nk_tup h2, h3.1, fun j c hj => let ⟨b, q1, q2⟩ := h3.2 j c hj; ⟨b, q1, q2.exk e⟩⟩
theorem PassAt.exk {a : Addr} {cs : List Cmd} {st : List Int} {md : List (Nat × Bool × Int)} (e : ExK H H') (h : PassAt A H a cs st md) : PassAt A H' a cs st md := by
  obtain ⟨ok, dx, wd, r, s, L, z, xs, h1, h2, h3, h4, h5, h6⟩ := h
  exact ⟨ok, dx, wd, r, s, L, z, xs, e _ _ nk_ins h1, h2.exk e, e _ _ nk_tup h3, e _ _ nk_lst h4, ⟨h5.1, fun j y hj => let ⟨p, a, b⟩ := h5.2 j y hj; ⟨p, a, e _ _ nk_tup b⟩⟩, h6⟩
theorem Pen.keep {n : Nat} (h : Pen H pn n) (e : ∀ a xs, H a = some (.lst xs) → H' a = some (.lst xs)) : Pen H' pn n := by
  obtain ⟨cl, cells, i, g, h1, h2, h3, h4, h5, h6⟩ := h
  have hc := h6 _ _ h2
  have hbase : PenAt (fun a => if a = cl then some (.lst (cells.map V.int)) else none) H' pn n := by
    refine ⟨cl, cells, i, g, e _ _ h1, if_pos rfl, h3, h4, if_neg fun z => ?_, fun a o ha => ?_⟩
    · rw [← z, h1] at hc
      have hc2 := Option.some.inj hc
      cases cells with
      | nil => cases hc2
      | cons c1 c2 => cases hc2
    · have ha2 : (if a = cl then some (HO.lst (cells.map V.int)) else none) = some o := ha
      by_cases hac : a = cl
      · rw [if_pos hac] at ha2
        rw [hac, ← ha2]
        exact e _ _ hc
      · rw [if_neg hac] at ha2
        cases ha2
  exact hbase.pen
end
def spMore (A : Ad) : Sp := fun vs H Q _ => ∃ (pn wa ra t p1 pt : Addr) (n : Nat) (us : List Us) (os gs ns : List Str) (cs : List Cmd) (e0 : En) (k : Fo) (ds : List Addr) (q : List Str) (e : En) (k1 : Fo), vs = [.ref pn, .ref wa, .ref ra, .ref t, .ref p1] ∧ Pen H pn (n + 4) ∧ WorldAt H wa us os gs ns ∧ WorldOk us os gs ns ∧
  RowAt A H ra cs ∧ TreeAt A H t pt e0 k ds ∧ cnt k ≤ 12 ∧ subF (e0, k) q = some (e, k1) ∧ e.dir = true ∧ Nms q ∧ EnOk e ∧ q.length ≤ 14 ∧ H p1 = some (.lst (DRowL q e)) ∧ ∀ H', Pen H' pn n → ExB pn H H' → Q (.bl true) H'
section
variable {P : Program} {w : World} {K : PySem.W.Frag} {mg : Str → Option Value} {base : Heap} {A : Ad}
theorem fn_law_more_right (T : Tx K mg w A) (S : Sx P K mg A) : ∀ f fd, Fun K "_law_more_right" "_law_more_right" S__law_more_right f fd → Fn P w K mg base f 27 (spMore A) := by
  intro f fd F
  refine fnr_of (k := 26) F sc__law_more_right (fun _ _ _ _ _ _ us hl => match us, hl with | [_, _, _, _, _], _ => rfl) (fun vs H Q E h => by obtain ⟨x, m, _, _, _, _, _, _, _, _, _, _, _, _, _, _, _, _, rfl, _⟩ := h; rfl) fun f cdv Ar outer s H vs Q E c h => ?_
  have hr := c.room
  have nd := sc__law_more_right.nd
  obtain ⟨pn, wa, ra, t, p1, pt, n, us, os, gs, ns, cs, e0, k, ds, q, e, k1, rfl, hp, hw, wok, hrow, htree, hc12, hsub, hdir, hq, hen, hq14, hp1, Qq⟩ := h
  refine ⟨_, (pss_cons (ps_set (i := 5) nd rfl (Or.inl rfl) (pe_fn c (by rfl) (pa_cons (pv 0) (pa_cons (pe_op op_cat (pe_dget (hu_of hr) (pv 1) pe_str (fun _ _ => rfl)) (pe_dget (hu_of hr) (pv 1) pe_str (fun _ _ => rfl))) pa_nil))))
 (pss_cons (ps_par (i := 6) (j := 7) rfl nd rfl rfl (by decide) rfl rfl (pa_cons (pe_mt0 c (pv 3)) (pa_cons (pe_fn c (by rfl) (pa_cons (pv 2) (pa_cons (pv 3) (pa_cons (pe_ix (ix_listC c) (pv 4) pe_int (fun _ _ => rfl)) pa_nil)))) pa_nil)) (by with_unfolding_all rfl))
 (pss_cons (ps_set (i := 8) nd rfl (Or.inl rfl) (pe_fn c (by rfl) (pa_cons (pe_ix (ix_listC c) (pv 4) pe_int (fun _ _ => rfl)) (pa_cons (pv 5) pa_nil))))
 (pss_cons (ps_expr (pe_mt c (pv 6) (pa_cons (pv 8) (pa_cons (pe_mk c (by rfl) (pa_cons (pe_fn c (by rfl) (pa_cons (pv 0) pa_nil)) (pa_cons (pe_ix (ix_listC c) (pv 4) pe_int (fun _ _ => rfl)) (pa_cons (pe_ix (ix_listC c) (pv 4) pe_int (fun _ _ => rfl)) pa_nil)))) pa_nil))))
 (pss_one (ps_ret (pe_cmpR (op_eqD hr.units) (pe_fn c (by rfl) (pa_cons (pv 2) (pa_cons (pv 6) (pa_cons (pv 8) pa_nil)))) (pe_co c (pv 7) (pa_cons (pv 5) pa_nil)) (nomark _)))))))), ?_⟩
  obtain ⟨lu, lo, lg, ln, xsu, dU, dO, dG, dN, hlu, hus, hlo, hlg, hln⟩ := hw.get
  refine ⟨_, cal_of T.f__law_pick (fn_law_pick T), _, rfl, _, rfl, wa, _, rfl, dN, _, rfl, wa, _, rfl, dO, _, _, _, _, rfl, rfl, hln, hlo, by rw [List.length_map, List.length_map, wok.n, wok.o]; decide, fun l hl => ?_⟩
  have hall4 : ns.map V.str ++ os.map V.str = (ns ++ os).map V.str := (List.map_append ..).symm
  rw [hall4]
  refine ⟨pn, l, _, n + 3, _, rfl, upd_same, PenAt.ne hp hl, PenAt.newU hp hl, by rw [List.length_map, List.length_append, wok.n]; omega, by rw [List.length_map, List.length_append, wok.n, wok.o]; decide, fun H1 x1 hx1 hp1' e1 => ?_⟩
  have e1 := (exn hl).b.trans e1
  obtain ⟨nm, hnm, rfl⟩ := str_mem (ns ++ os) (M := ns ++ os) (fun z h => h) hx1
  have hnN : Nm nm := by
    rcases List.mem_append.mp hnm with h | h
    · exact wok.ns nm h
    · exact wok.os nm h
  have t1 := Pen.tb hp e1
  have hp1p : Pen H1 pn (n + 3) := hp1'.pen
  have hrow1 := hrow.ext t1
  have htree1 := htree.ext t1
  have hp11 := t1 _ _ nt_row hp1
  obtain ⟨⟨dxt, htx⟩, _, ok⟩ := id htree1
  refine ⟨_, rfl, t, _, dxt, _, _, rfl, htx, mcal_of T.m_Tree_copy T.o_Tree.cl (fn_Tree_copy T S), rfl, t, pt, e0, k, ds, rfl, htree1, fun H2 t2 p2 k2 ds2 e2 htree2 heqv hcnt hhgt hfr => ?_⟩
  refine ⟨_, cal_of T.f__law_hall (fn_law_hall T S), _, rfl, _, rfl, _, rfl, p1, _, 0, _, rfl, rfl, SqL.of (e2 _ _ hp11), rfl, ra, t, pt, q, cs, e0, k, ds, (e, k1), rfl, hrow1.ex e2, htree1.ex e2, hq, by omega, hsub, fun H3 x3 e3 hpass3 => ⟨_, _, rfl, ?_⟩⟩
  have e13 := ext e2 e3
  refine ⟨_, cal_of T.f__law_joined (fn_law_joined T), _, rfl, p1, _, 0, _, rfl, rfl, SqL.of (e13 _ _ hp11), rfl, _, rfl, q, nm, rfl, hq, hnN, by omega, fun H4 e4 => ?_⟩
  have e14 := ext e13 e4
  have e34 := e4
  have htree4 := htree2.ex (ext e3 e4)
  obtain ⟨⟨dx2, ht2⟩, hnode4, ok2⟩ := id htree4
  have hp14 := e14 _ _ hp11
  have hpen4 := hp1p.ex e14
  refine ⟨_, rfl, t2, _, dx2, _, _, rfl, ht2, mcal_of T.m_Tree_put T.o_Tree.cl (fn_Tree_put T S), rfl, _, rfl, _, _, ccal_File T S (by decide), _, cal_of T.f__law_drawn_mode (fn_law_drawn_mode T), _, rfl, pn, n, _, rfl, hpen4, fun H5 m hp5' e5 m0 m1 => ?_⟩
  have t5 := Pen.tb hpen4 e5
  have hp15 := t5 _ _ nt_row hp14
  refine ⟨_, rfl, p1, _, 3, _, rfl, rfl, SqL.of hp15, rfl, _, rfl, p1, _, 4, _, rfl, rfl, SqL.of hp15, rfl, fun fo fdx hfo hfdx _ => ?_⟩
  have hdr2 : (⟨false, m, e.owner, e.group⟩ : En).dir = false := rfl
  have en2 : EnOk ⟨false, m, e.owner, e.group⟩ := ⟨m0, m1, hen.o, hen.g⟩
  refine mk_File (e := ⟨false, m, e.owner, e.group⟩) hfo hfdx rfl (.inl ⟨rfl, m0, m1⟩) hen.o hen.g fun H6 e6 hena => ⟨rfl, ?_⟩
  have htree6 := (htree4.ext t5).ex e6
  have entq : ent (e0, k2) q = some e := by
    rw [← ent_eqv e0 heqv q]
    unfold ent
    rw [hsub]
    rfl
  obtain ⟨k12, hsub2⟩ := ent_sub entq
  refine ⟨t2, q, nm, fo, p2, e0, k2, ds2, e, k12, ⟨false, m, e.owner, e.group⟩, [], rfl, hq, hnN, by omega, htree6, hsub2, hdir, ⟨[], [], [], hena, ⟨rfl, rfl⟩, rfl⟩, ⟨en2, trivial, fun _ => rfl⟩, fun H7 ds7 e7 hn7 nd7 fr7 => ?_⟩
  have hpen6 : Pen H6 pn n := (hp5'.pen).ex e6
  have ek : ExK H6 H7 := fun a o hk ha => e7 a o (fun hm => by
    obtain ⟨kd, hkd⟩ := htree6.2.1.dsm a hm
    rw [ha] at hkd
    exact hk kd (Option.some.inj hkd)) ha
  have hpen7 : Pen H7 pn n := hpen6.keep fun a xs h => ek _ _ nk_lst h
  have t46 := t5.trans e6.t
  have hrow7 : RowAt A H7 ra cs := ((hrow1.ex e14).ext t46).exk ek
  have hpass7 : PassAt A H7 x3 cs (standM cs (e0, k) q) (hallMd cs (e0, k) (e, k1) q) := PassAt.exk ek (PassAt.ext ((Ex.t e4).trans t46) hpass3)
  have eb7 : ExB pn H H7 := fun a o hn ha => by
    have h1 := e1 a o hn ha
    have h6 := e6 a o (e5 a o hn (e14 a o h1))
    exact e7 a o (fun hm => by rw [hfr a hm] at h1; cases h1) h6
  obtain ⟨dx27, ht27⟩ := htree6.1
  have entn : ent (e0, putP k2 q nm ⟨false, m, e.owner, e.group⟩) (q ++ [nm]) = some ⟨false, m, e.owner, e.group⟩ := by
    rw [ent_put nm _ q k2 e0 (q ++ [nm]) (by rw [entq]; intro z; cases z), if_pos rfl]
  obtain ⟨k7, hsub7⟩ := ent_sub entn
  have htree7 : TreeAt A H7 t2 p2 e0 (putP k2 q nm ⟨false, m, e.owner, e.group⟩) ds7 := by
    have hc := cnt_putP nm (⟨false, m, e.owner, e.group⟩ : En) q k2
    have hh := hgt_cnt (putP k2 q nm ⟨false, m, e.owner, e.group⟩)
    refine ⟨⟨dx27, ek _ _ nk_ins ht27⟩, hn7, ⟨⟨ok2.ok.eo, wf_putP hnN en2 ok2.ok.w hsub2 hdir ok2.dir, fun h => by rw [ok2.dir] at h; cases h⟩, ok2.dir, nd7, by omega, by omega⟩⟩
  refine ⟨_, cal_of T.f_stand_of (fn_stand_of T S), _, rfl, _, rfl, _, rfl, ra, t2, p2, q ++ [nm], cs, e0, _, ds7, (_, k7), rfl, hrow7, htree7, hq.snoc hnN, by rw [List.length_append]; show _ + 1 ≤ _; omega, hsub7, fun H8 r8 e8 hr8 => ?_⟩
  obtain ⟨_, dq, wq, rq, sq, Lq, zq, xq, hqi, _⟩ := id (PassAt.ext (Ex.t e8) hpass7)
  refine ⟨_, rfl, x3, _, _, rfl, scal_of T.s_Passage_call (fn_Passage_call T), _, rfl, dq, _, hqi, x3, nm, cs, _, _, rfl, PassAt.ext (Ex.t e8) hpass7, hnN, fun H9 r9 e9 hr9 => ?_⟩
  have hst : standM cs (e0, putP k2 q nm ⟨false, m, e.owner, e.group⟩) (q ++ [nm]) = passL cs (standM cs (e0, k) q) (hallMd cs (e0, k) (e, k1) q) nm := by
    rw [← standM_snoc hsub]
    refine standM_congr fun p hp hpn => ?_
    rw [ent_put nm _ q k2 e0 p (by rw [entq]; intro z; cases z), if_neg hpn, if_neg (fun z => hpn (List.IsPrefix.eq_of_length_le hp z.length_le)), ent_eqv e0 heqv p]
  rw [hst] at hr8
  refine ⟨.tuple (numsD (passL cs (standM cs (e0, k) q) (hallMd cs (e0, k) (e, k1) q) nm)), .tuple (numsD (passL cs (standM cs (e0, k) q) (hallMd cs (e0, k) (e, k1) q) nm)), .tup (SqT.of (e9 _ _ hr8)) (dp_nums _), .tup (SqT.of hr9) (dp_nums _), (shaped_nums _).2, (shaped_nums _).2, ?_⟩
  rw [eqv_tup, decide_eq_true rfl]
  have e79 := ext e8 e9
  exact Qq _ (hpen7.ex e79) (eb7.trans e79.b)
end
end Md
/-! Md: the law. -/
namespace Md
open PySem PySem.Spec PyProof.Rows L2
/-- the grown def, with its code object and table -/
structure Gx (P : Program) (w : World) (K : PySem.W.Frag) (mg : Str → Option Value) (base : Heap) (cg Pt : Addr) : Prop where
  at_ : ∃ f, mg "_law_grown" = some (.ref f) ∧ PySem.W.keepIn K (.ref f) = true ∧ FunC K "_law_grown" "_law_grown" S__law_grown f cg
  tb : LamX.TabB base mg cg Pt
def spLaw (K : PySem.W.Frag) (Pt : Addr) : Sp := fun vs H Q _ => ∃ (a : Addr) (ns : List Int), vs = [.ref a] ∧ SqL K H a (ns.map V.int) ∧ ns.length ≤ 63 ∧ LamX.TabS H Pt grownQ ∧ ∀ H', Q (.bl true) H'
theorem cutV_last (xs : List V) (x : V) : cutV (xs ++ [x]) none (some (-1)) = xs := by
  unfold cutV
  have h1 : HT.sIx (xs ++ [x]).length (xs ++ [x]).length (some (-1)) = xs.length := by
    show (if ((-1 : Int)) < 0 then ((-1 : Int) + ((xs ++ [x]).length : Nat)).toNat else min ((-1 : Int)).toNat (xs ++ [x]).length) = _
    rw [if_pos (by decide), List.length_append]
    show ((-1 : Int) + ((xs.length + 1 : Nat) : Int)).toNat = _
    omega
  rw [h1, HT.sIx_none, List.drop_zero, Nat.sub_zero, List.take_left' rfl]
section
variable {P : Program} {w : World} {K : PySem.W.Frag} {mg : Str → Option Value} {base : Heap} {A : Ad}
theorem fn_law_law (T : Tx K mg w A) (S : Sx P K mg A) (U : Ty K A) {cg Pt : Addr} (G : Gx P w K mg base cg Pt) : ∀ f fd, Fun K "law" "law" S_law f fd → FnOk P w K mg base CX0 28 f fd ["_law_script"] (spLaw K Pt) := by
  intro f fd F
  refine F.ok sc_law (fun vs H Q E h => by obtain ⟨x, m, rfl, _⟩ := h; rfl) fun cdv Ar outer s H vs Q E hroom h => ?_
  have c : Cok (bX P w K mg base N_law "law" S_law f cdv Ar outer s H E) K mg (Fn P w K mg base) 27 := ⟨rfl, rfl, fun _ _ _ h => h, hroom⟩
  have hr := c.room
  have nd := sc_law.nd
  obtain ⟨a, ns, rfl, hsq, hnl, hT, Qq⟩ := h
  obtain ⟨fg, hgm, hgk, hgF⟩ := G.at_
  have calG : Cal K mg (Fn P w K mg base) 27 "_law_grown" (spGrown Pt grownQ) := ⟨fg, 4, hgm, hgk, fn_law_grown T G.tb fg hgF, by decide⟩
  refine ⟨_, (pss_cons (ps_set (i := 1) nd rfl (Or.inr rfl) (pe_fn c (by rfl) (pa_cons (pv 0) pa_nil)))
 (pss_cons (ps_for PassesOwn.never rfl (pi_range1 (by rfl) T.b_range (pa_cons pe_int pa_nil)) (pg_name (i := 2) nd rfl (Or.inl rfl))
 (pss_cons (ps_set (i := 3) nd rfl (Or.inr rfl) (pe_fn c (by rfl) (pa_cons (pv 1) pa_nil)))
 (pss_cons (ps_set (i := 4) nd rfl (Or.inl rfl) (pe_fn c (by rfl) (pa_cons (pv 1) (pa_cons (pv 3) (pa_cons pe_int pa_nil)))))
 (pss_cons (ps_setLc (i := 5) (own := [("_law_k", 11)]) (g := gName 11) rfl nd rfl rfl (sw_true rfl rfl rfl (by decide +kernel)) (pi_range1 (by rfl) T.b_range (pa_cons (pe_fn c (by rfl) (pa_cons (pv 1) (pa_cons pe_int pa_nil))) pa_nil)) (blkOk_by (N := N_law) (sc := defScope S_law) (by decide +kernel)) (fun _ _ _ _ _ => (pg_name (i := 11) nd rfl (Or.inl rfl))) (fun _ _ _ _ _ => pts_nil) (fun _ _ _ _ _ => (pe_fn c.b (by rfl) (pa_cons (pv 1) (pa_cons (pv 3) pa_nil)))))
 (pss_cons (ps_par (i := 6) (j := 7) rfl nd rfl rfl (by decide) rfl rfl (pa_cons (pe_fn c (by rfl) (pa_cons (pv 4) pa_nil)) (pa_cons (pe_fn c (by rfl) (pa_cons (pv 5) pa_nil)) pa_nil)) (by with_unfolding_all rfl))
 (pss_cons (ps_if (pt_cmpR (op_neD hr.units) (pe_fn c (by rfl) (pa_cons (pv 7) (pa_cons (pv 6) (pa_cons pe_str pa_nil)))) (pe_callTy (tup_C c) (by rfl) T.b_tuple (by decide +kernel) (pa_cons (pe_lc (own := [("_law_deed_here", 12)]) (g := gName 12) rfl nd (pi_listC c (pv 5)) (blkOk_by (N := N_law) (sc := defScope S_law) (by decide +kernel)) (fun _ _ _ _ _ => (pg_name (i := 12) nd rfl (Or.inl rfl))) (fun _ _ _ _ _ => pts_nil) (fun _ _ _ _ _ => pe_int)) pa_nil)) (nomark _)) (pss_one (ps_ret pe_bl)) pss_nil)
 (pss_one (ps_for PassesOwn.never rfl (pi_listC c (pv 4)) (pg_name (i := 8) nd rfl (Or.inl rfl))
 (pss_cons (ps_if (pt_cmpR op_ne (pe_ix (ix_listC c) (pv 8) pe_int (fun _ _ => rfl)) pe_str (nomark _)) (pss_cons (ps_set (i := 9) nd rfl (Or.inl rfl) (pe_split (pe_ix (ix_listC c) (pv 8) pe_int (fun _ _ => rfl)) pe_str))
 (pss_cons (ps_set (i := 10) nd rfl (Or.inl rfl) (pe_fn c (by rfl) (pa_cons (pv 7) (pa_cons (pv 6) (pa_cons (pe_joinC c pe_str (pe_slice (sl_listC c) (pv 9) po_none (po_some (pe_un un_neg pe_int)))) pa_nil)))))
 (pss_cons (ps_if (pt_cmpR (op_neD hr.units) (pe_co c (pv 10) (pa_cons (pe_ix (ix_listC c) (pv 9) (pe_un un_neg pe_int) (fun _ _ => rfl)) pa_nil)) (pe_fn c (by rfl) (pa_cons (pv 7) (pa_cons (pv 6) (pa_cons (pe_ix (ix_listC c) (pv 8) pe_int (fun _ _ => rfl)) pa_nil)))) (nomark _)) (pss_one (ps_ret pe_bl)) pss_nil)
 (pss_one (ps_if (pt_not (pt_val (pe_fn c (by rfl) (pa_cons (pv 1) (pa_cons (pv 4) (pa_cons (pv 7) (pa_cons (pv 6) (pa_cons (pv 8) pa_nil)))))))) (pss_one (ps_ret pe_bl)) pss_nil))))) pss_nil)
 (pss_one (ps_if (pt_cmpR op_eq (pe_ix (ix_listC c) (pv 8) pe_int (fun _ _ => rfl)) pe_str (nomark _)) (pss_one (ps_if (pt_not (pt_val (pe_fn c (by rfl) (pa_cons (pv 1) (pa_cons (pv 3) (pa_cons (pv 7) (pa_cons (pv 6) (pa_cons (pv 8) pa_nil)))))))) (pss_one (ps_ret pe_bl)) pss_nil)) pss_nil)))))))))))
 (pss_one (ps_ret pe_bl)))), ?_⟩
  refine ⟨_, cal_of T.f__law_pen (fn_law_pen T), _, rfl, a, ns, rfl, hsq, hnl, fun H1 G1 pn e1 hpn _ hp1 => ?_⟩
  refine ⟨4, rfl, by decide, by decide, for_it (walk_rng0 (n := 4)) (fun i σ H' => (∃ v2 v3 v4 v5 v6 v7 v8 v9 v10, σ = [some (.ref a), some (.ref pn), v2, v3, v4, v5, v6, v7, v8, v9, v10, none, none]) ∧ Pen H' pn (400 * (4 - i)) ∧ LamX.TabS H' Pt grownQ)
    ⟨⟨none, none, none, none, none, none, none, none, none, rfl⟩, hp1.pen.mono (by omega), hT.ext e1⟩ (fun _ _ _ _ _ => trivial) ?_ ?_⟩
  · rintro i x σ Ha Hb hi ⟨⟨v2, v3, v4, v5, v6, v7, v8, v9, v10, rfl⟩, hpa, hTa⟩ ⟨rfl, rfl⟩
    have hpa : Pen Hb pn (400 * (4 - (i + 1)) + 377 + 20) := hpa.mono (by omega)
    refine ⟨_, cal_of T.f__law_world (fn_law_world T), _, rfl, pn, _, _, rfl, hpa, fun H2 G2 wa us os gs nms hp2 g2 hw2 wok => ?_⟩
    have hT2 := hpa.tab hTa g2.b
    have hw2H := hw2.ex hp2.exg
    have hp2P : Pen H2 pn (400 * (4 - (i + 1)) + 277 + 100) := hp2.pen.mono (by omega)
    refine ⟨_, calG, _, rfl, _, rfl, pn, wa, _, _, us, os, gs, nms, rfl, hp2P, hw2H.ext ntH_t, wok, hT2, ntH_NT, fun H3 G3 l xs ss hp3 gex ep hT3 hl3 hal3 hok => ?_⟩
    have t23 := hp2P.tp ep
    have hw3 := hw2H.ext t23
    have hl3H := hp3.exg _ _ hl3
    have hal3H : Al (RowR H3) xs ss := hal3.mono fun p c h => hp3.exg _ _ h
    have hp3P : Pen H3 pn (400 * (4 - (i + 1)) + 276 + 1) := hp3.pen.mono (by omega)
    refine ⟨_, cal_of T.f__law_draw (fn_law_draw T), _, rfl, pn, _, _, _, rfl, hp3P, by decide, by decide, fun H4 r hp4' e4 a4 b4 => ?_⟩
    have t34 := hp3P.tb e4
    have hw4 := hw3.ext t34
    have hT4 := hp3P.tab hT3 e4
    have hp4P : Pen H4 pn (400 * (4 - (i + 1)) + 276) := hp4'.pen
    refine ⟨r, rfl, by omega, by omega, fun D hD => lc_it (walk_rng0 (n := r.toNat)) (fun i' H' => ∃ G' acc cs', PenAt G' H' pn (400 * (4 - (i + 1)) + 200 + 18 * (4 - i')) ∧ Gr pn (ntH H4) H4 G' H' ∧ G' D = none ∧ H' D = some (.lst acc) ∧ Al (DDeed G') acc cs' ∧ cs'.length = i')
      ⟨ntH H4, [], [], (PenAt.newU hp4P hD).mono (by omega), .newU hD, Ex.none ntH_sub hD, upd_same, Al.nil, rfl⟩ (fun _ _ _ _ => trivial) ?_ ?_⟩
    · rintro j x H5 H6 hj ⟨G5, acc, cs', hp5, g5, gD5, hD5, hal5, hlen5⟩ ⟨rfl, rfl⟩
      have nDp := PenAt.ne hp4P hD
      rw [show 400 * (4 - (i + 1)) + 200 + 18 * (4 - j) = 400 * (4 - (i + 1)) + 200 + 18 * (4 - (j + 1)) + 18 by omega] at hp5
      have hw5 := (hw4.ext ntH_t).ex g5.ex
      refine ⟨rfl, _, cal_of T.f__law_deed (fn_law_deed T), _, rfl, _, rfl, pn, wa, _, G5, us, os, gs, nms, rfl, hp5, hw5, wok, fun H7 G7 p c hp7 g7 hdd => ⟨acc, g7.keep hD5 nDp, zt (by have := hal5.1; omega), G7, acc ++ [.ref p], cs' ++ [c], hp7.mut (g7.out hD5 nDp gD5) nDp, (g5.trans g7).mut hD, g7.out hD5 nDp gD5, upd_same, (hal5.mono fun p' c h => DDeed.ex g7.ex h).snoc hdd, by rw [List.length_append, hlen5]; rfl⟩⟩
    rintro H5 ⟨G5, acc, cs, hp5, g5, gD5, hD5, hal5, hlen5⟩
    have nDp := PenAt.ne hp4P hD
    have hp5P : Pen H5 pn (400 * (4 - (i + 1)) + 200) := hp5.pen.mono (by omega)
    have t45 := hp4P.tb g5.b
    have hT5 := hp4P.tab hT4 g5.b
    have t35 := t34.trans t45
    have hal5H : Al (DDeed H5) acc cs := hal5.mono fun p c h => DDeed.ex hp5.exg h
    have hl5 := t35 _ _ (nt_al hal3H) hl3H
    have hrow5 : Al (RowR H5) xs ss := hal3H.mono fun p c h => t35 _ _ nt_row h
    have hw5 := hw4.ext t45
    -- the tree, the row
    obtain ⟨e0, rs, hss, hd0, he0, hl12, hcan, htr⟩ := hok.tree
    have hdr : DRows H5 xs (([], e0) :: rs.map rwP) := by
      rw [← hss]
      exact hrow5
    refine ⟨_, cal_of T.f__law_tree_so (fn_law_tree_so T S), _, rfl, l, xs, e0, rs, rfl, hl5, hdr, hd0, he0, hcan, by omega, fun H6 t pt ds e6 htree6 _ => ?_⟩
    refine ⟨_, cal_of T.f__law_row_so (fn_law_row_so T U), _, rfl, D, acc, cs, rfl, e6 _ _ hD5, hal5H.mono (fun p c h => DDeed.ex e6 h), by omega, fun H7 ra e7 hrow7 => ⟨_, _, rfl, ?_⟩⟩
    have e57 := ext e6 e7
    have htree7 := htree6.ex e7
    have hp7 := hp5P.ex e57
    have hT7 := hT5.ext e57
    -- at the top
    refine ⟨_, cal_of T.f_stand_of (fn_stand_of T S), _, rfl, _, rfl, ra, t, pt, [], cs, e0, _, ds, _, rfl, hrow7, htree7, (fun z hz => by cases hz), Nat.zero_le _, rfl, fun H8 r8 e8 hr8 => ?_⟩
    have e58 := ext e57 e8
    have hD8 := e58 _ _ hD5
    refine ⟨_, rfl, D, rfl, ⟨_, SqL.of hD8⟩, fun D2 hD2 => lc_pure (walk_list (xs := acc)) (fun _ => true) (fun _ => .int 0) hD2 (by have := hal5.1; omega) (fun H' e' => SqL.of (e' _ _ hD8)) ?_ fun H9 e9 hl9 => ?_⟩
    · rintro j z Hx Hy hj ex ⟨rfl, hz⟩ Kn Ky _ hy
      exact ⟨rfl, hy rfl _ (exr _)⟩
    have hl9' : H9 D2 = some (.lst ((standM cs (e0, treeF .nil rs) []).map V.int)) := by
      rw [gvn_all] at hl9
      rw [hl9, standM_nil, List.map_replicate, hal5.1]
      congr 2
      apply List.ext_getElem?
      intro j
      rw [List.getElem?_map, List.getElem?_replicate]
      by_cases hj : j < cs.length
      · rw [List.getElem?_range hj, if_pos hj]; rfl
      · rw [if_neg hj, List.getElem?_eq_none (by simpa using hj)]; rfl
    refine ⟨D2, _, rfl, .inl ⟨SqL.of hl9', fun l9 hl9n => ⟨.tuple (numsD (standM cs (e0, treeF .nil rs) [])), .tuple (numsD (standM cs (e0, treeF .nil rs) [])), .tup (SqT.of (exn hl9n _ _ (e9 _ _ hr8))) (dp_nums _), .tup (SqT.of upd_same) (dp_nums _), (shaped_nums _).2, (shaped_nums _).2, _, rfl, ?_⟩⟩⟩
    rw [eqv_tup, decide_eq_true rfl]
    refine iteF ?_
    have e510 := ext e58 (ext e9 (exn hl9n (o := .tup ((standM cs (e0, treeF .nil rs) []).map V.int))))
    have e710 := ext e8 (ext e9 (exn hl9n (o := .tup ((standM cs (e0, treeF .nil rs) []).map V.int))))
    generalize upd H9 l9 (.tup ((standM cs (e0, treeF .nil rs) []).map V.int)) = H10 at e510 e710 ⊢
    have hp10 := hp5P.ex e510
    have hT10 := hT5.ext e510
    have hl10 := e510 _ _ hl5
    have hrow10 := hrow7.ex e710
    have htree10 := htree7.ex e710
    have hw10 := hw5.ex e510
    have hal10 : Al (RowR H10) xs ss := hrow5.mono fun p c h => e510 _ _ h
    have hcnt : cnt (treeF .nil rs) ≤ 12 := by
      have h1 := treeF_cnt rs .nil
      have h2 : cnt Fo.nil = 0 := rfl
      omega
    have hxl := hal10.1
    have hs13 := hok.pre.len
    refine ⟨_, rfl, l, rfl, ⟨_, SqL.of hl10⟩, for_it (walk_list (xs := xs)) (fun j σ H' => (∃ v8 v9 v10, σ = [some (.ref a), some (.ref pn), some (.int (i : Nat)), some (.ref wa), some (.ref l), some (.ref D), some (.ref t), some (.ref ra), v8, v9, v10, none, none]) ∧ Pen H' pn (400 * (4 - (i + 1)) + 10 * (13 - j)) ∧ LamX.TabS H' Pt grownQ ∧ ExT H10 H')
      ⟨⟨_, _, _, rfl⟩, hp10.mono (by omega), hT10, ExT.refl⟩ (fun j σ H' _ h => SqL.of (h.2.2.2 _ _ (nt_al hal10) hl10)) ?_ ?_⟩
    · rintro j z σ Hx Hy hj ⟨⟨v8, v9, v10, rfl⟩, hpx, hTx, tx⟩ ⟨rfl, hz⟩
      have hj2 : j < ss.length := by omega
      obtain ⟨p, hp1, hpr⟩ := hal10.2 j ss[j] (List.getElem?_eq_getElem hj2)
      rw [hp1] at hz
      cases hz
      have hmem : (ss[j].1, ss[j].2) ∈ ss := List.getElem_mem hj2
      have hpr2 : H10 p = some (.lst (DRowL ss[j].1 ss[j].2)) := hpr
      generalize ss[j].1 = q at hmem hpr2
      generalize ss[j].2 = e at hmem hpr2
      have okq : Nms q ∧ EnOk e ∧ q.length ≤ 14 := hok.pre.ok _ hmem
      obtain ⟨k1, hsub⟩ := ent_sub ((htr q e).mpr hmem)
      have hpy := tx _ _ nt_row hpr2
      have hly := tx _ _ (nt_al hal10) hl10
      have haly : Al (RowR Hy) xs ss := hal10.mono fun p c h => tx _ _ nt_row h
      have hrowy := hrow10.ext tx
      have htreey := htree10.ext tx
      have hpy' : Pen Hy pn (400 * (4 - (i + 1)) + 10 * (13 - (j + 1)) + 4 + 6) := hpx.mono (by omega)
      have hlq := pth_len okq.1
      refine ⟨_, rfl, p, _, 0, _, rfl, rfl, SqL.of hpy, rfl, rfl, _, rfl, ?_⟩
      rw [pth_eq_nil okq.1]
      by_cases hq0 : q = []
      case' pos =>
        rw [decide_eq_true hq0]
        refine iteF ?_
        have hpz : Pen Hy pn (400 * (4 - (i + 1)) + 10 * (13 - (j + 1)) + 4) := hpy'.mono (by omega)
        have hTz := hTx
        have tz := tx
        have hpz1 := hpy
      case' neg =>
        obtain ⟨ab, nm, hqe⟩ : ∃ ab nm, q = ab ++ [nm] := by
          rcases List.eq_nil_or_concat q with h | ⟨ab, nm, h⟩
          · exact absurd h hq0
          · exact ⟨ab, nm, by rw [h, List.concat_eq_append]⟩
        obtain ⟨e', hme', hde'⟩ := hok.pre.cl (q, e) hmem ab nm hqe
        obtain ⟨k2, hsub2⟩ := ent_sub ((htr ab e').mpr hme')
        have hab : Nms ab := fun z hz => okq.1 z (by rw [hqe]; exact List.mem_append_left _ hz)
        have hnm : Nm nm := okq.1 nm (by rw [hqe]; simp)
        have hab14 : ab.length ≤ 14 := by
          have h1 := congrArg List.length hqe
          rw [List.length_append] at h1
          have := okq.2.2
          omega
        have hq14 := okq.2.2
        rw [decide_eq_false hq0]
        refine iteT ⟨_, rfl, p, _, 0, _, rfl, rfl, SqL.of hpy, rfl, ⟨_, rfl⟩, _, _, rfl, rfl, by decide +kernel, zl (by omega), ?_⟩
        rw [split_pth hq0 okq.1]
        intro L hL
        have eL : Ex Hy (upd Hy L (.lst (q.map V.str))) := exn hL
        have hLs : upd Hy L (.lst (q.map V.str)) L = some (.lst (q.map V.str)) := upd_same
        generalize upd Hy L (.lst (q.map V.str)) = H11 at eL hLs ⊢
        refine ⟨_, cal_of T.f__law_hall (fn_law_hall T S), _, rfl, _, rfl, ⟨_, rfl⟩, _, rfl, _, rfl, _, rfl, L, _, rfl, SqL.of hLs, ?_⟩
        have hcut : cutV (q.map V.str) none (some (-1)) = ab.map V.str := by rw [hqe, List.map_append]; exact cutV_last _ _
        rw [show (some (-(1 : Int))) = some (-1) from rfl, hcut]
        intro L2 hL2
        have hsum : (ab.map (·.length)).sum + ab.length * ("/" : Str).length ≤ 16777216 := by
          rw [show ("/" : Str).length = 1 by decide +kernel]
          have : (ab.map (·.length)).sum ≤ 8 * ab.length := by
            clear hcut hab14 hsub2 hme' hqe
            induction ab with
            | nil => exact Nat.zero_le _
            | cons n r ih =>
              have a := (hab n (List.mem_cons_self ..)).2.1
              have b := ih fun m hm => hab m (List.mem_cons_of_mem _ hm)
              simp only [List.map_cons, List.sum_cons, List.length_cons]
              omega
          omega
        have e12 : Ex Hy (upd H11 L2 (.lst (ab.map V.str))) := ext eL (exn hL2)
        refine ⟨_, L2, ab, rfl, rfl, .inl (SqL.of upd_same), hsum, ?_⟩
        refine ⟨ra, t, pt, ab, cs, e0, treeF .nil rs, ds, (e', k2), by rw [TL.join_eq]; rfl, hrowy.ex e12, htreey.ex e12, hab, by omega, hsub2, fun H13 xh e13 hpass => ?_⟩
        have e1y := ext e12 e13
        have hL13 : H13 L = some (.lst (q.map V.str)) := e13 _ _ (exn hL2 _ _ hLs)
        obtain ⟨_, dq, wq, rq, sq, Lq, zq, xq, hqi, _⟩ := id hpass
        refine ⟨_, rfl, xh, _, _, rfl, scal_of T.s_Passage_call (fn_Passage_call T), _, rfl, _, rfl, L, _, _, V.str nm, rfl, rfl, SqL.of hL13, by rw [hqe, List.map_append]; exact atI_last _ _, dq, _, hqi, xh, nm, cs, _, _, rfl, hpass, hnm, fun H14 r14 e14 hr14 => ?_⟩
        have e2y := ext e1y e14
        refine ⟨_, cal_of T.f_stand_of (fn_stand_of T S), _, rfl, _, rfl, _, rfl, p, _, 0, _, rfl, rfl, SqL.of (e2y _ _ hpy), rfl, ra, t, pt, q, cs, e0, treeF .nil rs, ds, (e, k1), rfl, hrowy.ex e2y, htreey.ex e2y, okq.1, by omega, hsub, fun H15 r15 e15 hr15 => ?_⟩
        have hst : standM cs (e0, treeF .nil rs) q = passL cs (standM cs (e0, treeF .nil rs) ab) (hallMd cs (e0, treeF .nil rs) (e', k2) ab) nm := by rw [hqe]; exact standM_snoc hsub2
        rw [← hst] at hr14
        refine ⟨.tuple (numsD (standM cs (e0, treeF .nil rs) q)), .tuple (numsD (standM cs (e0, treeF .nil rs) q)), .tup (SqT.of (e15 _ _ hr14)) (dp_nums _), .tup (SqT.of hr15) (dp_nums _), (shaped_nums _).2, (shaped_nums _).2, _, rfl, ?_⟩
        rw [eqv_tup, decide_eq_true rfl]
        have e3y := ext e2y e15
        refine iteF ⟨_, cal_of T.f__law_alone_right (fn_law_alone_right T S), _, rfl, _, rfl, _, rfl, _, rfl, _, rfl, pn, l, ra, t, p, pt, _, xs, ss, cs, e0, treeF .nil rs, ds, q, e, rfl, hpy'.ex e3y, e3y _ _ hly, haly.mono (fun p c h => e3y _ _ h), hok, hrowy.ex e3y, htreey.ex e3y, htr, e3y _ _ hpy, hmem, hq0, fun Hz hpz ez => ⟨_, rfl, iteF ?_⟩⟩
        have hTz := (hpy'.ex e3y).tab (hTx.ext e3y) ez
        have tz := tx.trans ((Ex.t e3y).trans ((hpy'.ex e3y).tb ez))
        have hpz1 := tz _ _ nt_row hpr2
      all_goals
        refine ⟨_, rfl, p, _, 1, _, rfl, rfl, SqL.of hpz1, rfl, rfl, _, rfl, ?_⟩
        cases hdr : e.dir with
        | true =>
          have hf : V.str (formS e.dir) = V.str "folder" := by rw [hdr]; rfl
          rw [show formS true = formS e.dir by rw [hdr], decide_eq_true hf]
          refine iteT ⟨_, cal_of T.f__law_more_right (fn_law_more_right T S), _, rfl, _, rfl, _, rfl, _, rfl, _, rfl, pn, wa, ra, t, p, pt, _, us, os, gs, nms, cs, e0, treeF .nil rs, ds, q, e, k1, rfl, hpz, hw10.ext tz, wok, hrow10.ext tz, htree10.ext tz, hcnt, hsub, hdr, okq.1, okq.2.1, okq.2.2, hpz1, fun Hw hpw ew => ⟨_, rfl, iteF ?_⟩⟩
          exact ⟨⟨_, _, _, rfl⟩, hpw, hpz.tab hTz ew, tz.trans (hpz.tb ew)⟩
        | false =>
          have hf : ¬ V.str (formS e.dir) = V.str "folder" := by rw [hdr]; decide
          rw [show formS false = formS e.dir by rw [hdr], decide_eq_false hf]
          exact iteF ⟨⟨_, _, _, rfl⟩, hpz.mono (by omega), hTz, tz⟩
    · rintro σ Hx ⟨⟨v8, v9, v10, rfl⟩, hpx, hTx, tx⟩
      exact ⟨⟨_, _, _, _, _, _, _, _, _, rfl⟩, hpx.mono (by omega), hTx⟩
  · rintro σ Hx _
    exact Qq _
end
end Md
/-! Md: the end: what is told, the law walked over it. -/
namespace Md
open PySem PySem.Spec PyProof.Rows L2
open PySem.W (Frag)
structure ToldM (w : World) (h : Heap) (K : Frag) : Prop where
  t : Told0 w K
  hd : PySem.W.codeHdIn K (cg K) (Pg K) = true
  out : K.lookup (Pg K) = none
  empty : h.get? (Pg K) = some { cls := .none, data := .fields #[] }
abbrev AlE : Type := (Bool × List FV) × (Bool × List (Option (List (Option (Str × Int)))))
def obK (g : Addr → Option Obj) (K : Frag) : AlE := ((o1 K, o2 K), o3 g K)
def vlK (w : World) : AlE := ((true, v2), v3 w)
theorem told_of {w : World} {h : Heap} (e : obK h.get? (partG h.get?) = vlK w) : ToldM w h (partG h.get?) := by
  have e1 : o1 (partG h.get?) = true := congrArg (fun z : AlE => z.1.1) e
  have e2 : o2 (partG h.get?) = v2 := congrArg (fun z : AlE => z.1.2) e
  have e3 : o3 h.get? (partG h.get?) = v3 w := congrArg (fun z : AlE => z.2) e
  have e5 : (tabOkB h.get? (partG h.get?) && fds.all fun d => d.ok (partG h.get?)) = true := congrArg Prod.fst e3
  have e4 := (He.ba e5).1
  obtain ⟨h1, h2⟩ := He.ba e4
  have hP : ∃ o, h.get? (Pg (partG h.get?)) = some o ∧ He.emptyTab o = true := by
    cases q : h.get? (Pg (partG h.get?)) with
    | none => rw [q] at h2; cases h2
    | some o => rw [q] at h2; exact ⟨o, rfl, h2⟩
  obtain ⟨o, ho, ht⟩ := hP
  refine ⟨⟨fun φ hφ => List.all_eq_true.mp e1 φ hφ, fun d hd => List.all_eq_true.mp (He.ba e5).2 d hd, e2, congrArg Prod.snd e3⟩, h1, ?_, by rw [ho, He.emptyTab_eq ht]⟩
  cases q : (partG h.get?).lookup (Pg (partG h.get?)) with
  | none => rfl
  | some u =>
    obtain ⟨q1, q2⟩ := partG_at q
    rw [ho] at q1
    rw [← Option.some.inj q1, ht] at q2
    cases q2
def hkM : PySem.W.Hook where
  α := AlE
  obs := fun s => obK s.heap.get? (partG s.heap.get?)
  val := fun w => vlK w
  says := fun w h => ∃ K : Frag, K.In h ∧ ToldM w h K
  of := fun _ _ e => ⟨_, fun _ _ q => (partG_at q).1, told_of e⟩
  keeps := fun _ _ _ ⟨K, hK, c⟩ k => ⟨K, PySem.W.Frag.In.keeps hK k, ⟨c.t, c.hd, c.out, k _ _ c.empty⟩⟩
def obM (s : PySem.W.SharedT) : AlE := ((partK (HandSHeadRun.getT s) o1, partK (HandSHeadRun.getT s) o2), partK (HandSHeadRun.getT s) (o3 (HandSHeadRun.getT s)))
theorem obM_eq (s : PySem.W.SharedT) : obM s = hkM.obs s.abs := by
  have e : HandSHeadRun.getT s = s.abs.heap.get? := funext (HandSHeadRun.getT_eq s)
  unfold obM
  rw [partK_eq, partK_eq, partK_eq, e]
  rfl
theorem pair_of {α β γ : Type} {x : Option α} {f : α → β} {g : α → γ} {a : β} {b : γ} (h1 : x.map f = some a) (h2 : x.map g = some b) : x.map (fun s => (f s, g s)) = some (a, b) := by
  cases x with
  | none => cases h1
  | some s =>
    have e1 := Option.some.inj h1
    have e2 := Option.some.inj h2
    show some (f s, g s) = _
    rw [e1, e2]
theorem law_facts {w : World} {K : Frag} {h : Heap} {mg : Str → Option Value} {fa : Addr} (X : K.In h) (G : h.Ns mainGlobals mg) (hfa : mg ("law" : Str) = some (.ref fa)) (c : ToldM w h K) :
    LamX.LawAtS PySem.Challenge.rw_modesdown_k32_whole_children_by_the_fold w K CX0 28 63 "_law_script" mg fa h := by
  obtain ⟨hl, fd, F⟩ := law_at c.t X G
  have e := hfa.symm.trans hl
  cases e
  have T := tx_of c.t X G
  have S := sx_of c.t X G
  have U := ty_of c.t X G
  obtain ⟨g1, g2, g3⟩ := grown_at c.t X G
  refine ⟨fd, [(cg K, Pg K)], spLaw K (Pg K), fun p hp => ?_, fun p hp => ?_, fun p hp => ?_, ?_, fun H a ns hl _ hT hS => ?_, fun base hK hG hB => ?_⟩
  · rw [List.mem_singleton.mp hp]
    exact c.empty
  · rw [List.mem_singleton.mp hp]
    exact c.out
  · rw [List.mem_singleton.mp hp]
    exact PySem.W.codeHd_of_K X c.hd
  · intro s u
    obtain ⟨oc, od, kV, doc, pm, an, cdv, ct, osl, rfl, lk, hcd⟩ := F.ex
    exact .of_eq rfl
  · exact ⟨a, ns, rfl, hS, hl, LamX.TabS.nil (hT _ (List.mem_singleton.mpr rfl)), fun _ => rfl⟩
  · exact fn_law_law T S U ⟨⟨_, g1, g2, g3⟩, hB _ (List.mem_singleton.mpr rfl)⟩ _ _ F
end Md
/-! Md: the run's equation at each world. -/
namespace Md
open PySem PySem.Spec PyProof.Rows L2
theorem fst_of {α β γ : Type} {x : Option α} {f : α → β} {g : α → γ} {a : β} {b : γ} (h : x.map (fun s => (f s, g s)) = some (a, b)) : x.map f = some a := by
  cases x with
  | none => cases h
  | some s => exact congrArg (Option.map Prod.fst) h
theorem snd_of {α β γ : Type} {x : Option α} {f : α → β} {g : α → γ} {a : β} {b : γ} (h : x.map (fun s => (f s, g s)) = some (a, b)) : x.map g = some b := by
  cases x with
  | none => cases h
  | some s => exact congrArg (Option.map Prod.snd) h
theorem run_all (w : World) : HandSHeadRun.RunEq R qv hkM obM 100000 topNames w :=
  PySem.W.byRow2 "special-get-raises" (P := fun w => HandSHeadRun.RunEq R qv hkM obM 100000 topNames w)
    (fun w os => pair_of (fst_of (rab_f w os)) (pair_of (snd_of (rab_f w os)) (pair_of (pair_of (r1_f w os) (fst_of (r23_f w os))) (snd_of (r23_f w os)))))
    (fun w os => pair_of (fst_of (rab_t w os)) (pair_of (snd_of (rab_t w os)) (pair_of (pair_of (r1_t w os) (fst_of (r23_t w os))) (snd_of (r23_t w os))))) w
end Md
open PySem PySem.W PySem.Calls PyProof.Rows
theorem PySem.Challenge.cw_modesdown_k32_whole_children_by_the_fold_holds : PySem.Challenge.rw_modesdown_k32_whole_children_by_the_fold.Holds := by
  w_on; o_law
  refine HandSHeadRun.head_any (r := OpenLaw.row PySem.Challenge.rw_modesdown_k32_whole_children_by_the_fold) (q := Md.qv) (H := Md.hkM) (ob := Md.obM) (M := 100000) (loose := Md.topNames) (d := HandSHeadRun.topDef Md.R.prog 105) (kwd := []) Md.obM_eq
    (by kernel_rfl) (fun s => by kernel_rfl) Md.run_all (by kernel_rfl) (by kernel_rfl) (by kernel_rfl) (by rfl) (by first | assumption | decide +kernel) (by decide +kernel) ⟨rfl, rfl, rfl, rfl, rfl, by decide +kernel⟩ ?hw ?hc
  case hw => w_witness2
  case hc =>
    refine LamX.walk_ofTsE (l := PySem.Challenge.rw_modesdown_k32_whole_children_by_the_fold) (n := 63) (k := 28) (x := "_law_script") (CX := fun _ => L2.CX0) rfl (by decide) (by kernel_rfl) ⟨rfl, by decide, by decide⟩ ?F (fun _ _ _ _ _ z => z)
    intro w mg fa h Y G hmg0
    obtain ⟨K, KX, c⟩ := Y
    have hmg : mg ("law" : PySem.Str) = some (.ref fa) := by
      have e : (HandSHeadRun.topDef Md.R.prog 105).name = ("law" : PySem.Str) := by kernel_rfl
      rw [← e]
      exact hmg0
    exact ⟨K, KX, Md.law_facts KX G hmg c⟩
